import PyProof.Rows.All
import Wide.All
import OpenK.AllK
import Wide.FinOn
import HandS.ForMost
import HandS.Codes
import HandS.Wide
import HandS.SortInts
import HandS.Conv
import HandS.IsInst
import HandS.Defaults
import HandS.Head0
import HandS.Head1
import HandS.Head2
import HandS.HeadEnd
import HandS.HeadHook1
import HandS.HeadHook2
import HandS.Zip
import HandS.Exc
import HandS.TryOnly
import HandS.ExcOwn
import HandS.WordsExc
import HandS.ExcInit
import HandS.ExcIs
import HandS.ExcField
import HandS.Style
import HandS.TupAny
import HandS.More
import PySem.Challenge.RW_deskpairs_k41_services_add_up
set_option Elab.async false
set_option linter.all false
set_option maxRecDepth 100000
namespace Dy
open PySem PySem.Spec PyProof.Rows L2

structure S where
  F : Hp
  H : Hp
  sub : ∀ a o, F a = some o → H a = some o
abbrev Fle (F F' : Hp) : Prop := ∀ a o, F a = some o → F' a = some o
theorem Fle.refl (F : Hp) : Fle F F := fun _ _ h => h
theorem Fle.trans {F G I : Hp} (a : Fle F G) (b : Fle G I) : Fle F I := fun x o h => b x o (a x o h)
structure Ex (s t : S) : Prop where
  f : Fle s.F t.F
  h : ∀ a o, s.H a = some o → t.H a = some o
  n : ∀ a o, s.H a = some o → s.F a = none → t.F a = none
theorem Ex.refl (s : S) : Ex s s := ⟨fun _ _ h => h, fun _ _ h => h, fun _ _ _ h => h⟩
theorem Ex.trans {s t u : S} (a : Ex s t) (b : Ex t u) : Ex s u :=
  ⟨fun x o h => b.f x o (a.f x o h), fun x o h => b.h x o (a.h x o h), fun x o h n => b.n x o (a.h x o h) (a.n x o h n)⟩
theorem fr_back {s t : S} (e : Ex s t) {p : Addr} (h : t.H p = none) : s.H p = none := by
  cases q : s.H p with
  | none => rfl
  | some o => rw [e.h p o q] at h; cases h
theorem fF {s : S} {p : Addr} (h : s.H p = none) : s.F p = none := by
  cases q : s.F p with
  | none => rfl
  | some o => rw [s.sub p o q] at h; cases h
def S.newF (s : S) (p : Addr) (o : HO) (h : s.H p = none) : S := ⟨upd s.F p o, upd s.H p o, fun a u q => by
  unfold upd at q ⊢
  split
  · rename_i e; rw [if_pos e] at q; exact q
  · rename_i e; rw [if_neg e] at q; exact s.sub a u q⟩
def S.newO (s : S) (p : Addr) (o : HO) (h : s.H p = none) : S := ⟨s.F, upd s.H p o, fun a u q => by
  rw [upd_ne (ne_of_none (s.sub a u q) h)]; exact s.sub a u q⟩
def S.put (s : S) (p : Addr) (o : HO) (h : s.F p = none) : S := ⟨s.F, upd s.H p o, fun a u q => by
  rw [upd_ne (ne_of_none q h)]; exact s.sub a u q⟩
theorem Ex.newF {s : S} {p : Addr} {o : HO} (h : s.H p = none) : Ex s (s.newF p o h) :=
  ⟨fun a u q => by show upd s.F p o a = some u; rw [upd_ne (ne_of_none (s.sub a u q) h)]; exact q,
   fun a u q => by show upd s.H p o a = some u; rw [upd_ne (ne_of_none q h)]; exact q,
   fun a u q n => by show upd s.F p o a = none; rw [upd_ne (ne_of_none q h)]; exact n⟩
theorem Ex.newO {s : S} {p : Addr} {o : HO} (h : s.H p = none) : Ex s (s.newO p o h) :=
  ⟨fun a u q => q, fun a u q => by show upd s.H p o a = some u; rw [upd_ne (ne_of_none q h)]; exact q, fun a u q n => n⟩
structure Mx (P : Addr → Prop) (s t : S) : Prop where
  f : Fle s.F t.F
  h : ∀ a o, s.H a = some o → ¬ P a → t.H a = some o
  n : ∀ a o, s.H a = some o → s.F a = none → t.F a = none
  d : ∀ a o, s.H a = some o → ∃ u, t.H a = some u
theorem Ex.mx {P : Addr → Prop} {s t : S} (e : Ex s t) : Mx P s t := ⟨e.f, fun a o h _ => e.h a o h, e.n, fun a o h => ⟨o, e.h a o h⟩⟩
theorem Mx.trans {P : Addr → Prop} {s t u : S} (a : Mx P s t) (b : Mx P t u) : Mx P s u :=
  ⟨fun x o h => b.f x o (a.f x o h), fun x o h n => b.h x o (a.h x o h n) n,
   fun x o h n => by obtain ⟨v, hv⟩ := a.d x o h; exact b.n x v hv (a.n x o h n),
   fun x o h => by obtain ⟨v, hv⟩ := a.d x o h; exact b.d x v hv⟩
theorem Mx.put {s : S} {p : Addr} {o : HO} (h : s.F p = none) : Mx (· = p) s (s.put p o h) :=
  ⟨fun a u q => q, fun a u q n => by show upd s.H p o a = some u; rw [upd_ne n]; exact q, fun a u q n => n,
   fun a u q => by
    by_cases e : a = p
    · exact ⟨o, by rw [e]; exact upd_same⟩
    · exact ⟨u, by show upd s.H p o a = some u; rw [upd_ne e]; exact q⟩⟩
theorem Mx.fr_back {P : Addr → Prop} {s t : S} (e : Mx P s t) {p : Addr} (h : t.H p = none) : s.H p = none := by
  cases q : s.H p with
  | none => rfl
  | some o => obtain ⟨u, z⟩ := e.d p o q; rw [z] at h; cases h
theorem Ex.mu {s t u : S} {P : Addr → Prop} (a : Ex s t) (b : Mx P t u) (h : ∀ p, P p → s.H p = none) : Ex s u :=
  ⟨fun x o q => b.f x o (a.f x o q), fun x o q => b.h x o (a.h x o q) fun z => (by rw [h x z] at q; cases q), fun x o q n => b.n x o (a.h x o q) (a.n x o q n)⟩
theorem Ex.mu1 {s t u : S} {p : Addr} (a : Ex s t) (b : Mx (· = p) t u) (h : s.H p = none) : Ex s u := a.mu b fun _ e => e ▸ h

class Enc (α : Type) where
  rep : PySem.W.Frag → Hp → V → α → Prop
  mono : ∀ {K : PySem.W.Frag} {F F' : Hp} {v : V} {x : α}, Fle F F' → rep K F v x → rep K F' v x
open Enc (rep)
def Reps {α : Type} [Enc α] (K : PySem.W.Frag) (F : Hp) : List V → List α → Prop
  | [], [] => True
  | v :: vs, x :: xs => rep K F v x ∧ Reps K F vs xs
  | _, _ => False
section
variable {α β : Type} [Enc α] [Enc β] {K : PySem.W.Frag} {F F' : Hp}
theorem Reps.mono (e : Fle F F') : ∀ {vs : List V} {xs : List α}, Reps K F vs xs → Reps K F' vs xs
  | [], [], _ => trivial
  | _ :: _, _ :: _, ⟨h, t⟩ => ⟨Enc.mono e h, Reps.mono e t⟩
  | [], _ :: _, h => h.elim
  | _ :: _, [], h => h.elim
theorem Reps.len : ∀ {vs : List V} {xs : List α}, Reps K F vs xs → vs.length = xs.length
  | [], [], _ => rfl
  | _ :: _, _ :: _, ⟨_, t⟩ => congrArg (· + 1) (Reps.len t)
  | [], _ :: _, h => h.elim
  | _ :: _, [], h => h.elim
theorem Reps.get : ∀ {vs : List V} {xs : List α} {i : Nat} {x : α}, Reps K F vs xs → xs[i]? = some x → ∃ v, vs[i]? = some v ∧ rep K F v x
  | [], [], _, _, _, e => by simp at e
  | v :: _, y :: _, 0, x, ⟨h, _⟩, e => by
    have : y = x := Option.some.inj e
    subst this
    exact ⟨v, rfl, h⟩
  | _ :: vs, _ :: xs, i + 1, x, ⟨_, t⟩, e => by
    obtain ⟨v, h1, h2⟩ := Reps.get (i := i) t (by simpa using e)
    exact ⟨v, by simpa using h1, h2⟩
  | [], _ :: _, _, _, h, _ => h.elim
  | _ :: _, [], _, _, h, _ => h.elim
theorem Reps.get' : ∀ {vs : List V} {xs : List α} {i : Nat} {v : V}, Reps K F vs xs → vs[i]? = some v → ∃ x, xs[i]? = some x ∧ rep K F v x
  | [], [], _, _, _, e => by simp at e
  | v :: _, y :: _, 0, w, ⟨h, _⟩, e => by
    have : v = w := Option.some.inj e
    subst this
    exact ⟨y, rfl, h⟩
  | _ :: vs, _ :: xs, i + 1, w, ⟨_, t⟩, e => by
    obtain ⟨x, h1, h2⟩ := Reps.get' (i := i) t (by simpa using e)
    exact ⟨x, by simpa using h1, h2⟩
  | [], _ :: _, _, _, h, _ => h.elim
  | _ :: _, [], _, _, h, _ => h.elim
theorem Reps.app : ∀ {vs ws : List V} {xs ys : List α}, Reps K F vs xs → Reps K F ws ys → Reps K F (vs ++ ws) (xs ++ ys)
  | [], _, [], _, _, t => t
  | _ :: _, _, _ :: _, _, ⟨h, t⟩, u => ⟨h, Reps.app t u⟩
  | [], _, _ :: _, _, h, _ => h.elim
  | _ :: _, _, [], _, h, _ => h.elim
theorem Reps.snoc {vs : List V} {xs : List α} {v : V} {x : α} (h : Reps K F vs xs) (r : rep K F v x) : Reps K F (vs ++ [v]) (xs ++ [x]) := h.app ⟨r, trivial⟩
theorem Reps.take : ∀ {vs : List V} {xs : List α} (n : Nat), Reps K F vs xs → Reps K F (vs.take n) (xs.take n)
  | _, _, 0, _ => by rw [List.take_zero, List.take_zero]; trivial
  | [], [], _ + 1, _ => trivial
  | _ :: _, _ :: _, n + 1, ⟨h, t⟩ => ⟨h, Reps.take n t⟩
  | [], _ :: _, _ + 1, h => h.elim
  | _ :: _, [], _ + 1, h => h.elim
theorem Reps.drop : ∀ {vs : List V} {xs : List α} (n : Nat), Reps K F vs xs → Reps K F (vs.drop n) (xs.drop n)
  | _, _, 0, h => h
  | [], [], _ + 1, _ => trivial
  | _ :: _, _ :: _, n + 1, ⟨_, t⟩ => Reps.drop n t
  | [], _ :: _, _ + 1, h => h.elim
  | _ :: _, [], _ + 1, h => h.elim
theorem Reps.set : ∀ {vs : List V} {xs : List α} {v : V} {x : α} (i : Nat), Reps K F vs xs → rep K F v x → Reps K F (vs.set i v) (xs.set i x)
  | [], [], _, _, _, _, _ => trivial
  | _ :: _, _ :: _, _, _, 0, ⟨_, t⟩, r => ⟨r, t⟩
  | _ :: _, _ :: _, _, _, i + 1, ⟨h, t⟩, r => ⟨h, Reps.set i t r⟩
  | [], _ :: _, _, _, _, h, _ => h.elim
  | _ :: _, [], _, _, _, h, _ => h.elim
theorem Reps.erase : ∀ {vs : List V} {xs : List α} (i : Nat), Reps K F vs xs → Reps K F (vs.eraseIdx i) (xs.eraseIdx i)
  | [], [], _, _ => trivial
  | _ :: _, _ :: _, 0, ⟨_, t⟩ => t
  | _ :: _, _ :: _, i + 1, ⟨h, t⟩ => ⟨h, Reps.erase i t⟩
  | [], _ :: _, _, h => h.elim
  | _ :: _, [], _, h => h.elim
theorem Reps.rev : ∀ {vs : List V} {xs : List α}, Reps K F vs xs → Reps K F vs.reverse xs.reverse
  | [], [], _ => trivial
  | _ :: _, _ :: _, ⟨h, t⟩ => by rw [List.reverse_cons, List.reverse_cons]; exact (Reps.rev t).snoc h
  | [], _ :: _, h => h.elim
  | _ :: _, [], h => h.elim
theorem Reps.mem : ∀ {vs : List V} {xs : List α} {x : α}, Reps K F vs xs → x ∈ xs → ∃ v, v ∈ vs ∧ rep K F v x
  | v :: _, y :: _, x, ⟨h, t⟩, e => by
    rcases List.mem_cons.mp e with rfl | e
    · exact ⟨v, List.mem_cons_self, h⟩
    · obtain ⟨w, a, b⟩ := Reps.mem t e
      exact ⟨w, List.mem_cons_of_mem _ a, b⟩
  | [], _ :: _, _, h, _ => h.elim
theorem Reps.repl {v : V} {x : α} (r : rep K F v x) : ∀ n : Nat, Reps K F (List.replicate n v) (List.replicate n x)
  | 0 => trivial
  | n + 1 => ⟨r, Reps.repl r n⟩
end
instance : Enc Int := ⟨fun _ _ v x => v = .int x, fun _ h => h⟩
instance : Enc Bool := ⟨fun _ _ v x => v = .bl x, fun _ h => h⟩
instance : Enc Str := ⟨fun _ _ v x => v = .str x, fun _ h => h⟩
instance : Enc Unit := ⟨fun _ _ v _ => v = .non, fun _ h => h⟩
class Opn (α : Type) extends Enc α where
  notNon : ∀ {K : PySem.W.Frag} {F : Hp} {x : α}, ¬ rep K F .non x
instance : Opn Int := ⟨fun {K F x} h => nomatch (show V.non = V.int x from h)⟩
instance : Opn Str := ⟨fun {K F x} h => nomatch (show V.non = V.str x from h)⟩
instance : Opn Bool := ⟨fun {K F x} h => nomatch (show V.non = V.bl x from h)⟩
instance {α : Type} [Enc α] : Enc (Option α) := ⟨fun K F v x => match x with | none => v = .non | some y => rep K F v y, fun {K F F' v x} e h => by
  cases x with
  | none => exact h
  | some y => exact Enc.mono (α := α) e h⟩
theorem sql_mono {K : PySem.W.Frag} {F F' : Hp} {a : Addr} {vs : List V} (e : Fle F F') (h : SqL K F a vs) : SqL K F' a vs := by
  rcases h with (h | ⟨o, h⟩) | h
  · exact .inl (.inl (e _ _ h))
  · exact .inl (.inr ⟨o, e _ _ h⟩)
  · exact .inr h
theorem sqt_mono {K : PySem.W.Frag} {F F' : Hp} {a : Addr} {vs : List V} (e : Fle F F') (h : SqT K F a vs) : SqT K F' a vs := by
  rcases h with (h | ⟨o, h⟩) | h
  · exact .inl (.inl (e _ _ h))
  · exact .inl (.inr ⟨o, e _ _ h⟩)
  · exact .inr h
def RepL {α : Type} [Enc α] (K : PySem.W.Frag) (F : Hp) (v : V) (xs : List α) : Prop := ∃ a vs, v = .ref a ∧ SqL K F a vs ∧ Reps K F vs xs
instance {α : Type} [Enc α] : Enc (List α) := ⟨RepL, fun e h => by
  obtain ⟨a, vs, rfl, h1, h2⟩ := h
  exact ⟨a, vs, rfl, sql_mono e h1, h2.mono e⟩⟩
structure T1 (α : Type) where
  a : α
deriving DecidableEq
structure T3 (α β γ : Type) where
  a : α
  b : β
  c : γ
deriving DecidableEq
structure T4 (α β γ δ : Type) where
  a : α
  b : β
  c : γ
  d : δ
deriving DecidableEq
structure T5 (α β γ δ ε : Type) where
  a : α
  b : β
  c : γ
  d : δ
  e : ε
deriving DecidableEq
structure Tu (α : Type) where
  l : List α
deriving DecidableEq
instance {α β : Type} [Enc α] [Enc β] : Enc (α × β) := ⟨fun K F v x => ∃ p v1 v2, v = .ref p ∧ SqT K F p [v1, v2] ∧ rep K F v1 x.1 ∧ rep K F v2 x.2, fun e h => by
  obtain ⟨p, v1, v2, rfl, h0, h1, h2⟩ := h
  exact ⟨p, v1, v2, rfl, sqt_mono e h0, Enc.mono e h1, Enc.mono e h2⟩⟩
instance {α : Type} [Enc α] : Enc (T1 α) := ⟨fun K F v x => ∃ p v1, v = .ref p ∧ SqT K F p [v1] ∧ rep K F v1 x.a, fun e h => by
  obtain ⟨p, v1, rfl, h0, h1⟩ := h
  exact ⟨p, v1, rfl, sqt_mono e h0, Enc.mono e h1⟩⟩
instance {α β γ : Type} [Enc α] [Enc β] [Enc γ] : Enc (T3 α β γ) := ⟨fun K F v x => ∃ p v1 v2 v3, v = .ref p ∧ SqT K F p [v1, v2, v3] ∧ rep K F v1 x.a ∧ rep K F v2 x.b ∧ rep K F v3 x.c, fun e h => by
  obtain ⟨p, v1, v2, v3, rfl, h0, h1, h2, h3⟩ := h
  exact ⟨p, v1, v2, v3, rfl, sqt_mono e h0, Enc.mono e h1, Enc.mono e h2, Enc.mono e h3⟩⟩
instance {α β γ δ : Type} [Enc α] [Enc β] [Enc γ] [Enc δ] : Enc (T4 α β γ δ) := ⟨fun K F v x => ∃ p v1 v2 v3 v4, v = .ref p ∧ SqT K F p [v1, v2, v3, v4] ∧ rep K F v1 x.a ∧ rep K F v2 x.b ∧ rep K F v3 x.c ∧ rep K F v4 x.d, fun e h => by
  obtain ⟨p, v1, v2, v3, v4, rfl, h0, h1, h2, h3, h4⟩ := h
  exact ⟨p, v1, v2, v3, v4, rfl, sqt_mono e h0, Enc.mono e h1, Enc.mono e h2, Enc.mono e h3, Enc.mono e h4⟩⟩
instance {α β γ δ ε : Type} [Enc α] [Enc β] [Enc γ] [Enc δ] [Enc ε] : Enc (T5 α β γ δ ε) := ⟨fun K F v x => ∃ p v1 v2 v3 v4 v5, v = .ref p ∧ SqT K F p [v1, v2, v3, v4, v5] ∧ rep K F v1 x.a ∧ rep K F v2 x.b ∧ rep K F v3 x.c ∧ rep K F v4 x.d ∧ rep K F v5 x.e, fun e h => by
  obtain ⟨p, v1, v2, v3, v4, v5, rfl, h0, h1, h2, h3, h4, h5⟩ := h
  exact ⟨p, v1, v2, v3, v4, v5, rfl, sqt_mono e h0, Enc.mono e h1, Enc.mono e h2, Enc.mono e h3, Enc.mono e h4, Enc.mono e h5⟩⟩
def RepT {α : Type} [Enc α] (K : PySem.W.Frag) (F : Hp) (v : V) (xs : List α) : Prop := ∃ a vs, v = .ref a ∧ SqT K F a vs ∧ Reps K F vs xs
instance {α : Type} [Enc α] : Enc (Tu α) := ⟨fun K F v x => RepT K F v x.l, fun e h => by
  obtain ⟨a, vs, rfl, h1, h2⟩ := h
  exact ⟨a, vs, rfl, sqt_mono e h1, h2.mono e⟩⟩
instance {α : Type} [Enc α] : Opn (List α) := ⟨fun h => by obtain ⟨_, _, e, _⟩ := h; cases e⟩
instance {α : Type} [Enc α] : Opn (Tu α) := ⟨fun h => by obtain ⟨_, _, e, _⟩ := h; cases e⟩
class Flat (α : Type) extends Enc α where
  toV : α → V
  iff : ∀ {K : PySem.W.Frag} {F : Hp} {v : V} {x : α}, rep K F v x ↔ v = toV x
  flat : ∀ x, flatV (toV x) = true
  inj : ∀ x y, eqV (toV x) (toV y) = true ↔ x = y
open Flat (toV)
instance : Flat Int := ⟨V.int, Iff.rfl, fun _ => rfl, fun x y => by show (x == y) = true ↔ _; simp⟩
instance : Flat Bool := ⟨V.bl, Iff.rfl, fun _ => rfl, fun x y => by show (x == y) = true ↔ _; simp⟩
instance : Flat Str := ⟨V.str, Iff.rfl, fun _ => rfl, fun x y => by show (x == y) = true ↔ _; simp⟩
instance : Flat (Option Int) := ⟨fun x => match x with | none => .non | some i => .int i, fun {K F v x} => by cases x <;> exact Iff.rfl, fun x => by cases x <;> rfl, fun x y => by
  cases x <;> cases y <;> simp [eqV]⟩
instance : Flat (Option Str) := ⟨fun x => match x with | none => .non | some i => .str i, fun {K F v x} => by cases x <;> exact Iff.rfl, fun x => by cases x <;> rfl, fun x y => by
  cases x <;> cases y <;> simp [eqV]⟩
section
variable {α : Type} [Flat α] {K : PySem.W.Frag} {F : Hp}
theorem Reps.flat : ∀ {vs : List V} {xs : List α}, Reps K F vs xs → vs = xs.map toV
  | [], [], _ => rfl
  | _ :: _, _ :: _, ⟨h, t⟩ => by rw [List.map_cons, ← Flat.iff.mp h, ← Reps.flat t]
  | [], _ :: _, h => h.elim
  | _ :: _, [], h => h.elim
theorem Reps.of_flat : ∀ (xs : List α), Reps K F (xs.map toV) xs
  | [] => trivial
  | _ :: xs => ⟨Flat.iff.mpr rfl, Reps.of_flat xs⟩
theorem flat_all (xs : List α) : (xs.map toV).all flatV = true := by
  rw [List.all_eq_true]
  intro v hv
  obtain ⟨x, _, rfl⟩ := List.mem_map.mp hv
  exact Flat.flat x
theorem inV_flat [DecidableEq α] (x : α) (xs : List α) : inV (toV x) (xs.map toV) = decide (x ∈ xs) := by
  rw [Bool.eq_iff_iff, decide_eq_true_eq]
  unfold inV
  rw [List.any_eq_true]
  constructor
  · rintro ⟨v, hv, e⟩
    obtain ⟨y, hy, rfl⟩ := List.mem_map.mp hv
    rw [Flat.inj] at e
    rw [← e]; exact hy
  · intro h
    exact ⟨_, List.mem_map.mpr ⟨x, h, rfl⟩, (Flat.inj x x).mpr rfl⟩
end
end Dy

namespace Dy
open PySem PySem.Spec L2
open PyProof.Rows hiding St
open Enc (rep)
open Flat (toV)

def WE (X : Cx) (e : Expr) : TE := fun σ H Q => ∀ (pins : List (Addr × Obj)) (s : Shared), Inv X pins σ H s → wpAny (model X.prog X.w) X.A (eval e X.env) (EP X pins σ Q) X.xe s
def WT (X : Cx) (e : Expr) : TT := fun σ H Q => ∀ (pins : List (Addr × Obj)) (s : Shared), Inv X pins σ H s → wpAny (model X.prog X.w) X.A (isTrue e X.env (eval e X.env)) (TP X pins σ Q) X.xe s
def WW (X : Cx) (e : Expr) : TT := fun σ H Q => ∀ (whole : Sem Value) (pins : List (Addr × Obj)) (s : Shared), Inv X pins σ H s → wpAny (model X.prog X.w) X.A (isTrue e X.env whole) (TP X pins σ Q) X.xe s
def WA (X : Cx) (es : List Expr) : TA := fun σ H Q => ∀ (pos : Pos) (pins : List (Addr × Obj)) (s : Shared), Inv X pins σ H s → wpAny (model X.prog X.w) X.A (spliced (backTo pos (starEach es X.env))) (AP X pins σ Q) X.xe s
def WSs (X : Cx) (ss : List Stmt) : TS := fun D σ H => ∀ (pins : List (Addr × Obj)) (s : Shared), Inv X pins σ H s → wpAny (model X.prog X.w) X.A (execs ss X.env) (SP X pins D) X.xe s
theorem pe_we {X : Cx} {e : Expr} : PE X e (WE X e) := ⟨fun pins s _ _ _ I h => h pins s I⟩
theorem pt_wt {X : Cx} {e : Expr} : PT X e (WT X e) := ⟨fun pins s _ _ _ I h => h pins s I⟩
theorem pw_ww {X : Cx} {e : Expr} : PW X e (WW X e) := ⟨fun whole pins s _ _ _ I h => h whole pins s I⟩
theorem pa_wa {X : Cx} {es : List Expr} : PA X es (WA X es) := ⟨fun pos pins s _ _ _ I h => h pos pins s I⟩
theorem pss_ws {X : Cx} {ss : List Stmt} : PSs X ss (WSs X ss) := ⟨fun pins s _ _ _ I h => h pins s I⟩
theorem we_of {X : Cx} {e : Expr} {t : TE} {σ : St} {H : Hp} {Q : VK} (h : PE X e t) (q : t σ H Q) : WE X e σ H Q := fun pins s I => h.run pins s σ H Q I q
theorem wt_of {X : Cx} {e : Expr} {t : TT} {σ : St} {H : Hp} {Q : Bool → Hp → Prop} (h : PT X e t) (q : t σ H Q) : WT X e σ H Q := fun pins s I => h.run pins s σ H Q I q
theorem ww_of {X : Cx} {e : Expr} {t : TT} {σ : St} {H : Hp} {Q : Bool → Hp → Prop} (h : PW X e t) (q : t σ H Q) : WW X e σ H Q := fun w pins s I => h.run w pins s σ H Q I q
theorem wa_of {X : Cx} {es : List Expr} {t : TA} {σ : St} {H : Hp} {Q : List V → Hp → Prop} (h : PA X es t) (q : t σ H Q) : WA X es σ H Q := fun pos pins s I => h.run pos pins s σ H Q I q
theorem ws_of {X : Cx} {ss : List Stmt} {t : TS} {D : Ends} {σ : St} {H : Hp} (h : PSs X ss t) (q : t D σ H) : WSs X ss D σ H := fun pins s I => h.run pins s σ H D I q
theorem WSs.imp {X : Cx} {ss : List Stmt} {D D' : Ends} {σ : St} {H : Hp} (h : WSs X ss D σ H) (h1 : ∀ σ H, D.nx σ H → D'.nx σ H) (h2 : ∀ v H, D.rt v H → D'.rt v H) (h3 : ∀ σ H, D.bk σ H → D'.bk σ H) (h4 : ∀ σ H, D.ct σ H → D'.ct σ H) : WSs X ss D' σ H := fun pins s I => thn (h pins s I) fun f s1 q => by
  cases f with
  | next => obtain ⟨a, b, c, d⟩ := q; exact ⟨a, b, c, h1 _ _ d⟩
  | brk => obtain ⟨a, b, c, d⟩ := q; exact ⟨a, b, c, h3 _ _ d⟩
  | cont => obtain ⟨a, b, c, d⟩ := q; exact ⟨a, b, c, h4 _ _ d⟩
  | ret u => obtain ⟨a, b, c, d, e, f⟩ := q; exact ⟨a, b, c, d, e, h2 _ _ f⟩

section
variable {α β γ δ : Type} [Enc α] [Enc β] [Enc γ] [Enc δ]
def Ev (X : Cx) (e : Expr) (σ : St) (s : S) (x : α) : Prop := ∀ s1, Ex s s1 → ∀ Q : VK, (∀ v s2, Ex s1 s2 → rep X.K s2.F v x → Q v s2.H) → WE X e σ s1.H Q
def RepR (K : PySem.W.Frag) (s : S) (v : V) (xs : List α) : Prop := ∃ a vs, v = .ref a ∧ SqL K s.H a vs ∧ Reps K s.F vs xs
def EvR (X : Cx) (e : Expr) (σ : St) (s : S) (xs : List α) : Prop := ∀ s1, Ex s s1 → ∀ Q : VK, (∀ v s2, Ex s1 s2 → RepR X.K s2 v xs → Q v s2.H) → WE X e σ s1.H Q
def Own (K : PySem.W.Frag) (s : S) (p : Addr) (xs : List α) : Prop := s.F p = none ∧ ∃ vs, s.H p = some (.lst vs) ∧ Reps K s.F vs xs
def EvN (X : Cx) (e : Expr) (σ : St) (s : S) (xs : List α) : Prop := ∀ s1, Ex s s1 → ∀ Q : VK, (∀ p s2, Ex s1 s2 → s1.H p = none → Own X.K s2 p xs → Q (.ref p) s2.H) → WE X e σ s1.H Q
def EvT (X : Cx) (e : Expr) (σ : St) (s : S) (b : Bool) : Prop := ∀ s1, Ex s s1 → ∀ Q : Bool → Hp → Prop, (∀ s2, Ex s1 s2 → Q b s2.H) → WT X e σ s1.H Q
def EvW (X : Cx) (e : Expr) (σ : St) (s : S) (b : Bool) : Prop := ∀ s1, Ex s s1 → ∀ Q : Bool → Hp → Prop, (∀ s2, Ex s1 s2 → Q b s2.H) → WW X e σ s1.H Q
structure EvB (X : Cx) (e : Expr) (σ : St) (s : S) (b : Bool) : Prop where
  v : Ev X e σ s b
  t : EvT X e σ s b
structure EvC (X : Cx) (e : Expr) (σ : St) (s : S) (b : Bool) : Prop where
  v : Ev X e σ s b
  w : EvW X e σ s b
end
class EncA (A : Type) where
  repA : PySem.W.Frag → Hp → List V → A → Prop
  monoA : ∀ {K : PySem.W.Frag} {F F' : Hp} {vs : List V} {x : A}, Fle F F' → repA K F vs x → repA K F' vs x
open EncA (repA)
instance : EncA Unit := ⟨fun _ _ vs _ => vs = [], fun _ h => h⟩
instance {α A : Type} [Enc α] [EncA A] : EncA (α × A) := ⟨fun K F vs x => ∃ v r, vs = v :: r ∧ rep K F v x.1 ∧ repA K F r x.2, fun e h => by
  obtain ⟨v, r, rfl, h1, h2⟩ := h
  exact ⟨v, r, rfl, Enc.mono e h1, EncA.monoA e h2⟩⟩
def EvA {A : Type} [EncA A] (X : Cx) (es : List Expr) (σ : St) (s : S) (a : A) : Prop := ∀ s1, Ex s s1 → ∀ Q : List V → Hp → Prop, (∀ vs s2, Ex s1 s2 → repA X.K s2.F vs a → Q vs s2.H) → WA X es σ s1.H Q

section
variable {α β γ δ : Type} [Enc α] [Enc β] [Enc γ] [Enc δ] {X : Cx} {σ : St} {s t : S} {e a b c : Expr} {es : List Expr} {pos p0 p1 p2 p3 : Pos}
theorem Own.frz {K : PySem.W.Frag} {p : Addr} {xs : List α} (h : Own K s p xs) : ∃ s' : S, s'.H = s.H ∧ Fle s.F s'.F ∧ (∀ q, q ≠ p → s'.F q = s.F q) ∧ rep K s'.F (.ref p) xs := by
  obtain ⟨hn, vs, hp, r⟩ := h
  have f : Fle s.F (upd s.F p (.lst vs)) := fun a o q => by rw [upd_ne (ne_of_none q hn)]; exact q
  refine ⟨⟨upd s.F p (.lst vs), s.H, fun a o q => ?_⟩, rfl, f, fun q hq => upd_ne hq, p, vs, rfl, .inl (.inl upd_same), r.mono f⟩
  unfold upd at q
  split at q
  · rename_i e; cases q; rw [e]; exact hp
  · exact s.sub a o q
theorem Own.ex {K : PySem.W.Frag} {p : Addr} {xs : List α} (h : Own K s p xs) (e : Ex s t) : Own K t p xs := by
  obtain ⟨hn, vs, hp, r⟩ := h
  exact ⟨e.n _ _ hp hn, vs, e.h _ _ hp, r.mono e.f⟩
theorem Own.mx {K : PySem.W.Frag} {p : Addr} {P : Addr → Prop} {xs : List α} (h : Own K s p xs) (e : Mx P s t) (n : ¬ P p) : Own K t p xs := by
  obtain ⟨hn, vs, hp, r⟩ := h
  exact ⟨e.n _ _ hp hn, vs, e.h _ _ hp n, r.mono e.f⟩
theorem Own.ne {K : PySem.W.Frag} {p q : Addr} {xs : List α} (h : Own K s p xs) (n : s.H q = none) : p ≠ q := by
  obtain ⟨_, vs, hp, _⟩ := h
  exact ne_of_none hp n
theorem Own.r {K : PySem.W.Frag} {p : Addr} {xs : List α} (h : Own K s p xs) : RepR K s (.ref p) xs := by
  obtain ⟨hn, vs, hp, r⟩ := h
  exact ⟨p, vs, rfl, .inl (.inl hp), r⟩
theorem RepR.ex {K : PySem.W.Frag} {v : V} {xs : List α} (h : RepR K s v xs) (e : Ex s t) : RepR K t v xs := by
  obtain ⟨p, vs, rfl, h1, h2⟩ := h
  exact ⟨p, vs, rfl, sql_mono e.h h1, h2.mono e.f⟩
theorem rep_r {K : PySem.W.Frag} {v : V} {xs : List α} (h : rep K s.F v xs) : RepR K s v xs := by
  obtain ⟨p, vs, rfl, h1, h2⟩ := h
  exact ⟨p, vs, rfl, sql_mono s.sub h1, h2⟩
theorem Ev.mono {x : α} (h : Ev X e σ s x) (k : Ex s t) : Ev X e σ t x := fun s1 k1 Q q => h s1 (k.trans k1) Q q
theorem EvT.mono {x : Bool} (h : EvT X e σ s x) (k : Ex s t) : EvT X e σ t x := fun s1 k1 Q q => h s1 (k.trans k1) Q q
theorem Ev.r {xs : List α} (h : Ev X e σ s xs) : EvR X e σ s xs := fun s1 k Q q => h s1 k Q fun v s2 k2 r => q v s2 k2 (rep_r r)
theorem EvN.r {xs : List α} (h : EvN X e σ s xs) : EvR X e σ s xs := fun s1 k Q q => h s1 k Q fun p s2 k2 _ o => q (.ref p) s2 k2 o.r
theorem frz_ex {K : PySem.W.Frag} {p : Addr} {xs : List α} (k : Ex s t) (n : s.H p = none) (o : Own K t p xs) : ∃ t' : S, t'.H = t.H ∧ Ex s t' ∧ rep K t'.F (.ref p) xs := by
  obtain ⟨t', h1, h2, h3, h4⟩ := o.frz
  refine ⟨t', h1, ⟨k.f.trans h2, fun a u q => by rw [h1]; exact k.h a u q, fun a u q m => ?_⟩, h4⟩
  have : a ≠ p := ne_of_none q n
  rw [h3 a this]
  exact k.n a u q m
theorem EvN.ev {xs : List α} (h : EvN X e σ s xs) : Ev X e σ s xs := fun s1 k Q q => h s1 k Q fun p s2 k2 n o => by
  obtain ⟨t', h1, h2, h3⟩ := frz_ex k2 n o
  rw [← h1]
  exact q _ t' h2 h3
theorem Ev.cast {x y : α} (h : Ev X e σ s x) (k : x = y) : Ev X e σ s y := k ▸ h

theorem ev_var (i : Nat) {v : V} {x : α} {n : Str} (h : σ[i]? = some (some v)) (r : rep X.K s.F v x) (hN : X.N[i]? = some n := by rfl) (hv : Vis X.env.scope n := by first | exact Or.inl rfl | exact Or.inr (Or.inl rfl) | exact Or.inr (Or.inr rfl)) (hd : (n == ("__debug__" : Str)) = false := by decide)
    (hcd : (n == ("__classdict__" : Str)) = false := by decide) : Ev X (.Name n pos) σ s x := fun s1 k Q q => we_of (pe_var hN hv hd hcd) ⟨v, h, q v s1 (Ex.refl _) (Enc.mono k.f r)⟩
theorem ev_varR (i : Nat) {p : Addr} {xs : List α} {n : Str} (h : σ[i]? = some (some (.ref p))) (r : Own X.K s p xs) (hN : X.N[i]? = some n := by rfl) (hv : Vis X.env.scope n := by first | exact Or.inl rfl | exact Or.inr (Or.inl rfl) | exact Or.inr (Or.inr rfl)) (hd : (n == ("__debug__" : Str)) = false := by decide)
    (hcd : (n == ("__classdict__" : Str)) = false := by decide) : EvR X (.Name n pos) σ s xs := fun s1 k Q q => we_of (pe_var hN hv hd hcd) ⟨_, h, q _ s1 (Ex.refl _) (r.ex k).r⟩
theorem ev_int {i : Int} {j} : Ev X (.Constant (.int i) j pos) σ s i := fun s1 k Q q => we_of pe_int (q _ s1 (Ex.refl _) rfl)
theorem ev_bl {i : Bool} {j} : Ev X (.Constant (.bool i) j pos) σ s i := fun s1 k Q q => we_of pe_bl (q _ s1 (Ex.refl _) rfl)
theorem ev_str {i : Str} {j} : Ev X (.Constant (.str i) j pos) σ s i := fun s1 k Q q => we_of pe_str (q _ s1 (Ex.refl _) rfl)
theorem ev_non {j} : Ev X (.Constant .none j pos) σ s () := fun s1 k Q q => we_of pe_non (q _ s1 (Ex.refl _) rfl)
theorem ev_nonO {j} : Ev X (.Constant .none j pos) σ s (none : Option α) := fun s1 k Q q => we_of pe_non (q _ s1 (Ex.refl _) rfl)
theorem ev_some {x : α} (h : Ev X e σ s x) : Ev X e σ s (some x) := h
theorem ev_glob {n : Str} {x : α} (h : ∃ v u, X.mg n = some u ∧ RelV v u ∧ ∀ F, rep X.K F v x) (hg : Gl X n := by rfl) (hd : (n == ("__debug__" : Str)) = false := by decide) : Ev X (.Name n pos) σ s x := fun s1 k Q q => by
  obtain ⟨v, u, h1, h2, h3⟩ := h
  exact we_of (pe_glob hg h1 h2 hd) (q v s1 (Ex.refl _) (h3 _))

theorem ev_op {op : Operator} {r : R2} {x : α} {y : β} {z : γ} (ho : OpR X (binaryOp op) r) (ha : Ev X a σ s x) (hb : Ev X b σ s y)
    (hr : ∀ v u s2, rep X.K s2.F v x → rep X.K s2.F u y → ∀ Q : VK, (∀ v' s3, Ex s2 s3 → rep X.K s3.F v' z → Q v' s3.H) → r v u s2.H Q) : Ev X (.BinOp a op b pos) σ s z := fun s1 k Q q =>
  we_of (pe_op ho pe_we pe_we) (ha s1 k _ fun v s2 k2 r2 => hb s2 (k.trans k2) _ fun u s3 k3 r3 => hr v u s3 (Enc.mono k3.f r2) r3 Q fun w s4 k4 r4 => q w s4 ((k2.trans k3).trans k4) r4)
theorem ev_I0 {op : Operator} {g : Int → Int → V} {x y : Int} {z : γ} (ho : OpR X (binaryOp op) (rI0 g)) (ha : Ev X a σ s x) (hb : Ev X b σ s y) (hz : ∀ K F, rep K F (g x y) z) : Ev X (.BinOp a op b pos) σ s z :=
  ev_op ho ha hb fun v u s2 hv hu Q q => ⟨x, y, hv, hu, q _ s2 (Ex.refl _) (hz _ _)⟩
theorem ev_I {op : Operator} {C : Int → Int → Prop} {g : Int → Int → V} {x y : Int} {z : γ} (ho : OpR X (binaryOp op) (rI C g)) (ha : Ev X a σ s x) (hb : Ev X b σ s y) (hc : C x y) (hz : ∀ K F, rep K F (g x y) z) : Ev X (.BinOp a op b pos) σ s z :=
  ev_op ho ha hb fun v u s2 hv hu Q q => ⟨x, y, hv, hu, hc, q _ s2 (Ex.refl _) (hz _ _)⟩
theorem ev_add {x y : Int} (ha : Ev X a σ s x) (hb : Ev X b σ s y) : Ev X (.BinOp a .Add b pos) σ s (x + y) := ev_I0 op_add ha hb fun _ _ => rfl
theorem ev_sub {x y : Int} (ha : Ev X a σ s x) (hb : Ev X b σ s y) : Ev X (.BinOp a .Sub b pos) σ s (x - y) := ev_I0 op_sub ha hb fun _ _ => rfl
def MulOk (x y : Int) : Prop := CMul x y ∨ CMulW x y
theorem ev_mul {x y : Int} (ha : Ev X a σ s x) (hb : Ev X b σ s y) (hc : MulOk x y) : Ev X (.BinOp a .Mult b pos) σ s (x * y) := by
  rcases hc with hc | hc
  · exact ev_I op_mul ha hb hc fun _ _ => rfl
  · exact ev_I op_mulW ha hb hc fun _ _ => rfl
theorem ev_mod {x y : Int} (ha : Ev X a σ s x) (hb : Ev X b σ s y) (hc : 0 < y) : Ev X (.BinOp a .Mod b pos) σ s (x % y) := ev_I op_mod ha hb hc fun _ _ => rfl
def DivOk (y : Int) : Prop := 0 < y ∧ y.natAbs.log2 < 9000
theorem ev_div {x y : Int} (ha : Ev X a σ s x) (hb : Ev X b σ s y) (hc : DivOk y) : Ev X (.BinOp a .FloorDiv b pos) σ s (x / y) := ev_I op_fdivW ha hb hc fun _ _ => rfl
theorem ev_pow {x y : Int} (ha : Ev X a σ s x) (hb : Ev X b σ s y) (hc : CPow x y) : Ev X (.BinOp a .Pow b pos) σ s (x ^ y.toNat) := ev_I op_pow ha hb hc fun _ _ => rfl
theorem ev_adds {x y : Str} (ha : Ev X a σ s x) (hb : Ev X b σ s y) (hc : x.length + y.length ≤ sizeLine) : Ev X (.BinOp a .Add b pos) σ s (x ++ y) :=
  ev_op op_add_str ha hb fun v u s2 hv hu Q q => ⟨x, y, hv, hu, hc, q _ s2 (Ex.refl _) rfl⟩
theorem ev_neg {x : Int} (ha : Ev X a σ s x) : Ev X (.UnaryOp .USub a pos) σ s (-x) := fun s1 k Q q =>
  we_of (pe_un un_neg pe_we) (ha s1 k _ fun v s2 k2 r2 => ⟨x, r2, q _ s2 k2 rfl⟩)

theorem atI_rep {K : PySem.W.Frag} {F : Hp} {vs : List V} {xs : List α} {i : Int} {x : α} (r : Reps K F vs xs) (h : atI xs i = some x) : ∃ v, atI vs i = some v ∧ rep K F v x := by
  unfold atI at h ⊢
  rw [r.len]
  cases hj : ixN xs.length i with
  | none => rw [hj] at h; cases h
  | some j =>
    rw [hj] at h
    obtain ⟨v, h1, h2⟩ := r.get (i := j) h
    exact ⟨v, h1, h2⟩
theorem ev_ix {xs : List α} {i : Int} {x : α} (ha : EvR X a σ s xs) (hb : Ev X b σ s i) (h : atI xs i = some x) (hp : PlainIx b := by intro _ _; rfl) : Ev X (.Subscript a b pos) σ s x := fun s1 k Q q =>
  we_of (pe_ix ix_list pe_we pe_we hp) (ha s1 k _ fun v s2 k2 r2 => hb s2 (k.trans k2) _ fun u s3 k3 r3 => by
    obtain ⟨p, vs, rfl, h1, h2⟩ := r2.ex k3
    obtain ⟨w, h3, h4⟩ := atI_rep h2 h
    exact ⟨p, vs, i, w, rfl, r3, h1, h3, q w s3 (k2.trans k3) h4⟩)
theorem ev_ixT {xs : Tu α} {i : Int} {x : α} (ha : Ev X a σ s xs) (hb : Ev X b σ s i) (h : atI xs.l i = some x) (hp : PlainIx b := by intro _ _; rfl) : Ev X (.Subscript a b pos) σ s x := fun s1 k Q q =>
  we_of (pe_ix ix_tup pe_we pe_we hp) (ha s1 k _ fun v s2 k2 r2 => hb s2 (k.trans k2) _ fun u s3 k3 r3 => by
    obtain ⟨p, vs, rfl, h1, h2⟩ := Enc.mono (α := Tu α) k3.f r2
    obtain ⟨w, h3, h4⟩ := atI_rep h2 h
    exact ⟨p, vs, i, w, rfl, r3, sqt_mono s3.sub h1, h3, q w s3 (k2.trans k3) h4⟩)
theorem ev_ixP {x : β} {i : Int} {y : α} (ha : Ev X a σ s x) (hb : Ev X b σ s i) (h : ∀ {F : Hp} {v : V}, rep X.K F v x → ∃ p vs w, v = .ref p ∧ SqT X.K F p vs ∧ atI vs i = some w ∧ rep X.K F w y) (hp : PlainIx b := by intro _ _; rfl) : Ev X (.Subscript a b pos) σ s y := fun s1 k Q q =>
  we_of (pe_ix ix_tup pe_we pe_we hp) (ha s1 k _ fun v s2 k2 r2 => hb s2 (k.trans k2) _ fun u s3 k3 r3 => by
    obtain ⟨p, vs, w, rfl, h1, h2, h3⟩ := h (Enc.mono k3.f r2)
    exact ⟨p, vs, i, w, rfl, r3, sqt_mono s3.sub h1, h2, q w s3 (k2.trans k3) h3⟩)
theorem p2_0 {K : PySem.W.Frag} {x : α × β} {F : Hp} {v : V} (h : rep K F v x) : ∃ p vs w, v = .ref p ∧ SqT K F p vs ∧ atI vs 0 = some w ∧ rep K F w x.1 := by
  obtain ⟨p, v1, v2, rfl, h0, h1, h2⟩ := h
  exact ⟨p, _, v1, rfl, h0, rfl, h1⟩
theorem p2_1 {K : PySem.W.Frag} {x : α × β} {F : Hp} {v : V} (h : rep K F v x) : ∃ p vs w, v = .ref p ∧ SqT K F p vs ∧ atI vs 1 = some w ∧ rep K F w x.2 := by
  obtain ⟨p, v1, v2, rfl, h0, h1, h2⟩ := h
  exact ⟨p, _, v2, rfl, h0, rfl, h2⟩
theorem p3_0 {K : PySem.W.Frag} {x : T3 α β γ} {F : Hp} {v : V} (h : rep K F v x) : ∃ p vs w, v = .ref p ∧ SqT K F p vs ∧ atI vs 0 = some w ∧ rep K F w x.a := by
  obtain ⟨p, v1, v2, v3, rfl, h0, h1, h2, h3⟩ := h
  exact ⟨p, _, v1, rfl, h0, rfl, h1⟩
theorem p3_1 {K : PySem.W.Frag} {x : T3 α β γ} {F : Hp} {v : V} (h : rep K F v x) : ∃ p vs w, v = .ref p ∧ SqT K F p vs ∧ atI vs 1 = some w ∧ rep K F w x.b := by
  obtain ⟨p, v1, v2, v3, rfl, h0, h1, h2, h3⟩ := h
  exact ⟨p, _, v2, rfl, h0, rfl, h2⟩
theorem p3_2 {K : PySem.W.Frag} {x : T3 α β γ} {F : Hp} {v : V} (h : rep K F v x) : ∃ p vs w, v = .ref p ∧ SqT K F p vs ∧ atI vs 2 = some w ∧ rep K F w x.c := by
  obtain ⟨p, v1, v2, v3, rfl, h0, h1, h2, h3⟩ := h
  exact ⟨p, _, v3, rfl, h0, rfl, h3⟩
def sgn (x : Str) (i : Int) : Option Str := if x.length ≤ sizeLine then (atI x.cps.toList i).map fun c => ⟨#[c]⟩ else none
theorem ev_ixS {x : Str} {i : Int} {y : Str} (ha : Ev X a σ s x) (hb : Ev X b σ s i) (h : sgn x i = some y) (hp : PlainIx b := by intro _ _; rfl) : Ev X (.Subscript a b pos) σ s y := fun s1 k Q q =>
  we_of (pe_ix ix_str pe_we pe_we hp) (ha s1 k _ fun v s2 k2 r2 => hb s2 (k.trans k2) _ fun u s3 k3 r3 => by
    unfold sgn at h
    split at h
    · rename_i hz
      obtain ⟨c, h1, h2⟩ := Option.map_eq_some_iff.mp h
      exact ⟨x, i, c, r2, r3, hz, h1, q _ s3 (k2.trans k3) (by rw [h2]; rfl)⟩
    · cases h)
end
end Dy

namespace Dy
open PySem PySem.Spec L2
open PyProof.Rows hiding St
open Enc (rep)
open Flat (toV)
open EncA (repA)

section
variable {α β γ δ : Type} [Enc α] [Enc β] [Enc γ] [Enc δ] {X : Cx} {σ : St} {s t : S} {e a b c : Expr} {es : List Expr} {pos p0 p1 p2 p3 : Pos}

theorem et_v {x : Bool} (h : Ev X e σ s x) (he : ∀ whole, isTrue e X.env whole = (do let v ← whole; standAt e.pos; holding [v] (truthy v)) := by intro _; rfl) : EvT X e σ s x := fun s1 k Q q =>
  wt_of (pt_val pe_we he) (h s1 k _ fun v s2 k2 r => ⟨x, r, q s2 k2⟩)
theorem eb_v {x : Bool} (h : Ev X e σ s x) (he : ∀ whole, isTrue e X.env whole = (do let v ← whole; standAt e.pos; holding [v] (truthy v)) := by intro _; rfl) : EvB X e σ s x := ⟨h, et_v h he⟩
theorem EvW.tt {x : Bool} (h : EvW X e σ s x) : EvT X e σ s x := fun s1 k Q q => wt_of pw_ww.pt (h s1 k Q q)
theorem EvC.bb {x : Bool} (h : EvC X e σ s x) : EvB X e σ s x := ⟨h.v, h.w.tt⟩
theorem EvB.cast {x y : Bool} (h : EvB X e σ s x) (k : x = y) : EvB X e σ s y := k ▸ h
theorem ec_and1 {x : Bool} (h : EvB X a σ s x) : EvC X (.BoolOp .And [a] pos) σ s x :=
  ⟨fun s1 k Q q => we_of (pe_one pe_we) (h.v s1 k Q q), fun s1 k Q q => ww_of (pw_and1 pt_wt) (h.t s1 k Q q)⟩
theorem ec_or1 {x : Bool} (h : EvB X a σ s x) : EvC X (.BoolOp .Or [a] pos) σ s x :=
  ⟨fun s1 k Q q => we_of (pe_one pe_we) (h.v s1 k Q q), fun s1 k Q q => ww_of (pw_or1 pt_wt) (h.t s1 k Q q)⟩
theorem ec_and {x y : Bool} (h : EvB X a σ s x) (h2 : x = true → EvC X (.BoolOp .And (b :: es) pos) σ s y) : EvC X (.BoolOp .And (a :: b :: es) pos) σ s (x && y) :=
  ⟨fun s1 k Q q => we_of (pe_and pe_we pe_we) (h.v s1 k _ fun v s2 k2 r => ⟨x, r, by
    cases x with
    | true => exact iteT ((h2 rfl).v s2 (k.trans k2) Q fun v s3 k3 r3 => q v s3 (k2.trans k3) r3)
    | false => exact iteF (q _ s2 k2 rfl)⟩),
   fun s1 k Q q => ww_of (pw_and pt_wt pw_ww) (h.t s1 k _ fun s2 k2 => by
    cases x with
    | true => exact iteT ((h2 rfl).w s2 (k.trans k2) Q fun s3 k3 => q s3 (k2.trans k3))
    | false => exact iteF (q s2 k2))⟩
theorem ec_or {x y : Bool} (h : EvB X a σ s x) (h2 : x = false → EvC X (.BoolOp .Or (b :: es) pos) σ s y) : EvC X (.BoolOp .Or (a :: b :: es) pos) σ s (x || y) :=
  ⟨fun s1 k Q q => we_of (pe_or pe_we pe_we) (h.v s1 k _ fun v s2 k2 r => ⟨x, r, by
    cases x with
    | true => exact iteT (q _ s2 k2 rfl)
    | false => exact iteF ((h2 rfl).v s2 (k.trans k2) Q fun v s3 k3 r3 => q v s3 (k2.trans k3) r3)⟩),
   fun s1 k Q q => ww_of (pw_or pt_wt pw_ww) (h.t s1 k _ fun s2 k2 => by
    cases x with
    | true => exact iteT (q s2 k2)
    | false => exact iteF ((h2 rfl).w s2 (k.trans k2) Q fun s3 k3 => q s3 (k2.trans k3)))⟩
theorem eb_not {x : Bool} (h : EvB X a σ s x) : EvB X (.UnaryOp .Not a pos) σ s (!x) :=
  ⟨fun s1 k Q q => we_of (pe_not pe_we) (h.v s1 k _ fun v s2 k2 r => ⟨x, r, q _ s2 k2 rfl⟩), fun s1 k Q q => wt_of (pt_not pt_wt) (h.t s1 k _ fun s2 k2 => q s2 k2)⟩
theorem ev_ifE {x : Bool} {y z : α} (h : EvT X c σ s x) (h1 : x = true → Ev X a σ s y) (h2 : x = false → Ev X b σ s z) : Ev X (.IfExp c a b pos) σ s (if x = true then y else z) := fun s1 k Q q =>
  we_of (pe_ifExp pt_wt pe_we pe_we) (h s1 k _ fun s2 k2 => by
    cases x with
    | true => exact iteT (h1 rfl s2 (k.trans k2) Q fun v s3 k3 r => q v s3 (k2.trans k3) r)
    | false => exact iteF (h2 rfl s2 (k.trans k2) Q fun v s3 k3 r => q v s3 (k2.trans k3) r))

theorem eb_cmp {op : CmpOp} {r : R2} {x : α} {y : β} {z : Bool} (ho : OpR X (compareOp op) r) (ha : Ev X a σ s x) (hb : Ev X b σ s y)
    (hr : ∀ (v u : V) (s2 : S), rep X.K s2.F v x → rep X.K s2.F u y → ∀ Q : VK, Q (.bl z) s2.H → r v u s2.H Q) (hm : behindInMarks op b = false) : EvB X (.Compare a [op] [b] pos) σ s z :=
  ⟨fun s1 k Q q => we_of (pe_cmpR ho pe_we pe_we hm) (ha s1 k _ fun v s2 k2 r2 => hb s2 (k.trans k2) _ fun u s3 k3 r3 => hr v u s3 (Enc.mono k3.f r2) r3 Q (q _ s3 (k2.trans k3) rfl)),
   fun s1 k Q q => wt_of (pt_cmpR ho pe_we pe_we hm) (ha s1 k _ fun v s2 k2 r2 => hb s2 (k.trans k2) _ fun u s3 k3 r3 => hr v u s3 (Enc.mono k3.f r2) r3 _ ⟨z, rfl, q s3 (k2.trans k3)⟩)⟩
theorem eb_cmpR {op : CmpOp} {r : R2} {x : α} {ys : List β} {z : Bool} (ho : OpR X (compareOp op) r) (ha : Ev X a σ s x) (hb : EvR X b σ s ys)
    (hr : ∀ (v u : V) (s2 : S), rep X.K s2.F v x → RepR X.K s2 u ys → ∀ Q : VK, Q (.bl z) s2.H → r v u s2.H Q) (hm : behindInMarks op b = false) : EvB X (.Compare a [op] [b] pos) σ s z :=
  ⟨fun s1 k Q q => we_of (pe_cmpR ho pe_we pe_we hm) (ha s1 k _ fun v s2 k2 r2 => hb s2 (k.trans k2) _ fun u s3 k3 r3 => hr v u s3 (Enc.mono k3.f r2) r3 Q (q _ s3 (k2.trans k3) rfl)),
   fun s1 k Q q => wt_of (pt_cmpR ho pe_we pe_we hm) (ha s1 k _ fun v s2 k2 r2 => hb s2 (k.trans k2) _ fun u s3 k3 r3 => hr v u s3 (Enc.mono k3.f r2) r3 _ ⟨z, rfl, q s3 (k2.trans k3)⟩)⟩
theorem eb_cmpRR {op : CmpOp} {r : R2} {xs : List α} {ys : List β} {z : Bool} (ho : OpR X (compareOp op) r) (ha : EvR X a σ s xs) (hb : EvR X b σ s ys)
    (hr : ∀ (v u : V) (s2 : S), RepR X.K s2 v xs → RepR X.K s2 u ys → ∀ Q : VK, Q (.bl z) s2.H → r v u s2.H Q) (hm : behindInMarks op b = false) : EvB X (.Compare a [op] [b] pos) σ s z :=
  ⟨fun s1 k Q q => we_of (pe_cmpR ho pe_we pe_we hm) (ha s1 k _ fun v s2 k2 r2 => hb s2 (k.trans k2) _ fun u s3 k3 r3 => hr v u s3 (r2.ex k3) r3 Q (q _ s3 (k2.trans k3) rfl)),
   fun s1 k Q q => wt_of (pt_cmpR ho pe_we pe_we hm) (ha s1 k _ fun v s2 k2 r2 => hb s2 (k.trans k2) _ fun u s3 k3 r3 => hr v u s3 (r2.ex k3) r3 _ ⟨z, rfl, q s3 (k2.trans k3)⟩)⟩
theorem eb_I0 {op : CmpOp} {g : Int → Int → V} {x y : Int} {z : Bool} (ho : OpR X (compareOp op) (rI0 g)) (hg : g x y = .bl z) (hm : behindInMarks op b = false) (ha : Ev X a σ s x) (hb : Ev X b σ s y) : EvB X (.Compare a [op] [b] pos) σ s z :=
  eb_cmp ho ha hb (fun v u s2 hv hu Q q => ⟨x, y, hv, hu, by rw [hg]; exact q⟩) hm
theorem eb_lt {x y : Int} (ha : Ev X a σ s x) (hb : Ev X b σ s y) : EvB X (.Compare a [.Lt] [b] pos) σ s (decide (x < y)) := eb_I0 op_lt rfl (nomark _) ha hb
theorem eb_le {x y : Int} (ha : Ev X a σ s x) (hb : Ev X b σ s y) : EvB X (.Compare a [.LtE] [b] pos) σ s (decide (x ≤ y)) := eb_I0 op_le rfl (nomark _) ha hb
theorem eb_gt {x y : Int} (ha : Ev X a σ s x) (hb : Ev X b σ s y) : EvB X (.Compare a [.Gt] [b] pos) σ s (decide (y < x)) := eb_I0 op_gt rfl (nomark _) ha hb
theorem eb_ge {x y : Int} (ha : Ev X a σ s x) (hb : Ev X b σ s y) : EvB X (.Compare a [.GtE] [b] pos) σ s (decide (y ≤ x)) := eb_I0 op_ge rfl (nomark _) ha hb
class Eqs (α : Type) extends Flat α where
  sc : ∀ x y : α, scal (toV x) (toV y) = true
  ij : ∀ x y : α, toV x = toV y ↔ x = y
instance : Eqs Int := { sc := fun _ _ => rfl, ij := fun x y => by show V.int x = V.int y ↔ _; simp }
instance : Eqs Bool := { sc := fun _ _ => rfl, ij := fun x y => by show V.bl x = V.bl y ↔ _; simp }
instance : Eqs Str := { sc := fun _ _ => rfl, ij := fun x y => by show V.str x = V.str y ↔ _; simp }
theorem eb_eq {ε : Type} [Eqs ε] [DecidableEq ε] {x y : ε} (ha : Ev X a σ s x) (hb : Ev X b σ s y) : EvB X (.Compare a [.Eq] [b] pos) σ s (decide (x = y)) :=
  eb_cmp op_eq ha hb (fun v u s2 hv hu Q q => by
    rw [Flat.iff.mp hv, Flat.iff.mp hu]
    refine ⟨Eqs.sc x y, ?_⟩
    rw [show decide (toV x = toV y) = decide (x = y) from decide_eq_decide.mpr (Eqs.ij x y)]
    exact q) (nomark _)
theorem eb_ne {ε : Type} [Eqs ε] [DecidableEq ε] {x y : ε} (ha : Ev X a σ s x) (hb : Ev X b σ s y) : EvB X (.Compare a [.NotEq] [b] pos) σ s (!decide (x = y)) :=
  eb_cmp op_ne ha hb (fun v u s2 hv hu Q q => by
    rw [Flat.iff.mp hv, Flat.iff.mp hu]
    refine ⟨Eqs.sc x y, ?_⟩
    rw [show decide (toV x = toV y) = decide (x = y) from decide_eq_decide.mpr (Eqs.ij x y)]
    exact q) (nomark _)
theorem eb_isN {o : Type} [Opn o] {x : Option o} {j} (ha : Ev X a σ s x) : EvB X (.Compare a [.Is] [.Constant .none j p1] pos) σ s x.isNone :=
  eb_cmp op_isN ha ev_non (fun v u s2 hv hu Q q => by
    refine ⟨hu, ?_⟩
    have : decide (v = V.non) = x.isNone := by
      cases x with
      | none => cases (show v = V.non from hv); rfl
      | some y => exact decide_eq_false fun z => Opn.notNon (z ▸ (show rep X.K s2.F v y from hv))
    rw [this]; exact q) (nomark _)
theorem eb_notN {o : Type} [Opn o] {x : Option o} {j} (ha : Ev X a σ s x) : EvB X (.Compare a [.IsNot] [.Constant .none j p1] pos) σ s x.isSome :=
  eb_cmp op_notN ha ev_non (fun v u s2 hv hu Q q => by
    refine ⟨hu, ?_⟩
    have : (!decide (v = V.non)) = x.isSome := by
      cases x with
      | none => cases (show v = V.non from hv); rfl
      | some y => rw [decide_eq_false fun z => Opn.notNon (z ▸ (show rep X.K s2.F v y from hv))]; rfl
    rw [this]; exact q) (nomark _)
theorem eb_in {ε : Type} [Eqs ε] [DecidableEq ε] {x : ε} {xs : List ε} (ha : Ev X a σ s x) (hb : EvR X b σ s xs) (hm : behindInMarks .In b = false := by rfl) : EvB X (.Compare a [.In] [b] pos) σ s (decide (x ∈ xs)) :=
  eb_cmpR op_in_seq ha hb (fun v u s2 hv hu Q q => by
    obtain ⟨p, vs, rfl, h1, h2⟩ := hu
    rw [Flat.iff.mp hv]
    obtain rfl := h2.flat
    refine ⟨p, _, rfl, .inl h1, Flat.flat x, flat_all xs, ?_⟩
    rw [inV_flat]; exact q) hm
theorem eb_notIn {ε : Type} [Eqs ε] [DecidableEq ε] {x : ε} {xs : List ε} (ha : Ev X a σ s x) (hb : EvR X b σ s xs) (hm : behindInMarks .NotIn b = false := by rfl) : EvB X (.Compare a [.NotIn] [b] pos) σ s (!decide (x ∈ xs)) :=
  eb_cmpR op_notIn_seq ha hb (fun v u s2 hv hu Q q => by
    obtain ⟨p, vs, rfl, h1, h2⟩ := hu
    rw [Flat.iff.mp hv]
    obtain rfl := h2.flat
    refine ⟨p, _, rfl, .inl h1, Flat.flat x, flat_all xs, ?_⟩
    rw [inV_flat]; exact q) hm
theorem eb_inT {ε : Type} [Eqs ε] [DecidableEq ε] {x : ε} {xs : Tu ε} (ha : Ev X a σ s x) (hb : Ev X b σ s xs) (hm : behindInMarks .In b = false := by rfl) : EvB X (.Compare a [.In] [b] pos) σ s (decide (x ∈ xs.l)) :=
  eb_cmp op_in_seq ha hb (fun v u s2 hv hu Q q => by
    obtain ⟨p, vs, rfl, h1, h2⟩ := hu
    rw [Flat.iff.mp hv]
    obtain rfl := h2.flat
    refine ⟨p, _, rfl, .inr (sqt_mono s2.sub h1), Flat.flat x, flat_all xs.l, ?_⟩
    rw [inV_flat]; exact q) hm
theorem eb_notInT {ε : Type} [Eqs ε] [DecidableEq ε] {x : ε} {xs : Tu ε} (ha : Ev X a σ s x) (hb : Ev X b σ s xs) (hm : behindInMarks .NotIn b = false := by rfl) : EvB X (.Compare a [.NotIn] [b] pos) σ s (!decide (x ∈ xs.l)) :=
  eb_cmp op_notIn_seq ha hb (fun v u s2 hv hu Q q => by
    obtain ⟨p, vs, rfl, h1, h2⟩ := hu
    rw [Flat.iff.mp hv]
    obtain rfl := h2.flat
    refine ⟨p, _, rfl, .inr (sqt_mono s2.sub h1), Flat.flat x, flat_all xs.l, ?_⟩
    rw [inV_flat]; exact q) hm
def inS (x y : Str) : Bool := !(Builtin.Str.occurrences y x 0 y.length 1).isEmpty
theorem eb_inS {x y : Str} (ha : Ev X a σ s x) (hb : Ev X b σ s y) (hm : behindInMarks .In b = false := by rfl) : EvB X (.Compare a [.In] [b] pos) σ s (inS x y) :=
  eb_cmp op_in_str ha hb (fun v u s2 hv hu Q q => ⟨x, y, hv, hu, q⟩) hm
theorem eb_notInS {x y : Str} (ha : Ev X a σ s x) (hb : Ev X b σ s y) (hm : behindInMarks .NotIn b = false := by rfl) : EvB X (.Compare a [.NotIn] [b] pos) σ s (!inS x y) :=
  eb_cmp op_notIn_str ha hb (fun v u s2 hv hu Q q => ⟨x, y, hv, hu, q⟩) hm
theorem eb_chain {op op' : CmpOp} {g g' : Int → Int → V} {x y z : Int} {k1 k2 : Bool} (ho : OpR X (compareOp op) (rI0 g)) (hg : g x y = .bl k1) (ho' : OpR X (compareOp op') (rI0 g')) (hg' : g' y z = .bl k2) (ha : Ev X a σ s x) (hb : Ev X b σ s y) (hc : Ev X c σ s z)
    (hm : lastMarks [op, op'] [b, c] = false := by with_unfolding_all rfl) : EvB X (.Compare a [op, op'] [b, c] pos) σ s (k1 && k2) :=
  ⟨fun s1 k Q q => we_of (pe_chain ho ho' pe_we pe_we pe_we hm) (ha s1 k _ fun v s2 j2 r2 => hb s2 (k.trans j2) _ fun u s3 j3 r3 => ⟨x, y, r2, r3, k1, hg, by
    cases k1 with
    | true => exact iteT (hc s3 ((k.trans j2).trans j3) _ fun w s4 j4 r4 => ⟨y, z, r3, r4, by rw [hg']; exact q _ s4 ((j2.trans j3).trans j4) rfl⟩)
    | false => exact iteF (q _ s3 (j2.trans j3) rfl)⟩),
   fun s1 k Q q => wt_of (pt_chain ho ho' pe_we pe_we pe_we hm) (ha s1 k _ fun v s2 j2 r2 => hb s2 (k.trans j2) _ fun u s3 j3 r3 => ⟨x, y, r2, r3, k1, hg, by
    cases k1 with
    | true => exact iteT (hc s3 ((k.trans j2).trans j3) _ fun w s4 j4 r4 => ⟨y, z, r3, r4, by rw [hg']; exact ⟨_, rfl, q s4 ((j2.trans j3).trans j4)⟩⟩)
    | false => exact iteF ⟨_, rfl, q s3 (j2.trans j3)⟩⟩)⟩

theorem ea_nil : EvA X [] σ s () := fun s1 k Q q => wa_of pa_nil (q [] s1 (Ex.refl _) rfl)
theorem ea_cons {A : Type} [EncA A] {x : α} {r : A} (h : Ev X e σ s x) (hr : EvA X es σ s r) (hs : starEach (e :: es) X.env = (false, eval e X.env) :: starEach es X.env := by rfl) : EvA X (e :: es) σ s (x, r) := fun s1 k Q q =>
  wa_of (pa_cons pe_we pa_wa hs) (h s1 k _ fun v s2 k2 r2 => hr s2 (k.trans k2) _ fun vs s3 k3 r3 => q _ s3 (k2.trans k3) ⟨v, vs, rfl, Enc.mono k3.f r2, r3⟩)
theorem ev_B1 {id : String} {n : Str} {r : List V → Hp → VK → Prop} {x : β} {y : α} (hc : CallR X (.builtin id) r) (hg : Gl X n) (hm : X.mg n = none) (hv : bootBuiltins n = some (.builtin id)) (ha : Ev X e σ s x)
    (hr : ∀ (v : V) (s2 : S), rep X.K s2.F v x → ∀ Q : VK, (∀ w s3, Ex s2 s3 → rep X.K s3.F w y → Q w s3.H) → r [v] s2.H Q) (hn : n ≠ "__name__" := by decide) (hdb : (n == ("__debug__" : Str)) = false := by decide)
    (he : starEach [e] X.env = (false, eval e X.env) :: starEach [] X.env := by rfl) (hpl : (backTo pos (starEach [] X.env)).any (·.1) = false := by rfl) : Ev X (.Call (.Name n p0) [e] [] pos) σ s y := fun s1 k Q q =>
  we_of (pe_callB hc hg hm hv (pa_cons pe_we pa_nil he) hn hdb he hpl) (ha s1 k _ fun v s2 k2 r2 => hr v s2 r2 Q fun w s3 k3 r3 => q w s3 (k2.trans k3) r3)
theorem ev_BR {id : String} {n : Str} {r : List V → Hp → VK → Prop} {xs : List β} {y : α} (hc : CallR X (.builtin id) r) (hg : Gl X n) (hm : X.mg n = none) (hv : bootBuiltins n = some (.builtin id)) (ha : EvR X e σ s xs)
    (hr : ∀ (v : V) (s2 : S), RepR X.K s2 v xs → ∀ Q : VK, (∀ w s3, Ex s2 s3 → rep X.K s3.F w y → Q w s3.H) → r [v] s2.H Q) (hn : n ≠ "__name__" := by decide) (hdb : (n == ("__debug__" : Str)) = false := by decide)
    (he : starEach [e] X.env = (false, eval e X.env) :: starEach [] X.env := by rfl) (hpl : (backTo pos (starEach [] X.env)).any (·.1) = false := by rfl) : Ev X (.Call (.Name n p0) [e] [] pos) σ s y := fun s1 k Q q =>
  we_of (pe_callB hc hg hm hv (pa_cons pe_we pa_nil he) hn hdb he hpl) (ha s1 k _ fun v s2 k2 r2 => hr v s2 r2 Q fun w s3 k3 r3 => q w s3 (k2.trans k3) r3)
theorem ev_len {xs : List β} (hm : X.mg "len" = none) (ha : EvR X e σ s xs) (hg : Gl X "len" := by rfl) (he : starEach [e] X.env = (false, eval e X.env) :: starEach [] X.env := by rfl) (hpl : (backTo pos (starEach [] X.env)).any (·.1) = false := by rfl) : Ev X (.Call (.Name "len" p0) [e] [] pos) σ s (xs.length : Int) :=
  ev_BR call_len_seq hg hm boot_len ha (fun v s2 r2 Q q => by
    obtain ⟨p, vs, rfl, h1, h2⟩ := r2
    exact ⟨p, vs, rfl, .inl h1, q _ s2 (Ex.refl _) (by rw [h2.len]; rfl)⟩) (he := he) (hpl := hpl)
theorem ev_lenT {xs : Tu β} (hm : X.mg "len" = none) (ha : Ev X e σ s xs) (hg : Gl X "len" := by rfl) (he : starEach [e] X.env = (false, eval e X.env) :: starEach [] X.env := by rfl) (hpl : (backTo pos (starEach [] X.env)).any (·.1) = false := by rfl) : Ev X (.Call (.Name "len" p0) [e] [] pos) σ s (xs.l.length : Int) :=
  ev_B1 call_len_seq hg hm boot_len ha (fun v s2 r2 Q q => by
    obtain ⟨p, vs, rfl, h1, h2⟩ := r2
    exact ⟨p, vs, rfl, .inr (sqt_mono s2.sub h1), q _ s2 (Ex.refl _) (by rw [h2.len]; rfl)⟩) (he := he) (hpl := hpl)
theorem ev_lenS {x : Str} (hm : X.mg "len" = none) (hz : x.length ≤ sizeLine) (ha : Ev X e σ s x) (hg : Gl X "len" := by rfl) (he : starEach [e] X.env = (false, eval e X.env) :: starEach [] X.env := by rfl) (hpl : (backTo pos (starEach [] X.env)).any (·.1) = false := by rfl) : Ev X (.Call (.Name "len" p0) [e] [] pos) σ s (x.length : Int) :=
  ev_B1 call_len_str hg hm boot_len ha (fun v s2 r2 Q q => ⟨x, by rw [show v = V.str x from r2], hz, q _ s2 (Ex.refl _) rfl⟩) (he := he) (hpl := hpl)
theorem ev_sum {xs : List Int} (hm : X.mg "sum" = none) (ha : EvR X e σ s xs) (hc : X.calm = true := by rfl) (hg : Gl X "sum" := by rfl) (he : starEach [e] X.env = (false, eval e X.env) :: starEach [] X.env := by rfl) (hpl : (backTo pos (starEach [] X.env)).any (·.1) = false := by rfl) : Ev X (.Call (.Name "sum" p0) [e] [] pos) σ s xs.sum :=
  ev_BR (cr_sum hc) hg hm (by decide +kernel) ha (fun v s2 r2 Q q => by
    obtain ⟨p, vs, rfl, h1, h2⟩ := r2
    rw [h2.flat] at h1
    exact ⟨p, xs, rfl, h1, q _ s2 (Ex.refl _) rfl⟩) (he := he) (hpl := hpl)
theorem ev_all {xs : List Bool} (hm : X.mg "all" = none) (ha : EvR X e σ s xs) (hc : X.calm = true := by rfl) (hg : Gl X "all" := by rfl) (he : starEach [e] X.env = (false, eval e X.env) :: starEach [] X.env := by rfl) (hpl : (backTo pos (starEach [] X.env)).any (·.1) = false := by rfl) : Ev X (.Call (.Name "all" p0) [e] [] pos) σ s (xs.all id) :=
  ev_BR (cr_all hc) hg hm (by decide +kernel) ha (fun v s2 r2 Q q => by
    obtain ⟨p, vs, rfl, h1, h2⟩ := r2
    rw [h2.flat] at h1
    exact ⟨p, xs, rfl, h1, q _ s2 (Ex.refl _) rfl⟩) (he := he) (hpl := hpl)
theorem ev_any {xs : List Bool} (hm : X.mg "any" = none) (ha : EvR X e σ s xs) (hc : X.calm = true := by rfl) (hg : Gl X "any" := by rfl) (he : starEach [e] X.env = (false, eval e X.env) :: starEach [] X.env := by rfl) (hpl : (backTo pos (starEach [] X.env)).any (·.1) = false := by rfl) : Ev X (.Call (.Name "any" p0) [e] [] pos) σ s (xs.any id) :=
  ev_BR (cr_any hc) hg hm (by decide +kernel) ha (fun v s2 r2 Q q => by
    obtain ⟨p, vs, rfl, h1, h2⟩ := r2
    rw [h2.flat] at h1
    exact ⟨p, xs, rfl, h1, q _ s2 (Ex.refl _) rfl⟩) (he := he) (hpl := hpl)
def minL : List Int → Option Int
  | [] => none
  | x :: xs => some (xs.foldl min x)
def maxL : List Int → Option Int
  | [] => none
  | x :: xs => some (xs.foldl max x)
theorem foldl_min (xs : List Int) : ∀ x : Int, (xs.foldl min x ∈ x :: xs) ∧ ∀ y ∈ x :: xs, xs.foldl min x ≤ y := by
  induction xs with
  | nil => intro x; exact ⟨by simp, fun y hy => by simp at hy; simp [hy]⟩
  | cons a r ih =>
    intro x
    obtain ⟨h1, h2⟩ := ih (min x a)
    refine ⟨?_, fun y hy => ?_⟩
    · rw [List.foldl_cons]
      rcases List.mem_cons.mp h1 with h | h
      · rw [h]
        by_cases hx : x ≤ a
        · rw [Int.min_eq_left hx]; exact List.mem_cons_self
        · rw [Int.min_eq_right (by omega)]; exact List.mem_cons_of_mem _ List.mem_cons_self
      · exact List.mem_cons_of_mem _ (List.mem_cons_of_mem _ h)
    · rw [List.foldl_cons]
      have h3 := h2 (min x a) List.mem_cons_self
      rcases List.mem_cons.mp hy with rfl | hy
      · exact Int.le_trans h3 (Int.min_le_left _ _)
      · rcases List.mem_cons.mp hy with rfl | hy
        · exact Int.le_trans h3 (Int.min_le_right _ _)
        · exact h2 y (List.mem_cons_of_mem _ hy)
theorem foldl_max (xs : List Int) : ∀ x : Int, (xs.foldl max x ∈ x :: xs) ∧ ∀ y ∈ x :: xs, y ≤ xs.foldl max x := by
  induction xs with
  | nil => intro x; exact ⟨by simp, fun y hy => by simp at hy; simp [hy]⟩
  | cons a r ih =>
    intro x
    obtain ⟨h1, h2⟩ := ih (max x a)
    refine ⟨?_, fun y hy => ?_⟩
    · rw [List.foldl_cons]
      rcases List.mem_cons.mp h1 with h | h
      · rw [h]
        by_cases hx : a ≤ x
        · rw [Int.max_eq_left hx]; exact List.mem_cons_self
        · rw [Int.max_eq_right (by omega)]; exact List.mem_cons_of_mem _ List.mem_cons_self
      · exact List.mem_cons_of_mem _ (List.mem_cons_of_mem _ h)
    · rw [List.foldl_cons]
      have h3 := h2 (max x a) List.mem_cons_self
      rcases List.mem_cons.mp hy with rfl | hy
      · exact Int.le_trans (Int.le_max_left _ _) h3
      · rcases List.mem_cons.mp hy with rfl | hy
        · exact Int.le_trans (Int.le_max_right _ _) h3
        · exact h2 y (List.mem_cons_of_mem _ hy)
theorem minL_of {xs : List Int} {m : Int} (h1 : m ∈ xs) (h2 : ∀ y ∈ xs, m ≤ y) : minL xs = some m := by
  cases xs with
  | nil => simp at h1
  | cons x r =>
    obtain ⟨h3, h4⟩ := foldl_min r x
    exact congrArg some (Int.le_antisymm (h4 m h1) (h2 _ h3))
theorem maxL_of {xs : List Int} {m : Int} (h1 : m ∈ xs) (h2 : ∀ y ∈ xs, y ≤ m) : maxL xs = some m := by
  cases xs with
  | nil => simp at h1
  | cons x r =>
    obtain ⟨h3, h4⟩ := foldl_max r x
    exact congrArg some (Int.le_antisymm (h2 _ h3) (h4 m h1))
theorem ev_min {xs : List Int} {m : Int} (hm : X.mg "min" = none) (ha : EvR X e σ s xs) (h : minL xs = some m) (hc : X.calm = true := by rfl) (hg : Gl X "min" := by rfl) (he : starEach [e] X.env = (false, eval e X.env) :: starEach [] X.env := by rfl) (hpl : (backTo pos (starEach [] X.env)).any (·.1) = false := by rfl) : Ev X (.Call (.Name "min" p0) [e] [] pos) σ s m :=
  ev_BR (cr_min hc) hg hm (by decide +kernel) ha (fun v s2 r2 Q q => by
    obtain ⟨p, vs, rfl, h1, h2⟩ := r2
    rw [h2.flat] at h1
    refine ⟨p, xs, rfl, h1, ?_, fun z hz1 hz2 => ?_⟩
    · cases xs with
      | nil => cases h
      | cons _ _ => exact Nat.succ_pos _
    · rw [minL_of hz1 hz2] at h
      cases h
      exact q _ s2 (Ex.refl _) rfl) (he := he) (hpl := hpl)
theorem ev_max {xs : List Int} {m : Int} (hm : X.mg "max" = none) (ha : EvR X e σ s xs) (h : maxL xs = some m) (hc : X.calm = true := by rfl) (hg : Gl X "max" := by rfl) (he : starEach [e] X.env = (false, eval e X.env) :: starEach [] X.env := by rfl) (hpl : (backTo pos (starEach [] X.env)).any (·.1) = false := by rfl) : Ev X (.Call (.Name "max" p0) [e] [] pos) σ s m :=
  ev_BR (cr_max hc) hg hm (by decide +kernel) ha (fun v s2 r2 Q q => by
    obtain ⟨p, vs, rfl, h1, h2⟩ := r2
    rw [h2.flat] at h1
    refine ⟨p, xs, rfl, h1, ?_, fun z hz1 hz2 => ?_⟩
    · cases xs with
      | nil => cases h
      | cons _ _ => exact Nat.succ_pos _
    · rw [maxL_of hz1 hz2] at h
      cases h
      exact q _ s2 (Ex.refl _) rfl) (he := he) (hpl := hpl)
theorem ev_min2 {x y : Int} (hm : X.mg "min" = none) (ha : Ev X a σ s x) (hb : Ev X b σ s y) (hc : X.calm = true := by rfl) (hg : Gl X "min" := by rfl) (he : starEach [a, b] X.env = (false, eval a X.env) :: starEach [b] X.env := by rfl) (he2 : starEach [b] X.env = (false, eval b X.env) :: starEach [] X.env := by rfl) (hpl : (backTo pos (starEach [b] X.env)).any (·.1) = false := by rfl) : Ev X (.Call (.Name "min" p0) [a, b] [] pos) σ s (min x y) := fun s1 k Q q =>
  we_of (pe_callB (call_min2 hc) hg hm (by decide +kernel) (pa_cons pe_we (pa_cons pe_we pa_nil he2) he) (he := he) (hpl := hpl)) (ha s1 k _ fun v s2 k2 r2 => hb s2 (k.trans k2) _ fun u s3 k3 r3 =>
    ⟨x, y, by rw [show v = V.int x from r2, show u = V.int y from r3], q _ s3 (k2.trans k3) (by
      show V.int _ = V.int _
      by_cases h : y < x
      · rw [if_pos h, Int.min_eq_right (by omega)]
      · rw [if_neg h, Int.min_eq_left (by omega)])⟩)
theorem ev_max2 {x y : Int} (hm : X.mg "max" = none) (ha : Ev X a σ s x) (hb : Ev X b σ s y) (hc : X.calm = true := by rfl) (hg : Gl X "max" := by rfl) (he : starEach [a, b] X.env = (false, eval a X.env) :: starEach [b] X.env := by rfl) (he2 : starEach [b] X.env = (false, eval b X.env) :: starEach [] X.env := by rfl) (hpl : (backTo pos (starEach [b] X.env)).any (·.1) = false := by rfl) : Ev X (.Call (.Name "max" p0) [a, b] [] pos) σ s (max x y) := fun s1 k Q q =>
  we_of (pe_callB (call_max2 hc) hg hm (by decide +kernel) (pa_cons pe_we (pa_cons pe_we pa_nil he2) he) (he := he) (hpl := hpl)) (ha s1 k _ fun v s2 k2 r2 => hb s2 (k.trans k2) _ fun u s3 k3 r3 =>
    ⟨x, y, by rw [show v = V.int x from r2, show u = V.int y from r3], q _ s3 (k2.trans k3) (by
      show V.int _ = V.int _
      by_cases h : y > x
      · rw [if_pos h, Int.max_eq_right (by omega)]
      · rw [if_neg h, Int.max_eq_left (by omega)])⟩)
theorem ev_T1 {T : String} {n : Str} {r : List V → Hp → VK → Prop} {x : β} {y : α} (hc : CallR X (.type T) r) (hg : Gl X n) (hm : X.mg n = none) (hv : bootBuiltins n = some (.type T)) (ha : Ev X e σ s x)
    (hr : ∀ (v : V) (s2 : S), rep X.K s2.F v x → ∀ Q : VK, (∀ w s3, Ex s2 s3 → rep X.K s3.F w y → Q w s3.H) → r [v] s2.H Q) (hn : n ≠ "__name__" := by decide) (hdb : (n == ("__debug__" : Str)) = false := by decide)
    (he : starEach [e] X.env = (false, eval e X.env) :: starEach [] X.env := by rfl) (hpl : (backTo pos (starEach [] X.env)).any (·.1) = false := by rfl) : Ev X (.Call (.Name n p0) [e] [] pos) σ s y := fun s1 k Q q =>
  we_of (pe_callTy hc hg hm hv (pa_cons pe_we pa_nil he) hn hdb he hpl) (ha s1 k _ fun v s2 k2 r2 => hr v s2 r2 Q fun w s3 k3 r3 => q w s3 (k2.trans k3) r3)
theorem ev_intB {x : Bool} (hm : X.mg "int" = none) (ha : Ev X e σ s x) (hg : Gl X "int" := by rfl) (he : starEach [e] X.env = (false, eval e X.env) :: starEach [] X.env := by rfl) (hpl : (backTo pos (starEach [] X.env)).any (·.1) = false := by rfl) : Ev X (.Call (.Name "int" p0) [e] [] pos) σ s (if x = true then (1 : Int) else 0) :=
  ev_T1 call_int1 hg hm (by decide +kernel) ha (fun v s2 r2 Q q => .inr ⟨x, by rw [show v = V.bl x from r2], q _ s2 (Ex.refl _) rfl⟩) (he := he) (hpl := hpl)
theorem ev_intS {x : Str} {n : Int} (hm : X.mg "int" = none) (ha : Ev X e σ s x) (h : PySem.intText? x = some n) (hl : x.length ≤ 640) (hg : Gl X "int" := by rfl) (he : starEach [e] X.env = (false, eval e X.env) :: starEach [] X.env := by rfl) (hpl : (backTo pos (starEach [] X.env)).any (·.1) = false := by rfl) : Ev X (.Call (.Name "int" p0) [e] [] pos) σ s n :=
  ev_T1 call_int_str hg hm (by decide +kernel) ha (fun v s2 r2 Q q => ⟨x, n, by rw [show v = V.str x from r2], h, hl, q _ s2 (Ex.refl _) rfl⟩) (he := he) (hpl := hpl)
theorem ev_strI {x : Int} (hm : X.mg "str" = none) (h : x.natAbs.log2 < 1920) (ha : Ev X e σ s x) (hg : Gl X "str" := by rfl) (he : starEach [e] X.env = (false, eval e X.env) :: starEach [] X.env := by rfl) (hpl : (backTo pos (starEach [] X.env)).any (·.1) = false := by rfl) : Ev X (.Call (.Name "str" p0) [e] [] pos) σ s (toString x : Str) :=
  ev_T1 call_str_int hg hm (by decide +kernel) ha (fun v s2 r2 Q q => ⟨x, by rw [show v = V.int x from r2], h, q _ s2 (Ex.refl _) rfl⟩) (he := he) (hpl := hpl)
end
end Dy

namespace Dy
open PySem PySem.Spec L2
open PyProof.Rows hiding St
open Enc (rep)
open Flat (toV)
open EncA (repA)

section
variable {α β γ δ ζ : Type} [Enc α] [Enc β] [Enc γ] [Enc δ] [Enc ζ] {X : Cx} {σ : St} {s t : S} {e a b c : Expr} {es : List Expr} {pos p0 p1 p2 p3 : Pos}

def EvE (X : Cx) (es : List Expr) (σ : St) (s : S) (xs : List α) : Prop := ∀ s1, Ex s s1 → ∀ Q : List V → Hp → Prop, (∀ vs s2, Ex s1 s2 → Reps X.K s2.F vs xs → Q vs s2.H) → WA X es σ s1.H Q
theorem ee_nil : EvE X [] σ s ([] : List α) := fun s1 k Q q => wa_of pa_nil (q [] s1 (Ex.refl _) trivial)
theorem ee_cons {x : α} {xs : List α} (h : Ev X e σ s x) (hr : EvE X es σ s xs) (hs : starEach (e :: es) X.env = (false, eval e X.env) :: starEach es X.env := by rfl) : EvE X (e :: es) σ s (x :: xs) := fun s1 k Q q =>
  wa_of (pa_cons pe_we pa_wa hs) (h s1 k _ fun v s2 k2 r2 => hr s2 (k.trans k2) _ fun vs s3 k3 r3 => q _ s3 (k2.trans k3) ⟨Enc.mono k3.f r2, r3⟩)
theorem own_new {K : PySem.W.Frag} {p : Addr} {vs : List V} {xs : List α} (h : s.H p = none) (r : Reps K s.F vs xs) : Own K (s.newO p (.lst vs) h) p xs := ⟨(fF h : s.F p = none), vs, upd_same, r⟩
theorem en_list {xs : List α} (h : EvE X es σ s xs) (hz : xs.length ≤ sizeLine := by decide) : EvN X (.List es pos) σ s xs := fun s1 k Q q =>
  we_of (pe_lst pa_wa) (h s1 k _ fun vs s2 k2 r2 => ⟨by rw [r2.len]; exact hz, fun p hp => q p (s2.newO p (.lst vs) hp) (k2.trans (Ex.newO hp)) (fr_back k2 hp) (own_new hp r2)⟩)
theorem tup_new {K : PySem.W.Frag} {p : Addr} {vs : List V} (h : s.H p = none) : SqT K (s.newF p (.tup vs) h).F p vs := .inl (.inl upd_same)
theorem ev_tu {xs : List α} (h : EvE X es σ s xs) (hz : xs.length ≤ sizeLine := by decide) {n} : Ev X (.Tuple es n pos) σ s (⟨xs⟩ : Tu α) := fun s1 k Q q =>
  we_of (pe_tup pa_wa) (h s1 k _ fun vs s2 k2 r2 => ⟨by rw [r2.len]; exact hz, fun p hp => q _ (s2.newF p (.tup vs) hp) (k2.trans (Ex.newF hp)) ⟨p, vs, rfl, tup_new hp, r2.mono (Ex.newF hp).f⟩⟩)
theorem ev_t1 {x : α} {n} (h : EvA X es σ s (x, ())) : Ev X (.Tuple es n pos) σ s (⟨x⟩ : T1 α) := fun s1 k Q q =>
  we_of (pe_tup pa_wa) (h s1 k _ fun vs s2 k2 r2 => by
    obtain ⟨v1, _, rfl, r1, rfl⟩ := r2
    refine ⟨show _ ≤ 2 ^ 24 by simp, fun p hp => q _ (s2.newF p _ hp) (k2.trans (Ex.newF hp)) ⟨p, v1, rfl, tup_new hp, Enc.mono (Ex.newF hp).f r1⟩⟩)
theorem ev_t2 {x : α} {y : β} {n} (h : EvA X es σ s (x, y, ())) : Ev X (.Tuple es n pos) σ s (x, y) := fun s1 k Q q =>
  we_of (pe_tup pa_wa) (h s1 k _ fun vs s2 k2 r2 => by
    obtain ⟨v1, _, rfl, r1, v2, _, rfl, r2, rfl⟩ := r2
    refine ⟨show _ ≤ 2 ^ 24 by simp, fun p hp => q _ (s2.newF p _ hp) (k2.trans (Ex.newF hp)) ⟨p, v1, v2, rfl, tup_new hp, Enc.mono (Ex.newF hp).f r1, Enc.mono (Ex.newF hp).f r2⟩⟩)
theorem ev_t3 {x : α} {y : β} {z : γ} {n} (h : EvA X es σ s (x, y, z, ())) : Ev X (.Tuple es n pos) σ s (⟨x, y, z⟩ : T3 α β γ) := fun s1 k Q q =>
  we_of (pe_tup pa_wa) (h s1 k _ fun vs s2 k2 r2 => by
    obtain ⟨v1, _, rfl, r1, v2, _, rfl, r2, v3, _, rfl, r3, rfl⟩ := r2
    refine ⟨show _ ≤ 2 ^ 24 by simp, fun p hp => q _ (s2.newF p _ hp) (k2.trans (Ex.newF hp)) ⟨p, v1, v2, v3, rfl, tup_new hp, Enc.mono (Ex.newF hp).f r1, Enc.mono (Ex.newF hp).f r2, Enc.mono (Ex.newF hp).f r3⟩⟩)
theorem ev_t4 {x : α} {y : β} {z : γ} {u : δ} {n} (h : EvA X es σ s (x, y, z, u, ())) : Ev X (.Tuple es n pos) σ s (⟨x, y, z, u⟩ : T4 α β γ δ) := fun s1 k Q q =>
  we_of (pe_tup pa_wa) (h s1 k _ fun vs s2 k2 r2 => by
    obtain ⟨v1, _, rfl, r1, v2, _, rfl, r2, v3, _, rfl, r3, v4, _, rfl, r4, rfl⟩ := r2
    refine ⟨show _ ≤ 2 ^ 24 by simp, fun p hp => q _ (s2.newF p _ hp) (k2.trans (Ex.newF hp)) ⟨p, v1, v2, v3, v4, rfl, tup_new hp, Enc.mono (Ex.newF hp).f r1, Enc.mono (Ex.newF hp).f r2, Enc.mono (Ex.newF hp).f r3, Enc.mono (Ex.newF hp).f r4⟩⟩)
theorem ev_t5 {x : α} {y : β} {z : γ} {u : δ} {w : ζ} {n} (h : EvA X es σ s (x, y, z, u, w, ())) : Ev X (.Tuple es n pos) σ s (⟨x, y, z, u, w⟩ : T5 α β γ δ ζ) := fun s1 k Q q =>
  we_of (pe_tup pa_wa) (h s1 k _ fun vs s2 k2 r2 => by
    obtain ⟨v1, _, rfl, r1, v2, _, rfl, r2, v3, _, rfl, r3, v4, _, rfl, r4, v5, _, rfl, r5, rfl⟩ := r2
    refine ⟨show _ ≤ 2 ^ 24 by simp, fun p hp => q _ (s2.newF p _ hp) (k2.trans (Ex.newF hp)) ⟨p, v1, v2, v3, v4, v5, rfl, tup_new hp, Enc.mono (Ex.newF hp).f r1, Enc.mono (Ex.newF hp).f r2, Enc.mono (Ex.newF hp).f r3, Enc.mono (Ex.newF hp).f r4, Enc.mono (Ex.newF hp).f r5⟩⟩)

theorem en_T1 {n : Str} {T : String} {r : List V → Hp → VK → Prop} {xs : List β} {ys : List α} (hc : CallR X (.type T) r) (hg : Gl X n) (hm : X.mg n = none) (hv : bootBuiltins n = some (.type T)) (ha : EvR X e σ s xs)
    (hr : ∀ (v : V) (s2 : S), RepR X.K s2 v xs → ∀ Q : VK, (∀ p s3, Ex s2 s3 → s2.H p = none → Own X.K s3 p ys → Q (.ref p) s3.H) → r [v] s2.H Q) (hn : n ≠ "__name__" := by decide) (hdb : (n == ("__debug__" : Str)) = false := by decide)
    (he : starEach [e] X.env = (false, eval e X.env) :: starEach [] X.env := by rfl) (hpl : (backTo pos (starEach [] X.env)).any (·.1) = false := by rfl) : EvN X (.Call (.Name n p0) [e] [] pos) σ s ys := fun s1 k Q q =>
  we_of (pe_callTy hc hg hm hv (pa_cons pe_we pa_nil he) hn hdb he hpl) (ha s1 k _ fun v s2 k2 r2 => hr v s2 r2 Q fun w s3 k3 n3 r3 => q w s3 (k2.trans k3) (fr_back k2 n3) r3)
theorem en_copy {xs : List α} (hm : X.mg "list" = none) (ha : EvR X e σ s xs) (hg : Gl X "list" := by rfl) (he : starEach [e] X.env = (false, eval e X.env) :: starEach [] X.env := by rfl) (hpl : (backTo pos (starEach [] X.env)).any (·.1) = false := by rfl) : EvN X (.Call (.Name "list" p0) [e] [] pos) σ s xs :=
  en_T1 call_list_of hg hm (by decide +kernel) ha (fun v s2 r2 Q q => by
    obtain ⟨p, vs, rfl, h1, h2⟩ := r2
    exact ⟨p, vs, rfl, .inl h1, fun l hl => q l (s2.newO l _ hl) (Ex.newO hl) hl (own_new hl h2)⟩) (he := he) (hpl := hpl)
theorem en_copyT {xs : Tu α} (hm : X.mg "list" = none) (ha : Ev X e σ s xs) (hg : Gl X "list" := by rfl) (he : starEach [e] X.env = (false, eval e X.env) :: starEach [] X.env := by rfl) (hpl : (backTo pos (starEach [] X.env)).any (·.1) = false := by rfl) : EvN X (.Call (.Name "list" p0) [e] [] pos) σ s xs.l := fun s1 k Q q =>
  we_of (pe_callTy call_list_of hg hm (by decide +kernel) (pa_cons pe_we pa_nil he) (he := he) (hpl := hpl)) (ha s1 k _ fun v s2 k2 r2 => by
    obtain ⟨p, vs, rfl, h1, h2⟩ := r2
    exact ⟨p, vs, rfl, .inr (sqt_mono s2.sub h1), fun l hl => q l (s2.newO l _ hl) (k2.trans (Ex.newO hl)) (fr_back k2 hl) (own_new hl h2)⟩)
theorem ev_tuple {xs : List α} (hm : X.mg "tuple" = none) (ha : EvR X e σ s xs) (hg : Gl X "tuple" := by rfl) (he : starEach [e] X.env = (false, eval e X.env) :: starEach [] X.env := by rfl) (hpl : (backTo pos (starEach [] X.env)).any (·.1) = false := by rfl) : Ev X (.Call (.Name "tuple" p0) [e] [] pos) σ s (⟨xs⟩ : Tu α) := fun s1 k Q q =>
  we_of (pe_callTy call_tuple_of hg hm (by decide +kernel) (pa_cons pe_we pa_nil he) (he := he) (hpl := hpl)) (ha s1 k _ fun v s2 k2 r2 => by
    obtain ⟨p, vs, rfl, h1, h2⟩ := r2
    exact ⟨p, vs, rfl, .inl ⟨h1, fun l hl => q _ (s2.newF l _ hl) (k2.trans (Ex.newF hl)) ⟨l, vs, rfl, tup_new hl, h2.mono (Ex.newF hl).f⟩⟩⟩)
theorem ev_tupleT {xs : Tu α} (hm : X.mg "tuple" = none) (ha : Ev X e σ s xs) (hg : Gl X "tuple" := by rfl) (he : starEach [e] X.env = (false, eval e X.env) :: starEach [] X.env := by rfl) (hpl : (backTo pos (starEach [] X.env)).any (·.1) = false := by rfl) : Ev X (.Call (.Name "tuple" p0) [e] [] pos) σ s xs := fun s1 k Q q =>
  we_of (pe_callTy call_tuple_of hg hm (by decide +kernel) (pa_cons pe_we pa_nil he) (he := he) (hpl := hpl)) (ha s1 k _ fun v s2 k2 r2 => by
    obtain ⟨p, vs, rfl, h1, h2⟩ := r2
    exact ⟨p, vs, rfl, .inr ⟨sqt_mono s2.sub h1, q _ s2 k2 ⟨p, vs, rfl, h1, h2⟩⟩⟩)
def rng (a b : Int) : List Int := (List.range (b - a).toNat).map fun i : Nat => a + (i : Int)
theorem rgV_rng (a b : Int) : rgV a b = (rng a b).map V.int := by
  unfold rgV rng
  rw [List.map_map]; rfl
theorem en_listRg1 {n : Int} (hm : X.mg "list" = none) (hr : X.mg "range" = none) (ha : Ev X e σ s n) (hz : RgOk 0 n) (hc : X.calm = true := by rfl) (hg : Gl X "list" := by rfl) (hgr : Gl X "range" := by rfl)
    (he : starEach [e] X.env = (false, eval e X.env) :: starEach [] X.env := by rfl) (he2 : starEach [.Call (.Name "range" p1) [e] [] p2] X.env = (false, eval (.Call (.Name "range" p1) [e] [] p2) X.env) :: starEach [] X.env := by rfl) :
    EvN X (.Call (.Name "list" p0) [.Call (.Name "range" p1) [e] [] p2] [] pos) σ s (rng 0 n) := fun s1 k Q q =>
  we_of (pe_listRg hc hg hm (prg_1 hgr hr pe_we he) he2) (ha s1 k _ fun v s2 k2 r2 => ⟨n, r2, hz, fun l hl => q l (s2.newO l _ hl) (k2.trans (Ex.newO hl)) (fr_back k2 hl) (own_new hl (by rw [rgV_rng]; exact Reps.of_flat _))⟩)
theorem en_listRg2 {m n : Int} (hm : X.mg "list" = none) (hr : X.mg "range" = none) (ha : Ev X a σ s m) (hb : Ev X b σ s n) (hz : RgOk m n) (hc : X.calm = true := by rfl) (hg : Gl X "list" := by rfl) (hgr : Gl X "range" := by rfl)
    (he : starEach [a, b] X.env = (false, eval a X.env) :: starEach [b] X.env := by rfl) (heb : starEach [b] X.env = (false, eval b X.env) :: starEach [] X.env := by rfl) (hpl : (backTo p2 (starEach [b] X.env)).any (·.1) = false := by rfl)
    (he2 : starEach [.Call (.Name "range" p1) [a, b] [] p2] X.env = (false, eval (.Call (.Name "range" p1) [a, b] [] p2) X.env) :: starEach [] X.env := by rfl) :
    EvN X (.Call (.Name "list" p0) [.Call (.Name "range" p1) [a, b] [] p2] [] pos) σ s (rng m n) := fun s1 k Q q =>
  we_of (pe_listRg hc hg hm (prg_2 hgr hr pe_we pe_we he heb hpl) he2) (ha s1 k _ fun v s2 k2 r2 => hb s2 (k.trans k2) _ fun u s3 k3 r3 => ⟨m, n, r2, r3, hz, fun l hl => q l (s3.newO l _ hl) ((k2.trans k3).trans (Ex.newO hl)) (fr_back (k2.trans k3) hl) (own_new hl (by rw [rgV_rng]; exact Reps.of_flat _))⟩)
def cut {τ : Type} (xs : List τ) (lo hi : Option Int) : List τ := (xs.drop (HT.sIx xs.length 0 lo)).take (HT.sIx xs.length xs.length hi - HT.sIx xs.length 0 lo)
theorem Reps.cut {K : PySem.W.Frag} {F : Hp} {vs : List V} {xs : List α} (r : Reps K F vs xs) (lo hi : Option Int) : Reps K F (cutV vs lo hi) (Dy.cut xs lo hi) := by
  unfold cutV Dy.cut
  rw [r.len]
  exact (r.drop _).take _
def EvO (X : Cx) (o : Option Expr) (σ : St) (s : S) (x : Option Int) : Prop := match o, x with
  | none, none => True
  | some e, some i => Ev X e σ s i
  | _, _ => False
theorem po_evo {o : Option Expr} {x : Option Int} (h : EvO X o σ s x) : ∃ t, PO X o t ∧ ∀ s1, Ex s s1 → ∀ Q : Option Int → Hp → Prop, (∀ s2, Ex s1 s2 → Q x s2.H) → t σ s1.H Q := by
  cases o with
  | none =>
    cases x with
    | none => exact ⟨_, po_none, fun s1 k Q q => q s1 (Ex.refl _)⟩
    | some i => exact h.elim
  | some e =>
    cases x with
    | none => exact h.elim
    | some i => exact ⟨_, po_some pe_we, fun s1 k Q q => (show Ev X e σ s i from h) s1 k _ fun v s2 k2 r2 => ⟨i, r2, q s2 k2⟩⟩
theorem eo_none : EvO X none σ s none := trivial
theorem eo_some {i : Int} (h : Ev X e σ s i) : EvO X (some e) σ s (some i) := h
theorem en_slice {xs : List α} {lo hi : Option Expr} {l h : Option Int} (ha : EvR X a σ s xs) (hl : EvO X lo σ s l) (hh : EvO X hi σ s h) : EvN X (.Subscript a (.Slice lo hi none p2) pos) σ s (cut xs l h) := fun s1 k Q q => by
  obtain ⟨tl, pl, ql⟩ := po_evo hl
  obtain ⟨th, ph, qh⟩ := po_evo hh
  refine we_of (pe_slice sl_list pe_we pl ph) (ha s1 k _ fun v s2 k2 r2 => ql s2 (k.trans k2) _ fun s3 k3 => qh s3 ((k.trans k2).trans k3) _ fun s4 k4 => ?_)
  obtain ⟨p, vs, rfl, h1, h2⟩ := (r2.ex k3).ex k4
  exact ⟨p, vs, rfl, h1, fun l hl => q l (s4.newO l _ hl) (((k2.trans k3).trans k4).trans (Ex.newO hl)) (fr_back ((k2.trans k3).trans k4) hl) (own_new hl (h2.cut _ _))⟩
theorem ev_sliceS {x : Str} {lo hi : Option Expr} {l h : Option Int} (hz : x.length ≤ sizeLine) (ha : Ev X a σ s x) (hl : EvO X lo σ s l) (hh : EvO X hi σ s h) : Ev X (.Subscript a (.Slice lo hi none p2) pos) σ s (cutS x l h) := fun s1 k Q q => by
  obtain ⟨tl, pl, ql⟩ := po_evo hl
  obtain ⟨th, ph, qh⟩ := po_evo hh
  exact we_of (pe_slice sl_str pe_we pl ph) (ha s1 k _ fun v s2 k2 r2 => ql s2 (k.trans k2) _ fun s3 k3 => qh s3 ((k.trans k2).trans k3) _ fun s4 k4 => ⟨x, r2, hz, q _ s4 ((k2.trans k3).trans k4) rfl⟩)
theorem op_catS : OpR X (binaryOp .Add) (fun x y H Q => ∃ l b xs zs, x = .ref l ∧ y = .ref b ∧ SqL X.K H l xs ∧ SqL X.K H b zs ∧ xs.length + zs.length ≤ sizeLine ∧ ∀ p, H p = none → Q (.ref p) (upd H p (.lst (xs ++ zs)))) := by
  intro pins s σ H x y v u Q I rx ry h
  obtain ⟨l, b, xs, zs, rfl, rfl, hH, hB, hz, q⟩ := h
  cases rx
  cases ry
  obtain ⟨its, r, ⟨⟨cls, dd, data, sl⟩, n, ho, hc, hd0, hd⟩, z1⟩ := I.list hH
  obtain ⟨its2, r2, ⟨⟨cls2, dd2, data2, sl2⟩, n2, ho2, hc2, hd02, hd2⟩, z2⟩ := I.list hB
  simp only at hc hd hc2 hd2 hd0 hd02
  subst hc hd hc2 hd2 hd0 hd02
  have e : its.toArray ++ its2.toArray = (its ++ its2).toArray := by simp
  have h1 := r.length
  have h2 := r2.length
  refine concat_meets ⟨_, ho, rfl⟩ ⟨_, ho2, rfl⟩ noFill_list_add seq_list_add PySem.F.slot_list_add PySem.F.entry_list_add (PySem.F.args_list_add_2 _ _) (list_addW l b its.toArray its2.toArray n n2 none none sl sl2 (by rw [List.size_toArray, List.size_toArray]; omega)) ⟨ho, ho2, ?_⟩
  rw [e]
  exact ⟨.ref _, _, I.lnew (t' := s.toks) (r.append r2) (by rw [List.length_append]; omega), rfl, q _ I.fresh⟩
theorem en_cat {xs ys : List α} (ha : EvR X a σ s xs) (hb : EvR X b σ s ys) (hz : xs.length + ys.length ≤ sizeLine) : EvN X (.BinOp a .Add b pos) σ s (xs ++ ys) := fun s1 k Q q =>
  we_of (pe_op op_catS pe_we pe_we) (ha s1 k _ fun v s2 k2 r2 => hb s2 (k.trans k2) _ fun u s3 k3 r3 => by
    obtain ⟨p, vs, rfl, h1, h2⟩ := r2.ex k3
    obtain ⟨p', ws, rfl, h3, h4⟩ := r3
    exact ⟨p, p', vs, ws, rfl, rfl, h1, h3, by rw [h2.len, h4.len]; exact hz, fun l hl => q l (s3.newO l _ hl) ((k2.trans k3).trans (Ex.newO hl)) (fr_back (k2.trans k3) hl) (own_new hl (h2.app h4))⟩)
def repl {τ : Type} (n : Int) (xs : List τ) : List τ := (List.replicate n.toNat xs).flatten
theorem Reps.repF {K : PySem.W.Frag} {F : Hp} {vs : List V} {xs : List α} (r : Reps K F vs xs) (n : Nat) : Reps K F (List.replicate n vs).flatten (List.replicate n xs).flatten := by
  induction n with
  | zero => exact trivial
  | succ n ih => rw [List.replicate_succ, List.replicate_succ, List.flatten_cons, List.flatten_cons]; exact r.app ih
def RepOk (n : Int) (l : Nat) : Prop := -(2 ^ 63) ≤ n ∧ n < 2 ^ 63 ∧ l * n.toNat ≤ sizeLine
theorem en_rep {xs : List α} {n : Int} (ha : EvN X a σ s xs) (hb : ∀ t, Ex s t → Ev X b σ t n) (hz : RepOk n xs.length) : EvN X (.BinOp a .Mult b pos) σ s (repl n xs) := fun s1 k Q q =>
  we_of (pe_op op_rep pe_we pe_we) (ha s1 k _ fun p s2 k2 n2 o2 => hb s2 (k.trans k2) s2 (Ex.refl _) _ fun u s3 k3 r3 => by
    obtain ⟨_, vs, h1, h2⟩ := o2.ex k3
    exact ⟨p, n, vs, rfl, r3, h1, hz.1, hz.2.1, by rw [h2.len]; exact hz.2.2, fun l hl => q l (s3.newO l _ hl) ((k2.trans k3).trans (Ex.newO hl)) (fr_back (k2.trans k3) hl) (own_new hl (h2.repF _))⟩)
theorem en_sorted {xs : List Int} (hm : X.mg "sorted" = none) (ha : EvR X e σ s xs) (hg : Gl X "sorted" := by rfl) (he : starEach [e] X.env = (false, eval e X.env) :: starEach [] X.env := by rfl) (hpl : (backTo pos (starEach [] X.env)).any (·.1) = false := by rfl) :
    EvN X (.Call (.Name "sorted" p0) [e] [] pos) σ s (xs.mergeSort (fun x y => decide (x ≤ y))) := fun s1 k Q q =>
  we_of (pe_callB cr_sortedI hg hm (by decide +kernel) (pa_cons pe_we pa_nil he) (he := he) (hpl := hpl)) (ha s1 k _ fun v s2 k2 r2 => by
    obtain ⟨p, vs, rfl, h1, h2⟩ := r2
    rw [h2.flat] at h1
    refine ⟨p, xs, rfl, h1, fun ys l hp hs hl => ?_⟩
    have e1 : ys = xs.mergeSort (fun x y => decide (x ≤ y)) := by
      refine List.Perm.eq_of_pairwise (le := fun x y : Int => x ≤ y) (fun a b _ _ h h' => Int.le_antisymm h h') hs ?_ (hp.trans (List.mergeSort_perm _ _).symm)
      have := List.pairwise_mergeSort (le := fun x y : Int => decide (x ≤ y)) (fun a b c h1 h2 => by simp at *; omega) (fun a b => by simp; omega) xs
      exact this.imp (by simp)
    subst e1
    exact q l (s2.newO l _ hl) (k2.trans (Ex.newO hl)) (fr_back k2 hl) (own_new hl (Reps.of_flat _)))
theorem en_split {x y : Str} (ha : Ev X a σ s x) (hb : Ev X b σ s y) (h1 : (y.length == 0) = false) (h2 : x.length + 2 ≤ sizeLine) (hs : starEach [b] X.env = [(false, eval b X.env)] := by rfl) (hbase : attributeBase a "split" X.env (eval a X.env) = eval a X.env := by rfl) (hline : (p1.endLine == pos.line) = true := by rfl) :
    EvN X (.Call (.Attribute a "split" p1) [b] [] pos) σ s (Txt.split x y) := fun s1 k Q q =>
  we_of (pe_split pe_we pe_we hs hbase hline) (ha s1 k _ fun v s2 k2 r2 => ⟨⟨x, r2⟩, hb s2 (k.trans k2) _ fun u s3 k3 r3 => ⟨x, y, r2, by rw [show u = V.str y from r3], h1, h2, fun l hl =>
    q l (s3.newO l _ hl) ((k2.trans k3).trans (Ex.newO hl)) (fr_back (k2.trans k3) hl) (own_new hl (Reps.of_flat _))⟩⟩)
def JnOk (x : Str) (ys : List Str) : Prop := (ys.map (·.length)).sum + ys.length * x.length ≤ 16777216
theorem ev_join {x : Str} {ys : List Str} (ha : Ev X a σ s x) (hb : EvR X b σ s ys) (h : JnOk x ys) (hs : starEach [b] X.env = [(false, eval b X.env)] := by rfl) (hbase : attributeBase a "join" X.env (eval a X.env) = eval a X.env := by rfl) (hline : (p1.endLine == pos.line) = true := by rfl) :
    Ev X (.Call (.Attribute a "join" p1) [b] [] pos) σ s (Txt.join x ys) := fun s1 k Q q =>
  we_of (pe_join pe_we pe_we hs hbase hline) (ha s1 k _ fun v s2 k2 r2 => ⟨⟨x, r2⟩, hb s2 (k.trans k2) _ fun u s3 k3 r3 => by
    obtain ⟨p, vs, rfl, h1, h2⟩ := r3
    obtain rfl := h2.flat
    exact ⟨x, p, ys, r2, rfl, .inl h1, h, q _ s3 (k2.trans k3) rfl⟩⟩)
def ixOf {τ : Type} [DecidableEq τ] (x : τ) : List τ → Option Nat
  | [] => none
  | y :: ys => if y = x then some 0 else (ixOf x ys).map (· + 1)
theorem ixOf_some {τ : Type} [DecidableEq τ] {x : τ} : ∀ {ys : List τ} {j : Nat}, ixOf x ys = some j → ys[j]? = some x ∧ ∀ m z, m < j → ys[m]? = some z → z ≠ x
  | [], _, h => by cases h
  | y :: ys, j, h => by
    unfold ixOf at h
    split at h
    · rename_i e; cases h; exact ⟨by simp [e], fun m z hm => absurd hm (Nat.not_lt_zero _)⟩
    · rename_i e
      obtain ⟨i, h1, rfl⟩ := Option.map_eq_some_iff.mp h
      obtain ⟨h2, h3⟩ := ixOf_some h1
      refine ⟨by simpa using h2, fun m z hm hz => ?_⟩
      cases m with
      | zero => simp at hz; subst hz; exact e
      | succ m => exact h3 m z (by omega) (by simpa using hz)
theorem ev_index {ε : Type} [Eqs ε] [DecidableEq ε] {x : ε} {xs : List ε} {j : Nat} (ha : EvR X a σ s xs) (hb : Ev X b σ s x) (h : ixOf x xs = some j)
    (hbase : attributeBase a "index" X.env (eval a X.env) = eval a X.env := by rfl)
    (hfew : ((backTo pos (starEach [b] X.env)).all (fun x => !x.1) && (backToKw pos (keywordEach [] X.env)).all (fun x => x.1.isSome) && decide (([b] : List Expr).length + ([] : List Keyword).length + (if ([] : List Keyword).isEmpty then 0 else 1) < 30)) = true := by rfl)
    (hline : (p1.endLine == pos.line) = true := by rfl) (hs : starEach [b] X.env = (false, eval b X.env) :: starEach [] X.env := by rfl) (hplain : (backTo pos (starEach [] X.env)).any (·.1) = false := by rfl) :
    Ev X (.Call (.Attribute a "index" p1) [b] [] pos) σ s (j : Int) := fun s1 k Q q =>
  we_of (pe_bm PySem.F.plainAttrs_list PySem.F.slot_list_index PySem.F.type_list_index mt_index pe_we (pa_cons pe_we pa_nil hs) hbase hfew hline hs hplain) (ha s1 k _ fun v s2 k2 r2 => by
    obtain ⟨p, vs, rfl, h1, h2⟩ := r2
    obtain rfl := h2.flat
    refine ⟨.inl ⟨rfl, _, h1⟩, hb s2 (k.trans k2) _ fun u s3 k3 r3 => ?_⟩
    rw [Flat.iff.mp r3]
    obtain ⟨h3, h4⟩ := ixOf_some h
    refine ⟨p, _, toV x, j, toV x, rfl, rfl, sql_mono k3.h h1, Flat.flat x, flat_all xs, by rw [List.getElem?_map, h3]; rfl, (Flat.inj x x).mpr rfl, fun m z hm hz => ?_, q _ s3 (k2.trans k3) rfl⟩
    rw [List.getElem?_map] at hz
    obtain ⟨y, h5, rfl⟩ := Option.map_eq_some_iff.mp hz
    exact Bool.eq_false_iff.mpr fun z => h4 m y hm h5 ((Flat.inj y x).mp z))

structure Cal (P : Program) (w : World) (K : PySem.W.Frag) (mg : Str → Option Value) (base : Heap) (CX : CXT) (k : Nat) (x : Str) (q : Sp) : Prop where
  ex : ∃ (f : Addr) (fd : FuncData) (ps : List Str), FnOk P w K mg base CX k f fd ps q ∧ mg x = some (.ref f) ∧ PySem.W.keepIn K (.ref f) = true ∧ Binds K fd ps []
theorem pe_c0 {n : Str} {k j : Nat} {q : Sp} {ta : TA} (C : Cal X.prog X.w X.K X.mg X.base CX0 k n q) (hr : Room j X.A) (hk : k ≤ j) (hg : Gl X n) (ha : PA X (e :: es) ta) (hdb : (n == ("__debug__" : Str)) = false := by decide)
    (he : starEach (e :: es) X.env = (false, eval e X.env) :: starEach es X.env := by rfl) (hpl : (backTo pos (starEach es X.env)).any (·.1) = false := by rfl) : PE X (.Call (.Name n p0) (e :: es) [] pos) (tCall q [] E0 ta) := by
  obtain ⟨f, fd, ps, F, hm, kp, b⟩ := C.ex
  exact pe_call F (hr.mono hk) hg hm kp b .nil pass0 ha hdb he hpl
def sp {A : Type} [EncA A] {ρ : Type} [Enc ρ] (K : PySem.W.Frag) (m : A → Option ρ) : Sp := fun vs H Q _ => ∃ (s : S) (x : A) (r : ρ), s.H = H ∧ repA K s.F vs x ∧ m x = some r ∧ ∀ v s', Ex s s' → rep K s'.F v r → Q v s'.H
def spN {A : Type} [EncA A] {ρ : Type} [Enc ρ] (K : PySem.W.Frag) (m : A → Option (List ρ)) : Sp := fun vs H Q _ => ∃ (s : S) (x : A) (r : List ρ), s.H = H ∧ repA K s.F vs x ∧ m x = some r ∧ ∀ p s', Ex s s' → s.H p = none → Own K s' p r → Q (.ref p) s'.H
theorem ev_call {A : Type} [EncA A] {m : A → Option α} {n : Str} {k j : Nat} {x : A} {r : α} (C : Cal X.prog X.w X.K X.mg X.base CX0 k n (sp X.K m)) (hr : Room j X.A) (hk : k ≤ j) (ha : EvA X (e :: es) σ s x) (h : m x = some r) (hg : Gl X n := by rfl)
    (hdb : (n == ("__debug__" : Str)) = false := by decide) (he : starEach (e :: es) X.env = (false, eval e X.env) :: starEach es X.env := by rfl) (hpl : (backTo pos (starEach es X.env)).any (·.1) = false := by rfl) : Ev X (.Call (.Name n p0) (e :: es) [] pos) σ s r := fun s1 k1 Q q =>
  we_of (pe_c0 C hr hk hg pa_wa hdb he hpl) (ha s1 k1 _ fun vs s2 k2 r2 => ⟨s2, x, r, rfl, by rw [List.append_nil]; exact r2, h, fun v s3 k3 r3 => q v s3 (k2.trans k3) r3⟩)
theorem en_call {A : Type} [EncA A] {m : A → Option (List α)} {n : Str} {k j : Nat} {x : A} {r : List α} (C : Cal X.prog X.w X.K X.mg X.base CX0 k n (spN X.K m)) (hr : Room j X.A) (hk : k ≤ j) (ha : EvA X (e :: es) σ s x) (h : m x = some r) (hg : Gl X n := by rfl)
    (hdb : (n == ("__debug__" : Str)) = false := by decide) (he : starEach (e :: es) X.env = (false, eval e X.env) :: starEach es X.env := by rfl) (hpl : (backTo pos (starEach es X.env)).any (·.1) = false := by rfl) : EvN X (.Call (.Name n p0) (e :: es) [] pos) σ s r := fun s1 k1 Q q =>
  we_of (pe_c0 C hr hk hg pa_wa hdb he hpl) (ha s1 k1 _ fun vs s2 k2 r2 => ⟨s2, x, r, rfl, by rw [List.append_nil]; exact r2, h, fun v s3 k3 n3 r3 => q v s3 (k2.trans k3) (fr_back k2 n3) r3⟩)
end
end Dy

namespace Dy
open PySem PySem.Spec L2
open PyProof.Rows hiding St
open Enc (rep)
open Flat (toV)
open EncA (repA)

noncomputable def chk {α : Type} (c : Prop) (m : Option α) : Option α := open Classical in if c then m else none
theorem chk_pos {α : Type} {c : Prop} {m : Option α} (h : c) : chk c m = m := by unfold chk; exact if_pos h
theorem chkE {α : Type} {c : Prop} {m : Option α} {r : α} (h : chk c m = some r) : c ∧ m = some r := by
  unfold chk at h
  split at h
  · rename_i hc; exact ⟨hc, h⟩
  · cases h
def lt {α β : Type} (x : α) (f : α → Option β) : Option β := f x
theorem ltE {α β : Type} {x : α} {f : α → Option β} {r : β} (h : lt x f = some r) : ∃ y, y = x ∧ f y = some r := ⟨x, rfl, h⟩
abbrev bnd {α β : Type} (m : Option α) (f : α → Option β) : Option β := m.bind f
theorem bndE {α β : Type} {m : Option α} {f : α → Option β} {r : β} (h : bnd m f = some r) : ∃ y, m = some y ∧ f y = some r := by
  cases m with
  | none => cases h
  | some y => exact ⟨y, rfl, h⟩
theorem iteE1 {α : Type} {b : Bool} {m k : Option α} {r : α} (h : (if b = true then m else k) = some r) (e : b = true) : m = some r := by rw [if_pos e] at h; exact h
theorem iteE2 {α : Type} {b : Bool} {m k : Option α} {r : α} (h : (if b = true then m else k) = some r) (e : b = false) : k = some r := by rw [if_neg (by rw [e]; exact Bool.false_ne_true)] at h; exact h
def andO (a : Bool) (m : Option Bool) : Option Bool := if a = true then m else some false
def orO (a : Bool) (m : Option Bool) : Option Bool := if a = true then some true else m
theorem andE {a r : Bool} {m : Option Bool} (h : andO a m = some r) : (a = true → m = some r) ∧ (a = false → r = false) := by
  unfold andO at h
  cases a with
  | true => exact ⟨fun _ => h, fun z => Bool.noConfusion z⟩
  | false => exact ⟨fun z => Bool.noConfusion z, fun _ => (Option.some.inj h).symm⟩
theorem orE {a r : Bool} {m : Option Bool} (h : orO a m = some r) : (a = false → m = some r) ∧ (a = true → r = true) := by
  unfold orO at h
  cases a with
  | false => exact ⟨fun _ => h, fun z => Bool.noConfusion z⟩
  | true => exact ⟨fun z => Bool.noConfusion z, fun _ => (Option.some.inj h).symm⟩
inductive Fl (β ρ : Type) where
  | nx (b : β)
  | rt (r : ρ)
def foldO {α β : Type} (f : β → α → Option β) : β → List α → Option β
  | b, [] => some b
  | b, x :: r => (f b x).bind fun b' => foldO f b' r
def foldF {α β ρ : Type} (f : β → α → Option (Fl β ρ)) : β → List α → Option (Fl β ρ)
  | b, [] => some (.nx b)
  | b, x :: r => (f b x).bind fun o => match o with
    | .nx b' => foldF f b' r
    | .rt v => some (.rt v)
def whileO {β : Type} (c : β → Option Bool) (f : β → Option β) : Nat → β → Option β
  | 0, _ => none
  | n + 1, b => (c b).bind fun t => if t = true then (f b).bind fun b' => whileO c f n b' else some b
def whileF {β ρ : Type} (c : β → Option Bool) (f : β → Option (Fl β ρ)) : Nat → β → Option (Fl β ρ)
  | 0, _ => none
  | n + 1, b => (c b).bind fun t => if t = true then (f b).bind fun o => (match o with
    | .nx b' => whileF c f n b'
    | .rt v => some (.rt v)) else some (.nx b)
def compO {α β : Type} (t : α → Option Bool) (f : α → Option β) : List α → Option (List β)
  | [] => some []
  | x :: r => (t x).bind fun b => if b = true then (f x).bind fun y => (compO t f r).bind fun ys => some (y :: ys) else compO t f r
theorem compO_pure {α β : Type} (t : α → Bool) (f : α → β) : ∀ xs : List α, compO (fun x => some (t x)) (fun x => some (f x)) xs = some ((xs.filter t).map f)
  | [] => rfl
  | x :: r => by
    unfold compO
    rw [Option.bind_some, compO_pure t f r, List.filter_cons]
    split
    · rfl
    · rfl
theorem compO_map {α β : Type} (f : α → β) : ∀ xs : List α, compO (fun _ => some true) (fun x => some (f x)) xs = some (xs.map f)
  | [] => rfl
  | x :: r => by
    unfold compO
    rw [Option.bind_some, compO_map f r]
    rfl
def mapO {α β : Type} (f : α → Option β) (xs : List α) : Option (List β) := compO (fun _ => some true) f xs

def WI (X : Cx) (tg iter : Expr) : TI := fun σ H R => ∀ (pins : List (Addr × Obj)) (s : Shared), Inv X pins σ H s →
  wpAny (model X.prog X.w) X.A (eval iter X.env) (fun v s1 => wpAny (model X.prog X.w) X.A (pyIter v) (PIE X pins σ tg R) X.xe s1) X.xe s
theorem pi_wi {X : Cx} {tg iter : Expr} : PI X tg iter (WI X tg iter) := ⟨fun pins s _ _ _ I h => h pins s I⟩
theorem wi_of {X : Cx} {tg iter : Expr} {t : TI} {σ : St} {H : Hp} {R : It → Hp → Prop} (h : PI X tg iter t) (q : t σ H R) : WI X tg iter σ H R := fun pins s I => h.run pins s σ H R I q
section
variable {α β γ δ : Type} [Enc α] [Enc β] [Enc γ] [Enc δ] {X : Cx} {σ : St} {s t : S} {e a b c tg : Expr} {es : List Expr} {pos p0 p1 p2 p3 : Pos}
structure Walk (K : PySem.W.Frag) (F : Hp) (J : It) (xs : List α) : Prop where
  go : ∀ (i : Nat) (t : S) (x : α), Fle F t.F → xs[i]? = some x → J.go i t.H ∧ ∀ v H', J.yld i t.H v H' → ∃ t' : S, t'.H = H' ∧ Ex t t' ∧ rep K t'.F v x
  stop : ∀ (i : Nat) (t : S), Fle F t.F → xs.length ≤ i → J.stop i t.H
def EvI (X : Cx) (tg e : Expr) (σ : St) (s : S) (xs : List α) : Prop := ∀ s1, Ex s s1 → ∀ R : It → Hp → Prop, (∀ J s2, Ex s1 s2 → Walk X.K s2.F J xs → R J s2.H) → WI X tg e σ s1.H R
theorem ei_list {xs : List α} (h : Ev X e σ s xs) : EvI X tg e σ s xs := fun s1 k R q =>
  wi_of (pi_list pe_we) (h s1 k _ fun v s2 k2 r2 => by
    obtain ⟨p, vs, rfl, h1, h2⟩ := r2
    refine ⟨p, rfl, ⟨vs, sql_mono s2.sub h1⟩, q _ s2 k2 ⟨fun i t x f hx => ?_, fun i t f hi => ⟨vs, sql_mono t.sub (sql_mono f h1), by rw [h2.len]; exact hi⟩⟩⟩
    obtain ⟨v, h3, h4⟩ := h2.get hx
    refine ⟨⟨vs, v, sql_mono t.sub (sql_mono f h1), h3⟩, fun w H' ⟨e1, hy⟩ => ⟨t, e1.symm, Ex.refl _, ?_⟩⟩
    have := hy vs (sql_mono t.sub (sql_mono f h1))
    rw [h3] at this
    cases this
    exact Enc.mono f h4)
theorem ei_tup {xs : Tu α} (h : Ev X e σ s xs) : EvI X tg e σ s xs.l := fun s1 k R q =>
  wi_of (pi_tup pe_we) (h s1 k _ fun v s2 k2 r2 => by
    obtain ⟨p, vs, rfl, h1, h2⟩ := r2
    refine ⟨p, rfl, ⟨vs, sqt_mono s2.sub h1⟩, q _ s2 k2 ⟨fun i t x f hx => ?_, fun i t f hi => ⟨vs, sqt_mono t.sub (sqt_mono f h1), by rw [h2.len]; exact hi⟩⟩⟩
    obtain ⟨v, h3, h4⟩ := h2.get hx
    refine ⟨⟨vs, v, sqt_mono t.sub (sqt_mono f h1), h3⟩, fun w H' ⟨e1, hy⟩ => ⟨t, e1.symm, Ex.refl _, ?_⟩⟩
    have := hy vs (sqt_mono t.sub (sqt_mono f h1))
    rw [h3] at this
    cases this
    exact Enc.mono f h4)
theorem rng_get {a b : Int} {i : Nat} {x : Int} (h : (rng a b)[i]? = some x) : i < (b - a).toNat ∧ x = a + (i : Int) := by
  unfold rng at h
  rw [List.getElem?_map] at h
  obtain ⟨j, h1, rfl⟩ := Option.map_eq_some_iff.mp h
  obtain ⟨h2, h3⟩ := List.getElem?_eq_some_iff.mp h1
  rw [List.length_range] at h2
  rw [List.getElem_range] at h3
  subst h3
  exact ⟨h2, rfl⟩
theorem rng_len (a b : Int) : (rng a b).length = (b - a).toNat := by unfold rng; rw [List.length_map, List.length_range]
theorem walk_rng {K : PySem.W.Frag} {F : Hp} {a b : Int} : Walk K F (Itr a (b - a).toNat) (rng a b) :=
  ⟨fun i t x f hx => ⟨(rng_get hx).1, fun v H' ⟨e1, e2⟩ => ⟨t, e1.symm, Ex.refl _, by rw [e2, (rng_get hx).2]; rfl⟩⟩, fun i t f hi => by rw [rng_len] at hi; exact hi⟩
def RgB (x : Int) : Prop := -(2 ^ 62) ≤ x ∧ x < 2 ^ 62
theorem ei_range1 {n : Int} (hm : X.mg "range" = none) (h : Ev X e σ s n) (hb : RgB n) (hg : Gl X "range" := by rfl) (hs : starEach [e] X.env = [(false, eval e X.env)] := by rfl) (hs2 : starEach [e] X.env = (false, eval e X.env) :: starEach [] X.env := by rfl) :
    EvI X tg (.Call (.Name "range" p0) [e] [] pos) σ s (rng 0 n) := fun s1 k R q =>
  wi_of (pi_range1 hg hm (pa_cons pe_we pa_nil hs2) hs) (h s1 k _ fun v s2 k2 r2 => ⟨n, by rw [show v = V.int n from r2], hb.1, hb.2, q _ s2 k2 (by
    have := walk_rng (K := X.K) (F := s2.F) (a := 0) (b := n)
    rw [Int.sub_zero] at this
    exact this)⟩)
theorem ei_range2 {m n : Int} (hm : X.mg "range" = none) (ha : Ev X a σ s m) (hb : Ev X b σ s n) (h1 : RgB m) (h2 : RgB n) (hg : Gl X "range" := by rfl) (hs : starEach [a, b] X.env = [(false, eval a X.env), (false, eval b X.env)] := by rfl) (hs2 : starEach [b] X.env = [(false, eval b X.env)] := by rfl)
    (hs3 : starEach [a, b] X.env = (false, eval a X.env) :: starEach [b] X.env := by rfl) (hs4 : starEach [b] X.env = (false, eval b X.env) :: starEach [] X.env := by rfl) :
    EvI X tg (.Call (.Name "range" p0) [a, b] [] pos) σ s (rng m n) := fun s1 k R q =>
  wi_of (pi_range2 hg hm (pa_cons pe_we (pa_cons pe_we pa_nil hs4) hs3) hs hs2) (ha s1 k _ fun v s2 k2 r2 => hb s2 (k.trans k2) _ fun u s3 k3 r3 => ⟨m, n, by rw [show v = V.int m from r2, show u = V.int n from r3], ⟨h1.1, h1.2, h2.1, h2.2⟩, q _ s3 (k2.trans k3) walk_rng⟩)
def chars (x : Str) : List Str := x.cps.toList.map fun c => ⟨#[c]⟩
theorem ei_str {x : Str} (h : Ev X e σ s x) : EvI X tg e σ s (chars x) := fun s1 k R q =>
  wi_of (pi_str pe_we) (h s1 k _ fun v s2 k2 r2 => ⟨x, r2, q _ s2 k2 ⟨fun i t y f hy => by
    unfold chars at hy
    rw [List.getElem?_map] at hy
    obtain ⟨c, h1, rfl⟩ := Option.map_eq_some_iff.mp hy
    have h1' : x.cps[i]? = some c := by simpa using h1
    refine ⟨?_, fun v H' ⟨e1, d, h2, h3⟩ => ⟨t, e1.symm, Ex.refl _, ?_⟩⟩
    · obtain ⟨z, _⟩ := Array.getElem?_eq_some_iff.mp h1'
      exact z
    · rw [h1'] at h2
      cases h2
      exact h3, fun i t f hi => by
    unfold chars at hi
    rw [List.length_map, Array.length_toList] at hi
    exact hi⟩⟩)
end

structure Tgt {α : Type} [Enc α] (K : PySem.W.Frag) (g : TG) (B : Hp → α → St → St → Prop) : Prop where
  run : ∀ (t : S) (v : V) (x : α) (σ : St) (Q : St → Hp → Prop), rep K t.F v x → (∀ σ2, B t.F x σ σ2 → Q σ2 t.H) → g v σ t.H Q
def BN {α : Type} [Enc α] (K : PySem.W.Frag) (j : Nat) : Hp → α → St → St → Prop := fun F x σ σ2 => ∃ v, rep K F v x ∧ σ2 = σ.set j (some v)
def B2 {α β : Type} [Enc α] [Enc β] (K : PySem.W.Frag) (i j : Nat) : Hp → α × β → St → St → Prop := fun F x σ σ2 => ∃ v w, rep K F v x.1 ∧ rep K F w x.2 ∧ σ2 = (σ.set i (some v)).set j (some w)
def B3 {α β γ : Type} [Enc α] [Enc β] [Enc γ] (K : PySem.W.Frag) (i j k : Nat) : Hp → T3 α β γ → St → St → Prop := fun F x σ σ2 => ∃ v w u, rep K F v x.a ∧ rep K F w x.b ∧ rep K F u x.c ∧ σ2 = ((σ.set i (some v)).set j (some w)).set k (some u)
theorem tg_n {α : Type} [Enc α] {K : PySem.W.Frag} {j : Nat} : Tgt (α := α) K (gName j) (BN K j) := ⟨fun t v x σ Q r h => h _ ⟨v, r, rfl⟩⟩
theorem tg_2 {α β : Type} [Enc α] [Enc β] {K : PySem.W.Frag} {i j : Nat} : Tgt (α := α × β) K (gTup K 2 (gCons (gName i) (gCons (gName j) gNil))) (B2 K i j) := ⟨fun t v x σ Q r h => by
  obtain ⟨p, v1, v2, rfl, h0, h1, h2⟩ := r
  exact ⟨p, _, rfl, sqt_mono t.sub h0, rfl, v1, _, rfl, v2, _, rfl, rfl, h _ ⟨v1, v2, h1, h2, rfl⟩⟩⟩
theorem tg_3 {α β γ : Type} [Enc α] [Enc β] [Enc γ] {K : PySem.W.Frag} {i j k : Nat} : Tgt (α := T3 α β γ) K (gTup K 3 (gCons (gName i) (gCons (gName j) (gCons (gName k) gNil)))) (B3 K i j k) := ⟨fun t v x σ Q r h => by
  obtain ⟨p, v1, v2, v3, rfl, h0, h1, h2, h3⟩ := r
  exact ⟨p, _, rfl, sqt_mono t.sub h0, rfl, v1, _, rfl, v2, _, rfl, v3, _, rfl, rfl, h _ ⟨v1, v2, v3, h1, h2, h3, rfl⟩⟩⟩

section
variable {α β : Type} [Enc α] [Enc β] {X : Cx} {σ : St} {s : S} {elt tg iter c : Expr} {ifs : List Expr} {scope : Scope} {own : List (Str × Nat)} {pos : Pos}
abbrev Blk (X : Cx) (scope : Scope) (s0 : Shared) (H0 : Hp) (C : Addr) (cl : List (Str × Addr)) (fp : List Addr) : Cx := X.blk s0 H0 scope (compEnvC scope cl C X.env) fp
theorem comp_read {xs : List α} {ys : List β} {t : α → Option Bool} {f : α → Option β} {g : TG} {B : Hp → α → St → St → Prop} {tt : TT} (hc : X.calm = true) (hN : X.N.Nodup) (hi : EvI X tg iter σ s xs) (ok : BlkOk X.N X.env.scope scope own)
    (hg : ∀ s0 H0 C cl fp, PG (Blk X scope s0 H0 C cl fp) tg g) (T : Tgt (α := α) X.K g B) (htt : ∀ s0 H0 C cl fp, PTs (Blk X scope s0 H0 C cl fp) ifs tt) (hf : compO t f xs = some ys) (hz : ys.length ≤ sizeLine)
    (hw : ∀ (F : Hp) (x : α) σ2, B F x (wipe σ (own.map (·.2))) σ2 → wipe σ2 (own.map (·.2)) = wipe σ (own.map (·.2)))
    (ht : ∀ (x : α) (b : Bool) (s1 : S) (σ2 : St) (Q : Bool → Hp → Prop), x ∈ xs → Ex s s1 → B s1.F x (wipe σ (own.map (·.2))) σ2 → t x = some b → (∀ s2, Ex s1 s2 → Q b s2.H) → tt σ2 s1.H Q)
    (he : ∀ (x : α) (y : β) (s1 : S) (σ2 : St), x ∈ xs → Ex s s1 → B s1.F x (wipe σ (own.map (·.2))) σ2 → t x = some true → f x = some y → ∀ s0 H0 C cl fp, Ev (Blk X scope s0 H0 C cl fp) elt σ2 s1 y)
    (s1 : S) (k : Ex s s1) (Q : VK) (q : ∀ p s2, Ex s1 s2 → s1.H p = none → Own X.K s2 p ys → Q (.ref p) s2.H) : tLc (WI X tg iter) g tt (fun σ H Q => ∀ s0 H0 C cl fp, WE (Blk X scope s0 H0 C cl fp) elt σ H Q) (own.map (·.2)) σ s1.H Q := by
  refine hi s1 k _ fun J s2 k2 W => ?_
  intro D hD
  refine ⟨fun i m H => ∃ (u : S) (pre : List β) (vs : List V), u.H = H ∧ m = xs.length - i ∧ Ex s2 u ∧ u.F D = none ∧ u.H D = some (.lst vs) ∧ Reps X.K u.F vs pre ∧ (∃ suf, compO t f (xs.drop i) = some suf ∧ pre ++ suf = ys), ⟨xs.length, s2.newO D (.lst []) hD, [], [], rfl, rfl, Ex.newO hD, (fF hD : s2.F D = none), upd_same, trivial, ys, hf, rfl⟩, ?_⟩
  rintro i m H ⟨u, pre, vs, rfl, rfl, ku, n1, n2, n3, suf, h1, h2⟩
  by_cases hi' : i < xs.length
  · right
    have hx : xs[i]? = some xs[i] := List.getElem?_eq_getElem hi'
    obtain ⟨g1, g2⟩ := W.go i u xs[i] ku.f hx
    refine ⟨g1, fun H' => ∃ m', m' < xs.length - i ∧ ∃ (u : S) (pre : List β) (vs : List V), u.H = H' ∧ m' = xs.length - (i + 1) ∧ Ex s2 u ∧ u.F D = none ∧ u.H D = some (.lst vs) ∧ Reps X.K u.F vs pre ∧ (∃ suf, compO t f (xs.drop (i + 1)) = some suf ∧ pre ++ suf = ys), fun H' z => z, fun v H' hy => ?_⟩
    obtain ⟨u', rfl, ku', rv⟩ := g2 v H' hy
    refine T.run u' v xs[i] _ _ rv fun σ2 hB => ⟨hw _ _ _ hB, ?_⟩
    rw [List.drop_eq_getElem_cons hi'] at h1
    unfold compO at h1
    cases hb : t xs[i] with
    | none => rw [hb] at h1; cases h1
    | some b =>
      rw [hb, Option.bind_some] at h1
      have mem : xs[i] ∈ xs := List.getElem_mem hi'
      have base : Ex s u' := (k.trans k2).trans (ku.trans ku')
      refine ht xs[i] b u' σ2 _ mem base hB hb fun u3 k3 => ?_
      have hlt : xs.length - (i + 1) < xs.length - i := by omega
      have kk : Ex u u3 := ku'.trans k3
      cases b with
      | false =>
        rw [if_neg Bool.false_ne_true] at h1 ⊢
        exact ⟨_, hlt, u3, pre, vs, rfl, rfl, ku.trans kk, kk.n _ _ n2 n1, kk.h _ _ n2, n3.mono kk.f, suf, h1, h2⟩
      | true =>
        rw [if_pos rfl] at h1 ⊢
        cases hfx : f xs[i] with
        | none => rw [hfx] at h1; cases h1
        | some y =>
          rw [hfx, Option.bind_some] at h1
          cases hr : compO t f (xs.drop (i + 1)) with
          | none => rw [hr] at h1; cases h1
          | some suf' =>
            rw [hr] at h1
            cases h1
            intro s0 H0 C cl fp
            refine he xs[i] y u' σ2 mem base hB hb hfx s0 H0 C cl fp u3 k3 _ fun w u4 k4 r4 => ?_
            have k5 : Ex u u4 := kk.trans k4
            have hD4 : u4.H D = some (.lst vs) := k5.h _ _ n2
            have hF4 : u4.F D = none := k5.n _ _ n2 n1
            have hlen : vs.length < sizeLine := by
              have e1 := n3.len
              have e2 : ys.length = pre.length + (suf'.length + 1) := by rw [← h2, List.length_append, List.length_cons]
              omega
            refine ⟨vs, hD4, hlen, _, hlt, u4.put D (.lst (vs ++ [w])) hF4, pre ++ [y], vs ++ [w], rfl, rfl, (ku.trans k5).mu1 (Mx.put hF4) hD, hF4, upd_same, (n3.mono k5.f).snoc r4, suf', rfl, by rw [List.append_assoc]; exact h2⟩
  · left
    have hd : xs.drop i = [] := List.drop_eq_nil_of_le (by omega)
    rw [hd] at h1
    cases h1
    refine ⟨W.stop i u ku.f (by omega), q D u (k2.trans ku) (fr_back k2 hD) ⟨n1, vs, n2, ?_⟩⟩
    rw [← h2, List.append_nil]
    exact n3
structure EvL (X : Cx) (elt tg iter : Expr) (ifs : List Expr) (scope : Scope) (σ : St) (s : S) (ys : List β) : Prop where
  calm : X.calm = true
  nd : X.N.Nodup
  fs : ∀ x, foldedSetIterable iter X.env x = pure x
  ex : ∃ (own : List (Str × Nat)) (g : TG) (tt : TT), BlkOk X.N X.env.scope scope own ∧ (∀ s0 H0 C cl fp, PG (Blk X scope s0 H0 C cl fp) tg g) ∧ (∀ s0 H0 C cl fp, PTs (Blk X scope s0 H0 C cl fp) ifs tt) ∧
    ∀ s1, Ex s s1 → ∀ Q : VK, (∀ p s2, Ex s1 s2 → s1.H p = none → Own X.K s2 p ys → Q (.ref p) s2.H) → tLc (WI X tg iter) g tt (fun σ H Q => ∀ s0 H0 C cl fp, WE (Blk X scope s0 H0 C cl fp) elt σ H Q) (own.map (·.2)) σ s1.H Q
theorem EvL.n {ys : List β} (h : EvL X elt tg iter ifs scope σ s ys) : EvN X (.ListComp elt [⟨tg, iter, ifs, 0⟩] scope pos) σ s ys := fun s1 k Q q => by
  obtain ⟨own, g, tt, h1, h2, h3, h4⟩ := h.ex
  exact we_of (pe_lc h.calm h.nd pi_wi h1 h2 h3 (fun s0 H0 C cl fp => ⟨fun pins s _ _ _ I h => h s0 H0 C cl fp pins s I⟩) h.fs) (h4 s1 k Q q)
theorem do_setL (i : Nat) {ys : List β} {n : Str} {py : Pos} {rest : List Stmt} {D : Ends} {spos : Pos} (h : EvL X elt tg iter ifs scope σ s ys) (k : ∀ p s1, Ex s s1 → s.H p = none → Own X.K s1 p ys → WSs X rest D (σ.set i (some (.ref p))) s1.H) (hk : X.env.scope.kind = .function) (hy : X.env.scope.names.lookup n = some .local)
    (hl : (py.line == pos.line) = true := by rfl) (ha : (scope.names.any fun (m, k) => m == n && (k == .local || k == .cell)) = false := by decide +kernel) (hi : X.N[i]? = some n := by rfl) :
    WSs X (.Assign [.Name n py] (.ListComp elt [⟨tg, iter, ifs, 0⟩] scope pos) spos :: rest) D σ s.H := by
  obtain ⟨own, g, tt, h1, h2, h3, h4⟩ := h.ex
  exact ws_of (pss_cons (ps_setLc (te := fun σ H Q => ∀ s0 H0 C cl fp, WE (Blk X scope s0 H0 C cl fp) elt σ H Q) h.calm h.nd hi hy (sw_true hk hy hl ha) pi_wi h1 h2 h3 (fun s0 H0 C cl fp => ⟨fun pins s _ _ _ I h => h s0 H0 C cl fp pins s I⟩) h.fs) pss_ws) (h4 s (Ex.refl _) (fun x H1 => WSs X rest D (σ.set i (some x)) H1) fun p s2 k2 n2 o2 => k p s2 k2 n2 o2)
theorem wipe_set {τ : St} {j : Nat} {o : Option V} : ∀ {vs : List Nat}, j ∈ vs → wipe (τ.set j o) vs = wipe τ vs
  | v :: vs, h => by
    show (wipe (τ.set j o) vs).set v none = (wipe τ vs).set v none
    by_cases e : j ∈ vs
    · rw [wipe_set e]
    · have : j = v := by
        rcases List.mem_cons.mp h with z | z
        · exact z
        · exact absurd z e
      subst this
      have : ∀ {ws : List Nat} {τ : St}, j ∉ ws → wipe (τ.set j o) ws = (wipe τ ws).set j o := by
        intro ws
        induction ws with
        | nil => intro τ _; rfl
        | cons a r ih =>
          intro τ h
          show (wipe (τ.set j o) r).set a none = ((wipe τ r).set a none).set j o
          rw [ih fun z => h (List.mem_cons_of_mem _ z), List.set_comm _ _ (fun z => h (by rw [z]; exact List.mem_cons_self))]
      rw [this e, List.set_set]
theorem wipe_wipe {τ : St} : ∀ {vs ws : List Nat}, (∀ v ∈ vs, v ∈ ws) → wipe (wipe τ vs) ws = wipe τ ws
  | [], _, _ => rfl
  | v :: vs, ws, h => by
    show wipe ((wipe τ vs).set v none) ws = wipe τ ws
    rw [wipe_set (h v List.mem_cons_self)]
    exact wipe_wipe fun u hu => h u (List.mem_cons_of_mem _ hu)
theorem en_comp0 {xs : List α} {ys : List β} {f : α → Option β} {j : Nat} {n : Str} {py : Pos} (hc : X.calm = true) (hN : X.N.Nodup) (hi : EvI X (.Name n py) iter σ s xs) (ok : BlkOk X.N X.env.scope scope own) (hj : X.N[j]? = some n)
    (hjo : j ∈ own.map (·.2)) (hg : ∀ s0 H0 C cl fp, PG (Blk X scope s0 H0 C cl fp) (.Name n py) (gName j)) (hf : mapO f xs = some ys) (hz : ys.length ≤ sizeLine)
    (he : ∀ (x : α) (y : β) (v : V) (s1 : S), x ∈ xs → Ex s s1 → rep X.K s1.F v x → f x = some y → ∀ s0 H0 C cl fp, Ev (Blk X scope s0 H0 C cl fp) elt ((wipe σ (own.map (·.2))).set j (some v)) s1 y)
    (hs : ∀ x, foldedSetIterable iter X.env x = pure x := by intro _; rfl) : EvL X elt (.Name n py) iter [] scope σ s ys :=
  ⟨hc, hN, hs, own, _, _, ok, hg, fun _ _ _ _ _ => pts_nil, fun s1 k Q q => comp_read (t := fun _ => some true) hc hN hi ok hg tg_n (fun _ _ _ _ _ => pts_nil) hf hz (fun F x σ2 ⟨v, _, e⟩ => by rw [e, wipe_set hjo]; exact wipe_wipe fun _ z => z)
    (fun x b s1 σ2 Q _ _ _ hb q => by cases hb; exact q s1 (Ex.refl _)) (fun x y s1 σ2 hx k ⟨v, r, e⟩ _ hfx => by subst e; exact he x y v s1 hx k r hfx) s1 k Q q⟩
theorem en_comp1 {xs : List α} {ys : List β} {t : α → Option Bool} {f : α → Option β} {j : Nat} {n : Str} {py : Pos} (hc : X.calm = true) (hN : X.N.Nodup) (hi : EvI X (.Name n py) iter σ s xs) (ok : BlkOk X.N X.env.scope scope own) (hj : X.N[j]? = some n)
    (hjo : j ∈ own.map (·.2)) (hg : ∀ s0 H0 C cl fp, PG (Blk X scope s0 H0 C cl fp) (.Name n py) (gName j)) (hf : compO t f xs = some ys) (hz : ys.length ≤ sizeLine)
    (ht : ∀ (x : α) (b : Bool) (v : V) (s1 : S), x ∈ xs → Ex s s1 → rep X.K s1.F v x → t x = some b → ∀ s0 H0 C cl fp, EvT (Blk X scope s0 H0 C cl fp) c ((wipe σ (own.map (·.2))).set j (some v)) s1 b)
    (he : ∀ (x : α) (y : β) (v : V) (s1 : S), x ∈ xs → Ex s s1 → rep X.K s1.F v x → t x = some true → f x = some y → ∀ s0 H0 C cl fp, Ev (Blk X scope s0 H0 C cl fp) elt ((wipe σ (own.map (·.2))).set j (some v)) s1 y)
    (hs : ∀ x, foldedSetIterable iter X.env x = pure x := by intro _; rfl) : EvL X elt (.Name n py) iter [c] scope σ s ys :=
  ⟨hc, hN, hs, own, _, _, ok, hg, fun s0 H0 C cl fp => pts_one ⟨fun pins s _ _ _ I h => h s0 H0 C cl fp pins s I⟩, fun s1 k Q q => comp_read (tt := fun σ H Q => ∀ s0 H0 C cl fp, WT (Blk X scope s0 H0 C cl fp) c σ H Q) hc hN hi ok hg tg_n (fun s0 H0 C cl fp => pts_one ⟨fun pins s _ _ _ I h => h s0 H0 C cl fp pins s I⟩) hf hz (fun F x σ2 ⟨v, _, e⟩ => by rw [e, wipe_set hjo]; exact wipe_wipe fun _ z => z)
    (fun x b s1 σ2 Q hx k ⟨v, r, e⟩ hb q => by subst e; intro s0 H0 C cl fp; exact ht x b v s1 hx k r hb s0 H0 C cl fp s1 (Ex.refl _) Q q) (fun x y s1 σ2 hx k ⟨v, r, e⟩ htx hfx => by subst e; exact he x y v s1 hx k r htx hfx) s1 k Q q⟩
end
end Dy

namespace Dy
open PySem PySem.Spec L2
open PyProof.Rows hiding St
open Enc (rep)
open Flat (toV)
open EncA (repA)

abbrev MD (D : Ends) (M : St → S → Prop) : Ends := { D with nx := fun σ H => ∃ s : S, s.H = H ∧ M σ s }
abbrev ND (D : Ends) : Ends := { D with nx := fun _ _ => False }
abbrev LD (D : Ends) (M : St → S → Prop) : Ends := { nx := fun σ H => ∃ s : S, s.H = H ∧ M σ s, rt := D.rt }
abbrev RD (Q : VK) : Ends := { nx := fun _ H' => Q .non H', rt := Q }
section
variable {α β γ δ : Type} [Enc α] [Enc β] [Enc γ] [Enc δ] {X : Cx} {σ : St} {s t : S} {e a b c tg iter : Expr} {es : List Expr} {pos p0 p1 p2 p3 : Pos} {D : Ends} {rest A B : List Stmt}
theorem do_nil (h : D.nx σ s.H) : WSs X [] D σ s.H := ws_of pss_nil h
theorem do_cons {st : Stmt} {ts : TS} (h : PS X st ts) (q : ts { D with nx := fun σ' H' => WSs X rest D σ' H' } σ s.H) : WSs X (st :: rest) D σ s.H := ws_of (pss_cons h pss_ws) q
theorem do_set (i : Nat) {x : α} {n : Str} {py : Pos} (h : Ev X e σ s x) (k : ∀ v s1, Ex s s1 → rep X.K s1.F v x → WSs X rest D (σ.set i (some v)) s1.H) (hN : X.N.Nodup) (hx : Loc X.env.scope n := by first | exact Or.inl rfl | exact Or.inr rfl) (hi : X.N[i]? = some n := by rfl)
    (hs : swapsWith e (some (.Name n py)) pos.line X.env = pure false := by rfl) (hf : X.fn n = true ∨ X.env.scope.names.lookup n = some .local := by first | exact .inl rfl | exact .inr rfl) : WSs X (.Assign [.Name n py] e pos :: rest) D σ s.H :=
  do_cons (ps_set hN hi hx pe_we hs hf) (h s (Ex.refl _) _ fun v s1 k1 r => k v s1 k1 r)
theorem do_setN (i : Nat) {xs : List α} {n : Str} {py : Pos} (h : EvN X e σ s xs) (k : ∀ p s1, Ex s s1 → s.H p = none → Own X.K s1 p xs → WSs X rest D (σ.set i (some (.ref p))) s1.H) (hN : X.N.Nodup) (hx : Loc X.env.scope n := by first | exact Or.inl rfl | exact Or.inr rfl) (hi : X.N[i]? = some n := by rfl)
    (hs : swapsWith e (some (.Name n py)) pos.line X.env = pure false := by rfl) (hf : X.fn n = true ∨ X.env.scope.names.lookup n = some .local := by first | exact .inl rfl | exact .inr rfl) : WSs X (.Assign [.Name n py] e pos :: rest) D σ s.H :=
  do_cons (ps_set hN hi hx pe_we hs hf) (h s (Ex.refl _) _ fun v s1 k1 n1 r => k v s1 k1 n1 r)
theorem do_ret {x : α} (h : Ev X e σ s x) (k : ∀ v s1, Ex s s1 → rep X.K s1.F v x → D.rt v s1.H) : WSs X (.Return (some e) pos :: rest) D σ s.H :=
  do_cons (ps_ret pe_we) (h s (Ex.refl _) _ fun v s1 k1 r => k v s1 k1 r)
theorem do_retN {xs : List α} (h : EvN X e σ s xs) (k : ∀ p s1, Ex s s1 → s.H p = none → Own X.K s1 p xs → D.rt (.ref p) s1.H) : WSs X (.Return (some e) pos :: rest) D σ s.H :=
  do_cons (ps_ret pe_we) (h s (Ex.refl _) _ fun v s1 k1 n1 r => k v s1 k1 n1 r)
theorem do_retO (i : Nat) {p : Addr} {n : Str} (h : σ[i]? = some (some (.ref p))) (k : D.rt (.ref p) s.H) (hN : X.N[i]? = some n := by rfl) (hv : Vis X.env.scope n := by first | exact Or.inl rfl | exact Or.inr (Or.inl rfl) | exact Or.inr (Or.inr rfl)) (hd : (n == ("__debug__" : Str)) = false := by decide)
    (hcd : (n == ("__classdict__" : Str)) = false := by decide) : WSs X (.Return (some (.Name n p0)) pos :: rest) D σ s.H :=
  do_cons (ps_ret (pe_var hN hv hd hcd)) ⟨_, h, k⟩
theorem do_if {x : Bool} (hc : EvT X c σ s x) (M : St → S → Prop) (h1 : x = true → ∀ s1, Ex s s1 → WSs X A (MD D M) σ s1.H) (h2 : x = false → ∀ s1, Ex s s1 → WSs X B (MD D M) σ s1.H)
    (h3 : ∀ σ' s', M σ' s' → WSs X rest D σ' s'.H) : WSs X (.If c A B pos :: rest) D σ s.H :=
  do_cons (ps_if pt_wt pss_ws pss_ws) (hc s (Ex.refl _) _ fun s1 k => by
    cases x with
    | true => exact iteT ((h1 rfl s1 k).imp (fun σ' H' ⟨s', e, m⟩ => e ▸ h3 σ' s' m) (fun _ _ q => q) (fun _ _ q => q) fun _ _ q => q)
    | false => exact iteF ((h2 rfl s1 k).imp (fun σ' H' ⟨s', e, m⟩ => e ▸ h3 σ' s' m) (fun _ _ q => q) (fun _ _ q => q) fun _ _ q => q))
theorem do_ifR {x : Bool} (hc : EvT X c σ s x) (h1 : x = true → ∀ s1, Ex s s1 → WSs X A (ND D) σ s1.H) (h2 : x = false → ∀ s1, Ex s s1 → WSs X rest D σ s1.H) : WSs X (.If c A [] pos :: rest) D σ s.H :=
  do_cons (ps_if pt_wt pss_ws pss_nil) (hc s (Ex.refl _) _ fun s1 k => by
    cases x with
    | true => exact iteT ((h1 rfl s1 k).imp (fun _ _ z => z.elim) (fun _ _ q => q) (fun _ _ q => q) fun _ _ q => q)
    | false => exact iteF (h2 rfl s1 k))
theorem do_ifRR {x : Bool} (hc : EvT X c σ s x) (h1 : x = true → ∀ s1, Ex s s1 → WSs X A (ND D) σ s1.H) (h2 : x = false → ∀ s1, Ex s s1 → WSs X B (ND D) σ s1.H) : WSs X (.If c A B pos :: rest) D σ s.H :=
  do_cons (ps_if pt_wt pss_ws pss_ws) (hc s (Ex.refl _) _ fun s1 k => by
    cases x with
    | true => exact iteT ((h1 rfl s1 k).imp (fun _ _ z => z.elim) (fun _ _ q => q) (fun _ _ q => q) fun _ _ q => q)
    | false => exact iteF ((h2 rfl s1 k).imp (fun _ _ z => z.elim) (fun _ _ q => q) (fun _ _ q => q) fun _ _ q => q))

theorem st_set {l : St} {i : Nat} {v : V} (h : l[i]? = some (some v)) : l[i]? = some (some v) := h
theorem do_append (i : Nat) {p : Addr} {n : Str} {xs : List α} {x : α} (hσ : σ[i]? = some (some (.ref p))) (o : Own X.K s p xs) (he : Ev X e σ s x) (hz : xs.length < sizeLine)
    (k : ∀ s1, Mx (· = p) s s1 → Own X.K s1 p (xs ++ [x]) → WSs X rest D σ s1.H)
    (hN : X.N[i]? = some n := by rfl) (hv : Vis X.env.scope n := by first | exact Or.inl rfl | exact Or.inr (Or.inl rfl) | exact Or.inr (Or.inr rfl)) (hd : (n == ("__debug__" : Str)) = false := by decide) (hcd : (n == ("__classdict__" : Str)) = false := by decide)
    (hbase : attributeBase (.Name n p0) "append" X.env (eval (.Name n p0) X.env) = eval (.Name n p0) X.env := by rfl)
    (hfew : ((backTo p2 (starEach [e] X.env)).all (fun x => !x.1) && (backToKw p2 (keywordEach [] X.env)).all (fun x => x.1.isSome) && decide (([e] : List Expr).length + ([] : List Keyword).length + (if ([] : List Keyword).isEmpty then 0 else 1) < 30)) = true := by rfl)
    (hline : (p1.endLine == p2.line) = true := by rfl) (hs : starEach [e] X.env = (false, eval e X.env) :: starEach [] X.env := by rfl) (hplain : (backTo p2 (starEach [] X.env)).any (·.1) = false := by rfl)
    (hsw : swapsWith (.Call (.Attribute (.Name n p0) "append" p1) [e] [] p2) none p3.line X.env = pure false := by rfl) :
    WSs X (.Expr (.Call (.Attribute (.Name n p0) "append" p1) [e] [] p2) p3 :: rest) D σ s.H :=
  do_cons (ps_expr (pe_bm PySem.F.plainAttrs_list PySem.F.slot_list_append PySem.F.type_list_append mt_append (pe_var hN hv hd hcd) (pa_cons pe_we pa_nil hs) hbase hfew hline hs hplain) hsw) (by
    obtain ⟨h1, vs, h2, h3⟩ := id o
    refine ⟨_, hσ, .inl ⟨rfl, vs, .inl (.inl h2)⟩, he s (Ex.refl _) _ fun v s1 k1 r1 => ?_⟩
    have f1 := k1.n _ _ h2 h1
    have g1 := k1.h _ _ h2
    refine ⟨p, vs, v, rfl, rfl, g1, by rw [h3.len]; exact hz, ?_⟩
    exact k (s1.put p (.lst (vs ++ [v])) f1) (k1.mx.trans (Mx.put f1)) ⟨f1, _, upd_same, (h3.mono k1.f).snoc r1⟩)
theorem do_extend (i : Nat) {p : Addr} {n : Str} {xs ys : List α} (hσ : σ[i]? = some (some (.ref p))) (o : Own X.K s p xs) (he : EvN X e σ s ys) (hz : xs.length + ys.length ≤ sizeLine)
    (k : ∀ s1, Mx (· = p) s s1 → Own X.K s1 p (xs ++ ys) → WSs X rest D σ s1.H)
    (hN : X.N[i]? = some n := by rfl) (hv : Vis X.env.scope n := by first | exact Or.inl rfl | exact Or.inr (Or.inl rfl) | exact Or.inr (Or.inr rfl)) (hd : (n == ("__debug__" : Str)) = false := by decide) (hcd : (n == ("__classdict__" : Str)) = false := by decide)
    (hbase : attributeBase (.Name n p0) "extend" X.env (eval (.Name n p0) X.env) = eval (.Name n p0) X.env := by rfl)
    (hfew : ((backTo p2 (starEach [e] X.env)).all (fun x => !x.1) && (backToKw p2 (keywordEach [] X.env)).all (fun x => x.1.isSome) && decide (([e] : List Expr).length + ([] : List Keyword).length + (if ([] : List Keyword).isEmpty then 0 else 1) < 30)) = true := by rfl)
    (hline : (p1.endLine == p2.line) = true := by rfl) (hs : starEach [e] X.env = (false, eval e X.env) :: starEach [] X.env := by rfl) (hplain : (backTo p2 (starEach [] X.env)).any (·.1) = false := by rfl)
    (hsw : swapsWith (.Call (.Attribute (.Name n p0) "extend" p1) [e] [] p2) none p3.line X.env = pure false := by rfl) :
    WSs X (.Expr (.Call (.Attribute (.Name n p0) "extend" p1) [e] [] p2) p3 :: rest) D σ s.H :=
  do_cons (ps_expr (pe_bm PySem.F.plainAttrs_list PySem.F.slot_list_extend PySem.F.type_list_extend mt_extend (pe_var hN hv hd hcd) (pa_cons pe_we pa_nil hs) hbase hfew hline hs hplain) hsw) (by
    obtain ⟨h1, vs, h2, h3⟩ := id o
    refine ⟨_, hσ, .inl ⟨rfl, vs, .inl (.inl h2)⟩, he s (Ex.refl _) _ fun q s1 k1 n1 o1 => ?_⟩
    obtain ⟨_, ws, h4, h5⟩ := o1
    have f1 := k1.n _ _ h2 h1
    have g1 := k1.h _ _ h2
    refine ⟨p, q, vs, ws, rfl, rfl, g1, h4, by rw [h3.len, h5.len]; exact hz, ?_⟩
    exact k (s1.put p (.lst (vs ++ ws)) f1) (k1.mx.trans (Mx.put f1)) ⟨f1, _, upd_same, (h3.mono k1.f).app h5⟩)
theorem do_setItem (i : Nat) {p : Addr} {n : Str} {xs : List α} {x : α} {z : Int} {j : Nat} (hσ : σ[i]? = some (some (.ref p))) (o : Own X.K s p xs) (he : Ev X e σ s x) (hi : Ev X a σ s z) (hj : ixN xs.length z = some j)
    (k : ∀ s1, Mx (· = p) s s1 → Own X.K s1 p (xs.set j x) → WSs X rest D σ s1.H)
    (hN : X.N[i]? = some n := by rfl) (hv : Vis X.env.scope n := by first | exact Or.inl rfl | exact Or.inr (Or.inl rfl) | exact Or.inr (Or.inr rfl)) (hd : (n == ("__debug__" : Str)) = false := by decide) (hcd : (n == ("__classdict__" : Str)) = false := by decide)
    (ha : ∀ v, assign (.Subscript (.Name n p0) a p1) X.env v = (do
      let ov ← holding [v] (eval (.Name n p0) X.env)
      let iv ← holding [v, ov] (eval a X.env)
      standAt p1
      holding [v, ov, iv] (setItem ov iv v)
      release [v, ov, iv] []) := by intro _; rfl)
    (hs : swapsWithSole [.Subscript (.Name n p0) a p1] e pos.line X.env = pure false := by rfl) (hw : swappedStores [.Subscript (.Name n p0) a p1] e X.env = pure none := by rfl)
    (h1 : (assignEach [.Subscript (.Name n p0) a p1] X.env).map (·.2) = [assign (.Subscript (.Name n p0) a p1) X.env] := by rfl) :
    WSs X (.Assign [.Subscript (.Name n p0) a p1] e pos :: rest) D σ s.H :=
  do_cons (ps_asg pe_we (pg_sub (pe_var hN hv hd hcd) pe_we set_list ha) hs hw h1) (by
    obtain ⟨f0, vs, h2, h3⟩ := id o
    refine he s (Ex.refl _) _ fun v s1 k1 r1 => ⟨_, hσ, hi s1 k1 _ fun u s2 k2 r2 => ?_⟩
    have k3 := k1.trans k2
    have f1 := k3.n _ _ h2 f0
    have g1 := k3.h _ _ h2
    refine ⟨p, vs, z, j, rfl, r2, g1, by rw [h3.len]; exact hj, ?_⟩
    exact k (s2.put p (.lst (vs.set j v)) f1) (k3.mx.trans (Mx.put f1)) ⟨f1, _, upd_same, (h3.mono k3.f).set j (Enc.mono k2.f r1)⟩)
theorem do_frz {p : Addr} {xs : List α} {ss : List Stmt} (o : Own X.K s p xs) (k : ∀ s' : S, s'.H = s.H → Fle s.F s'.F → (∀ q, q ≠ p → s'.F q = s.F q) → rep X.K s'.F (.ref p) xs → WSs X ss D σ s'.H) : WSs X ss D σ s.H := by
  obtain ⟨s', h1, h2, h3, h4⟩ := o.frz
  have := k s' h1 h2 h3 h4
  rw [h1] at this
  exact this

theorem foldO_drop {τ υ : Type} {f : υ → τ → Option υ} {b b1 : υ} {xs : List τ} {i : Nat} (hi : i < xs.length) (h : foldO f b (xs.drop i) = some b1) : ∃ b', f b xs[i] = some b' ∧ foldO f b' (xs.drop (i + 1)) = some b1 := by
  rw [List.drop_eq_getElem_cons hi] at h
  exact bndE h
theorem do_for_core {τ : Type} [Enc τ] {xs : List τ} {body : List Stmt} {g : TG} {B : Hp → τ → St → St → Prop} (hp : PassesOwn (model X.prog X.w) X.A X.env X.xe) (hc : X.calm = true) (hi : EvI X tg iter σ s xs) (hg : PG X tg g) (T : Tgt (α := τ) X.K g B)
    (R : Nat → St → S → Prop) (h0 : ∀ s1, Ex s s1 → R 0 σ s1)
    (hb : ∀ s1, Ex s s1 → ∀ (i : Nat) (x : τ) (σ' σ2 : St) (t t' : S), xs[i]? = some x → Fle s1.F t.F → R i σ' t → Ex t t' → B t'.F x σ' σ2 → WSs X body (LD D fun σ s => Fle t'.F s.F ∧ R (i + 1) σ s) σ2 t'.H)
    (hd : ∀ s1, Ex s s1 → ∀ σ' t, Fle s1.F t.F → R xs.length σ' t → WSs X rest D σ' t.H)
    (hs : ∀ x, foldedSetIterable iter X.env x = pure x := by intro _; rfl) : WSs X (.For tg iter body [] pos :: rest) D σ s.H :=
  do_cons (ps_for hp hc pi_wi hg pss_ws hs) (hi s (Ex.refl _) _ fun J s1 k1 W => by
    refine ⟨fun i m σ' H' => ∃ t : S, t.H = H' ∧ m = xs.length - i ∧ i ≤ xs.length ∧ Fle s1.F t.F ∧ R i σ' t, ⟨xs.length, s1, rfl, rfl, Nat.zero_le _, Fle.refl _, h0 s1 k1⟩, ?_⟩
    rintro i m σ' H' ⟨t, rfl, rfl, hle, f, r⟩
    by_cases hlt : i < xs.length
    · right
      obtain ⟨g1, g2⟩ := W.go i t xs[i] f (List.getElem?_eq_getElem hlt)
      refine ⟨g1, fun σ' H' => ∃ u : S, u.H = H' ∧ Fle s1.F u.F ∧ R (i + 1) σ' u, fun σ' H' ⟨u, e1, f1, r1⟩ => ⟨xs.length - (i + 1), by omega, u, e1, rfl, hlt, f1, r1⟩, fun v H' hy => ?_⟩
      obtain ⟨t', rfl, kt, rv⟩ := g2 v H' hy
      refine T.run t' v xs[i] _ _ rv fun σ2 hB => ?_
      have := hb s1 k1 i xs[i] σ' σ2 t t' (List.getElem?_eq_getElem hlt) f r kt hB
      exact this.imp (fun σ3 H3 ⟨u, e1, f1, r1⟩ => ⟨u, e1, (f.trans kt.f).trans f1, r1⟩) (fun _ _ q => q) (fun _ _ q => q.elim) (fun _ _ q => q.elim)
    · left
      have e : i = xs.length := by omega
      subst e
      exact ⟨W.stop _ t f (Nat.le_refl _), hd s1 k1 σ' t f r⟩)
theorem do_forO {τ υ : Type} [Enc τ] {xs : List τ} {f : υ → τ → Option υ} {b0 b1 : υ} {body : List Stmt} {g : TG} {B : Hp → τ → St → St → Prop} (hp : PassesOwn (model X.prog X.w) X.A X.env X.xe) (hc : X.calm = true) (hi : EvI X tg iter σ s xs) (hg : PG X tg g) (T : Tgt (α := τ) X.K g B)
    (hf : foldO f b0 xs = some b1) (R : υ → St → S → Prop) (h0 : ∀ s1, Ex s s1 → R b0 σ s1)
    (hb : ∀ s1, Ex s s1 → ∀ (x : τ) (b b' : υ) (σ' σ2 : St) (t t' : S), x ∈ xs → f b x = some b' → Fle s1.F t.F → R b σ' t → Ex t t' → B t'.F x σ' σ2 → WSs X body (LD D fun σ s => Fle t'.F s.F ∧ R b' σ s) σ2 t'.H)
    (hd : ∀ s1, Ex s s1 → ∀ σ' t, Fle s1.F t.F → R b1 σ' t → WSs X rest D σ' t.H)
    (hs : ∀ x, foldedSetIterable iter X.env x = pure x := by intro _; rfl) : WSs X (.For tg iter body [] pos :: rest) D σ s.H :=
  do_for_core hp hc hi hg T (fun i σ' t => ∃ b, foldO f b (xs.drop i) = some b1 ∧ R b σ' t) (fun s1 k => ⟨b0, hf, h0 s1 k⟩)
    (fun s1 k i x σ' σ2 t t' hx fl ⟨b, h1, h2⟩ kt hB => by
      obtain ⟨hlt, rfl⟩ := List.getElem?_eq_some_iff.mp hx
      obtain ⟨b', h3, h4⟩ := foldO_drop hlt h1
      exact (hb s1 k xs[i] b b' σ' σ2 t t' (List.getElem_mem hlt) h3 fl h2 kt hB).imp (fun σ3 H3 ⟨u, e1, f1, r1⟩ => ⟨u, e1, f1, b', h4, r1⟩) (fun _ _ q => q) (fun _ _ q => q.elim) (fun _ _ q => q.elim))
    (fun s1 k σ' t fl ⟨b, h1, h2⟩ => by
      rw [List.drop_length] at h1
      cases h1
      exact hd s1 k σ' t fl h2) hs
theorem foldF_drop {τ υ ρ : Type} {f : υ → τ → Option (Fl υ ρ)} {b : υ} {o : Fl υ ρ} {xs : List τ} {i : Nat} (hi : i < xs.length) (h : foldF f b (xs.drop i) = some o) : ∃ q, f b xs[i] = some q ∧ (∀ b', q = .nx b' → foldF f b' (xs.drop (i + 1)) = some o) ∧ ∀ r, q = .rt r → o = .rt r := by
  rw [List.drop_eq_getElem_cons hi] at h
  obtain ⟨q, h1, h2⟩ := bndE h
  refine ⟨q, h1, fun b' e => by subst e; exact h2, fun r e => by subst e; exact (Option.some.inj h2).symm⟩
theorem do_forF {τ υ ρ : Type} [Enc τ] {xs : List τ} {f : υ → τ → Option (Fl υ ρ)} {b0 : υ} {o : Fl υ ρ} {body : List Stmt} {g : TG} {B : Hp → τ → St → St → Prop} (hp : PassesOwn (model X.prog X.w) X.A X.env X.xe) (hc : X.calm = true) (hi : EvI X tg iter σ s xs) (hg : PG X tg g) (T : Tgt (α := τ) X.K g B)
    (hf : foldF f b0 xs = some o) (R : υ → St → S → Prop) (h0 : ∀ s1, Ex s s1 → R b0 σ s1)
    (hb : ∀ s1, Ex s s1 → ∀ (x : τ) (b : υ) (q : Fl υ ρ) (σ' σ2 : St) (t t' : S), x ∈ xs → f b x = some q → (∀ r, q = .rt r → o = .rt r) → Fle s1.F t.F → R b σ' t → Ex t t' → B t'.F x σ' σ2 → WSs X body (LD D fun σ s => ∃ b', q = .nx b' ∧ Fle t'.F s.F ∧ R b' σ s) σ2 t'.H)
    (hd : ∀ s1, Ex s s1 → ∀ b1 σ' t, o = .nx b1 → Fle s1.F t.F → R b1 σ' t → WSs X rest D σ' t.H)
    (hs : ∀ x, foldedSetIterable iter X.env x = pure x := by intro _; rfl) : WSs X (.For tg iter body [] pos :: rest) D σ s.H :=
  do_for_core hp hc hi hg T (fun i σ' t => ∃ b, foldF f b (xs.drop i) = some o ∧ R b σ' t) (fun s1 k => ⟨b0, hf, h0 s1 k⟩)
    (fun s1 k i x σ' σ2 t t' hx fl ⟨b, h1, h2⟩ kt hB => by
      obtain ⟨hlt, rfl⟩ := List.getElem?_eq_some_iff.mp hx
      obtain ⟨q, h3, h4, h5⟩ := foldF_drop hlt h1
      exact (hb s1 k xs[i] b q σ' σ2 t t' (List.getElem_mem hlt) h3 h5 fl h2 kt hB).imp (fun σ3 H3 ⟨u, e1, b', e2, f1, r1⟩ => ⟨u, e1, f1, b', h4 b' e2, r1⟩) (fun _ _ q => q) (fun _ _ q => q.elim) (fun _ _ q => q.elim))
    (fun s1 k σ' t fl ⟨b, h1, h2⟩ => by
      rw [List.drop_length] at h1
      cases h1
      exact hd s1 k b σ' t rfl fl h2) hs
theorem do_whileO {υ : Type} {cf : υ → Option Bool} {f : υ → Option υ} {n : Nat} {b0 b1 : υ} {body : List Stmt} (hp : PassesOwn (model X.prog X.w) X.A X.env X.xe) (hf : whileO cf f n b0 = some b1) (R : υ → St → S → Prop) (h0 : R b0 σ s)
    (hc : ∀ (b : υ) (x : Bool) (σ' : St) (t : S), cf b = some x → Fle s.F t.F → R b σ' t → EvT X c σ' t x)
    (hb : ∀ (b b' : υ) (σ' : St) (t t' : S), cf b = some true → f b = some b' → Fle s.F t.F → R b σ' t → Ex t t' → WSs X body (LD D fun σ s => Fle t'.F s.F ∧ R b' σ s) σ' t'.H)
    (hd : ∀ σ' t t', cf b1 = some false → Fle s.F t.F → R b1 σ' t → Ex t t' → WSs X rest D σ' t'.H) : WSs X (.While c body [] pos :: rest) D σ s.H :=
  do_cons (ps_while hp pt_wt pss_ws) (by
    refine ⟨fun m σ' H' => ∃ (t : S) (b : υ), t.H = H' ∧ Fle s.F t.F ∧ whileO cf f m b = some b1 ∧ R b σ' t, ⟨n, s, b0, rfl, Fle.refl _, hf, h0⟩, ?_⟩
    rintro m σ' H' ⟨t, b, rfl, fl, h1, h2⟩
    cases m with
    | zero => cases h1
    | succ m =>
      obtain ⟨x, h3, h4⟩ := bndE h1
      refine hc b x σ' t h3 fl h2 t (Ex.refl _) _ fun t' kt => ?_
      cases x with
      | true =>
        refine iteT ?_
        rw [if_pos rfl] at h4
        obtain ⟨b', h5, h6⟩ := bndE h4
        refine ⟨fun σ3 H3 => ∃ u : S, u.H = H3 ∧ Fle s.F u.F ∧ R b' σ3 u, fun σ3 H3 ⟨u, e1, f1, r1⟩ => ⟨m, Nat.lt_succ_self _, u, b', e1, f1, h6, r1⟩, ?_⟩
        exact (hb b b' σ' t t' h3 h5 fl h2 kt).imp (fun σ3 H3 ⟨u, e1, f1, r1⟩ => ⟨u, e1, (fl.trans kt.f).trans f1, r1⟩) (fun _ _ q => q) (fun _ _ q => q.elim) (fun _ _ q => q.elim)
      | false =>
        refine iteF ?_
        rw [if_neg Bool.false_ne_true] at h4
        cases h4
        exact hd σ' t t' h3 fl h2 kt)
end
end Dy

namespace Dy
open PySem PySem.Spec L2
open PyProof.Rows hiding St
open Enc (rep)
open Flat (toV)
open EncA (repA)

section
variable {P : Program} {w : World} {K : PySem.W.Frag} {mg : Str → Option Value} {base : Heap}
abbrev FunP (K : PySem.W.Frag) (x : Str) (st : Stmt) (f : Addr) (fd : FuncData) : Prop := FunD K x x (defArgs st) (defBody st) (defScope st) [] [] f fd
theorem mk_fn {A ρ : Type} [EncA A] [Enc ρ] {m : A → Option ρ} {x : Str} {st : Stmt} {f : Addr} {fd : FuncData} {N ps : List Str} {k : Nat} (F : FunP K x st f fd) (Sc : FnScope N ps (defScope st))
    (hl : ∀ (F : Hp) (vs : List V) (a : A), repA K F vs a → vs.length = ps.length)
    (body : ∀ (cdv : Value) (A' : Around) (outer : List Env) (s0 : Shared) (H0 : Hp) (E0 : XK), Room k (A'.deeper (envOfC x (defScope st) s0.heap.objs.size f cdv)) → ∀ (s : S) (vs : List V) (a : A) (r : ρ) (Q : VK), repA K s.F vs a → m a = some r →
      (∀ v s', Ex s s' → rep K s'.F v r → Q v s'.H) → WSs (cxOf CX0 P w K mg base N x (defScope st) f cdv A' outer s0 H0 E0).nox (defBody st) (RD Q) (start N vs) s.H) : FnOk P w K mg base CX0 (k + 1) f fd ps (sp K m) :=
  F.ok Sc (fun vs H Q E ⟨s, a, r, _, h, _⟩ => hl s.F vs a h) (fun cdv A' outer s0 H0 vs Q E hr ⟨s, a, r, e, h1, h2, h3⟩ => ⟨_, pss_ws.nox, by
    have := body cdv A' outer s0 H0 E hr s vs a r Q h1 h2 h3
    rw [e] at this
    exact this⟩)
theorem mk_cal {A ρ : Type} [EncA A] [Enc ρ] {m : A → Option ρ} {x : Str} {st : Stmt} {f : Addr} {fd : FuncData} {N ps : List Str} {k : Nat} (F : FunP K x st f fd) (hm : mg x = some (.ref f)) (b : Binds K fd ps []) (Sc : FnScope N ps (defScope st))
    (hl : ∀ (F : Hp) (vs : List V) (a : A), repA K F vs a → vs.length = ps.length)
    (body : ∀ (cdv : Value) (A' : Around) (outer : List Env) (s0 : Shared) (H0 : Hp) (E0 : XK), Room k (A'.deeper (envOfC x (defScope st) s0.heap.objs.size f cdv)) → ∀ (s : S) (vs : List V) (a : A) (r : ρ) (Q : VK), repA K s.F vs a → m a = some r →
      (∀ v s', Ex s s' → rep K s'.F v r → Q v s'.H) → WSs (cxOf CX0 P w K mg base N x (defScope st) f cdv A' outer s0 H0 E0).nox (defBody st) (RD Q) (start N vs) s.H) : Cal P w K mg base CX0 (k + 1) x (sp K m) :=
  ⟨f, fd, ps, F.ok Sc (fun vs H Q E ⟨s, a, r, _, h, _⟩ => hl s.F vs a h) (fun cdv A' outer s0 H0 vs Q E hr ⟨s, a, r, e, h1, h2, h3⟩ => ⟨_, pss_ws.nox, by
    have := body cdv A' outer s0 H0 E hr s vs a r Q h1 h2 h3
    rw [e] at this
    exact this⟩), hm, F.kp, b⟩
theorem mk_calN {A ρ : Type} [EncA A] [Enc ρ] {m : A → Option (List ρ)} {x : Str} {st : Stmt} {f : Addr} {fd : FuncData} {N ps : List Str} {k : Nat} (F : FunP K x st f fd) (hm : mg x = some (.ref f)) (b : Binds K fd ps []) (Sc : FnScope N ps (defScope st))
    (hl : ∀ (F : Hp) (vs : List V) (a : A), repA K F vs a → vs.length = ps.length)
    (body : ∀ (cdv : Value) (A' : Around) (outer : List Env) (s0 : Shared) (H0 : Hp) (E0 : XK), Room k (A'.deeper (envOfC x (defScope st) s0.heap.objs.size f cdv)) → ∀ (s : S) (vs : List V) (a : A) (r : List ρ) (Q : VK), repA K s.F vs a → m a = some r →
      (∀ p s', Ex s s' → s.H p = none → Own K s' p r → Q (.ref p) s'.H) → WSs (cxOf CX0 P w K mg base N x (defScope st) f cdv A' outer s0 H0 E0).nox (defBody st) (RD Q) (start N vs) s.H) : Cal P w K mg base CX0 (k + 1) x (spN K m) :=
  ⟨f, fd, ps, F.ok Sc (fun vs H Q E ⟨s, a, r, _, h, _⟩ => hl s.F vs a h) (fun cdv A' outer s0 H0 vs Q E hr ⟨s, a, r, e, h1, h2, h3⟩ => ⟨_, pss_ws.nox, by
    have := body cdv A' outer s0 H0 E hr s vs a r Q h1 h2 h3
    rw [e] at this
    exact this⟩), hm, F.kp, b⟩
theorem len1 {α : Type} [Enc α] (F : Hp) (vs : List V) (a : α × Unit) (h : repA K F vs a) : vs.length = 1 := by obtain ⟨_, _, rfl, _, rfl⟩ := h; rfl
theorem len2 {α β : Type} [Enc α] [Enc β] (F : Hp) (vs : List V) (a : α × β × Unit) (h : repA K F vs a) : vs.length = 2 := by obtain ⟨_, _, rfl, _, _, _, rfl, _, rfl⟩ := h; rfl
theorem len3 {α β γ : Type} [Enc α] [Enc β] [Enc γ] (F : Hp) (vs : List V) (a : α × β × γ × Unit) (h : repA K F vs a) : vs.length = 3 := by obtain ⟨_, _, rfl, _, _, _, rfl, _, _, _, rfl, _, rfl⟩ := h; rfl
theorem len4 {α β γ δ : Type} [Enc α] [Enc β] [Enc γ] [Enc δ] (F : Hp) (vs : List V) (a : α × β × γ × δ × Unit) (h : repA K F vs a) : vs.length = 4 := by obtain ⟨_, _, rfl, _, _, _, rfl, _, _, _, rfl, _, _, _, rfl, _, rfl⟩ := h; rfl
theorem len5 {α β γ δ ε : Type} [Enc α] [Enc β] [Enc γ] [Enc δ] [Enc ε] (F : Hp) (vs : List V) (a : α × β × γ × δ × ε × Unit) (h : repA K F vs a) : vs.length = 5 := by obtain ⟨_, _, rfl, _, _, _, rfl, _, _, _, rfl, _, _, _, rfl, _, _, _, rfl, _, rfl⟩ := h; rfl
theorem len6 {α β γ δ ε ζ : Type} [Enc α] [Enc β] [Enc γ] [Enc δ] [Enc ε] [Enc ζ] (F : Hp) (vs : List V) (a : α × β × γ × δ × ε × ζ × Unit) (h : repA K F vs a) : vs.length = 6 := by obtain ⟨_, _, rfl, _, _, _, rfl, _, _, _, rfl, _, _, _, rfl, _, _, _, rfl, _, _, _, rfl, _, rfl⟩ := h; rfl
end

class Ty (α : Type) extends Enc α where
  ty : α → String
  is : ∀ {K : PySem.W.Frag} {F H : Hp} {v : V} {x : α}, rep K F v x → Fle F H → TyX K H v (.type (ty x))
theorem sql_ty {K : PySem.W.Frag} {H : Hp} {p : Addr} {vs : List V} (h : SqL K H p vs) : TyX K H (.ref p) (.type "list") := by
  rcases h with (h | ⟨o, h⟩) | ⟨o, its, n, h, hc, _⟩
  · exact .base (.lst h)
  · exact .base (.frz h)
  · exact .kList h hc
theorem sqt_ty {K : PySem.W.Frag} {H : Hp} {p : Addr} {vs : List V} (h : SqT K H p vs) : TyX K H (.ref p) (.type "tuple") := by
  rcases h with (h | ⟨o, h⟩) | ⟨o, its, n, h, hc, _⟩
  · exact .base (.tup h)
  · exact .fTuple h
  · exact .kTuple h hc
instance : Ty Int := ⟨fun _ => "int", fun {K F H v x} h _ => by rw [show v = V.int x from h]; exact .base (.int _)⟩
instance : Ty Bool := ⟨fun _ => "bool", fun {K F H v x} h _ => by rw [show v = V.bl x from h]; exact .base (.bl _)⟩
instance : Ty Str := ⟨fun _ => "str", fun {K F H v x} h _ => by rw [show v = V.str x from h]; exact .base (.str _)⟩
instance {α : Type} [Ty α] : Ty (Option α) := ⟨fun x => match x with | none => "NoneType" | some y => Ty.ty y, fun {K F H v x} h f => by
  cases x with
  | none => rw [show v = V.non from h]; exact .base .non
  | some y => exact Ty.is (α := α) h f⟩
instance {α : Type} [Enc α] : Ty (List α) := ⟨fun _ => "list", fun h f => by
  obtain ⟨p, vs, rfl, h1, _⟩ := h
  exact sql_ty (sql_mono f h1)⟩
instance {α : Type} [Enc α] : Ty (Tu α) := ⟨fun _ => "tuple", fun h f => by
  obtain ⟨p, vs, rfl, h1, _⟩ := h
  exact sqt_ty (sqt_mono f h1)⟩
instance {α β : Type} [Enc α] [Enc β] : Ty (α × β) := ⟨fun _ => "tuple", fun h f => by
  obtain ⟨p, v1, v2, rfl, h1, _⟩ := h
  exact sqt_ty (sqt_mono f h1)⟩
instance {α : Type} [Enc α] : Ty (T1 α) := ⟨fun _ => "tuple", fun h f => by
  obtain ⟨p, v1, rfl, h1, _⟩ := h
  exact sqt_ty (sqt_mono f h1)⟩
instance {α β γ : Type} [Enc α] [Enc β] [Enc γ] : Ty (T3 α β γ) := ⟨fun _ => "tuple", fun h f => by
  obtain ⟨p, v1, v2, v3, rfl, h1, _⟩ := h
  exact sqt_ty (sqt_mono f h1)⟩
instance {α β γ δ : Type} [Enc α] [Enc β] [Enc γ] [Enc δ] : Ty (T4 α β γ δ) := ⟨fun _ => "tuple", fun h f => by
  obtain ⟨p, v1, v2, v3, v4, rfl, h1, _⟩ := h
  exact sqt_ty (sqt_mono f h1)⟩
instance {α β γ δ ε : Type} [Enc α] [Enc β] [Enc γ] [Enc δ] [Enc ε] : Ty (T5 α β γ δ ε) := ⟨fun _ => "tuple", fun h f => by
  obtain ⟨p, v1, v2, v3, v4, v5, rfl, h1, _⟩ := h
  exact sqt_ty (sqt_mono f h1)⟩
section
variable {α β : Type} {X : Cx} {σ : St} {s : S} {a b : Expr} {pos p0 p1 p2 p3 : Pos}
theorem ev_isi [Ty α] {x : α} {n : Str} {T : String} {r : Bool} (hm : X.mg "isinstance" = none) (hn : X.mg n = none) (hv : bootBuiltins n = some (.type T)) (ha : Ev X a σ s x) (h : kitB (Ty.ty x) T = some r)
    (hg : Gl X "isinstance" := by rfl) (hgn : Gl X n := by rfl) (he : starEach [a, .Name n p1] X.env = (false, eval a X.env) :: starEach [.Name n p1] X.env := by rfl) (he2 : starEach [.Name n p1] X.env = (false, eval (.Name n p1) X.env) :: starEach [] X.env := by rfl) (hpl : (backTo pos (starEach [.Name n p1] X.env)).any (·.1) = false := by rfl)
    (hnn : n ≠ "__name__" := by decide) (hnd : (n == ("__debug__" : Str)) = false := by decide) :
    Ev X (.Call (.Name "isinstance" p0) [a, .Name n p1] [] pos) σ s r := fun s1 k Q q =>
  we_of (pe_callB call_isi hg hm (by decide +kernel) (pa_cons pe_we (pa_cons (pe_bltn (v := .ty T) hgn hn hv rfl hnn hnd) pa_nil he2) he) (he := he) (hpl := hpl)) (ha s1 k _ fun v s2 k2 r2 =>
    ⟨v, .ty T, .type (Ty.ty x), .type T, r, rfl, .ty T, Ty.is r2 s2.sub, kit_ty h, q _ s2 k2 rfl⟩)

class EqD (α : Type) extends Enc α where
  toD : α → PyData
  dp : ∀ {K : PySem.W.Frag} {F H : Hp} {v : V} {x : α}, rep K F v x → Fle F H → Dp K H v (toD x)
  eqv : ∀ x y : α, PyData.eqv (toD x) (toD y) = true ↔ x = y
def DpR {α : Type} [EqD α] {K : PySem.W.Frag} {F H : Hp} (f : Fle F H) : ∀ {vs : List V} {xs : List α}, Reps K F vs xs → DpAll K H vs (xs.map EqD.toD)
  | [], [], _ => .nil
  | _ :: _, _ :: _, ⟨h, t⟩ => .cons (EqD.dp h f) (DpR f t)
  | [], _ :: _, h => h.elim
  | _ :: _, [], h => h.elim
theorem eqv_all {α : Type} [EqD α] : ∀ xs ys : List α, PyData.eqvAll (xs.map EqD.toD) (ys.map EqD.toD) = true ↔ xs = ys
  | [], [] => by simp [PyData.eqvAll]
  | [], _ :: _ => by simp [PyData.eqvAll]
  | _ :: _, [] => by simp [PyData.eqvAll]
  | x :: xs, y :: ys => by
    show (PyData.eqv (EqD.toD x) (EqD.toD y) && PyData.eqvAll (xs.map EqD.toD) (ys.map EqD.toD)) = true ↔ _
    rw [Bool.and_eq_true, EqD.eqv, eqv_all xs ys]
    simp
instance : EqD Int := ⟨PyData.int, fun {K F H v x} h _ => by rw [show v = V.int x from h]; exact .int _, fun x y => by show (x == y) = true ↔ _; simp⟩
instance : EqD Bool := ⟨PyData.bool, fun {K F H v x} h _ => by rw [show v = V.bl x from h]; exact .bl _, fun x y => by show (x == y) = true ↔ _; simp⟩
instance : EqD Str := ⟨PyData.str, fun {K F H v x} h _ => by rw [show v = V.str x from h]; exact .str _, fun x y => by show (x == y) = true ↔ _; simp⟩
instance : EqD (Option Int) := ⟨fun x => match x with | none => .none | some i => .int i, fun {K F H v x} h _ => by
  cases x with
  | none => rw [show v = V.non from h]; exact .non
  | some i => rw [show v = V.int i from h]; exact .int _, fun x y => by cases x <;> cases y <;> simp [PyData.eqv]⟩
instance : EqD (Option Str) := ⟨fun x => match x with | none => .none | some i => .str i, fun {K F H v x} h _ => by
  cases x with
  | none => rw [show v = V.non from h]; exact .non
  | some i => rw [show v = V.str i from h]; exact .str _, fun x y => by cases x <;> cases y <;> simp [PyData.eqv]⟩
instance {α : Type} [EqD α] : EqD (List α) := ⟨fun xs => .list (xs.map EqD.toD), fun h f => by
  obtain ⟨p, vs, rfl, h1, h2⟩ := h
  exact .lst (sql_mono f h1) (DpR f h2), fun x y => eqv_all x y⟩
instance {α : Type} [EqD α] : EqD (Tu α) := ⟨fun xs => .tuple (xs.l.map EqD.toD), fun h f => by
  obtain ⟨p, vs, rfl, h1, h2⟩ := h
  exact .tup (sqt_mono f h1) (DpR f h2), fun x y => by
    obtain ⟨x⟩ := x
    obtain ⟨y⟩ := y
    show PyData.eqvAll _ _ = true ↔ _
    rw [eqv_all]; simp⟩
instance {α β : Type} [EqD α] [EqD β] : EqD (α × β) := ⟨fun x => .tuple [EqD.toD x.1, EqD.toD x.2], fun h f => by
  obtain ⟨p, v1, v2, rfl, h0, h1, h2⟩ := h
  exact .tup (sqt_mono f h0) (.cons (EqD.dp h1 f) (.cons (EqD.dp h2 f) .nil)), fun x y => by
    obtain ⟨x1, x2⟩ := x
    obtain ⟨y1, y2⟩ := y
    show (PyData.eqv _ _ && (PyData.eqv _ _ && true)) = true ↔ _
    rw [Bool.and_eq_true, Bool.and_eq_true, EqD.eqv, EqD.eqv]; simp⟩
instance {α β γ : Type} [EqD α] [EqD β] [EqD γ] : EqD (T3 α β γ) := ⟨fun x => .tuple [EqD.toD x.a, EqD.toD x.b, EqD.toD x.c], fun h f => by
  obtain ⟨p, v1, v2, v3, rfl, h0, h1, h2, h3⟩ := h
  exact .tup (sqt_mono f h0) (.cons (EqD.dp h1 f) (.cons (EqD.dp h2 f) (.cons (EqD.dp h3 f) .nil))), fun x y => by
    obtain ⟨x1, x2, x3⟩ := x
    obtain ⟨y1, y2, y3⟩ := y
    show (PyData.eqv _ _ && (PyData.eqv _ _ && (PyData.eqv _ _ && true))) = true ↔ _
    rw [Bool.and_eq_true, Bool.and_eq_true, Bool.and_eq_true, EqD.eqv, EqD.eqv, EqD.eqv]; simp⟩
instance {α : Type} [EqD α] : EqD (T1 α) := ⟨fun x => .tuple [EqD.toD x.a], fun h f => by
  obtain ⟨p, v1, rfl, h0, h1⟩ := h
  exact .tup (sqt_mono f h0) (.cons (EqD.dp h1 f) .nil), fun x y => by
    obtain ⟨x1⟩ := x
    obtain ⟨y1⟩ := y
    show (PyData.eqv _ _ && true) = true ↔ _
    rw [Bool.and_eq_true, EqD.eqv]; simp⟩
def shp {α : Type} [EqD α] (x : α) : Prop := SeqAt.shaped (EqD.toD x) = true
theorem eqv_dec {α : Type} [EqD α] [DecidableEq α] (x y : α) : PyData.eqv (EqD.toD x) (EqD.toD y) = decide (x = y) := by
  rw [Bool.eq_iff_iff, EqD.eqv, decide_eq_true_eq]
theorem repR_d {α : Type} [EqD α] {K : PySem.W.Frag} {v : V} {xs : List α} (h : RepR K s v xs) : Dp K s.H v (EqD.toD xs) := by
  obtain ⟨p, vs, rfl, h1, h2⟩ := h
  exact .lst h1 (DpR s.sub h2)
theorem hu64 {j : Nat} (hr : Room j X.A) : X.A.units + 64 < cLine := by
  have := hr.un
  omega
theorem eb_eqD [EqD α] [DecidableEq α] {x y : α} {j : Nat} (hr : Room j X.A) (ha : Ev X a σ s x) (hb : Ev X b σ s y) (h1 : shp x) (h2 : shp y) : EvB X (.Compare a [.Eq] [b] pos) σ s (decide (x = y)) :=
  eb_cmp (op_eqD (hu64 hr)) ha hb (fun v u s2 hv hu Q q => ⟨_, _, EqD.dp hv s2.sub, EqD.dp hu s2.sub, h1, h2, by rw [eqv_dec]; exact q⟩) (nomark _)
theorem eb_neD [EqD α] [DecidableEq α] {x y : α} {j : Nat} (hr : Room j X.A) (ha : Ev X a σ s x) (hb : Ev X b σ s y) (h1 : shp x) (h2 : shp y) : EvB X (.Compare a [.NotEq] [b] pos) σ s (!decide (x = y)) :=
  eb_cmp (op_neD (hu64 hr)) ha hb (fun v u s2 hv hu Q q => ⟨_, _, EqD.dp hv s2.sub, EqD.dp hu s2.sub, h1, h2, by rw [eqv_dec]; exact q⟩) (nomark _)
theorem eb_eqL [EqD α] [DecidableEq α] {x y : List α} {j : Nat} (hr : Room j X.A) (ha : EvR X a σ s x) (hb : EvR X b σ s y) (h1 : shp x) (h2 : shp y) : EvB X (.Compare a [.Eq] [b] pos) σ s (decide (x = y)) :=
  eb_cmpRR (op_eqD (hu64 hr)) ha hb (fun v u s2 hv hu Q q => ⟨_, _, repR_d hv, repR_d hu, h1, h2, by rw [eqv_dec]; exact q⟩) (nomark _)
theorem eb_neL [EqD α] [DecidableEq α] {x y : List α} {j : Nat} (hr : Room j X.A) (ha : EvR X a σ s x) (hb : EvR X b σ s y) (h1 : shp x) (h2 : shp y) : EvB X (.Compare a [.NotEq] [b] pos) σ s (!decide (x = y)) :=
  eb_cmpRR (op_neD (hu64 hr)) ha hb (fun v u s2 hv hu Q q => ⟨_, _, repR_d hv, repR_d hu, h1, h2, by rw [eqv_dec]; exact q⟩) (nomark _)
end

class Shp (α : Type) (n : outParam Nat) extends EqD α where
  ok : ∀ x : α, PyData.canLay0 (EqD.toD x) = true ∧ PyData.depth (EqD.toD x) ≤ n
theorem shp_all {α : Type} {n : Nat} [Shp α n] : ∀ xs : List α, PyData.canLayAll0 (xs.map EqD.toD) = true ∧ PyData.depthAll (xs.map EqD.toD) ≤ n
  | [] => ⟨by simp [PyData.canLayAll0], by simp [PyData.depthAll]⟩
  | x :: xs => by
    obtain ⟨h1, h2⟩ := shp_all xs
    obtain ⟨h3, h4⟩ := Shp.ok x
    refine ⟨?_, ?_⟩
    · show PyData.canLayAll0 (EqD.toD x :: xs.map EqD.toD) = true
      unfold PyData.canLayAll0
      rw [h3, h1]; rfl
    · show PyData.depthAll (EqD.toD x :: xs.map EqD.toD) ≤ n
      unfold PyData.depthAll
      omega
instance : Shp Int 0 := ⟨fun x => ⟨by show PyData.canLay0 (.int x) = true; unfold PyData.canLay0; rfl, by show PyData.depth (.int x) ≤ 0; unfold PyData.depth; omega⟩⟩
instance : Shp Bool 0 := ⟨fun x => ⟨by show PyData.canLay0 (.bool x) = true; unfold PyData.canLay0; rfl, by show PyData.depth (.bool x) ≤ 0; unfold PyData.depth; omega⟩⟩
instance : Shp (Option Int) 0 := ⟨fun x => by
  cases x with
  | none => exact ⟨by show PyData.canLay0 .none = true; unfold PyData.canLay0; rfl, by show PyData.depth .none ≤ 0; unfold PyData.depth; omega⟩
  | some i => exact ⟨by show PyData.canLay0 (.int i) = true; unfold PyData.canLay0; rfl, by show PyData.depth (.int i) ≤ 0; unfold PyData.depth; omega⟩⟩
instance {α : Type} {n : Nat} [Shp α n] : Shp (List α) (n + 1) := ⟨fun x => by
  obtain ⟨h1, h2⟩ := shp_all x
  refine ⟨?_, ?_⟩
  · show PyData.canLay0 (.list (x.map EqD.toD)) = true
    unfold PyData.canLay0; exact h1
  · show PyData.depth (.list (x.map EqD.toD)) ≤ n + 1
    unfold PyData.depth; omega⟩
instance {α : Type} {n : Nat} [Shp α n] : Shp (Tu α) (n + 1) := ⟨fun x => by
  obtain ⟨h1, h2⟩ := shp_all x.l
  refine ⟨?_, ?_⟩
  · show PyData.canLay0 (.tuple (x.l.map EqD.toD)) = true
    unfold PyData.canLay0; exact h1
  · show PyData.depth (.tuple (x.l.map EqD.toD)) ≤ n + 1
    unfold PyData.depth; omega⟩
instance {α β : Type} {n m : Nat} [Shp α n] [Shp β m] : Shp (α × β) (n + m + 1) := ⟨fun x => by
  obtain ⟨h1, h2⟩ := Shp.ok x.1
  obtain ⟨h3, h4⟩ := Shp.ok x.2
  refine ⟨?_, ?_⟩
  · show PyData.canLay0 (.tuple [EqD.toD x.1, EqD.toD x.2]) = true
    simp [PyData.canLay0, PyData.canLayAll0, h1, h3]
  · show PyData.depth (.tuple [EqD.toD x.1, EqD.toD x.2]) ≤ n + m + 1
    simp [PyData.depth, PyData.depthAll]
    omega⟩
instance {α : Type} {n : Nat} [Shp α n] : Shp (T1 α) (n + 1) := ⟨fun x => by
  obtain ⟨h1, h2⟩ := Shp.ok x.a
  refine ⟨?_, ?_⟩
  · show PyData.canLay0 (.tuple [EqD.toD x.a]) = true
    simp [PyData.canLay0, PyData.canLayAll0, h1]
  · show PyData.depth (.tuple [EqD.toD x.a]) ≤ n + 1
    simp [PyData.depth, PyData.depthAll]
    omega⟩
theorem shp_of {α : Type} {n : Nat} [Shp α n] (x : α) (h : n ≤ 64 := by decide) : shp x := by
  obtain ⟨h1, h2⟩ := Shp.ok x
  unfold shp SeqAt.shaped
  rw [h1, decide_eq_true (Nat.le_trans h2 h)]; rfl

def spLaw (K : PySem.W.Frag) : Sp := fun vs H Q _ => ∃ (a : Addr) (ns : List Int), vs = [.ref a] ∧ SqL K H a (ns.map V.int) ∧ ns.length ≤ 63 ∧ ∀ H', Q (.bl true) H'
theorem law_of {P : Program} {w : World} {K : PySem.W.Frag} {mg : Str → Option Value} {base : Heap} {CX : CXT} {k : Nat} {f : Addr} {fd : FuncData} {ps : List Str} {m : List Int × Unit → Option Bool} (F : FnOk P w K mg base CX k f fd ps (sp K m)) (h : ∀ ns : List Int, ns.length ≤ 63 → m (ns, ()) = some true) : FnOk P w K mg base CX k f fd ps (spLaw K) :=
  F.imp fun vs H Q E ⟨a, ns, e, hs, hl, q⟩ => by
    subst e
    exact ⟨⟨H, H, fun _ _ h => h⟩, (ns, ()), true, rfl, ⟨.ref a, [], rfl, ⟨a, ns.map V.int, rfl, hs, Reps.of_flat ns⟩, rfl⟩, h ns hl, fun v s' _ r => by rw [show v = V.bl true from r]; exact q _⟩
end Dy

namespace Dy
open PySem PySem.Spec L2
open PyProof.Rows hiding St
open Enc (rep)
open Flat (toV)
open EncA (repA)

def strI (x : Int) : Str := toString x
noncomputable def sortI (xs : List Int) : List Int := xs.mergeSort (fun x y => decide (x ≤ y))
def Fl.go {β ρ γ : Type} (o : Fl β ρ) (k : β → γ) (e : ρ → γ) : γ := match o with
  | .nx b => k b
  | .rt r => e r
@[irreducible] def fuel : Nat := 1000000
theorem rng_mem {a b x : Int} (h : x ∈ rng a b) : a ≤ x ∧ x < b := by
  obtain ⟨i, hi⟩ := List.mem_iff_getElem?.mp h
  obtain ⟨h1, h2⟩ := rng_get hi
  omega
theorem frzE {s0 s s' : S} {p : Addr} (E : Ex s0 s) (n : s0.H p = none) (h1 : s'.H = s.H) (h2 : Fle s.F s'.F) (h3 : ∀ q, q ≠ p → s'.F q = s.F q) : Ex s0 s' :=
  ⟨E.f.trans h2, fun a o h => by rw [h1]; exact E.h a o h, fun a o h m => by rw [h3 a (ne_of_none h n)]; exact E.n a o h m⟩
theorem ownFrz {α : Type} [Enc α] {K : PySem.W.Frag} {s s' : S} {p q : Addr} {xs : List α} (o : Own K s q xs) (hne : q ≠ p) (h1 : s'.H = s.H) (h2 : Fle s.F s'.F) (h3 : ∀ q, q ≠ p → s'.F q = s.F q) : Own K s' q xs := by
  obtain ⟨hn, vs, hp, r⟩ := o
  exact ⟨by rw [h3 q hne]; exact hn, vs, by rw [h1]; exact hp, r.mono h2⟩
section
variable {α β γ δ ε : Type} [Enc α] [Enc β] [Enc γ] [Enc δ] [Enc ε] {X : Cx} {σ : St} {s t : S} {e a b c tg iter : Expr} {es : List Expr} {pos p0 p1 p2 p3 : Pos} {D : Ends} {rest A B body : List Stmt}
theorem ec_andO {x r : Bool} (h : EvB X a σ s x) (h2 : x = true → EvC X (.BoolOp .And (b :: es) pos) σ s r) (h3 : x = false → r = false) : EvC X (.BoolOp .And (a :: b :: es) pos) σ s r := by
  cases x with
  | true => exact (ec_and h h2 : EvC X _ σ s (true && r))
  | false =>
    have := ec_and (y := false) (es := es) (b := b) (pos := pos) h (fun z => Bool.noConfusion z)
    rw [h3 rfl]
    exact this
theorem ec_orO {x r : Bool} (h : EvB X a σ s x) (h2 : x = false → EvC X (.BoolOp .Or (b :: es) pos) σ s r) (h3 : x = true → r = true) : EvC X (.BoolOp .Or (a :: b :: es) pos) σ s r := by
  cases x with
  | false => exact (ec_or h h2 : EvC X _ σ s (false || r))
  | true =>
    have := ec_or (y := true) (es := es) (b := b) (pos := pos) h (fun z => Bool.noConfusion z)
    rw [h3 rfl]
    exact this
theorem et_tru {xs : List α} (h : EvR X e σ s xs) (he : ∀ whole, isTrue e X.env whole = (do let v ← whole; standAt e.pos; holding [v] (truthy v)) := by intro _; rfl) : EvT X e σ s (!xs.isEmpty) := fun s1 k Q q =>
  wt_of (pt_truth pe_we he) (h s1 k _ fun v s2 k2 r => by
    obtain ⟨p, vs, rfl, h1, h2⟩ := r
    refine ⟨_, .inl ⟨vs, h1, ?_⟩, q s2 k2⟩
    have := h2.len
    cases vs <;> cases xs <;> simp at this ⊢)
theorem isi_optT {τ : Type} [Ty τ] (x : Option τ) {T : String} (h1 : ∀ y : τ, kitB (Ty.ty y) T = some true) (h2 : kitB "NoneType" T = some false) : kitB (Ty.ty x) T = some x.isSome := by
  cases x with
  | none => exact h2
  | some y => exact h1 y
theorem isi_optF {τ : Type} [Ty τ] (x : Option τ) {T : String} (h1 : ∀ y : τ, kitB (Ty.ty y) T = some false) (h2 : kitB "NoneType" T = some false) : kitB (Ty.ty x) T = some false := by
  cases x with
  | none => exact h2
  | some y => exact h1 y
theorem en_rev {xs : List α} {k q1 q2 q3} (ha : EvR X e σ s xs) : EvN X (.Subscript e (.Slice none none (some (.UnaryOp .USub (.Constant (.int 1) k q1) q2)) q3) pos) σ s xs.reverse := fun s1 k1 Q q =>
  we_of (pe_revL pe_we) (ha s1 k1 _ fun v s2 k2 r2 => by
    obtain ⟨p, vs, rfl, h1, h2⟩ := r2
    exact ⟨p, vs, rfl, h1, fun l hl => q l (s2.newO l _ hl) (k2.trans (Ex.newO hl)) (fr_back k2 hl) (own_new hl h2.rev)⟩)
theorem do_drop {x : α} (h : Ev X e σ s x) (k : ∀ s1, Ex s s1 → WSs X rest D σ s1.H) (hs : swapsWith e none pos.line X.env = pure false := by rfl) : WSs X (.Expr e pos :: rest) D σ s.H :=
  do_cons (ps_expr pe_we hs) (h s (Ex.refl _) _ fun v s1 k1 r => k s1 k1)
theorem do_unp2 (i j : Nat) {x : α × β} (h : Ev X e σ s x) (k : ∀ v w s1, Ex s s1 → rep X.K s1.F v x.1 → rep X.K s1.F w x.2 → WSs X rest D ((σ.set i (some v)).set j (some w)) s1.H)
    (hg : PG X tg (gTup X.K 2 (gCons (gName i) (gCons (gName j) gNil)))) (hs : swapsWithSole [tg] e pos.line X.env = pure false := by rfl) (hw : swappedStores [tg] e X.env = pure none := by rfl)
    (h1 : (assignEach [tg] X.env).map (·.2) = [assign tg X.env] := by rfl) : WSs X (.Assign [tg] e pos :: rest) D σ s.H :=
  do_cons (ps_asg pe_we hg hs hw h1) (h s (Ex.refl _) _ fun v s1 k1 r => by
    obtain ⟨p, v1, v2, rfl, h0, h1, h2⟩ := r
    exact ⟨p, _, rfl, sqt_mono s1.sub h0, rfl, v1, _, rfl, v2, _, rfl, rfl, k v1 v2 s1 k1 h1 h2⟩)
theorem do_unp3 (i j l : Nat) {x : T3 α β γ} (h : Ev X e σ s x) (k : ∀ v w u s1, Ex s s1 → rep X.K s1.F v x.a → rep X.K s1.F w x.b → rep X.K s1.F u x.c → WSs X rest D (((σ.set i (some v)).set j (some w)).set l (some u)) s1.H)
    (hg : PG X tg (gTup X.K 3 (gCons (gName i) (gCons (gName j) (gCons (gName l) gNil))))) (hs : swapsWithSole [tg] e pos.line X.env = pure false := by rfl) (hw : swappedStores [tg] e X.env = pure none := by rfl)
    (h1 : (assignEach [tg] X.env).map (·.2) = [assign tg X.env] := by rfl) : WSs X (.Assign [tg] e pos :: rest) D σ s.H :=
  do_cons (ps_asg pe_we hg hs hw h1) (h s (Ex.refl _) _ fun v s1 k1 r => by
    obtain ⟨p, v1, v2, v3, rfl, h0, h1, h2, h3⟩ := r
    exact ⟨p, _, rfl, sqt_mono s1.sub h0, rfl, v1, _, rfl, v2, _, rfl, v3, _, rfl, rfl, k v1 v2 v3 s1 k1 h1 h2 h3⟩)
theorem do_whileF {υ ρ : Type} {cf : υ → Option Bool} {f : υ → Option (Fl υ ρ)} {n : Nat} {b0 : υ} {o : Fl υ ρ} (hp : PassesOwn (model X.prog X.w) X.A X.env X.xe) (hf : whileF cf f n b0 = some o) (R : υ → St → S → Prop) (h0 : R b0 σ s)
    (hc : ∀ (b : υ) (x : Bool) (σ' : St) (t : S), cf b = some x → Fle s.F t.F → R b σ' t → EvT X c σ' t x)
    (hb : ∀ (b : υ) (q : Fl υ ρ) (σ' : St) (t t' : S), cf b = some true → f b = some q → (∀ r, q = .rt r → o = .rt r) → Fle s.F t.F → R b σ' t → Ex t t' → WSs X body (LD D fun σ s => ∃ b', q = .nx b' ∧ Fle t'.F s.F ∧ R b' σ s) σ' t'.H)
    (hd : ∀ b1 σ' t t', o = .nx b1 → cf b1 = some false → Fle s.F t.F → R b1 σ' t → Ex t t' → WSs X rest D σ' t'.H) : WSs X (.While c body [] pos :: rest) D σ s.H :=
  do_cons (ps_while hp pt_wt pss_ws) (by
    refine ⟨fun m σ' H' => ∃ (t : S) (b : υ), t.H = H' ∧ Fle s.F t.F ∧ whileF cf f m b = some o ∧ R b σ' t, ⟨n, s, b0, rfl, Fle.refl _, hf, h0⟩, ?_⟩
    rintro m σ' H' ⟨t, b, rfl, fl, h1, h2⟩
    cases m with
    | zero => cases h1
    | succ m =>
      obtain ⟨x, h3, h4⟩ := bndE h1
      refine hc b x σ' t h3 fl h2 t (Ex.refl _) _ fun t' kt => ?_
      cases x with
      | true =>
        refine iteT ?_
        rw [if_pos rfl] at h4
        obtain ⟨q, h5, h6⟩ := bndE h4
        refine ⟨fun σ3 H3 => ∃ b', q = .nx b' ∧ ∃ u : S, u.H = H3 ∧ Fle s.F u.F ∧ R b' σ3 u, fun σ3 H3 ⟨b', e0, u, e1, f1, r1⟩ => ⟨m, Nat.lt_succ_self _, u, b', e1, f1, by subst e0; exact h6, r1⟩, ?_⟩
        exact (hb b q σ' t t' h3 h5 (fun r e0 => by subst e0; exact (Option.some.inj h6).symm) fl h2 kt).imp (fun σ3 H3 ⟨u, e1, b', e2, f1, r1⟩ => ⟨b', e2, u, e1, (fl.trans kt.f).trans f1, r1⟩) (fun _ _ q => q) (fun _ _ q => q.elim) (fun _ _ q => q.elim)
      | false =>
        refine iteF ?_
        rw [if_neg Bool.false_ne_true] at h4
        cases h4
        exact hd b σ' t t' rfl h3 fl h2 kt)
end
end Dy

namespace Dy
open PySem PySem.Spec L2
open PyProof.Rows hiding St

def Ok {α : Type} (m : Option α) (P : α → Prop) : Prop := ∃ r, m = some r ∧ P r
section
variable {α β γ ρ : Type}
theorem Ok.imp {m : Option α} {P Q : α → Prop} (h : Ok m P) (k : ∀ r, P r → Q r) : Ok m Q := let ⟨r, e, p⟩ := h; ⟨r, e, k r p⟩
theorem Ok.eq {m : Option α} {x : α} (h : Ok m (· = x)) : m = some x := by obtain ⟨r, e, rfl⟩ := h; exact e
theorem ok_eq {m : Option α} {x : α} {P : α → Prop} (h : m = some x) (p : P x) : Ok m P := ⟨x, h, p⟩
theorem ok_some {x : α} {P : α → Prop} (p : P x) : Ok (some x) P := ⟨x, rfl, p⟩
theorem ok_bnd {m : Option α} {f : α → Option β} {P : α → Prop} {Q : β → Prop} (h : Ok m P) (k : ∀ r, P r → Ok (f r) Q) : Ok (bnd m f) Q := by
  obtain ⟨r, e, p⟩ := h
  subst e
  exact k r p
theorem ok_chk {c : Prop} {m : Option α} {Q : α → Prop} (h : c) (k : Ok m Q) : Ok (chk c m) Q := by rw [chk_pos h]; exact k
theorem ok_lt {x : α} {f : α → Option β} {Q : β → Prop} (k : ∀ y, y = x → Ok (f y) Q) : Ok (lt x f) Q := k x rfl
theorem ok_ite {b : Bool} {m k : Option α} {Q : α → Prop} (h1 : b = true → Ok m Q) (h2 : b = false → Ok k Q) : Ok (if b = true then m else k) Q := by
  cases b with
  | true => exact h1 rfl
  | false => exact h2 rfl
theorem ok_andO {a : Bool} {m : Option Bool} {Q : Bool → Prop} (h1 : a = true → Ok m Q) (h2 : a = false → Q false) : Ok (andO a m) Q := by
  cases a with
  | true => exact h1 rfl
  | false => exact ⟨false, rfl, h2 rfl⟩
theorem ok_orO {a : Bool} {m : Option Bool} {Q : Bool → Prop} (h1 : a = false → Ok m Q) (h2 : a = true → Q true) : Ok (orO a m) Q := by
  cases a with
  | false => exact h1 rfl
  | true => exact ⟨true, rfl, h2 rfl⟩
theorem ok_foldO {f : β → α → Option β} (I : Nat → β → Prop) : ∀ {xs : List α} {b : β} {Q : β → Prop}, I 0 b → (∀ i b x, xs[i]? = some x → I i b → Ok (f b x) (I (i + 1))) → (∀ b, I xs.length b → Q b) → Ok (foldO f b xs) Q := by
  have key : ∀ (xs : List α) (b : β) (k : Nat), I k b → (∀ i b x, xs[i]? = some x → I (k + i) b → Ok (f b x) (I (k + i + 1))) → Ok (foldO f b xs) (I (k + xs.length)) := by
    intro xs
    induction xs with
    | nil => intro b k h _; exact ⟨b, rfl, h⟩
    | cons x r ih =>
      intro b k h hs
      refine ok_bnd (hs 0 b x rfl h) fun b' h' => ?_
      have := ih b' (k + 1) h' (fun i b y hy hI => by
        have := hs (i + 1) b y (by simpa using hy) (by rw [show k + (i + 1) = k + 1 + i by omega]; exact hI)
        rw [show k + (i + 1) + 1 = k + 1 + i + 1 by omega] at this
        exact this)
      rw [List.length_cons, show k + (r.length + 1) = k + 1 + r.length by omega]
      exact this
  intro xs b Q h0 hs hd
  have := key xs b 0 h0 (fun i b x hx hI => by
    have := hs i b x hx (by rw [Nat.zero_add] at hI; exact hI)
    rw [Nat.zero_add]; exact this)
  rw [Nat.zero_add] at this
  exact this.imp hd
theorem ok_foldF {f : β → α → Option (Fl β ρ)} (I : Nat → β → Prop) (Rr : ρ → Prop) : ∀ {xs : List α} {b : β} {Q : Fl β ρ → Prop}, I 0 b → (∀ i b x, xs[i]? = some x → I i b → Ok (f b x) (fun o => match o with | .nx b' => I (i + 1) b' | .rt r => Rr r)) →
    (∀ b, I xs.length b → Q (.nx b)) → (∀ r, Rr r → Q (.rt r)) → Ok (foldF f b xs) Q := by
  have key : ∀ (xs : List α) (b : β) (k : Nat), I k b → (∀ i b x, xs[i]? = some x → I (k + i) b → Ok (f b x) (fun o => match o with | .nx b' => I (k + i + 1) b' | .rt r => Rr r)) → Ok (foldF f b xs) (fun o => match o with | .nx b' => I (k + xs.length) b' | .rt r => Rr r) := by
    intro xs
    induction xs with
    | nil => intro b k h _; exact ⟨.nx b, rfl, h⟩
    | cons x r ih =>
      intro b k h hs
      refine ok_bnd (hs 0 b x rfl h) fun o h' => ?_
      cases o with
      | rt r => exact ⟨.rt r, rfl, h'⟩
      | nx b' =>
        have := ih b' (k + 1) h' (fun i b y hy hI => by
          have := hs (i + 1) b y (by simpa using hy) (by rw [show k + (i + 1) = k + 1 + i by omega]; exact hI)
          rw [show k + (i + 1) + 1 = k + 1 + i + 1 by omega] at this
          exact this)
        rw [List.length_cons, show k + (r.length + 1) = k + 1 + r.length by omega]
        exact this
  intro xs b Q h0 hs hd hr
  have := key xs b 0 h0 (fun i b x hx hI => by
    have := hs i b x hx (by rw [Nat.zero_add] at hI; exact hI)
    rw [Nat.zero_add]; exact this)
  rw [Nat.zero_add] at this
  refine this.imp fun o h => ?_
  cases o with
  | nx b => exact hd b h
  | rt r => exact hr r h
theorem ok_go {o : Fl β ρ} {k : β → Option γ} {e : ρ → Option γ} {Q : γ → Prop} (h1 : ∀ b, o = .nx b → Ok (k b) Q) (h2 : ∀ r, o = .rt r → Ok (e r) Q) : Ok (o.go k e) Q := by
  cases o with
  | nx b => exact h1 b rfl
  | rt r => exact h2 r rfl
theorem ok_compO {t : α → Option Bool} {f : α → Option β} {P : α → β → Prop} {T : α → Bool} : ∀ {xs : List α}, (∀ x ∈ xs, Ok (t x) (· = T x)) → (∀ x ∈ xs, T x = true → Ok (f x) (P x)) → Ok (compO t f xs) (fun ys => ys.length = (xs.filter T).length ∧ ∀ (i : Nat) (y : β), ys[i]? = some y → ∃ x, (xs.filter T)[i]? = some x ∧ P x y)
  | [], _, _ => ⟨[], rfl, rfl, fun i y h => by simp at h⟩
  | x :: r, h1, h2 => by
    unfold compO
    refine ok_bnd (h1 x List.mem_cons_self) fun b hb => ?_
    subst hb
    have ih := ok_compO (xs := r) (fun z hz => h1 z (List.mem_cons_of_mem _ hz)) (fun z hz => h2 z (List.mem_cons_of_mem _ hz))
    refine ok_ite (fun hb => ?_) (fun hb => ?_)
    · refine ok_bnd (h2 x List.mem_cons_self hb) fun y hy => ?_
      refine ok_bnd ih fun ys ⟨e1, e2⟩ => ok_some ?_
      rw [List.filter_cons, if_pos hb]
      refine ⟨by simp [e1], fun i z hz => ?_⟩
      cases i with
      | zero => simp at hz; subst hz; exact ⟨x, rfl, hy⟩
      | succ i => exact e2 i z (by simpa using hz)
    · rw [List.filter_cons, if_neg (by rw [hb]; exact Bool.false_ne_true)]
      exact ih
theorem ok_mapO {f : α → Option β} {P : α → β → Prop} {xs : List α} (h : ∀ x ∈ xs, Ok (f x) (P x)) : Ok (mapO f xs) (fun ys => ys.length = xs.length ∧ ∀ (i : Nat) (y : β), ys[i]? = some y → ∃ x, xs[i]? = some x ∧ P x y) := by
  have := ok_compO (t := fun _ => some true) (T := fun _ => true) (xs := xs) (fun x _ => ok_some rfl) (fun x hx _ => h x hx)
  rw [show xs.filter (fun _ => true) = xs from List.filter_eq_self.mpr (fun _ _ => rfl)] at this
  exact this
theorem mapO_eq {f : α → Option β} {g : α → β} : ∀ {xs : List α}, (∀ x ∈ xs, f x = some (g x)) → mapO f xs = some (xs.map g)
  | [], _ => rfl
  | x :: r, h => by
    have ih := mapO_eq (xs := r) (fun z hz => h z (List.mem_cons_of_mem _ hz))
    unfold mapO at ih ⊢
    unfold compO
    rw [Option.bind_some, if_pos rfl, h x List.mem_cons_self, Option.bind_some, ih]
    rfl
theorem compO_eq {t : α → Option Bool} {T : α → Bool} {f : α → Option β} {g : α → β} : ∀ {xs : List α}, (∀ x ∈ xs, t x = some (T x)) → (∀ x ∈ xs, T x = true → f x = some (g x)) → compO t f xs = some ((xs.filter T).map g)
  | [], _, _ => rfl
  | x :: r, h1, h2 => by
    have ih := compO_eq (xs := r) (fun z hz => h1 z (List.mem_cons_of_mem _ hz)) (fun z hz => h2 z (List.mem_cons_of_mem _ hz))
    unfold compO
    rw [h1 x List.mem_cons_self, Option.bind_some, List.filter_cons]
    cases hT : T x with
    | true => rw [if_pos rfl, if_pos rfl, h2 x List.mem_cons_self hT, Option.bind_some, ih]; rfl
    | false => rw [if_neg Bool.false_ne_true, if_neg Bool.false_ne_true, ih]
theorem foldO_eq {f : β → α → Option β} {g : β → α → β} : ∀ {xs : List α} {b : β}, (∀ b, ∀ x ∈ xs, f b x = some (g b x)) → foldO f b xs = some (xs.foldl g b)
  | [], _, _ => rfl
  | x :: r, b, h => by
    unfold foldO
    rw [h b x List.mem_cons_self, Option.bind_some, foldO_eq (xs := r) (fun b z hz => h b z (List.mem_cons_of_mem _ hz))]
    rfl
theorem ok_whileO {c : β → Option Bool} {f : β → Option β} (I : β → Prop) (μ : β → Nat) {Q : β → Prop} (hc : ∀ b, I b → Ok (c b) (fun t => if t = true then Ok (f b) (fun b' => I b' ∧ μ b' < μ b) else Q b)) : ∀ (n : Nat) (b : β), I b → μ b < n → Ok (whileO c f n b) Q
  | 0, b, _, h => absurd h (Nat.not_lt_zero _)
  | n + 1, b, hI, h => by
    unfold whileO
    refine ok_bnd (hc b hI) fun t ht => ?_
    cases t with
    | true =>
      rw [if_pos rfl] at ht ⊢
      exact ok_bnd ht fun b' ⟨h1, h2⟩ => ok_whileO I μ hc n b' h1 (by omega)
    | false =>
      rw [if_neg Bool.false_ne_true] at ht ⊢
      exact ok_some ht
theorem ok_whileF {c : β → Option Bool} {f : β → Option (Fl β ρ)} (I : β → Prop) (μ : β → Nat) {Q : Fl β ρ → Prop} (hc : ∀ b, I b → Ok (c b) (fun t => if t = true then Ok (f b) (fun o => match o with | .nx b' => I b' ∧ μ b' < μ b | .rt r => Q (.rt r)) else Q (.nx b))) : ∀ (n : Nat) (b : β), I b → μ b < n → Ok (whileF c f n b) Q
  | 0, b, _, h => absurd h (Nat.not_lt_zero _)
  | n + 1, b, hI, h => by
    unfold whileF
    refine ok_bnd (hc b hI) fun t ht => ?_
    cases t with
    | true =>
      rw [if_pos rfl] at ht ⊢
      refine ok_bnd ht fun o ho => ?_
      cases o with
      | nx b' => exact ok_whileF I μ hc n b' ho.1 (by have := ho.2; omega)
      | rt r => exact ok_some ho
    | false =>
      rw [if_neg Bool.false_ne_true] at ht ⊢
      exact ok_some ht
theorem fuel_eq : fuel = 1000000 := by unfold fuel; rfl
theorem mul_l {x y : Int} (h1 : -1000000000000000000 < x) (h2 : x < 1000000000000000000) : MulOk x y := .inl (.inl ⟨by omega, by omega⟩)
theorem mul_r {x y : Int} (h1 : -1000000000000000000 < y) (h2 : y < 1000000000000000000) : MulOk x y := .inl (.inr ⟨by omega, by omega⟩)
set_option exponentiation.threshold 10000 in
theorem div_small {y : Int} (h1 : 0 < y) (h2 : y < 1000000000000000000) : DivOk y := ⟨h1, PySem.Flt.log2_lt_of (by decide) (show y.natAbs < 2 ^ 9000 from Nat.lt_of_lt_of_le (show y.natAbs < 2 ^ 64 by omega) (Nat.pow_le_pow_right (by decide) (by decide)))⟩
theorem szl : sizeLine = 16777216 := rfl
theorem atI_get {xs : List α} {i : Int} (h0 : 0 ≤ i) (h1 : i < xs.length) : atI xs i = xs[i.toNat]? := by
  unfold atI ixN
  rw [if_pos h0, if_pos h1]; rfl
theorem ok_atI {xs : List α} {i : Int} {Q : α → Prop} (h0 : 0 ≤ i) (h1 : i < xs.length) (h : ∀ x, xs[i.toNat]? = some x → Q x) : Ok (atI xs i) Q := by
  rw [atI_get h0 h1]
  have hl : i.toNat < xs.length := by omega
  exact ⟨xs[i.toNat], List.getElem?_eq_getElem hl, h _ (List.getElem?_eq_getElem hl)⟩
theorem cut_len_le (xs : List α) (lo hi : Option Int) : (cut xs lo hi).length ≤ xs.length := by
  unfold cut
  rw [List.length_take, List.length_drop]
  omega
theorem cut_hi (xs : List α) (n : Nat) : cut xs none (some (n : Int)) = xs.take n := by
  unfold cut
  rw [HT.sIx_none, show HT.sIx xs.length xs.length (some (n : Int)) = min n xs.length from HT.sIx_nat xs.length xs.length n]
  simp only [List.drop_zero, Nat.sub_zero]
  by_cases h : n ≤ xs.length
  · rw [Nat.min_eq_left h]
  · rw [Nat.min_eq_right (by omega), List.take_of_length_le (Nat.le_refl _), List.take_of_length_le (by omega)]
theorem rng_len_nn {n : Int} (h : 0 ≤ n) : (rng 0 n).length = n.toNat := by rw [rng_len]; congr 1; omega
theorem rng_at {a b : Int} {i : Nat} {x : Int} (h : (rng a b)[i]? = some x) : x = a + (i : Int) ∧ a + (i : Int) < b := by
  obtain ⟨h1, h2⟩ := rng_get h
  omega
end
theorem chars_len (x : Str) : (chars x).length = x.length := by
  unfold chars
  rw [List.length_map, Array.length_toList]; rfl
theorem join_len0 (ys : List Str) : (Txt.join ("" : Str) ys).length = (ys.map (·.length)).sum := by
  have h : ∀ z : Str, z.length = (TL.tl z).length := fun z => by show z.cps.size = z.cps.toList.length; rw [Array.length_toList]
  have key : ∀ ps : List (List Nat), (TL.joinL [] ps).length = (ps.map List.length).sum := by
    intro ps
    induction ps with
    | nil => rfl
    | cons p r ih =>
      cases r with
      | nil => simp [TL.joinL]
      | cons q r =>
        have e : TL.joinL [] (p :: q :: r) = p ++ ([] ++ TL.joinL [] (q :: r)) := by simp [TL.joinL]
        rw [e, List.nil_append, List.length_append, ih]; rfl
  rw [h, TL.join_eq, TL.tl_join, show TL.tl ("" : Str) = [] from rfl, key, List.map_map]
  exact congrArg List.sum (List.map_congr_left fun z _ => (h z).symm)
theorem sum_ones {ys : List Str} (h : ∀ y ∈ ys, y.length = 1) : (ys.map (·.length)).sum = ys.length := by
  induction ys with
  | nil => rfl
  | cons y r ih =>
    rw [List.map_cons, List.sum_cons, ih fun z hz => h z (List.mem_cons_of_mem _ hz), h y List.mem_cons_self, List.length_cons]
    omega
theorem foldF_any {α ρ : Type} {p : α → Bool} {f : Unit → α → Option (Fl Unit ρ)} {r : ρ} (h : ∀ x, f () x = if p x = true then some (.rt r) else some (.nx ())) : ∀ xs : List α, foldF f () xs = some (if xs.any p = true then .rt r else .nx ())
  | [] => rfl
  | x :: xs => by
    unfold foldF
    rw [h x, List.any_cons]
    cases hp : p x with
    | true => rfl
    | false =>
      rw [if_neg Bool.false_ne_true]
      show foldF f () xs = _
      rw [foldF_any h xs, Bool.false_or]
end Dy

namespace Dy
open PySem PySem.Spec L2
open PyProof.Rows hiding St
open Enc (rep)
open Flat (toV)
open EncA (repA)

section
variable {α β γ δ : Type} [Enc α] [Enc β] [Enc γ] [Enc δ] {X : Cx} {σ : St} {s t : S} {e a b c tg iter : Expr} {es : List Expr} {pos p0 p1 p2 p3 : Pos} {D : Ends} {rest A B body : List Stmt}
def RepS (x : Str) (n : Int) : Prop := PySem.MulOk x n
def replS (x : Str) (n : Int) : Str := Txt.mul x n
theorem op_repStr : OpR X (binaryOp .Mult) (fun x y H Q => ∃ z n, x = .str z ∧ y = .int n ∧ RepS z n ∧ Q (.str (replS z n)) H) := by
  intro pins s σ H x y v u Q I rx ry h
  obtain ⟨z, n, rfl, rfl, hok, q⟩ := h
  obtain ⟨t, rfl⟩ := rx
  obtain ⟨t', rfl⟩ := ry
  exact PySem.SB.mul hok fun t' k => ⟨.str _, H, I.tok _, ⟨_, rfl⟩, q⟩
theorem ev_repS {x : Str} {n : Int} (ha : Ev X a σ s x) (hb : Ev X b σ s n) (h : RepS x n) : Ev X (.BinOp a .Mult b pos) σ s (replS x n) :=
  ev_op op_repStr ha hb fun v u s2 hv hu Q q => ⟨x, n, hv, hu, h, q _ s2 (Ex.refl _) rfl⟩
theorem repS_small {x : Str} {n : Int} (h0 : x.length ≤ 1000) (h1 : n ≤ 1000) (h2 : -1000 ≤ n) : RepS x n := by
  refine ⟨by rw [Bool.or_eq_false_iff]; exact ⟨decide_eq_false (by omega), decide_eq_false (by omega)⟩, fun h3 _ => ?_, fun h3 _ => ?_⟩
  · intro h
    have : (2 ^ 63 - 1) / n ≥ 1000 := by
      refine (Int.le_ediv_iff_mul_le (by omega)).mpr ?_
      omega
    omega
  · unfold Builtin.Str.tooLong
    have : x.length * n.toNat ≤ 1000 * 1000 := Nat.mul_le_mul h0 (by omega)
    refine decide_eq_false ?_
    have := szl
    omega
def stepN (a b c : Int) : Nat := if a < b then ((b - a - 1) / c + 1).toNat else 0
def rngS (a b c : Int) : List Int := (List.range (stepN a b c)).map fun i : Nat => a + (i : Int) * c
def RgS (a b c : Int) : Prop := (-(2 ^ 61) ≤ a ∧ a < 2 ^ 61) ∧ (-(2 ^ 61) ≤ b ∧ b < 2 ^ 61) ∧ 0 < c ∧ c < 1000000
theorem rgC_of {a b c : Int} (h : RgS a b c) : RgC a b c (stepN a b c) := by
  obtain ⟨⟨h1, h2⟩, ⟨h3, h4⟩, h5, h6⟩ := h
  have hs : Builtin.Range.rangeSize a b c = (stepN a b c : Nat) := by
    unfold Builtin.Range.rangeSize stepN
    rw [if_pos h5]
    split
    · have : 0 ≤ (b - a - 1) / c := Int.ediv_nonneg (by omega) (by omega)
      omega
    · rfl
  refine ⟨by omega, by omega, ?_, hs⟩
  have e1 : a < b → c * ((b - a - 1) / c) ≤ b - a - 1 := fun _ => Int.mul_ediv_self_le (by omega)
  have e2 : a < b → 0 ≤ (b - a - 1) / c := fun _ => Int.ediv_nonneg (by omega) (by omega)
  have e3 : a < b → (b - a - 1) / c ≤ b - a - 1 := fun _ => by
    refine Int.ediv_le_self _ (by omega)
  unfold Builtin.Range.small
  unfold Builtin.Range.rangeSize
  simp only [Builtin.Range.rangeFitsLong, Bool.and_eq_true, Bool.or_eq_true, decide_eq_true_eq, beq_iff_eq, if_pos h5]
  split
  · rename_i hlt
    have e1 := e1 hlt
    have e2 := e2 hlt
    have e3 := e3 hlt
    generalize hq : (b - a - 1) / c = q at *
    have e4 : c * q = q * c := Int.mul_comm _ _
    have e5 : (q + 1) * c = q * c + c := by rw [Int.add_mul]; omega
    have e6 : 0 ≤ c * q := Int.mul_nonneg (by omega) e2
    refine ⟨?_, ?_⟩ <;> omega
  · omega
theorem rngS_get {a b c : Int} {i : Nat} {x : Int} (h : (rngS a b c)[i]? = some x) : i < stepN a b c ∧ x = a + (i : Int) * c := by
  unfold rngS at h
  rw [List.getElem?_map] at h
  obtain ⟨j, h1, rfl⟩ := Option.map_eq_some_iff.mp h
  obtain ⟨h2, h3⟩ := List.getElem?_eq_some_iff.mp h1
  rw [List.length_range] at h2
  rw [List.getElem_range] at h3
  subst h3
  exact ⟨h2, rfl⟩
theorem rngS_len (a b c : Int) : (rngS a b c).length = stepN a b c := by unfold rngS; rw [List.length_map, List.length_range]
theorem ei_range3 {x y z : Int} (hm : X.mg "range" = none) (ha : Ev X a σ s x) (hb : Ev X b σ s y) (hc : Ev X c σ s z) (h : RgS x y z) (hg : Gl X "range" := by rfl)
    (hs : starEach [a, b, c] X.env = (false, eval a X.env) :: starEach [b, c] X.env := by rfl) (hs2 : starEach [b, c] X.env = (false, eval b X.env) :: starEach [c] X.env := by rfl) (hs3 : starEach [c] X.env = (false, eval c X.env) :: starEach [] X.env := by rfl) (hpl : (backTo pos (starEach [b, c] X.env)).any (·.1) = false := by rfl) :
    EvI X tg (.Call (.Name "range" p0) [a, b, c] [] pos) σ s (rngS x y z) := fun s1 k R q =>
  wi_of (pi_range3 hg hm (pa_cons pe_we (pa_cons pe_we (pa_cons pe_we pa_nil hs3) hs2) hs) hs hpl) (ha s1 k _ fun v s2 k2 r2 => hb s2 (k.trans k2) _ fun u s3 k3 r3 => hc s3 ((k.trans k2).trans k3) _ fun w s4 k4 r4 =>
    ⟨x, y, z, stepN x y z, by rw [show v = V.int x from r2, show u = V.int y from r3, show w = V.int z from r4], rgC_of h, q _ s4 ((k2.trans k3).trans k4) ⟨fun i t w f hw => ⟨(rngS_get hw).1, fun v' H' ⟨e1, e2⟩ => ⟨t, e1.symm, Ex.refl _, by rw [e2, (rngS_get hw).2]; rfl⟩⟩, fun i t f hi => by rw [rngS_len] at hi; exact hi⟩⟩)
theorem ev_isiR {xs : List α} {n : Str} {T : String} {r : Bool} (hm : X.mg "isinstance" = none) (hn : X.mg n = none) (hv : bootBuiltins n = some (.type T)) (ha : EvR X a σ s xs) (h : kitB "list" T = some r)
    (hg : Gl X "isinstance" := by rfl) (hgn : Gl X n := by rfl) (he : starEach [a, .Name n p1] X.env = (false, eval a X.env) :: starEach [.Name n p1] X.env := by rfl) (he2 : starEach [.Name n p1] X.env = (false, eval (.Name n p1) X.env) :: starEach [] X.env := by rfl) (hpl : (backTo pos (starEach [.Name n p1] X.env)).any (·.1) = false := by rfl)
    (hnn : n ≠ "__name__" := by decide) (hnd : (n == ("__debug__" : Str)) = false := by decide) :
    Ev X (.Call (.Name "isinstance" p0) [a, .Name n p1] [] pos) σ s r := fun s1 k Q q =>
  we_of (pe_callB call_isi hg hm (by decide +kernel) (pa_cons pe_we (pa_cons (pe_bltn (v := .ty T) hgn hn hv rfl hnn hnd) pa_nil he2) he) (he := he) (hpl := hpl)) (ha s1 k _ fun v s2 k2 r2 => by
    obtain ⟨p, vs, rfl, h1, _⟩ := r2
    exact ⟨.ref p, .ty T, .type "list", .type T, r, rfl, .ty T, sql_ty h1, kit_ty h, q _ s2 k2 rfl⟩)
theorem eb_isB {x y : Bool} (ha : Ev X a σ s x) (hb : Ev X b σ s y) : EvB X (.Compare a [.Is] [b] pos) σ s (decide (x = y)) :=
  eb_cmp op_isBl ha hb (fun v u s2 hv hu Q q => ⟨x, y, hv, hu, q⟩) (nomark _)
theorem eb_isnotB {x y : Bool} (ha : Ev X a σ s x) (hb : Ev X b σ s y) : EvB X (.Compare a [.IsNot] [b] pos) σ s (!decide (x = y)) :=
  eb_cmp op_notBl ha hb (fun v u s2 hv hu Q q => ⟨x, y, hv, hu, q⟩) (nomark _)
theorem ev_sliceT {x : Tu α} {lo hi : Option Expr} {l h : Option Int} (ha : Ev X a σ s x) (hl : EvO X lo σ s l) (hh : EvO X hi σ s h) : Ev X (.Subscript a (.Slice lo hi none p2) pos) σ s (Tu.mk (cut x.l l h)) := fun s1 k Q q => by
  obtain ⟨tl, pl, ql⟩ := po_evo hl
  obtain ⟨th, ph, qh⟩ := po_evo hh
  refine we_of (pe_slice sl_tupA pe_we pl ph) (ha s1 k _ fun v s2 k2 r2 => ql s2 (k.trans k2) _ fun s3 k3 => qh s3 ((k.trans k2).trans k3) _ fun s4 k4 => ?_)
  obtain ⟨p, vs, rfl, h1, h2⟩ := Enc.mono (α := Tu α) (k3.trans k4).f r2
  have kk := (k2.trans k3).trans k4
  refine ⟨p, vs, rfl, sqt_mono s4.sub h1, fun hw => ?_, fun _ l hl => q _ (s4.newF l _ hl) (kk.trans (Ex.newF hl)) ⟨l, _, rfl, tup_new hl, (h2.cut _ _).mono (Ex.newF hl).f⟩⟩
  refine q _ s4 kk ⟨p, vs, rfl, h1, ?_⟩
  have e : cut x.l l h = x.l := by
    unfold cut
    rw [← h2.len, hw.1, hw.2, List.drop_zero, Nat.sub_zero, h2.len, List.take_length]
  show Reps _ _ vs (cut x.l l h)
  rw [e]; exact h2
def popN (n : Nat) (i : Int) : Option Nat := if -(2 ^ 63) ≤ i ∧ i < 2 ^ 63 then seqIndex? i n else none
theorem seqIx_lt {n : Nat} {i : Int} {k : Nat} (h : seqIndex? i n = some k) : k < n := by
  unfold seqIndex? at h
  dsimp only at h
  split at h <;> split at h
  all_goals first | (rename_i h2; simp only [Bool.and_eq_true, decide_eq_true_eq] at h2; cases h; omega) | cases h
theorem do_popAt (i : Nat) {p : Addr} {n : Str} {xs : List α} {z : Int} {j : Nat} (hσ : σ[i]? = some (some (.ref p))) (o : Own X.K s p xs) (he : Ev X e σ s z) (hj : popN xs.length z = some j)
    (k : ∀ s1, Mx (· = p) s s1 → Own X.K s1 p (xs.eraseIdx j) → WSs X rest D σ s1.H)
    (hN : X.N[i]? = some n := by rfl) (hv : Vis X.env.scope n := by first | exact Or.inl rfl | exact Or.inr (Or.inl rfl) | exact Or.inr (Or.inr rfl)) (hd : (n == ("__debug__" : Str)) = false := by decide) (hcd : (n == ("__classdict__" : Str)) = false := by decide)
    (hbase : attributeBase (.Name n p0) "pop" X.env (eval (.Name n p0) X.env) = eval (.Name n p0) X.env := by rfl)
    (hfew : ((backTo p2 (starEach [e] X.env)).all (fun x => !x.1) && (backToKw p2 (keywordEach [] X.env)).all (fun x => x.1.isSome) && decide (([e] : List Expr).length + ([] : List Keyword).length + (if ([] : List Keyword).isEmpty then 0 else 1) < 30)) = true := by rfl)
    (hline : (p1.endLine == p2.line) = true := by rfl) (hs : starEach [e] X.env = (false, eval e X.env) :: starEach [] X.env := by rfl) (hplain : (backTo p2 (starEach [] X.env)).any (·.1) = false := by rfl)
    (hsw : swapsWith (.Call (.Attribute (.Name n p0) "pop" p1) [e] [] p2) none p3.line X.env = pure false := by rfl) :
    WSs X (.Expr (.Call (.Attribute (.Name n p0) "pop" p1) [e] [] p2) p3 :: rest) D σ s.H :=
  do_cons (ps_expr (pe_bm PySem.F.plainAttrs_list PySem.F.slot_list_pop PySem.F.type_list_pop mt_popAt (pe_var hN hv hd hcd) (pa_cons pe_we pa_nil hs) hbase hfew hline hs hplain) hsw) (by
    obtain ⟨h1, vs, h2, h3⟩ := id o
    refine ⟨_, hσ, .inl ⟨rfl, vs, .inl (.inl h2)⟩, he s (Ex.refl _) _ fun v s1 k1 r1 => ?_⟩
    have f1 := k1.n _ _ h2 h1
    have g1 := k1.h _ _ h2
    unfold popN at hj
    split at hj
    · rename_i hb
      have hlt : j < vs.length := by rw [h3.len]; exact seqIx_lt hj
      refine ⟨p, vs, z, j, vs[j], rfl, by rw [show v = V.int z from r1], g1, hb.1, hb.2, by rw [h3.len]; exact hj, List.getElem?_eq_getElem hlt, ?_⟩
      exact k (s1.put p (.lst (vs.eraseIdx j)) f1) (k1.mx.trans (Mx.put f1)) ⟨f1, _, upd_same, (h3.mono k1.f).erase j⟩
    · cases hj)
def InsOk (i : Int) (n : Nat) : Prop := 0 ≤ i ∧ i < 2 ^ 63 ∧ n < sizeLine
def insI {τ : Type} (xs : List τ) (i : Int) (x : τ) : List τ := xs.take i.toNat ++ [x] ++ xs.drop i.toNat
theorem do_insert (i : Nat) {p : Addr} {n : Str} {xs : List α} {z : Int} {x : α} (hσ : σ[i]? = some (some (.ref p))) (o : Own X.K s p xs) (ha : Ev X a σ s z) (hb : Ev X b σ s x) (hj : InsOk z xs.length)
    (k : ∀ s1, Mx (· = p) s s1 → Own X.K s1 p (insI xs z x) → WSs X rest D σ s1.H)
    (hN : X.N[i]? = some n := by rfl) (hv : Vis X.env.scope n := by first | exact Or.inl rfl | exact Or.inr (Or.inl rfl) | exact Or.inr (Or.inr rfl)) (hd : (n == ("__debug__" : Str)) = false := by decide) (hcd : (n == ("__classdict__" : Str)) = false := by decide)
    (hbase : attributeBase (.Name n p0) "insert" X.env (eval (.Name n p0) X.env) = eval (.Name n p0) X.env := by rfl)
    (hfew : ((backTo p2 (starEach [a, b] X.env)).all (fun x => !x.1) && (backToKw p2 (keywordEach [] X.env)).all (fun x => x.1.isSome) && decide (([a, b] : List Expr).length + ([] : List Keyword).length + (if ([] : List Keyword).isEmpty then 0 else 1) < 30)) = true := by rfl)
    (hline : (p1.endLine == p2.line) = true := by rfl) (hs : starEach [a, b] X.env = (false, eval a X.env) :: starEach [b] X.env := by rfl) (hs2 : starEach [b] X.env = (false, eval b X.env) :: starEach [] X.env := by rfl) (hplain : (backTo p2 (starEach [b] X.env)).any (·.1) = false := by rfl)
    (hsw : swapsWith (.Call (.Attribute (.Name n p0) "insert" p1) [a, b] [] p2) none p3.line X.env = pure false := by rfl) :
    WSs X (.Expr (.Call (.Attribute (.Name n p0) "insert" p1) [a, b] [] p2) p3 :: rest) D σ s.H :=
  do_cons (ps_expr (pe_bm PySem.F.plainAttrs_list PySem.F.slot_list_insert PySem.F.type_list_insert mt_insert (pe_var hN hv hd hcd) (pa_cons pe_we (pa_cons pe_we pa_nil hs2) hs) hbase hfew hline hs hplain) hsw) (by
    obtain ⟨h1, vs, h2, h3⟩ := id o
    refine ⟨_, hσ, .inl ⟨rfl, vs, .inl (.inl h2)⟩, ha s (Ex.refl _) _ fun u s1 k1 r1 => hb s1 k1 _ fun v s2 k2 r2 => ?_⟩
    have kk := k1.trans k2
    have f1 := kk.n _ _ h2 h1
    have g1 := kk.h _ _ h2
    refine ⟨p, vs, z, v, rfl, by rw [show u = V.int z from r1], g1, by rw [h3.len]; exact hj.2.2, hj.1, hj.2.1, ?_⟩
    exact k (s2.put p (.lst (vs.take z.toNat ++ [v] ++ vs.drop z.toNat)) f1) (kk.mx.trans (Mx.put f1)) ⟨f1, _, upd_same, (((h3.mono kk.f).take _).snoc r2).app ((h3.mono kk.f).drop _)⟩)
theorem do_reverse (i : Nat) {p : Addr} {n : Str} {xs : List α} (hσ : σ[i]? = some (some (.ref p))) (o : Own X.K s p xs)
    (k : ∀ s1, Mx (· = p) s s1 → Own X.K s1 p xs.reverse → WSs X rest D σ s1.H)
    (hN : X.N[i]? = some n := by rfl) (hv : Vis X.env.scope n := by first | exact Or.inl rfl | exact Or.inr (Or.inl rfl) | exact Or.inr (Or.inr rfl)) (hd : (n == ("__debug__" : Str)) = false := by decide) (hcd : (n == ("__classdict__" : Str)) = false := by decide)
    (hbase : attributeBase (.Name n p0) "reverse" X.env (eval (.Name n p0) X.env) = eval (.Name n p0) X.env := by rfl) (hline : (p1.endLine == p2.line) = true := by rfl)
    (hsw : swapsWith (.Call (.Attribute (.Name n p0) "reverse" p1) [] [] p2) none p3.line X.env = pure false := by rfl) :
    WSs X (.Expr (.Call (.Attribute (.Name n p0) "reverse" p1) [] [] p2) p3 :: rest) D σ s.H :=
  do_cons (ps_expr (pe_bm0 PySem.F.plainAttrs_list PySem.F.slot_list_reverse PySem.F.type_list_reverse mt_reverse (pe_var hN hv hd hcd) hbase hline) hsw) (by
    obtain ⟨h1, vs, h2, h3⟩ := id o
    refine ⟨_, hσ, .inl ⟨rfl, vs, .inl (.inl h2)⟩, p, vs, rfl, rfl, h2, ?_⟩
    exact k (s.put p (.lst vs.reverse) h1) (Mx.put h1) ⟨h1, _, upd_same, h3.rev⟩)
theorem do_clear (i : Nat) {p : Addr} {n : Str} {xs : List α} (hσ : σ[i]? = some (some (.ref p))) (o : Own X.K s p xs)
    (k : ∀ s1, Mx (· = p) s s1 → Own X.K s1 p ([] : List α) → WSs X rest D σ s1.H)
    (hN : X.N[i]? = some n := by rfl) (hv : Vis X.env.scope n := by first | exact Or.inl rfl | exact Or.inr (Or.inl rfl) | exact Or.inr (Or.inr rfl)) (hd : (n == ("__debug__" : Str)) = false := by decide) (hcd : (n == ("__classdict__" : Str)) = false := by decide)
    (hbase : attributeBase (.Name n p0) "clear" X.env (eval (.Name n p0) X.env) = eval (.Name n p0) X.env := by rfl) (hline : (p1.endLine == p2.line) = true := by rfl)
    (hsw : swapsWith (.Call (.Attribute (.Name n p0) "clear" p1) [] [] p2) none p3.line X.env = pure false := by rfl) :
    WSs X (.Expr (.Call (.Attribute (.Name n p0) "clear" p1) [] [] p2) p3 :: rest) D σ s.H :=
  do_cons (ps_expr (pe_bm0 PySem.F.plainAttrs_list PySem.F.slot_list_clear PySem.F.type_list_clear mt_clear (pe_var hN hv hd hcd) hbase hline) hsw) (by
    obtain ⟨h1, vs, h2, h3⟩ := id o
    refine ⟨_, hσ, .inl ⟨rfl, vs, .inl (.inl h2)⟩, p, vs, rfl, rfl, h2, ?_⟩
    exact k (s.put p (.lst []) h1) (Mx.put h1) ⟨h1, _, upd_same, trivial⟩)
theorem ev_catT {x y : Tu α} (ha : Ev X a σ s x) (hb : Ev X b σ s y) (hz : x.l.length + y.l.length ≤ sizeLine) : Ev X (.BinOp a .Add b pos) σ s (Tu.mk (x.l ++ y.l)) := fun s1 k Q q =>
  we_of (pe_op op_catA pe_we pe_we) (ha s1 k _ fun v s2 k2 r2 => hb s2 (k.trans k2) _ fun u s3 k3 r3 => by
    obtain ⟨p, vs, rfl, h1, h2⟩ := Enc.mono (α := Tu α) k3.f r2
    obtain ⟨p', ws, rfl, h3, h4⟩ := r3
    have kk := k2.trans k3
    refine ⟨p, p', vs, ws, rfl, rfl, sqt_mono s3.sub h1, sqt_mono s3.sub h3, by rw [h2.len, h4.len]; exact hz, fun e => ?_, fun _ e => ?_, fun _ _ l hl => q _ (s3.newF l _ hl) (kk.trans (Ex.newF hl)) ⟨l, _, rfl, tup_new hl, (h2.app h4).mono (Ex.newF hl).f⟩⟩
    · refine q _ s3 kk ⟨p', ws, rfl, h3, ?_⟩
      subst e
      have e2 : x.l = [] := List.length_eq_zero_iff.mp h2.len.symm
      show Reps _ _ ws (x.l ++ y.l)
      rw [e2]; exact h4
    · refine q _ s3 kk ⟨p, vs, rfl, h1, ?_⟩
      subst e
      have e2 : y.l = [] := List.length_eq_zero_iff.mp h4.len.symm
      show Reps _ _ vs (x.l ++ y.l)
      rw [e2, List.append_nil]; exact h2)
end
theorem foldO_app {α β : Type} {N : Nat} {f : List β → α → Option (List β)} {g : α → β} : ∀ {xs : List α} {b : List β}, (∀ b x, b.length < N → x ∈ xs → f b x = some (b ++ [g x])) → b.length + xs.length ≤ N → foldO f b xs = some (b ++ xs.map g)
  | [], b, _, _ => by simp [foldO]
  | x :: r, b, h, hl => by
    rw [List.length_cons] at hl
    unfold foldO
    rw [h b x (by omega) List.mem_cons_self, Option.bind_some, foldO_app (xs := r) (b := b ++ [g x]) (fun b y hb hy => h b y hb (List.mem_cons_of_mem _ hy)) (by rw [List.length_append, List.length_singleton]; omega)]
    simp
theorem atI_map {α β : Type} {f : α → β} {xs : List α} {i : Int} {x : α} (h : atI xs i = some x) : atI (xs.map f) i = some (f x) := by
  unfold atI at h ⊢
  rw [List.length_map]
  cases hj : ixN xs.length i with
  | none => rw [hj] at h; cases h
  | some j =>
    rw [hj] at h
    show (xs.map f)[j]? = _
    rw [List.getElem?_map]
    have : xs[j]? = some x := h
    rw [this]; rfl
theorem foldF_none {α ρ : Type} {f : Unit → α → Option (Fl Unit ρ)} : ∀ {xs : List α}, (∀ x ∈ xs, f () x = some (.nx ())) → foldF f () xs = some (.nx ())
  | [], _ => rfl
  | x :: r, h => by
    unfold foldF
    rw [h x List.mem_cons_self]
    exact foldF_none fun y hy => h y (List.mem_cons_of_mem _ hy)
theorem foldF_ok {α ρ : Type} {f : Unit → α → Option (Fl Unit ρ)} {xs : List α} {Q : Fl Unit ρ → Prop} (h : ∀ x ∈ xs, Ok (f () x) (· = .nx ())) (q : Q (.nx ())) : Ok (foldF f () xs) Q :=
  ⟨_, foldF_none fun x hx => (h x hx).eq, q⟩
def Drawn (sizes ds : List Int) : Prop := ds.length = sizes.length ∧ ∀ (j : Nat) (d n : Int), ds[j]? = some d → sizes[j]? = some n → 0 ≤ d ∧ d < n
theorem ok_draw {sizes ds : List Int} (h : Drawn sizes ds) (k : Nat) {n : Int} (hk : sizes[k]? = some n) {Q : Int → Prop} (q : ∀ d, 0 ≤ d → d < n → Q d) : Ok (atI ds (k : Int)) Q := by
  obtain ⟨h1, h2⟩ := h
  have hlt : k < ds.length := by rw [h1]; exact (List.getElem?_eq_some_iff.mp hk).1
  refine ok_atI (by omega) (by omega) fun d hd => ?_
  rw [show (k : Int).toNat = k by omega] at hd
  obtain ⟨a, b⟩ := h2 k d n hd hk
  exact q d a b
theorem ok_sgn {x : Str} {i : Int} {Q : Str → Prop} (hz : x.length ≤ sizeLine) (h0 : 0 ≤ i) (h1 : i < x.length) (h : ∀ c, x.cps.toList[i.toNat]? = some c → Q ⟨#[c]⟩) : Ok (sgn x i) Q := by
  unfold sgn
  rw [if_pos hz]
  have hl : i.toNat < x.cps.toList.length := by
    rw [Array.length_toList]
    show i.toNat < x.length
    omega
  rw [atI_get h0 (by rw [Array.length_toList]; show i < (x.length : Int); exact h1), List.getElem?_eq_getElem hl]
  exact ok_some (h _ (List.getElem?_eq_getElem hl))
theorem bnd_some {α : Type} (m : Option α) : (bnd m fun x => some x) = m := by cases m <;> rfl
theorem ok_ret {α : Type} {m : Option α} {P : α → Prop} (h : Ok m P) : Ok (bnd m fun x => some x) P := by rw [bnd_some]; exact h
def txt (x : Str) : Prop := PyData.strOk x = true
theorem shp_strs {xs : List Str} (h : ∀ x ∈ xs, txt x) : shp xs := by
  unfold shp SeqAt.shaped
  have h1 : PyData.canLay0 (EqD.toD xs) = true := by
    show PyData.canLay0 (.list (xs.map PyData.str)) = true
    unfold PyData.canLay0
    induction xs with
    | nil => simp [PyData.canLayAll0]
    | cons x r ih =>
      rw [List.map_cons]
      unfold PyData.canLayAll0
      rw [ih fun y hy => h y (List.mem_cons_of_mem _ hy)]
      show (PyData.canLay0 (.str x) && true) = true
      unfold PyData.canLay0
      rw [show PyData.strOk x = true from h x List.mem_cons_self]; rfl
  have h2 : PyData.depth (EqD.toD xs) ≤ 64 := by
    show PyData.depth (.list (xs.map PyData.str)) ≤ 64
    unfold PyData.depth
    have : PyData.depthAll (xs.map PyData.str) = 0 := by
      clear h h1
      induction xs with
      | nil => simp [PyData.depthAll]
      | cons x r ih => rw [List.map_cons]; unfold PyData.depthAll; rw [ih]; simp [PyData.depth]
    omega
  rw [h1, decide_eq_true h2]; rfl
end Dy

namespace Dy
open PySem PySem.Spec L2
open PyProof.Rows hiding St
open Enc (rep)
open Flat (toV)
open EncA (repA)

def S.back (s t : S) (h : Fle s.F t.F) : S := ⟨s.F, t.H, fun a o q => t.sub a o (h a o q)⟩
theorem backE {s0 s t : S} (h : Fle s.F t.F) (E : Ex s0 s) (E' : Ex s0 t) : Ex s0 (s.back t h) := ⟨E.f, E'.h, E.n⟩
theorem backOwn {α : Type} [Enc α] {K : PySem.W.Frag} {s s1 t : S} {p : Addr} {xs : List α} (h : Fle s.F t.F) (o : Own K s p xs) (h1 : s1.F p = s.H p) (h2 : Fle s1.F t.F) : Own K (s.back t h) p xs := by
  obtain ⟨n, vs, e, r⟩ := o
  exact ⟨n, vs, t.sub _ _ (h2 _ _ (h1.trans e)), r⟩
theorem backOwn2 {α : Type} [Flat α] {K : PySem.W.Frag} {s t : S} {q : Addr} {xs : List α} (h : Fle s.F t.F) (o : Own K t q xs) : Own K (s.back t h) q xs := by
  obtain ⟨n, vs, e, r⟩ := o
  refine ⟨?_, vs, e, ?_⟩
  · show s.F q = none
    cases z : s.F q with
    | none => rfl
    | some u => rw [h _ _ z] at n; cases n
  · rw [r.flat]; exact Reps.of_flat xs
theorem backFlat {α : Type} [Flat α] {K : PySem.W.Frag} {s t : S} {v : V} {x : α} (h : Fle s.F t.F) (r : rep K t.F v x) : rep K (s.back t h).F v x := Flat.iff.mpr (Flat.iff.mp r)
section
variable {α β γ δ : Type} [Enc α] [Enc β] [Enc γ] [Enc δ] {X : Cx} {σ : St} {s t : S} {e a b c tg iter : Expr} {es : List Expr} {pos p0 p1 p2 p3 p4 p5 : Pos} {D : Ends} {rest A B body : List Stmt}
theorem do_frz2 {p : Addr} {xs : List α} {ss : List Stmt} (o : Own X.K s p xs) (k : ∀ s' : S, s'.H = s.H → Fle s.F s'.F → (∀ q, q ≠ p → s'.F q = s.F q) → rep X.K s'.F (.ref p) xs → s'.F p = s.H p → WSs X ss D σ s'.H) : WSs X ss D σ s.H := by
  obtain ⟨hn, vs, hp, r⟩ := o
  have f : Fle s.F (upd s.F p (.lst vs)) := fun a o q => by rw [upd_ne (ne_of_none q hn)]; exact q
  exact k ⟨upd s.F p (.lst vs), s.H, fun a o q => by
    unfold upd at q
    split at q
    · rename_i e; cases q; rw [e]; exact hp
    · exact s.sub a o q⟩ rfl f (fun q hq => upd_ne hq) ⟨p, vs, rfl, .inl (.inl upd_same), r.mono f⟩ (by show upd s.F p (.lst vs) p = _; rw [upd_same, hp])
theorem do_back {ss : List Stmt} (s : S) {t : S} (h : Fle s.F t.F) (k : WSs X ss D σ (s.back t h).H) : WSs X ss D σ t.H := k

section
variable {p : Addr} {n : Str} {xs : List α}
theorem we_pop (i : Nat) {z : Int} {j : Nat} {y : α} {Q : VK} (hσ : σ[i]? = some (some (.ref p))) (o : Own X.K s p xs) (he : Ev X e σ s z) (hj : popN xs.length z = some j) (hy : xs[j]? = some y)
    (k : ∀ v s1, Mx (· = p) s s1 → Own X.K s1 p (xs.eraseIdx j) → rep X.K s1.F v y → Q v s1.H)
    (hN : X.N[i]? = some n := by rfl) (hv : Vis X.env.scope n := by first | exact Or.inl rfl | exact Or.inr (Or.inl rfl) | exact Or.inr (Or.inr rfl)) (hd : (n == ("__debug__" : Str)) = false := by decide) (hcd : (n == ("__classdict__" : Str)) = false := by decide)
    (hbase : attributeBase (.Name n p0) "pop" X.env (eval (.Name n p0) X.env) = eval (.Name n p0) X.env := by rfl)
    (hfew : ((backTo p2 (starEach [e] X.env)).all (fun x => !x.1) && (backToKw p2 (keywordEach [] X.env)).all (fun x => x.1.isSome) && decide (([e] : List Expr).length + ([] : List Keyword).length + (if ([] : List Keyword).isEmpty then 0 else 1) < 30)) = true := by rfl)
    (hline : (p1.endLine == p2.line) = true := by rfl) (hs : starEach [e] X.env = (false, eval e X.env) :: starEach [] X.env := by rfl) (hplain : (backTo p2 (starEach [] X.env)).any (·.1) = false := by rfl) :
    WE X (.Call (.Attribute (.Name n p0) "pop" p1) [e] [] p2) σ s.H Q :=
  we_of (pe_bm PySem.F.plainAttrs_list PySem.F.slot_list_pop PySem.F.type_list_pop mt_popAt (pe_var hN hv hd hcd) (pa_cons pe_we pa_nil hs) hbase hfew hline hs hplain) (by
    obtain ⟨h1, vs, h2, h3⟩ := id o
    refine ⟨_, hσ, .inl ⟨rfl, vs, .inl (.inl h2)⟩, he s (Ex.refl _) _ fun v s1 k1 r1 => ?_⟩
    have f1 := k1.n _ _ h2 h1
    have g1 := k1.h _ _ h2
    unfold popN at hj
    split at hj
    · rename_i hb
      obtain ⟨w, hw, rw'⟩ := (h3.mono k1.f).get hy
      refine ⟨p, vs, z, j, w, rfl, by rw [show v = V.int z from r1], g1, hb.1, hb.2, by rw [h3.len]; exact hj, hw, ?_⟩
      exact k w (s1.put p (.lst (vs.eraseIdx j)) f1) (k1.mx.trans (Mx.put f1)) ⟨f1, _, upd_same, (h3.mono k1.f).erase j⟩ rw'
    · cases hj)
end
def popAt {τ : Type} (xs : List τ) (z : Int) : Option (τ × List τ) := (popN xs.length z).bind fun j => (xs[j]?).map fun y => (y, xs.eraseIdx j)
theorem popAt_some {τ : Type} {xs ys : List τ} {z : Int} {y : τ} (h : popAt xs z = some (y, ys)) : ∃ j, popN xs.length z = some j ∧ xs[j]? = some y ∧ ys = xs.eraseIdx j := by
  unfold popAt at h
  obtain ⟨j, h1, h2⟩ := bndE h
  obtain ⟨w, h3, h4⟩ := Option.map_eq_some_iff.mp h2
  cases h4
  exact ⟨j, h1, h3, rfl⟩
theorem do_setPop (i l : Nat) {p : Addr} {n m : Str} {xs ys : List α} {z : Int} {y : α} {py : Pos} (hσ : σ[i]? = some (some (.ref p))) (o : Own X.K s p xs) (he : Ev X e σ s z) (hj : popAt xs z = some (y, ys))
    (k : ∀ v s1, Mx (· = p) s s1 → Own X.K s1 p ys → rep X.K s1.F v y → WSs X rest D (σ.set l (some v)) s1.H)
    (hnd : X.N.Nodup) (hN : X.N[i]? = some n := by rfl) (hv : Vis X.env.scope n := by first | exact Or.inl rfl | exact Or.inr (Or.inl rfl) | exact Or.inr (Or.inr rfl)) (hd : (n == ("__debug__" : Str)) = false := by decide) (hcd : (n == ("__classdict__" : Str)) = false := by decide)
    (hbase : attributeBase (.Name n p0) "pop" X.env (eval (.Name n p0) X.env) = eval (.Name n p0) X.env := by rfl)
    (hfew : ((backTo p2 (starEach [e] X.env)).all (fun x => !x.1) && (backToKw p2 (keywordEach [] X.env)).all (fun x => x.1.isSome) && decide (([e] : List Expr).length + ([] : List Keyword).length + (if ([] : List Keyword).isEmpty then 0 else 1) < 30)) = true := by rfl)
    (hline : (p1.endLine == p2.line) = true := by rfl) (hs : starEach [e] X.env = (false, eval e X.env) :: starEach [] X.env := by rfl) (hplain : (backTo p2 (starEach [] X.env)).any (·.1) = false := by rfl)
    (hx : Loc X.env.scope m := by first | exact Or.inl rfl | exact Or.inr rfl) (hi : X.N[l]? = some m := by rfl)
    (hsw : swapsWith (.Call (.Attribute (.Name n p0) "pop" p1) [e] [] p2) (some (.Name m py)) pos.line X.env = pure false := by rfl) (hf : X.fn m = true ∨ X.env.scope.names.lookup m = some .local := by first | exact .inl rfl | exact .inr rfl) :
    WSs X (.Assign [.Name m py] (.Call (.Attribute (.Name n p0) "pop" p1) [e] [] p2) pos :: rest) D σ s.H := by
  obtain ⟨j, h1, h2, rfl⟩ := popAt_some hj
  exact do_cons (ps_set hnd hi hx pe_we hsw hf) (we_pop i hσ o he h1 h2 (fun v s1 m1 o1 r1 => k v s1 m1 o1 r1) hN hv hd hcd hbase hfew hline hs hplain)
theorem do_appPop (i l : Nat) {p q : Addr} {n m : Str} {xs ys zs : List α} {z : Int} {y : α} {py : Pos} (hσ : σ[i]? = some (some (.ref p))) (hσ2 : σ[l]? = some (some (.ref q))) (hpq : q ≠ p) (o : Own X.K s p xs) (o2 : Own X.K s q zs) (hz : zs.length < sizeLine) (he : Ev X e σ s z) (hj : popAt xs z = some (y, ys))
    (k : ∀ s1, Mx (fun a => a = p ∨ a = q) s s1 → Own X.K s1 p ys → Own X.K s1 q (zs ++ [y]) → WSs X rest D σ s1.H)
    (hN : X.N[i]? = some n := by rfl) (hv : Vis X.env.scope n := by first | exact Or.inl rfl | exact Or.inr (Or.inl rfl) | exact Or.inr (Or.inr rfl)) (hd : (n == ("__debug__" : Str)) = false := by decide) (hcd : (n == ("__classdict__" : Str)) = false := by decide)
    (hbase : attributeBase (.Name n p0) "pop" X.env (eval (.Name n p0) X.env) = eval (.Name n p0) X.env := by rfl)
    (hfew : ((backTo p2 (starEach [e] X.env)).all (fun x => !x.1) && (backToKw p2 (keywordEach [] X.env)).all (fun x => x.1.isSome) && decide (([e] : List Expr).length + ([] : List Keyword).length + (if ([] : List Keyword).isEmpty then 0 else 1) < 30)) = true := by rfl)
    (hline : (p1.endLine == p2.line) = true := by rfl) (hs : starEach [e] X.env = (false, eval e X.env) :: starEach [] X.env := by rfl) (hplain : (backTo p2 (starEach [] X.env)).any (·.1) = false := by rfl)
    (hN2 : X.N[l]? = some m := by rfl) (hv2 : Vis X.env.scope m := by first | exact Or.inl rfl | exact Or.inr (Or.inl rfl) | exact Or.inr (Or.inr rfl)) (hd2 : (m == ("__debug__" : Str)) = false := by decide) (hcd2 : (m == ("__classdict__" : Str)) = false := by decide)
    (hbase2 : attributeBase (.Name m py) "append" X.env (eval (.Name m py) X.env) = eval (.Name m py) X.env := by rfl)
    (hfew2 : ((backTo p4 (starEach [.Call (.Attribute (.Name n p0) "pop" p1) [e] [] p2] X.env)).all (fun x => !x.1) && (backToKw p4 (keywordEach [] X.env)).all (fun x => x.1.isSome) && decide (([.Call (.Attribute (.Name n p0) "pop" p1) [e] [] p2] : List Expr).length + ([] : List Keyword).length + (if ([] : List Keyword).isEmpty then 0 else 1) < 30)) = true := by rfl)
    (hline2 : (p3.endLine == p4.line) = true := by rfl) (hs2 : starEach [.Call (.Attribute (.Name n p0) "pop" p1) [e] [] p2] X.env = (false, eval (.Call (.Attribute (.Name n p0) "pop" p1) [e] [] p2) X.env) :: starEach [] X.env := by rfl) (hplain2 : (backTo p4 (starEach [] X.env)).any (·.1) = false := by rfl)
    (hsw : swapsWith (.Call (.Attribute (.Name m py) "append" p3) [.Call (.Attribute (.Name n p0) "pop" p1) [e] [] p2] [] p4) none p5.line X.env = pure false := by rfl) :
    WSs X (.Expr (.Call (.Attribute (.Name m py) "append" p3) [.Call (.Attribute (.Name n p0) "pop" p1) [e] [] p2] [] p4) p5 :: rest) D σ s.H := by
  obtain ⟨j, h1, h2, rfl⟩ := popAt_some hj
  refine do_cons (ps_expr (pe_bm PySem.F.plainAttrs_list PySem.F.slot_list_append PySem.F.type_list_append mt_append (pe_var hN2 hv2 hd2 hcd2) (pa_cons pe_we pa_nil hs2) hbase2 hfew2 hline2 hs2 hplain2) hsw) ?_
  obtain ⟨g1, vs, g2, g3⟩ := id o2
  refine ⟨_, hσ2, .inl ⟨rfl, vs, .inl (.inl g2)⟩, we_pop i hσ o he h1 h2 (fun v s1 m1 o1 r1 => ?_) hN hv hd hcd hbase hfew hline hs hplain⟩
  obtain ⟨f1, ws, f2, f3⟩ := o2.mx m1 hpq
  refine ⟨q, ws, v, rfl, rfl, f2, by rw [f3.len]; exact hz, ?_⟩
  have m2 : Mx (fun a => a = p ∨ a = q) s1 (s1.put q (.lst (ws ++ [v])) f1) := ⟨(Mx.put f1).f, fun a u h nn => (Mx.put f1).h a u h fun z => nn (.inr z), (Mx.put f1).n, (Mx.put f1).d⟩
  have m0 : Mx (fun a => a = p ∨ a = q) s s1 := ⟨m1.f, fun a u h nn => m1.h a u h fun z => nn (.inl z), m1.n, m1.d⟩
  refine k (s1.put q (.lst (ws ++ [v])) f1) (m0.trans m2) (o1.mx (Mx.put f1) fun z => hpq z.symm) ⟨f1, _, upd_same, f3.snoc r1⟩
theorem Ex.mu2 {s t u : S} {p q : Addr} (a : Ex s t) (b : Mx (fun a => a = p ∨ a = q) t u) (h : s.H p = none) (h2 : s.H q = none) : Ex s u := a.mu b fun _ e => e.elim (fun z => z ▸ h) fun z => z ▸ h2
def popAll {σ τ : Type} (f : List τ → σ → Option Int) : List τ → List σ → Option (List τ)
  | _, [] => some []
  | l, x :: r => (f l x).bind fun z => (popAt l z).bind fun y => (popAll f y.2 r).bind fun ys => some (y.1 :: ys)
theorem do_retPop (i j : Nat) {τ : Type} [Enc τ] {zs : List τ} {xs ys : List α} {f : List α → τ → Option Int} {p : Addr} {n x : Str} {px : Pos} {ie : Expr} {scope : Scope} {own : List (Str × Nat)} (hc : X.calm = true) (hN : X.N.Nodup) (hi : EvI X (.Name x px) iter σ s zs) (o : Own X.K s p xs) (ok : BlkOk X.N X.env.scope scope own)
    (hj : X.N[j]? = some x) (hjo : j ∈ own.map (·.2)) (hg : ∀ s0 H0 C cl fp, PG (Blk X scope s0 H0 C cl fp) (.Name x px) (gName j)) (hσ : ∀ v, ((wipe σ (own.map (·.2))).set j (some v))[i]? = some (some (.ref p))) (hf : popAll f xs zs = some ys) (hz : ys.length ≤ sizeLine)
    (he : ∀ (l : List α) (y : τ) (z : Int) (v : V) (s1 : S), y ∈ zs → Mx (· = p) s s1 → Own X.K s1 p l → rep X.K s1.F v y → f l y = some z → ∀ s0 H0 C cl fp, Ev (Blk X scope s0 H0 C cl fp) ie ((wipe σ (own.map (·.2))).set j (some v)) s1 z)
    (k : ∀ q s1, Mx (· = p) s s1 → s.H q = none → Own X.K s1 q ys → D.rt (.ref q) s1.H)
    (hNi : X.N[i]? = some n := by rfl)
    (hv : ∀ s0 H0 C cl fp, Vis (Blk X scope s0 H0 C cl fp).env.scope n := by intros; first | exact Or.inl rfl | exact Or.inr (Or.inl rfl) | exact Or.inr (Or.inr rfl)) (hd : (n == ("__debug__" : Str)) = false := by decide) (hcd : (n == ("__classdict__" : Str)) = false := by decide)
    (hbase : ∀ s0 H0 C cl fp, attributeBase (.Name n p0) "pop" (Blk X scope s0 H0 C cl fp).env (eval (.Name n p0) (Blk X scope s0 H0 C cl fp).env) = eval (.Name n p0) (Blk X scope s0 H0 C cl fp).env := by intros; rfl)
    (hfew : ∀ s0 H0 C cl fp, ((backTo p2 (starEach [ie] (Blk X scope s0 H0 C cl fp).env)).all (fun x => !x.1) && (backToKw p2 (keywordEach [] (Blk X scope s0 H0 C cl fp).env)).all (fun x => x.1.isSome) && decide (([ie] : List Expr).length + ([] : List Keyword).length + (if ([] : List Keyword).isEmpty then 0 else 1) < 30)) = true := by intros; rfl)
    (hline : (p1.endLine == p2.line) = true := by rfl) (hs1 : ∀ s0 H0 C cl fp, starEach [ie] (Blk X scope s0 H0 C cl fp).env = (false, eval ie (Blk X scope s0 H0 C cl fp).env) :: starEach [] (Blk X scope s0 H0 C cl fp).env := by intros; rfl) (hplain : ∀ s0 H0 C cl fp, (backTo p2 (starEach [] (Blk X scope s0 H0 C cl fp).env)).any (·.1) = false := by intros; rfl)
    (hs : ∀ x, foldedSetIterable iter X.env x = pure x := by intro _; rfl) : WSs X (.Return (some (.ListComp (.Call (.Attribute (.Name n p0) "pop" p1) [ie] [] p2) [⟨.Name x px, iter, [], 0⟩] scope p3)) pos :: rest) D σ s.H := by
  have hpe : PE X (.ListComp (.Call (.Attribute (.Name n p0) "pop" p1) [ie] [] p2) [⟨.Name x px, iter, [], 0⟩] scope p3) (tLc (WI X (.Name x px) iter) (gName j) tYes (fun σ H Q => ∀ s0 H0 C cl fp, WE (Blk X scope s0 H0 C cl fp) (.Call (.Attribute (.Name n p0) "pop" p1) [ie] [] p2) σ H Q) (own.map (·.2))) :=
    pe_lc hc hN pi_wi ok hg (fun s0 H0 C cl fp => pts_nil) (fun s0 H0 C cl fp => ⟨fun pins s _ _ _ I h => h s0 H0 C cl fp pins s I⟩) hs
  refine do_cons (ps_ret hpe) ?_
  refine (show EvI X (.Name x px) iter σ s zs from hi) s (Ex.refl _) _ fun J s2 k2 W => ?_
  intro Dd hD
  have o2 : Own X.K s2 p xs := o.ex k2
  have hne : p ≠ Dd := Own.ne o2 hD
  refine ⟨fun i m H => ∃ (u : S) (pre l : List α) (vs : List V), u.H = H ∧ m = zs.length - i ∧ Mx (· = p) s2 u ∧ Own X.K u p l ∧ u.F Dd = none ∧ u.H Dd = some (.lst vs) ∧ Reps X.K u.F vs pre ∧ (∃ suf, popAll f l (zs.drop i) = some suf ∧ pre ++ suf = ys), ⟨zs.length, s2.newO Dd (.lst []) hD, [], xs, [], rfl, rfl, (Ex.newO hD).mx, o2.ex (Ex.newO hD), (fF hD : s2.F Dd = none), upd_same, trivial, ys, hf, rfl⟩, ?_⟩
  rintro i' m H ⟨u, pre, l, vs, rfl, rfl, ku, ol, n1, n2, n3, suf, h1, h2⟩
  by_cases hi' : i' < zs.length
  · right
    obtain ⟨g1, g2⟩ := W.go i' u zs[i'] ku.f (List.getElem?_eq_getElem hi')
    refine ⟨g1, fun H' => ∃ m', m' < zs.length - i' ∧ ∃ (u : S) (pre l : List α) (vs : List V), u.H = H' ∧ m' = zs.length - (i' + 1) ∧ Mx (· = p) s2 u ∧ Own X.K u p l ∧ u.F Dd = none ∧ u.H Dd = some (.lst vs) ∧ Reps X.K u.F vs pre ∧ (∃ suf, popAll f l (zs.drop (i' + 1)) = some suf ∧ pre ++ suf = ys), fun H' z => z, fun v H' hy => ?_⟩
    obtain ⟨u', rfl, ku', rv⟩ := g2 v H' hy
    refine ⟨by show wipe ((wipe σ (own.map (·.2))).set j (some v)) (own.map (·.2)) = _; rw [wipe_set hjo]; exact wipe_wipe fun _ z => z, ?_⟩
    unfold tYes
    dsimp only
    rw [if_pos rfl]
    rw [List.drop_eq_getElem_cons hi'] at h1
    unfold popAll at h1
    obtain ⟨z, hz1, h1⟩ := bndE h1
    obtain ⟨⟨y, l'⟩, hz2, h1⟩ := bndE h1
    obtain ⟨suf', hz3, h1⟩ := bndE h1
    cases h1
    obtain ⟨jj, e1, e2, e3⟩ := popAt_some hz2
    subst e3
    have kk : Mx (· = p) s u' := (k2.mx.trans ku).trans ku'.mx
    intro s0 H0 C cl fp
    refine we_pop (X := Blk X scope s0 H0 C cl fp) (e := ie) i (hσ v) (ol.ex ku') (he l zs[i'] z v u' (List.getElem_mem hi') kk (ol.ex ku') rv hz1 s0 H0 C cl fp) e1 e2 (fun w u4 m4 o4 r4 => ?_) hNi (hv s0 H0 C cl fp) hd hcd (hbase s0 H0 C cl fp) (hfew s0 H0 C cl fp) hline (hs1 s0 H0 C cl fp) (hplain s0 H0 C cl fp)
    have k5 : Mx (· = p) u u4 := ku'.mx.trans m4
    have hD4 : u4.H Dd = some (.lst vs) := k5.h _ _ n2 fun z => hne z.symm
    have hF4 : u4.F Dd = none := k5.n _ _ n2 n1
    have hlen : vs.length < sizeLine := by
      have e1 := n3.len
      have e2 : ys.length = pre.length + (suf'.length + 1) := by rw [← h2, List.length_append, List.length_cons]
      omega
    have hlt : zs.length - (i' + 1) < zs.length - i' := by omega
    have md : Mx (· = p) s2 (u4.put Dd (.lst (vs ++ [w])) hF4) := ⟨(ku.trans k5).f, fun a ob h nn => by
      show upd u4.H Dd _ a = some ob
      rw [upd_ne (ne_of_none h hD)]; exact (ku.trans k5).h a ob h nn, (ku.trans k5).n, fun a ob h => by
      obtain ⟨ob', h'⟩ := (ku.trans k5).d a ob h
      exact ⟨ob', by show upd u4.H Dd _ a = some ob'; rw [upd_ne (ne_of_none h hD)]; exact h'⟩⟩
    exact ⟨vs, hD4, hlen, _, hlt, u4.put Dd (.lst (vs ++ [w])) hF4, pre ++ [y], _, vs ++ [w], rfl, rfl, md, o4.mx (Mx.put hF4) hne, hF4, upd_same, (n3.mono k5.f).snoc r4, suf', hz3, by rw [List.append_assoc]; exact h2⟩
  · left
    have hd : zs.drop i' = [] := List.drop_eq_nil_of_le (by omega)
    rw [hd] at h1
    cases h1
    refine ⟨W.stop i' u ku.f (by omega), k Dd u (k2.mx.trans ku) (fr_back k2 hD) ⟨n1, vs, n2, ?_⟩⟩
    rw [← h2, List.append_nil]
    exact n3
end
end Dy

namespace Dy
open PySem PySem.Spec L2
open PyProof.Rows hiding St

theorem php : ∀ (n : Nat) (l : List Nat), l.Nodup → (∀ x ∈ l, x < n) → l.length ≤ n
  | 0, [], _, _ => Nat.le_refl _
  | 0, x :: _, _, h => absurd (h x List.mem_cons_self) (Nat.not_lt_zero _)
  | n + 1, l, hn, h => by
    by_cases hm : n ∈ l
    · have h1 := php n (l.erase n) (hn.erase n) (fun x hx => by
        have h2 := h x (List.mem_of_mem_erase hx)
        have h3 : x ≠ n := (hn.mem_erase_iff.mp hx).1
        omega)
      rw [List.length_erase_of_mem hm] at h1
      omega
    · have := php n l hn (fun x hx => by
        have h2 := h x hx
        have h3 : x ≠ n := fun e => hm (e ▸ hx)
        omega)
      omega
theorem mem_rng {a b x : Int} : x ∈ rng a b ↔ a ≤ x ∧ x < b := by
  constructor
  · exact rng_mem
  · intro ⟨h1, h2⟩
    unfold rng
    refine List.mem_map.mpr ⟨(x - a).toNat, List.mem_range.mpr (by omega), by omega⟩
theorem rng_nodup (a b : Int) : (rng a b).Nodup := by
  unfold rng
  refine List.Pairwise.map _ (fun x y h e => h (by omega)) List.nodup_range
theorem rng_sorted (a b : Int) : (rng a b).Pairwise (· ≤ ·) := by
  unfold rng
  refine List.Pairwise.map _ (fun x y h => ?_) List.pairwise_lt_range
  omega
theorem sort_perm (xs : List Int) : (sortI xs).Perm xs := List.mergeSort_perm _ _
theorem sort_of_perm {xs ys : List Int} (h : xs.Perm ys) (hs : ys.Pairwise (· ≤ ·)) : sortI xs = ys := by
  refine List.Perm.eq_of_pairwise (le := fun x y : Int => x ≤ y) (fun a b _ _ h h' => Int.le_antisymm h h') ?_ hs ((sort_perm xs).trans h)
  have := List.pairwise_mergeSort (le := fun x y : Int => decide (x ≤ y)) (fun a b c h1 h2 => by simp at *; omega) (fun a b => by simp; omega) xs
  exact this.imp (by simp)
theorem perm_rng {l : List Int} {n : Nat} (h1 : l.Nodup) (h2 : l.length = n) (h3 : ∀ x ∈ l, 0 ≤ x ∧ x < n) : l.Perm (rng 0 n) := by
  refine (List.perm_ext_iff_of_nodup h1 (rng_nodup 0 n)).mpr fun a => ⟨fun h => mem_rng.mpr (h3 a h), fun h => ?_⟩
  obtain ⟨a0, a1⟩ := mem_rng.mp h
  refine Classical.byContradiction fun hn => ?_
  have h4 : ((a :: l).map Int.toNat).Nodup := by
    refine List.Pairwise.map (R := fun x y => x ≠ y ∧ 0 ≤ x ∧ 0 ≤ y) _ (fun x y ⟨h, p, q⟩ e => h (by omega)) ?_
    refine List.pairwise_cons.mpr ⟨fun x hx => ⟨fun e => hn (e ▸ hx), a0, (h3 x hx).1⟩, ?_⟩
    refine List.Pairwise.imp_of_mem (fun {x y} hx hy h => ⟨h, (h3 x hx).1, (h3 y hy).1⟩) h1
  have h5 := php n _ h4 (fun x hx => by
    obtain ⟨y, hy, rfl⟩ := List.mem_map.mp hx
    rcases List.mem_cons.mp hy with rfl | hy
    · omega
    · have := h3 y hy; omega)
  simp at h5
  omega
def nxt (o : List Int) (x : Int) : Int := o.getD x.toNat 0
def it (o : List Int) : Nat → Int → Int
  | 0, x => x
  | k + 1, x => nxt o (it o k x)
theorem it_add (o : List Int) (a b : Nat) (x : Int) : it o (a + b) x = it o a (it o b x) := by
  induction a with
  | zero => rw [Nat.zero_add]; rfl
  | succ a ih => rw [Nat.succ_add]; show nxt o _ = nxt o _; rw [ih]
theorem it_one (o : List Int) (x : Int) : it o 1 x = nxt o x := rfl
theorem it_comm (o : List Int) (a b : Nat) (x : Int) : it o a (it o b x) = it o b (it o a x) := by rw [← it_add, ← it_add, Nat.add_comm]
structure IsOrd (o : List Int) : Prop where
  l1 : 1 ≤ o.length
  l2 : o.length ≤ 40
  pm : o.Perm (rng 0 o.length)
theorem isOrd_sort {o : List Int} (h1 : 1 ≤ o.length) (h2 : o.length ≤ 40) (h3 : sortI o = rng 0 o.length) : IsOrd o := ⟨h1, h2, by rw [← h3]; exact (sort_perm o).symm⟩
section
variable {o : List Int}
theorem IsOrd.sort (h : IsOrd o) : sortI o = rng 0 o.length := sort_of_perm h.pm (rng_sorted _ _)
theorem IsOrd.nd (h : IsOrd o) : o.Nodup := h.pm.nodup_iff.mpr (rng_nodup _ _)
theorem IsOrd.mem (h : IsOrd o) {x : Int} : x ∈ o ↔ 0 ≤ x ∧ x < o.length := h.pm.mem_iff.trans mem_rng
theorem nxt_get {x : Int} (h0 : 0 ≤ x) (h1 : x < o.length) : o[x.toNat]? = some (nxt o x) := by
  unfold nxt
  have : x.toNat < o.length := by omega
  rw [List.getElem?_eq_getElem this, List.getD_eq_getElem?_getD, List.getElem?_eq_getElem this]; rfl
theorem nxt_at {x : Int} (h0 : 0 ≤ x) (h1 : x < o.length) : atI o x = some (nxt o x) := by rw [atI_get h0 h1, nxt_get h0 h1]
theorem IsOrd.nxt (h : IsOrd o) {x : Int} (h0 : 0 ≤ x) (h1 : x < o.length) : 0 ≤ Dy.nxt o x ∧ Dy.nxt o x < o.length := h.mem.mp (List.mem_of_getElem? (nxt_get h0 h1))
theorem IsOrd.it (h : IsOrd o) {x : Int} (h0 : 0 ≤ x) (h1 : x < o.length) : ∀ k, 0 ≤ Dy.it o k x ∧ Dy.it o k x < o.length
  | 0 => ⟨h0, h1⟩
  | k + 1 => h.nxt (h.it h0 h1 k).1 (h.it h0 h1 k).2
theorem IsOrd.inj (h : IsOrd o) {x y : Int} (x0 : 0 ≤ x) (x1 : x < o.length) (y0 : 0 ≤ y) (y1 : y < o.length) (e : Dy.nxt o x = Dy.nxt o y) : x = y := by
  have h1 := nxt_get x0 x1
  have h2 := nxt_get y0 y1
  rw [← e] at h2
  obtain ⟨a1, b1⟩ := List.getElem?_eq_some_iff.mp h1
  obtain ⟨a2, b2⟩ := List.getElem?_eq_some_iff.mp h2
  have := (List.getElem_inj h.nd (i := x.toNat) (j := y.toNat) (h₀ := a1) (h₁ := a2)).mp (b1.trans b2.symm)
  omega
theorem IsOrd.itInj (h : IsOrd o) : ∀ (k : Nat) {x y : Int}, 0 ≤ x → x < o.length → 0 ≤ y → y < o.length → Dy.it o k x = Dy.it o k y → x = y
  | 0, _, _, _, _, _, _, e => e
  | k + 1, _, _, x0, x1, y0, y1, e => h.itInj k x0 x1 y0 y1 (h.inj (h.it x0 x1 k).1 (h.it x0 x1 k).2 (h.it y0 y1 k).1 (h.it y0 y1 k).2 e)
theorem least {p : Nat → Prop} : ∀ n, p n → ∃ m, m ≤ n ∧ p m ∧ ∀ k, k < m → ¬ p k := by
  intro n
  induction n using Nat.strongRecOn with
  | _ n ih =>
    intro h
    by_cases hk : ∃ k, k < n ∧ p k
    · obtain ⟨k, h1, h2⟩ := hk
      obtain ⟨m, h3, h4, h5⟩ := ih k h1 h2
      exact ⟨m, by omega, h4, h5⟩
    · exact ⟨n, Nat.le_refl _, h, fun k hk' hp => hk ⟨k, hk', hp⟩⟩
theorem IsOrd.cycle (h : IsOrd o) {x : Int} (h0 : 0 ≤ x) (h1 : x < o.length) : ∃ L, 1 ≤ L ∧ L ≤ o.length ∧ Dy.it o L x = x ∧ ∀ k, 0 < k → k < L → Dy.it o k x ≠ x := by
  have ex : ∃ L, 1 ≤ L ∧ L ≤ o.length ∧ Dy.it o L x = x := by
    refine Classical.byContradiction fun hn => ?_
    have hne : ∀ i j, i < j → j ≤ o.length → Dy.it o i x ≠ Dy.it o j x := fun i j hij hj e => by
      refine hn ⟨j - i, by omega, by omega, ?_⟩
      have e2 : Dy.it o i x = Dy.it o i (Dy.it o (j - i) x) := by rw [← it_add, show i + (j - i) = j by omega]; exact e
      have := h.it h0 h1 (j - i)
      exact (h.itInj i h0 h1 this.1 this.2 e2).symm
    have h2 : ((List.range (o.length + 1)).map fun k => (Dy.it o k x).toNat).Nodup := by
      refine List.Pairwise.map (R := fun a b => a < b ∧ b ≤ o.length) _ (fun a b ⟨p, q⟩ e => ?_) ?_
      · have e1 := h.it h0 h1 a
        have e2 := h.it h0 h1 b
        exact hne a b p q (by omega)
      · refine List.Pairwise.imp_of_mem (fun {a b} ha hb hlt => ⟨hlt, by have := List.mem_range.mp hb; omega⟩) List.pairwise_lt_range
    have h3 := php o.length _ h2 (fun y hy => by
      obtain ⟨k, _, rfl⟩ := List.mem_map.mp hy
      have := h.it h0 h1 k
      omega)
    rw [List.length_map, List.length_range] at h3
    omega
  obtain ⟨L, a, b, c⟩ := ex
  obtain ⟨m, m1, ⟨m2, m3, m4⟩, m5⟩ := least (p := fun L => 1 ≤ L ∧ L ≤ o.length ∧ Dy.it o L x = x) L ⟨a, b, c⟩
  exact ⟨m, m2, m3, m4, fun k k0 k1 e => m5 k k1 ⟨by omega, by omega, e⟩⟩
theorem it_mul {L : Nat} {x : Int} (h : Dy.it o L x = x) : ∀ q, Dy.it o (L * q) x = x
  | 0 => rfl
  | q + 1 => by rw [Nat.mul_succ, it_add, h, it_mul h q]
theorem it_mod {L : Nat} {x : Int} (h : Dy.it o L x = x) (m : Nat) : Dy.it o (m % L) x = Dy.it o m x := by
  conv => rhs; rw [← Nat.mod_add_div m L, it_add, it_mul h]
def srv (o : List Int) (m : Nat) : List Int := (rng 0 o.length).map (Dy.it o m)
theorem srv_len (o : List Int) (m : Nat) : (srv o m).length = o.length := by unfold srv; rw [List.length_map, rng_len]; omega
theorem rng_getE {a b : Int} {i : Nat} (h : i < (b - a).toNat) : (rng a b)[i]? = some (a + (i : Int)) := by
  unfold rng
  rw [List.getElem?_map, List.getElem?_range h]; rfl
theorem srv_at {m : Nat} {x : Int} (h0 : 0 ≤ x) (h1 : x < o.length) : atI (srv o m) x = some (Dy.it o m x) := by
  rw [atI_get h0 (by rw [srv_len]; exact h1)]
  unfold srv
  rw [List.getElem?_map, rng_getE (by omega)]
  show some (Dy.it o m (0 + (x.toNat : Int))) = _
  rw [show (0 : Int) + (x.toNat : Int) = x by omega]
theorem srv_perm (h : IsOrd o) (m : Nat) : (srv o m).Perm (rng 0 o.length) := by
  refine perm_rng ?_ (srv_len o m) (fun x hx => ?_)
  · refine List.Pairwise.map (R := fun (a b : Int) => a ≠ b ∧ (0 ≤ a ∧ a < (o.length : Int)) ∧ 0 ≤ b ∧ b < (o.length : Int)) _ (fun a b ⟨p, q, r⟩ e => p (h.itInj m q.1 q.2 r.1 r.2 e)) ?_
    exact List.Pairwise.imp_of_mem (fun {a b} ha hb hne => ⟨hne, mem_rng.mp ha, mem_rng.mp hb⟩) (rng_nodup _ _)
  · obtain ⟨y, hy, rfl⟩ := List.mem_map.mp hx
    obtain ⟨a, b⟩ := mem_rng.mp hy
    exact h.it a b m
theorem srv_mem (h : IsOrd o) {m : Nat} {x : Int} (hx : x ∈ srv o m) : 0 ≤ x ∧ x < o.length := mem_rng.mp ((srv_perm h m).mem_iff.mp hx)
theorem srv_zero (o : List Int) : srv o 0 = rng 0 o.length := by
  unfold srv
  have : (Dy.it o 0 : Int → Int) = id := by funext x; rfl
  rw [this, List.map_id]
theorem srv_one (o : List Int) : srv o 1 = o := by
  refine List.ext_getElem? fun i => ?_
  unfold srv
  rw [List.getElem?_map]
  by_cases h : i < o.length
  · rw [rng_getE (by omega)]
    show some (Dy.nxt o (0 + (i : Int))) = _
    have := nxt_get (o := o) (x := (i : Int)) (by omega) (by omega)
    rw [show (0 : Int) + (i : Int) = (i : Int) by omega, ← this]
    congr 1
  · rw [List.getElem?_eq_none (by rw [rng_len]; omega), List.getElem?_eq_none (by omega)]; rfl
theorem srv_add (a b : Nat) : (srv o a).map (Dy.it o b) = srv o (b + a) := by
  unfold srv
  rw [List.map_map]
  exact List.map_congr_left fun x _ => (it_add o b a x).symm
end
theorem erase_perm {τ : Type} : ∀ (l : List τ) (i : Nat) (h : i < l.length), (l[i] :: l.eraseIdx i).Perm l
  | [], i, h => absurd h (Nat.not_lt_zero _)
  | x :: xs, 0, _ => List.Perm.refl _
  | x :: xs, i + 1, h => (List.Perm.swap x _ _).trans (List.Perm.cons x (erase_perm xs i (Nat.lt_of_succ_lt_succ h)))
theorem popAt_ok {τ : Type} {l : List τ} {z : Int} (h0 : 0 ≤ z) (h1 : z < l.length) (h2 : l.length < 1000000) : Ok (popAt l z) (fun r => (r.1 :: r.2).Perm l) := by
  unfold popAt popN seqIndex?
  have hl : z.toNat < l.length := by omega
  rw [if_pos ⟨by omega, by omega⟩]
  simp only
  rw [show (if z < 0 then z + (l.length : Int) else z) = z from if_neg (by omega), if_pos (by rw [Bool.and_eq_true]; exact ⟨decide_eq_true h0, decide_eq_true h1⟩), Option.bind_some, List.getElem?_eq_getElem hl]
  exact ok_some (erase_perm l _ hl)
theorem ok_popAll {σ τ : Type} {f : List τ → σ → Option Int} : ∀ {xs : List σ} {l : List τ}, (∀ l' x, l' ≠ [] → l'.length ≤ l.length → x ∈ xs → Ok (f l' x) (fun z => 0 ≤ z ∧ z < l'.length)) → xs.length ≤ l.length → l.length < 1000000 → Ok (popAll f l xs) (fun ys => ys.length = xs.length ∧ ∃ r, (ys ++ r).Perm l)
  | [], l, _, _, _ => ⟨[], rfl, rfl, l, List.Perm.refl _⟩
  | x :: xs, l, h, hl, hz => by
    rw [List.length_cons] at hl
    have hne : l ≠ [] := fun e => by subst e; simp at hl
    unfold popAll
    refine ok_bnd (h l x hne (Nat.le_refl _) List.mem_cons_self) fun z ⟨z0, z1⟩ => ok_bnd (popAt_ok z0 z1 hz) fun r hr => ?_
    have hlen : r.2.length + 1 = l.length := by have := hr.length_eq; rw [List.length_cons] at this; exact this
    refine ok_bnd (ok_popAll (fun l' y hn hl' hy => h l' y hn (by omega) (List.mem_cons_of_mem _ hy)) (by omega) (by omega)) fun ys ⟨e1, r', e2⟩ => ok_some ⟨by rw [List.length_cons, List.length_cons, e1], r', ?_⟩
    exact (List.Perm.cons r.1 e2).trans hr
theorem repl_one {τ : Type} (n : Int) (x : τ) : repl n [x] = List.replicate n.toNat x := by
  unfold repl
  exact List.flatten_replicate_singleton
end Dy

set_option maxHeartbeats 4000000
namespace K41
open PySem PySem.Spec L2 Dy
open PyProof.Rows hiding St
open Enc (rep)
open Flat (toV)
open EncA (repA)
def topS (i : Nat) : Stmt := PySem.Challenge.pw_deskpairs_k41_services_add_up.main.body.getD i (.Pass ⟨0, 0, 0, 0⟩)
abbrev s_l_cell_at : Stmt := topS 8
abbrev N_l_cell_at : List Str := ["_law_script", "_law_k"]
theorem sc_l_cell_at : FnScope N_l_cell_at ["_law_script", "_law_k"] (defScope s_l_cell_at) := ⟨rfl, rfl, rfl, by decide +kernel, rfl, by decide +kernel, by decide +kernel⟩
noncomputable def m_l_cell_at (script1 : (List Int)) (k4 : Int) : Option Int :=
 (if (decide (k4 < ((script1).length : Int))) = true then
 (bnd (atI script1 k4) fun at16 => (some at16))
 else
 (some (0 : Int)))
noncomputable abbrev a_l_cell_at : (List Int) × Int × Unit → Option Int := fun a => m_l_cell_at a.1 a.2.1
theorem ok_l_cell_at {P : Program} {w : World} {K : PySem.W.Frag} {mg : Str → Option Value} {base : Heap} {f : Addr} {fd : FuncData} (F : FunP K "_law_cell_at" s_l_cell_at f fd) (hmg : mg "_law_cell_at" = some (.ref f)) (z_len : mg "len" = none) : Cal P w K mg base CX0 1 "_law_cell_at" (sp K a_l_cell_at) := by
  refine mk_cal (k := 0) F hmg (F.bindsN fun _ _ _ _ _ _ us hl => match us, hl with | [_, _], _ => rfl) sc_l_cell_at len2 ?_
  rintro cdv A' outer sh0 H0 X0 hr s0 vs ⟨script1, k4, _⟩ r0 Q ⟨v2, _, rfl, r3, v5, _, rfl, r6, rfl⟩ hm hQ
  have E7 := Ex.refl s0
  unfold a_l_cell_at m_l_cell_at at hm
  dsimp only at hm
  refine do_ifR (EvB.t (eb_lt (ev_var 1 rfl r6) (ev_len z_len (Ev.r (ev_var 0 rfl r3))))) (fun hb9 s10 e11 => ?_) (fun hb21 s22 e23 => ?_)
  · have hm12 := iteE1 hm hb9
    have E13 := E7.trans e11
    have r14 := Enc.mono e11.f r3
    have r15 := Enc.mono e11.f r6
    obtain ⟨at16, h_at16, hm12⟩ := bndE hm12
    obtain rfl := Option.some.inj hm12
    exact do_ret (ev_ix (Ev.r (ev_var 0 rfl r14)) (ev_var 1 rfl r15) h_at16) fun v17 s18 e19 r20 => hQ _ _ (E13.trans e19) r20
  · have hm24 := iteE2 hm hb21
    have E25 := E7.trans e23
    have r26 := Enc.mono e23.f r3
    have r27 := Enc.mono e23.f r6
    obtain rfl := Option.some.inj hm24
    exact do_ret ev_int fun v28 s29 e30 r31 => hQ _ _ (E25.trans e30) r31
abbrev s_l_draws : Stmt := topS 9
abbrev N_l_draws : List Str := ["_law_cell", "_law_sizes", "_law_found", "_law_digits", "_law_k", "_law_mixed"]
theorem sc_l_draws : FnScope N_l_draws ["_law_cell", "_law_sizes"] (defScope s_l_draws) := ⟨rfl, rfl, rfl, by decide +kernel, rfl, by decide +kernel, by decide +kernel⟩
noncomputable def m_l_draws (cell32 : Int) (sizes35 : (List Int)) : Option (List Int) :=
 (lt (([] : List Int) : (List Int)) fun found39 =>
 (lt ((cell32 / (2 : Int)) : Int) fun digits50 =>
 (chk (RgB ((sizes35).length : Int)) (bnd (foldO (fun (b63 : ((List Int) × Int)) (x65 : Int) =>
 (chk (MulOk x65 x65) (lt (((((cell32 % (1000003 : Int)) + (1 : Int)) * ((x65 * x65) + (48271 : Int))) % (65537 : Int)) : Int) fun mixed95 =>
 (lt ((((((mixed95 * mixed95) + ((7919 : Int) * x65)) + (11 : Int)) * (30269 : Int)) % (999983 : Int)) : Int) fun mixed108 =>
 (bnd (if (decide ((cell32 % (2 : Int)) = (0 : Int))) = true then
 (lt (b63.2 : Int) fun mixed137 =>
 (some mixed137))
 else
 (some mixed108) : Option Int) fun b122 =>
 (bnd (atI sizes35 x65) fun at183 => (chk (0 < at183) (chk ((b63.1).length < sizeLine) (lt ((b63.1 ++ [(b122 % at183)]) : (List Int)) fun found181 =>
 (bnd (atI sizes35 x65) fun at193 => (chk (DivOk at193) (lt ((b63.2 / at193) : Int) fun digits195 =>
 (some (found181, digits195)))))))))))))) (found39, digits50) (rng 0 ((sizes35).length : Int))) fun o61 =>
 (some o61.1)))))
noncomputable abbrev a_l_draws : Int × (List Int) × Unit → Option (List Int) := fun a => m_l_draws a.1 a.2.1
theorem ok_l_draws {P : Program} {w : World} {K : PySem.W.Frag} {mg : Str → Option Value} {base : Heap} {f : Addr} {fd : FuncData} (F : FunP K "_law_draws" s_l_draws f fd) (hmg : mg "_law_draws" = some (.ref f)) (z_range : mg "range" = none) (z_len : mg "len" = none) : Cal P w K mg base CX0 1 "_law_draws" (spN K a_l_draws) := by
  refine mk_calN (k := 0) F hmg (F.bindsN fun _ _ _ _ _ _ us hl => match us, hl with | [_, _], _ => rfl) sc_l_draws len2 ?_
  rintro cdv A' outer sh0 H0 X0 hr s0 vs ⟨cell32, sizes35, _⟩ r0 Q ⟨v33, _, rfl, r34, v36, _, rfl, r37, rfl⟩ hm hQ
  have E38 := Ex.refl s0
  unfold a_l_draws m_l_draws at hm
  dsimp only at hm
  refine do_setN 2 (en_list (xs := ([] : List Int)) ee_nil (by simp [sizeLine])) (fun p43 s41 e42 n44 o45 => ?_) sc_l_draws.nd
  have n46 := fr_back E38 n44
  have E47 := E38.trans e42
  have r48 := Enc.mono e42.f r34
  have r49 := Enc.mono e42.f r37
  obtain ⟨found39, q40, hm⟩ := ltE hm
  rw [← q40] at o45
  refine do_set 3 (ev_div (ev_var 0 rfl r48) ev_int ⟨by decide, by decide +kernel⟩) (fun v54 s52 e53 r55 => ?_) sc_l_draws.nd
  have E56 := E47.trans e53
  have r57 := Enc.mono e53.f r48
  have r58 := Enc.mono e53.f r49
  have o59 := Own.ex o45 e53
  obtain ⟨digits50, q51, hm⟩ := ltE hm
  rw [← q51] at r55
  obtain ⟨hc60, hm⟩ := chkE hm
  obtain ⟨o61, ho62, hm⟩ := bndE hm
  refine do_forO (υ := ((List Int) × Int)) PassesOwn.never rfl (ei_range1 z_range (ev_len z_len (Ev.r (ev_var 1 rfl r58))) hc60) (pg_name (i := 4) sc_l_draws.nd rfl (by first | exact Or.inl rfl | exact Or.inr rfl)) tg_n ho62 (fun (b63 : ((List Int) × Int)) (σ' : L2.St) (t' : S) => Ex s0 t' ∧ ∃ (v_digits : V) (y_mixed : Option V) (y_k : Option V), σ' = [some v33, some v36, some (.ref p43), some v_digits, y_k, y_mixed] ∧ Own K t' p43 (b63.1 : (List Int)) ∧ rep K t'.F v_digits (b63.2 : Int)) (fun s214 k215 => by have E216 := E56.trans k215; have r217 := Enc.mono k215.f r57; have r218 := Enc.mono k215.f r58; have o219 := Own.ex o59 k215; have r220 := Enc.mono k215.f r55; exact ⟨E216, v54, _, _, rfl, o219, r220⟩) (fun s66 k67 x65 b63 b64 σ76 σ77 t74 t75 hx68 hm69 fl70 hR71 k72 hB73 => ?_) (fun s208 k209 σ210 t211 fl212 hR213 => ?_)
  · have hf78 := Fle.trans k67.f fl70
    obtain ⟨E79, v80, y81, y82, rfl, o83, r84⟩ := hR71
    have r85 := Enc.mono hf78 r57
    have r86 := Enc.mono hf78 r58
    obtain ⟨v87, r88, rfl⟩ := hB73
    have E89 := E79.trans k72
    have o90 := Own.ex o83 k72
    have r91 := Enc.mono k72.f r84
    have r92 := Enc.mono k72.f r85
    have r93 := Enc.mono k72.f r86
    obtain ⟨hc94, hm69⟩ := chkE hm69
    refine do_set 5 (ev_mod (ev_mul (ev_add (ev_mod (ev_var 0 rfl r92) ev_int (by decide)) ev_int) (ev_add (ev_mul (ev_var 4 rfl r88) (ev_var 4 rfl r88) hc94) ev_int) (Or.inl (Or.inl ⟨by omega, by omega⟩))) ev_int (by decide)) (fun v99 s97 e98 r100 => ?_) sc_l_draws.nd
    have E101 := E89.trans e98
    have fl102 := Fle.trans (Fle.refl t75.F) e98.f
    have o103 := Own.ex o90 e98
    have r104 := Enc.mono e98.f r91
    have r105 := Enc.mono e98.f r92
    have r106 := Enc.mono e98.f r93
    have r107 := Enc.mono e98.f r88
    obtain ⟨mixed95, q96, hm69⟩ := ltE hm69
    rw [← q96] at r100
    refine do_set 5 (ev_mod (ev_mul (ev_add (ev_add (ev_mul (ev_var 5 rfl r100) (ev_var 5 rfl r100) (Or.inl (Or.inl ⟨by omega, by omega⟩))) (ev_mul ev_int (ev_var 4 rfl r107) (Or.inl (Or.inl ⟨by omega, by omega⟩)))) ev_int) ev_int (Or.inl (Or.inr ⟨by omega, by omega⟩))) ev_int (by decide)) (fun v112 s110 e111 r113 => ?_) sc_l_draws.nd
    have E114 := E101.trans e111
    have fl115 := Fle.trans fl102 e111.f
    have o116 := Own.ex o103 e111
    have r117 := Enc.mono e111.f r104
    have r118 := Enc.mono e111.f r105
    have r119 := Enc.mono e111.f r106
    have r120 := Enc.mono e111.f r107
    obtain ⟨mixed108, q109, hm69⟩ := ltE hm69
    rw [← q109] at r113
    obtain ⟨b122, hj123, hm69⟩ := bndE hm69
    refine do_if (EvB.t (eb_eq (ev_mod (ev_var 0 rfl r118) ev_int (by decide)) ev_int)) (fun (σ' : L2.St) (t' : S) => Fle s110.F t'.F ∧ Ex s0 t' ∧ ∃ (v_mixed : V), σ' = [some v33, some v36, some (.ref p43), some v80, some v87, some v_mixed] ∧ rep K t'.F v_mixed (b122 : Int) ∧ Own K t' p43 (b63.1 : (List Int))) (fun hb124 s125 e126 => ?_) (fun hb151 s152 e153 => ?_) (fun σ164 s165 hM166 => ?_)
    · have hm127 := iteE1 hj123 hb124
      have E128 := E114.trans e126
      have fl129 := Fle.trans fl115 e126.f
      have fl130 := Fle.trans (Fle.refl s110.F) e126.f
      have o131 := Own.ex o116 e126
      have r132 := Enc.mono e126.f r117
      have r133 := Enc.mono e126.f r118
      have r134 := Enc.mono e126.f r119
      have r135 := Enc.mono e126.f r120
      have r136 := Enc.mono e126.f r113
      refine do_set 5 (ev_var 3 rfl r132) (fun v141 s139 e140 r142 => ?_) sc_l_draws.nd
      have E143 := E128.trans e140
      have fl144 := Fle.trans fl129 e140.f
      have fl145 := Fle.trans fl130 e140.f
      have o146 := Own.ex o131 e140
      have r147 := Enc.mono e140.f r132
      have r148 := Enc.mono e140.f r133
      have r149 := Enc.mono e140.f r134
      have r150 := Enc.mono e140.f r135
      obtain ⟨mixed137, q138, hm127⟩ := ltE hm127
      rw [← q138] at r142
      obtain rfl := Option.some.inj hm127
      exact do_nil ⟨s139, rfl, fl145, ⟨E143, v141, rfl, r142, o146⟩⟩
    · have hm154 := iteE2 hj123 hb151
      have E155 := E114.trans e153
      have fl156 := Fle.trans fl115 e153.f
      have fl157 := Fle.trans (Fle.refl s110.F) e153.f
      have o158 := Own.ex o116 e153
      have r159 := Enc.mono e153.f r117
      have r160 := Enc.mono e153.f r118
      have r161 := Enc.mono e153.f r119
      have r162 := Enc.mono e153.f r120
      have r163 := Enc.mono e153.f r113
      obtain rfl := Option.some.inj hm154
      exact do_nil ⟨s152, rfl, fl157, ⟨E155, v112, rfl, r163, o158⟩⟩
    · obtain ⟨hf167, hR168⟩ := hM166
      obtain ⟨E169, v170, rfl, r171, o172⟩ := hR168
      have r173 := Enc.mono hf167 r117
      have r174 := Enc.mono hf167 r118
      have r175 := Enc.mono hf167 r119
      have r176 := Enc.mono hf167 r120
      have fl177 := Fle.trans fl115 hf167
      obtain ⟨at183, h_at183, hm69⟩ := bndE hm69
      obtain ⟨hc184, hm69⟩ := chkE hm69
      obtain ⟨hc185, hm69⟩ := chkE hm69
      refine do_append 2 rfl o172 (ev_mod (ev_var 5 rfl r171) (ev_ix (Ev.r (ev_var 1 rfl r175)) (ev_var 4 rfl r176) h_at183) hc184) hc185 (fun s178 m179 o180 => ?_)
      have E186 := Ex.mu1 E169 m179 n46
      have fl187 := Fle.trans fl177 m179.f
      have r188 := Enc.mono m179.f r171
      have r189 := Enc.mono m179.f r173
      have r190 := Enc.mono m179.f r174
      have r191 := Enc.mono m179.f r175
      have r192 := Enc.mono m179.f r176
      obtain ⟨found181, q182, hm69⟩ := ltE hm69
      rw [← q182] at o180
      obtain ⟨at193, h_at193, hm69⟩ := bndE hm69
      obtain ⟨hc194, hm69⟩ := chkE hm69
      refine do_set 3 (ev_div (ev_var 3 rfl r189) (ev_ix (Ev.r (ev_var 1 rfl r191)) (ev_var 4 rfl r192) h_at193) hc194) (fun v199 s197 e198 r200 => ?_) sc_l_draws.nd
      have E201 := E186.trans e198
      have fl202 := Fle.trans fl187 e198.f
      have r203 := Enc.mono e198.f r188
      have r204 := Enc.mono e198.f r190
      have r205 := Enc.mono e198.f r191
      have r206 := Enc.mono e198.f r192
      have o207 := Own.ex o180 e198
      obtain ⟨digits195, q196, hm69⟩ := ltE hm69
      rw [← q196] at r200
      obtain rfl := Option.some.inj hm69
      exact do_nil ⟨s197, rfl, fl202, ⟨E201, v199, _, _, rfl, o207, r200⟩⟩
  · have hf221 := Fle.trans k209.f fl212
    obtain ⟨E222, v223, y224, y225, rfl, o226, r227⟩ := hR213
    have r228 := Enc.mono hf221 r57
    have r229 := Enc.mono hf221 r58
    obtain rfl := Option.some.inj hm
    exact do_retO 2 rfl (hQ _ _ E222 n46 o226)
abbrev s_l_order : Stmt := topS 10
abbrev N_l_order : List Str := ["_law_cell", "_law_most", "_law_ds", "_law_many_here", "_law_left", "_law_k"]
theorem sc_l_order : FnScope N_l_order ["_law_cell", "_law_most"] (defScope s_l_order) := ⟨rfl, rfl, rfl, by decide +kernel, rfl, by decide +kernel, by decide +kernel⟩
noncomputable def m_l_order (cell230 : Int) (most233 : Int) : Option (List Int) :=
 (chk (RepOk most233 (([most233] : List Int)).length) (chk ((([most233] : List Int)).length + ((repl most233 ([most233] : List Int))).length ≤ sizeLine) (bnd (m_l_draws cell230 (([most233] : List Int) ++ (repl most233 ([most233] : List Int)))) fun draws239 => (lt (draws239 : (List Int)) fun ds240 =>
 (bnd (atI ds240 (0 : Int)) fun at249 => (lt (((1 : Int) + at249) : Int) fun many_here250 =>
 (chk (RgOk 0 many_here250) (lt ((rng 0 many_here250) : (List Int)) fun left261 =>
 (chk (RgB many_here250) (bnd (popAll (fun (l275 : (List Int)) (x276 : Int) => (bnd (atI ds240 ((1 : Int) + x276)) fun at289 => (chk (0 < ((l275).length : Int)) (some (at289 % ((l275).length : Int)))))) left261 (rng 0 many_here250)) fun ys291 => (chk ((ys291).length ≤ sizeLine) (some ys291))))))))))))
noncomputable abbrev a_l_order : Int × Int × Unit → Option (List Int) := fun a => m_l_order a.1 a.2.1
theorem ok_l_order {P : Program} {w : World} {K : PySem.W.Frag} {mg : Str → Option Value} {base : Heap} {f : Addr} {fd : FuncData} (F : FunP K "_law_order" s_l_order f fd) (hmg : mg "_law_order" = some (.ref f)) (C_l_draws : Cal P w K mg base CX0 1 "_law_draws" (spN K a_l_draws)) (z_list : mg "list" = none) (z_range : mg "range" = none) (z_len : mg "len" = none) : Cal P w K mg base CX0 2 "_law_order" (spN K a_l_order) := by
  refine mk_calN (k := 1) F hmg (F.bindsN fun _ _ _ _ _ _ us hl => match us, hl with | [_, _], _ => rfl) sc_l_order len2 ?_
  rintro cdv A' outer sh0 H0 X0 hr s0 vs ⟨cell230, most233, _⟩ r0 Q ⟨v231, _, rfl, r232, v234, _, rfl, r235, rfl⟩ hm hQ
  have E236 := Ex.refl s0
  unfold a_l_order m_l_order at hm
  dsimp only at hm
  obtain ⟨hc237, hm⟩ := chkE hm
  obtain ⟨hc238, hm⟩ := chkE hm
  obtain ⟨draws239, h_draws239, hm⟩ := bndE hm
  refine do_set 2 (EvN.ev (en_call C_l_draws hr (by decide) (ea_cons (ev_var 0 rfl r232) (ea_cons (EvN.ev (en_cat (EvN.r (en_list (xs := ([most233] : List Int)) (ee_cons (ev_var 1 rfl r235) ee_nil) (by simp [sizeLine]))) (EvN.r (en_rep (en_list (xs := ([most233] : List Int)) (ee_cons (ev_var 1 rfl r235) ee_nil) (by simp [sizeLine])) (fun _ hk => Ev.mono (ev_var 1 rfl r235) hk) hc237)) hc238)) ea_nil)) h_draws239)) (fun v244 s242 e243 r245 => ?_) sc_l_order.nd
  have E246 := E236.trans e243
  have r247 := Enc.mono e243.f r232
  have r248 := Enc.mono e243.f r235
  obtain ⟨ds240, q241, hm⟩ := ltE hm
  rw [← q241] at r245
  obtain ⟨at249, h_at249, hm⟩ := bndE hm
  refine do_set 3 (ev_add ev_int (ev_ix (Ev.r (ev_var 2 rfl r245)) ev_int h_at249)) (fun v254 s252 e253 r255 => ?_) sc_l_order.nd
  have E256 := E246.trans e253
  have r257 := Enc.mono e253.f r247
  have r258 := Enc.mono e253.f r248
  have r259 := Enc.mono e253.f r245
  obtain ⟨many_here250, q251, hm⟩ := ltE hm
  rw [← q251] at r255
  obtain ⟨hc260, hm⟩ := chkE hm
  refine do_setN 4 (en_listRg1 z_list z_range (ev_var 3 rfl r255) hc260) (fun p265 s263 e264 n266 o267 => ?_) sc_l_order.nd
  have n268 := fr_back E256 n266
  have E269 := E256.trans e264
  have r270 := Enc.mono e264.f r257
  have r271 := Enc.mono e264.f r258
  have r272 := Enc.mono e264.f r259
  have r273 := Enc.mono e264.f r255
  obtain ⟨left261, q262, hm⟩ := ltE hm
  rw [← q262] at o267
  obtain ⟨hc274, hm⟩ := chkE hm
  obtain ⟨ys291, h_ys291, hm⟩ := bndE hm
  obtain ⟨hc292, hm⟩ := chkE hm
  obtain rfl := Option.some.inj hm
  exact do_retPop (f := fun (l275 : (List Int)) (x276 : Int) => (bnd (atI ds240 ((1 : Int) + x276)) fun at289 => (chk (0 < ((l275).length : Int)) (some (at289 % ((l275).length : Int)))))) (own := [("_law_k", 5)]) 4 5 rfl sc_l_order.nd (ei_range1 z_range (ev_var 3 rfl r273) hc274) o267 (blkOk_by (own := [("_law_k", 5)]) (N := N_l_order) (sc := defScope s_l_order) (by decide +kernel)) rfl (by decide) (fun _ _ _ _ _ => pg_name (i := 5) sc_l_order.nd rfl (by first | exact Or.inl rfl | exact Or.inr rfl)) (fun _ => rfl) h_ys291 hc292 (fun l275 x276 z277 v278 s279 hx280 m281 o282 r283 hf284 _ _ _ _ _ => by have r287 := Enc.mono m281.f r272; obtain ⟨at289, h_at289, hf284⟩ := bndE hf284; obtain ⟨hc290, hf284⟩ := chkE hf284; obtain rfl := Option.some.inj hf284; exact (ev_mod (ev_ix (Ev.r (ev_var 2 rfl r287)) (ev_add ev_int (ev_var 5 rfl r283)) h_at289) (ev_len z_len (ev_varR 4 rfl o282)) hc290)) (fun q293 s294 m295 n296 o297 => hQ _ _ (Ex.mu1 E269 m295 n268) (fr_back E269 n296) o297)
abbrev s_asked_order : Stmt := topS 4
abbrev N_asked_order : List Str := ["order"]
theorem sc_asked_order : FnScope N_asked_order ["order"] (defScope s_asked_order) := ⟨rfl, rfl, rfl, by decide +kernel, rfl, by decide +kernel, by decide +kernel⟩
noncomputable def m_asked_order (order298 : (List Int)) : Option Bool :=
 (bnd (orO (decide (((order298).length : Int) < (1 : Int))) (orO (decide ((40 : Int) < ((order298).length : Int))) (chk (RgOk 0 ((order298).length : Int)) (some (!decide ((sortI order298) = (rng 0 ((order298).length : Int)))))))) fun c303 => (if c303 = true then
 none
 else
 (some true)))
noncomputable abbrev a_asked_order : (List Int) × Unit → Option Bool := fun a => m_asked_order a.1
theorem ok_asked_order {P : Program} {w : World} {K : PySem.W.Frag} {mg : Str → Option Value} {base : Heap} {f : Addr} {fd : FuncData} (F : FunP K "asked_order" s_asked_order f fd) (hmg : mg "asked_order" = some (.ref f)) (z_len : mg "len" = none) (z_sorted : mg "sorted" = none) (z_list : mg "list" = none) (z_range : mg "range" = none) : Cal P w K mg base CX0 1 "asked_order" (sp K a_asked_order) := by
  refine mk_cal (k := 0) F hmg (F.bindsN fun _ _ _ _ _ _ us hl => match us, hl with | [_], _ => rfl) sc_asked_order len1 ?_
  rintro cdv A' outer sh0 H0 X0 hr s0 vs ⟨order298, _⟩ r0 Q ⟨v299, _, rfl, r300, rfl⟩ hm hQ
  have E301 := Ex.refl s0
  unfold a_asked_order m_asked_order at hm
  dsimp only at hm
  obtain ⟨c303, h_c303, hm⟩ := bndE hm
  refine do_ifR (EvW.tt (EvC.w (by skip; exact ec_orO (eb_lt (ev_len z_len (Ev.r (ev_var 0 rfl r300))) ev_int) (fun hb304 => (fun hz => (by skip; exact ec_orO (eb_gt (ev_len z_len (Ev.r (ev_var 0 rfl r300))) ev_int) (fun hb305 => (fun hz => (by obtain ⟨hc302, hz⟩ := chkE hz; obtain rfl := Option.some.inj hz; exact (ec_or1 (eb_neL hr (EvN.r (en_sorted z_sorted (Ev.r (ev_var 0 rfl r300)))) (EvN.r (en_listRg1 z_list z_range (ev_len z_len (Ev.r (ev_var 0 rfl r300))) hc302)) (shp_of _) (shp_of _))))) ((orE hz).1 hb305)) (orE hz).2)) ((orE h_c303).1 hb304)) (orE h_c303).2))) (fun hb307 s308 e309 => ?_) (fun hb313 s314 e315 => ?_)
  · have hm310 := iteE1 hm hb307
    have E311 := E301.trans e309
    have r312 := Enc.mono e309.f r300
    exact absurd hm310 (by intro z; cases z)
  · have hm316 := iteE2 hm hb313
    have E317 := E301.trans e315
    have r318 := Enc.mono e315.f r300
    obtain rfl := Option.some.inj hm316
    exact do_ret ev_bl fun v319 s320 e321 r322 => hQ _ _ (E317.trans e321) r322
abbrev s_turns_from : Stmt := topS 5
abbrev N_turns_from : List Str := ["order", "place", "found", "here"]
theorem sc_turns_from : FnScope N_turns_from ["order", "place"] (defScope s_turns_from) := ⟨rfl, rfl, rfl, by decide +kernel, rfl, by decide +kernel, by decide +kernel⟩
noncomputable def m_turns_from (order323 : (List Int)) (place326 : Int) : Option (List Int) :=
 (lt (([place326] : List Int) : (List Int)) fun found330 =>
 (bnd (atI order323 place326) fun at341 => (lt (at341 : Int) fun here342 =>
 (bnd (whileO (fun (b354 : ((List Int) × Int)) => (some (!decide (b354.2 = place326)))) (fun (b354 : ((List Int) × Int)) =>
 (chk ((b354.1).length < sizeLine) (lt ((b354.1 ++ [b354.2]) : (List Int)) fun found390 =>
 (bnd (atI order323 b354.2) fun at398 => (lt (at398 : Int) fun here399 =>
 (some (found390, here399))))))) fuel (found330, here342)) fun o352 =>
 (some o352.1)))))
noncomputable abbrev a_turns_from : (List Int) × Int × Unit → Option (List Int) := fun a => m_turns_from a.1 a.2.1
theorem ok_turns_from {P : Program} {w : World} {K : PySem.W.Frag} {mg : Str → Option Value} {base : Heap} {f : Addr} {fd : FuncData} (F : FunP K "turns_from" s_turns_from f fd) (hmg : mg "turns_from" = some (.ref f))  : Cal P w K mg base CX0 1 "turns_from" (spN K a_turns_from) := by
  refine mk_calN (k := 0) F hmg (F.bindsN fun _ _ _ _ _ _ us hl => match us, hl with | [_, _], _ => rfl) sc_turns_from len2 ?_
  rintro cdv A' outer sh0 H0 X0 hr s0 vs ⟨order323, place326, _⟩ r0 Q ⟨v324, _, rfl, r325, v327, _, rfl, r328, rfl⟩ hm hQ
  have E329 := Ex.refl s0
  unfold a_turns_from m_turns_from at hm
  dsimp only at hm
  refine do_setN 2 (en_list (xs := ([place326] : List Int)) (ee_cons (ev_var 1 rfl r328) ee_nil) (by simp [sizeLine])) (fun p334 s332 e333 n335 o336 => ?_) sc_turns_from.nd
  have n337 := fr_back E329 n335
  have E338 := E329.trans e333
  have r339 := Enc.mono e333.f r325
  have r340 := Enc.mono e333.f r328
  obtain ⟨found330, q331, hm⟩ := ltE hm
  rw [← q331] at o336
  obtain ⟨at341, h_at341, hm⟩ := bndE hm
  refine do_set 3 (ev_ix (Ev.r (ev_var 0 rfl r339)) (ev_var 1 rfl r340) h_at341) (fun v346 s344 e345 r347 => ?_) sc_turns_from.nd
  have E348 := E338.trans e345
  have r349 := Enc.mono e345.f r339
  have r350 := Enc.mono e345.f r340
  have o351 := Own.ex o336 e345
  obtain ⟨here342, q343, hm⟩ := ltE hm
  rw [← q343] at r347
  obtain ⟨o352, ho353, hm⟩ := bndE hm
  refine do_whileO (υ := ((List Int) × Int)) PassesOwn.never ho353 (fun (b354 : ((List Int) × Int)) (σ' : L2.St) (t' : S) => Ex s0 t' ∧ ∃ (v_here : V), σ' = [some v324, some v327, some (.ref p334), some v_here] ∧ Own K t' p334 (b354.1 : (List Int)) ∧ rep K t'.F v_here (b354.2 : Int)) ⟨E348, v346, rfl, o351, r347⟩ (fun b354 x360 σ357 t356 hm361 fl358 hR359 => ?_) (fun b354 b355 σ370 t368 t369 hc374 hm375 fl371 hR372 k373 => ?_) (fun σ410 t411 t412 hc413 fl414 hR415 k416 => ?_)
  · obtain ⟨E362, v363, rfl, o364, r365⟩ := hR359
    have r366 := Enc.mono fl358 r349
    have r367 := Enc.mono fl358 r350
    obtain rfl := Option.some.inj hm361
    exact (EvB.t (eb_ne (ev_var 3 rfl r365) (ev_var 1 rfl r367)))
  · obtain ⟨E376, v377, rfl, o378, r379⟩ := hR372
    have r380 := Enc.mono fl371 r349
    have r381 := Enc.mono fl371 r350
    have E382 := E376.trans k373
    have o383 := Own.ex o378 k373
    have r384 := Enc.mono k373.f r379
    have r385 := Enc.mono k373.f r380
    have r386 := Enc.mono k373.f r381
    obtain ⟨hc392, hm375⟩ := chkE hm375
    refine do_append 2 rfl o383 (ev_var 3 rfl r384) hc392 (fun s387 m388 o389 => ?_)
    have E393 := Ex.mu1 E382 m388 n337
    have fl394 := Fle.trans (Fle.refl t369.F) m388.f
    have r395 := Enc.mono m388.f r384
    have r396 := Enc.mono m388.f r385
    have r397 := Enc.mono m388.f r386
    obtain ⟨found390, q391, hm375⟩ := ltE hm375
    rw [← q391] at o389
    obtain ⟨at398, h_at398, hm375⟩ := bndE hm375
    refine do_set 3 (ev_ix (Ev.r (ev_var 0 rfl r396)) (ev_var 3 rfl r395) h_at398) (fun v403 s401 e402 r404 => ?_) sc_turns_from.nd
    have E405 := E393.trans e402
    have fl406 := Fle.trans fl394 e402.f
    have r407 := Enc.mono e402.f r396
    have r408 := Enc.mono e402.f r397
    have o409 := Own.ex o389 e402
    obtain ⟨here399, q400, hm375⟩ := ltE hm375
    rw [← q400] at r404
    obtain rfl := Option.some.inj hm375
    exact do_nil ⟨s401, rfl, fl406, ⟨E405, v403, rfl, o409, r404⟩⟩
  · obtain ⟨E417, v418, rfl, o419, r420⟩ := hR415
    have r421 := Enc.mono fl414 r349
    have r422 := Enc.mono fl414 r350
    have E423 := E417.trans k416
    have o424 := Own.ex o419 k416
    have r425 := Enc.mono k416.f r420
    have r426 := Enc.mono k416.f r421
    have r427 := Enc.mono k416.f r422
    obtain rfl := Option.some.inj hm
    exact do_retO 2 rfl (hQ _ _ E423 n337 o424)
abbrev s_after_services : Stmt := topS 6
abbrev N_after_services : List Str := ["order", "many", "found", "place", "turns"]
theorem sc_after_services : FnScope N_after_services ["order", "many"] (defScope s_after_services) := ⟨rfl, rfl, rfl, by decide +kernel, rfl, by decide +kernel, by decide +kernel⟩
noncomputable def m_after_services (order428 : (List Int)) (many431 : Int) : Option (List Int) :=
 (bnd (m_asked_order order428) fun asked_order435 => (lt (([] : List Int) : (List Int)) fun found441 =>
 (chk (RgB ((order428).length : Int)) (bnd (foldO (fun (b455 : (List Int)) (x457 : Int) =>
 (bnd (m_turns_from order428 x457) fun turns_from483 => (lt (turns_from483 : (List Int)) fun turns484 =>
 (chk (0 < ((turns484).length : Int)) (bnd (atI turns484 (many431 % ((turns484).length : Int))) fun at502 => (chk ((b455).length < sizeLine) (lt ((b455 ++ [at502]) : (List Int)) fun found499 =>
 (some found499)))))))) found441 (rng 0 ((order428).length : Int))) fun o453 =>
 (some o453)))))
noncomputable abbrev a_after_services : (List Int) × Int × Unit → Option (List Int) := fun a => m_after_services a.1 a.2.1
theorem ok_after_services {P : Program} {w : World} {K : PySem.W.Frag} {mg : Str → Option Value} {base : Heap} {f : Addr} {fd : FuncData} (F : FunP K "after_services" s_after_services f fd) (hmg : mg "after_services" = some (.ref f)) (C_asked_order : Cal P w K mg base CX0 1 "asked_order" (sp K a_asked_order)) (C_turns_from : Cal P w K mg base CX0 1 "turns_from" (spN K a_turns_from)) (z_range : mg "range" = none) (z_len : mg "len" = none) : Cal P w K mg base CX0 2 "after_services" (spN K a_after_services) := by
  refine mk_calN (k := 1) F hmg (F.bindsN fun _ _ _ _ _ _ us hl => match us, hl with | [_, _], _ => rfl) sc_after_services len2 ?_
  rintro cdv A' outer sh0 H0 X0 hr s0 vs ⟨order428, many431, _⟩ r0 Q ⟨v429, _, rfl, r430, v432, _, rfl, r433, rfl⟩ hm hQ
  have E434 := Ex.refl s0
  unfold a_after_services m_after_services at hm
  dsimp only at hm
  obtain ⟨asked_order435, h_asked_order435, hm⟩ := bndE hm
  refine do_drop (ev_call C_asked_order hr (by decide) (ea_cons (ev_var 0 rfl r430) ea_nil) h_asked_order435) (fun s436 e437 => ?_)
  have E438 := E434.trans e437
  have r439 := Enc.mono e437.f r430
  have r440 := Enc.mono e437.f r433
  refine do_setN 2 (en_list (xs := ([] : List Int)) ee_nil (by simp [sizeLine])) (fun p445 s443 e444 n446 o447 => ?_) sc_after_services.nd
  have n448 := fr_back E438 n446
  have E449 := E438.trans e444
  have r450 := Enc.mono e444.f r439
  have r451 := Enc.mono e444.f r440
  obtain ⟨found441, q442, hm⟩ := ltE hm
  rw [← q442] at o447
  obtain ⟨hc452, hm⟩ := chkE hm
  obtain ⟨o453, ho454, hm⟩ := bndE hm
  refine do_forO (υ := (List Int)) PassesOwn.never rfl (ei_range1 z_range (ev_len z_len (Ev.r (ev_var 0 rfl r450))) hc452) (pg_name (i := 3) sc_after_services.nd rfl (by first | exact Or.inl rfl | exact Or.inr rfl)) tg_n ho454 (fun (b455 : (List Int)) (σ' : L2.St) (t' : S) => Ex s0 t' ∧ ∃ (y_turns : Option V) (y_place : Option V), σ' = [some v429, some v432, some (.ref p445), y_place, y_turns] ∧ Own K t' p445 (b455 : (List Int))) (fun s516 k517 => by have E518 := E449.trans k517; have r519 := Enc.mono k517.f r450; have r520 := Enc.mono k517.f r451; have o521 := Own.ex o447 k517; exact ⟨E518, _, _, rfl, o521⟩) (fun s458 k459 x457 b455 b456 σ468 σ469 t466 t467 hx460 hm461 fl462 hR463 k464 hB465 => ?_) (fun s510 k511 σ512 t513 fl514 hR515 => ?_)
  · have hf470 := Fle.trans k459.f fl462
    obtain ⟨E471, y472, y473, rfl, o474⟩ := hR463
    have r475 := Enc.mono hf470 r450
    have r476 := Enc.mono hf470 r451
    obtain ⟨v477, r478, rfl⟩ := hB465
    have E479 := E471.trans k464
    have o480 := Own.ex o474 k464
    have r481 := Enc.mono k464.f r475
    have r482 := Enc.mono k464.f r476
    obtain ⟨turns_from483, h_turns_from483, hm461⟩ := bndE hm461
    refine do_set 4 (EvN.ev (en_call C_turns_from hr (by decide) (ea_cons (ev_var 0 rfl r481) (ea_cons (ev_var 3 rfl r478) ea_nil)) h_turns_from483)) (fun v488 s486 e487 r489 => ?_) sc_after_services.nd
    have E490 := E479.trans e487
    have fl491 := Fle.trans (Fle.refl t467.F) e487.f
    have o492 := Own.ex o480 e487
    have r493 := Enc.mono e487.f r481
    have r494 := Enc.mono e487.f r482
    have r495 := Enc.mono e487.f r478
    obtain ⟨turns484, q485, hm461⟩ := ltE hm461
    rw [← q485] at r489
    obtain ⟨hc501, hm461⟩ := chkE hm461
    obtain ⟨at502, h_at502, hm461⟩ := bndE hm461
    obtain ⟨hc503, hm461⟩ := chkE hm461
    refine do_append 2 rfl o492 (ev_ix (Ev.r (ev_var 4 rfl r489)) (ev_mod (ev_var 1 rfl r494) (ev_len z_len (Ev.r (ev_var 4 rfl r489))) hc501) h_at502) hc503 (fun s496 m497 o498 => ?_)
    have E504 := Ex.mu1 E490 m497 n448
    have fl505 := Fle.trans fl491 m497.f
    have r506 := Enc.mono m497.f r493
    have r507 := Enc.mono m497.f r494
    have r508 := Enc.mono m497.f r495
    have r509 := Enc.mono m497.f r489
    obtain ⟨found499, q500, hm461⟩ := ltE hm461
    rw [← q500] at o498
    obtain rfl := Option.some.inj hm461
    exact do_nil ⟨s496, rfl, fl505, ⟨E504, _, _, rfl, o498⟩⟩
  · have hf522 := Fle.trans k511.f fl514
    obtain ⟨E523, y524, y525, rfl, o526⟩ := hR515
    have r527 := Enc.mono hf522 r450
    have r528 := Enc.mono hf522 r451
    obtain rfl := Option.some.inj hm
    exact do_retO 2 rfl (hQ _ _ E523 n448 o526)
abbrev s_l_are_places : Stmt := topS 11
abbrev N_l_are_places : List Str := ["_law_found", "_law_many_here", "_law_place"]
theorem sc_l_are_places : FnScope N_l_are_places ["_law_found", "_law_many_here"] (defScope s_l_are_places) := ⟨rfl, rfl, rfl, by decide +kernel, rfl, by decide +kernel, by decide +kernel⟩
noncomputable def m_l_are_places (found529 : (List Int)) (many_here532 : Int) : Option Bool :=
 (bnd (orO (!true) (chk (RgOk 0 many_here532) (some (!decide ((sortI found529) = (rng 0 many_here532)))))) fun c537 => (if c537 = true then
 (some false)
 else
 (chk (((List.map (fun (x558 : Int) => x558) (List.filter (fun (x558 : Int) => false) found529))).length ≤ sizeLine) (some (decide ((List.map (fun (x558 : Int) => x558) (List.filter (fun (x558 : Int) => false) found529)) = ([] : List Int)))))))
noncomputable abbrev a_l_are_places : (List Int) × Int × Unit → Option Bool := fun a => m_l_are_places a.1 a.2.1
theorem ok_l_are_places {P : Program} {w : World} {K : PySem.W.Frag} {mg : Str → Option Value} {base : Heap} {f : Addr} {fd : FuncData} (F : FunP K "_law_are_places" s_l_are_places f fd) (hmg : mg "_law_are_places" = some (.ref f)) (z_isinstance : mg "isinstance" = none) (z_list : mg "list" = none) (z_sorted : mg "sorted" = none) (z_range : mg "range" = none) (z_bool : mg "bool" = none) : Cal P w K mg base CX0 1 "_law_are_places" (sp K a_l_are_places) := by
  refine mk_cal (k := 0) F hmg (F.bindsN fun _ _ _ _ _ _ us hl => match us, hl with | [_, _], _ => rfl) sc_l_are_places len2 ?_
  rintro cdv A' outer sh0 H0 X0 hr s0 vs ⟨found529, many_here532, _⟩ r0 Q ⟨v530, _, rfl, r531, v533, _, rfl, r534, rfl⟩ hm hQ
  have E535 := Ex.refl s0
  unfold a_l_are_places m_l_are_places at hm
  dsimp only at hm
  obtain ⟨c537, h_c537, hm⟩ := bndE hm
  refine do_ifR (EvW.tt (EvC.w (by skip; exact ec_orO (eb_not (eb_v (ev_isi (T := "list") (r := true) z_isinstance z_list (by decide +kernel) (ev_var 0 rfl r531) (by show kitB "list" "list" = _; decide +kernel)))) (fun hb538 => (fun hz => (by obtain ⟨hc536, hz⟩ := chkE hz; obtain rfl := Option.some.inj hz; exact (ec_or1 (eb_neL hr (EvN.r (en_sorted z_sorted (Ev.r (ev_var 0 rfl r531)))) (EvN.r (en_listRg1 z_list z_range (ev_var 1 rfl r534) hc536)) (shp_of _) (shp_of _))))) ((orE h_c537).1 hb538)) (orE h_c537).2))) (fun hb540 s541 e542 => ?_) (fun hb551 s552 e553 => ?_)
  · have hm543 := iteE1 hm hb540
    have E544 := E535.trans e542
    have r545 := Enc.mono e542.f r531
    have r546 := Enc.mono e542.f r534
    obtain rfl := Option.some.inj hm543
    exact do_ret ev_bl fun v547 s548 e549 r550 => hQ _ _ (E544.trans e549) r550
  · have hm554 := iteE2 hm hb551
    have E555 := E535.trans e553
    have r556 := Enc.mono e553.f r531
    have r557 := Enc.mono e553.f r534
    obtain ⟨hc568, hm554⟩ := chkE hm554
    obtain rfl := Option.some.inj hm554
    exact do_ret (EvB.v (eb_eqL hr (EvN.r (EvL.n (en_comp1 (own := [("_law_place", 2)]) (j := 2) (t := fun (x558 : Int) => some false) (f := fun (x558 : Int) => some x558) rfl sc_l_are_places.nd (ei_list (ev_var 0 rfl r556)) (blkOk_by (own := [("_law_place", 2)]) (N := N_l_are_places) (sc := defScope s_l_are_places) (by decide +kernel)) rfl (by decide) (fun _ _ _ _ _ => pg_name (i := 2) sc_l_are_places.nd rfl (by first | exact Or.inl rfl | exact Or.inr rfl)) (compO_pure (fun (x558 : Int) => false) (fun (x558 : Int) => x558) found529) hc568 (fun x558 y559 v566 s560 hx562 e561 r567 hf563 _ _ _ _ _ => by obtain rfl := Option.some.inj hf563; exact (EvB.t (eb_v (ev_isi (T := "bool") (r := false) z_isinstance z_bool (by decide +kernel) (ev_var 2 rfl r567) (by show kitB "int" "bool" = _; decide +kernel))))) (fun x558 y559 v566 s560 hx562 e561 r567 ht569 hf563 _ _ _ _ _ => by obtain rfl := Option.some.inj hf563; exact (ev_var 2 rfl r567))))) (EvN.r (en_list (xs := ([] : List Int)) ee_nil (by simp [sizeLine]))) (shp_of _) (shp_of _))) fun v570 s571 e572 r573 => hQ _ _ (E555.trans e572) r573
abbrev s_l_walked : Stmt := topS 12
abbrev N_l_walked : List Str := ["_law_order_here", "_law_many_here", "_law_found", "_law_k", "_law_place"]
theorem sc_l_walked : FnScope N_l_walked ["_law_order_here", "_law_many_here"] (defScope s_l_walked) := ⟨rfl, rfl, rfl, by decide +kernel, rfl, by decide +kernel, by decide +kernel⟩
noncomputable def m_l_walked (order_here574 : (List Int)) (many_here577 : Int) : Option (List Int) :=
 (chk (RgOk 0 ((order_here574).length : Int)) (lt ((rng 0 ((order_here574).length : Int)) : (List Int)) fun found582 =>
 (chk (RgB many_here577) (bnd (foldO (fun (b594 : (List Int)) (x596 : Int) =>
 (bnd (mapO (fun (x622 : Int) => (bnd (atI order_here574 x622) fun at634 => (some at634))) b594) fun ys635 => (chk ((ys635).length ≤ sizeLine) (lt (ys635 : (List Int)) fun found637 =>
 (some found637))))) found582 (rng 0 many_here577)) fun o592 =>
 (some o592)))))
noncomputable abbrev a_l_walked : (List Int) × Int × Unit → Option (List Int) := fun a => m_l_walked a.1 a.2.1
theorem ok_l_walked {P : Program} {w : World} {K : PySem.W.Frag} {mg : Str → Option Value} {base : Heap} {f : Addr} {fd : FuncData} (F : FunP K "_law_walked" s_l_walked f fd) (hmg : mg "_law_walked" = some (.ref f)) (z_list : mg "list" = none) (z_range : mg "range" = none) (z_len : mg "len" = none) : Cal P w K mg base CX0 1 "_law_walked" (sp K a_l_walked) := by
  refine mk_cal (k := 0) F hmg (F.bindsN fun _ _ _ _ _ _ us hl => match us, hl with | [_, _], _ => rfl) sc_l_walked len2 ?_
  rintro cdv A' outer sh0 H0 X0 hr s0 vs ⟨order_here574, many_here577, _⟩ r0 Q ⟨v575, _, rfl, r576, v578, _, rfl, r579, rfl⟩ hm hQ
  have E580 := Ex.refl s0
  unfold a_l_walked m_l_walked at hm
  dsimp only at hm
  obtain ⟨hc581, hm⟩ := chkE hm
  refine do_set 2 (EvN.ev (en_listRg1 z_list z_range (ev_len z_len (Ev.r (ev_var 0 rfl r576))) hc581)) (fun v586 s584 e585 r587 => ?_) sc_l_walked.nd
  have E588 := E580.trans e585
  have r589 := Enc.mono e585.f r576
  have r590 := Enc.mono e585.f r579
  obtain ⟨found582, q583, hm⟩ := ltE hm
  rw [← q583] at r587
  obtain ⟨hc591, hm⟩ := chkE hm
  obtain ⟨o592, ho593, hm⟩ := bndE hm
  refine do_forO (υ := (List Int)) PassesOwn.never rfl (ei_range1 z_range (ev_var 1 rfl r590) hc591) (pg_name (i := 3) sc_l_walked.nd rfl (by first | exact Or.inl rfl | exact Or.inr rfl)) tg_n ho593 (fun (b594 : (List Int)) (σ' : L2.St) (t' : S) => Ex s0 t' ∧ ∃ (v_found : V) (y_k : Option V), σ' = [some v575, some v578, some v_found, y_k, none] ∧ rep K t'.F v_found (b594 : (List Int))) (fun s660 k661 => by have E662 := E588.trans k661; have r663 := Enc.mono k661.f r589; have r664 := Enc.mono k661.f r590; have r665 := Enc.mono k661.f r587; exact ⟨E662, v586, _, rfl, r665⟩) (fun s597 k598 x596 b594 b595 σ607 σ608 t605 t606 hx599 hm600 fl601 hR602 k603 hB604 => ?_) (fun s654 k655 σ656 t657 fl658 hR659 => ?_)
  · have hf609 := Fle.trans k598.f fl601
    obtain ⟨E610, v611, y612, rfl, r613⟩ := hR602
    have r614 := Enc.mono hf609 r589
    have r615 := Enc.mono hf609 r590
    obtain ⟨v616, r617, rfl⟩ := hB604
    have E618 := E610.trans k603
    have r619 := Enc.mono k603.f r613
    have r620 := Enc.mono k603.f r614
    have r621 := Enc.mono k603.f r615
    obtain ⟨ys635, h_ys635, hm600⟩ := bndE hm600
    obtain ⟨hc636, hm600⟩ := chkE hm600
    refine do_setL 2 (en_comp0 (own := [("_law_place", 4)]) (j := 4) (f := fun (x622 : Int) => (bnd (atI order_here574 x622) fun at634 => (some at634))) rfl sc_l_walked.nd (ei_list (ev_var 2 rfl r619)) (blkOk_by (own := [("_law_place", 4)]) (N := N_l_walked) (sc := defScope s_l_walked) (by decide +kernel)) rfl (by decide) (fun _ _ _ _ _ => pg_name (i := 4) sc_l_walked.nd rfl (by first | exact Or.inl rfl | exact Or.inr rfl)) h_ys635 hc636 (fun x622 y623 v632 s624 hx626 e625 r633 hf627 _ _ _ _ _ => by have r629 := Enc.mono e625.f r620; obtain ⟨at634, h_at634, hf627⟩ := bndE hf627; obtain rfl := Option.some.inj hf627; exact (ev_ix (Ev.r (ev_var 0 rfl r629)) (ev_var 4 rfl r633) h_at634))) (fun p643 s639 e640 n644 o645 => ?_) rfl rfl
    obtain ⟨s646, hs647, e648, r642⟩ := frz_ex e640 n644 o645
    rw [← hs647]
    have E649 := E618.trans e648
    have fl650 := Fle.trans (Fle.refl t606.F) e648.f
    have r651 := Enc.mono e648.f r620
    have r652 := Enc.mono e648.f r621
    have r653 := Enc.mono e648.f r617
    obtain ⟨found637, q638, hm600⟩ := ltE hm600
    rw [← q638] at r642
    obtain rfl := Option.some.inj hm600
    exact do_nil ⟨s646, rfl, fl650, ⟨E649, (V.ref p643), _, rfl, r642⟩⟩
  · have hf666 := Fle.trans k655.f fl658
    obtain ⟨E667, v668, y669, rfl, r670⟩ := hR659
    have r671 := Enc.mono hf666 r589
    have r672 := Enc.mono hf666 r590
    obtain rfl := Option.some.inj hm
    exact do_ret (ev_var 2 rfl r670) fun v673 s674 e675 r676 => hQ _ _ (E667.trans e675) r676
abbrev s_l_right : Stmt := topS 14
abbrev N_l_right : List Str := ["_law_order_here", "_law_one", "_law_other", "_law_first", "_law_second", "_law_both", "_law_found", "_law_kept", "_law_place"]
theorem sc_l_right : FnScope N_l_right ["_law_order_here", "_law_one", "_law_other"] (defScope s_l_right) := ⟨rfl, rfl, rfl, by decide +kernel, rfl, by decide +kernel, by decide +kernel⟩
noncomputable def m_l_right (order_here677 : (List Int)) (one680 : Int) (other683 : Int) : Option Bool :=
 (bnd (m_after_services order_here677 one680) fun after_services687 => (lt (after_services687 : (List Int)) fun first688 =>
 (bnd (m_after_services order_here677 other683) fun after_services700 => (lt (after_services700 : (List Int)) fun second701 =>
 (bnd (m_after_services order_here677 (one680 + other683)) fun after_services712 => (lt (after_services712 : (List Int)) fun both713 =>
 (bnd (foldF (ρ := Bool) (fun (b739 : Unit) (x741 : (List Int)) =>
 (bnd (m_l_are_places x741 ((order_here677).length : Int)) fun are_places774 => (if (!are_places774) = true then
 (some (Fl.rt false))
 else
 (some (Fl.nx ()))))) () ([first688, second701, both713] : List (List Int))) fun o737 =>
 (Fl.go o737 (fun b823 => (bnd (mapO (fun (x836 : Int) => (bnd (atI second701 x836) fun at850 => (some at850))) first688) fun ys851 => (chk ((ys851).length ≤ sizeLine) (bnd (orO (!decide (both713 = ys851)) (bnd (mapO (fun (x853 : Int) => (bnd (atI first688 x853) fun at867 => (some at867))) second701) fun ys868 => (chk ((ys868).length ≤ sizeLine) (some (!decide (both713 = ys868)))))) fun c870 => (if c870 = true then
 (some false)
 else
 (bnd (andO (decide (one680 < (14 : Int))) (bnd (m_l_walked order_here677 one680) fun walked903 => (some (!decide (first688 = walked903))))) fun c904 => (if c904 = true then
 (some false)
 else
 (lt ([] : (List Int)) fun first947 =>
 (lt (order_here677 : (List Int)) fun kept955 =>
 (bnd (m_after_services order_here677 (0 : Int)) fun after_services968 => (chk (RgOk 0 ((order_here677).length : Int)) (bnd (andO (decide (after_services968 = (rng 0 ((order_here677).length : Int)))) (bnd (m_after_services order_here677 (1 : Int)) fun after_services970 => (andO (decide (after_services970 = order_here677)) (some (decide (order_here677 = kept955)))))) fun c971 => (some c971))))))))))))) (fun rr => (some rr))))))))))
noncomputable abbrev a_l_right : (List Int) × Int × Int × Unit → Option Bool := fun a => m_l_right a.1 a.2.1 a.2.2.1
theorem ok_l_right {P : Program} {w : World} {K : PySem.W.Frag} {mg : Str → Option Value} {base : Heap} {f : Addr} {fd : FuncData} (F : FunP K "_law_right" s_l_right f fd) (hmg : mg "_law_right" = some (.ref f)) (C_after_services : Cal P w K mg base CX0 2 "after_services" (spN K a_after_services)) (C_l_are_places : Cal P w K mg base CX0 1 "_law_are_places" (sp K a_l_are_places)) (C_l_walked : Cal P w K mg base CX0 1 "_law_walked" (sp K a_l_walked)) (z_len : mg "len" = none) (z_list : mg "list" = none) (z_range : mg "range" = none) : Cal P w K mg base CX0 3 "_law_right" (sp K a_l_right) := by
  refine mk_cal (k := 2) F hmg (F.bindsN fun _ _ _ _ _ _ us hl => match us, hl with | [_, _, _], _ => rfl) sc_l_right len3 ?_
  rintro cdv A' outer sh0 H0 X0 hr s0 vs ⟨order_here677, one680, other683, _⟩ r0 Q ⟨v678, _, rfl, r679, v681, _, rfl, r682, v684, _, rfl, r685, rfl⟩ hm hQ
  have E686 := Ex.refl s0
  unfold a_l_right m_l_right at hm
  dsimp only at hm
  obtain ⟨after_services687, h_after_services687, hm⟩ := bndE hm
  refine do_setN 3 (en_call C_after_services hr (by decide) (ea_cons (ev_var 0 rfl r679) (ea_cons (ev_var 1 rfl r682) ea_nil)) h_after_services687) (fun p692 s690 e691 n693 o694 => ?_) sc_l_right.nd
  have n695 := fr_back E686 n693
  have E696 := E686.trans e691
  have r697 := Enc.mono e691.f r679
  have r698 := Enc.mono e691.f r682
  have r699 := Enc.mono e691.f r685
  obtain ⟨first688, q689, hm⟩ := ltE hm
  rw [← q689] at o694
  obtain ⟨after_services700, h_after_services700, hm⟩ := bndE hm
  refine do_set 4 (EvN.ev (en_call C_after_services hr (by decide) (ea_cons (ev_var 0 rfl r697) (ea_cons (ev_var 2 rfl r699) ea_nil)) h_after_services700)) (fun v705 s703 e704 r706 => ?_) sc_l_right.nd
  have E707 := E696.trans e704
  have r708 := Enc.mono e704.f r697
  have r709 := Enc.mono e704.f r698
  have r710 := Enc.mono e704.f r699
  have o711 := Own.ex o694 e704
  obtain ⟨second701, q702, hm⟩ := ltE hm
  rw [← q702] at r706
  obtain ⟨after_services712, h_after_services712, hm⟩ := bndE hm
  refine do_set 5 (EvN.ev (en_call C_after_services hr (by decide) (ea_cons (ev_var 0 rfl r708) (ea_cons (ev_add (ev_var 1 rfl r709) (ev_var 2 rfl r710)) ea_nil)) h_after_services712)) (fun v717 s715 e716 r718 => ?_) sc_l_right.nd
  have E719 := E707.trans e716
  have r720 := Enc.mono e716.f r708
  have r721 := Enc.mono e716.f r709
  have r722 := Enc.mono e716.f r710
  have o723 := Own.ex o711 e716
  have r724 := Enc.mono e716.f r706
  obtain ⟨both713, q714, hm⟩ := ltE hm
  rw [← q714] at r718
  refine do_frz2 o723 fun s725 hs726 hf727 hg728 r729 hx730 => ?_
  have E731 := frzE E719 n695 hs726 hf727 hg728
  have r732 := Enc.mono hf727 r720
  have r733 := Enc.mono hf727 r721
  have r734 := Enc.mono hf727 r722
  have r735 := Enc.mono hf727 r724
  have r736 := Enc.mono hf727 r718
  obtain ⟨o737, ho738, hm⟩ := bndE hm
  refine do_forF (ρ := Bool) (υ := Unit) PassesOwn.never rfl (ei_list (EvN.ev (en_list (xs := ([first688, second701, both713] : List (List Int))) (ee_cons (ev_var 3 rfl r729) (ee_cons (ev_var 4 rfl r735) (ee_cons (ev_var 5 rfl r736) ee_nil))) (by simp [sizeLine])))) (pg_name (i := 6) sc_l_right.nd rfl (by first | exact Or.inl rfl | exact Or.inr rfl)) tg_n ho738 (fun (b739 : Unit) (σ' : L2.St) (t' : S) => Ex s0 t' ∧ ∃ (y_found : Option V), σ' = [some v678, some v681, some v684, some (V.ref p692), some v705, some v717, y_found, none, none]) (fun s812 k813 => by have E814 := E731.trans k813; have fl815 := Fle.trans hf727 k813.f; have fl816 := Fle.trans (Fle.refl s725.F) k813.f; have r817 := Enc.mono k813.f r732; have r818 := Enc.mono k813.f r733; have r819 := Enc.mono k813.f r734; have r820 := Enc.mono k813.f r729; have r821 := Enc.mono k813.f r735; have r822 := Enc.mono k813.f r736; exact ⟨E814, _, rfl⟩) (fun s742 k743 x741 b739 q772 σ752 σ753 t750 t751 hx744 hm745 hq773 fl746 hR747 k748 hB749 => ?_) (fun s806 k807 b823 σ808 t809 ho824 fl810 hR811 => ?_)
  · have hf754 := Fle.trans k743.f fl746
    obtain ⟨E755, y756, rfl⟩ := hR747
    have r757 := Enc.mono hf754 r732
    have r758 := Enc.mono hf754 r733
    have r759 := Enc.mono hf754 r734
    have r760 := Enc.mono hf754 r729
    have r761 := Enc.mono hf754 r735
    have r762 := Enc.mono hf754 r736
    obtain ⟨v763, r764, rfl⟩ := hB749
    have E765 := E755.trans k748
    have r766 := Enc.mono k748.f r757
    have r767 := Enc.mono k748.f r758
    have r768 := Enc.mono k748.f r759
    have r769 := Enc.mono k748.f r760
    have r770 := Enc.mono k748.f r761
    have r771 := Enc.mono k748.f r762
    obtain ⟨are_places774, h_are_places774, hm745⟩ := bndE hm745
    refine do_ifR (EvB.t (eb_not (eb_v (ev_call C_l_are_places hr (by decide) (ea_cons (ev_var 6 rfl r764) (ea_cons (ev_len z_len (Ev.r (ev_var 0 rfl r766))) ea_nil)) h_are_places774)))) (fun hb776 s777 e778 => ?_) (fun hb793 s794 e795 => ?_)
    · have hm779 := iteE1 hm745 hb776
      have E780 := E765.trans e778
      have fl781 := Fle.trans (Fle.refl t751.F) e778.f
      have r782 := Enc.mono e778.f r766
      have r783 := Enc.mono e778.f r767
      have r784 := Enc.mono e778.f r768
      have r785 := Enc.mono e778.f r769
      have r786 := Enc.mono e778.f r770
      have r787 := Enc.mono e778.f r771
      have r788 := Enc.mono e778.f r764
      obtain rfl := Option.some.inj hm779
      obtain rfl := hq773 _ rfl
      obtain rfl := Option.some.inj hm
      exact do_ret ev_bl fun v789 s790 e791 r792 => hQ _ _ (E780.trans e791) r792
    · have hm796 := iteE2 hm745 hb793
      have E797 := E765.trans e795
      have fl798 := Fle.trans (Fle.refl t751.F) e795.f
      have r799 := Enc.mono e795.f r766
      have r800 := Enc.mono e795.f r767
      have r801 := Enc.mono e795.f r768
      have r802 := Enc.mono e795.f r769
      have r803 := Enc.mono e795.f r770
      have r804 := Enc.mono e795.f r771
      have r805 := Enc.mono e795.f r764
      obtain rfl := Option.some.inj hm796
      exact do_nil ⟨s794, rfl, _, rfl, fl798, ⟨E797, _, rfl⟩⟩
  · subst ho824
    have hf825 := Fle.trans k807.f fl810
    obtain ⟨E826, y827, rfl⟩ := hR811
    have r828 := Enc.mono hf825 r732
    have r829 := Enc.mono hf825 r733
    have r830 := Enc.mono hf825 r734
    have r831 := Enc.mono hf825 r729
    have r832 := Enc.mono hf825 r735
    have r833 := Enc.mono hf825 r736
    have fl834 := Fle.trans hf727 hf825
    have fl835 := Fle.trans (Fle.refl s725.F) hf825
    obtain ⟨ys851, h_ys851, hm⟩ := bndE hm
    obtain ⟨hc852, hm⟩ := chkE hm
    obtain ⟨c870, h_c870, hm⟩ := bndE hm
    refine do_ifR (EvW.tt (EvC.w (by skip; exact ec_orO (eb_neL hr (Ev.r (ev_var 5 rfl r833)) (EvN.r (EvL.n (en_comp0 (own := [("_law_place", 8)]) (j := 8) (f := fun (x836 : Int) => (bnd (atI second701 x836) fun at850 => (some at850))) rfl sc_l_right.nd (ei_list (ev_var 3 rfl r831)) (blkOk_by (own := [("_law_place", 8)]) (N := N_l_right) (sc := defScope s_l_right) (by decide +kernel)) rfl (by decide) (fun _ _ _ _ _ => pg_name (i := 8) sc_l_right.nd rfl (by first | exact Or.inl rfl | exact Or.inr rfl)) h_ys851 hc852 (fun x836 y837 v848 s838 hx840 e839 r849 hf841 _ _ _ _ _ => by have r846 := Enc.mono e839.f r832; obtain ⟨at850, h_at850, hf841⟩ := bndE hf841; obtain rfl := Option.some.inj hf841; exact (ev_ix (Ev.r (ev_var 4 rfl r846)) (ev_var 8 rfl r849) h_at850))))) (shp_of _) (shp_of _)) (fun hb871 => (fun hz => (by obtain ⟨ys868, h_ys868, hz⟩ := bndE hz; obtain ⟨hc869, hz⟩ := chkE hz; obtain rfl := Option.some.inj hz; exact (ec_or1 (eb_neL hr (Ev.r (ev_var 5 rfl r833)) (EvN.r (EvL.n (en_comp0 (own := [("_law_place", 8)]) (j := 8) (f := fun (x853 : Int) => (bnd (atI first688 x853) fun at867 => (some at867))) rfl sc_l_right.nd (ei_list (ev_var 4 rfl r832)) (blkOk_by (own := [("_law_place", 8)]) (N := N_l_right) (sc := defScope s_l_right) (by decide +kernel)) rfl (by decide) (fun _ _ _ _ _ => pg_name (i := 8) sc_l_right.nd rfl (by first | exact Or.inl rfl | exact Or.inr rfl)) h_ys868 hc869 (fun x853 y854 v865 s855 hx857 e856 r866 hf858 _ _ _ _ _ => by have r862 := Enc.mono e856.f r831; obtain ⟨at867, h_at867, hf858⟩ := bndE hf858; obtain rfl := Option.some.inj hf858; exact (ev_ix (Ev.r (ev_var 3 rfl r862)) (ev_var 8 rfl r866) h_at867))))) (shp_of _) (shp_of _))))) ((orE h_c870).1 hb871)) (orE h_c870).2))) (fun hb873 s874 e875 => ?_) (fun hb890 s891 e892 => ?_)
    · have hm876 := iteE1 hm hb873
      have E877 := E826.trans e875
      have fl878 := Fle.trans fl834 e875.f
      have fl879 := Fle.trans fl835 e875.f
      have r880 := Enc.mono e875.f r828
      have r881 := Enc.mono e875.f r829
      have r882 := Enc.mono e875.f r830
      have r883 := Enc.mono e875.f r831
      have r884 := Enc.mono e875.f r832
      have r885 := Enc.mono e875.f r833
      obtain rfl := Option.some.inj hm876
      exact do_ret ev_bl fun v886 s887 e888 r889 => hQ _ _ (E877.trans e888) r889
    · have hm893 := iteE2 hm hb890
      have E894 := E826.trans e892
      have fl895 := Fle.trans fl834 e892.f
      have fl896 := Fle.trans fl835 e892.f
      have r897 := Enc.mono e892.f r828
      have r898 := Enc.mono e892.f r829
      have r899 := Enc.mono e892.f r830
      have r900 := Enc.mono e892.f r831
      have r901 := Enc.mono e892.f r832
      have r902 := Enc.mono e892.f r833
      obtain ⟨c904, h_c904, hm893⟩ := bndE hm893
      refine do_ifR (EvW.tt (EvC.w (by skip; exact ec_andO (eb_lt (ev_var 1 rfl r898) ev_int) (fun hb905 => (fun hz => (by obtain ⟨walked903, h_walked903, hz⟩ := bndE hz; obtain rfl := Option.some.inj hz; exact (ec_and1 (eb_neL hr (Ev.r (ev_var 3 rfl r900)) (Ev.r (ev_call C_l_walked hr (by decide) (ea_cons (ev_var 0 rfl r897) (ea_cons (ev_var 1 rfl r898) ea_nil)) h_walked903)) (shp_of _) (shp_of _))))) ((andE h_c904).1 hb905)) (andE h_c904).2))) (fun hb907 s908 e909 => ?_) (fun hb924 s925 e926 => ?_)
      · have hm910 := iteE1 hm893 hb907
        have E911 := E894.trans e909
        have fl912 := Fle.trans fl895 e909.f
        have fl913 := Fle.trans fl896 e909.f
        have r914 := Enc.mono e909.f r897
        have r915 := Enc.mono e909.f r898
        have r916 := Enc.mono e909.f r899
        have r917 := Enc.mono e909.f r900
        have r918 := Enc.mono e909.f r901
        have r919 := Enc.mono e909.f r902
        obtain rfl := Option.some.inj hm910
        exact do_ret ev_bl fun v920 s921 e922 r923 => hQ _ _ (E911.trans e922) r923
      · have hm927 := iteE2 hm893 hb924
        have E928 := E894.trans e926
        have fl929 := Fle.trans fl895 e926.f
        have fl930 := Fle.trans fl896 e926.f
        have r931 := Enc.mono e926.f r897
        have r932 := Enc.mono e926.f r898
        have r933 := Enc.mono e926.f r899
        have r934 := Enc.mono e926.f r900
        have r935 := Enc.mono e926.f r901
        have r936 := Enc.mono e926.f r902
        refine do_back s715 fl929 ?_
        have E937 := backE fl929 E719 E928
        have o938 := backOwn fl929 o723 hx730 fl930
        have r939 : rep K (S.back s715 s925 fl929).F v678 (order_here677 : (List Int)) := r720
        have r940 : rep K (S.back s715 s925 fl929).F v681 (one680 : Int) := r721
        have r941 : rep K (S.back s715 s925 fl929).F v684 (other683 : Int) := r722
        have r942 : rep K (S.back s715 s925 fl929).F v705 (second701 : (List Int)) := r724
        have r943 : rep K (S.back s715 s925 fl929).F v717 (both713 : (List Int)) := r718
        refine do_clear 3 rfl o938 (fun s944 m945 o946 => ?_)
        have E949 := Ex.mu1 E937 m945 n695
        have r950 := Enc.mono m945.f r939
        have r951 := Enc.mono m945.f r940
        have r952 := Enc.mono m945.f r941
        have r953 := Enc.mono m945.f r942
        have r954 := Enc.mono m945.f r943
        obtain ⟨first947, q948, hm927⟩ := ltE hm927
        rw [← q948] at o946
        refine do_set 7 (EvN.ev (en_copy z_list (Ev.r (ev_var 0 rfl r950)))) (fun v959 s957 e958 r960 => ?_) sc_l_right.nd
        have E961 := E949.trans e958
        have r962 := Enc.mono e958.f r950
        have r963 := Enc.mono e958.f r951
        have r964 := Enc.mono e958.f r952
        have r965 := Enc.mono e958.f r953
        have r966 := Enc.mono e958.f r954
        have o967 := Own.ex o946 e958
        obtain ⟨kept955, q956, hm927⟩ := ltE hm927
        rw [← q956] at r960
        obtain ⟨after_services968, h_after_services968, hm927⟩ := bndE hm927
        obtain ⟨hc969, hm927⟩ := chkE hm927
        obtain ⟨c971, h_c971, hm927⟩ := bndE hm927
        obtain rfl := Option.some.inj hm927
        exact do_ret (EvC.v (by skip; exact ec_andO (eb_eqL hr (EvN.r (en_call C_after_services hr (by decide) (ea_cons (ev_var 0 rfl r962) (ea_cons ev_int ea_nil)) h_after_services968)) (EvN.r (en_listRg1 z_list z_range (ev_len z_len (Ev.r (ev_var 0 rfl r962))) hc969)) (shp_of _) (shp_of _)) (fun hb972 => (fun hz => (by obtain ⟨after_services970, h_after_services970, hz⟩ := bndE hz; exact ec_andO (eb_eqL hr (EvN.r (en_call C_after_services hr (by decide) (ea_cons (ev_var 0 rfl r962) (ea_cons ev_int ea_nil)) h_after_services970)) (Ev.r (ev_var 0 rfl r962)) (shp_of _) (shp_of _)) (fun hb973 => (fun hz => (by skip; obtain rfl := Option.some.inj hz; exact (ec_and1 (eb_eqL hr (Ev.r (ev_var 0 rfl r962)) (Ev.r (ev_var 7 rfl r960)) (shp_of _) (shp_of _))))) ((andE hz).1 hb973)) (andE hz).2)) ((andE h_c971).1 hb972)) (andE h_c971).2)) fun v974 s975 e976 r977 => hQ _ _ (E961.trans e976) r977
abbrev s_l_many : Stmt := topS 13
abbrev N_l_many : List Str := ["_law_cell", "_law_far"]
theorem sc_l_many : FnScope N_l_many ["_law_cell", "_law_far"] (defScope s_l_many) := ⟨rfl, rfl, rfl, by decide +kernel, rfl, by decide +kernel, by decide +kernel⟩
noncomputable def m_l_many (cell978 : Int) (far981 : Int) : Option Int :=
 (if (decide (far981 = (0 : Int))) = true then
 (some (cell978 % (14 : Int)))
 else
 (some (cell978 % ((10 : Int) ^ ((59 : Int)).toNat))))
noncomputable abbrev a_l_many : Int × Int × Unit → Option Int := fun a => m_l_many a.1 a.2.1
theorem ok_l_many {P : Program} {w : World} {K : PySem.W.Frag} {mg : Str → Option Value} {base : Heap} {f : Addr} {fd : FuncData} (F : FunP K "_law_many" s_l_many f fd) (hmg : mg "_law_many" = some (.ref f))  : Cal P w K mg base CX0 1 "_law_many" (sp K a_l_many) := by
  refine mk_cal (k := 0) F hmg (F.bindsN fun _ _ _ _ _ _ us hl => match us, hl with | [_, _], _ => rfl) sc_l_many len2 ?_
  rintro cdv A' outer sh0 H0 X0 hr s0 vs ⟨cell978, far981, _⟩ r0 Q ⟨v979, _, rfl, r980, v982, _, rfl, r983, rfl⟩ hm hQ
  have E984 := Ex.refl s0
  unfold a_l_many m_l_many at hm
  dsimp only at hm
  refine do_ifR (EvB.t (eb_eq (ev_var 1 rfl r983) ev_int)) (fun hb986 s987 e988 => ?_) (fun hb997 s998 e999 => ?_)
  · have hm989 := iteE1 hm hb986
    have E990 := E984.trans e988
    have r991 := Enc.mono e988.f r980
    have r992 := Enc.mono e988.f r983
    obtain rfl := Option.some.inj hm989
    exact do_ret (ev_mod (ev_var 0 rfl r991) ev_int (by decide)) fun v993 s994 e995 r996 => hQ _ _ (E990.trans e995) r996
  · have hm1000 := iteE2 hm hb997
    have E1001 := E984.trans e999
    have r1002 := Enc.mono e999.f r980
    have r1003 := Enc.mono e999.f r983
    obtain rfl := Option.some.inj hm1000
    exact do_ret (ev_mod (ev_var 0 rfl r1002) (ev_pow ev_int ev_int ⟨by decide, by decide, by decide⟩) (by decide)) fun v1004 s1005 e1006 r1007 => hQ _ _ (E1001.trans e1006) r1007
abbrev s_law : Stmt := topS 15
abbrev N_law : List Str := ["_law_script", "_law_k", "_law_cell", "_law_order_here", "_law_one", "_law_other"]
theorem sc_law : FnScope N_law ["_law_script"] (defScope s_law) := ⟨rfl, rfl, rfl, by decide +kernel, rfl, by decide +kernel, by decide +kernel⟩
noncomputable def m_law (script1008 : (List Int)) : Option Bool :=
 (chk (RgB ((1 : Int) + ((((cut script1008 none (some (59 : Int)))).length : Int) / (3 : Int)))) (bnd (foldF (ρ := Bool) (fun (b1015 : Unit) (x1017 : Int) =>
 (bnd (m_l_cell_at script1008 ((3 : Int) * x1017)) fun cell_at1044 => (lt (cell_at1044 : Int) fun cell1045 =>
 (bnd (atI ([(12 : Int), (40 : Int)] : List Int) (if (decide ((cell1045 % (8 : Int)) = (3 : Int))) = true then (1 : Int) else 0)) fun at1055 => (bnd (m_l_order (cell1045 / (8 : Int)) at1055) fun order1056 => (lt (order1056 : (List Int)) fun order_here1057 =>
 (bnd (m_l_cell_at script1008 (((3 : Int) * x1017) + (1 : Int))) fun cell_at1068 => (lt (cell_at1068 : Int) fun one1069 =>
 (bnd (m_l_cell_at script1008 (((3 : Int) * x1017) + (2 : Int))) fun cell_at1081 => (lt (cell_at1081 : Int) fun other1082 =>
 (bnd (m_l_many (one1069 / (3 : Int)) (one1069 % (3 : Int))) fun many1095 => (bnd (m_l_many (other1082 / (3 : Int)) (other1082 % (3 : Int))) fun many1096 => (bnd (m_l_right order_here1057 many1095 many1096) fun right1097 => (if (!right1097) = true then
 (some (Fl.rt false))
 else
 (some (Fl.nx ())))))))))))))))) () (rng 0 ((1 : Int) + ((((cut script1008 none (some (59 : Int)))).length : Int) / (3 : Int))))) fun o1013 =>
 (Fl.go o1013 (fun b1137 => (some true)) (fun rr => (some rr)))))
noncomputable abbrev a_law : (List Int) × Unit → Option Bool := fun a => m_law a.1
theorem ok_law_fn {P : Program} {w : World} {K : PySem.W.Frag} {mg : Str → Option Value} {base : Heap} {f : Addr} {fd : FuncData} (F : FunP K "law" s_law f fd) (hmg : mg "law" = some (.ref f)) (C_l_cell_at : Cal P w K mg base CX0 1 "_law_cell_at" (sp K a_l_cell_at)) (C_l_order : Cal P w K mg base CX0 2 "_law_order" (spN K a_l_order)) (C_l_right : Cal P w K mg base CX0 3 "_law_right" (sp K a_l_right)) (C_l_many : Cal P w K mg base CX0 1 "_law_many" (sp K a_l_many)) (z_range : mg "range" = none) (z_len : mg "len" = none) (z_int : mg "int" = none) : FnOk P w K mg base CX0 4 f fd ["_law_script"] (sp K a_law) := by
  refine mk_fn (k := 3) F sc_law len1 ?_
  rintro cdv A' outer sh0 H0 X0 hr s0 vs ⟨script1008, _⟩ r0 Q ⟨v1009, _, rfl, r1010, rfl⟩ hm hQ
  have E1011 := Ex.refl s0
  unfold a_law m_law at hm
  dsimp only at hm
  obtain ⟨hc1012, hm⟩ := chkE hm
  obtain ⟨o1013, ho1014, hm⟩ := bndE hm
  refine do_forF (ρ := Bool) (υ := Unit) PassesOwn.never rfl (ei_range1 z_range (ev_add ev_int (ev_div (ev_len z_len (EvN.r (en_slice (Ev.r (ev_var 0 rfl r1010)) eo_none (eo_some ev_int)))) ev_int ⟨by decide, by decide +kernel⟩)) hc1012) (pg_name (i := 1) sc_law.nd rfl (by first | exact Or.inl rfl | exact Or.inr rfl)) tg_n ho1014 (fun (b1015 : Unit) (σ' : L2.St) (t' : S) => Ex s0 t' ∧ ∃ (y_cell : Option V) (y_order_here : Option V) (y_one : Option V) (y_other : Option V) (y_k : Option V), σ' = [some v1009, y_k, y_cell, y_order_here, y_one, y_other]) (fun s1133 k1134 => by have E1135 := E1011.trans k1134; have r1136 := Enc.mono k1134.f r1010; exact ⟨E1135, _, _, _, _, _, rfl⟩) (fun s1018 k1019 x1017 b1015 q1042 σ1028 σ1029 t1026 t1027 hx1020 hm1021 hq1043 fl1022 hR1023 k1024 hB1025 => ?_) (fun s1127 k1128 b1137 σ1129 t1130 ho1138 fl1131 hR1132 => ?_)
  · have hf1030 := Fle.trans k1019.f fl1022
    obtain ⟨E1031, y1032, y1033, y1034, y1035, y1036, rfl⟩ := hR1023
    have r1037 := Enc.mono hf1030 r1010
    obtain ⟨v1038, r1039, rfl⟩ := hB1025
    have E1040 := E1031.trans k1024
    have r1041 := Enc.mono k1024.f r1037
    obtain ⟨cell_at1044, h_cell_at1044, hm1021⟩ := bndE hm1021
    refine do_set 2 (ev_call C_l_cell_at hr (by decide) (ea_cons (ev_var 0 rfl r1041) (ea_cons (ev_mul ev_int (ev_var 1 rfl r1039) (Or.inl (Or.inl ⟨by omega, by omega⟩))) ea_nil)) h_cell_at1044) (fun v1049 s1047 e1048 r1050 => ?_) sc_law.nd
    have E1051 := E1040.trans e1048
    have fl1052 := Fle.trans (Fle.refl t1027.F) e1048.f
    have r1053 := Enc.mono e1048.f r1041
    have r1054 := Enc.mono e1048.f r1039
    obtain ⟨cell1045, q1046, hm1021⟩ := ltE hm1021
    rw [← q1046] at r1050
    obtain ⟨at1055, h_at1055, hm1021⟩ := bndE hm1021
    obtain ⟨order1056, h_order1056, hm1021⟩ := bndE hm1021
    refine do_set 3 (EvN.ev (en_call C_l_order hr (by decide) (ea_cons (ev_div (ev_var 2 rfl r1050) ev_int ⟨by decide, by decide +kernel⟩) (ea_cons (ev_ix (EvN.r (en_list (xs := ([(12 : Int), (40 : Int)] : List Int)) (ee_cons ev_int (ee_cons ev_int ee_nil)) (by simp [sizeLine]))) (ev_intB z_int (EvB.v (eb_eq (ev_mod (ev_var 2 rfl r1050) ev_int (by decide)) ev_int))) h_at1055) ea_nil)) h_order1056)) (fun v1061 s1059 e1060 r1062 => ?_) sc_law.nd
    have E1063 := E1051.trans e1060
    have fl1064 := Fle.trans fl1052 e1060.f
    have r1065 := Enc.mono e1060.f r1053
    have r1066 := Enc.mono e1060.f r1054
    have r1067 := Enc.mono e1060.f r1050
    obtain ⟨order_here1057, q1058, hm1021⟩ := ltE hm1021
    rw [← q1058] at r1062
    obtain ⟨cell_at1068, h_cell_at1068, hm1021⟩ := bndE hm1021
    refine do_set 4 (ev_call C_l_cell_at hr (by decide) (ea_cons (ev_var 0 rfl r1065) (ea_cons (ev_add (ev_mul ev_int (ev_var 1 rfl r1066) (Or.inl (Or.inl ⟨by omega, by omega⟩))) ev_int) ea_nil)) h_cell_at1068) (fun v1073 s1071 e1072 r1074 => ?_) sc_law.nd
    have E1075 := E1063.trans e1072
    have fl1076 := Fle.trans fl1064 e1072.f
    have r1077 := Enc.mono e1072.f r1065
    have r1078 := Enc.mono e1072.f r1066
    have r1079 := Enc.mono e1072.f r1067
    have r1080 := Enc.mono e1072.f r1062
    obtain ⟨one1069, q1070, hm1021⟩ := ltE hm1021
    rw [← q1070] at r1074
    obtain ⟨cell_at1081, h_cell_at1081, hm1021⟩ := bndE hm1021
    refine do_set 5 (ev_call C_l_cell_at hr (by decide) (ea_cons (ev_var 0 rfl r1077) (ea_cons (ev_add (ev_mul ev_int (ev_var 1 rfl r1078) (Or.inl (Or.inl ⟨by omega, by omega⟩))) ev_int) ea_nil)) h_cell_at1081) (fun v1086 s1084 e1085 r1087 => ?_) sc_law.nd
    have E1088 := E1075.trans e1085
    have fl1089 := Fle.trans fl1076 e1085.f
    have r1090 := Enc.mono e1085.f r1077
    have r1091 := Enc.mono e1085.f r1078
    have r1092 := Enc.mono e1085.f r1079
    have r1093 := Enc.mono e1085.f r1080
    have r1094 := Enc.mono e1085.f r1074
    obtain ⟨other1082, q1083, hm1021⟩ := ltE hm1021
    rw [← q1083] at r1087
    obtain ⟨many1095, h_many1095, hm1021⟩ := bndE hm1021
    obtain ⟨many1096, h_many1096, hm1021⟩ := bndE hm1021
    obtain ⟨right1097, h_right1097, hm1021⟩ := bndE hm1021
    refine do_ifR (EvB.t (eb_not (eb_v (ev_call C_l_right hr (by decide) (ea_cons (ev_var 3 rfl r1093) (ea_cons (ev_call C_l_many hr (by decide) (ea_cons (ev_div (ev_var 4 rfl r1094) ev_int ⟨by decide, by decide +kernel⟩) (ea_cons (ev_mod (ev_var 4 rfl r1094) ev_int (by decide)) ea_nil)) h_many1095) (ea_cons (ev_call C_l_many hr (by decide) (ea_cons (ev_div (ev_var 5 rfl r1087) ev_int ⟨by decide, by decide +kernel⟩) (ea_cons (ev_mod (ev_var 5 rfl r1087) ev_int (by decide)) ea_nil)) h_many1096) ea_nil))) h_right1097)))) (fun hb1099 s1100 e1101 => ?_) (fun hb1115 s1116 e1117 => ?_)
    · have hm1102 := iteE1 hm1021 hb1099
      have E1103 := E1088.trans e1101
      have fl1104 := Fle.trans fl1089 e1101.f
      have r1105 := Enc.mono e1101.f r1090
      have r1106 := Enc.mono e1101.f r1091
      have r1107 := Enc.mono e1101.f r1092
      have r1108 := Enc.mono e1101.f r1093
      have r1109 := Enc.mono e1101.f r1094
      have r1110 := Enc.mono e1101.f r1087
      obtain rfl := Option.some.inj hm1102
      obtain rfl := hq1043 _ rfl
      obtain rfl := Option.some.inj hm
      exact do_ret ev_bl fun v1111 s1112 e1113 r1114 => hQ _ _ (E1103.trans e1113) r1114
    · have hm1118 := iteE2 hm1021 hb1115
      have E1119 := E1088.trans e1117
      have fl1120 := Fle.trans fl1089 e1117.f
      have r1121 := Enc.mono e1117.f r1090
      have r1122 := Enc.mono e1117.f r1091
      have r1123 := Enc.mono e1117.f r1092
      have r1124 := Enc.mono e1117.f r1093
      have r1125 := Enc.mono e1117.f r1094
      have r1126 := Enc.mono e1117.f r1087
      obtain rfl := Option.some.inj hm1118
      exact do_nil ⟨s1116, rfl, _, rfl, fl1120, ⟨E1119, _, _, _, _, _, rfl⟩⟩
  · subst ho1138
    have hf1139 := Fle.trans k1128.f fl1131
    obtain ⟨E1140, y1141, y1142, y1143, y1144, y1145, rfl⟩ := hR1132
    have r1146 := Enc.mono hf1139 r1010
    obtain rfl := Option.some.inj hm
    exact do_ret ev_bl fun v1147 s1148 e1149 r1150 => hQ _ _ (E1140.trans e1149) r1150
def d_l_cell_at : He.DefD := ⟨("_law_cell_at", none), "_law_cell_at", "_law_cell_at", defArgs s_l_cell_at, defBody s_l_cell_at, defScope s_l_cell_at, [], []⟩
def d_l_draws : He.DefD := ⟨("_law_draws", none), "_law_draws", "_law_draws", defArgs s_l_draws, defBody s_l_draws, defScope s_l_draws, [], []⟩
def d_l_order : He.DefD := ⟨("_law_order", none), "_law_order", "_law_order", defArgs s_l_order, defBody s_l_order, defScope s_l_order, [], []⟩
def d_asked_order : He.DefD := ⟨("asked_order", none), "asked_order", "asked_order", defArgs s_asked_order, defBody s_asked_order, defScope s_asked_order, [], []⟩
def d_turns_from : He.DefD := ⟨("turns_from", none), "turns_from", "turns_from", defArgs s_turns_from, defBody s_turns_from, defScope s_turns_from, [], []⟩
def d_after_services : He.DefD := ⟨("after_services", none), "after_services", "after_services", defArgs s_after_services, defBody s_after_services, defScope s_after_services, [], []⟩
def d_l_are_places : He.DefD := ⟨("_law_are_places", none), "_law_are_places", "_law_are_places", defArgs s_l_are_places, defBody s_l_are_places, defScope s_l_are_places, [], []⟩
def d_l_walked : He.DefD := ⟨("_law_walked", none), "_law_walked", "_law_walked", defArgs s_l_walked, defBody s_l_walked, defScope s_l_walked, [], []⟩
def d_l_right : He.DefD := ⟨("_law_right", none), "_law_right", "_law_right", defArgs s_l_right, defBody s_l_right, defScope s_l_right, [], []⟩
def d_l_many : He.DefD := ⟨("_law_many", none), "_law_many", "_law_many", defArgs s_l_many, defBody s_l_many, defScope s_l_many, [], []⟩
def d_law : He.DefD := ⟨("law", none), "law", "law", defArgs s_law, defBody s_law, defScope s_law, [], []⟩
def fn : List He.DefD := [d_l_cell_at, d_l_draws, d_l_order, d_asked_order, d_turns_from, d_after_services, d_l_are_places, d_l_walked, d_l_right, d_l_many, d_law]
def fa : List He.Fa := [.glo "_law_cell_at", .glo "_law_draws", .glo "_law_order", .glo "asked_order", .glo "turns_from", .glo "after_services", .glo "_law_are_places", .glo "_law_walked", .glo "_law_right", .glo "_law_many", .glo "law", .free "len", .free "range", .free "list", .free "sorted", .free "isinstance", .free "bool", .free "int"]
abbrev R : PySem.W.OpenRow := PySem.W.OpenLaw.row PySem.Challenge.rw_deskpairs_k41_services_add_up
abbrev hk : PySem.W.Hook := He.hookD 4 fa fn
def ob (s : PySem.W.SharedT) : He.AlD := He.obsDG 4 fa fn (HandSHeadRun.getT s)
theorem ob_eq (s : PySem.W.SharedT) : ob s = hk.obs s.abs := He.obsDG_eq (HandSHeadRun.getT_eq s)
def loose0 : List Str := ["PairsError", "NoOrder", "asked_order", "turns_from", "after_services", "_law_cell_at", "_law_draws", "_law_order", "_law_are_places", "_law_walked", "_law_many", "_law_right"]
def loose : List Str := loose0
theorem run (w : World) : HandSHeadRun.RunEq R (PySem.W.view R.prog [15]) hk ob 1040 loose w := by
  intro os
  kernel_rfl
theorem facts {P : Program} {w : World} {K : PySem.W.Frag} {h : Heap} {mg : Str → Option Value} {f : Addr} (X : K.In h) (G : h.Ns mainGlobals mg) (hfa : mg ("law" : Str) = some (.ref f)) (c : He.SaysD fa fn K) :
    ∃ fd : FuncData, (∀ (s : Shared) (v : Value), BindsTo s fd ⟨[v], []⟩ [("_law_script", v)]) ∧ ∀ base : Heap, K.In base → base.Ns mainGlobals mg → FnOk P w K mg base CX0 4 f fd ["_law_script"] (sp K a_law) := by
  obtain ⟨fd_l_cell_at, F_l_cell_at⟩ := c.def_ 0 (d := d_l_cell_at) rfl
  have g_l_cell_at : mg "_law_cell_at" = some (.ref (He.fAd K ("_law_cell_at", none))) := He.glo_ok X G (c.fact 0 (f := .glo "_law_cell_at") rfl)
  obtain ⟨fd_l_draws, F_l_draws⟩ := c.def_ 1 (d := d_l_draws) rfl
  have g_l_draws : mg "_law_draws" = some (.ref (He.fAd K ("_law_draws", none))) := He.glo_ok X G (c.fact 1 (f := .glo "_law_draws") rfl)
  obtain ⟨fd_l_order, F_l_order⟩ := c.def_ 2 (d := d_l_order) rfl
  have g_l_order : mg "_law_order" = some (.ref (He.fAd K ("_law_order", none))) := He.glo_ok X G (c.fact 2 (f := .glo "_law_order") rfl)
  obtain ⟨fd_asked_order, F_asked_order⟩ := c.def_ 3 (d := d_asked_order) rfl
  have g_asked_order : mg "asked_order" = some (.ref (He.fAd K ("asked_order", none))) := He.glo_ok X G (c.fact 3 (f := .glo "asked_order") rfl)
  obtain ⟨fd_turns_from, F_turns_from⟩ := c.def_ 4 (d := d_turns_from) rfl
  have g_turns_from : mg "turns_from" = some (.ref (He.fAd K ("turns_from", none))) := He.glo_ok X G (c.fact 4 (f := .glo "turns_from") rfl)
  obtain ⟨fd_after_services, F_after_services⟩ := c.def_ 5 (d := d_after_services) rfl
  have g_after_services : mg "after_services" = some (.ref (He.fAd K ("after_services", none))) := He.glo_ok X G (c.fact 5 (f := .glo "after_services") rfl)
  obtain ⟨fd_l_are_places, F_l_are_places⟩ := c.def_ 6 (d := d_l_are_places) rfl
  have g_l_are_places : mg "_law_are_places" = some (.ref (He.fAd K ("_law_are_places", none))) := He.glo_ok X G (c.fact 6 (f := .glo "_law_are_places") rfl)
  obtain ⟨fd_l_walked, F_l_walked⟩ := c.def_ 7 (d := d_l_walked) rfl
  have g_l_walked : mg "_law_walked" = some (.ref (He.fAd K ("_law_walked", none))) := He.glo_ok X G (c.fact 7 (f := .glo "_law_walked") rfl)
  obtain ⟨fd_l_right, F_l_right⟩ := c.def_ 8 (d := d_l_right) rfl
  have g_l_right : mg "_law_right" = some (.ref (He.fAd K ("_law_right", none))) := He.glo_ok X G (c.fact 8 (f := .glo "_law_right") rfl)
  obtain ⟨fd_l_many, F_l_many⟩ := c.def_ 9 (d := d_l_many) rfl
  have g_l_many : mg "_law_many" = some (.ref (He.fAd K ("_law_many", none))) := He.glo_ok X G (c.fact 9 (f := .glo "_law_many") rfl)
  obtain ⟨fd_law, F_law⟩ := c.def_ 10 (d := d_law) rfl
  have g_law : mg "law" = some (.ref (He.fAd K ("law", none))) := He.glo_ok X G (c.fact 10 (f := .glo "law") rfl)
  have z_len : mg "len" = none := He.free_ok X G (c.fact 11 (f := .free "len") rfl)
  have z_range : mg "range" = none := He.free_ok X G (c.fact 12 (f := .free "range") rfl)
  have z_list : mg "list" = none := He.free_ok X G (c.fact 13 (f := .free "list") rfl)
  have z_sorted : mg "sorted" = none := He.free_ok X G (c.fact 14 (f := .free "sorted") rfl)
  have z_isinstance : mg "isinstance" = none := He.free_ok X G (c.fact 15 (f := .free "isinstance") rfl)
  have z_bool : mg "bool" = none := He.free_ok X G (c.fact 16 (f := .free "bool") rfl)
  have z_int : mg "int" = none := He.free_ok X G (c.fact 17 (f := .free "int") rfl)
  have e := hfa.symm.trans g_law
  cases e
  have b := FunD.bindsA (ps := ["_law_script"]) F_law fun _ _ _ _ _ _ us hl => match us, hl with | [_], _ => rfl
  refine ⟨fd_law, fun s v => b s [v] rfl, fun base _ _ => ?_⟩
  have C_l_cell_at := ok_l_cell_at (P := P) (w := w) (base := base) F_l_cell_at g_l_cell_at z_len
  have C_l_draws := ok_l_draws (P := P) (w := w) (base := base) F_l_draws g_l_draws z_range z_len
  have C_l_order := ok_l_order (P := P) (w := w) (base := base) F_l_order g_l_order C_l_draws z_list z_range z_len
  have C_asked_order := ok_asked_order (P := P) (w := w) (base := base) F_asked_order g_asked_order z_len z_sorted z_list z_range
  have C_turns_from := ok_turns_from (P := P) (w := w) (base := base) F_turns_from g_turns_from 
  have C_after_services := ok_after_services (P := P) (w := w) (base := base) F_after_services g_after_services C_asked_order C_turns_from z_range z_len
  have C_l_are_places := ok_l_are_places (P := P) (w := w) (base := base) F_l_are_places g_l_are_places z_isinstance z_list z_sorted z_range z_bool
  have C_l_walked := ok_l_walked (P := P) (w := w) (base := base) F_l_walked g_l_walked z_list z_range z_len
  have C_l_right := ok_l_right (P := P) (w := w) (base := base) F_l_right g_l_right C_after_services C_l_are_places C_l_walked z_len z_list z_range
  have C_l_many := ok_l_many (P := P) (w := w) (base := base) F_l_many g_l_many 
  exact ok_law_fn (P := P) (w := w) (base := base) F_law g_law C_l_cell_at C_l_order C_l_right C_l_many z_range z_len z_int
theorem draws_ok {cell : Int} {sizes : List Int} (h1 : ∀ n ∈ sizes, 0 < n ∧ n < 100000000) (h2 : sizes.length ≤ 1000) : Ok (m_l_draws cell sizes) (Drawn sizes) := by
  unfold m_l_draws
  have hz := szl
  refine ok_lt fun f hf => ok_lt fun n _ => ok_chk ⟨by omega, by omega⟩ (ok_bnd (P := fun b => Drawn sizes b.1) (ok_foldO (fun i b => b.1.length = i ∧ ∀ (j : Nat) (d n : Int), b.1[j]? = some d → sizes[j]? = some n → 0 ≤ d ∧ d < n) ⟨by rw [hf]; rfl, by rw [hf]; simp⟩ ?_ ?_) ?_)
  · rintro i ⟨b1, b2⟩ x hx ⟨hl, hm⟩
    obtain ⟨e1, e2⟩ := rng_at hx
    dsimp only at hl hm ⊢
    have hi : i < sizes.length := by omega
    have hs : sizes[i]? = some sizes[i] := List.getElem?_eq_getElem hi
    obtain ⟨p1, p2⟩ := h1 sizes[i] (List.getElem_mem hi)
    have hat : atI sizes x = some sizes[i] := by
      rw [e1, Int.zero_add, atI_nat hs]
    refine ok_chk (mul_l (by omega) (by omega)) (ok_lt fun m1 _ => ok_lt fun m2 _ => ?_)
    refine ok_bnd (P := fun _ => True) (ok_ite (fun _ => ok_lt fun _ _ => ok_some trivial) (fun _ => ok_some trivial)) fun v _ => ?_
    refine ok_bnd (P := fun s => s = sizes[i]) (ok_eq hat rfl) fun s hs1 => ?_
    subst hs1
    refine ok_chk p1 (ok_chk (by omega) (ok_lt fun y hy => ok_bnd (P := fun s => s = sizes[i]) (ok_eq hat rfl) fun s hs1 => ?_))
    subst hs1
    refine ok_chk (div_small p1 (by omega)) (ok_lt fun w _ => ok_some ?_)
    subst hy
    refine ⟨by rw [List.length_append, hl]; rfl, fun j d n hd hn => ?_⟩
    by_cases hj : j < i
    · rw [List.getElem?_append_left (by omega)] at hd
      exact hm j d n hd hn
    · by_cases hji : j = i
      · subst hji
        rw [List.getElem?_append_right (by omega), hl, Nat.sub_self] at hd
        rw [hs] at hn
        cases hn
        have e : v % sizes[j] = d := Option.some.inj hd
        rw [← e]
        exact ⟨Int.emod_nonneg _ (by omega), Int.emod_lt_of_pos _ p1⟩
      · rw [List.getElem?_eq_none (by rw [List.length_append, hl, List.length_singleton]; omega)] at hd
        cases hd
  · rintro b ⟨hl, hm⟩
    exact ⟨by rw [hl, rng_len_nn (by omega)]; omega, hm⟩
  · exact fun b hb => ok_some hb
theorem asked_ok {o : List Int} (h : IsOrd o) : m_asked_order o = some true := by
  unfold m_asked_order
  have h1 := h.l1
  have h2 := h.l2
  rw [show decide ((o.length : Int) < 1) = false from decide_eq_false (by omega), show decide ((40 : Int) < (o.length : Int)) = false from decide_eq_false (by omega), h.sort]
  show bnd (chk _ (some (!decide (rng 0 ↑o.length = rng 0 ↑o.length)))) _ = _
  rw [chk_pos ⟨by omega, by omega⟩, decide_eq_true rfl]
  rfl
theorem turns_ok {o : List Int} (h : IsOrd o) {p : Int} (h0 : 0 ≤ p) (h1 : p < o.length) : Ok (m_turns_from o p) (fun t => ∃ L : Nat, 1 ≤ L ∧ L ≤ o.length ∧ it o L p = p ∧ (∀ k, 0 < k → k < L → it o k p ≠ p) ∧ t = (List.range L).map (fun k => it o k p)) := by
  unfold m_turns_from
  have hz := szl
  have hl := h.l2
  obtain ⟨L, L1, L2, L3, L4⟩ := h.cycle h0 h1
  refine ok_lt fun f hf => ok_bnd (P := fun x => x = nxt o p) (ok_eq (nxt_at h0 h1) rfl) fun x hx => ok_lt fun y hy => ?_
  subst hf hx hy
  refine ok_bnd (P := fun b => b.1 = (List.range L).map (fun k => it o k p)) (ok_whileO (fun b => ∃ k : Nat, 1 ≤ k ∧ k ≤ L ∧ b.1 = (List.range k).map (fun k => it o k p) ∧ b.2 = it o k p) (fun b => L - b.1.length) ?_ _ _ ⟨1, Nat.le_refl _, L1, rfl, rfl⟩ ?_) fun b hb => ok_some ⟨L, L1, L2, L3, L4, hb⟩
  · rintro ⟨b1, b2⟩ ⟨k, k1, k2, e1, e2⟩
    dsimp only at e1 e2 ⊢
    subst e1 e2
    refine ok_some ?_
    split
    · rename_i hc
      rw [Bool.not_eq_true', decide_eq_false_iff_not] at hc
      have hk : k < L := Nat.lt_of_le_of_ne k2 (fun e => hc (e ▸ L3))
      obtain ⟨g0, g1⟩ := h.it h0 h1 k
      refine ok_chk (by rw [List.length_map, List.length_range]; omega) (ok_lt fun f hf => ok_bnd (P := fun x => x = nxt o (it o k p)) (ok_eq (nxt_at g0 g1) rfl) fun x hx => ok_lt fun y hy => ok_some ?_)
      subst hf hx hy
      refine ⟨⟨k + 1, by omega, hk, ?_, rfl⟩, ?_⟩
      · rw [List.range_succ, List.map_append]; rfl
      · simp only [List.length_append, List.length_map, List.length_range, List.length_singleton]; omega
    · rename_i hc
      have hc : it o k p = p := by
        rw [Bool.not_eq_true', decide_eq_false_iff_not, Classical.not_not] at hc; exact hc
      have : k = L := Nat.le_antisymm k2 (Nat.le_of_not_lt fun hlt => L4 k k1 hlt hc)
      subst this
      rfl
  · rw [fuel_eq]
    show L - 1 < 1000000
    omega
theorem take_succ_of {τ : Type} {l : List τ} {i : Nat} {x : τ} (h : l[i]? = some x) : l.take i ++ [x] = l.take (i + 1) := by
  rw [List.take_add_one, h]; rfl
theorem after_ok {o : List Int} (h : IsOrd o) {m : Int} (m0 : 0 ≤ m) : m_after_services o m = some (srv o m.toNat) := by
  refine Ok.eq ?_
  unfold m_after_services
  have hz := szl
  have hl := h.l2
  rw [asked_ok h]
  refine ok_bnd (ok_some (P := fun _ => True) trivial) fun _ _ => ok_lt fun f hf => ok_chk ⟨by omega, by omega⟩ (ok_bnd (P := fun b => b = srv o m.toNat) (ok_foldO (fun i b => b = (srv o m.toNat).take i) (by rw [hf]; rfl) ?_ ?_) fun b hb => ok_some hb)
  · rintro i b x hx e
    obtain ⟨e1, e2⟩ := rng_at hx
    rw [Int.zero_add] at e1
    refine ok_bnd (turns_ok h (p := x) (by omega) (by omega)) fun t ⟨L, L1, L2, L3, _, ht⟩ => ok_lt fun t' ht' => ?_
    subst ht' ht
    have hlen : (((List.range L).map (fun k => it o k x)).length : Int) = L := by rw [List.length_map, List.length_range]
    rw [hlen]
    have hm1 := Int.emod_nonneg m (b := (L : Int)) (by omega)
    have hm2 := Int.emod_lt_of_pos m (b := (L : Int)) (by omega)
    have hm3 : (m % (L : Int)).toNat = m.toNat % L := by
      have h5 : m = (m.toNat : Int) := by omega
      conv => lhs; rw [h5, ← Int.natCast_emod, Int.toNat_natCast]
    refine ok_chk (by omega) (ok_bnd (P := fun z => z = it o m.toNat x) (ok_atI hm1 (by rw [hlen]; exact hm2) fun z hz1 => ?_) fun z hz2 => ?_)
    · rw [List.getElem?_map, List.getElem?_range (by omega), Option.map_some] at hz1
      rw [← Option.some.inj hz1, hm3]
      exact it_mod L3 m.toNat
    · subst hz2 e
      have hs := srv_len o m.toNat
      have ht := List.length_take_le i (srv o m.toNat)
      refine ok_chk (by omega) (ok_lt fun f hf => ok_some ?_)
      subst hf
      refine take_succ_of ?_
      have hx0 := srv_at (o := o) (m := m.toNat) (x := x) (by omega) (by omega)
      rw [atI_get (by omega) (by omega)] at hx0
      rw [← hx0, show x.toNat = i by omega]
  · rintro b rfl
    rw [rng_len_nn (by omega), Int.toNat_natCast, List.take_of_length_le (by rw [srv_len]; exact Nat.le_refl _)]
theorem places_ok {f : List Int} {n : Int} (h0 : 0 ≤ n) (h1 : n ≤ 40) (h : f.Perm (rng 0 n)) : m_l_are_places f n = some true := by
  unfold m_l_are_places
  rw [sort_of_perm h (rng_sorted _ _)]
  show bnd (chk _ (some (!decide (rng 0 n = rng 0 n)))) _ = _
  rw [chk_pos ⟨by omega, by omega⟩, decide_eq_true rfl]
  show chk _ _ = _
  have e : f.filter (fun _ => false) = [] := List.filter_eq_nil_iff.mpr (by simp)
  rw [e]
  rw [chk_pos (by rw [szl]; exact Nat.zero_le _)]
  rfl
theorem order_ok {cell most : Int} (h1 : 1 ≤ most) (h2 : most ≤ 40) : Ok (m_l_order cell most) (fun o => IsOrd o ∧ o.length ≤ most) := by
  unfold m_l_order
  have hz := szl
  have e : repl most [most] = List.replicate most.toNat most := repl_one _ _
  rw [e]
  refine ok_chk ?_ (ok_chk ?_ (ok_bnd (draws_ok (fun n hn => ?_) ?_) fun ds hds => ok_lt fun ds' h => ?_))
  · first | exact ⟨by omega, by simp; omega⟩ | (unfold RepOk; simp; omega)
  · rw [List.length_replicate]; show 1 + _ ≤ _; omega
  · have : n = most := by
      rcases List.mem_append.mp hn with h | h
      · exact List.mem_singleton.mp h
      · exact (List.mem_replicate.mp h).2
    omega
  · rw [List.length_append, List.length_replicate]; show 1 + _ ≤ _; omega
  · subst h
    have hk : ∀ k : Nat, k ≤ most.toNat → ([most] ++ List.replicate most.toNat most)[k]? = some most := fun k hk => by
      have : [most] ++ List.replicate most.toNat most = List.replicate (most.toNat + 1) most := by rw [List.replicate_succ]; rfl
      rw [this, List.getElem?_replicate, if_pos (by omega)]
    refine ok_bnd (ok_draw hds 0 (hk 0 (Nat.zero_le _)) (Q := fun d => 0 ≤ d ∧ d < most) fun d a b => ⟨a, b⟩) fun d hd => ok_lt fun n hn => ?_
    have hll : (rng 0 n).length = n.toNat := rng_len_nn (by omega)
    refine ok_chk ⟨by omega, by omega⟩ (ok_lt fun left hleft => ok_chk ⟨by omega, by omega⟩ ?_)
    subst hleft
    refine ok_bnd (ok_popAll (fun l x hne hl hx => ?_) (Nat.le_refl _) (by omega)) fun ys ⟨y1, r, y2⟩ => ok_chk (by omega) (ok_some ?_)
    · obtain ⟨x0, x1⟩ := mem_rng.mp hx
      obtain ⟨k, rfl⟩ : ∃ k : Nat, x = (k : Int) := ⟨x.toNat, by omega⟩
      have hp : 0 < l.length := List.length_pos_iff.mpr hne
      have := ok_draw hds (1 + k) (hk _ (by omega)) (Q := fun d => 0 ≤ d ∧ d < most) fun d a b => ⟨a, b⟩
      rw [show ((1 + k : Nat) : Int) = 1 + (k : Int) by omega] at this
      exact ok_bnd this fun d hd => ok_chk (by omega) (ok_some ⟨Int.emod_nonneg _ (by omega), Int.emod_lt_of_pos _ (by omega)⟩)
    · have hr : r = [] := by
        have := y2.length_eq
        rw [List.length_append, y1] at this
        exact List.length_eq_zero_iff.mp (by omega)
      subst hr
      rw [List.append_nil] at y2
      refine ⟨⟨by omega, by omega, ?_⟩, by omega⟩
      rw [show (ys.length : Int) = n by omega]
      exact y2
theorem map_it {o : List Int} {m : Nat} {ys : List Int} (h : ∀ y ∈ ys, 0 ≤ y ∧ y < o.length) : mapO (fun x => bnd (atI (srv o m) x) fun a => some a) ys = some (ys.map (it o m)) := by
  refine mapO_eq fun x hx => ?_
  rw [srv_at (h x hx).1 (h x hx).2]; rfl
theorem walked_ok {o : List Int} (h : IsOrd o) {m : Int} (m0 : 0 ≤ m) (m1 : m < 14) : m_l_walked o m = some (srv o m.toNat) := by
  refine Ok.eq ?_
  unfold m_l_walked
  have hz := szl
  have hl := h.l2
  refine ok_chk ⟨by omega, by omega⟩ (ok_lt fun f hf => ok_chk ⟨by omega, by omega⟩ (ok_bnd (P := fun b => b = srv o m.toNat) (ok_foldO (fun i b => b = srv o i) (by rw [hf, srv_zero]) ?_ ?_) fun b hb => ok_some hb))
  · rintro i b x hx rfl
    have e : mapO (fun x => bnd (atI o x) fun a => some a) (srv o i) = some (srv o (i + 1)) := by
      rw [← Nat.add_comm 1 i, ← srv_add i 1]
      have := map_it (o := o) (m := 1) (ys := srv o i) (fun y hy => srv_mem h hy)
      rw [srv_one] at this
      exact this
    refine ok_bnd (P := fun y => y = srv o (i + 1)) (ok_eq e rfl) fun y hy => ok_chk (by rw [hy, srv_len]; omega) (ok_lt fun z hz => ok_some (by rw [hz, hy]))
  · rintro b rfl
    rw [rng_len_nn m0]
theorem right_ok {o : List Int} (h : IsOrd o) {a b : Int} (a0 : 0 ≤ a) (b0 : 0 ≤ b) : m_l_right o a b = some true := by
  refine Ok.eq ?_
  unfold m_l_right
  have hz := szl
  have hl := h.l2
  have e0 : (a + b).toNat = b.toNat + a.toNat := by omega
  have hp : ∀ m, (srv o m).length ≤ sizeLine := fun m => by rw [srv_len]; omega
  rw [after_ok h a0, after_ok h b0, after_ok h (show 0 ≤ a + b by omega), after_ok h (show (0 : Int) ≤ 0 by decide), after_ok h (show (0 : Int) ≤ 1 by decide), e0]
  refine ok_bnd (P := fun x => x = _) (ok_some rfl) fun x h => ok_lt fun f1 h' => ?_
  subst h h'
  refine ok_bnd (P := fun x => x = _) (ok_some rfl) fun x h => ok_lt fun f2 h' => ?_
  subst h h'
  refine ok_bnd (P := fun x => x = _) (ok_some rfl) fun x h => ok_lt fun f3 h' => ?_
  subst h h'
  refine ok_bnd (P := fun q => q = .nx ()) (foldF_ok (fun x hx => ?_) rfl) fun q hq => ?_
  · have : x.Perm (rng 0 o.length) := by
      simp only [List.mem_cons, List.not_mem_nil, or_false] at hx
      rcases hx with rfl | rfl | rfl <;> exact srv_perm h _
    rw [places_ok (by omega) (by omega) this]
    exact ok_some rfl
  · subst hq
    refine ok_bnd (P := fun y => y = srv o (b.toNat + a.toNat)) (ok_eq (by rw [map_it (fun y hy => srv_mem h hy), srv_add]) rfl) fun y hy => ok_chk (by rw [hy]; exact hp _) ?_
    subst hy
    rw [decide_eq_true rfl]
    refine ok_bnd (P := fun c => c = false) (ok_orO (fun _ => ok_bnd (P := fun y => y = srv o (b.toNat + a.toNat)) (ok_eq (by rw [map_it (fun y hy => srv_mem h hy), srv_add, Nat.add_comm]) rfl) fun y hy => ok_chk (by rw [hy]; exact hp _) (ok_some (by rw [hy, decide_eq_true rfl]; rfl))) (fun h => Bool.noConfusion h)) fun c hc => ?_
    subst hc
    refine ok_bnd (P := fun c => c = false) (ok_andO (fun h5 => ok_bnd (P := fun y => y = srv o a.toNat) (ok_eq (walked_ok h a0 (of_decide_eq_true h5)) rfl) fun y hy => ok_some (by rw [hy, decide_eq_true rfl]; rfl)) (fun _ => rfl)) fun c hc => ?_
    subst hc
    refine ok_ite (fun h => Bool.noConfusion h) fun _ => ok_lt fun _ _ => ok_lt fun kept hk => ok_bnd (P := fun x => x = srv o 0) (ok_some rfl) fun x hx => ok_chk ⟨by omega, by omega⟩ (ok_bnd (P := fun c => c = true) (ok_andO (fun _ => ok_bnd (P := fun x => x = srv o 1) (ok_some rfl) fun y hy => ok_andO (fun _ => ok_some (by rw [hk]; exact decide_eq_true rfl)) (fun hf => ?_)) (fun hf => ?_)) fun c hc => ok_some hc)
    · exfalso
      rw [hy, srv_one, decide_eq_true rfl] at hf
      exact Bool.noConfusion hf
    · exfalso
      rw [hx, srv_zero, decide_eq_true rfl] at hf
      exact Bool.noConfusion hf
theorem cell_ok (sc : List Int) {k : Int} (h : 0 ≤ k) : Ok (m_l_cell_at sc k) (fun _ => True) := by
  unfold m_l_cell_at
  exact ok_ite (fun h2 => ok_ret (ok_atI h (of_decide_eq_true h2) fun _ _ => trivial)) (fun _ => ok_some trivial)
theorem many_ok (c far : Int) : Ok (m_l_many c far) (fun m => 0 ≤ m) := by
  unfold m_l_many
  refine ok_ite (fun _ => ok_some (Int.emod_nonneg _ (by omega))) (fun _ => ok_some (Int.emod_nonneg _ (by decide)))
theorem law_true : ∀ ns : List Int, ns.length ≤ 63 → a_law (ns, ()) = some true := by
  intro ns hn
  refine Ok.eq ?_
  show Ok (m_law ns) _
  unfold m_law
  have hz := szl
  have hc := cut_len_le ns none (some 59)
  refine ok_chk ⟨by omega, by omega⟩ (ok_bnd (P := fun q => q = .nx ()) (foldF_ok (fun x hx => ?_) rfl) fun q hq => by subst hq; exact ok_some rfl)
  obtain ⟨x0, x1⟩ := mem_rng.mp hx
  refine ok_bnd (cell_ok ns (by omega)) fun c _ => ok_lt fun c' _ => ok_bnd (P := fun m => 1 ≤ m ∧ m ≤ 40) ?_ fun m ⟨m0, m1⟩ => ok_bnd (order_ok m0 m1) fun o ho => ok_lt fun o' ho' => ?_
  · split
    · exact ok_some ⟨by decide, by decide⟩
    · exact ok_some ⟨by decide, by decide⟩
  subst ho'
  refine ok_bnd (cell_ok ns (by omega)) fun a _ => ok_lt fun a' _ => ok_bnd (cell_ok ns (by omega)) fun b _ => ok_lt fun b' _ => ok_bnd (many_ok _ _) fun ma ha => ok_bnd (many_ok _ _) fun mb hb => ?_
  rw [right_ok ho.1 ha hb]
  exact ok_some rfl

end K41

open PySem PySem.W PySem.Calls PyProof.Rows
set_option maxHeartbeats 0 in
theorem PySem.Challenge.cw_deskpairs_k41_services_add_up_holds : PySem.Challenge.rw_deskpairs_k41_services_add_up.Holds := by
  w_on; o_law
  refine HandSHeadRun.head_any (r := OpenLaw.row PySem.Challenge.rw_deskpairs_k41_services_add_up) (q := view (OpenLaw.row PySem.Challenge.rw_deskpairs_k41_services_add_up).prog [15]) (H := K41.hk) (ob := K41.ob) (M := 1040) (loose := K41.loose) (d := HandSHeadRun.topDef (OpenLaw.row PySem.Challenge.rw_deskpairs_k41_services_add_up).prog 15) (kwd := []) K41.ob_eq
    (by kernel_rfl) (fun s => by kernel_rfl) K41.run (by kernel_rfl) (by kernel_rfl) (by kernel_rfl) (by rfl) (by first | assumption | decide +kernel) (by decide +kernel) ⟨rfl, rfl, rfl, rfl, rfl, by decide +kernel⟩ ?hw ?hc
  case hw => w_witness2
  case hc =>
    refine L2.walk_ofE (l := PySem.Challenge.rw_deskpairs_k41_services_add_up) (n := 63) (k := 4) (x := "_law_script") (CX := L2.CX0) rfl (by decide) (by kernel_rfl) ⟨rfl, by decide, by decide⟩ ?F (fun _ _ _ _ z => z)
    intro w mg fa h Y G hmg0
    obtain ⟨K, KX, c⟩ := Y
    have hmg : mg ("law" : PySem.Str) = some (.ref fa) := by
      have e : (HandSHeadRun.topDef (OpenLaw.row PySem.Challenge.rw_deskpairs_k41_services_add_up).prog 15).name = ("law" : PySem.Str) := by kernel_rfl
      rw [← e]
      exact hmg0
    obtain ⟨fd, hb, hF⟩ := K41.facts (P := (PySem.Challenge.rw_deskpairs_k41_services_add_up).prog) (w := w) KX G hmg c
    exact ⟨K, fd, Dy.spLaw K, KX, hb, fun H a ns hl _ hS => ⟨a, ns, rfl, hS, hl, fun _ => rfl⟩, fun base h1 h2 => Dy.law_of (hF base h1 h2) K41.law_true⟩

