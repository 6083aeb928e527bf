import PyProof.Rows.All
import Wide.All
import OpenK.AllK
import Wide.FinOn
import HandS.ForMost
import HandS.Codes
import HandS.Wide
import HandS.SortInts
import HandS.Conv
import HandS.IsInst
import HandS.Defaults
import HandS.Head0
import HandS.Head1
import HandS.Head2
import HandS.HeadEnd
import HandS.HeadHook1
import HandS.HeadHook2
import HandS.Zip
import HandS.Exc
import HandS.TryOnly
import HandS.ExcOwn
import HandS.WordsExc
import HandS.ExcInit
import HandS.ExcIs
import HandS.ExcField
import HandS.Style
import HandS.TupAny
import HandS.More
import HandS.Replace
import PySem.Challenge.RW_deskpairs_k40_orders_refused
set_option Elab.async false
set_option linter.all false
set_option maxRecDepth 100000
namespace Dy
open PySem PySem.Spec PyProof.Rows L2

structure S where
  F : Hp
  H : Hp
  sub : ∀ a o, F a = some o → H a = some o
abbrev Fle (F F' : Hp) : Prop := ∀ a o, F a = some o → F' a = some o
theorem Fle.refl (F : Hp) : Fle F F := fun _ _ h => h
theorem Fle.trans {F G I : Hp} (a : Fle F G) (b : Fle G I) : Fle F I := fun x o h => b x o (a x o h)
structure Ex (s t : S) : Prop where
  f : Fle s.F t.F
  h : ∀ a o, s.H a = some o → t.H a = some o
  n : ∀ a o, s.H a = some o → s.F a = none → t.F a = none
theorem Ex.refl (s : S) : Ex s s := ⟨fun _ _ h => h, fun _ _ h => h, fun _ _ _ h => h⟩
theorem Ex.trans {s t u : S} (a : Ex s t) (b : Ex t u) : Ex s u :=
  ⟨fun x o h => b.f x o (a.f x o h), fun x o h => b.h x o (a.h x o h), fun x o h n => b.n x o (a.h x o h) (a.n x o h n)⟩
theorem fr_back {s t : S} (e : Ex s t) {p : Addr} (h : t.H p = none) : s.H p = none := by
  cases q : s.H p with
  | none => rfl
  | some o => rw [e.h p o q] at h; cases h
theorem fF {s : S} {p : Addr} (h : s.H p = none) : s.F p = none := by
  cases q : s.F p with
  | none => rfl
  | some o => rw [s.sub p o q] at h; cases h
def S.newF (s : S) (p : Addr) (o : HO) (h : s.H p = none) : S := ⟨upd s.F p o, upd s.H p o, fun a u q => by
  unfold upd at q ⊢
  split
  · rename_i e; rw [if_pos e] at q; exact q
  · rename_i e; rw [if_neg e] at q; exact s.sub a u q⟩
def S.newO (s : S) (p : Addr) (o : HO) (h : s.H p = none) : S := ⟨s.F, upd s.H p o, fun a u q => by
  rw [upd_ne (ne_of_none (s.sub a u q) h)]; exact s.sub a u q⟩
def S.put (s : S) (p : Addr) (o : HO) (h : s.F p = none) : S := ⟨s.F, upd s.H p o, fun a u q => by
  rw [upd_ne (ne_of_none q h)]; exact s.sub a u q⟩
theorem Ex.newF {s : S} {p : Addr} {o : HO} (h : s.H p = none) : Ex s (s.newF p o h) :=
  ⟨fun a u q => by show upd s.F p o a = some u; rw [upd_ne (ne_of_none (s.sub a u q) h)]; exact q,
   fun a u q => by show upd s.H p o a = some u; rw [upd_ne (ne_of_none q h)]; exact q,
   fun a u q n => by show upd s.F p o a = none; rw [upd_ne (ne_of_none q h)]; exact n⟩
theorem Ex.newO {s : S} {p : Addr} {o : HO} (h : s.H p = none) : Ex s (s.newO p o h) :=
  ⟨fun a u q => q, fun a u q => by show upd s.H p o a = some u; rw [upd_ne (ne_of_none q h)]; exact q, fun a u q n => n⟩
structure Mx (P : Addr → Prop) (s t : S) : Prop where
  f : Fle s.F t.F
  h : ∀ a o, s.H a = some o → ¬ P a → t.H a = some o
  n : ∀ a o, s.H a = some o → s.F a = none → t.F a = none
  d : ∀ a o, s.H a = some o → ∃ u, t.H a = some u
theorem Ex.mx {P : Addr → Prop} {s t : S} (e : Ex s t) : Mx P s t := ⟨e.f, fun a o h _ => e.h a o h, e.n, fun a o h => ⟨o, e.h a o h⟩⟩
theorem Mx.trans {P : Addr → Prop} {s t u : S} (a : Mx P s t) (b : Mx P t u) : Mx P s u :=
  ⟨fun x o h => b.f x o (a.f x o h), fun x o h n => b.h x o (a.h x o h n) n,
   fun x o h n => by obtain ⟨v, hv⟩ := a.d x o h; exact b.n x v hv (a.n x o h n),
   fun x o h => by obtain ⟨v, hv⟩ := a.d x o h; exact b.d x v hv⟩
theorem Mx.put {s : S} {p : Addr} {o : HO} (h : s.F p = none) : Mx (· = p) s (s.put p o h) :=
  ⟨fun a u q => q, fun a u q n => by show upd s.H p o a = some u; rw [upd_ne n]; exact q, fun a u q n => n,
   fun a u q => by
    by_cases e : a = p
    · exact ⟨o, by rw [e]; exact upd_same⟩
    · exact ⟨u, by show upd s.H p o a = some u; rw [upd_ne e]; exact q⟩⟩
theorem Mx.fr_back {P : Addr → Prop} {s t : S} (e : Mx P s t) {p : Addr} (h : t.H p = none) : s.H p = none := by
  cases q : s.H p with
  | none => rfl
  | some o => obtain ⟨u, z⟩ := e.d p o q; rw [z] at h; cases h
theorem Ex.mu {s t u : S} {P : Addr → Prop} (a : Ex s t) (b : Mx P t u) (h : ∀ p, P p → s.H p = none) : Ex s u :=
  ⟨fun x o q => b.f x o (a.f x o q), fun x o q => b.h x o (a.h x o q) fun z => (by rw [h x z] at q; cases q), fun x o q n => b.n x o (a.h x o q) (a.n x o q n)⟩
theorem Ex.mu1 {s t u : S} {p : Addr} (a : Ex s t) (b : Mx (· = p) t u) (h : s.H p = none) : Ex s u := a.mu b fun _ e => e ▸ h

class Enc (α : Type) where
  rep : PySem.W.Frag → Hp → V → α → Prop
  mono : ∀ {K : PySem.W.Frag} {F F' : Hp} {v : V} {x : α}, Fle F F' → rep K F v x → rep K F' v x
open Enc (rep)
def Reps {α : Type} [Enc α] (K : PySem.W.Frag) (F : Hp) : List V → List α → Prop
  | [], [] => True
  | v :: vs, x :: xs => rep K F v x ∧ Reps K F vs xs
  | _, _ => False
section
variable {α β : Type} [Enc α] [Enc β] {K : PySem.W.Frag} {F F' : Hp}
theorem Reps.mono (e : Fle F F') : ∀ {vs : List V} {xs : List α}, Reps K F vs xs → Reps K F' vs xs
  | [], [], _ => trivial
  | _ :: _, _ :: _, ⟨h, t⟩ => ⟨Enc.mono e h, Reps.mono e t⟩
  | [], _ :: _, h => h.elim
  | _ :: _, [], h => h.elim
theorem Reps.len : ∀ {vs : List V} {xs : List α}, Reps K F vs xs → vs.length = xs.length
  | [], [], _ => rfl
  | _ :: _, _ :: _, ⟨_, t⟩ => congrArg (· + 1) (Reps.len t)
  | [], _ :: _, h => h.elim
  | _ :: _, [], h => h.elim
theorem Reps.get : ∀ {vs : List V} {xs : List α} {i : Nat} {x : α}, Reps K F vs xs → xs[i]? = some x → ∃ v, vs[i]? = some v ∧ rep K F v x
  | [], [], _, _, _, e => by simp at e
  | v :: _, y :: _, 0, x, ⟨h, _⟩, e => by
    have : y = x := Option.some.inj e
    subst this
    exact ⟨v, rfl, h⟩
  | _ :: vs, _ :: xs, i + 1, x, ⟨_, t⟩, e => by
    obtain ⟨v, h1, h2⟩ := Reps.get (i := i) t (by simpa using e)
    exact ⟨v, by simpa using h1, h2⟩
  | [], _ :: _, _, _, h, _ => h.elim
  | _ :: _, [], _, _, h, _ => h.elim
theorem Reps.get' : ∀ {vs : List V} {xs : List α} {i : Nat} {v : V}, Reps K F vs xs → vs[i]? = some v → ∃ x, xs[i]? = some x ∧ rep K F v x
  | [], [], _, _, _, e => by simp at e
  | v :: _, y :: _, 0, w, ⟨h, _⟩, e => by
    have : v = w := Option.some.inj e
    subst this
    exact ⟨y, rfl, h⟩
  | _ :: vs, _ :: xs, i + 1, w, ⟨_, t⟩, e => by
    obtain ⟨x, h1, h2⟩ := Reps.get' (i := i) t (by simpa using e)
    exact ⟨x, by simpa using h1, h2⟩
  | [], _ :: _, _, _, h, _ => h.elim
  | _ :: _, [], _, _, h, _ => h.elim
theorem Reps.app : ∀ {vs ws : List V} {xs ys : List α}, Reps K F vs xs → Reps K F ws ys → Reps K F (vs ++ ws) (xs ++ ys)
  | [], _, [], _, _, t => t
  | _ :: _, _, _ :: _, _, ⟨h, t⟩, u => ⟨h, Reps.app t u⟩
  | [], _, _ :: _, _, h, _ => h.elim
  | _ :: _, _, [], _, h, _ => h.elim
theorem Reps.snoc {vs : List V} {xs : List α} {v : V} {x : α} (h : Reps K F vs xs) (r : rep K F v x) : Reps K F (vs ++ [v]) (xs ++ [x]) := h.app ⟨r, trivial⟩
theorem Reps.take : ∀ {vs : List V} {xs : List α} (n : Nat), Reps K F vs xs → Reps K F (vs.take n) (xs.take n)
  | _, _, 0, _ => by rw [List.take_zero, List.take_zero]; trivial
  | [], [], _ + 1, _ => trivial
  | _ :: _, _ :: _, n + 1, ⟨h, t⟩ => ⟨h, Reps.take n t⟩
  | [], _ :: _, _ + 1, h => h.elim
  | _ :: _, [], _ + 1, h => h.elim
theorem Reps.drop : ∀ {vs : List V} {xs : List α} (n : Nat), Reps K F vs xs → Reps K F (vs.drop n) (xs.drop n)
  | _, _, 0, h => h
  | [], [], _ + 1, _ => trivial
  | _ :: _, _ :: _, n + 1, ⟨_, t⟩ => Reps.drop n t
  | [], _ :: _, _ + 1, h => h.elim
  | _ :: _, [], _ + 1, h => h.elim
theorem Reps.set : ∀ {vs : List V} {xs : List α} {v : V} {x : α} (i : Nat), Reps K F vs xs → rep K F v x → Reps K F (vs.set i v) (xs.set i x)
  | [], [], _, _, _, _, _ => trivial
  | _ :: _, _ :: _, _, _, 0, ⟨_, t⟩, r => ⟨r, t⟩
  | _ :: _, _ :: _, _, _, i + 1, ⟨h, t⟩, r => ⟨h, Reps.set i t r⟩
  | [], _ :: _, _, _, _, h, _ => h.elim
  | _ :: _, [], _, _, _, h, _ => h.elim
theorem Reps.erase : ∀ {vs : List V} {xs : List α} (i : Nat), Reps K F vs xs → Reps K F (vs.eraseIdx i) (xs.eraseIdx i)
  | [], [], _, _ => trivial
  | _ :: _, _ :: _, 0, ⟨_, t⟩ => t
  | _ :: _, _ :: _, i + 1, ⟨h, t⟩ => ⟨h, Reps.erase i t⟩
  | [], _ :: _, _, h => h.elim
  | _ :: _, [], _, h => h.elim
theorem Reps.rev : ∀ {vs : List V} {xs : List α}, Reps K F vs xs → Reps K F vs.reverse xs.reverse
  | [], [], _ => trivial
  | _ :: _, _ :: _, ⟨h, t⟩ => by rw [List.reverse_cons, List.reverse_cons]; exact (Reps.rev t).snoc h
  | [], _ :: _, h => h.elim
  | _ :: _, [], h => h.elim
theorem Reps.mem : ∀ {vs : List V} {xs : List α} {x : α}, Reps K F vs xs → x ∈ xs → ∃ v, v ∈ vs ∧ rep K F v x
  | v :: _, y :: _, x, ⟨h, t⟩, e => by
    rcases List.mem_cons.mp e with rfl | e
    · exact ⟨v, List.mem_cons_self, h⟩
    · obtain ⟨w, a, b⟩ := Reps.mem t e
      exact ⟨w, List.mem_cons_of_mem _ a, b⟩
  | [], _ :: _, _, h, _ => h.elim
theorem Reps.repl {v : V} {x : α} (r : rep K F v x) : ∀ n : Nat, Reps K F (List.replicate n v) (List.replicate n x)
  | 0 => trivial
  | n + 1 => ⟨r, Reps.repl r n⟩
end
instance : Enc Int := ⟨fun _ _ v x => v = .int x, fun _ h => h⟩
instance : Enc Bool := ⟨fun _ _ v x => v = .bl x, fun _ h => h⟩
instance : Enc Str := ⟨fun _ _ v x => v = .str x, fun _ h => h⟩
instance : Enc Unit := ⟨fun _ _ v _ => v = .non, fun _ h => h⟩
class Opn (α : Type) extends Enc α where
  notNon : ∀ {K : PySem.W.Frag} {F : Hp} {x : α}, ¬ rep K F .non x
instance : Opn Int := ⟨fun {K F x} h => nomatch (show V.non = V.int x from h)⟩
instance : Opn Str := ⟨fun {K F x} h => nomatch (show V.non = V.str x from h)⟩
instance : Opn Bool := ⟨fun {K F x} h => nomatch (show V.non = V.bl x from h)⟩
instance {α : Type} [Enc α] : Enc (Option α) := ⟨fun K F v x => match x with | none => v = .non | some y => rep K F v y, fun {K F F' v x} e h => by
  cases x with
  | none => exact h
  | some y => exact Enc.mono (α := α) e h⟩
theorem sql_mono {K : PySem.W.Frag} {F F' : Hp} {a : Addr} {vs : List V} (e : Fle F F') (h : SqL K F a vs) : SqL K F' a vs := by
  rcases h with (h | ⟨o, h⟩) | h
  · exact .inl (.inl (e _ _ h))
  · exact .inl (.inr ⟨o, e _ _ h⟩)
  · exact .inr h
theorem sqt_mono {K : PySem.W.Frag} {F F' : Hp} {a : Addr} {vs : List V} (e : Fle F F') (h : SqT K F a vs) : SqT K F' a vs := by
  rcases h with (h | ⟨o, h⟩) | h
  · exact .inl (.inl (e _ _ h))
  · exact .inl (.inr ⟨o, e _ _ h⟩)
  · exact .inr h
def RepL {α : Type} [Enc α] (K : PySem.W.Frag) (F : Hp) (v : V) (xs : List α) : Prop := ∃ a vs, v = .ref a ∧ SqL K F a vs ∧ Reps K F vs xs
instance {α : Type} [Enc α] : Enc (List α) := ⟨RepL, fun e h => by
  obtain ⟨a, vs, rfl, h1, h2⟩ := h
  exact ⟨a, vs, rfl, sql_mono e h1, h2.mono e⟩⟩
structure T1 (α : Type) where
  a : α
deriving DecidableEq
structure T3 (α β γ : Type) where
  a : α
  b : β
  c : γ
deriving DecidableEq
structure T4 (α β γ δ : Type) where
  a : α
  b : β
  c : γ
  d : δ
deriving DecidableEq
structure T5 (α β γ δ ε : Type) where
  a : α
  b : β
  c : γ
  d : δ
  e : ε
deriving DecidableEq
structure Tu (α : Type) where
  l : List α
deriving DecidableEq
instance {α β : Type} [Enc α] [Enc β] : Enc (α × β) := ⟨fun K F v x => ∃ p v1 v2, v = .ref p ∧ SqT K F p [v1, v2] ∧ rep K F v1 x.1 ∧ rep K F v2 x.2, fun e h => by
  obtain ⟨p, v1, v2, rfl, h0, h1, h2⟩ := h
  exact ⟨p, v1, v2, rfl, sqt_mono e h0, Enc.mono e h1, Enc.mono e h2⟩⟩
instance {α : Type} [Enc α] : Enc (T1 α) := ⟨fun K F v x => ∃ p v1, v = .ref p ∧ SqT K F p [v1] ∧ rep K F v1 x.a, fun e h => by
  obtain ⟨p, v1, rfl, h0, h1⟩ := h
  exact ⟨p, v1, rfl, sqt_mono e h0, Enc.mono e h1⟩⟩
instance {α β γ : Type} [Enc α] [Enc β] [Enc γ] : Enc (T3 α β γ) := ⟨fun K F v x => ∃ p v1 v2 v3, v = .ref p ∧ SqT K F p [v1, v2, v3] ∧ rep K F v1 x.a ∧ rep K F v2 x.b ∧ rep K F v3 x.c, fun e h => by
  obtain ⟨p, v1, v2, v3, rfl, h0, h1, h2, h3⟩ := h
  exact ⟨p, v1, v2, v3, rfl, sqt_mono e h0, Enc.mono e h1, Enc.mono e h2, Enc.mono e h3⟩⟩
instance {α β γ δ : Type} [Enc α] [Enc β] [Enc γ] [Enc δ] : Enc (T4 α β γ δ) := ⟨fun K F v x => ∃ p v1 v2 v3 v4, v = .ref p ∧ SqT K F p [v1, v2, v3, v4] ∧ rep K F v1 x.a ∧ rep K F v2 x.b ∧ rep K F v3 x.c ∧ rep K F v4 x.d, fun e h => by
  obtain ⟨p, v1, v2, v3, v4, rfl, h0, h1, h2, h3, h4⟩ := h
  exact ⟨p, v1, v2, v3, v4, rfl, sqt_mono e h0, Enc.mono e h1, Enc.mono e h2, Enc.mono e h3, Enc.mono e h4⟩⟩
instance {α β γ δ ε : Type} [Enc α] [Enc β] [Enc γ] [Enc δ] [Enc ε] : Enc (T5 α β γ δ ε) := ⟨fun K F v x => ∃ p v1 v2 v3 v4 v5, v = .ref p ∧ SqT K F p [v1, v2, v3, v4, v5] ∧ rep K F v1 x.a ∧ rep K F v2 x.b ∧ rep K F v3 x.c ∧ rep K F v4 x.d ∧ rep K F v5 x.e, fun e h => by
  obtain ⟨p, v1, v2, v3, v4, v5, rfl, h0, h1, h2, h3, h4, h5⟩ := h
  exact ⟨p, v1, v2, v3, v4, v5, rfl, sqt_mono e h0, Enc.mono e h1, Enc.mono e h2, Enc.mono e h3, Enc.mono e h4, Enc.mono e h5⟩⟩
def RepT {α : Type} [Enc α] (K : PySem.W.Frag) (F : Hp) (v : V) (xs : List α) : Prop := ∃ a vs, v = .ref a ∧ SqT K F a vs ∧ Reps K F vs xs
instance {α : Type} [Enc α] : Enc (Tu α) := ⟨fun K F v x => RepT K F v x.l, fun e h => by
  obtain ⟨a, vs, rfl, h1, h2⟩ := h
  exact ⟨a, vs, rfl, sqt_mono e h1, h2.mono e⟩⟩
instance {α : Type} [Enc α] : Opn (List α) := ⟨fun h => by obtain ⟨_, _, e, _⟩ := h; cases e⟩
instance {α : Type} [Enc α] : Opn (Tu α) := ⟨fun h => by obtain ⟨_, _, e, _⟩ := h; cases e⟩
class Flat (α : Type) extends Enc α where
  toV : α → V
  iff : ∀ {K : PySem.W.Frag} {F : Hp} {v : V} {x : α}, rep K F v x ↔ v = toV x
  flat : ∀ x, flatV (toV x) = true
  inj : ∀ x y, eqV (toV x) (toV y) = true ↔ x = y
open Flat (toV)
instance : Flat Int := ⟨V.int, Iff.rfl, fun _ => rfl, fun x y => by show (x == y) = true ↔ _; simp⟩
instance : Flat Bool := ⟨V.bl, Iff.rfl, fun _ => rfl, fun x y => by show (x == y) = true ↔ _; simp⟩
instance : Flat Str := ⟨V.str, Iff.rfl, fun _ => rfl, fun x y => by show (x == y) = true ↔ _; simp⟩
instance : Flat (Option Int) := ⟨fun x => match x with | none => .non | some i => .int i, fun {K F v x} => by cases x <;> exact Iff.rfl, fun x => by cases x <;> rfl, fun x y => by
  cases x <;> cases y <;> simp [eqV]⟩
instance : Flat (Option Str) := ⟨fun x => match x with | none => .non | some i => .str i, fun {K F v x} => by cases x <;> exact Iff.rfl, fun x => by cases x <;> rfl, fun x y => by
  cases x <;> cases y <;> simp [eqV]⟩
section
variable {α : Type} [Flat α] {K : PySem.W.Frag} {F : Hp}
theorem Reps.flat : ∀ {vs : List V} {xs : List α}, Reps K F vs xs → vs = xs.map toV
  | [], [], _ => rfl
  | _ :: _, _ :: _, ⟨h, t⟩ => by rw [List.map_cons, ← Flat.iff.mp h, ← Reps.flat t]
  | [], _ :: _, h => h.elim
  | _ :: _, [], h => h.elim
theorem Reps.of_flat : ∀ (xs : List α), Reps K F (xs.map toV) xs
  | [] => trivial
  | _ :: xs => ⟨Flat.iff.mpr rfl, Reps.of_flat xs⟩
theorem flat_all (xs : List α) : (xs.map toV).all flatV = true := by
  rw [List.all_eq_true]
  intro v hv
  obtain ⟨x, _, rfl⟩ := List.mem_map.mp hv
  exact Flat.flat x
theorem inV_flat [DecidableEq α] (x : α) (xs : List α) : inV (toV x) (xs.map toV) = decide (x ∈ xs) := by
  rw [Bool.eq_iff_iff, decide_eq_true_eq]
  unfold inV
  rw [List.any_eq_true]
  constructor
  · rintro ⟨v, hv, e⟩
    obtain ⟨y, hy, rfl⟩ := List.mem_map.mp hv
    rw [Flat.inj] at e
    rw [← e]; exact hy
  · intro h
    exact ⟨_, List.mem_map.mpr ⟨x, h, rfl⟩, (Flat.inj x x).mpr rfl⟩
end
end Dy

namespace Dy
open PySem PySem.Spec L2
open PyProof.Rows hiding St
open Enc (rep)
open Flat (toV)

def WE (X : Cx) (e : Expr) : TE := fun σ H Q => ∀ (pins : List (Addr × Obj)) (s : Shared), Inv X pins σ H s → wpAny (model X.prog X.w) X.A (eval e X.env) (EP X pins σ Q) X.xe s
def WT (X : Cx) (e : Expr) : TT := fun σ H Q => ∀ (pins : List (Addr × Obj)) (s : Shared), Inv X pins σ H s → wpAny (model X.prog X.w) X.A (isTrue e X.env (eval e X.env)) (TP X pins σ Q) X.xe s
def WW (X : Cx) (e : Expr) : TT := fun σ H Q => ∀ (whole : Sem Value) (pins : List (Addr × Obj)) (s : Shared), Inv X pins σ H s → wpAny (model X.prog X.w) X.A (isTrue e X.env whole) (TP X pins σ Q) X.xe s
def WA (X : Cx) (es : List Expr) : TA := fun σ H Q => ∀ (pos : Pos) (pins : List (Addr × Obj)) (s : Shared), Inv X pins σ H s → wpAny (model X.prog X.w) X.A (spliced (backTo pos (starEach es X.env))) (AP X pins σ Q) X.xe s
def WSs (X : Cx) (ss : List Stmt) : TS := fun D σ H => ∀ (pins : List (Addr × Obj)) (s : Shared), Inv X pins σ H s → wpAny (model X.prog X.w) X.A (execs ss X.env) (SP X pins D) X.xe s
theorem pe_we {X : Cx} {e : Expr} : PE X e (WE X e) := ⟨fun pins s _ _ _ I h => h pins s I⟩
theorem pt_wt {X : Cx} {e : Expr} : PT X e (WT X e) := ⟨fun pins s _ _ _ I h => h pins s I⟩
theorem pw_ww {X : Cx} {e : Expr} : PW X e (WW X e) := ⟨fun whole pins s _ _ _ I h => h whole pins s I⟩
theorem pa_wa {X : Cx} {es : List Expr} : PA X es (WA X es) := ⟨fun pos pins s _ _ _ I h => h pos pins s I⟩
theorem pss_ws {X : Cx} {ss : List Stmt} : PSs X ss (WSs X ss) := ⟨fun pins s _ _ _ I h => h pins s I⟩
theorem we_of {X : Cx} {e : Expr} {t : TE} {σ : St} {H : Hp} {Q : VK} (h : PE X e t) (q : t σ H Q) : WE X e σ H Q := fun pins s I => h.run pins s σ H Q I q
theorem wt_of {X : Cx} {e : Expr} {t : TT} {σ : St} {H : Hp} {Q : Bool → Hp → Prop} (h : PT X e t) (q : t σ H Q) : WT X e σ H Q := fun pins s I => h.run pins s σ H Q I q
theorem ww_of {X : Cx} {e : Expr} {t : TT} {σ : St} {H : Hp} {Q : Bool → Hp → Prop} (h : PW X e t) (q : t σ H Q) : WW X e σ H Q := fun w pins s I => h.run w pins s σ H Q I q
theorem wa_of {X : Cx} {es : List Expr} {t : TA} {σ : St} {H : Hp} {Q : List V → Hp → Prop} (h : PA X es t) (q : t σ H Q) : WA X es σ H Q := fun pos pins s I => h.run pos pins s σ H Q I q
theorem ws_of {X : Cx} {ss : List Stmt} {t : TS} {D : Ends} {σ : St} {H : Hp} (h : PSs X ss t) (q : t D σ H) : WSs X ss D σ H := fun pins s I => h.run pins s σ H D I q
theorem WSs.imp {X : Cx} {ss : List Stmt} {D D' : Ends} {σ : St} {H : Hp} (h : WSs X ss D σ H) (h1 : ∀ σ H, D.nx σ H → D'.nx σ H) (h2 : ∀ v H, D.rt v H → D'.rt v H) (h3 : ∀ σ H, D.bk σ H → D'.bk σ H) (h4 : ∀ σ H, D.ct σ H → D'.ct σ H) : WSs X ss D' σ H := fun pins s I => thn (h pins s I) fun f s1 q => by
  cases f with
  | next => obtain ⟨a, b, c, d⟩ := q; exact ⟨a, b, c, h1 _ _ d⟩
  | brk => obtain ⟨a, b, c, d⟩ := q; exact ⟨a, b, c, h3 _ _ d⟩
  | cont => obtain ⟨a, b, c, d⟩ := q; exact ⟨a, b, c, h4 _ _ d⟩
  | ret u => obtain ⟨a, b, c, d, e, f⟩ := q; exact ⟨a, b, c, d, e, h2 _ _ f⟩

section
variable {α β γ δ : Type} [Enc α] [Enc β] [Enc γ] [Enc δ]
def Ev (X : Cx) (e : Expr) (σ : St) (s : S) (x : α) : Prop := ∀ s1, Ex s s1 → ∀ Q : VK, (∀ v s2, Ex s1 s2 → rep X.K s2.F v x → Q v s2.H) → WE X e σ s1.H Q
def RepR (K : PySem.W.Frag) (s : S) (v : V) (xs : List α) : Prop := ∃ a vs, v = .ref a ∧ SqL K s.H a vs ∧ Reps K s.F vs xs
def EvR (X : Cx) (e : Expr) (σ : St) (s : S) (xs : List α) : Prop := ∀ s1, Ex s s1 → ∀ Q : VK, (∀ v s2, Ex s1 s2 → RepR X.K s2 v xs → Q v s2.H) → WE X e σ s1.H Q
def Own (K : PySem.W.Frag) (s : S) (p : Addr) (xs : List α) : Prop := s.F p = none ∧ ∃ vs, s.H p = some (.lst vs) ∧ Reps K s.F vs xs
def EvN (X : Cx) (e : Expr) (σ : St) (s : S) (xs : List α) : Prop := ∀ s1, Ex s s1 → ∀ Q : VK, (∀ p s2, Ex s1 s2 → s1.H p = none → Own X.K s2 p xs → Q (.ref p) s2.H) → WE X e σ s1.H Q
def EvT (X : Cx) (e : Expr) (σ : St) (s : S) (b : Bool) : Prop := ∀ s1, Ex s s1 → ∀ Q : Bool → Hp → Prop, (∀ s2, Ex s1 s2 → Q b s2.H) → WT X e σ s1.H Q
def EvW (X : Cx) (e : Expr) (σ : St) (s : S) (b : Bool) : Prop := ∀ s1, Ex s s1 → ∀ Q : Bool → Hp → Prop, (∀ s2, Ex s1 s2 → Q b s2.H) → WW X e σ s1.H Q
structure EvB (X : Cx) (e : Expr) (σ : St) (s : S) (b : Bool) : Prop where
  v : Ev X e σ s b
  t : EvT X e σ s b
structure EvC (X : Cx) (e : Expr) (σ : St) (s : S) (b : Bool) : Prop where
  v : Ev X e σ s b
  w : EvW X e σ s b
end
class EncA (A : Type) where
  repA : PySem.W.Frag → Hp → List V → A → Prop
  monoA : ∀ {K : PySem.W.Frag} {F F' : Hp} {vs : List V} {x : A}, Fle F F' → repA K F vs x → repA K F' vs x
open EncA (repA)
instance : EncA Unit := ⟨fun _ _ vs _ => vs = [], fun _ h => h⟩
instance {α A : Type} [Enc α] [EncA A] : EncA (α × A) := ⟨fun K F vs x => ∃ v r, vs = v :: r ∧ rep K F v x.1 ∧ repA K F r x.2, fun e h => by
  obtain ⟨v, r, rfl, h1, h2⟩ := h
  exact ⟨v, r, rfl, Enc.mono e h1, EncA.monoA e h2⟩⟩
def EvA {A : Type} [EncA A] (X : Cx) (es : List Expr) (σ : St) (s : S) (a : A) : Prop := ∀ s1, Ex s s1 → ∀ Q : List V → Hp → Prop, (∀ vs s2, Ex s1 s2 → repA X.K s2.F vs a → Q vs s2.H) → WA X es σ s1.H Q

section
variable {α β γ δ : Type} [Enc α] [Enc β] [Enc γ] [Enc δ] {X : Cx} {σ : St} {s t : S} {e a b c : Expr} {es : List Expr} {pos p0 p1 p2 p3 : Pos}
theorem Own.frz {K : PySem.W.Frag} {p : Addr} {xs : List α} (h : Own K s p xs) : ∃ s' : S, s'.H = s.H ∧ Fle s.F s'.F ∧ (∀ q, q ≠ p → s'.F q = s.F q) ∧ rep K s'.F (.ref p) xs := by
  obtain ⟨hn, vs, hp, r⟩ := h
  have f : Fle s.F (upd s.F p (.lst vs)) := fun a o q => by rw [upd_ne (ne_of_none q hn)]; exact q
  refine ⟨⟨upd s.F p (.lst vs), s.H, fun a o q => ?_⟩, rfl, f, fun q hq => upd_ne hq, p, vs, rfl, .inl (.inl upd_same), r.mono f⟩
  unfold upd at q
  split at q
  · rename_i e; cases q; rw [e]; exact hp
  · exact s.sub a o q
theorem Own.ex {K : PySem.W.Frag} {p : Addr} {xs : List α} (h : Own K s p xs) (e : Ex s t) : Own K t p xs := by
  obtain ⟨hn, vs, hp, r⟩ := h
  exact ⟨e.n _ _ hp hn, vs, e.h _ _ hp, r.mono e.f⟩
theorem Own.mx {K : PySem.W.Frag} {p : Addr} {P : Addr → Prop} {xs : List α} (h : Own K s p xs) (e : Mx P s t) (n : ¬ P p) : Own K t p xs := by
  obtain ⟨hn, vs, hp, r⟩ := h
  exact ⟨e.n _ _ hp hn, vs, e.h _ _ hp n, r.mono e.f⟩
theorem Own.ne {K : PySem.W.Frag} {p q : Addr} {xs : List α} (h : Own K s p xs) (n : s.H q = none) : p ≠ q := by
  obtain ⟨_, vs, hp, _⟩ := h
  exact ne_of_none hp n
theorem Own.r {K : PySem.W.Frag} {p : Addr} {xs : List α} (h : Own K s p xs) : RepR K s (.ref p) xs := by
  obtain ⟨hn, vs, hp, r⟩ := h
  exact ⟨p, vs, rfl, .inl (.inl hp), r⟩
theorem RepR.ex {K : PySem.W.Frag} {v : V} {xs : List α} (h : RepR K s v xs) (e : Ex s t) : RepR K t v xs := by
  obtain ⟨p, vs, rfl, h1, h2⟩ := h
  exact ⟨p, vs, rfl, sql_mono e.h h1, h2.mono e.f⟩
theorem rep_r {K : PySem.W.Frag} {v : V} {xs : List α} (h : rep K s.F v xs) : RepR K s v xs := by
  obtain ⟨p, vs, rfl, h1, h2⟩ := h
  exact ⟨p, vs, rfl, sql_mono s.sub h1, h2⟩
theorem Ev.mono {x : α} (h : Ev X e σ s x) (k : Ex s t) : Ev X e σ t x := fun s1 k1 Q q => h s1 (k.trans k1) Q q
theorem EvT.mono {x : Bool} (h : EvT X e σ s x) (k : Ex s t) : EvT X e σ t x := fun s1 k1 Q q => h s1 (k.trans k1) Q q
theorem Ev.r {xs : List α} (h : Ev X e σ s xs) : EvR X e σ s xs := fun s1 k Q q => h s1 k Q fun v s2 k2 r => q v s2 k2 (rep_r r)
theorem EvN.r {xs : List α} (h : EvN X e σ s xs) : EvR X e σ s xs := fun s1 k Q q => h s1 k Q fun p s2 k2 _ o => q (.ref p) s2 k2 o.r
theorem frz_ex {K : PySem.W.Frag} {p : Addr} {xs : List α} (k : Ex s t) (n : s.H p = none) (o : Own K t p xs) : ∃ t' : S, t'.H = t.H ∧ Ex s t' ∧ rep K t'.F (.ref p) xs := by
  obtain ⟨t', h1, h2, h3, h4⟩ := o.frz
  refine ⟨t', h1, ⟨k.f.trans h2, fun a u q => by rw [h1]; exact k.h a u q, fun a u q m => ?_⟩, h4⟩
  have : a ≠ p := ne_of_none q n
  rw [h3 a this]
  exact k.n a u q m
theorem EvN.ev {xs : List α} (h : EvN X e σ s xs) : Ev X e σ s xs := fun s1 k Q q => h s1 k Q fun p s2 k2 n o => by
  obtain ⟨t', h1, h2, h3⟩ := frz_ex k2 n o
  rw [← h1]
  exact q _ t' h2 h3
theorem Ev.cast {x y : α} (h : Ev X e σ s x) (k : x = y) : Ev X e σ s y := k ▸ h

theorem ev_var (i : Nat) {v : V} {x : α} {n : Str} (h : σ[i]? = some (some v)) (r : rep X.K s.F v x) (hN : X.N[i]? = some n := by rfl) (hv : Vis X.env.scope n := by first | exact Or.inl rfl | exact Or.inr (Or.inl rfl) | exact Or.inr (Or.inr rfl)) (hd : (n == ("__debug__" : Str)) = false := by decide)
    (hcd : (n == ("__classdict__" : Str)) = false := by decide) : Ev X (.Name n pos) σ s x := fun s1 k Q q => we_of (pe_var hN hv hd hcd) ⟨v, h, q v s1 (Ex.refl _) (Enc.mono k.f r)⟩
theorem ev_varR (i : Nat) {p : Addr} {xs : List α} {n : Str} (h : σ[i]? = some (some (.ref p))) (r : Own X.K s p xs) (hN : X.N[i]? = some n := by rfl) (hv : Vis X.env.scope n := by first | exact Or.inl rfl | exact Or.inr (Or.inl rfl) | exact Or.inr (Or.inr rfl)) (hd : (n == ("__debug__" : Str)) = false := by decide)
    (hcd : (n == ("__classdict__" : Str)) = false := by decide) : EvR X (.Name n pos) σ s xs := fun s1 k Q q => we_of (pe_var hN hv hd hcd) ⟨_, h, q _ s1 (Ex.refl _) (r.ex k).r⟩
theorem ev_int {i : Int} {j} : Ev X (.Constant (.int i) j pos) σ s i := fun s1 k Q q => we_of pe_int (q _ s1 (Ex.refl _) rfl)
theorem ev_bl {i : Bool} {j} : Ev X (.Constant (.bool i) j pos) σ s i := fun s1 k Q q => we_of pe_bl (q _ s1 (Ex.refl _) rfl)
theorem ev_str {i : Str} {j} : Ev X (.Constant (.str i) j pos) σ s i := fun s1 k Q q => we_of pe_str (q _ s1 (Ex.refl _) rfl)
theorem ev_non {j} : Ev X (.Constant .none j pos) σ s () := fun s1 k Q q => we_of pe_non (q _ s1 (Ex.refl _) rfl)
theorem ev_nonO {j} : Ev X (.Constant .none j pos) σ s (none : Option α) := fun s1 k Q q => we_of pe_non (q _ s1 (Ex.refl _) rfl)
theorem ev_some {x : α} (h : Ev X e σ s x) : Ev X e σ s (some x) := h
theorem ev_glob {n : Str} {x : α} (h : ∃ v u, X.mg n = some u ∧ RelV v u ∧ ∀ F, rep X.K F v x) (hg : Gl X n := by rfl) (hd : (n == ("__debug__" : Str)) = false := by decide) : Ev X (.Name n pos) σ s x := fun s1 k Q q => by
  obtain ⟨v, u, h1, h2, h3⟩ := h
  exact we_of (pe_glob hg h1 h2 hd) (q v s1 (Ex.refl _) (h3 _))

theorem ev_op {op : Operator} {r : R2} {x : α} {y : β} {z : γ} (ho : OpR X (binaryOp op) r) (ha : Ev X a σ s x) (hb : Ev X b σ s y)
    (hr : ∀ v u s2, rep X.K s2.F v x → rep X.K s2.F u y → ∀ Q : VK, (∀ v' s3, Ex s2 s3 → rep X.K s3.F v' z → Q v' s3.H) → r v u s2.H Q) : Ev X (.BinOp a op b pos) σ s z := fun s1 k Q q =>
  we_of (pe_op ho pe_we pe_we) (ha s1 k _ fun v s2 k2 r2 => hb s2 (k.trans k2) _ fun u s3 k3 r3 => hr v u s3 (Enc.mono k3.f r2) r3 Q fun w s4 k4 r4 => q w s4 ((k2.trans k3).trans k4) r4)
theorem ev_I0 {op : Operator} {g : Int → Int → V} {x y : Int} {z : γ} (ho : OpR X (binaryOp op) (rI0 g)) (ha : Ev X a σ s x) (hb : Ev X b σ s y) (hz : ∀ K F, rep K F (g x y) z) : Ev X (.BinOp a op b pos) σ s z :=
  ev_op ho ha hb fun v u s2 hv hu Q q => ⟨x, y, hv, hu, q _ s2 (Ex.refl _) (hz _ _)⟩
theorem ev_I {op : Operator} {C : Int → Int → Prop} {g : Int → Int → V} {x y : Int} {z : γ} (ho : OpR X (binaryOp op) (rI C g)) (ha : Ev X a σ s x) (hb : Ev X b σ s y) (hc : C x y) (hz : ∀ K F, rep K F (g x y) z) : Ev X (.BinOp a op b pos) σ s z :=
  ev_op ho ha hb fun v u s2 hv hu Q q => ⟨x, y, hv, hu, hc, q _ s2 (Ex.refl _) (hz _ _)⟩
theorem ev_add {x y : Int} (ha : Ev X a σ s x) (hb : Ev X b σ s y) : Ev X (.BinOp a .Add b pos) σ s (x + y) := ev_I0 op_add ha hb fun _ _ => rfl
theorem ev_sub {x y : Int} (ha : Ev X a σ s x) (hb : Ev X b σ s y) : Ev X (.BinOp a .Sub b pos) σ s (x - y) := ev_I0 op_sub ha hb fun _ _ => rfl
def MulOk (x y : Int) : Prop := CMul x y ∨ CMulW x y
theorem ev_mul {x y : Int} (ha : Ev X a σ s x) (hb : Ev X b σ s y) (hc : MulOk x y) : Ev X (.BinOp a .Mult b pos) σ s (x * y) := by
  rcases hc with hc | hc
  · exact ev_I op_mul ha hb hc fun _ _ => rfl
  · exact ev_I op_mulW ha hb hc fun _ _ => rfl
theorem ev_mod {x y : Int} (ha : Ev X a σ s x) (hb : Ev X b σ s y) (hc : 0 < y) : Ev X (.BinOp a .Mod b pos) σ s (x % y) := ev_I op_mod ha hb hc fun _ _ => rfl
def DivOk (y : Int) : Prop := 0 < y ∧ y.natAbs.log2 < 9000
theorem ev_div {x y : Int} (ha : Ev X a σ s x) (hb : Ev X b σ s y) (hc : DivOk y) : Ev X (.BinOp a .FloorDiv b pos) σ s (x / y) := ev_I op_fdivW ha hb hc fun _ _ => rfl
theorem ev_pow {x y : Int} (ha : Ev X a σ s x) (hb : Ev X b σ s y) (hc : CPow x y) : Ev X (.BinOp a .Pow b pos) σ s (x ^ y.toNat) := ev_I op_pow ha hb hc fun _ _ => rfl
theorem ev_adds {x y : Str} (ha : Ev X a σ s x) (hb : Ev X b σ s y) (hc : x.length + y.length ≤ sizeLine) : Ev X (.BinOp a .Add b pos) σ s (x ++ y) :=
  ev_op op_add_str ha hb fun v u s2 hv hu Q q => ⟨x, y, hv, hu, hc, q _ s2 (Ex.refl _) rfl⟩
theorem ev_neg {x : Int} (ha : Ev X a σ s x) : Ev X (.UnaryOp .USub a pos) σ s (-x) := fun s1 k Q q =>
  we_of (pe_un un_neg pe_we) (ha s1 k _ fun v s2 k2 r2 => ⟨x, r2, q _ s2 k2 rfl⟩)

theorem atI_rep {K : PySem.W.Frag} {F : Hp} {vs : List V} {xs : List α} {i : Int} {x : α} (r : Reps K F vs xs) (h : atI xs i = some x) : ∃ v, atI vs i = some v ∧ rep K F v x := by
  unfold atI at h ⊢
  rw [r.len]
  cases hj : ixN xs.length i with
  | none => rw [hj] at h; cases h
  | some j =>
    rw [hj] at h
    obtain ⟨v, h1, h2⟩ := r.get (i := j) h
    exact ⟨v, h1, h2⟩
theorem ev_ix {xs : List α} {i : Int} {x : α} (ha : EvR X a σ s xs) (hb : Ev X b σ s i) (h : atI xs i = some x) (hp : PlainIx b := by intro _ _; rfl) : Ev X (.Subscript a b pos) σ s x := fun s1 k Q q =>
  we_of (pe_ix ix_list pe_we pe_we hp) (ha s1 k _ fun v s2 k2 r2 => hb s2 (k.trans k2) _ fun u s3 k3 r3 => by
    obtain ⟨p, vs, rfl, h1, h2⟩ := r2.ex k3
    obtain ⟨w, h3, h4⟩ := atI_rep h2 h
    exact ⟨p, vs, i, w, rfl, r3, h1, h3, q w s3 (k2.trans k3) h4⟩)
theorem ev_ixT {xs : Tu α} {i : Int} {x : α} (ha : Ev X a σ s xs) (hb : Ev X b σ s i) (h : atI xs.l i = some x) (hp : PlainIx b := by intro _ _; rfl) : Ev X (.Subscript a b pos) σ s x := fun s1 k Q q =>
  we_of (pe_ix ix_tup pe_we pe_we hp) (ha s1 k _ fun v s2 k2 r2 => hb s2 (k.trans k2) _ fun u s3 k3 r3 => by
    obtain ⟨p, vs, rfl, h1, h2⟩ := Enc.mono (α := Tu α) k3.f r2
    obtain ⟨w, h3, h4⟩ := atI_rep h2 h
    exact ⟨p, vs, i, w, rfl, r3, sqt_mono s3.sub h1, h3, q w s3 (k2.trans k3) h4⟩)
theorem ev_ixP {x : β} {i : Int} {y : α} (ha : Ev X a σ s x) (hb : Ev X b σ s i) (h : ∀ {F : Hp} {v : V}, rep X.K F v x → ∃ p vs w, v = .ref p ∧ SqT X.K F p vs ∧ atI vs i = some w ∧ rep X.K F w y) (hp : PlainIx b := by intro _ _; rfl) : Ev X (.Subscript a b pos) σ s y := fun s1 k Q q =>
  we_of (pe_ix ix_tup pe_we pe_we hp) (ha s1 k _ fun v s2 k2 r2 => hb s2 (k.trans k2) _ fun u s3 k3 r3 => by
    obtain ⟨p, vs, w, rfl, h1, h2, h3⟩ := h (Enc.mono k3.f r2)
    exact ⟨p, vs, i, w, rfl, r3, sqt_mono s3.sub h1, h2, q w s3 (k2.trans k3) h3⟩)
theorem p2_0 {K : PySem.W.Frag} {x : α × β} {F : Hp} {v : V} (h : rep K F v x) : ∃ p vs w, v = .ref p ∧ SqT K F p vs ∧ atI vs 0 = some w ∧ rep K F w x.1 := by
  obtain ⟨p, v1, v2, rfl, h0, h1, h2⟩ := h
  exact ⟨p, _, v1, rfl, h0, rfl, h1⟩
theorem p2_1 {K : PySem.W.Frag} {x : α × β} {F : Hp} {v : V} (h : rep K F v x) : ∃ p vs w, v = .ref p ∧ SqT K F p vs ∧ atI vs 1 = some w ∧ rep K F w x.2 := by
  obtain ⟨p, v1, v2, rfl, h0, h1, h2⟩ := h
  exact ⟨p, _, v2, rfl, h0, rfl, h2⟩
theorem p3_0 {K : PySem.W.Frag} {x : T3 α β γ} {F : Hp} {v : V} (h : rep K F v x) : ∃ p vs w, v = .ref p ∧ SqT K F p vs ∧ atI vs 0 = some w ∧ rep K F w x.a := by
  obtain ⟨p, v1, v2, v3, rfl, h0, h1, h2, h3⟩ := h
  exact ⟨p, _, v1, rfl, h0, rfl, h1⟩
theorem p3_1 {K : PySem.W.Frag} {x : T3 α β γ} {F : Hp} {v : V} (h : rep K F v x) : ∃ p vs w, v = .ref p ∧ SqT K F p vs ∧ atI vs 1 = some w ∧ rep K F w x.b := by
  obtain ⟨p, v1, v2, v3, rfl, h0, h1, h2, h3⟩ := h
  exact ⟨p, _, v2, rfl, h0, rfl, h2⟩
theorem p3_2 {K : PySem.W.Frag} {x : T3 α β γ} {F : Hp} {v : V} (h : rep K F v x) : ∃ p vs w, v = .ref p ∧ SqT K F p vs ∧ atI vs 2 = some w ∧ rep K F w x.c := by
  obtain ⟨p, v1, v2, v3, rfl, h0, h1, h2, h3⟩ := h
  exact ⟨p, _, v3, rfl, h0, rfl, h3⟩
def sgn (x : Str) (i : Int) : Option Str := if x.length ≤ sizeLine then (atI x.cps.toList i).map fun c => ⟨#[c]⟩ else none
theorem ev_ixS {x : Str} {i : Int} {y : Str} (ha : Ev X a σ s x) (hb : Ev X b σ s i) (h : sgn x i = some y) (hp : PlainIx b := by intro _ _; rfl) : Ev X (.Subscript a b pos) σ s y := fun s1 k Q q =>
  we_of (pe_ix ix_str pe_we pe_we hp) (ha s1 k _ fun v s2 k2 r2 => hb s2 (k.trans k2) _ fun u s3 k3 r3 => by
    unfold sgn at h
    split at h
    · rename_i hz
      obtain ⟨c, h1, h2⟩ := Option.map_eq_some_iff.mp h
      exact ⟨x, i, c, r2, r3, hz, h1, q _ s3 (k2.trans k3) (by rw [h2]; rfl)⟩
    · cases h)
end
end Dy

namespace Dy
open PySem PySem.Spec L2
open PyProof.Rows hiding St
open Enc (rep)
open Flat (toV)
open EncA (repA)

section
variable {α β γ δ : Type} [Enc α] [Enc β] [Enc γ] [Enc δ] {X : Cx} {σ : St} {s t : S} {e a b c : Expr} {es : List Expr} {pos p0 p1 p2 p3 : Pos}

theorem et_v {x : Bool} (h : Ev X e σ s x) (he : ∀ whole, isTrue e X.env whole = (do let v ← whole; standAt e.pos; holding [v] (truthy v)) := by intro _; rfl) : EvT X e σ s x := fun s1 k Q q =>
  wt_of (pt_val pe_we he) (h s1 k _ fun v s2 k2 r => ⟨x, r, q s2 k2⟩)
theorem eb_v {x : Bool} (h : Ev X e σ s x) (he : ∀ whole, isTrue e X.env whole = (do let v ← whole; standAt e.pos; holding [v] (truthy v)) := by intro _; rfl) : EvB X e σ s x := ⟨h, et_v h he⟩
theorem EvW.tt {x : Bool} (h : EvW X e σ s x) : EvT X e σ s x := fun s1 k Q q => wt_of pw_ww.pt (h s1 k Q q)
theorem EvC.bb {x : Bool} (h : EvC X e σ s x) : EvB X e σ s x := ⟨h.v, h.w.tt⟩
theorem EvB.cast {x y : Bool} (h : EvB X e σ s x) (k : x = y) : EvB X e σ s y := k ▸ h
theorem ec_and1 {x : Bool} (h : EvB X a σ s x) : EvC X (.BoolOp .And [a] pos) σ s x :=
  ⟨fun s1 k Q q => we_of (pe_one pe_we) (h.v s1 k Q q), fun s1 k Q q => ww_of (pw_and1 pt_wt) (h.t s1 k Q q)⟩
theorem ec_or1 {x : Bool} (h : EvB X a σ s x) : EvC X (.BoolOp .Or [a] pos) σ s x :=
  ⟨fun s1 k Q q => we_of (pe_one pe_we) (h.v s1 k Q q), fun s1 k Q q => ww_of (pw_or1 pt_wt) (h.t s1 k Q q)⟩
theorem ec_and {x y : Bool} (h : EvB X a σ s x) (h2 : x = true → EvC X (.BoolOp .And (b :: es) pos) σ s y) : EvC X (.BoolOp .And (a :: b :: es) pos) σ s (x && y) :=
  ⟨fun s1 k Q q => we_of (pe_and pe_we pe_we) (h.v s1 k _ fun v s2 k2 r => ⟨x, r, by
    cases x with
    | true => exact iteT ((h2 rfl).v s2 (k.trans k2) Q fun v s3 k3 r3 => q v s3 (k2.trans k3) r3)
    | false => exact iteF (q _ s2 k2 rfl)⟩),
   fun s1 k Q q => ww_of (pw_and pt_wt pw_ww) (h.t s1 k _ fun s2 k2 => by
    cases x with
    | true => exact iteT ((h2 rfl).w s2 (k.trans k2) Q fun s3 k3 => q s3 (k2.trans k3))
    | false => exact iteF (q s2 k2))⟩
theorem ec_or {x y : Bool} (h : EvB X a σ s x) (h2 : x = false → EvC X (.BoolOp .Or (b :: es) pos) σ s y) : EvC X (.BoolOp .Or (a :: b :: es) pos) σ s (x || y) :=
  ⟨fun s1 k Q q => we_of (pe_or pe_we pe_we) (h.v s1 k _ fun v s2 k2 r => ⟨x, r, by
    cases x with
    | true => exact iteT (q _ s2 k2 rfl)
    | false => exact iteF ((h2 rfl).v s2 (k.trans k2) Q fun v s3 k3 r3 => q v s3 (k2.trans k3) r3)⟩),
   fun s1 k Q q => ww_of (pw_or pt_wt pw_ww) (h.t s1 k _ fun s2 k2 => by
    cases x with
    | true => exact iteT (q s2 k2)
    | false => exact iteF ((h2 rfl).w s2 (k.trans k2) Q fun s3 k3 => q s3 (k2.trans k3)))⟩
theorem eb_not {x : Bool} (h : EvB X a σ s x) : EvB X (.UnaryOp .Not a pos) σ s (!x) :=
  ⟨fun s1 k Q q => we_of (pe_not pe_we) (h.v s1 k _ fun v s2 k2 r => ⟨x, r, q _ s2 k2 rfl⟩), fun s1 k Q q => wt_of (pt_not pt_wt) (h.t s1 k _ fun s2 k2 => q s2 k2)⟩
theorem ev_ifE {x : Bool} {y z : α} (h : EvT X c σ s x) (h1 : x = true → Ev X a σ s y) (h2 : x = false → Ev X b σ s z) : Ev X (.IfExp c a b pos) σ s (if x = true then y else z) := fun s1 k Q q =>
  we_of (pe_ifExp pt_wt pe_we pe_we) (h s1 k _ fun s2 k2 => by
    cases x with
    | true => exact iteT (h1 rfl s2 (k.trans k2) Q fun v s3 k3 r => q v s3 (k2.trans k3) r)
    | false => exact iteF (h2 rfl s2 (k.trans k2) Q fun v s3 k3 r => q v s3 (k2.trans k3) r))

theorem eb_cmp {op : CmpOp} {r : R2} {x : α} {y : β} {z : Bool} (ho : OpR X (compareOp op) r) (ha : Ev X a σ s x) (hb : Ev X b σ s y)
    (hr : ∀ (v u : V) (s2 : S), rep X.K s2.F v x → rep X.K s2.F u y → ∀ Q : VK, Q (.bl z) s2.H → r v u s2.H Q) (hm : behindInMarks op b = false) : EvB X (.Compare a [op] [b] pos) σ s z :=
  ⟨fun s1 k Q q => we_of (pe_cmpR ho pe_we pe_we hm) (ha s1 k _ fun v s2 k2 r2 => hb s2 (k.trans k2) _ fun u s3 k3 r3 => hr v u s3 (Enc.mono k3.f r2) r3 Q (q _ s3 (k2.trans k3) rfl)),
   fun s1 k Q q => wt_of (pt_cmpR ho pe_we pe_we hm) (ha s1 k _ fun v s2 k2 r2 => hb s2 (k.trans k2) _ fun u s3 k3 r3 => hr v u s3 (Enc.mono k3.f r2) r3 _ ⟨z, rfl, q s3 (k2.trans k3)⟩)⟩
theorem eb_cmpR {op : CmpOp} {r : R2} {x : α} {ys : List β} {z : Bool} (ho : OpR X (compareOp op) r) (ha : Ev X a σ s x) (hb : EvR X b σ s ys)
    (hr : ∀ (v u : V) (s2 : S), rep X.K s2.F v x → RepR X.K s2 u ys → ∀ Q : VK, Q (.bl z) s2.H → r v u s2.H Q) (hm : behindInMarks op b = false) : EvB X (.Compare a [op] [b] pos) σ s z :=
  ⟨fun s1 k Q q => we_of (pe_cmpR ho pe_we pe_we hm) (ha s1 k _ fun v s2 k2 r2 => hb s2 (k.trans k2) _ fun u s3 k3 r3 => hr v u s3 (Enc.mono k3.f r2) r3 Q (q _ s3 (k2.trans k3) rfl)),
   fun s1 k Q q => wt_of (pt_cmpR ho pe_we pe_we hm) (ha s1 k _ fun v s2 k2 r2 => hb s2 (k.trans k2) _ fun u s3 k3 r3 => hr v u s3 (Enc.mono k3.f r2) r3 _ ⟨z, rfl, q s3 (k2.trans k3)⟩)⟩
theorem eb_cmpRR {op : CmpOp} {r : R2} {xs : List α} {ys : List β} {z : Bool} (ho : OpR X (compareOp op) r) (ha : EvR X a σ s xs) (hb : EvR X b σ s ys)
    (hr : ∀ (v u : V) (s2 : S), RepR X.K s2 v xs → RepR X.K s2 u ys → ∀ Q : VK, Q (.bl z) s2.H → r v u s2.H Q) (hm : behindInMarks op b = false) : EvB X (.Compare a [op] [b] pos) σ s z :=
  ⟨fun s1 k Q q => we_of (pe_cmpR ho pe_we pe_we hm) (ha s1 k _ fun v s2 k2 r2 => hb s2 (k.trans k2) _ fun u s3 k3 r3 => hr v u s3 (r2.ex k3) r3 Q (q _ s3 (k2.trans k3) rfl)),
   fun s1 k Q q => wt_of (pt_cmpR ho pe_we pe_we hm) (ha s1 k _ fun v s2 k2 r2 => hb s2 (k.trans k2) _ fun u s3 k3 r3 => hr v u s3 (r2.ex k3) r3 _ ⟨z, rfl, q s3 (k2.trans k3)⟩)⟩
theorem eb_I0 {op : CmpOp} {g : Int → Int → V} {x y : Int} {z : Bool} (ho : OpR X (compareOp op) (rI0 g)) (hg : g x y = .bl z) (hm : behindInMarks op b = false) (ha : Ev X a σ s x) (hb : Ev X b σ s y) : EvB X (.Compare a [op] [b] pos) σ s z :=
  eb_cmp ho ha hb (fun v u s2 hv hu Q q => ⟨x, y, hv, hu, by rw [hg]; exact q⟩) hm
theorem eb_lt {x y : Int} (ha : Ev X a σ s x) (hb : Ev X b σ s y) : EvB X (.Compare a [.Lt] [b] pos) σ s (decide (x < y)) := eb_I0 op_lt rfl (nomark _) ha hb
theorem eb_le {x y : Int} (ha : Ev X a σ s x) (hb : Ev X b σ s y) : EvB X (.Compare a [.LtE] [b] pos) σ s (decide (x ≤ y)) := eb_I0 op_le rfl (nomark _) ha hb
theorem eb_gt {x y : Int} (ha : Ev X a σ s x) (hb : Ev X b σ s y) : EvB X (.Compare a [.Gt] [b] pos) σ s (decide (y < x)) := eb_I0 op_gt rfl (nomark _) ha hb
theorem eb_ge {x y : Int} (ha : Ev X a σ s x) (hb : Ev X b σ s y) : EvB X (.Compare a [.GtE] [b] pos) σ s (decide (y ≤ x)) := eb_I0 op_ge rfl (nomark _) ha hb
class Eqs (α : Type) extends Flat α where
  sc : ∀ x y : α, scal (toV x) (toV y) = true
  ij : ∀ x y : α, toV x = toV y ↔ x = y
instance : Eqs Int := { sc := fun _ _ => rfl, ij := fun x y => by show V.int x = V.int y ↔ _; simp }
instance : Eqs Bool := { sc := fun _ _ => rfl, ij := fun x y => by show V.bl x = V.bl y ↔ _; simp }
instance : Eqs Str := { sc := fun _ _ => rfl, ij := fun x y => by show V.str x = V.str y ↔ _; simp }
theorem eb_eq {ε : Type} [Eqs ε] [DecidableEq ε] {x y : ε} (ha : Ev X a σ s x) (hb : Ev X b σ s y) : EvB X (.Compare a [.Eq] [b] pos) σ s (decide (x = y)) :=
  eb_cmp op_eq ha hb (fun v u s2 hv hu Q q => by
    rw [Flat.iff.mp hv, Flat.iff.mp hu]
    refine ⟨Eqs.sc x y, ?_⟩
    rw [show decide (toV x = toV y) = decide (x = y) from decide_eq_decide.mpr (Eqs.ij x y)]
    exact q) (nomark _)
theorem eb_ne {ε : Type} [Eqs ε] [DecidableEq ε] {x y : ε} (ha : Ev X a σ s x) (hb : Ev X b σ s y) : EvB X (.Compare a [.NotEq] [b] pos) σ s (!decide (x = y)) :=
  eb_cmp op_ne ha hb (fun v u s2 hv hu Q q => by
    rw [Flat.iff.mp hv, Flat.iff.mp hu]
    refine ⟨Eqs.sc x y, ?_⟩
    rw [show decide (toV x = toV y) = decide (x = y) from decide_eq_decide.mpr (Eqs.ij x y)]
    exact q) (nomark _)
theorem eb_isN {o : Type} [Opn o] {x : Option o} {j} (ha : Ev X a σ s x) : EvB X (.Compare a [.Is] [.Constant .none j p1] pos) σ s x.isNone :=
  eb_cmp op_isN ha ev_non (fun v u s2 hv hu Q q => by
    refine ⟨hu, ?_⟩
    have : decide (v = V.non) = x.isNone := by
      cases x with
      | none => cases (show v = V.non from hv); rfl
      | some y => exact decide_eq_false fun z => Opn.notNon (z ▸ (show rep X.K s2.F v y from hv))
    rw [this]; exact q) (nomark _)
theorem eb_notN {o : Type} [Opn o] {x : Option o} {j} (ha : Ev X a σ s x) : EvB X (.Compare a [.IsNot] [.Constant .none j p1] pos) σ s x.isSome :=
  eb_cmp op_notN ha ev_non (fun v u s2 hv hu Q q => by
    refine ⟨hu, ?_⟩
    have : (!decide (v = V.non)) = x.isSome := by
      cases x with
      | none => cases (show v = V.non from hv); rfl
      | some y => rw [decide_eq_false fun z => Opn.notNon (z ▸ (show rep X.K s2.F v y from hv))]; rfl
    rw [this]; exact q) (nomark _)
theorem eb_in {ε : Type} [Eqs ε] [DecidableEq ε] {x : ε} {xs : List ε} (ha : Ev X a σ s x) (hb : EvR X b σ s xs) (hm : behindInMarks .In b = false := by rfl) : EvB X (.Compare a [.In] [b] pos) σ s (decide (x ∈ xs)) :=
  eb_cmpR op_in_seq ha hb (fun v u s2 hv hu Q q => by
    obtain ⟨p, vs, rfl, h1, h2⟩ := hu
    rw [Flat.iff.mp hv]
    obtain rfl := h2.flat
    refine ⟨p, _, rfl, .inl h1, Flat.flat x, flat_all xs, ?_⟩
    rw [inV_flat]; exact q) hm
theorem eb_notIn {ε : Type} [Eqs ε] [DecidableEq ε] {x : ε} {xs : List ε} (ha : Ev X a σ s x) (hb : EvR X b σ s xs) (hm : behindInMarks .NotIn b = false := by rfl) : EvB X (.Compare a [.NotIn] [b] pos) σ s (!decide (x ∈ xs)) :=
  eb_cmpR op_notIn_seq ha hb (fun v u s2 hv hu Q q => by
    obtain ⟨p, vs, rfl, h1, h2⟩ := hu
    rw [Flat.iff.mp hv]
    obtain rfl := h2.flat
    refine ⟨p, _, rfl, .inl h1, Flat.flat x, flat_all xs, ?_⟩
    rw [inV_flat]; exact q) hm
theorem eb_inT {ε : Type} [Eqs ε] [DecidableEq ε] {x : ε} {xs : Tu ε} (ha : Ev X a σ s x) (hb : Ev X b σ s xs) (hm : behindInMarks .In b = false := by rfl) : EvB X (.Compare a [.In] [b] pos) σ s (decide (x ∈ xs.l)) :=
  eb_cmp op_in_seq ha hb (fun v u s2 hv hu Q q => by
    obtain ⟨p, vs, rfl, h1, h2⟩ := hu
    rw [Flat.iff.mp hv]
    obtain rfl := h2.flat
    refine ⟨p, _, rfl, .inr (sqt_mono s2.sub h1), Flat.flat x, flat_all xs.l, ?_⟩
    rw [inV_flat]; exact q) hm
theorem eb_notInT {ε : Type} [Eqs ε] [DecidableEq ε] {x : ε} {xs : Tu ε} (ha : Ev X a σ s x) (hb : Ev X b σ s xs) (hm : behindInMarks .NotIn b = false := by rfl) : EvB X (.Compare a [.NotIn] [b] pos) σ s (!decide (x ∈ xs.l)) :=
  eb_cmp op_notIn_seq ha hb (fun v u s2 hv hu Q q => by
    obtain ⟨p, vs, rfl, h1, h2⟩ := hu
    rw [Flat.iff.mp hv]
    obtain rfl := h2.flat
    refine ⟨p, _, rfl, .inr (sqt_mono s2.sub h1), Flat.flat x, flat_all xs.l, ?_⟩
    rw [inV_flat]; exact q) hm
def inS (x y : Str) : Bool := !(Builtin.Str.occurrences y x 0 y.length 1).isEmpty
theorem eb_inS {x y : Str} (ha : Ev X a σ s x) (hb : Ev X b σ s y) (hm : behindInMarks .In b = false := by rfl) : EvB X (.Compare a [.In] [b] pos) σ s (inS x y) :=
  eb_cmp op_in_str ha hb (fun v u s2 hv hu Q q => ⟨x, y, hv, hu, q⟩) hm
theorem eb_notInS {x y : Str} (ha : Ev X a σ s x) (hb : Ev X b σ s y) (hm : behindInMarks .NotIn b = false := by rfl) : EvB X (.Compare a [.NotIn] [b] pos) σ s (!inS x y) :=
  eb_cmp op_notIn_str ha hb (fun v u s2 hv hu Q q => ⟨x, y, hv, hu, q⟩) hm
theorem eb_chain {op op' : CmpOp} {g g' : Int → Int → V} {x y z : Int} {k1 k2 : Bool} (ho : OpR X (compareOp op) (rI0 g)) (hg : g x y = .bl k1) (ho' : OpR X (compareOp op') (rI0 g')) (hg' : g' y z = .bl k2) (ha : Ev X a σ s x) (hb : Ev X b σ s y) (hc : Ev X c σ s z)
    (hm : lastMarks [op, op'] [b, c] = false := by with_unfolding_all rfl) : EvB X (.Compare a [op, op'] [b, c] pos) σ s (k1 && k2) :=
  ⟨fun s1 k Q q => we_of (pe_chain ho ho' pe_we pe_we pe_we hm) (ha s1 k _ fun v s2 j2 r2 => hb s2 (k.trans j2) _ fun u s3 j3 r3 => ⟨x, y, r2, r3, k1, hg, by
    cases k1 with
    | true => exact iteT (hc s3 ((k.trans j2).trans j3) _ fun w s4 j4 r4 => ⟨y, z, r3, r4, by rw [hg']; exact q _ s4 ((j2.trans j3).trans j4) rfl⟩)
    | false => exact iteF (q _ s3 (j2.trans j3) rfl)⟩),
   fun s1 k Q q => wt_of (pt_chain ho ho' pe_we pe_we pe_we hm) (ha s1 k _ fun v s2 j2 r2 => hb s2 (k.trans j2) _ fun u s3 j3 r3 => ⟨x, y, r2, r3, k1, hg, by
    cases k1 with
    | true => exact iteT (hc s3 ((k.trans j2).trans j3) _ fun w s4 j4 r4 => ⟨y, z, r3, r4, by rw [hg']; exact ⟨_, rfl, q s4 ((j2.trans j3).trans j4)⟩⟩)
    | false => exact iteF ⟨_, rfl, q s3 (j2.trans j3)⟩⟩)⟩

theorem ea_nil : EvA X [] σ s () := fun s1 k Q q => wa_of pa_nil (q [] s1 (Ex.refl _) rfl)
theorem ea_cons {A : Type} [EncA A] {x : α} {r : A} (h : Ev X e σ s x) (hr : EvA X es σ s r) (hs : starEach (e :: es) X.env = (false, eval e X.env) :: starEach es X.env := by rfl) : EvA X (e :: es) σ s (x, r) := fun s1 k Q q =>
  wa_of (pa_cons pe_we pa_wa hs) (h s1 k _ fun v s2 k2 r2 => hr s2 (k.trans k2) _ fun vs s3 k3 r3 => q _ s3 (k2.trans k3) ⟨v, vs, rfl, Enc.mono k3.f r2, r3⟩)
theorem ev_B1 {id : String} {n : Str} {r : List V → Hp → VK → Prop} {x : β} {y : α} (hc : CallR X (.builtin id) r) (hg : Gl X n) (hm : X.mg n = none) (hv : bootBuiltins n = some (.builtin id)) (ha : Ev X e σ s x)
    (hr : ∀ (v : V) (s2 : S), rep X.K s2.F v x → ∀ Q : VK, (∀ w s3, Ex s2 s3 → rep X.K s3.F w y → Q w s3.H) → r [v] s2.H Q) (hn : n ≠ "__name__" := by decide) (hdb : (n == ("__debug__" : Str)) = false := by decide)
    (he : starEach [e] X.env = (false, eval e X.env) :: starEach [] X.env := by rfl) (hpl : (backTo pos (starEach [] X.env)).any (·.1) = false := by rfl) : Ev X (.Call (.Name n p0) [e] [] pos) σ s y := fun s1 k Q q =>
  we_of (pe_callB hc hg hm hv (pa_cons pe_we pa_nil he) hn hdb he hpl) (ha s1 k _ fun v s2 k2 r2 => hr v s2 r2 Q fun w s3 k3 r3 => q w s3 (k2.trans k3) r3)
theorem ev_BR {id : String} {n : Str} {r : List V → Hp → VK → Prop} {xs : List β} {y : α} (hc : CallR X (.builtin id) r) (hg : Gl X n) (hm : X.mg n = none) (hv : bootBuiltins n = some (.builtin id)) (ha : EvR X e σ s xs)
    (hr : ∀ (v : V) (s2 : S), RepR X.K s2 v xs → ∀ Q : VK, (∀ w s3, Ex s2 s3 → rep X.K s3.F w y → Q w s3.H) → r [v] s2.H Q) (hn : n ≠ "__name__" := by decide) (hdb : (n == ("__debug__" : Str)) = false := by decide)
    (he : starEach [e] X.env = (false, eval e X.env) :: starEach [] X.env := by rfl) (hpl : (backTo pos (starEach [] X.env)).any (·.1) = false := by rfl) : Ev X (.Call (.Name n p0) [e] [] pos) σ s y := fun s1 k Q q =>
  we_of (pe_callB hc hg hm hv (pa_cons pe_we pa_nil he) hn hdb he hpl) (ha s1 k _ fun v s2 k2 r2 => hr v s2 r2 Q fun w s3 k3 r3 => q w s3 (k2.trans k3) r3)
theorem ev_len {xs : List β} (hm : X.mg "len" = none) (ha : EvR X e σ s xs) (hg : Gl X "len" := by rfl) (he : starEach [e] X.env = (false, eval e X.env) :: starEach [] X.env := by rfl) (hpl : (backTo pos (starEach [] X.env)).any (·.1) = false := by rfl) : Ev X (.Call (.Name "len" p0) [e] [] pos) σ s (xs.length : Int) :=
  ev_BR call_len_seq hg hm boot_len ha (fun v s2 r2 Q q => by
    obtain ⟨p, vs, rfl, h1, h2⟩ := r2
    exact ⟨p, vs, rfl, .inl h1, q _ s2 (Ex.refl _) (by rw [h2.len]; rfl)⟩) (he := he) (hpl := hpl)
theorem ev_lenT {xs : Tu β} (hm : X.mg "len" = none) (ha : Ev X e σ s xs) (hg : Gl X "len" := by rfl) (he : starEach [e] X.env = (false, eval e X.env) :: starEach [] X.env := by rfl) (hpl : (backTo pos (starEach [] X.env)).any (·.1) = false := by rfl) : Ev X (.Call (.Name "len" p0) [e] [] pos) σ s (xs.l.length : Int) :=
  ev_B1 call_len_seq hg hm boot_len ha (fun v s2 r2 Q q => by
    obtain ⟨p, vs, rfl, h1, h2⟩ := r2
    exact ⟨p, vs, rfl, .inr (sqt_mono s2.sub h1), q _ s2 (Ex.refl _) (by rw [h2.len]; rfl)⟩) (he := he) (hpl := hpl)
theorem ev_lenS {x : Str} (hm : X.mg "len" = none) (hz : x.length ≤ sizeLine) (ha : Ev X e σ s x) (hg : Gl X "len" := by rfl) (he : starEach [e] X.env = (false, eval e X.env) :: starEach [] X.env := by rfl) (hpl : (backTo pos (starEach [] X.env)).any (·.1) = false := by rfl) : Ev X (.Call (.Name "len" p0) [e] [] pos) σ s (x.length : Int) :=
  ev_B1 call_len_str hg hm boot_len ha (fun v s2 r2 Q q => ⟨x, by rw [show v = V.str x from r2], hz, q _ s2 (Ex.refl _) rfl⟩) (he := he) (hpl := hpl)
theorem ev_sum {xs : List Int} (hm : X.mg "sum" = none) (ha : EvR X e σ s xs) (hc : X.calm = true := by rfl) (hg : Gl X "sum" := by rfl) (he : starEach [e] X.env = (false, eval e X.env) :: starEach [] X.env := by rfl) (hpl : (backTo pos (starEach [] X.env)).any (·.1) = false := by rfl) : Ev X (.Call (.Name "sum" p0) [e] [] pos) σ s xs.sum :=
  ev_BR (cr_sum hc) hg hm (by decide +kernel) ha (fun v s2 r2 Q q => by
    obtain ⟨p, vs, rfl, h1, h2⟩ := r2
    rw [h2.flat] at h1
    exact ⟨p, xs, rfl, h1, q _ s2 (Ex.refl _) rfl⟩) (he := he) (hpl := hpl)
theorem ev_all {xs : List Bool} (hm : X.mg "all" = none) (ha : EvR X e σ s xs) (hc : X.calm = true := by rfl) (hg : Gl X "all" := by rfl) (he : starEach [e] X.env = (false, eval e X.env) :: starEach [] X.env := by rfl) (hpl : (backTo pos (starEach [] X.env)).any (·.1) = false := by rfl) : Ev X (.Call (.Name "all" p0) [e] [] pos) σ s (xs.all id) :=
  ev_BR (cr_all hc) hg hm (by decide +kernel) ha (fun v s2 r2 Q q => by
    obtain ⟨p, vs, rfl, h1, h2⟩ := r2
    rw [h2.flat] at h1
    exact ⟨p, xs, rfl, h1, q _ s2 (Ex.refl _) rfl⟩) (he := he) (hpl := hpl)
theorem ev_any {xs : List Bool} (hm : X.mg "any" = none) (ha : EvR X e σ s xs) (hc : X.calm = true := by rfl) (hg : Gl X "any" := by rfl) (he : starEach [e] X.env = (false, eval e X.env) :: starEach [] X.env := by rfl) (hpl : (backTo pos (starEach [] X.env)).any (·.1) = false := by rfl) : Ev X (.Call (.Name "any" p0) [e] [] pos) σ s (xs.any id) :=
  ev_BR (cr_any hc) hg hm (by decide +kernel) ha (fun v s2 r2 Q q => by
    obtain ⟨p, vs, rfl, h1, h2⟩ := r2
    rw [h2.flat] at h1
    exact ⟨p, xs, rfl, h1, q _ s2 (Ex.refl _) rfl⟩) (he := he) (hpl := hpl)
def minL : List Int → Option Int
  | [] => none
  | x :: xs => some (xs.foldl min x)
def maxL : List Int → Option Int
  | [] => none
  | x :: xs => some (xs.foldl max x)
theorem foldl_min (xs : List Int) : ∀ x : Int, (xs.foldl min x ∈ x :: xs) ∧ ∀ y ∈ x :: xs, xs.foldl min x ≤ y := by
  induction xs with
  | nil => intro x; exact ⟨by simp, fun y hy => by simp at hy; simp [hy]⟩
  | cons a r ih =>
    intro x
    obtain ⟨h1, h2⟩ := ih (min x a)
    refine ⟨?_, fun y hy => ?_⟩
    · rw [List.foldl_cons]
      rcases List.mem_cons.mp h1 with h | h
      · rw [h]
        by_cases hx : x ≤ a
        · rw [Int.min_eq_left hx]; exact List.mem_cons_self
        · rw [Int.min_eq_right (by omega)]; exact List.mem_cons_of_mem _ List.mem_cons_self
      · exact List.mem_cons_of_mem _ (List.mem_cons_of_mem _ h)
    · rw [List.foldl_cons]
      have h3 := h2 (min x a) List.mem_cons_self
      rcases List.mem_cons.mp hy with rfl | hy
      · exact Int.le_trans h3 (Int.min_le_left _ _)
      · rcases List.mem_cons.mp hy with rfl | hy
        · exact Int.le_trans h3 (Int.min_le_right _ _)
        · exact h2 y (List.mem_cons_of_mem _ hy)
theorem foldl_max (xs : List Int) : ∀ x : Int, (xs.foldl max x ∈ x :: xs) ∧ ∀ y ∈ x :: xs, y ≤ xs.foldl max x := by
  induction xs with
  | nil => intro x; exact ⟨by simp, fun y hy => by simp at hy; simp [hy]⟩
  | cons a r ih =>
    intro x
    obtain ⟨h1, h2⟩ := ih (max x a)
    refine ⟨?_, fun y hy => ?_⟩
    · rw [List.foldl_cons]
      rcases List.mem_cons.mp h1 with h | h
      · rw [h]
        by_cases hx : a ≤ x
        · rw [Int.max_eq_left hx]; exact List.mem_cons_self
        · rw [Int.max_eq_right (by omega)]; exact List.mem_cons_of_mem _ List.mem_cons_self
      · exact List.mem_cons_of_mem _ (List.mem_cons_of_mem _ h)
    · rw [List.foldl_cons]
      have h3 := h2 (max x a) List.mem_cons_self
      rcases List.mem_cons.mp hy with rfl | hy
      · exact Int.le_trans (Int.le_max_left _ _) h3
      · rcases List.mem_cons.mp hy with rfl | hy
        · exact Int.le_trans (Int.le_max_right _ _) h3
        · exact h2 y (List.mem_cons_of_mem _ hy)
theorem minL_of {xs : List Int} {m : Int} (h1 : m ∈ xs) (h2 : ∀ y ∈ xs, m ≤ y) : minL xs = some m := by
  cases xs with
  | nil => simp at h1
  | cons x r =>
    obtain ⟨h3, h4⟩ := foldl_min r x
    exact congrArg some (Int.le_antisymm (h4 m h1) (h2 _ h3))
theorem maxL_of {xs : List Int} {m : Int} (h1 : m ∈ xs) (h2 : ∀ y ∈ xs, y ≤ m) : maxL xs = some m := by
  cases xs with
  | nil => simp at h1
  | cons x r =>
    obtain ⟨h3, h4⟩ := foldl_max r x
    exact congrArg some (Int.le_antisymm (h2 _ h3) (h4 m h1))
theorem ev_min {xs : List Int} {m : Int} (hm : X.mg "min" = none) (ha : EvR X e σ s xs) (h : minL xs = some m) (hc : X.calm = true := by rfl) (hg : Gl X "min" := by rfl) (he : starEach [e] X.env = (false, eval e X.env) :: starEach [] X.env := by rfl) (hpl : (backTo pos (starEach [] X.env)).any (·.1) = false := by rfl) : Ev X (.Call (.Name "min" p0) [e] [] pos) σ s m :=
  ev_BR (cr_min hc) hg hm (by decide +kernel) ha (fun v s2 r2 Q q => by
    obtain ⟨p, vs, rfl, h1, h2⟩ := r2
    rw [h2.flat] at h1
    refine ⟨p, xs, rfl, h1, ?_, fun z hz1 hz2 => ?_⟩
    · cases xs with
      | nil => cases h
      | cons _ _ => exact Nat.succ_pos _
    · rw [minL_of hz1 hz2] at h
      cases h
      exact q _ s2 (Ex.refl _) rfl) (he := he) (hpl := hpl)
theorem ev_max {xs : List Int} {m : Int} (hm : X.mg "max" = none) (ha : EvR X e σ s xs) (h : maxL xs = some m) (hc : X.calm = true := by rfl) (hg : Gl X "max" := by rfl) (he : starEach [e] X.env = (false, eval e X.env) :: starEach [] X.env := by rfl) (hpl : (backTo pos (starEach [] X.env)).any (·.1) = false := by rfl) : Ev X (.Call (.Name "max" p0) [e] [] pos) σ s m :=
  ev_BR (cr_max hc) hg hm (by decide +kernel) ha (fun v s2 r2 Q q => by
    obtain ⟨p, vs, rfl, h1, h2⟩ := r2
    rw [h2.flat] at h1
    refine ⟨p, xs, rfl, h1, ?_, fun z hz1 hz2 => ?_⟩
    · cases xs with
      | nil => cases h
      | cons _ _ => exact Nat.succ_pos _
    · rw [maxL_of hz1 hz2] at h
      cases h
      exact q _ s2 (Ex.refl _) rfl) (he := he) (hpl := hpl)
theorem ev_min2 {x y : Int} (hm : X.mg "min" = none) (ha : Ev X a σ s x) (hb : Ev X b σ s y) (hc : X.calm = true := by rfl) (hg : Gl X "min" := by rfl) (he : starEach [a, b] X.env = (false, eval a X.env) :: starEach [b] X.env := by rfl) (he2 : starEach [b] X.env = (false, eval b X.env) :: starEach [] X.env := by rfl) (hpl : (backTo pos (starEach [b] X.env)).any (·.1) = false := by rfl) : Ev X (.Call (.Name "min" p0) [a, b] [] pos) σ s (min x y) := fun s1 k Q q =>
  we_of (pe_callB (call_min2 hc) hg hm (by decide +kernel) (pa_cons pe_we (pa_cons pe_we pa_nil he2) he) (he := he) (hpl := hpl)) (ha s1 k _ fun v s2 k2 r2 => hb s2 (k.trans k2) _ fun u s3 k3 r3 =>
    ⟨x, y, by rw [show v = V.int x from r2, show u = V.int y from r3], q _ s3 (k2.trans k3) (by
      show V.int _ = V.int _
      by_cases h : y < x
      · rw [if_pos h, Int.min_eq_right (by omega)]
      · rw [if_neg h, Int.min_eq_left (by omega)])⟩)
theorem ev_max2 {x y : Int} (hm : X.mg "max" = none) (ha : Ev X a σ s x) (hb : Ev X b σ s y) (hc : X.calm = true := by rfl) (hg : Gl X "max" := by rfl) (he : starEach [a, b] X.env = (false, eval a X.env) :: starEach [b] X.env := by rfl) (he2 : starEach [b] X.env = (false, eval b X.env) :: starEach [] X.env := by rfl) (hpl : (backTo pos (starEach [b] X.env)).any (·.1) = false := by rfl) : Ev X (.Call (.Name "max" p0) [a, b] [] pos) σ s (max x y) := fun s1 k Q q =>
  we_of (pe_callB (call_max2 hc) hg hm (by decide +kernel) (pa_cons pe_we (pa_cons pe_we pa_nil he2) he) (he := he) (hpl := hpl)) (ha s1 k _ fun v s2 k2 r2 => hb s2 (k.trans k2) _ fun u s3 k3 r3 =>
    ⟨x, y, by rw [show v = V.int x from r2, show u = V.int y from r3], q _ s3 (k2.trans k3) (by
      show V.int _ = V.int _
      by_cases h : y > x
      · rw [if_pos h, Int.max_eq_right (by omega)]
      · rw [if_neg h, Int.max_eq_left (by omega)])⟩)
theorem ev_T1 {T : String} {n : Str} {r : List V → Hp → VK → Prop} {x : β} {y : α} (hc : CallR X (.type T) r) (hg : Gl X n) (hm : X.mg n = none) (hv : bootBuiltins n = some (.type T)) (ha : Ev X e σ s x)
    (hr : ∀ (v : V) (s2 : S), rep X.K s2.F v x → ∀ Q : VK, (∀ w s3, Ex s2 s3 → rep X.K s3.F w y → Q w s3.H) → r [v] s2.H Q) (hn : n ≠ "__name__" := by decide) (hdb : (n == ("__debug__" : Str)) = false := by decide)
    (he : starEach [e] X.env = (false, eval e X.env) :: starEach [] X.env := by rfl) (hpl : (backTo pos (starEach [] X.env)).any (·.1) = false := by rfl) : Ev X (.Call (.Name n p0) [e] [] pos) σ s y := fun s1 k Q q =>
  we_of (pe_callTy hc hg hm hv (pa_cons pe_we pa_nil he) hn hdb he hpl) (ha s1 k _ fun v s2 k2 r2 => hr v s2 r2 Q fun w s3 k3 r3 => q w s3 (k2.trans k3) r3)
theorem ev_intB {x : Bool} (hm : X.mg "int" = none) (ha : Ev X e σ s x) (hg : Gl X "int" := by rfl) (he : starEach [e] X.env = (false, eval e X.env) :: starEach [] X.env := by rfl) (hpl : (backTo pos (starEach [] X.env)).any (·.1) = false := by rfl) : Ev X (.Call (.Name "int" p0) [e] [] pos) σ s (if x = true then (1 : Int) else 0) :=
  ev_T1 call_int1 hg hm (by decide +kernel) ha (fun v s2 r2 Q q => .inr ⟨x, by rw [show v = V.bl x from r2], q _ s2 (Ex.refl _) rfl⟩) (he := he) (hpl := hpl)
theorem ev_intS {x : Str} {n : Int} (hm : X.mg "int" = none) (ha : Ev X e σ s x) (h : PySem.intText? x = some n) (hl : x.length ≤ 640) (hg : Gl X "int" := by rfl) (he : starEach [e] X.env = (false, eval e X.env) :: starEach [] X.env := by rfl) (hpl : (backTo pos (starEach [] X.env)).any (·.1) = false := by rfl) : Ev X (.Call (.Name "int" p0) [e] [] pos) σ s n :=
  ev_T1 call_int_str hg hm (by decide +kernel) ha (fun v s2 r2 Q q => ⟨x, n, by rw [show v = V.str x from r2], h, hl, q _ s2 (Ex.refl _) rfl⟩) (he := he) (hpl := hpl)
theorem ev_strI {x : Int} (hm : X.mg "str" = none) (h : x.natAbs.log2 < 1920) (ha : Ev X e σ s x) (hg : Gl X "str" := by rfl) (he : starEach [e] X.env = (false, eval e X.env) :: starEach [] X.env := by rfl) (hpl : (backTo pos (starEach [] X.env)).any (·.1) = false := by rfl) : Ev X (.Call (.Name "str" p0) [e] [] pos) σ s (toString x : Str) :=
  ev_T1 call_str_int hg hm (by decide +kernel) ha (fun v s2 r2 Q q => ⟨x, by rw [show v = V.int x from r2], h, q _ s2 (Ex.refl _) rfl⟩) (he := he) (hpl := hpl)
end
end Dy

namespace Dy
open PySem PySem.Spec L2
open PyProof.Rows hiding St
open Enc (rep)
open Flat (toV)
open EncA (repA)

section
variable {α β γ δ ζ : Type} [Enc α] [Enc β] [Enc γ] [Enc δ] [Enc ζ] {X : Cx} {σ : St} {s t : S} {e a b c : Expr} {es : List Expr} {pos p0 p1 p2 p3 : Pos}

def EvE (X : Cx) (es : List Expr) (σ : St) (s : S) (xs : List α) : Prop := ∀ s1, Ex s s1 → ∀ Q : List V → Hp → Prop, (∀ vs s2, Ex s1 s2 → Reps X.K s2.F vs xs → Q vs s2.H) → WA X es σ s1.H Q
theorem ee_nil : EvE X [] σ s ([] : List α) := fun s1 k Q q => wa_of pa_nil (q [] s1 (Ex.refl _) trivial)
theorem ee_cons {x : α} {xs : List α} (h : Ev X e σ s x) (hr : EvE X es σ s xs) (hs : starEach (e :: es) X.env = (false, eval e X.env) :: starEach es X.env := by rfl) : EvE X (e :: es) σ s (x :: xs) := fun s1 k Q q =>
  wa_of (pa_cons pe_we pa_wa hs) (h s1 k _ fun v s2 k2 r2 => hr s2 (k.trans k2) _ fun vs s3 k3 r3 => q _ s3 (k2.trans k3) ⟨Enc.mono k3.f r2, r3⟩)
theorem own_new {K : PySem.W.Frag} {p : Addr} {vs : List V} {xs : List α} (h : s.H p = none) (r : Reps K s.F vs xs) : Own K (s.newO p (.lst vs) h) p xs := ⟨(fF h : s.F p = none), vs, upd_same, r⟩
theorem en_list {xs : List α} (h : EvE X es σ s xs) (hz : xs.length ≤ sizeLine := by decide) : EvN X (.List es pos) σ s xs := fun s1 k Q q =>
  we_of (pe_lst pa_wa) (h s1 k _ fun vs s2 k2 r2 => ⟨by rw [r2.len]; exact hz, fun p hp => q p (s2.newO p (.lst vs) hp) (k2.trans (Ex.newO hp)) (fr_back k2 hp) (own_new hp r2)⟩)
theorem tup_new {K : PySem.W.Frag} {p : Addr} {vs : List V} (h : s.H p = none) : SqT K (s.newF p (.tup vs) h).F p vs := .inl (.inl upd_same)
theorem ev_tu {xs : List α} (h : EvE X es σ s xs) (hz : xs.length ≤ sizeLine := by decide) {n} : Ev X (.Tuple es n pos) σ s (⟨xs⟩ : Tu α) := fun s1 k Q q =>
  we_of (pe_tup pa_wa) (h s1 k _ fun vs s2 k2 r2 => ⟨by rw [r2.len]; exact hz, fun p hp => q _ (s2.newF p (.tup vs) hp) (k2.trans (Ex.newF hp)) ⟨p, vs, rfl, tup_new hp, r2.mono (Ex.newF hp).f⟩⟩)
theorem ev_t1 {x : α} {n} (h : EvA X es σ s (x, ())) : Ev X (.Tuple es n pos) σ s (⟨x⟩ : T1 α) := fun s1 k Q q =>
  we_of (pe_tup pa_wa) (h s1 k _ fun vs s2 k2 r2 => by
    obtain ⟨v1, _, rfl, r1, rfl⟩ := r2
    refine ⟨show _ ≤ 2 ^ 24 by simp, fun p hp => q _ (s2.newF p _ hp) (k2.trans (Ex.newF hp)) ⟨p, v1, rfl, tup_new hp, Enc.mono (Ex.newF hp).f r1⟩⟩)
theorem ev_t2 {x : α} {y : β} {n} (h : EvA X es σ s (x, y, ())) : Ev X (.Tuple es n pos) σ s (x, y) := fun s1 k Q q =>
  we_of (pe_tup pa_wa) (h s1 k _ fun vs s2 k2 r2 => by
    obtain ⟨v1, _, rfl, r1, v2, _, rfl, r2, rfl⟩ := r2
    refine ⟨show _ ≤ 2 ^ 24 by simp, fun p hp => q _ (s2.newF p _ hp) (k2.trans (Ex.newF hp)) ⟨p, v1, v2, rfl, tup_new hp, Enc.mono (Ex.newF hp).f r1, Enc.mono (Ex.newF hp).f r2⟩⟩)
theorem ev_t3 {x : α} {y : β} {z : γ} {n} (h : EvA X es σ s (x, y, z, ())) : Ev X (.Tuple es n pos) σ s (⟨x, y, z⟩ : T3 α β γ) := fun s1 k Q q =>
  we_of (pe_tup pa_wa) (h s1 k _ fun vs s2 k2 r2 => by
    obtain ⟨v1, _, rfl, r1, v2, _, rfl, r2, v3, _, rfl, r3, rfl⟩ := r2
    refine ⟨show _ ≤ 2 ^ 24 by simp, fun p hp => q _ (s2.newF p _ hp) (k2.trans (Ex.newF hp)) ⟨p, v1, v2, v3, rfl, tup_new hp, Enc.mono (Ex.newF hp).f r1, Enc.mono (Ex.newF hp).f r2, Enc.mono (Ex.newF hp).f r3⟩⟩)
theorem ev_t4 {x : α} {y : β} {z : γ} {u : δ} {n} (h : EvA X es σ s (x, y, z, u, ())) : Ev X (.Tuple es n pos) σ s (⟨x, y, z, u⟩ : T4 α β γ δ) := fun s1 k Q q =>
  we_of (pe_tup pa_wa) (h s1 k _ fun vs s2 k2 r2 => by
    obtain ⟨v1, _, rfl, r1, v2, _, rfl, r2, v3, _, rfl, r3, v4, _, rfl, r4, rfl⟩ := r2
    refine ⟨show _ ≤ 2 ^ 24 by simp, fun p hp => q _ (s2.newF p _ hp) (k2.trans (Ex.newF hp)) ⟨p, v1, v2, v3, v4, rfl, tup_new hp, Enc.mono (Ex.newF hp).f r1, Enc.mono (Ex.newF hp).f r2, Enc.mono (Ex.newF hp).f r3, Enc.mono (Ex.newF hp).f r4⟩⟩)
theorem ev_t5 {x : α} {y : β} {z : γ} {u : δ} {w : ζ} {n} (h : EvA X es σ s (x, y, z, u, w, ())) : Ev X (.Tuple es n pos) σ s (⟨x, y, z, u, w⟩ : T5 α β γ δ ζ) := fun s1 k Q q =>
  we_of (pe_tup pa_wa) (h s1 k _ fun vs s2 k2 r2 => by
    obtain ⟨v1, _, rfl, r1, v2, _, rfl, r2, v3, _, rfl, r3, v4, _, rfl, r4, v5, _, rfl, r5, rfl⟩ := r2
    refine ⟨show _ ≤ 2 ^ 24 by simp, fun p hp => q _ (s2.newF p _ hp) (k2.trans (Ex.newF hp)) ⟨p, v1, v2, v3, v4, v5, rfl, tup_new hp, Enc.mono (Ex.newF hp).f r1, Enc.mono (Ex.newF hp).f r2, Enc.mono (Ex.newF hp).f r3, Enc.mono (Ex.newF hp).f r4, Enc.mono (Ex.newF hp).f r5⟩⟩)

theorem en_T1 {n : Str} {T : String} {r : List V → Hp → VK → Prop} {xs : List β} {ys : List α} (hc : CallR X (.type T) r) (hg : Gl X n) (hm : X.mg n = none) (hv : bootBuiltins n = some (.type T)) (ha : EvR X e σ s xs)
    (hr : ∀ (v : V) (s2 : S), RepR X.K s2 v xs → ∀ Q : VK, (∀ p s3, Ex s2 s3 → s2.H p = none → Own X.K s3 p ys → Q (.ref p) s3.H) → r [v] s2.H Q) (hn : n ≠ "__name__" := by decide) (hdb : (n == ("__debug__" : Str)) = false := by decide)
    (he : starEach [e] X.env = (false, eval e X.env) :: starEach [] X.env := by rfl) (hpl : (backTo pos (starEach [] X.env)).any (·.1) = false := by rfl) : EvN X (.Call (.Name n p0) [e] [] pos) σ s ys := fun s1 k Q q =>
  we_of (pe_callTy hc hg hm hv (pa_cons pe_we pa_nil he) hn hdb he hpl) (ha s1 k _ fun v s2 k2 r2 => hr v s2 r2 Q fun w s3 k3 n3 r3 => q w s3 (k2.trans k3) (fr_back k2 n3) r3)
theorem en_copy {xs : List α} (hm : X.mg "list" = none) (ha : EvR X e σ s xs) (hg : Gl X "list" := by rfl) (he : starEach [e] X.env = (false, eval e X.env) :: starEach [] X.env := by rfl) (hpl : (backTo pos (starEach [] X.env)).any (·.1) = false := by rfl) : EvN X (.Call (.Name "list" p0) [e] [] pos) σ s xs :=
  en_T1 call_list_of hg hm (by decide +kernel) ha (fun v s2 r2 Q q => by
    obtain ⟨p, vs, rfl, h1, h2⟩ := r2
    exact ⟨p, vs, rfl, .inl h1, fun l hl => q l (s2.newO l _ hl) (Ex.newO hl) hl (own_new hl h2)⟩) (he := he) (hpl := hpl)
theorem en_copyT {xs : Tu α} (hm : X.mg "list" = none) (ha : Ev X e σ s xs) (hg : Gl X "list" := by rfl) (he : starEach [e] X.env = (false, eval e X.env) :: starEach [] X.env := by rfl) (hpl : (backTo pos (starEach [] X.env)).any (·.1) = false := by rfl) : EvN X (.Call (.Name "list" p0) [e] [] pos) σ s xs.l := fun s1 k Q q =>
  we_of (pe_callTy call_list_of hg hm (by decide +kernel) (pa_cons pe_we pa_nil he) (he := he) (hpl := hpl)) (ha s1 k _ fun v s2 k2 r2 => by
    obtain ⟨p, vs, rfl, h1, h2⟩ := r2
    exact ⟨p, vs, rfl, .inr (sqt_mono s2.sub h1), fun l hl => q l (s2.newO l _ hl) (k2.trans (Ex.newO hl)) (fr_back k2 hl) (own_new hl h2)⟩)
theorem ev_tuple {xs : List α} (hm : X.mg "tuple" = none) (ha : EvR X e σ s xs) (hg : Gl X "tuple" := by rfl) (he : starEach [e] X.env = (false, eval e X.env) :: starEach [] X.env := by rfl) (hpl : (backTo pos (starEach [] X.env)).any (·.1) = false := by rfl) : Ev X (.Call (.Name "tuple" p0) [e] [] pos) σ s (⟨xs⟩ : Tu α) := fun s1 k Q q =>
  we_of (pe_callTy call_tuple_of hg hm (by decide +kernel) (pa_cons pe_we pa_nil he) (he := he) (hpl := hpl)) (ha s1 k _ fun v s2 k2 r2 => by
    obtain ⟨p, vs, rfl, h1, h2⟩ := r2
    exact ⟨p, vs, rfl, .inl ⟨h1, fun l hl => q _ (s2.newF l _ hl) (k2.trans (Ex.newF hl)) ⟨l, vs, rfl, tup_new hl, h2.mono (Ex.newF hl).f⟩⟩⟩)
theorem ev_tupleT {xs : Tu α} (hm : X.mg "tuple" = none) (ha : Ev X e σ s xs) (hg : Gl X "tuple" := by rfl) (he : starEach [e] X.env = (false, eval e X.env) :: starEach [] X.env := by rfl) (hpl : (backTo pos (starEach [] X.env)).any (·.1) = false := by rfl) : Ev X (.Call (.Name "tuple" p0) [e] [] pos) σ s xs := fun s1 k Q q =>
  we_of (pe_callTy call_tuple_of hg hm (by decide +kernel) (pa_cons pe_we pa_nil he) (he := he) (hpl := hpl)) (ha s1 k _ fun v s2 k2 r2 => by
    obtain ⟨p, vs, rfl, h1, h2⟩ := r2
    exact ⟨p, vs, rfl, .inr ⟨sqt_mono s2.sub h1, q _ s2 k2 ⟨p, vs, rfl, h1, h2⟩⟩⟩)
def rng (a b : Int) : List Int := (List.range (b - a).toNat).map fun i : Nat => a + (i : Int)
theorem rgV_rng (a b : Int) : rgV a b = (rng a b).map V.int := by
  unfold rgV rng
  rw [List.map_map]; rfl
theorem en_listRg1 {n : Int} (hm : X.mg "list" = none) (hr : X.mg "range" = none) (ha : Ev X e σ s n) (hz : RgOk 0 n) (hc : X.calm = true := by rfl) (hg : Gl X "list" := by rfl) (hgr : Gl X "range" := by rfl)
    (he : starEach [e] X.env = (false, eval e X.env) :: starEach [] X.env := by rfl) (he2 : starEach [.Call (.Name "range" p1) [e] [] p2] X.env = (false, eval (.Call (.Name "range" p1) [e] [] p2) X.env) :: starEach [] X.env := by rfl) :
    EvN X (.Call (.Name "list" p0) [.Call (.Name "range" p1) [e] [] p2] [] pos) σ s (rng 0 n) := fun s1 k Q q =>
  we_of (pe_listRg hc hg hm (prg_1 hgr hr pe_we he) he2) (ha s1 k _ fun v s2 k2 r2 => ⟨n, r2, hz, fun l hl => q l (s2.newO l _ hl) (k2.trans (Ex.newO hl)) (fr_back k2 hl) (own_new hl (by rw [rgV_rng]; exact Reps.of_flat _))⟩)
theorem en_listRg2 {m n : Int} (hm : X.mg "list" = none) (hr : X.mg "range" = none) (ha : Ev X a σ s m) (hb : Ev X b σ s n) (hz : RgOk m n) (hc : X.calm = true := by rfl) (hg : Gl X "list" := by rfl) (hgr : Gl X "range" := by rfl)
    (he : starEach [a, b] X.env = (false, eval a X.env) :: starEach [b] X.env := by rfl) (heb : starEach [b] X.env = (false, eval b X.env) :: starEach [] X.env := by rfl) (hpl : (backTo p2 (starEach [b] X.env)).any (·.1) = false := by rfl)
    (he2 : starEach [.Call (.Name "range" p1) [a, b] [] p2] X.env = (false, eval (.Call (.Name "range" p1) [a, b] [] p2) X.env) :: starEach [] X.env := by rfl) :
    EvN X (.Call (.Name "list" p0) [.Call (.Name "range" p1) [a, b] [] p2] [] pos) σ s (rng m n) := fun s1 k Q q =>
  we_of (pe_listRg hc hg hm (prg_2 hgr hr pe_we pe_we he heb hpl) he2) (ha s1 k _ fun v s2 k2 r2 => hb s2 (k.trans k2) _ fun u s3 k3 r3 => ⟨m, n, r2, r3, hz, fun l hl => q l (s3.newO l _ hl) ((k2.trans k3).trans (Ex.newO hl)) (fr_back (k2.trans k3) hl) (own_new hl (by rw [rgV_rng]; exact Reps.of_flat _))⟩)
def cut {τ : Type} (xs : List τ) (lo hi : Option Int) : List τ := (xs.drop (HT.sIx xs.length 0 lo)).take (HT.sIx xs.length xs.length hi - HT.sIx xs.length 0 lo)
theorem Reps.cut {K : PySem.W.Frag} {F : Hp} {vs : List V} {xs : List α} (r : Reps K F vs xs) (lo hi : Option Int) : Reps K F (cutV vs lo hi) (Dy.cut xs lo hi) := by
  unfold cutV Dy.cut
  rw [r.len]
  exact (r.drop _).take _
def EvO (X : Cx) (o : Option Expr) (σ : St) (s : S) (x : Option Int) : Prop := match o, x with
  | none, none => True
  | some e, some i => Ev X e σ s i
  | _, _ => False
theorem po_evo {o : Option Expr} {x : Option Int} (h : EvO X o σ s x) : ∃ t, PO X o t ∧ ∀ s1, Ex s s1 → ∀ Q : Option Int → Hp → Prop, (∀ s2, Ex s1 s2 → Q x s2.H) → t σ s1.H Q := by
  cases o with
  | none =>
    cases x with
    | none => exact ⟨_, po_none, fun s1 k Q q => q s1 (Ex.refl _)⟩
    | some i => exact h.elim
  | some e =>
    cases x with
    | none => exact h.elim
    | some i => exact ⟨_, po_some pe_we, fun s1 k Q q => (show Ev X e σ s i from h) s1 k _ fun v s2 k2 r2 => ⟨i, r2, q s2 k2⟩⟩
theorem eo_none : EvO X none σ s none := trivial
theorem eo_some {i : Int} (h : Ev X e σ s i) : EvO X (some e) σ s (some i) := h
theorem en_slice {xs : List α} {lo hi : Option Expr} {l h : Option Int} (ha : EvR X a σ s xs) (hl : EvO X lo σ s l) (hh : EvO X hi σ s h) : EvN X (.Subscript a (.Slice lo hi none p2) pos) σ s (cut xs l h) := fun s1 k Q q => by
  obtain ⟨tl, pl, ql⟩ := po_evo hl
  obtain ⟨th, ph, qh⟩ := po_evo hh
  refine we_of (pe_slice sl_list pe_we pl ph) (ha s1 k _ fun v s2 k2 r2 => ql s2 (k.trans k2) _ fun s3 k3 => qh s3 ((k.trans k2).trans k3) _ fun s4 k4 => ?_)
  obtain ⟨p, vs, rfl, h1, h2⟩ := (r2.ex k3).ex k4
  exact ⟨p, vs, rfl, h1, fun l hl => q l (s4.newO l _ hl) (((k2.trans k3).trans k4).trans (Ex.newO hl)) (fr_back ((k2.trans k3).trans k4) hl) (own_new hl (h2.cut _ _))⟩
theorem ev_sliceS {x : Str} {lo hi : Option Expr} {l h : Option Int} (hz : x.length ≤ sizeLine) (ha : Ev X a σ s x) (hl : EvO X lo σ s l) (hh : EvO X hi σ s h) : Ev X (.Subscript a (.Slice lo hi none p2) pos) σ s (cutS x l h) := fun s1 k Q q => by
  obtain ⟨tl, pl, ql⟩ := po_evo hl
  obtain ⟨th, ph, qh⟩ := po_evo hh
  exact we_of (pe_slice sl_str pe_we pl ph) (ha s1 k _ fun v s2 k2 r2 => ql s2 (k.trans k2) _ fun s3 k3 => qh s3 ((k.trans k2).trans k3) _ fun s4 k4 => ⟨x, r2, hz, q _ s4 ((k2.trans k3).trans k4) rfl⟩)
theorem op_catS : OpR X (binaryOp .Add) (fun x y H Q => ∃ l b xs zs, x = .ref l ∧ y = .ref b ∧ SqL X.K H l xs ∧ SqL X.K H b zs ∧ xs.length + zs.length ≤ sizeLine ∧ ∀ p, H p = none → Q (.ref p) (upd H p (.lst (xs ++ zs)))) := by
  intro pins s σ H x y v u Q I rx ry h
  obtain ⟨l, b, xs, zs, rfl, rfl, hH, hB, hz, q⟩ := h
  cases rx
  cases ry
  obtain ⟨its, r, ⟨⟨cls, dd, data, sl⟩, n, ho, hc, hd0, hd⟩, z1⟩ := I.list hH
  obtain ⟨its2, r2, ⟨⟨cls2, dd2, data2, sl2⟩, n2, ho2, hc2, hd02, hd2⟩, z2⟩ := I.list hB
  simp only at hc hd hc2 hd2 hd0 hd02
  subst hc hd hc2 hd2 hd0 hd02
  have e : its.toArray ++ its2.toArray = (its ++ its2).toArray := by simp
  have h1 := r.length
  have h2 := r2.length
  refine concat_meets ⟨_, ho, rfl⟩ ⟨_, ho2, rfl⟩ noFill_list_add seq_list_add PySem.F.slot_list_add PySem.F.entry_list_add (PySem.F.args_list_add_2 _ _) (list_addW l b its.toArray its2.toArray n n2 none none sl sl2 (by rw [List.size_toArray, List.size_toArray]; omega)) ⟨ho, ho2, ?_⟩
  rw [e]
  exact ⟨.ref _, _, I.lnew (t' := s.toks) (r.append r2) (by rw [List.length_append]; omega), rfl, q _ I.fresh⟩
theorem en_cat {xs ys : List α} (ha : EvR X a σ s xs) (hb : EvR X b σ s ys) (hz : xs.length + ys.length ≤ sizeLine) : EvN X (.BinOp a .Add b pos) σ s (xs ++ ys) := fun s1 k Q q =>
  we_of (pe_op op_catS pe_we pe_we) (ha s1 k _ fun v s2 k2 r2 => hb s2 (k.trans k2) _ fun u s3 k3 r3 => by
    obtain ⟨p, vs, rfl, h1, h2⟩ := r2.ex k3
    obtain ⟨p', ws, rfl, h3, h4⟩ := r3
    exact ⟨p, p', vs, ws, rfl, rfl, h1, h3, by rw [h2.len, h4.len]; exact hz, fun l hl => q l (s3.newO l _ hl) ((k2.trans k3).trans (Ex.newO hl)) (fr_back (k2.trans k3) hl) (own_new hl (h2.app h4))⟩)
def repl {τ : Type} (n : Int) (xs : List τ) : List τ := (List.replicate n.toNat xs).flatten
theorem Reps.repF {K : PySem.W.Frag} {F : Hp} {vs : List V} {xs : List α} (r : Reps K F vs xs) (n : Nat) : Reps K F (List.replicate n vs).flatten (List.replicate n xs).flatten := by
  induction n with
  | zero => exact trivial
  | succ n ih => rw [List.replicate_succ, List.replicate_succ, List.flatten_cons, List.flatten_cons]; exact r.app ih
def RepOk (n : Int) (l : Nat) : Prop := -(2 ^ 63) ≤ n ∧ n < 2 ^ 63 ∧ l * n.toNat ≤ sizeLine
theorem en_rep {xs : List α} {n : Int} (ha : EvN X a σ s xs) (hb : ∀ t, Ex s t → Ev X b σ t n) (hz : RepOk n xs.length) : EvN X (.BinOp a .Mult b pos) σ s (repl n xs) := fun s1 k Q q =>
  we_of (pe_op op_rep pe_we pe_we) (ha s1 k _ fun p s2 k2 n2 o2 => hb s2 (k.trans k2) s2 (Ex.refl _) _ fun u s3 k3 r3 => by
    obtain ⟨_, vs, h1, h2⟩ := o2.ex k3
    exact ⟨p, n, vs, rfl, r3, h1, hz.1, hz.2.1, by rw [h2.len]; exact hz.2.2, fun l hl => q l (s3.newO l _ hl) ((k2.trans k3).trans (Ex.newO hl)) (fr_back (k2.trans k3) hl) (own_new hl (h2.repF _))⟩)
theorem en_sorted {xs : List Int} (hm : X.mg "sorted" = none) (ha : EvR X e σ s xs) (hg : Gl X "sorted" := by rfl) (he : starEach [e] X.env = (false, eval e X.env) :: starEach [] X.env := by rfl) (hpl : (backTo pos (starEach [] X.env)).any (·.1) = false := by rfl) :
    EvN X (.Call (.Name "sorted" p0) [e] [] pos) σ s (xs.mergeSort (fun x y => decide (x ≤ y))) := fun s1 k Q q =>
  we_of (pe_callB cr_sortedI hg hm (by decide +kernel) (pa_cons pe_we pa_nil he) (he := he) (hpl := hpl)) (ha s1 k _ fun v s2 k2 r2 => by
    obtain ⟨p, vs, rfl, h1, h2⟩ := r2
    rw [h2.flat] at h1
    refine ⟨p, xs, rfl, h1, fun ys l hp hs hl => ?_⟩
    have e1 : ys = xs.mergeSort (fun x y => decide (x ≤ y)) := by
      refine List.Perm.eq_of_pairwise (le := fun x y : Int => x ≤ y) (fun a b _ _ h h' => Int.le_antisymm h h') hs ?_ (hp.trans (List.mergeSort_perm _ _).symm)
      have := List.pairwise_mergeSort (le := fun x y : Int => decide (x ≤ y)) (fun a b c h1 h2 => by simp at *; omega) (fun a b => by simp; omega) xs
      exact this.imp (by simp)
    subst e1
    exact q l (s2.newO l _ hl) (k2.trans (Ex.newO hl)) (fr_back k2 hl) (own_new hl (Reps.of_flat _)))
theorem en_split {x y : Str} (ha : Ev X a σ s x) (hb : Ev X b σ s y) (h1 : (y.length == 0) = false) (h2 : x.length + 2 ≤ sizeLine) (hs : starEach [b] X.env = [(false, eval b X.env)] := by rfl) (hbase : attributeBase a "split" X.env (eval a X.env) = eval a X.env := by rfl) (hline : (p1.endLine == pos.line) = true := by rfl) :
    EvN X (.Call (.Attribute a "split" p1) [b] [] pos) σ s (Txt.split x y) := fun s1 k Q q =>
  we_of (pe_split pe_we pe_we hs hbase hline) (ha s1 k _ fun v s2 k2 r2 => ⟨⟨x, r2⟩, hb s2 (k.trans k2) _ fun u s3 k3 r3 => ⟨x, y, r2, by rw [show u = V.str y from r3], h1, h2, fun l hl =>
    q l (s3.newO l _ hl) ((k2.trans k3).trans (Ex.newO hl)) (fr_back (k2.trans k3) hl) (own_new hl (Reps.of_flat _))⟩⟩)
def JnOk (x : Str) (ys : List Str) : Prop := (ys.map (·.length)).sum + ys.length * x.length ≤ 16777216
theorem ev_join {x : Str} {ys : List Str} (ha : Ev X a σ s x) (hb : EvR X b σ s ys) (h : JnOk x ys) (hs : starEach [b] X.env = [(false, eval b X.env)] := by rfl) (hbase : attributeBase a "join" X.env (eval a X.env) = eval a X.env := by rfl) (hline : (p1.endLine == pos.line) = true := by rfl) :
    Ev X (.Call (.Attribute a "join" p1) [b] [] pos) σ s (Txt.join x ys) := fun s1 k Q q =>
  we_of (pe_join pe_we pe_we hs hbase hline) (ha s1 k _ fun v s2 k2 r2 => ⟨⟨x, r2⟩, hb s2 (k.trans k2) _ fun u s3 k3 r3 => by
    obtain ⟨p, vs, rfl, h1, h2⟩ := r3
    obtain rfl := h2.flat
    exact ⟨x, p, ys, r2, rfl, .inl h1, h, q _ s3 (k2.trans k3) rfl⟩⟩)
def ixOf {τ : Type} [DecidableEq τ] (x : τ) : List τ → Option Nat
  | [] => none
  | y :: ys => if y = x then some 0 else (ixOf x ys).map (· + 1)
theorem ixOf_some {τ : Type} [DecidableEq τ] {x : τ} : ∀ {ys : List τ} {j : Nat}, ixOf x ys = some j → ys[j]? = some x ∧ ∀ m z, m < j → ys[m]? = some z → z ≠ x
  | [], _, h => by cases h
  | y :: ys, j, h => by
    unfold ixOf at h
    split at h
    · rename_i e; cases h; exact ⟨by simp [e], fun m z hm => absurd hm (Nat.not_lt_zero _)⟩
    · rename_i e
      obtain ⟨i, h1, rfl⟩ := Option.map_eq_some_iff.mp h
      obtain ⟨h2, h3⟩ := ixOf_some h1
      refine ⟨by simpa using h2, fun m z hm hz => ?_⟩
      cases m with
      | zero => simp at hz; subst hz; exact e
      | succ m => exact h3 m z (by omega) (by simpa using hz)
theorem ev_index {ε : Type} [Eqs ε] [DecidableEq ε] {x : ε} {xs : List ε} {j : Nat} (ha : EvR X a σ s xs) (hb : Ev X b σ s x) (h : ixOf x xs = some j)
    (hbase : attributeBase a "index" X.env (eval a X.env) = eval a X.env := by rfl)
    (hfew : ((backTo pos (starEach [b] X.env)).all (fun x => !x.1) && (backToKw pos (keywordEach [] X.env)).all (fun x => x.1.isSome) && decide (([b] : List Expr).length + ([] : List Keyword).length + (if ([] : List Keyword).isEmpty then 0 else 1) < 30)) = true := by rfl)
    (hline : (p1.endLine == pos.line) = true := by rfl) (hs : starEach [b] X.env = (false, eval b X.env) :: starEach [] X.env := by rfl) (hplain : (backTo pos (starEach [] X.env)).any (·.1) = false := by rfl) :
    Ev X (.Call (.Attribute a "index" p1) [b] [] pos) σ s (j : Int) := fun s1 k Q q =>
  we_of (pe_bm PySem.F.plainAttrs_list PySem.F.slot_list_index PySem.F.type_list_index mt_index pe_we (pa_cons pe_we pa_nil hs) hbase hfew hline hs hplain) (ha s1 k _ fun v s2 k2 r2 => by
    obtain ⟨p, vs, rfl, h1, h2⟩ := r2
    obtain rfl := h2.flat
    refine ⟨.inl ⟨rfl, _, h1⟩, hb s2 (k.trans k2) _ fun u s3 k3 r3 => ?_⟩
    rw [Flat.iff.mp r3]
    obtain ⟨h3, h4⟩ := ixOf_some h
    refine ⟨p, _, toV x, j, toV x, rfl, rfl, sql_mono k3.h h1, Flat.flat x, flat_all xs, by rw [List.getElem?_map, h3]; rfl, (Flat.inj x x).mpr rfl, fun m z hm hz => ?_, q _ s3 (k2.trans k3) rfl⟩
    rw [List.getElem?_map] at hz
    obtain ⟨y, h5, rfl⟩ := Option.map_eq_some_iff.mp hz
    exact Bool.eq_false_iff.mpr fun z => h4 m y hm h5 ((Flat.inj y x).mp z))

structure Cal (P : Program) (w : World) (K : PySem.W.Frag) (mg : Str → Option Value) (base : Heap) (CX : CXT) (k : Nat) (x : Str) (q : Sp) : Prop where
  ex : ∃ (f : Addr) (fd : FuncData) (ps : List Str), FnOk P w K mg base CX k f fd ps q ∧ mg x = some (.ref f) ∧ PySem.W.keepIn K (.ref f) = true ∧ Binds K fd ps []
theorem pe_c0 {n : Str} {k j : Nat} {q : Sp} {ta : TA} (C : Cal X.prog X.w X.K X.mg X.base CX0 k n q) (hr : Room j X.A) (hk : k ≤ j) (hg : Gl X n) (ha : PA X (e :: es) ta) (hdb : (n == ("__debug__" : Str)) = false := by decide)
    (he : starEach (e :: es) X.env = (false, eval e X.env) :: starEach es X.env := by rfl) (hpl : (backTo pos (starEach es X.env)).any (·.1) = false := by rfl) : PE X (.Call (.Name n p0) (e :: es) [] pos) (tCall q [] E0 ta) := by
  obtain ⟨f, fd, ps, F, hm, kp, b⟩ := C.ex
  exact pe_call F (hr.mono hk) hg hm kp b .nil pass0 ha hdb he hpl
def sp {A : Type} [EncA A] {ρ : Type} [Enc ρ] (K : PySem.W.Frag) (m : A → Option ρ) : Sp := fun vs H Q _ => ∃ (s : S) (x : A) (r : ρ), s.H = H ∧ repA K s.F vs x ∧ m x = some r ∧ ∀ v s', Ex s s' → rep K s'.F v r → Q v s'.H
def spN {A : Type} [EncA A] {ρ : Type} [Enc ρ] (K : PySem.W.Frag) (m : A → Option (List ρ)) : Sp := fun vs H Q _ => ∃ (s : S) (x : A) (r : List ρ), s.H = H ∧ repA K s.F vs x ∧ m x = some r ∧ ∀ p s', Ex s s' → s.H p = none → Own K s' p r → Q (.ref p) s'.H
theorem ev_call {A : Type} [EncA A] {m : A → Option α} {n : Str} {k j : Nat} {x : A} {r : α} (C : Cal X.prog X.w X.K X.mg X.base CX0 k n (sp X.K m)) (hr : Room j X.A) (hk : k ≤ j) (ha : EvA X (e :: es) σ s x) (h : m x = some r) (hg : Gl X n := by rfl)
    (hdb : (n == ("__debug__" : Str)) = false := by decide) (he : starEach (e :: es) X.env = (false, eval e X.env) :: starEach es X.env := by rfl) (hpl : (backTo pos (starEach es X.env)).any (·.1) = false := by rfl) : Ev X (.Call (.Name n p0) (e :: es) [] pos) σ s r := fun s1 k1 Q q =>
  we_of (pe_c0 C hr hk hg pa_wa hdb he hpl) (ha s1 k1 _ fun vs s2 k2 r2 => ⟨s2, x, r, rfl, by rw [List.append_nil]; exact r2, h, fun v s3 k3 r3 => q v s3 (k2.trans k3) r3⟩)
theorem en_call {A : Type} [EncA A] {m : A → Option (List α)} {n : Str} {k j : Nat} {x : A} {r : List α} (C : Cal X.prog X.w X.K X.mg X.base CX0 k n (spN X.K m)) (hr : Room j X.A) (hk : k ≤ j) (ha : EvA X (e :: es) σ s x) (h : m x = some r) (hg : Gl X n := by rfl)
    (hdb : (n == ("__debug__" : Str)) = false := by decide) (he : starEach (e :: es) X.env = (false, eval e X.env) :: starEach es X.env := by rfl) (hpl : (backTo pos (starEach es X.env)).any (·.1) = false := by rfl) : EvN X (.Call (.Name n p0) (e :: es) [] pos) σ s r := fun s1 k1 Q q =>
  we_of (pe_c0 C hr hk hg pa_wa hdb he hpl) (ha s1 k1 _ fun vs s2 k2 r2 => ⟨s2, x, r, rfl, by rw [List.append_nil]; exact r2, h, fun v s3 k3 n3 r3 => q v s3 (k2.trans k3) (fr_back k2 n3) r3⟩)
end
end Dy

namespace Dy
open PySem PySem.Spec L2
open PyProof.Rows hiding St
open Enc (rep)
open Flat (toV)
open EncA (repA)

noncomputable def chk {α : Type} (c : Prop) (m : Option α) : Option α := open Classical in if c then m else none
theorem chk_pos {α : Type} {c : Prop} {m : Option α} (h : c) : chk c m = m := by unfold chk; exact if_pos h
theorem chkE {α : Type} {c : Prop} {m : Option α} {r : α} (h : chk c m = some r) : c ∧ m = some r := by
  unfold chk at h
  split at h
  · rename_i hc; exact ⟨hc, h⟩
  · cases h
def lt {α β : Type} (x : α) (f : α → Option β) : Option β := f x
theorem ltE {α β : Type} {x : α} {f : α → Option β} {r : β} (h : lt x f = some r) : ∃ y, y = x ∧ f y = some r := ⟨x, rfl, h⟩
abbrev bnd {α β : Type} (m : Option α) (f : α → Option β) : Option β := m.bind f
theorem bndE {α β : Type} {m : Option α} {f : α → Option β} {r : β} (h : bnd m f = some r) : ∃ y, m = some y ∧ f y = some r := by
  cases m with
  | none => cases h
  | some y => exact ⟨y, rfl, h⟩
theorem iteE1 {α : Type} {b : Bool} {m k : Option α} {r : α} (h : (if b = true then m else k) = some r) (e : b = true) : m = some r := by rw [if_pos e] at h; exact h
theorem iteE2 {α : Type} {b : Bool} {m k : Option α} {r : α} (h : (if b = true then m else k) = some r) (e : b = false) : k = some r := by rw [if_neg (by rw [e]; exact Bool.false_ne_true)] at h; exact h
def andO (a : Bool) (m : Option Bool) : Option Bool := if a = true then m else some false
def orO (a : Bool) (m : Option Bool) : Option Bool := if a = true then some true else m
theorem andE {a r : Bool} {m : Option Bool} (h : andO a m = some r) : (a = true → m = some r) ∧ (a = false → r = false) := by
  unfold andO at h
  cases a with
  | true => exact ⟨fun _ => h, fun z => Bool.noConfusion z⟩
  | false => exact ⟨fun z => Bool.noConfusion z, fun _ => (Option.some.inj h).symm⟩
theorem orE {a r : Bool} {m : Option Bool} (h : orO a m = some r) : (a = false → m = some r) ∧ (a = true → r = true) := by
  unfold orO at h
  cases a with
  | false => exact ⟨fun _ => h, fun z => Bool.noConfusion z⟩
  | true => exact ⟨fun z => Bool.noConfusion z, fun _ => (Option.some.inj h).symm⟩
inductive Fl (β ρ : Type) where
  | nx (b : β)
  | rt (r : ρ)
def foldO {α β : Type} (f : β → α → Option β) : β → List α → Option β
  | b, [] => some b
  | b, x :: r => (f b x).bind fun b' => foldO f b' r
def foldF {α β ρ : Type} (f : β → α → Option (Fl β ρ)) : β → List α → Option (Fl β ρ)
  | b, [] => some (.nx b)
  | b, x :: r => (f b x).bind fun o => match o with
    | .nx b' => foldF f b' r
    | .rt v => some (.rt v)
def whileO {β : Type} (c : β → Option Bool) (f : β → Option β) : Nat → β → Option β
  | 0, _ => none
  | n + 1, b => (c b).bind fun t => if t = true then (f b).bind fun b' => whileO c f n b' else some b
def whileF {β ρ : Type} (c : β → Option Bool) (f : β → Option (Fl β ρ)) : Nat → β → Option (Fl β ρ)
  | 0, _ => none
  | n + 1, b => (c b).bind fun t => if t = true then (f b).bind fun o => (match o with
    | .nx b' => whileF c f n b'
    | .rt v => some (.rt v)) else some (.nx b)
def compO {α β : Type} (t : α → Option Bool) (f : α → Option β) : List α → Option (List β)
  | [] => some []
  | x :: r => (t x).bind fun b => if b = true then (f x).bind fun y => (compO t f r).bind fun ys => some (y :: ys) else compO t f r
theorem compO_pure {α β : Type} (t : α → Bool) (f : α → β) : ∀ xs : List α, compO (fun x => some (t x)) (fun x => some (f x)) xs = some ((xs.filter t).map f)
  | [] => rfl
  | x :: r => by
    unfold compO
    rw [Option.bind_some, compO_pure t f r, List.filter_cons]
    split
    · rfl
    · rfl
theorem compO_map {α β : Type} (f : α → β) : ∀ xs : List α, compO (fun _ => some true) (fun x => some (f x)) xs = some (xs.map f)
  | [] => rfl
  | x :: r => by
    unfold compO
    rw [Option.bind_some, compO_map f r]
    rfl
def mapO {α β : Type} (f : α → Option β) (xs : List α) : Option (List β) := compO (fun _ => some true) f xs

def WI (X : Cx) (tg iter : Expr) : TI := fun σ H R => ∀ (pins : List (Addr × Obj)) (s : Shared), Inv X pins σ H s →
  wpAny (model X.prog X.w) X.A (eval iter X.env) (fun v s1 => wpAny (model X.prog X.w) X.A (pyIter v) (PIE X pins σ tg R) X.xe s1) X.xe s
theorem pi_wi {X : Cx} {tg iter : Expr} : PI X tg iter (WI X tg iter) := ⟨fun pins s _ _ _ I h => h pins s I⟩
theorem wi_of {X : Cx} {tg iter : Expr} {t : TI} {σ : St} {H : Hp} {R : It → Hp → Prop} (h : PI X tg iter t) (q : t σ H R) : WI X tg iter σ H R := fun pins s I => h.run pins s σ H R I q
section
variable {α β γ δ : Type} [Enc α] [Enc β] [Enc γ] [Enc δ] {X : Cx} {σ : St} {s t : S} {e a b c tg : Expr} {es : List Expr} {pos p0 p1 p2 p3 : Pos}
structure Walk (K : PySem.W.Frag) (F : Hp) (J : It) (xs : List α) : Prop where
  go : ∀ (i : Nat) (t : S) (x : α), Fle F t.F → xs[i]? = some x → J.go i t.H ∧ ∀ v H', J.yld i t.H v H' → ∃ t' : S, t'.H = H' ∧ Ex t t' ∧ rep K t'.F v x
  stop : ∀ (i : Nat) (t : S), Fle F t.F → xs.length ≤ i → J.stop i t.H
def EvI (X : Cx) (tg e : Expr) (σ : St) (s : S) (xs : List α) : Prop := ∀ s1, Ex s s1 → ∀ R : It → Hp → Prop, (∀ J s2, Ex s1 s2 → Walk X.K s2.F J xs → R J s2.H) → WI X tg e σ s1.H R
theorem ei_list {xs : List α} (h : Ev X e σ s xs) : EvI X tg e σ s xs := fun s1 k R q =>
  wi_of (pi_list pe_we) (h s1 k _ fun v s2 k2 r2 => by
    obtain ⟨p, vs, rfl, h1, h2⟩ := r2
    refine ⟨p, rfl, ⟨vs, sql_mono s2.sub h1⟩, q _ s2 k2 ⟨fun i t x f hx => ?_, fun i t f hi => ⟨vs, sql_mono t.sub (sql_mono f h1), by rw [h2.len]; exact hi⟩⟩⟩
    obtain ⟨v, h3, h4⟩ := h2.get hx
    refine ⟨⟨vs, v, sql_mono t.sub (sql_mono f h1), h3⟩, fun w H' ⟨e1, hy⟩ => ⟨t, e1.symm, Ex.refl _, ?_⟩⟩
    have := hy vs (sql_mono t.sub (sql_mono f h1))
    rw [h3] at this
    cases this
    exact Enc.mono f h4)
theorem ei_tup {xs : Tu α} (h : Ev X e σ s xs) : EvI X tg e σ s xs.l := fun s1 k R q =>
  wi_of (pi_tup pe_we) (h s1 k _ fun v s2 k2 r2 => by
    obtain ⟨p, vs, rfl, h1, h2⟩ := r2
    refine ⟨p, rfl, ⟨vs, sqt_mono s2.sub h1⟩, q _ s2 k2 ⟨fun i t x f hx => ?_, fun i t f hi => ⟨vs, sqt_mono t.sub (sqt_mono f h1), by rw [h2.len]; exact hi⟩⟩⟩
    obtain ⟨v, h3, h4⟩ := h2.get hx
    refine ⟨⟨vs, v, sqt_mono t.sub (sqt_mono f h1), h3⟩, fun w H' ⟨e1, hy⟩ => ⟨t, e1.symm, Ex.refl _, ?_⟩⟩
    have := hy vs (sqt_mono t.sub (sqt_mono f h1))
    rw [h3] at this
    cases this
    exact Enc.mono f h4)
theorem rng_get {a b : Int} {i : Nat} {x : Int} (h : (rng a b)[i]? = some x) : i < (b - a).toNat ∧ x = a + (i : Int) := by
  unfold rng at h
  rw [List.getElem?_map] at h
  obtain ⟨j, h1, rfl⟩ := Option.map_eq_some_iff.mp h
  obtain ⟨h2, h3⟩ := List.getElem?_eq_some_iff.mp h1
  rw [List.length_range] at h2
  rw [List.getElem_range] at h3
  subst h3
  exact ⟨h2, rfl⟩
theorem rng_len (a b : Int) : (rng a b).length = (b - a).toNat := by unfold rng; rw [List.length_map, List.length_range]
theorem walk_rng {K : PySem.W.Frag} {F : Hp} {a b : Int} : Walk K F (Itr a (b - a).toNat) (rng a b) :=
  ⟨fun i t x f hx => ⟨(rng_get hx).1, fun v H' ⟨e1, e2⟩ => ⟨t, e1.symm, Ex.refl _, by rw [e2, (rng_get hx).2]; rfl⟩⟩, fun i t f hi => by rw [rng_len] at hi; exact hi⟩
def RgB (x : Int) : Prop := -(2 ^ 62) ≤ x ∧ x < 2 ^ 62
theorem ei_range1 {n : Int} (hm : X.mg "range" = none) (h : Ev X e σ s n) (hb : RgB n) (hg : Gl X "range" := by rfl) (hs : starEach [e] X.env = [(false, eval e X.env)] := by rfl) (hs2 : starEach [e] X.env = (false, eval e X.env) :: starEach [] X.env := by rfl) :
    EvI X tg (.Call (.Name "range" p0) [e] [] pos) σ s (rng 0 n) := fun s1 k R q =>
  wi_of (pi_range1 hg hm (pa_cons pe_we pa_nil hs2) hs) (h s1 k _ fun v s2 k2 r2 => ⟨n, by rw [show v = V.int n from r2], hb.1, hb.2, q _ s2 k2 (by
    have := walk_rng (K := X.K) (F := s2.F) (a := 0) (b := n)
    rw [Int.sub_zero] at this
    exact this)⟩)
theorem ei_range2 {m n : Int} (hm : X.mg "range" = none) (ha : Ev X a σ s m) (hb : Ev X b σ s n) (h1 : RgB m) (h2 : RgB n) (hg : Gl X "range" := by rfl) (hs : starEach [a, b] X.env = [(false, eval a X.env), (false, eval b X.env)] := by rfl) (hs2 : starEach [b] X.env = [(false, eval b X.env)] := by rfl)
    (hs3 : starEach [a, b] X.env = (false, eval a X.env) :: starEach [b] X.env := by rfl) (hs4 : starEach [b] X.env = (false, eval b X.env) :: starEach [] X.env := by rfl) :
    EvI X tg (.Call (.Name "range" p0) [a, b] [] pos) σ s (rng m n) := fun s1 k R q =>
  wi_of (pi_range2 hg hm (pa_cons pe_we (pa_cons pe_we pa_nil hs4) hs3) hs hs2) (ha s1 k _ fun v s2 k2 r2 => hb s2 (k.trans k2) _ fun u s3 k3 r3 => ⟨m, n, by rw [show v = V.int m from r2, show u = V.int n from r3], ⟨h1.1, h1.2, h2.1, h2.2⟩, q _ s3 (k2.trans k3) walk_rng⟩)
def chars (x : Str) : List Str := x.cps.toList.map fun c => ⟨#[c]⟩
theorem ei_str {x : Str} (h : Ev X e σ s x) : EvI X tg e σ s (chars x) := fun s1 k R q =>
  wi_of (pi_str pe_we) (h s1 k _ fun v s2 k2 r2 => ⟨x, r2, q _ s2 k2 ⟨fun i t y f hy => by
    unfold chars at hy
    rw [List.getElem?_map] at hy
    obtain ⟨c, h1, rfl⟩ := Option.map_eq_some_iff.mp hy
    have h1' : x.cps[i]? = some c := by simpa using h1
    refine ⟨?_, fun v H' ⟨e1, d, h2, h3⟩ => ⟨t, e1.symm, Ex.refl _, ?_⟩⟩
    · obtain ⟨z, _⟩ := Array.getElem?_eq_some_iff.mp h1'
      exact z
    · rw [h1'] at h2
      cases h2
      exact h3, fun i t f hi => by
    unfold chars at hi
    rw [List.length_map, Array.length_toList] at hi
    exact hi⟩⟩)
end

structure Tgt {α : Type} [Enc α] (K : PySem.W.Frag) (g : TG) (B : Hp → α → St → St → Prop) : Prop where
  run : ∀ (t : S) (v : V) (x : α) (σ : St) (Q : St → Hp → Prop), rep K t.F v x → (∀ σ2, B t.F x σ σ2 → Q σ2 t.H) → g v σ t.H Q
def BN {α : Type} [Enc α] (K : PySem.W.Frag) (j : Nat) : Hp → α → St → St → Prop := fun F x σ σ2 => ∃ v, rep K F v x ∧ σ2 = σ.set j (some v)
def B2 {α β : Type} [Enc α] [Enc β] (K : PySem.W.Frag) (i j : Nat) : Hp → α × β → St → St → Prop := fun F x σ σ2 => ∃ v w, rep K F v x.1 ∧ rep K F w x.2 ∧ σ2 = (σ.set i (some v)).set j (some w)
def B3 {α β γ : Type} [Enc α] [Enc β] [Enc γ] (K : PySem.W.Frag) (i j k : Nat) : Hp → T3 α β γ → St → St → Prop := fun F x σ σ2 => ∃ v w u, rep K F v x.a ∧ rep K F w x.b ∧ rep K F u x.c ∧ σ2 = ((σ.set i (some v)).set j (some w)).set k (some u)
theorem tg_n {α : Type} [Enc α] {K : PySem.W.Frag} {j : Nat} : Tgt (α := α) K (gName j) (BN K j) := ⟨fun t v x σ Q r h => h _ ⟨v, r, rfl⟩⟩
theorem tg_2 {α β : Type} [Enc α] [Enc β] {K : PySem.W.Frag} {i j : Nat} : Tgt (α := α × β) K (gTup K 2 (gCons (gName i) (gCons (gName j) gNil))) (B2 K i j) := ⟨fun t v x σ Q r h => by
  obtain ⟨p, v1, v2, rfl, h0, h1, h2⟩ := r
  exact ⟨p, _, rfl, sqt_mono t.sub h0, rfl, v1, _, rfl, v2, _, rfl, rfl, h _ ⟨v1, v2, h1, h2, rfl⟩⟩⟩
theorem tg_3 {α β γ : Type} [Enc α] [Enc β] [Enc γ] {K : PySem.W.Frag} {i j k : Nat} : Tgt (α := T3 α β γ) K (gTup K 3 (gCons (gName i) (gCons (gName j) (gCons (gName k) gNil)))) (B3 K i j k) := ⟨fun t v x σ Q r h => by
  obtain ⟨p, v1, v2, v3, rfl, h0, h1, h2, h3⟩ := r
  exact ⟨p, _, rfl, sqt_mono t.sub h0, rfl, v1, _, rfl, v2, _, rfl, v3, _, rfl, rfl, h _ ⟨v1, v2, v3, h1, h2, h3, rfl⟩⟩⟩

section
variable {α β : Type} [Enc α] [Enc β] {X : Cx} {σ : St} {s : S} {elt tg iter c : Expr} {ifs : List Expr} {scope : Scope} {own : List (Str × Nat)} {pos : Pos}
abbrev Blk (X : Cx) (scope : Scope) (s0 : Shared) (H0 : Hp) (C : Addr) (cl : List (Str × Addr)) (fp : List Addr) : Cx := X.blk s0 H0 scope (compEnvC scope cl C X.env) fp
theorem comp_read {xs : List α} {ys : List β} {t : α → Option Bool} {f : α → Option β} {g : TG} {B : Hp → α → St → St → Prop} {tt : TT} (hc : X.calm = true) (hN : X.N.Nodup) (hi : EvI X tg iter σ s xs) (ok : BlkOk X.N X.env.scope scope own)
    (hg : ∀ s0 H0 C cl fp, PG (Blk X scope s0 H0 C cl fp) tg g) (T : Tgt (α := α) X.K g B) (htt : ∀ s0 H0 C cl fp, PTs (Blk X scope s0 H0 C cl fp) ifs tt) (hf : compO t f xs = some ys) (hz : ys.length ≤ sizeLine)
    (hw : ∀ (F : Hp) (x : α) σ2, B F x (wipe σ (own.map (·.2))) σ2 → wipe σ2 (own.map (·.2)) = wipe σ (own.map (·.2)))
    (ht : ∀ (x : α) (b : Bool) (s1 : S) (σ2 : St) (Q : Bool → Hp → Prop), x ∈ xs → Ex s s1 → B s1.F x (wipe σ (own.map (·.2))) σ2 → t x = some b → (∀ s2, Ex s1 s2 → Q b s2.H) → tt σ2 s1.H Q)
    (he : ∀ (x : α) (y : β) (s1 : S) (σ2 : St), x ∈ xs → Ex s s1 → B s1.F x (wipe σ (own.map (·.2))) σ2 → t x = some true → f x = some y → ∀ s0 H0 C cl fp, Ev (Blk X scope s0 H0 C cl fp) elt σ2 s1 y)
    (s1 : S) (k : Ex s s1) (Q : VK) (q : ∀ p s2, Ex s1 s2 → s1.H p = none → Own X.K s2 p ys → Q (.ref p) s2.H) : tLc (WI X tg iter) g tt (fun σ H Q => ∀ s0 H0 C cl fp, WE (Blk X scope s0 H0 C cl fp) elt σ H Q) (own.map (·.2)) σ s1.H Q := by
  refine hi s1 k _ fun J s2 k2 W => ?_
  intro D hD
  refine ⟨fun i m H => ∃ (u : S) (pre : List β) (vs : List V), u.H = H ∧ m = xs.length - i ∧ Ex s2 u ∧ u.F D = none ∧ u.H D = some (.lst vs) ∧ Reps X.K u.F vs pre ∧ (∃ suf, compO t f (xs.drop i) = some suf ∧ pre ++ suf = ys), ⟨xs.length, s2.newO D (.lst []) hD, [], [], rfl, rfl, Ex.newO hD, (fF hD : s2.F D = none), upd_same, trivial, ys, hf, rfl⟩, ?_⟩
  rintro i m H ⟨u, pre, vs, rfl, rfl, ku, n1, n2, n3, suf, h1, h2⟩
  by_cases hi' : i < xs.length
  · right
    have hx : xs[i]? = some xs[i] := List.getElem?_eq_getElem hi'
    obtain ⟨g1, g2⟩ := W.go i u xs[i] ku.f hx
    refine ⟨g1, fun H' => ∃ m', m' < xs.length - i ∧ ∃ (u : S) (pre : List β) (vs : List V), u.H = H' ∧ m' = xs.length - (i + 1) ∧ Ex s2 u ∧ u.F D = none ∧ u.H D = some (.lst vs) ∧ Reps X.K u.F vs pre ∧ (∃ suf, compO t f (xs.drop (i + 1)) = some suf ∧ pre ++ suf = ys), fun H' z => z, fun v H' hy => ?_⟩
    obtain ⟨u', rfl, ku', rv⟩ := g2 v H' hy
    refine T.run u' v xs[i] _ _ rv fun σ2 hB => ⟨hw _ _ _ hB, ?_⟩
    rw [List.drop_eq_getElem_cons hi'] at h1
    unfold compO at h1
    cases hb : t xs[i] with
    | none => rw [hb] at h1; cases h1
    | some b =>
      rw [hb, Option.bind_some] at h1
      have mem : xs[i] ∈ xs := List.getElem_mem hi'
      have base : Ex s u' := (k.trans k2).trans (ku.trans ku')
      refine ht xs[i] b u' σ2 _ mem base hB hb fun u3 k3 => ?_
      have hlt : xs.length - (i + 1) < xs.length - i := by omega
      have kk : Ex u u3 := ku'.trans k3
      cases b with
      | false =>
        rw [if_neg Bool.false_ne_true] at h1 ⊢
        exact ⟨_, hlt, u3, pre, vs, rfl, rfl, ku.trans kk, kk.n _ _ n2 n1, kk.h _ _ n2, n3.mono kk.f, suf, h1, h2⟩
      | true =>
        rw [if_pos rfl] at h1 ⊢
        cases hfx : f xs[i] with
        | none => rw [hfx] at h1; cases h1
        | some y =>
          rw [hfx, Option.bind_some] at h1
          cases hr : compO t f (xs.drop (i + 1)) with
          | none => rw [hr] at h1; cases h1
          | some suf' =>
            rw [hr] at h1
            cases h1
            intro s0 H0 C cl fp
            refine he xs[i] y u' σ2 mem base hB hb hfx s0 H0 C cl fp u3 k3 _ fun w u4 k4 r4 => ?_
            have k5 : Ex u u4 := kk.trans k4
            have hD4 : u4.H D = some (.lst vs) := k5.h _ _ n2
            have hF4 : u4.F D = none := k5.n _ _ n2 n1
            have hlen : vs.length < sizeLine := by
              have e1 := n3.len
              have e2 : ys.length = pre.length + (suf'.length + 1) := by rw [← h2, List.length_append, List.length_cons]
              omega
            refine ⟨vs, hD4, hlen, _, hlt, u4.put D (.lst (vs ++ [w])) hF4, pre ++ [y], vs ++ [w], rfl, rfl, (ku.trans k5).mu1 (Mx.put hF4) hD, hF4, upd_same, (n3.mono k5.f).snoc r4, suf', rfl, by rw [List.append_assoc]; exact h2⟩
  · left
    have hd : xs.drop i = [] := List.drop_eq_nil_of_le (by omega)
    rw [hd] at h1
    cases h1
    refine ⟨W.stop i u ku.f (by omega), q D u (k2.trans ku) (fr_back k2 hD) ⟨n1, vs, n2, ?_⟩⟩
    rw [← h2, List.append_nil]
    exact n3
structure EvL (X : Cx) (elt tg iter : Expr) (ifs : List Expr) (scope : Scope) (σ : St) (s : S) (ys : List β) : Prop where
  calm : X.calm = true
  nd : X.N.Nodup
  fs : ∀ x, foldedSetIterable iter X.env x = pure x
  ex : ∃ (own : List (Str × Nat)) (g : TG) (tt : TT), BlkOk X.N X.env.scope scope own ∧ (∀ s0 H0 C cl fp, PG (Blk X scope s0 H0 C cl fp) tg g) ∧ (∀ s0 H0 C cl fp, PTs (Blk X scope s0 H0 C cl fp) ifs tt) ∧
    ∀ s1, Ex s s1 → ∀ Q : VK, (∀ p s2, Ex s1 s2 → s1.H p = none → Own X.K s2 p ys → Q (.ref p) s2.H) → tLc (WI X tg iter) g tt (fun σ H Q => ∀ s0 H0 C cl fp, WE (Blk X scope s0 H0 C cl fp) elt σ H Q) (own.map (·.2)) σ s1.H Q
theorem EvL.n {ys : List β} (h : EvL X elt tg iter ifs scope σ s ys) : EvN X (.ListComp elt [⟨tg, iter, ifs, 0⟩] scope pos) σ s ys := fun s1 k Q q => by
  obtain ⟨own, g, tt, h1, h2, h3, h4⟩ := h.ex
  exact we_of (pe_lc h.calm h.nd pi_wi h1 h2 h3 (fun s0 H0 C cl fp => ⟨fun pins s _ _ _ I h => h s0 H0 C cl fp pins s I⟩) h.fs) (h4 s1 k Q q)
theorem do_setL (i : Nat) {ys : List β} {n : Str} {py : Pos} {rest : List Stmt} {D : Ends} {spos : Pos} (h : EvL X elt tg iter ifs scope σ s ys) (k : ∀ p s1, Ex s s1 → s.H p = none → Own X.K s1 p ys → WSs X rest D (σ.set i (some (.ref p))) s1.H) (hk : X.env.scope.kind = .function) (hy : X.env.scope.names.lookup n = some .local)
    (hl : (py.line == pos.line) = true := by rfl) (ha : (scope.names.any fun (m, k) => m == n && (k == .local || k == .cell)) = false := by decide +kernel) (hi : X.N[i]? = some n := by rfl) :
    WSs X (.Assign [.Name n py] (.ListComp elt [⟨tg, iter, ifs, 0⟩] scope pos) spos :: rest) D σ s.H := by
  obtain ⟨own, g, tt, h1, h2, h3, h4⟩ := h.ex
  exact ws_of (pss_cons (ps_setLc (te := fun σ H Q => ∀ s0 H0 C cl fp, WE (Blk X scope s0 H0 C cl fp) elt σ H Q) h.calm h.nd hi hy (sw_true hk hy hl ha) pi_wi h1 h2 h3 (fun s0 H0 C cl fp => ⟨fun pins s _ _ _ I h => h s0 H0 C cl fp pins s I⟩) h.fs) pss_ws) (h4 s (Ex.refl _) (fun x H1 => WSs X rest D (σ.set i (some x)) H1) fun p s2 k2 n2 o2 => k p s2 k2 n2 o2)
theorem wipe_set {τ : St} {j : Nat} {o : Option V} : ∀ {vs : List Nat}, j ∈ vs → wipe (τ.set j o) vs = wipe τ vs
  | v :: vs, h => by
    show (wipe (τ.set j o) vs).set v none = (wipe τ vs).set v none
    by_cases e : j ∈ vs
    · rw [wipe_set e]
    · have : j = v := by
        rcases List.mem_cons.mp h with z | z
        · exact z
        · exact absurd z e
      subst this
      have : ∀ {ws : List Nat} {τ : St}, j ∉ ws → wipe (τ.set j o) ws = (wipe τ ws).set j o := by
        intro ws
        induction ws with
        | nil => intro τ _; rfl
        | cons a r ih =>
          intro τ h
          show (wipe (τ.set j o) r).set a none = ((wipe τ r).set a none).set j o
          rw [ih fun z => h (List.mem_cons_of_mem _ z), List.set_comm _ _ (fun z => h (by rw [z]; exact List.mem_cons_self))]
      rw [this e, List.set_set]
theorem wipe_wipe {τ : St} : ∀ {vs ws : List Nat}, (∀ v ∈ vs, v ∈ ws) → wipe (wipe τ vs) ws = wipe τ ws
  | [], _, _ => rfl
  | v :: vs, ws, h => by
    show wipe ((wipe τ vs).set v none) ws = wipe τ ws
    rw [wipe_set (h v List.mem_cons_self)]
    exact wipe_wipe fun u hu => h u (List.mem_cons_of_mem _ hu)
theorem en_comp0 {xs : List α} {ys : List β} {f : α → Option β} {j : Nat} {n : Str} {py : Pos} (hc : X.calm = true) (hN : X.N.Nodup) (hi : EvI X (.Name n py) iter σ s xs) (ok : BlkOk X.N X.env.scope scope own) (hj : X.N[j]? = some n)
    (hjo : j ∈ own.map (·.2)) (hg : ∀ s0 H0 C cl fp, PG (Blk X scope s0 H0 C cl fp) (.Name n py) (gName j)) (hf : mapO f xs = some ys) (hz : ys.length ≤ sizeLine)
    (he : ∀ (x : α) (y : β) (v : V) (s1 : S), x ∈ xs → Ex s s1 → rep X.K s1.F v x → f x = some y → ∀ s0 H0 C cl fp, Ev (Blk X scope s0 H0 C cl fp) elt ((wipe σ (own.map (·.2))).set j (some v)) s1 y)
    (hs : ∀ x, foldedSetIterable iter X.env x = pure x := by intro _; rfl) : EvL X elt (.Name n py) iter [] scope σ s ys :=
  ⟨hc, hN, hs, own, _, _, ok, hg, fun _ _ _ _ _ => pts_nil, fun s1 k Q q => comp_read (t := fun _ => some true) hc hN hi ok hg tg_n (fun _ _ _ _ _ => pts_nil) hf hz (fun F x σ2 ⟨v, _, e⟩ => by rw [e, wipe_set hjo]; exact wipe_wipe fun _ z => z)
    (fun x b s1 σ2 Q _ _ _ hb q => by cases hb; exact q s1 (Ex.refl _)) (fun x y s1 σ2 hx k ⟨v, r, e⟩ _ hfx => by subst e; exact he x y v s1 hx k r hfx) s1 k Q q⟩
theorem en_comp1 {xs : List α} {ys : List β} {t : α → Option Bool} {f : α → Option β} {j : Nat} {n : Str} {py : Pos} (hc : X.calm = true) (hN : X.N.Nodup) (hi : EvI X (.Name n py) iter σ s xs) (ok : BlkOk X.N X.env.scope scope own) (hj : X.N[j]? = some n)
    (hjo : j ∈ own.map (·.2)) (hg : ∀ s0 H0 C cl fp, PG (Blk X scope s0 H0 C cl fp) (.Name n py) (gName j)) (hf : compO t f xs = some ys) (hz : ys.length ≤ sizeLine)
    (ht : ∀ (x : α) (b : Bool) (v : V) (s1 : S), x ∈ xs → Ex s s1 → rep X.K s1.F v x → t x = some b → ∀ s0 H0 C cl fp, EvT (Blk X scope s0 H0 C cl fp) c ((wipe σ (own.map (·.2))).set j (some v)) s1 b)
    (he : ∀ (x : α) (y : β) (v : V) (s1 : S), x ∈ xs → Ex s s1 → rep X.K s1.F v x → t x = some true → f x = some y → ∀ s0 H0 C cl fp, Ev (Blk X scope s0 H0 C cl fp) elt ((wipe σ (own.map (·.2))).set j (some v)) s1 y)
    (hs : ∀ x, foldedSetIterable iter X.env x = pure x := by intro _; rfl) : EvL X elt (.Name n py) iter [c] scope σ s ys :=
  ⟨hc, hN, hs, own, _, _, ok, hg, fun s0 H0 C cl fp => pts_one ⟨fun pins s _ _ _ I h => h s0 H0 C cl fp pins s I⟩, fun s1 k Q q => comp_read (tt := fun σ H Q => ∀ s0 H0 C cl fp, WT (Blk X scope s0 H0 C cl fp) c σ H Q) hc hN hi ok hg tg_n (fun s0 H0 C cl fp => pts_one ⟨fun pins s _ _ _ I h => h s0 H0 C cl fp pins s I⟩) hf hz (fun F x σ2 ⟨v, _, e⟩ => by rw [e, wipe_set hjo]; exact wipe_wipe fun _ z => z)
    (fun x b s1 σ2 Q hx k ⟨v, r, e⟩ hb q => by subst e; intro s0 H0 C cl fp; exact ht x b v s1 hx k r hb s0 H0 C cl fp s1 (Ex.refl _) Q q) (fun x y s1 σ2 hx k ⟨v, r, e⟩ htx hfx => by subst e; exact he x y v s1 hx k r htx hfx) s1 k Q q⟩
end
end Dy

namespace Dy
open PySem PySem.Spec L2
open PyProof.Rows hiding St
open Enc (rep)
open Flat (toV)
open EncA (repA)

abbrev MD (D : Ends) (M : St → S → Prop) : Ends := { D with nx := fun σ H => ∃ s : S, s.H = H ∧ M σ s }
abbrev ND (D : Ends) : Ends := { D with nx := fun _ _ => False }
abbrev LD (D : Ends) (M : St → S → Prop) : Ends := { nx := fun σ H => ∃ s : S, s.H = H ∧ M σ s, rt := D.rt }
abbrev RD (Q : VK) : Ends := { nx := fun _ H' => Q .non H', rt := Q }
section
variable {α β γ δ : Type} [Enc α] [Enc β] [Enc γ] [Enc δ] {X : Cx} {σ : St} {s t : S} {e a b c tg iter : Expr} {es : List Expr} {pos p0 p1 p2 p3 : Pos} {D : Ends} {rest A B : List Stmt}
theorem do_nil (h : D.nx σ s.H) : WSs X [] D σ s.H := ws_of pss_nil h
theorem do_cons {st : Stmt} {ts : TS} (h : PS X st ts) (q : ts { D with nx := fun σ' H' => WSs X rest D σ' H' } σ s.H) : WSs X (st :: rest) D σ s.H := ws_of (pss_cons h pss_ws) q
theorem do_set (i : Nat) {x : α} {n : Str} {py : Pos} (h : Ev X e σ s x) (k : ∀ v s1, Ex s s1 → rep X.K s1.F v x → WSs X rest D (σ.set i (some v)) s1.H) (hN : X.N.Nodup) (hx : Loc X.env.scope n := by first | exact Or.inl rfl | exact Or.inr rfl) (hi : X.N[i]? = some n := by rfl)
    (hs : swapsWith e (some (.Name n py)) pos.line X.env = pure false := by rfl) (hf : X.fn n = true ∨ X.env.scope.names.lookup n = some .local := by first | exact .inl rfl | exact .inr rfl) : WSs X (.Assign [.Name n py] e pos :: rest) D σ s.H :=
  do_cons (ps_set hN hi hx pe_we hs hf) (h s (Ex.refl _) _ fun v s1 k1 r => k v s1 k1 r)
theorem do_setN (i : Nat) {xs : List α} {n : Str} {py : Pos} (h : EvN X e σ s xs) (k : ∀ p s1, Ex s s1 → s.H p = none → Own X.K s1 p xs → WSs X rest D (σ.set i (some (.ref p))) s1.H) (hN : X.N.Nodup) (hx : Loc X.env.scope n := by first | exact Or.inl rfl | exact Or.inr rfl) (hi : X.N[i]? = some n := by rfl)
    (hs : swapsWith e (some (.Name n py)) pos.line X.env = pure false := by rfl) (hf : X.fn n = true ∨ X.env.scope.names.lookup n = some .local := by first | exact .inl rfl | exact .inr rfl) : WSs X (.Assign [.Name n py] e pos :: rest) D σ s.H :=
  do_cons (ps_set hN hi hx pe_we hs hf) (h s (Ex.refl _) _ fun v s1 k1 n1 r => k v s1 k1 n1 r)
theorem do_ret {x : α} (h : Ev X e σ s x) (k : ∀ v s1, Ex s s1 → rep X.K s1.F v x → D.rt v s1.H) : WSs X (.Return (some e) pos :: rest) D σ s.H :=
  do_cons (ps_ret pe_we) (h s (Ex.refl _) _ fun v s1 k1 r => k v s1 k1 r)
theorem do_retN {xs : List α} (h : EvN X e σ s xs) (k : ∀ p s1, Ex s s1 → s.H p = none → Own X.K s1 p xs → D.rt (.ref p) s1.H) : WSs X (.Return (some e) pos :: rest) D σ s.H :=
  do_cons (ps_ret pe_we) (h s (Ex.refl _) _ fun v s1 k1 n1 r => k v s1 k1 n1 r)
theorem do_retO (i : Nat) {p : Addr} {n : Str} (h : σ[i]? = some (some (.ref p))) (k : D.rt (.ref p) s.H) (hN : X.N[i]? = some n := by rfl) (hv : Vis X.env.scope n := by first | exact Or.inl rfl | exact Or.inr (Or.inl rfl) | exact Or.inr (Or.inr rfl)) (hd : (n == ("__debug__" : Str)) = false := by decide)
    (hcd : (n == ("__classdict__" : Str)) = false := by decide) : WSs X (.Return (some (.Name n p0)) pos :: rest) D σ s.H :=
  do_cons (ps_ret (pe_var hN hv hd hcd)) ⟨_, h, k⟩
theorem do_if {x : Bool} (hc : EvT X c σ s x) (M : St → S → Prop) (h1 : x = true → ∀ s1, Ex s s1 → WSs X A (MD D M) σ s1.H) (h2 : x = false → ∀ s1, Ex s s1 → WSs X B (MD D M) σ s1.H)
    (h3 : ∀ σ' s', M σ' s' → WSs X rest D σ' s'.H) : WSs X (.If c A B pos :: rest) D σ s.H :=
  do_cons (ps_if pt_wt pss_ws pss_ws) (hc s (Ex.refl _) _ fun s1 k => by
    cases x with
    | true => exact iteT ((h1 rfl s1 k).imp (fun σ' H' ⟨s', e, m⟩ => e ▸ h3 σ' s' m) (fun _ _ q => q) (fun _ _ q => q) fun _ _ q => q)
    | false => exact iteF ((h2 rfl s1 k).imp (fun σ' H' ⟨s', e, m⟩ => e ▸ h3 σ' s' m) (fun _ _ q => q) (fun _ _ q => q) fun _ _ q => q))
theorem do_ifR {x : Bool} (hc : EvT X c σ s x) (h1 : x = true → ∀ s1, Ex s s1 → WSs X A (ND D) σ s1.H) (h2 : x = false → ∀ s1, Ex s s1 → WSs X rest D σ s1.H) : WSs X (.If c A [] pos :: rest) D σ s.H :=
  do_cons (ps_if pt_wt pss_ws pss_nil) (hc s (Ex.refl _) _ fun s1 k => by
    cases x with
    | true => exact iteT ((h1 rfl s1 k).imp (fun _ _ z => z.elim) (fun _ _ q => q) (fun _ _ q => q) fun _ _ q => q)
    | false => exact iteF (h2 rfl s1 k))
theorem do_ifRR {x : Bool} (hc : EvT X c σ s x) (h1 : x = true → ∀ s1, Ex s s1 → WSs X A (ND D) σ s1.H) (h2 : x = false → ∀ s1, Ex s s1 → WSs X B (ND D) σ s1.H) : WSs X (.If c A B pos :: rest) D σ s.H :=
  do_cons (ps_if pt_wt pss_ws pss_ws) (hc s (Ex.refl _) _ fun s1 k => by
    cases x with
    | true => exact iteT ((h1 rfl s1 k).imp (fun _ _ z => z.elim) (fun _ _ q => q) (fun _ _ q => q) fun _ _ q => q)
    | false => exact iteF ((h2 rfl s1 k).imp (fun _ _ z => z.elim) (fun _ _ q => q) (fun _ _ q => q) fun _ _ q => q))

theorem st_set {l : St} {i : Nat} {v : V} (h : l[i]? = some (some v)) : l[i]? = some (some v) := h
theorem do_append (i : Nat) {p : Addr} {n : Str} {xs : List α} {x : α} (hσ : σ[i]? = some (some (.ref p))) (o : Own X.K s p xs) (he : Ev X e σ s x) (hz : xs.length < sizeLine)
    (k : ∀ s1, Mx (· = p) s s1 → Own X.K s1 p (xs ++ [x]) → WSs X rest D σ s1.H)
    (hN : X.N[i]? = some n := by rfl) (hv : Vis X.env.scope n := by first | exact Or.inl rfl | exact Or.inr (Or.inl rfl) | exact Or.inr (Or.inr rfl)) (hd : (n == ("__debug__" : Str)) = false := by decide) (hcd : (n == ("__classdict__" : Str)) = false := by decide)
    (hbase : attributeBase (.Name n p0) "append" X.env (eval (.Name n p0) X.env) = eval (.Name n p0) X.env := by rfl)
    (hfew : ((backTo p2 (starEach [e] X.env)).all (fun x => !x.1) && (backToKw p2 (keywordEach [] X.env)).all (fun x => x.1.isSome) && decide (([e] : List Expr).length + ([] : List Keyword).length + (if ([] : List Keyword).isEmpty then 0 else 1) < 30)) = true := by rfl)
    (hline : (p1.endLine == p2.line) = true := by rfl) (hs : starEach [e] X.env = (false, eval e X.env) :: starEach [] X.env := by rfl) (hplain : (backTo p2 (starEach [] X.env)).any (·.1) = false := by rfl)
    (hsw : swapsWith (.Call (.Attribute (.Name n p0) "append" p1) [e] [] p2) none p3.line X.env = pure false := by rfl) :
    WSs X (.Expr (.Call (.Attribute (.Name n p0) "append" p1) [e] [] p2) p3 :: rest) D σ s.H :=
  do_cons (ps_expr (pe_bm PySem.F.plainAttrs_list PySem.F.slot_list_append PySem.F.type_list_append mt_append (pe_var hN hv hd hcd) (pa_cons pe_we pa_nil hs) hbase hfew hline hs hplain) hsw) (by
    obtain ⟨h1, vs, h2, h3⟩ := id o
    refine ⟨_, hσ, .inl ⟨rfl, vs, .inl (.inl h2)⟩, he s (Ex.refl _) _ fun v s1 k1 r1 => ?_⟩
    have f1 := k1.n _ _ h2 h1
    have g1 := k1.h _ _ h2
    refine ⟨p, vs, v, rfl, rfl, g1, by rw [h3.len]; exact hz, ?_⟩
    exact k (s1.put p (.lst (vs ++ [v])) f1) (k1.mx.trans (Mx.put f1)) ⟨f1, _, upd_same, (h3.mono k1.f).snoc r1⟩)
theorem do_extend (i : Nat) {p : Addr} {n : Str} {xs ys : List α} (hσ : σ[i]? = some (some (.ref p))) (o : Own X.K s p xs) (he : EvN X e σ s ys) (hz : xs.length + ys.length ≤ sizeLine)
    (k : ∀ s1, Mx (· = p) s s1 → Own X.K s1 p (xs ++ ys) → WSs X rest D σ s1.H)
    (hN : X.N[i]? = some n := by rfl) (hv : Vis X.env.scope n := by first | exact Or.inl rfl | exact Or.inr (Or.inl rfl) | exact Or.inr (Or.inr rfl)) (hd : (n == ("__debug__" : Str)) = false := by decide) (hcd : (n == ("__classdict__" : Str)) = false := by decide)
    (hbase : attributeBase (.Name n p0) "extend" X.env (eval (.Name n p0) X.env) = eval (.Name n p0) X.env := by rfl)
    (hfew : ((backTo p2 (starEach [e] X.env)).all (fun x => !x.1) && (backToKw p2 (keywordEach [] X.env)).all (fun x => x.1.isSome) && decide (([e] : List Expr).length + ([] : List Keyword).length + (if ([] : List Keyword).isEmpty then 0 else 1) < 30)) = true := by rfl)
    (hline : (p1.endLine == p2.line) = true := by rfl) (hs : starEach [e] X.env = (false, eval e X.env) :: starEach [] X.env := by rfl) (hplain : (backTo p2 (starEach [] X.env)).any (·.1) = false := by rfl)
    (hsw : swapsWith (.Call (.Attribute (.Name n p0) "extend" p1) [e] [] p2) none p3.line X.env = pure false := by rfl) :
    WSs X (.Expr (.Call (.Attribute (.Name n p0) "extend" p1) [e] [] p2) p3 :: rest) D σ s.H :=
  do_cons (ps_expr (pe_bm PySem.F.plainAttrs_list PySem.F.slot_list_extend PySem.F.type_list_extend mt_extend (pe_var hN hv hd hcd) (pa_cons pe_we pa_nil hs) hbase hfew hline hs hplain) hsw) (by
    obtain ⟨h1, vs, h2, h3⟩ := id o
    refine ⟨_, hσ, .inl ⟨rfl, vs, .inl (.inl h2)⟩, he s (Ex.refl _) _ fun q s1 k1 n1 o1 => ?_⟩
    obtain ⟨_, ws, h4, h5⟩ := o1
    have f1 := k1.n _ _ h2 h1
    have g1 := k1.h _ _ h2
    refine ⟨p, q, vs, ws, rfl, rfl, g1, h4, by rw [h3.len, h5.len]; exact hz, ?_⟩
    exact k (s1.put p (.lst (vs ++ ws)) f1) (k1.mx.trans (Mx.put f1)) ⟨f1, _, upd_same, (h3.mono k1.f).app h5⟩)
theorem do_setItem (i : Nat) {p : Addr} {n : Str} {xs : List α} {x : α} {z : Int} {j : Nat} (hσ : σ[i]? = some (some (.ref p))) (o : Own X.K s p xs) (he : Ev X e σ s x) (hi : Ev X a σ s z) (hj : ixN xs.length z = some j)
    (k : ∀ s1, Mx (· = p) s s1 → Own X.K s1 p (xs.set j x) → WSs X rest D σ s1.H)
    (hN : X.N[i]? = some n := by rfl) (hv : Vis X.env.scope n := by first | exact Or.inl rfl | exact Or.inr (Or.inl rfl) | exact Or.inr (Or.inr rfl)) (hd : (n == ("__debug__" : Str)) = false := by decide) (hcd : (n == ("__classdict__" : Str)) = false := by decide)
    (ha : ∀ v, assign (.Subscript (.Name n p0) a p1) X.env v = (do
      let ov ← holding [v] (eval (.Name n p0) X.env)
      let iv ← holding [v, ov] (eval a X.env)
      standAt p1
      holding [v, ov, iv] (setItem ov iv v)
      release [v, ov, iv] []) := by intro _; rfl)
    (hs : swapsWithSole [.Subscript (.Name n p0) a p1] e pos.line X.env = pure false := by rfl) (hw : swappedStores [.Subscript (.Name n p0) a p1] e X.env = pure none := by rfl)
    (h1 : (assignEach [.Subscript (.Name n p0) a p1] X.env).map (·.2) = [assign (.Subscript (.Name n p0) a p1) X.env] := by rfl) :
    WSs X (.Assign [.Subscript (.Name n p0) a p1] e pos :: rest) D σ s.H :=
  do_cons (ps_asg pe_we (pg_sub (pe_var hN hv hd hcd) pe_we set_list ha) hs hw h1) (by
    obtain ⟨f0, vs, h2, h3⟩ := id o
    refine he s (Ex.refl _) _ fun v s1 k1 r1 => ⟨_, hσ, hi s1 k1 _ fun u s2 k2 r2 => ?_⟩
    have k3 := k1.trans k2
    have f1 := k3.n _ _ h2 f0
    have g1 := k3.h _ _ h2
    refine ⟨p, vs, z, j, rfl, r2, g1, by rw [h3.len]; exact hj, ?_⟩
    exact k (s2.put p (.lst (vs.set j v)) f1) (k3.mx.trans (Mx.put f1)) ⟨f1, _, upd_same, (h3.mono k3.f).set j (Enc.mono k2.f r1)⟩)
theorem do_frz {p : Addr} {xs : List α} {ss : List Stmt} (o : Own X.K s p xs) (k : ∀ s' : S, s'.H = s.H → Fle s.F s'.F → (∀ q, q ≠ p → s'.F q = s.F q) → rep X.K s'.F (.ref p) xs → WSs X ss D σ s'.H) : WSs X ss D σ s.H := by
  obtain ⟨s', h1, h2, h3, h4⟩ := o.frz
  have := k s' h1 h2 h3 h4
  rw [h1] at this
  exact this

theorem foldO_drop {τ υ : Type} {f : υ → τ → Option υ} {b b1 : υ} {xs : List τ} {i : Nat} (hi : i < xs.length) (h : foldO f b (xs.drop i) = some b1) : ∃ b', f b xs[i] = some b' ∧ foldO f b' (xs.drop (i + 1)) = some b1 := by
  rw [List.drop_eq_getElem_cons hi] at h
  exact bndE h
theorem do_for_core {τ : Type} [Enc τ] {xs : List τ} {body : List Stmt} {g : TG} {B : Hp → τ → St → St → Prop} (hp : PassesOwn (model X.prog X.w) X.A X.env X.xe) (hc : X.calm = true) (hi : EvI X tg iter σ s xs) (hg : PG X tg g) (T : Tgt (α := τ) X.K g B)
    (R : Nat → St → S → Prop) (h0 : ∀ s1, Ex s s1 → R 0 σ s1)
    (hb : ∀ s1, Ex s s1 → ∀ (i : Nat) (x : τ) (σ' σ2 : St) (t t' : S), xs[i]? = some x → Fle s1.F t.F → R i σ' t → Ex t t' → B t'.F x σ' σ2 → WSs X body (LD D fun σ s => Fle t'.F s.F ∧ R (i + 1) σ s) σ2 t'.H)
    (hd : ∀ s1, Ex s s1 → ∀ σ' t, Fle s1.F t.F → R xs.length σ' t → WSs X rest D σ' t.H)
    (hs : ∀ x, foldedSetIterable iter X.env x = pure x := by intro _; rfl) : WSs X (.For tg iter body [] pos :: rest) D σ s.H :=
  do_cons (ps_for hp hc pi_wi hg pss_ws hs) (hi s (Ex.refl _) _ fun J s1 k1 W => by
    refine ⟨fun i m σ' H' => ∃ t : S, t.H = H' ∧ m = xs.length - i ∧ i ≤ xs.length ∧ Fle s1.F t.F ∧ R i σ' t, ⟨xs.length, s1, rfl, rfl, Nat.zero_le _, Fle.refl _, h0 s1 k1⟩, ?_⟩
    rintro i m σ' H' ⟨t, rfl, rfl, hle, f, r⟩
    by_cases hlt : i < xs.length
    · right
      obtain ⟨g1, g2⟩ := W.go i t xs[i] f (List.getElem?_eq_getElem hlt)
      refine ⟨g1, fun σ' H' => ∃ u : S, u.H = H' ∧ Fle s1.F u.F ∧ R (i + 1) σ' u, fun σ' H' ⟨u, e1, f1, r1⟩ => ⟨xs.length - (i + 1), by omega, u, e1, rfl, hlt, f1, r1⟩, fun v H' hy => ?_⟩
      obtain ⟨t', rfl, kt, rv⟩ := g2 v H' hy
      refine T.run t' v xs[i] _ _ rv fun σ2 hB => ?_
      have := hb s1 k1 i xs[i] σ' σ2 t t' (List.getElem?_eq_getElem hlt) f r kt hB
      exact this.imp (fun σ3 H3 ⟨u, e1, f1, r1⟩ => ⟨u, e1, (f.trans kt.f).trans f1, r1⟩) (fun _ _ q => q) (fun _ _ q => q.elim) (fun _ _ q => q.elim)
    · left
      have e : i = xs.length := by omega
      subst e
      exact ⟨W.stop _ t f (Nat.le_refl _), hd s1 k1 σ' t f r⟩)
theorem do_forO {τ υ : Type} [Enc τ] {xs : List τ} {f : υ → τ → Option υ} {b0 b1 : υ} {body : List Stmt} {g : TG} {B : Hp → τ → St → St → Prop} (hp : PassesOwn (model X.prog X.w) X.A X.env X.xe) (hc : X.calm = true) (hi : EvI X tg iter σ s xs) (hg : PG X tg g) (T : Tgt (α := τ) X.K g B)
    (hf : foldO f b0 xs = some b1) (R : υ → St → S → Prop) (h0 : ∀ s1, Ex s s1 → R b0 σ s1)
    (hb : ∀ s1, Ex s s1 → ∀ (x : τ) (b b' : υ) (σ' σ2 : St) (t t' : S), x ∈ xs → f b x = some b' → Fle s1.F t.F → R b σ' t → Ex t t' → B t'.F x σ' σ2 → WSs X body (LD D fun σ s => Fle t'.F s.F ∧ R b' σ s) σ2 t'.H)
    (hd : ∀ s1, Ex s s1 → ∀ σ' t, Fle s1.F t.F → R b1 σ' t → WSs X rest D σ' t.H)
    (hs : ∀ x, foldedSetIterable iter X.env x = pure x := by intro _; rfl) : WSs X (.For tg iter body [] pos :: rest) D σ s.H :=
  do_for_core hp hc hi hg T (fun i σ' t => ∃ b, foldO f b (xs.drop i) = some b1 ∧ R b σ' t) (fun s1 k => ⟨b0, hf, h0 s1 k⟩)
    (fun s1 k i x σ' σ2 t t' hx fl ⟨b, h1, h2⟩ kt hB => by
      obtain ⟨hlt, rfl⟩ := List.getElem?_eq_some_iff.mp hx
      obtain ⟨b', h3, h4⟩ := foldO_drop hlt h1
      exact (hb s1 k xs[i] b b' σ' σ2 t t' (List.getElem_mem hlt) h3 fl h2 kt hB).imp (fun σ3 H3 ⟨u, e1, f1, r1⟩ => ⟨u, e1, f1, b', h4, r1⟩) (fun _ _ q => q) (fun _ _ q => q.elim) (fun _ _ q => q.elim))
    (fun s1 k σ' t fl ⟨b, h1, h2⟩ => by
      rw [List.drop_length] at h1
      cases h1
      exact hd s1 k σ' t fl h2) hs
theorem foldF_drop {τ υ ρ : Type} {f : υ → τ → Option (Fl υ ρ)} {b : υ} {o : Fl υ ρ} {xs : List τ} {i : Nat} (hi : i < xs.length) (h : foldF f b (xs.drop i) = some o) : ∃ q, f b xs[i] = some q ∧ (∀ b', q = .nx b' → foldF f b' (xs.drop (i + 1)) = some o) ∧ ∀ r, q = .rt r → o = .rt r := by
  rw [List.drop_eq_getElem_cons hi] at h
  obtain ⟨q, h1, h2⟩ := bndE h
  refine ⟨q, h1, fun b' e => by subst e; exact h2, fun r e => by subst e; exact (Option.some.inj h2).symm⟩
theorem do_forF {τ υ ρ : Type} [Enc τ] {xs : List τ} {f : υ → τ → Option (Fl υ ρ)} {b0 : υ} {o : Fl υ ρ} {body : List Stmt} {g : TG} {B : Hp → τ → St → St → Prop} (hp : PassesOwn (model X.prog X.w) X.A X.env X.xe) (hc : X.calm = true) (hi : EvI X tg iter σ s xs) (hg : PG X tg g) (T : Tgt (α := τ) X.K g B)
    (hf : foldF f b0 xs = some o) (R : υ → St → S → Prop) (h0 : ∀ s1, Ex s s1 → R b0 σ s1)
    (hb : ∀ s1, Ex s s1 → ∀ (x : τ) (b : υ) (q : Fl υ ρ) (σ' σ2 : St) (t t' : S), x ∈ xs → f b x = some q → (∀ r, q = .rt r → o = .rt r) → Fle s1.F t.F → R b σ' t → Ex t t' → B t'.F x σ' σ2 → WSs X body (LD D fun σ s => ∃ b', q = .nx b' ∧ Fle t'.F s.F ∧ R b' σ s) σ2 t'.H)
    (hd : ∀ s1, Ex s s1 → ∀ b1 σ' t, o = .nx b1 → Fle s1.F t.F → R b1 σ' t → WSs X rest D σ' t.H)
    (hs : ∀ x, foldedSetIterable iter X.env x = pure x := by intro _; rfl) : WSs X (.For tg iter body [] pos :: rest) D σ s.H :=
  do_for_core hp hc hi hg T (fun i σ' t => ∃ b, foldF f b (xs.drop i) = some o ∧ R b σ' t) (fun s1 k => ⟨b0, hf, h0 s1 k⟩)
    (fun s1 k i x σ' σ2 t t' hx fl ⟨b, h1, h2⟩ kt hB => by
      obtain ⟨hlt, rfl⟩ := List.getElem?_eq_some_iff.mp hx
      obtain ⟨q, h3, h4, h5⟩ := foldF_drop hlt h1
      exact (hb s1 k xs[i] b q σ' σ2 t t' (List.getElem_mem hlt) h3 h5 fl h2 kt hB).imp (fun σ3 H3 ⟨u, e1, b', e2, f1, r1⟩ => ⟨u, e1, f1, b', h4 b' e2, r1⟩) (fun _ _ q => q) (fun _ _ q => q.elim) (fun _ _ q => q.elim))
    (fun s1 k σ' t fl ⟨b, h1, h2⟩ => by
      rw [List.drop_length] at h1
      cases h1
      exact hd s1 k b σ' t rfl fl h2) hs
theorem do_whileO {υ : Type} {cf : υ → Option Bool} {f : υ → Option υ} {n : Nat} {b0 b1 : υ} {body : List Stmt} (hp : PassesOwn (model X.prog X.w) X.A X.env X.xe) (hf : whileO cf f n b0 = some b1) (R : υ → St → S → Prop) (h0 : R b0 σ s)
    (hc : ∀ (b : υ) (x : Bool) (σ' : St) (t : S), cf b = some x → Fle s.F t.F → R b σ' t → EvT X c σ' t x)
    (hb : ∀ (b b' : υ) (σ' : St) (t t' : S), cf b = some true → f b = some b' → Fle s.F t.F → R b σ' t → Ex t t' → WSs X body (LD D fun σ s => Fle t'.F s.F ∧ R b' σ s) σ' t'.H)
    (hd : ∀ σ' t t', cf b1 = some false → Fle s.F t.F → R b1 σ' t → Ex t t' → WSs X rest D σ' t'.H) : WSs X (.While c body [] pos :: rest) D σ s.H :=
  do_cons (ps_while hp pt_wt pss_ws) (by
    refine ⟨fun m σ' H' => ∃ (t : S) (b : υ), t.H = H' ∧ Fle s.F t.F ∧ whileO cf f m b = some b1 ∧ R b σ' t, ⟨n, s, b0, rfl, Fle.refl _, hf, h0⟩, ?_⟩
    rintro m σ' H' ⟨t, b, rfl, fl, h1, h2⟩
    cases m with
    | zero => cases h1
    | succ m =>
      obtain ⟨x, h3, h4⟩ := bndE h1
      refine hc b x σ' t h3 fl h2 t (Ex.refl _) _ fun t' kt => ?_
      cases x with
      | true =>
        refine iteT ?_
        rw [if_pos rfl] at h4
        obtain ⟨b', h5, h6⟩ := bndE h4
        refine ⟨fun σ3 H3 => ∃ u : S, u.H = H3 ∧ Fle s.F u.F ∧ R b' σ3 u, fun σ3 H3 ⟨u, e1, f1, r1⟩ => ⟨m, Nat.lt_succ_self _, u, b', e1, f1, h6, r1⟩, ?_⟩
        exact (hb b b' σ' t t' h3 h5 fl h2 kt).imp (fun σ3 H3 ⟨u, e1, f1, r1⟩ => ⟨u, e1, (fl.trans kt.f).trans f1, r1⟩) (fun _ _ q => q) (fun _ _ q => q.elim) (fun _ _ q => q.elim)
      | false =>
        refine iteF ?_
        rw [if_neg Bool.false_ne_true] at h4
        cases h4
        exact hd σ' t t' h3 fl h2 kt)
end
end Dy

namespace Dy
open PySem PySem.Spec L2
open PyProof.Rows hiding St
open Enc (rep)
open Flat (toV)
open EncA (repA)

section
variable {P : Program} {w : World} {K : PySem.W.Frag} {mg : Str → Option Value} {base : Heap}
abbrev FunP (K : PySem.W.Frag) (x : Str) (st : Stmt) (f : Addr) (fd : FuncData) : Prop := FunD K x x (defArgs st) (defBody st) (defScope st) [] [] f fd
theorem mk_fn {A ρ : Type} [EncA A] [Enc ρ] {m : A → Option ρ} {x : Str} {st : Stmt} {f : Addr} {fd : FuncData} {N ps : List Str} {k : Nat} (F : FunP K x st f fd) (Sc : FnScope N ps (defScope st))
    (hl : ∀ (F : Hp) (vs : List V) (a : A), repA K F vs a → vs.length = ps.length)
    (body : ∀ (cdv : Value) (A' : Around) (outer : List Env) (s0 : Shared) (H0 : Hp) (E0 : XK), Room k (A'.deeper (envOfC x (defScope st) s0.heap.objs.size f cdv)) → ∀ (s : S) (vs : List V) (a : A) (r : ρ) (Q : VK), repA K s.F vs a → m a = some r →
      (∀ v s', Ex s s' → rep K s'.F v r → Q v s'.H) → WSs (cxOf CX0 P w K mg base N x (defScope st) f cdv A' outer s0 H0 E0).nox (defBody st) (RD Q) (start N vs) s.H) : FnOk P w K mg base CX0 (k + 1) f fd ps (sp K m) :=
  F.ok Sc (fun vs H Q E ⟨s, a, r, _, h, _⟩ => hl s.F vs a h) (fun cdv A' outer s0 H0 vs Q E hr ⟨s, a, r, e, h1, h2, h3⟩ => ⟨_, pss_ws.nox, by
    have := body cdv A' outer s0 H0 E hr s vs a r Q h1 h2 h3
    rw [e] at this
    exact this⟩)
theorem mk_cal {A ρ : Type} [EncA A] [Enc ρ] {m : A → Option ρ} {x : Str} {st : Stmt} {f : Addr} {fd : FuncData} {N ps : List Str} {k : Nat} (F : FunP K x st f fd) (hm : mg x = some (.ref f)) (b : Binds K fd ps []) (Sc : FnScope N ps (defScope st))
    (hl : ∀ (F : Hp) (vs : List V) (a : A), repA K F vs a → vs.length = ps.length)
    (body : ∀ (cdv : Value) (A' : Around) (outer : List Env) (s0 : Shared) (H0 : Hp) (E0 : XK), Room k (A'.deeper (envOfC x (defScope st) s0.heap.objs.size f cdv)) → ∀ (s : S) (vs : List V) (a : A) (r : ρ) (Q : VK), repA K s.F vs a → m a = some r →
      (∀ v s', Ex s s' → rep K s'.F v r → Q v s'.H) → WSs (cxOf CX0 P w K mg base N x (defScope st) f cdv A' outer s0 H0 E0).nox (defBody st) (RD Q) (start N vs) s.H) : Cal P w K mg base CX0 (k + 1) x (sp K m) :=
  ⟨f, fd, ps, F.ok Sc (fun vs H Q E ⟨s, a, r, _, h, _⟩ => hl s.F vs a h) (fun cdv A' outer s0 H0 vs Q E hr ⟨s, a, r, e, h1, h2, h3⟩ => ⟨_, pss_ws.nox, by
    have := body cdv A' outer s0 H0 E hr s vs a r Q h1 h2 h3
    rw [e] at this
    exact this⟩), hm, F.kp, b⟩
theorem mk_calN {A ρ : Type} [EncA A] [Enc ρ] {m : A → Option (List ρ)} {x : Str} {st : Stmt} {f : Addr} {fd : FuncData} {N ps : List Str} {k : Nat} (F : FunP K x st f fd) (hm : mg x = some (.ref f)) (b : Binds K fd ps []) (Sc : FnScope N ps (defScope st))
    (hl : ∀ (F : Hp) (vs : List V) (a : A), repA K F vs a → vs.length = ps.length)
    (body : ∀ (cdv : Value) (A' : Around) (outer : List Env) (s0 : Shared) (H0 : Hp) (E0 : XK), Room k (A'.deeper (envOfC x (defScope st) s0.heap.objs.size f cdv)) → ∀ (s : S) (vs : List V) (a : A) (r : List ρ) (Q : VK), repA K s.F vs a → m a = some r →
      (∀ p s', Ex s s' → s.H p = none → Own K s' p r → Q (.ref p) s'.H) → WSs (cxOf CX0 P w K mg base N x (defScope st) f cdv A' outer s0 H0 E0).nox (defBody st) (RD Q) (start N vs) s.H) : Cal P w K mg base CX0 (k + 1) x (spN K m) :=
  ⟨f, fd, ps, F.ok Sc (fun vs H Q E ⟨s, a, r, _, h, _⟩ => hl s.F vs a h) (fun cdv A' outer s0 H0 vs Q E hr ⟨s, a, r, e, h1, h2, h3⟩ => ⟨_, pss_ws.nox, by
    have := body cdv A' outer s0 H0 E hr s vs a r Q h1 h2 h3
    rw [e] at this
    exact this⟩), hm, F.kp, b⟩
theorem len1 {α : Type} [Enc α] (F : Hp) (vs : List V) (a : α × Unit) (h : repA K F vs a) : vs.length = 1 := by obtain ⟨_, _, rfl, _, rfl⟩ := h; rfl
theorem len2 {α β : Type} [Enc α] [Enc β] (F : Hp) (vs : List V) (a : α × β × Unit) (h : repA K F vs a) : vs.length = 2 := by obtain ⟨_, _, rfl, _, _, _, rfl, _, rfl⟩ := h; rfl
theorem len3 {α β γ : Type} [Enc α] [Enc β] [Enc γ] (F : Hp) (vs : List V) (a : α × β × γ × Unit) (h : repA K F vs a) : vs.length = 3 := by obtain ⟨_, _, rfl, _, _, _, rfl, _, _, _, rfl, _, rfl⟩ := h; rfl
theorem len4 {α β γ δ : Type} [Enc α] [Enc β] [Enc γ] [Enc δ] (F : Hp) (vs : List V) (a : α × β × γ × δ × Unit) (h : repA K F vs a) : vs.length = 4 := by obtain ⟨_, _, rfl, _, _, _, rfl, _, _, _, rfl, _, _, _, rfl, _, rfl⟩ := h; rfl
theorem len5 {α β γ δ ε : Type} [Enc α] [Enc β] [Enc γ] [Enc δ] [Enc ε] (F : Hp) (vs : List V) (a : α × β × γ × δ × ε × Unit) (h : repA K F vs a) : vs.length = 5 := by obtain ⟨_, _, rfl, _, _, _, rfl, _, _, _, rfl, _, _, _, rfl, _, _, _, rfl, _, rfl⟩ := h; rfl
theorem len6 {α β γ δ ε ζ : Type} [Enc α] [Enc β] [Enc γ] [Enc δ] [Enc ε] [Enc ζ] (F : Hp) (vs : List V) (a : α × β × γ × δ × ε × ζ × Unit) (h : repA K F vs a) : vs.length = 6 := by obtain ⟨_, _, rfl, _, _, _, rfl, _, _, _, rfl, _, _, _, rfl, _, _, _, rfl, _, _, _, rfl, _, rfl⟩ := h; rfl
end

class Ty (α : Type) extends Enc α where
  ty : α → String
  is : ∀ {K : PySem.W.Frag} {F H : Hp} {v : V} {x : α}, rep K F v x → Fle F H → TyX K H v (.type (ty x))
theorem sql_ty {K : PySem.W.Frag} {H : Hp} {p : Addr} {vs : List V} (h : SqL K H p vs) : TyX K H (.ref p) (.type "list") := by
  rcases h with (h | ⟨o, h⟩) | ⟨o, its, n, h, hc, _⟩
  · exact .base (.lst h)
  · exact .base (.frz h)
  · exact .kList h hc
theorem sqt_ty {K : PySem.W.Frag} {H : Hp} {p : Addr} {vs : List V} (h : SqT K H p vs) : TyX K H (.ref p) (.type "tuple") := by
  rcases h with (h | ⟨o, h⟩) | ⟨o, its, n, h, hc, _⟩
  · exact .base (.tup h)
  · exact .fTuple h
  · exact .kTuple h hc
instance : Ty Int := ⟨fun _ => "int", fun {K F H v x} h _ => by rw [show v = V.int x from h]; exact .base (.int _)⟩
instance : Ty Bool := ⟨fun _ => "bool", fun {K F H v x} h _ => by rw [show v = V.bl x from h]; exact .base (.bl _)⟩
instance : Ty Str := ⟨fun _ => "str", fun {K F H v x} h _ => by rw [show v = V.str x from h]; exact .base (.str _)⟩
instance {α : Type} [Ty α] : Ty (Option α) := ⟨fun x => match x with | none => "NoneType" | some y => Ty.ty y, fun {K F H v x} h f => by
  cases x with
  | none => rw [show v = V.non from h]; exact .base .non
  | some y => exact Ty.is (α := α) h f⟩
instance {α : Type} [Enc α] : Ty (List α) := ⟨fun _ => "list", fun h f => by
  obtain ⟨p, vs, rfl, h1, _⟩ := h
  exact sql_ty (sql_mono f h1)⟩
instance {α : Type} [Enc α] : Ty (Tu α) := ⟨fun _ => "tuple", fun h f => by
  obtain ⟨p, vs, rfl, h1, _⟩ := h
  exact sqt_ty (sqt_mono f h1)⟩
instance {α β : Type} [Enc α] [Enc β] : Ty (α × β) := ⟨fun _ => "tuple", fun h f => by
  obtain ⟨p, v1, v2, rfl, h1, _⟩ := h
  exact sqt_ty (sqt_mono f h1)⟩
instance {α : Type} [Enc α] : Ty (T1 α) := ⟨fun _ => "tuple", fun h f => by
  obtain ⟨p, v1, rfl, h1, _⟩ := h
  exact sqt_ty (sqt_mono f h1)⟩
instance {α β γ : Type} [Enc α] [Enc β] [Enc γ] : Ty (T3 α β γ) := ⟨fun _ => "tuple", fun h f => by
  obtain ⟨p, v1, v2, v3, rfl, h1, _⟩ := h
  exact sqt_ty (sqt_mono f h1)⟩
instance {α β γ δ : Type} [Enc α] [Enc β] [Enc γ] [Enc δ] : Ty (T4 α β γ δ) := ⟨fun _ => "tuple", fun h f => by
  obtain ⟨p, v1, v2, v3, v4, rfl, h1, _⟩ := h
  exact sqt_ty (sqt_mono f h1)⟩
instance {α β γ δ ε : Type} [Enc α] [Enc β] [Enc γ] [Enc δ] [Enc ε] : Ty (T5 α β γ δ ε) := ⟨fun _ => "tuple", fun h f => by
  obtain ⟨p, v1, v2, v3, v4, v5, rfl, h1, _⟩ := h
  exact sqt_ty (sqt_mono f h1)⟩
section
variable {α β : Type} {X : Cx} {σ : St} {s : S} {a b : Expr} {pos p0 p1 p2 p3 : Pos}
theorem ev_isi [Ty α] {x : α} {n : Str} {T : String} {r : Bool} (hm : X.mg "isinstance" = none) (hn : X.mg n = none) (hv : bootBuiltins n = some (.type T)) (ha : Ev X a σ s x) (h : kitB (Ty.ty x) T = some r)
    (hg : Gl X "isinstance" := by rfl) (hgn : Gl X n := by rfl) (he : starEach [a, .Name n p1] X.env = (false, eval a X.env) :: starEach [.Name n p1] X.env := by rfl) (he2 : starEach [.Name n p1] X.env = (false, eval (.Name n p1) X.env) :: starEach [] X.env := by rfl) (hpl : (backTo pos (starEach [.Name n p1] X.env)).any (·.1) = false := by rfl)
    (hnn : n ≠ "__name__" := by decide) (hnd : (n == ("__debug__" : Str)) = false := by decide) :
    Ev X (.Call (.Name "isinstance" p0) [a, .Name n p1] [] pos) σ s r := fun s1 k Q q =>
  we_of (pe_callB call_isi hg hm (by decide +kernel) (pa_cons pe_we (pa_cons (pe_bltn (v := .ty T) hgn hn hv rfl hnn hnd) pa_nil he2) he) (he := he) (hpl := hpl)) (ha s1 k _ fun v s2 k2 r2 =>
    ⟨v, .ty T, .type (Ty.ty x), .type T, r, rfl, .ty T, Ty.is r2 s2.sub, kit_ty h, q _ s2 k2 rfl⟩)

class EqD (α : Type) extends Enc α where
  toD : α → PyData
  dp : ∀ {K : PySem.W.Frag} {F H : Hp} {v : V} {x : α}, rep K F v x → Fle F H → Dp K H v (toD x)
  eqv : ∀ x y : α, PyData.eqv (toD x) (toD y) = true ↔ x = y
def DpR {α : Type} [EqD α] {K : PySem.W.Frag} {F H : Hp} (f : Fle F H) : ∀ {vs : List V} {xs : List α}, Reps K F vs xs → DpAll K H vs (xs.map EqD.toD)
  | [], [], _ => .nil
  | _ :: _, _ :: _, ⟨h, t⟩ => .cons (EqD.dp h f) (DpR f t)
  | [], _ :: _, h => h.elim
  | _ :: _, [], h => h.elim
theorem eqv_all {α : Type} [EqD α] : ∀ xs ys : List α, PyData.eqvAll (xs.map EqD.toD) (ys.map EqD.toD) = true ↔ xs = ys
  | [], [] => by simp [PyData.eqvAll]
  | [], _ :: _ => by simp [PyData.eqvAll]
  | _ :: _, [] => by simp [PyData.eqvAll]
  | x :: xs, y :: ys => by
    show (PyData.eqv (EqD.toD x) (EqD.toD y) && PyData.eqvAll (xs.map EqD.toD) (ys.map EqD.toD)) = true ↔ _
    rw [Bool.and_eq_true, EqD.eqv, eqv_all xs ys]
    simp
instance : EqD Int := ⟨PyData.int, fun {K F H v x} h _ => by rw [show v = V.int x from h]; exact .int _, fun x y => by show (x == y) = true ↔ _; simp⟩
instance : EqD Bool := ⟨PyData.bool, fun {K F H v x} h _ => by rw [show v = V.bl x from h]; exact .bl _, fun x y => by show (x == y) = true ↔ _; simp⟩
instance : EqD Str := ⟨PyData.str, fun {K F H v x} h _ => by rw [show v = V.str x from h]; exact .str _, fun x y => by show (x == y) = true ↔ _; simp⟩
instance : EqD (Option Int) := ⟨fun x => match x with | none => .none | some i => .int i, fun {K F H v x} h _ => by
  cases x with
  | none => rw [show v = V.non from h]; exact .non
  | some i => rw [show v = V.int i from h]; exact .int _, fun x y => by cases x <;> cases y <;> simp [PyData.eqv]⟩
instance : EqD (Option Str) := ⟨fun x => match x with | none => .none | some i => .str i, fun {K F H v x} h _ => by
  cases x with
  | none => rw [show v = V.non from h]; exact .non
  | some i => rw [show v = V.str i from h]; exact .str _, fun x y => by cases x <;> cases y <;> simp [PyData.eqv]⟩
instance {α : Type} [EqD α] : EqD (List α) := ⟨fun xs => .list (xs.map EqD.toD), fun h f => by
  obtain ⟨p, vs, rfl, h1, h2⟩ := h
  exact .lst (sql_mono f h1) (DpR f h2), fun x y => eqv_all x y⟩
instance {α : Type} [EqD α] : EqD (Tu α) := ⟨fun xs => .tuple (xs.l.map EqD.toD), fun h f => by
  obtain ⟨p, vs, rfl, h1, h2⟩ := h
  exact .tup (sqt_mono f h1) (DpR f h2), fun x y => by
    obtain ⟨x⟩ := x
    obtain ⟨y⟩ := y
    show PyData.eqvAll _ _ = true ↔ _
    rw [eqv_all]; simp⟩
instance {α β : Type} [EqD α] [EqD β] : EqD (α × β) := ⟨fun x => .tuple [EqD.toD x.1, EqD.toD x.2], fun h f => by
  obtain ⟨p, v1, v2, rfl, h0, h1, h2⟩ := h
  exact .tup (sqt_mono f h0) (.cons (EqD.dp h1 f) (.cons (EqD.dp h2 f) .nil)), fun x y => by
    obtain ⟨x1, x2⟩ := x
    obtain ⟨y1, y2⟩ := y
    show (PyData.eqv _ _ && (PyData.eqv _ _ && true)) = true ↔ _
    rw [Bool.and_eq_true, Bool.and_eq_true, EqD.eqv, EqD.eqv]; simp⟩
instance {α β γ : Type} [EqD α] [EqD β] [EqD γ] : EqD (T3 α β γ) := ⟨fun x => .tuple [EqD.toD x.a, EqD.toD x.b, EqD.toD x.c], fun h f => by
  obtain ⟨p, v1, v2, v3, rfl, h0, h1, h2, h3⟩ := h
  exact .tup (sqt_mono f h0) (.cons (EqD.dp h1 f) (.cons (EqD.dp h2 f) (.cons (EqD.dp h3 f) .nil))), fun x y => by
    obtain ⟨x1, x2, x3⟩ := x
    obtain ⟨y1, y2, y3⟩ := y
    show (PyData.eqv _ _ && (PyData.eqv _ _ && (PyData.eqv _ _ && true))) = true ↔ _
    rw [Bool.and_eq_true, Bool.and_eq_true, Bool.and_eq_true, EqD.eqv, EqD.eqv, EqD.eqv]; simp⟩
instance {α : Type} [EqD α] : EqD (T1 α) := ⟨fun x => .tuple [EqD.toD x.a], fun h f => by
  obtain ⟨p, v1, rfl, h0, h1⟩ := h
  exact .tup (sqt_mono f h0) (.cons (EqD.dp h1 f) .nil), fun x y => by
    obtain ⟨x1⟩ := x
    obtain ⟨y1⟩ := y
    show (PyData.eqv _ _ && true) = true ↔ _
    rw [Bool.and_eq_true, EqD.eqv]; simp⟩
def shp {α : Type} [EqD α] (x : α) : Prop := SeqAt.shaped (EqD.toD x) = true
theorem eqv_dec {α : Type} [EqD α] [DecidableEq α] (x y : α) : PyData.eqv (EqD.toD x) (EqD.toD y) = decide (x = y) := by
  rw [Bool.eq_iff_iff, EqD.eqv, decide_eq_true_eq]
theorem repR_d {α : Type} [EqD α] {K : PySem.W.Frag} {v : V} {xs : List α} (h : RepR K s v xs) : Dp K s.H v (EqD.toD xs) := by
  obtain ⟨p, vs, rfl, h1, h2⟩ := h
  exact .lst h1 (DpR s.sub h2)
theorem hu64 {j : Nat} (hr : Room j X.A) : X.A.units + 64 < cLine := by
  have := hr.un
  omega
theorem eb_eqD [EqD α] [DecidableEq α] {x y : α} {j : Nat} (hr : Room j X.A) (ha : Ev X a σ s x) (hb : Ev X b σ s y) (h1 : shp x) (h2 : shp y) : EvB X (.Compare a [.Eq] [b] pos) σ s (decide (x = y)) :=
  eb_cmp (op_eqD (hu64 hr)) ha hb (fun v u s2 hv hu Q q => ⟨_, _, EqD.dp hv s2.sub, EqD.dp hu s2.sub, h1, h2, by rw [eqv_dec]; exact q⟩) (nomark _)
theorem eb_neD [EqD α] [DecidableEq α] {x y : α} {j : Nat} (hr : Room j X.A) (ha : Ev X a σ s x) (hb : Ev X b σ s y) (h1 : shp x) (h2 : shp y) : EvB X (.Compare a [.NotEq] [b] pos) σ s (!decide (x = y)) :=
  eb_cmp (op_neD (hu64 hr)) ha hb (fun v u s2 hv hu Q q => ⟨_, _, EqD.dp hv s2.sub, EqD.dp hu s2.sub, h1, h2, by rw [eqv_dec]; exact q⟩) (nomark _)
theorem eb_eqL [EqD α] [DecidableEq α] {x y : List α} {j : Nat} (hr : Room j X.A) (ha : EvR X a σ s x) (hb : EvR X b σ s y) (h1 : shp x) (h2 : shp y) : EvB X (.Compare a [.Eq] [b] pos) σ s (decide (x = y)) :=
  eb_cmpRR (op_eqD (hu64 hr)) ha hb (fun v u s2 hv hu Q q => ⟨_, _, repR_d hv, repR_d hu, h1, h2, by rw [eqv_dec]; exact q⟩) (nomark _)
theorem eb_neL [EqD α] [DecidableEq α] {x y : List α} {j : Nat} (hr : Room j X.A) (ha : EvR X a σ s x) (hb : EvR X b σ s y) (h1 : shp x) (h2 : shp y) : EvB X (.Compare a [.NotEq] [b] pos) σ s (!decide (x = y)) :=
  eb_cmpRR (op_neD (hu64 hr)) ha hb (fun v u s2 hv hu Q q => ⟨_, _, repR_d hv, repR_d hu, h1, h2, by rw [eqv_dec]; exact q⟩) (nomark _)
end

class Shp (α : Type) (n : outParam Nat) extends EqD α where
  ok : ∀ x : α, PyData.canLay0 (EqD.toD x) = true ∧ PyData.depth (EqD.toD x) ≤ n
theorem shp_all {α : Type} {n : Nat} [Shp α n] : ∀ xs : List α, PyData.canLayAll0 (xs.map EqD.toD) = true ∧ PyData.depthAll (xs.map EqD.toD) ≤ n
  | [] => ⟨by simp [PyData.canLayAll0], by simp [PyData.depthAll]⟩
  | x :: xs => by
    obtain ⟨h1, h2⟩ := shp_all xs
    obtain ⟨h3, h4⟩ := Shp.ok x
    refine ⟨?_, ?_⟩
    · show PyData.canLayAll0 (EqD.toD x :: xs.map EqD.toD) = true
      unfold PyData.canLayAll0
      rw [h3, h1]; rfl
    · show PyData.depthAll (EqD.toD x :: xs.map EqD.toD) ≤ n
      unfold PyData.depthAll
      omega
instance : Shp Int 0 := ⟨fun x => ⟨by show PyData.canLay0 (.int x) = true; unfold PyData.canLay0; rfl, by show PyData.depth (.int x) ≤ 0; unfold PyData.depth; omega⟩⟩
instance : Shp Bool 0 := ⟨fun x => ⟨by show PyData.canLay0 (.bool x) = true; unfold PyData.canLay0; rfl, by show PyData.depth (.bool x) ≤ 0; unfold PyData.depth; omega⟩⟩
instance : Shp (Option Int) 0 := ⟨fun x => by
  cases x with
  | none => exact ⟨by show PyData.canLay0 .none = true; unfold PyData.canLay0; rfl, by show PyData.depth .none ≤ 0; unfold PyData.depth; omega⟩
  | some i => exact ⟨by show PyData.canLay0 (.int i) = true; unfold PyData.canLay0; rfl, by show PyData.depth (.int i) ≤ 0; unfold PyData.depth; omega⟩⟩
instance {α : Type} {n : Nat} [Shp α n] : Shp (List α) (n + 1) := ⟨fun x => by
  obtain ⟨h1, h2⟩ := shp_all x
  refine ⟨?_, ?_⟩
  · show PyData.canLay0 (.list (x.map EqD.toD)) = true
    unfold PyData.canLay0; exact h1
  · show PyData.depth (.list (x.map EqD.toD)) ≤ n + 1
    unfold PyData.depth; omega⟩
instance {α : Type} {n : Nat} [Shp α n] : Shp (Tu α) (n + 1) := ⟨fun x => by
  obtain ⟨h1, h2⟩ := shp_all x.l
  refine ⟨?_, ?_⟩
  · show PyData.canLay0 (.tuple (x.l.map EqD.toD)) = true
    unfold PyData.canLay0; exact h1
  · show PyData.depth (.tuple (x.l.map EqD.toD)) ≤ n + 1
    unfold PyData.depth; omega⟩
instance {α β : Type} {n m : Nat} [Shp α n] [Shp β m] : Shp (α × β) (n + m + 1) := ⟨fun x => by
  obtain ⟨h1, h2⟩ := Shp.ok x.1
  obtain ⟨h3, h4⟩ := Shp.ok x.2
  refine ⟨?_, ?_⟩
  · show PyData.canLay0 (.tuple [EqD.toD x.1, EqD.toD x.2]) = true
    simp [PyData.canLay0, PyData.canLayAll0, h1, h3]
  · show PyData.depth (.tuple [EqD.toD x.1, EqD.toD x.2]) ≤ n + m + 1
    simp [PyData.depth, PyData.depthAll]
    omega⟩
instance {α : Type} {n : Nat} [Shp α n] : Shp (T1 α) (n + 1) := ⟨fun x => by
  obtain ⟨h1, h2⟩ := Shp.ok x.a
  refine ⟨?_, ?_⟩
  · show PyData.canLay0 (.tuple [EqD.toD x.a]) = true
    simp [PyData.canLay0, PyData.canLayAll0, h1]
  · show PyData.depth (.tuple [EqD.toD x.a]) ≤ n + 1
    simp [PyData.depth, PyData.depthAll]
    omega⟩
theorem shp_of {α : Type} {n : Nat} [Shp α n] (x : α) (h : n ≤ 64 := by decide) : shp x := by
  obtain ⟨h1, h2⟩ := Shp.ok x
  unfold shp SeqAt.shaped
  rw [h1, decide_eq_true (Nat.le_trans h2 h)]; rfl

def spLaw (K : PySem.W.Frag) : Sp := fun vs H Q _ => ∃ (a : Addr) (ns : List Int), vs = [.ref a] ∧ SqL K H a (ns.map V.int) ∧ ns.length ≤ 63 ∧ ∀ H', Q (.bl true) H'
theorem law_of {P : Program} {w : World} {K : PySem.W.Frag} {mg : Str → Option Value} {base : Heap} {CX : CXT} {k : Nat} {f : Addr} {fd : FuncData} {ps : List Str} {m : List Int × Unit → Option Bool} (F : FnOk P w K mg base CX k f fd ps (sp K m)) (h : ∀ ns : List Int, ns.length ≤ 63 → m (ns, ()) = some true) : FnOk P w K mg base CX k f fd ps (spLaw K) :=
  F.imp fun vs H Q E ⟨a, ns, e, hs, hl, q⟩ => by
    subst e
    exact ⟨⟨H, H, fun _ _ h => h⟩, (ns, ()), true, rfl, ⟨.ref a, [], rfl, ⟨a, ns.map V.int, rfl, hs, Reps.of_flat ns⟩, rfl⟩, h ns hl, fun v s' _ r => by rw [show v = V.bl true from r]; exact q _⟩
end Dy

namespace Dy
open PySem PySem.Spec L2
open PyProof.Rows hiding St
open Enc (rep)
open Flat (toV)
open EncA (repA)

def strI (x : Int) : Str := toString x
noncomputable def sortI (xs : List Int) : List Int := xs.mergeSort (fun x y => decide (x ≤ y))
def Fl.go {β ρ γ : Type} (o : Fl β ρ) (k : β → γ) (e : ρ → γ) : γ := match o with
  | .nx b => k b
  | .rt r => e r
@[irreducible] def fuel : Nat := 1000000
theorem rng_mem {a b x : Int} (h : x ∈ rng a b) : a ≤ x ∧ x < b := by
  obtain ⟨i, hi⟩ := List.mem_iff_getElem?.mp h
  obtain ⟨h1, h2⟩ := rng_get hi
  omega
theorem frzE {s0 s s' : S} {p : Addr} (E : Ex s0 s) (n : s0.H p = none) (h1 : s'.H = s.H) (h2 : Fle s.F s'.F) (h3 : ∀ q, q ≠ p → s'.F q = s.F q) : Ex s0 s' :=
  ⟨E.f.trans h2, fun a o h => by rw [h1]; exact E.h a o h, fun a o h m => by rw [h3 a (ne_of_none h n)]; exact E.n a o h m⟩
theorem ownFrz {α : Type} [Enc α] {K : PySem.W.Frag} {s s' : S} {p q : Addr} {xs : List α} (o : Own K s q xs) (hne : q ≠ p) (h1 : s'.H = s.H) (h2 : Fle s.F s'.F) (h3 : ∀ q, q ≠ p → s'.F q = s.F q) : Own K s' q xs := by
  obtain ⟨hn, vs, hp, r⟩ := o
  exact ⟨by rw [h3 q hne]; exact hn, vs, by rw [h1]; exact hp, r.mono h2⟩
section
variable {α β γ δ ε : Type} [Enc α] [Enc β] [Enc γ] [Enc δ] [Enc ε] {X : Cx} {σ : St} {s t : S} {e a b c tg iter : Expr} {es : List Expr} {pos p0 p1 p2 p3 : Pos} {D : Ends} {rest A B body : List Stmt}
theorem ec_andO {x r : Bool} (h : EvB X a σ s x) (h2 : x = true → EvC X (.BoolOp .And (b :: es) pos) σ s r) (h3 : x = false → r = false) : EvC X (.BoolOp .And (a :: b :: es) pos) σ s r := by
  cases x with
  | true => exact (ec_and h h2 : EvC X _ σ s (true && r))
  | false =>
    have := ec_and (y := false) (es := es) (b := b) (pos := pos) h (fun z => Bool.noConfusion z)
    rw [h3 rfl]
    exact this
theorem ec_orO {x r : Bool} (h : EvB X a σ s x) (h2 : x = false → EvC X (.BoolOp .Or (b :: es) pos) σ s r) (h3 : x = true → r = true) : EvC X (.BoolOp .Or (a :: b :: es) pos) σ s r := by
  cases x with
  | false => exact (ec_or h h2 : EvC X _ σ s (false || r))
  | true =>
    have := ec_or (y := true) (es := es) (b := b) (pos := pos) h (fun z => Bool.noConfusion z)
    rw [h3 rfl]
    exact this
theorem et_tru {xs : List α} (h : EvR X e σ s xs) (he : ∀ whole, isTrue e X.env whole = (do let v ← whole; standAt e.pos; holding [v] (truthy v)) := by intro _; rfl) : EvT X e σ s (!xs.isEmpty) := fun s1 k Q q =>
  wt_of (pt_truth pe_we he) (h s1 k _ fun v s2 k2 r => by
    obtain ⟨p, vs, rfl, h1, h2⟩ := r
    refine ⟨_, .inl ⟨vs, h1, ?_⟩, q s2 k2⟩
    have := h2.len
    cases vs <;> cases xs <;> simp at this ⊢)
theorem isi_optT {τ : Type} [Ty τ] (x : Option τ) {T : String} (h1 : ∀ y : τ, kitB (Ty.ty y) T = some true) (h2 : kitB "NoneType" T = some false) : kitB (Ty.ty x) T = some x.isSome := by
  cases x with
  | none => exact h2
  | some y => exact h1 y
theorem isi_optF {τ : Type} [Ty τ] (x : Option τ) {T : String} (h1 : ∀ y : τ, kitB (Ty.ty y) T = some false) (h2 : kitB "NoneType" T = some false) : kitB (Ty.ty x) T = some false := by
  cases x with
  | none => exact h2
  | some y => exact h1 y
theorem en_rev {xs : List α} {k q1 q2 q3} (ha : EvR X e σ s xs) : EvN X (.Subscript e (.Slice none none (some (.UnaryOp .USub (.Constant (.int 1) k q1) q2)) q3) pos) σ s xs.reverse := fun s1 k1 Q q =>
  we_of (pe_revL pe_we) (ha s1 k1 _ fun v s2 k2 r2 => by
    obtain ⟨p, vs, rfl, h1, h2⟩ := r2
    exact ⟨p, vs, rfl, h1, fun l hl => q l (s2.newO l _ hl) (k2.trans (Ex.newO hl)) (fr_back k2 hl) (own_new hl h2.rev)⟩)
theorem do_drop {x : α} (h : Ev X e σ s x) (k : ∀ s1, Ex s s1 → WSs X rest D σ s1.H) (hs : swapsWith e none pos.line X.env = pure false := by rfl) : WSs X (.Expr e pos :: rest) D σ s.H :=
  do_cons (ps_expr pe_we hs) (h s (Ex.refl _) _ fun v s1 k1 r => k s1 k1)
theorem do_unp2 (i j : Nat) {x : α × β} (h : Ev X e σ s x) (k : ∀ v w s1, Ex s s1 → rep X.K s1.F v x.1 → rep X.K s1.F w x.2 → WSs X rest D ((σ.set i (some v)).set j (some w)) s1.H)
    (hg : PG X tg (gTup X.K 2 (gCons (gName i) (gCons (gName j) gNil)))) (hs : swapsWithSole [tg] e pos.line X.env = pure false := by rfl) (hw : swappedStores [tg] e X.env = pure none := by rfl)
    (h1 : (assignEach [tg] X.env).map (·.2) = [assign tg X.env] := by rfl) : WSs X (.Assign [tg] e pos :: rest) D σ s.H :=
  do_cons (ps_asg pe_we hg hs hw h1) (h s (Ex.refl _) _ fun v s1 k1 r => by
    obtain ⟨p, v1, v2, rfl, h0, h1, h2⟩ := r
    exact ⟨p, _, rfl, sqt_mono s1.sub h0, rfl, v1, _, rfl, v2, _, rfl, rfl, k v1 v2 s1 k1 h1 h2⟩)
theorem do_unp3 (i j l : Nat) {x : T3 α β γ} (h : Ev X e σ s x) (k : ∀ v w u s1, Ex s s1 → rep X.K s1.F v x.a → rep X.K s1.F w x.b → rep X.K s1.F u x.c → WSs X rest D (((σ.set i (some v)).set j (some w)).set l (some u)) s1.H)
    (hg : PG X tg (gTup X.K 3 (gCons (gName i) (gCons (gName j) (gCons (gName l) gNil))))) (hs : swapsWithSole [tg] e pos.line X.env = pure false := by rfl) (hw : swappedStores [tg] e X.env = pure none := by rfl)
    (h1 : (assignEach [tg] X.env).map (·.2) = [assign tg X.env] := by rfl) : WSs X (.Assign [tg] e pos :: rest) D σ s.H :=
  do_cons (ps_asg pe_we hg hs hw h1) (h s (Ex.refl _) _ fun v s1 k1 r => by
    obtain ⟨p, v1, v2, v3, rfl, h0, h1, h2, h3⟩ := r
    exact ⟨p, _, rfl, sqt_mono s1.sub h0, rfl, v1, _, rfl, v2, _, rfl, v3, _, rfl, rfl, k v1 v2 v3 s1 k1 h1 h2 h3⟩)
theorem do_whileF {υ ρ : Type} {cf : υ → Option Bool} {f : υ → Option (Fl υ ρ)} {n : Nat} {b0 : υ} {o : Fl υ ρ} (hp : PassesOwn (model X.prog X.w) X.A X.env X.xe) (hf : whileF cf f n b0 = some o) (R : υ → St → S → Prop) (h0 : R b0 σ s)
    (hc : ∀ (b : υ) (x : Bool) (σ' : St) (t : S), cf b = some x → Fle s.F t.F → R b σ' t → EvT X c σ' t x)
    (hb : ∀ (b : υ) (q : Fl υ ρ) (σ' : St) (t t' : S), cf b = some true → f b = some q → (∀ r, q = .rt r → o = .rt r) → Fle s.F t.F → R b σ' t → Ex t t' → WSs X body (LD D fun σ s => ∃ b', q = .nx b' ∧ Fle t'.F s.F ∧ R b' σ s) σ' t'.H)
    (hd : ∀ b1 σ' t t', o = .nx b1 → cf b1 = some false → Fle s.F t.F → R b1 σ' t → Ex t t' → WSs X rest D σ' t'.H) : WSs X (.While c body [] pos :: rest) D σ s.H :=
  do_cons (ps_while hp pt_wt pss_ws) (by
    refine ⟨fun m σ' H' => ∃ (t : S) (b : υ), t.H = H' ∧ Fle s.F t.F ∧ whileF cf f m b = some o ∧ R b σ' t, ⟨n, s, b0, rfl, Fle.refl _, hf, h0⟩, ?_⟩
    rintro m σ' H' ⟨t, b, rfl, fl, h1, h2⟩
    cases m with
    | zero => cases h1
    | succ m =>
      obtain ⟨x, h3, h4⟩ := bndE h1
      refine hc b x σ' t h3 fl h2 t (Ex.refl _) _ fun t' kt => ?_
      cases x with
      | true =>
        refine iteT ?_
        rw [if_pos rfl] at h4
        obtain ⟨q, h5, h6⟩ := bndE h4
        refine ⟨fun σ3 H3 => ∃ b', q = .nx b' ∧ ∃ u : S, u.H = H3 ∧ Fle s.F u.F ∧ R b' σ3 u, fun σ3 H3 ⟨b', e0, u, e1, f1, r1⟩ => ⟨m, Nat.lt_succ_self _, u, b', e1, f1, by subst e0; exact h6, r1⟩, ?_⟩
        exact (hb b q σ' t t' h3 h5 (fun r e0 => by subst e0; exact (Option.some.inj h6).symm) fl h2 kt).imp (fun σ3 H3 ⟨u, e1, b', e2, f1, r1⟩ => ⟨b', e2, u, e1, (fl.trans kt.f).trans f1, r1⟩) (fun _ _ q => q) (fun _ _ q => q.elim) (fun _ _ q => q.elim)
      | false =>
        refine iteF ?_
        rw [if_neg Bool.false_ne_true] at h4
        cases h4
        exact hd b σ' t t' rfl h3 fl h2 kt)
end
end Dy

namespace Dy
open PySem PySem.Spec L2
open PyProof.Rows hiding St

def Ok {α : Type} (m : Option α) (P : α → Prop) : Prop := ∃ r, m = some r ∧ P r
section
variable {α β γ ρ : Type}
theorem Ok.imp {m : Option α} {P Q : α → Prop} (h : Ok m P) (k : ∀ r, P r → Q r) : Ok m Q := let ⟨r, e, p⟩ := h; ⟨r, e, k r p⟩
theorem Ok.eq {m : Option α} {x : α} (h : Ok m (· = x)) : m = some x := by obtain ⟨r, e, rfl⟩ := h; exact e
theorem ok_eq {m : Option α} {x : α} {P : α → Prop} (h : m = some x) (p : P x) : Ok m P := ⟨x, h, p⟩
theorem ok_some {x : α} {P : α → Prop} (p : P x) : Ok (some x) P := ⟨x, rfl, p⟩
theorem ok_bnd {m : Option α} {f : α → Option β} {P : α → Prop} {Q : β → Prop} (h : Ok m P) (k : ∀ r, P r → Ok (f r) Q) : Ok (bnd m f) Q := by
  obtain ⟨r, e, p⟩ := h
  subst e
  exact k r p
theorem ok_chk {c : Prop} {m : Option α} {Q : α → Prop} (h : c) (k : Ok m Q) : Ok (chk c m) Q := by rw [chk_pos h]; exact k
theorem ok_lt {x : α} {f : α → Option β} {Q : β → Prop} (k : ∀ y, y = x → Ok (f y) Q) : Ok (lt x f) Q := k x rfl
theorem ok_ite {b : Bool} {m k : Option α} {Q : α → Prop} (h1 : b = true → Ok m Q) (h2 : b = false → Ok k Q) : Ok (if b = true then m else k) Q := by
  cases b with
  | true => exact h1 rfl
  | false => exact h2 rfl
theorem ok_andO {a : Bool} {m : Option Bool} {Q : Bool → Prop} (h1 : a = true → Ok m Q) (h2 : a = false → Q false) : Ok (andO a m) Q := by
  cases a with
  | true => exact h1 rfl
  | false => exact ⟨false, rfl, h2 rfl⟩
theorem ok_orO {a : Bool} {m : Option Bool} {Q : Bool → Prop} (h1 : a = false → Ok m Q) (h2 : a = true → Q true) : Ok (orO a m) Q := by
  cases a with
  | false => exact h1 rfl
  | true => exact ⟨true, rfl, h2 rfl⟩
theorem ok_foldO {f : β → α → Option β} (I : Nat → β → Prop) : ∀ {xs : List α} {b : β} {Q : β → Prop}, I 0 b → (∀ i b x, xs[i]? = some x → I i b → Ok (f b x) (I (i + 1))) → (∀ b, I xs.length b → Q b) → Ok (foldO f b xs) Q := by
  have key : ∀ (xs : List α) (b : β) (k : Nat), I k b → (∀ i b x, xs[i]? = some x → I (k + i) b → Ok (f b x) (I (k + i + 1))) → Ok (foldO f b xs) (I (k + xs.length)) := by
    intro xs
    induction xs with
    | nil => intro b k h _; exact ⟨b, rfl, h⟩
    | cons x r ih =>
      intro b k h hs
      refine ok_bnd (hs 0 b x rfl h) fun b' h' => ?_
      have := ih b' (k + 1) h' (fun i b y hy hI => by
        have := hs (i + 1) b y (by simpa using hy) (by rw [show k + (i + 1) = k + 1 + i by omega]; exact hI)
        rw [show k + (i + 1) + 1 = k + 1 + i + 1 by omega] at this
        exact this)
      rw [List.length_cons, show k + (r.length + 1) = k + 1 + r.length by omega]
      exact this
  intro xs b Q h0 hs hd
  have := key xs b 0 h0 (fun i b x hx hI => by
    have := hs i b x hx (by rw [Nat.zero_add] at hI; exact hI)
    rw [Nat.zero_add]; exact this)
  rw [Nat.zero_add] at this
  exact this.imp hd
theorem ok_foldF {f : β → α → Option (Fl β ρ)} (I : Nat → β → Prop) (Rr : ρ → Prop) : ∀ {xs : List α} {b : β} {Q : Fl β ρ → Prop}, I 0 b → (∀ i b x, xs[i]? = some x → I i b → Ok (f b x) (fun o => match o with | .nx b' => I (i + 1) b' | .rt r => Rr r)) →
    (∀ b, I xs.length b → Q (.nx b)) → (∀ r, Rr r → Q (.rt r)) → Ok (foldF f b xs) Q := by
  have key : ∀ (xs : List α) (b : β) (k : Nat), I k b → (∀ i b x, xs[i]? = some x → I (k + i) b → Ok (f b x) (fun o => match o with | .nx b' => I (k + i + 1) b' | .rt r => Rr r)) → Ok (foldF f b xs) (fun o => match o with | .nx b' => I (k + xs.length) b' | .rt r => Rr r) := by
    intro xs
    induction xs with
    | nil => intro b k h _; exact ⟨.nx b, rfl, h⟩
    | cons x r ih =>
      intro b k h hs
      refine ok_bnd (hs 0 b x rfl h) fun o h' => ?_
      cases o with
      | rt r => exact ⟨.rt r, rfl, h'⟩
      | nx b' =>
        have := ih b' (k + 1) h' (fun i b y hy hI => by
          have := hs (i + 1) b y (by simpa using hy) (by rw [show k + (i + 1) = k + 1 + i by omega]; exact hI)
          rw [show k + (i + 1) + 1 = k + 1 + i + 1 by omega] at this
          exact this)
        rw [List.length_cons, show k + (r.length + 1) = k + 1 + r.length by omega]
        exact this
  intro xs b Q h0 hs hd hr
  have := key xs b 0 h0 (fun i b x hx hI => by
    have := hs i b x hx (by rw [Nat.zero_add] at hI; exact hI)
    rw [Nat.zero_add]; exact this)
  rw [Nat.zero_add] at this
  refine this.imp fun o h => ?_
  cases o with
  | nx b => exact hd b h
  | rt r => exact hr r h
theorem ok_go {o : Fl β ρ} {k : β → Option γ} {e : ρ → Option γ} {Q : γ → Prop} (h1 : ∀ b, o = .nx b → Ok (k b) Q) (h2 : ∀ r, o = .rt r → Ok (e r) Q) : Ok (o.go k e) Q := by
  cases o with
  | nx b => exact h1 b rfl
  | rt r => exact h2 r rfl
theorem ok_compO {t : α → Option Bool} {f : α → Option β} {P : α → β → Prop} {T : α → Bool} : ∀ {xs : List α}, (∀ x ∈ xs, Ok (t x) (· = T x)) → (∀ x ∈ xs, T x = true → Ok (f x) (P x)) → Ok (compO t f xs) (fun ys => ys.length = (xs.filter T).length ∧ ∀ (i : Nat) (y : β), ys[i]? = some y → ∃ x, (xs.filter T)[i]? = some x ∧ P x y)
  | [], _, _ => ⟨[], rfl, rfl, fun i y h => by simp at h⟩
  | x :: r, h1, h2 => by
    unfold compO
    refine ok_bnd (h1 x List.mem_cons_self) fun b hb => ?_
    subst hb
    have ih := ok_compO (xs := r) (fun z hz => h1 z (List.mem_cons_of_mem _ hz)) (fun z hz => h2 z (List.mem_cons_of_mem _ hz))
    refine ok_ite (fun hb => ?_) (fun hb => ?_)
    · refine ok_bnd (h2 x List.mem_cons_self hb) fun y hy => ?_
      refine ok_bnd ih fun ys ⟨e1, e2⟩ => ok_some ?_
      rw [List.filter_cons, if_pos hb]
      refine ⟨by simp [e1], fun i z hz => ?_⟩
      cases i with
      | zero => simp at hz; subst hz; exact ⟨x, rfl, hy⟩
      | succ i => exact e2 i z (by simpa using hz)
    · rw [List.filter_cons, if_neg (by rw [hb]; exact Bool.false_ne_true)]
      exact ih
theorem ok_mapO {f : α → Option β} {P : α → β → Prop} {xs : List α} (h : ∀ x ∈ xs, Ok (f x) (P x)) : Ok (mapO f xs) (fun ys => ys.length = xs.length ∧ ∀ (i : Nat) (y : β), ys[i]? = some y → ∃ x, xs[i]? = some x ∧ P x y) := by
  have := ok_compO (t := fun _ => some true) (T := fun _ => true) (xs := xs) (fun x _ => ok_some rfl) (fun x hx _ => h x hx)
  rw [show xs.filter (fun _ => true) = xs from List.filter_eq_self.mpr (fun _ _ => rfl)] at this
  exact this
theorem mapO_eq {f : α → Option β} {g : α → β} : ∀ {xs : List α}, (∀ x ∈ xs, f x = some (g x)) → mapO f xs = some (xs.map g)
  | [], _ => rfl
  | x :: r, h => by
    have ih := mapO_eq (xs := r) (fun z hz => h z (List.mem_cons_of_mem _ hz))
    unfold mapO at ih ⊢
    unfold compO
    rw [Option.bind_some, if_pos rfl, h x List.mem_cons_self, Option.bind_some, ih]
    rfl
theorem compO_eq {t : α → Option Bool} {T : α → Bool} {f : α → Option β} {g : α → β} : ∀ {xs : List α}, (∀ x ∈ xs, t x = some (T x)) → (∀ x ∈ xs, T x = true → f x = some (g x)) → compO t f xs = some ((xs.filter T).map g)
  | [], _, _ => rfl
  | x :: r, h1, h2 => by
    have ih := compO_eq (xs := r) (fun z hz => h1 z (List.mem_cons_of_mem _ hz)) (fun z hz => h2 z (List.mem_cons_of_mem _ hz))
    unfold compO
    rw [h1 x List.mem_cons_self, Option.bind_some, List.filter_cons]
    cases hT : T x with
    | true => rw [if_pos rfl, if_pos rfl, h2 x List.mem_cons_self hT, Option.bind_some, ih]; rfl
    | false => rw [if_neg Bool.false_ne_true, if_neg Bool.false_ne_true, ih]
theorem foldO_eq {f : β → α → Option β} {g : β → α → β} : ∀ {xs : List α} {b : β}, (∀ b, ∀ x ∈ xs, f b x = some (g b x)) → foldO f b xs = some (xs.foldl g b)
  | [], _, _ => rfl
  | x :: r, b, h => by
    unfold foldO
    rw [h b x List.mem_cons_self, Option.bind_some, foldO_eq (xs := r) (fun b z hz => h b z (List.mem_cons_of_mem _ hz))]
    rfl
theorem ok_whileO {c : β → Option Bool} {f : β → Option β} (I : β → Prop) (μ : β → Nat) {Q : β → Prop} (hc : ∀ b, I b → Ok (c b) (fun t => if t = true then Ok (f b) (fun b' => I b' ∧ μ b' < μ b) else Q b)) : ∀ (n : Nat) (b : β), I b → μ b < n → Ok (whileO c f n b) Q
  | 0, b, _, h => absurd h (Nat.not_lt_zero _)
  | n + 1, b, hI, h => by
    unfold whileO
    refine ok_bnd (hc b hI) fun t ht => ?_
    cases t with
    | true =>
      rw [if_pos rfl] at ht ⊢
      exact ok_bnd ht fun b' ⟨h1, h2⟩ => ok_whileO I μ hc n b' h1 (by omega)
    | false =>
      rw [if_neg Bool.false_ne_true] at ht ⊢
      exact ok_some ht
theorem ok_whileF {c : β → Option Bool} {f : β → Option (Fl β ρ)} (I : β → Prop) (μ : β → Nat) {Q : Fl β ρ → Prop} (hc : ∀ b, I b → Ok (c b) (fun t => if t = true then Ok (f b) (fun o => match o with | .nx b' => I b' ∧ μ b' < μ b | .rt r => Q (.rt r)) else Q (.nx b))) : ∀ (n : Nat) (b : β), I b → μ b < n → Ok (whileF c f n b) Q
  | 0, b, _, h => absurd h (Nat.not_lt_zero _)
  | n + 1, b, hI, h => by
    unfold whileF
    refine ok_bnd (hc b hI) fun t ht => ?_
    cases t with
    | true =>
      rw [if_pos rfl] at ht ⊢
      refine ok_bnd ht fun o ho => ?_
      cases o with
      | nx b' => exact ok_whileF I μ hc n b' ho.1 (by have := ho.2; omega)
      | rt r => exact ok_some ho
    | false =>
      rw [if_neg Bool.false_ne_true] at ht ⊢
      exact ok_some ht
theorem fuel_eq : fuel = 1000000 := by unfold fuel; rfl
theorem mul_l {x y : Int} (h1 : -1000000000000000000 < x) (h2 : x < 1000000000000000000) : MulOk x y := .inl (.inl ⟨by omega, by omega⟩)
theorem mul_r {x y : Int} (h1 : -1000000000000000000 < y) (h2 : y < 1000000000000000000) : MulOk x y := .inl (.inr ⟨by omega, by omega⟩)
set_option exponentiation.threshold 10000 in
theorem div_small {y : Int} (h1 : 0 < y) (h2 : y < 1000000000000000000) : DivOk y := ⟨h1, PySem.Flt.log2_lt_of (by decide) (show y.natAbs < 2 ^ 9000 from Nat.lt_of_lt_of_le (show y.natAbs < 2 ^ 64 by omega) (Nat.pow_le_pow_right (by decide) (by decide)))⟩
theorem szl : sizeLine = 16777216 := rfl
theorem atI_get {xs : List α} {i : Int} (h0 : 0 ≤ i) (h1 : i < xs.length) : atI xs i = xs[i.toNat]? := by
  unfold atI ixN
  rw [if_pos h0, if_pos h1]; rfl
theorem ok_atI {xs : List α} {i : Int} {Q : α → Prop} (h0 : 0 ≤ i) (h1 : i < xs.length) (h : ∀ x, xs[i.toNat]? = some x → Q x) : Ok (atI xs i) Q := by
  rw [atI_get h0 h1]
  have hl : i.toNat < xs.length := by omega
  exact ⟨xs[i.toNat], List.getElem?_eq_getElem hl, h _ (List.getElem?_eq_getElem hl)⟩
theorem cut_len_le (xs : List α) (lo hi : Option Int) : (cut xs lo hi).length ≤ xs.length := by
  unfold cut
  rw [List.length_take, List.length_drop]
  omega
theorem cut_hi (xs : List α) (n : Nat) : cut xs none (some (n : Int)) = xs.take n := by
  unfold cut
  rw [HT.sIx_none, show HT.sIx xs.length xs.length (some (n : Int)) = min n xs.length from HT.sIx_nat xs.length xs.length n]
  simp only [List.drop_zero, Nat.sub_zero]
  by_cases h : n ≤ xs.length
  · rw [Nat.min_eq_left h]
  · rw [Nat.min_eq_right (by omega), List.take_of_length_le (Nat.le_refl _), List.take_of_length_le (by omega)]
theorem rng_len_nn {n : Int} (h : 0 ≤ n) : (rng 0 n).length = n.toNat := by rw [rng_len]; congr 1; omega
theorem rng_at {a b : Int} {i : Nat} {x : Int} (h : (rng a b)[i]? = some x) : x = a + (i : Int) ∧ a + (i : Int) < b := by
  obtain ⟨h1, h2⟩ := rng_get h
  omega
end
theorem chars_len (x : Str) : (chars x).length = x.length := by
  unfold chars
  rw [List.length_map, Array.length_toList]; rfl
theorem join_len0 (ys : List Str) : (Txt.join ("" : Str) ys).length = (ys.map (·.length)).sum := by
  have h : ∀ z : Str, z.length = (TL.tl z).length := fun z => by show z.cps.size = z.cps.toList.length; rw [Array.length_toList]
  have key : ∀ ps : List (List Nat), (TL.joinL [] ps).length = (ps.map List.length).sum := by
    intro ps
    induction ps with
    | nil => rfl
    | cons p r ih =>
      cases r with
      | nil => simp [TL.joinL]
      | cons q r =>
        have e : TL.joinL [] (p :: q :: r) = p ++ ([] ++ TL.joinL [] (q :: r)) := by simp [TL.joinL]
        rw [e, List.nil_append, List.length_append, ih]; rfl
  rw [h, TL.join_eq, TL.tl_join, show TL.tl ("" : Str) = [] from rfl, key, List.map_map]
  exact congrArg List.sum (List.map_congr_left fun z _ => (h z).symm)
theorem sum_ones {ys : List Str} (h : ∀ y ∈ ys, y.length = 1) : (ys.map (·.length)).sum = ys.length := by
  induction ys with
  | nil => rfl
  | cons y r ih =>
    rw [List.map_cons, List.sum_cons, ih fun z hz => h z (List.mem_cons_of_mem _ hz), h y List.mem_cons_self, List.length_cons]
    omega
theorem foldF_any {α ρ : Type} {p : α → Bool} {f : Unit → α → Option (Fl Unit ρ)} {r : ρ} (h : ∀ x, f () x = if p x = true then some (.rt r) else some (.nx ())) : ∀ xs : List α, foldF f () xs = some (if xs.any p = true then .rt r else .nx ())
  | [] => rfl
  | x :: xs => by
    unfold foldF
    rw [h x, List.any_cons]
    cases hp : p x with
    | true => rfl
    | false =>
      rw [if_neg Bool.false_ne_true]
      show foldF f () xs = _
      rw [foldF_any h xs, Bool.false_or]
end Dy

namespace Dy
open PySem PySem.Spec L2
open PyProof.Rows hiding St
open Enc (rep)
open Flat (toV)
open EncA (repA)

section
variable {α β γ δ : Type} [Enc α] [Enc β] [Enc γ] [Enc δ] {X : Cx} {σ : St} {s t : S} {e a b c tg iter : Expr} {es : List Expr} {pos p0 p1 p2 p3 : Pos} {D : Ends} {rest A B body : List Stmt}
def RepS (x : Str) (n : Int) : Prop := PySem.MulOk x n
def replS (x : Str) (n : Int) : Str := Txt.mul x n
theorem op_repStr : OpR X (binaryOp .Mult) (fun x y H Q => ∃ z n, x = .str z ∧ y = .int n ∧ RepS z n ∧ Q (.str (replS z n)) H) := by
  intro pins s σ H x y v u Q I rx ry h
  obtain ⟨z, n, rfl, rfl, hok, q⟩ := h
  obtain ⟨t, rfl⟩ := rx
  obtain ⟨t', rfl⟩ := ry
  exact PySem.SB.mul hok fun t' k => ⟨.str _, H, I.tok _, ⟨_, rfl⟩, q⟩
theorem ev_repS {x : Str} {n : Int} (ha : Ev X a σ s x) (hb : Ev X b σ s n) (h : RepS x n) : Ev X (.BinOp a .Mult b pos) σ s (replS x n) :=
  ev_op op_repStr ha hb fun v u s2 hv hu Q q => ⟨x, n, hv, hu, h, q _ s2 (Ex.refl _) rfl⟩
theorem repS_small {x : Str} {n : Int} (h0 : x.length ≤ 1000) (h1 : n ≤ 1000) (h2 : -1000 ≤ n) : RepS x n := by
  refine ⟨by rw [Bool.or_eq_false_iff]; exact ⟨decide_eq_false (by omega), decide_eq_false (by omega)⟩, fun h3 _ => ?_, fun h3 _ => ?_⟩
  · intro h
    have : (2 ^ 63 - 1) / n ≥ 1000 := by
      refine (Int.le_ediv_iff_mul_le (by omega)).mpr ?_
      omega
    omega
  · unfold Builtin.Str.tooLong
    have : x.length * n.toNat ≤ 1000 * 1000 := Nat.mul_le_mul h0 (by omega)
    refine decide_eq_false ?_
    have := szl
    omega
def stepN (a b c : Int) : Nat := if a < b then ((b - a - 1) / c + 1).toNat else 0
def rngS (a b c : Int) : List Int := (List.range (stepN a b c)).map fun i : Nat => a + (i : Int) * c
def RgS (a b c : Int) : Prop := (-(2 ^ 61) ≤ a ∧ a < 2 ^ 61) ∧ (-(2 ^ 61) ≤ b ∧ b < 2 ^ 61) ∧ 0 < c ∧ c < 1000000
theorem rgC_of {a b c : Int} (h : RgS a b c) : RgC a b c (stepN a b c) := by
  obtain ⟨⟨h1, h2⟩, ⟨h3, h4⟩, h5, h6⟩ := h
  have hs : Builtin.Range.rangeSize a b c = (stepN a b c : Nat) := by
    unfold Builtin.Range.rangeSize stepN
    rw [if_pos h5]
    split
    · have : 0 ≤ (b - a - 1) / c := Int.ediv_nonneg (by omega) (by omega)
      omega
    · rfl
  refine ⟨by omega, by omega, ?_, hs⟩
  have e1 : a < b → c * ((b - a - 1) / c) ≤ b - a - 1 := fun _ => Int.mul_ediv_self_le (by omega)
  have e2 : a < b → 0 ≤ (b - a - 1) / c := fun _ => Int.ediv_nonneg (by omega) (by omega)
  have e3 : a < b → (b - a - 1) / c ≤ b - a - 1 := fun _ => by
    refine Int.ediv_le_self _ (by omega)
  unfold Builtin.Range.small
  unfold Builtin.Range.rangeSize
  simp only [Builtin.Range.rangeFitsLong, Bool.and_eq_true, Bool.or_eq_true, decide_eq_true_eq, beq_iff_eq, if_pos h5]
  split
  · rename_i hlt
    have e1 := e1 hlt
    have e2 := e2 hlt
    have e3 := e3 hlt
    generalize hq : (b - a - 1) / c = q at *
    have e4 : c * q = q * c := Int.mul_comm _ _
    have e5 : (q + 1) * c = q * c + c := by rw [Int.add_mul]; omega
    have e6 : 0 ≤ c * q := Int.mul_nonneg (by omega) e2
    refine ⟨?_, ?_⟩ <;> omega
  · omega
theorem rngS_get {a b c : Int} {i : Nat} {x : Int} (h : (rngS a b c)[i]? = some x) : i < stepN a b c ∧ x = a + (i : Int) * c := by
  unfold rngS at h
  rw [List.getElem?_map] at h
  obtain ⟨j, h1, rfl⟩ := Option.map_eq_some_iff.mp h
  obtain ⟨h2, h3⟩ := List.getElem?_eq_some_iff.mp h1
  rw [List.length_range] at h2
  rw [List.getElem_range] at h3
  subst h3
  exact ⟨h2, rfl⟩
theorem rngS_len (a b c : Int) : (rngS a b c).length = stepN a b c := by unfold rngS; rw [List.length_map, List.length_range]
theorem ei_range3 {x y z : Int} (hm : X.mg "range" = none) (ha : Ev X a σ s x) (hb : Ev X b σ s y) (hc : Ev X c σ s z) (h : RgS x y z) (hg : Gl X "range" := by rfl)
    (hs : starEach [a, b, c] X.env = (false, eval a X.env) :: starEach [b, c] X.env := by rfl) (hs2 : starEach [b, c] X.env = (false, eval b X.env) :: starEach [c] X.env := by rfl) (hs3 : starEach [c] X.env = (false, eval c X.env) :: starEach [] X.env := by rfl) (hpl : (backTo pos (starEach [b, c] X.env)).any (·.1) = false := by rfl) :
    EvI X tg (.Call (.Name "range" p0) [a, b, c] [] pos) σ s (rngS x y z) := fun s1 k R q =>
  wi_of (pi_range3 hg hm (pa_cons pe_we (pa_cons pe_we (pa_cons pe_we pa_nil hs3) hs2) hs) hs hpl) (ha s1 k _ fun v s2 k2 r2 => hb s2 (k.trans k2) _ fun u s3 k3 r3 => hc s3 ((k.trans k2).trans k3) _ fun w s4 k4 r4 =>
    ⟨x, y, z, stepN x y z, by rw [show v = V.int x from r2, show u = V.int y from r3, show w = V.int z from r4], rgC_of h, q _ s4 ((k2.trans k3).trans k4) ⟨fun i t w f hw => ⟨(rngS_get hw).1, fun v' H' ⟨e1, e2⟩ => ⟨t, e1.symm, Ex.refl _, by rw [e2, (rngS_get hw).2]; rfl⟩⟩, fun i t f hi => by rw [rngS_len] at hi; exact hi⟩⟩)
theorem ev_isiR {xs : List α} {n : Str} {T : String} {r : Bool} (hm : X.mg "isinstance" = none) (hn : X.mg n = none) (hv : bootBuiltins n = some (.type T)) (ha : EvR X a σ s xs) (h : kitB "list" T = some r)
    (hg : Gl X "isinstance" := by rfl) (hgn : Gl X n := by rfl) (he : starEach [a, .Name n p1] X.env = (false, eval a X.env) :: starEach [.Name n p1] X.env := by rfl) (he2 : starEach [.Name n p1] X.env = (false, eval (.Name n p1) X.env) :: starEach [] X.env := by rfl) (hpl : (backTo pos (starEach [.Name n p1] X.env)).any (·.1) = false := by rfl)
    (hnn : n ≠ "__name__" := by decide) (hnd : (n == ("__debug__" : Str)) = false := by decide) :
    Ev X (.Call (.Name "isinstance" p0) [a, .Name n p1] [] pos) σ s r := fun s1 k Q q =>
  we_of (pe_callB call_isi hg hm (by decide +kernel) (pa_cons pe_we (pa_cons (pe_bltn (v := .ty T) hgn hn hv rfl hnn hnd) pa_nil he2) he) (he := he) (hpl := hpl)) (ha s1 k _ fun v s2 k2 r2 => by
    obtain ⟨p, vs, rfl, h1, _⟩ := r2
    exact ⟨.ref p, .ty T, .type "list", .type T, r, rfl, .ty T, sql_ty h1, kit_ty h, q _ s2 k2 rfl⟩)
theorem eb_isB {x y : Bool} (ha : Ev X a σ s x) (hb : Ev X b σ s y) : EvB X (.Compare a [.Is] [b] pos) σ s (decide (x = y)) :=
  eb_cmp op_isBl ha hb (fun v u s2 hv hu Q q => ⟨x, y, hv, hu, q⟩) (nomark _)
theorem eb_isnotB {x y : Bool} (ha : Ev X a σ s x) (hb : Ev X b σ s y) : EvB X (.Compare a [.IsNot] [b] pos) σ s (!decide (x = y)) :=
  eb_cmp op_notBl ha hb (fun v u s2 hv hu Q q => ⟨x, y, hv, hu, q⟩) (nomark _)
theorem ev_sliceT {x : Tu α} {lo hi : Option Expr} {l h : Option Int} (ha : Ev X a σ s x) (hl : EvO X lo σ s l) (hh : EvO X hi σ s h) : Ev X (.Subscript a (.Slice lo hi none p2) pos) σ s (Tu.mk (cut x.l l h)) := fun s1 k Q q => by
  obtain ⟨tl, pl, ql⟩ := po_evo hl
  obtain ⟨th, ph, qh⟩ := po_evo hh
  refine we_of (pe_slice sl_tupA pe_we pl ph) (ha s1 k _ fun v s2 k2 r2 => ql s2 (k.trans k2) _ fun s3 k3 => qh s3 ((k.trans k2).trans k3) _ fun s4 k4 => ?_)
  obtain ⟨p, vs, rfl, h1, h2⟩ := Enc.mono (α := Tu α) (k3.trans k4).f r2
  have kk := (k2.trans k3).trans k4
  refine ⟨p, vs, rfl, sqt_mono s4.sub h1, fun hw => ?_, fun _ l hl => q _ (s4.newF l _ hl) (kk.trans (Ex.newF hl)) ⟨l, _, rfl, tup_new hl, (h2.cut _ _).mono (Ex.newF hl).f⟩⟩
  refine q _ s4 kk ⟨p, vs, rfl, h1, ?_⟩
  have e : cut x.l l h = x.l := by
    unfold cut
    rw [← h2.len, hw.1, hw.2, List.drop_zero, Nat.sub_zero, h2.len, List.take_length]
  show Reps _ _ vs (cut x.l l h)
  rw [e]; exact h2
def popN (n : Nat) (i : Int) : Option Nat := if -(2 ^ 63) ≤ i ∧ i < 2 ^ 63 then seqIndex? i n else none
theorem seqIx_lt {n : Nat} {i : Int} {k : Nat} (h : seqIndex? i n = some k) : k < n := by
  unfold seqIndex? at h
  dsimp only at h
  split at h <;> split at h
  all_goals first | (rename_i h2; simp only [Bool.and_eq_true, decide_eq_true_eq] at h2; cases h; omega) | cases h
theorem do_popAt (i : Nat) {p : Addr} {n : Str} {xs : List α} {z : Int} {j : Nat} (hσ : σ[i]? = some (some (.ref p))) (o : Own X.K s p xs) (he : Ev X e σ s z) (hj : popN xs.length z = some j)
    (k : ∀ s1, Mx (· = p) s s1 → Own X.K s1 p (xs.eraseIdx j) → WSs X rest D σ s1.H)
    (hN : X.N[i]? = some n := by rfl) (hv : Vis X.env.scope n := by first | exact Or.inl rfl | exact Or.inr (Or.inl rfl) | exact Or.inr (Or.inr rfl)) (hd : (n == ("__debug__" : Str)) = false := by decide) (hcd : (n == ("__classdict__" : Str)) = false := by decide)
    (hbase : attributeBase (.Name n p0) "pop" X.env (eval (.Name n p0) X.env) = eval (.Name n p0) X.env := by rfl)
    (hfew : ((backTo p2 (starEach [e] X.env)).all (fun x => !x.1) && (backToKw p2 (keywordEach [] X.env)).all (fun x => x.1.isSome) && decide (([e] : List Expr).length + ([] : List Keyword).length + (if ([] : List Keyword).isEmpty then 0 else 1) < 30)) = true := by rfl)
    (hline : (p1.endLine == p2.line) = true := by rfl) (hs : starEach [e] X.env = (false, eval e X.env) :: starEach [] X.env := by rfl) (hplain : (backTo p2 (starEach [] X.env)).any (·.1) = false := by rfl)
    (hsw : swapsWith (.Call (.Attribute (.Name n p0) "pop" p1) [e] [] p2) none p3.line X.env = pure false := by rfl) :
    WSs X (.Expr (.Call (.Attribute (.Name n p0) "pop" p1) [e] [] p2) p3 :: rest) D σ s.H :=
  do_cons (ps_expr (pe_bm PySem.F.plainAttrs_list PySem.F.slot_list_pop PySem.F.type_list_pop mt_popAt (pe_var hN hv hd hcd) (pa_cons pe_we pa_nil hs) hbase hfew hline hs hplain) hsw) (by
    obtain ⟨h1, vs, h2, h3⟩ := id o
    refine ⟨_, hσ, .inl ⟨rfl, vs, .inl (.inl h2)⟩, he s (Ex.refl _) _ fun v s1 k1 r1 => ?_⟩
    have f1 := k1.n _ _ h2 h1
    have g1 := k1.h _ _ h2
    unfold popN at hj
    split at hj
    · rename_i hb
      have hlt : j < vs.length := by rw [h3.len]; exact seqIx_lt hj
      refine ⟨p, vs, z, j, vs[j], rfl, by rw [show v = V.int z from r1], g1, hb.1, hb.2, by rw [h3.len]; exact hj, List.getElem?_eq_getElem hlt, ?_⟩
      exact k (s1.put p (.lst (vs.eraseIdx j)) f1) (k1.mx.trans (Mx.put f1)) ⟨f1, _, upd_same, (h3.mono k1.f).erase j⟩
    · cases hj)
def InsOk (i : Int) (n : Nat) : Prop := 0 ≤ i ∧ i < 2 ^ 63 ∧ n < sizeLine
def insI {τ : Type} (xs : List τ) (i : Int) (x : τ) : List τ := xs.take i.toNat ++ [x] ++ xs.drop i.toNat
theorem do_insert (i : Nat) {p : Addr} {n : Str} {xs : List α} {z : Int} {x : α} (hσ : σ[i]? = some (some (.ref p))) (o : Own X.K s p xs) (ha : Ev X a σ s z) (hb : Ev X b σ s x) (hj : InsOk z xs.length)
    (k : ∀ s1, Mx (· = p) s s1 → Own X.K s1 p (insI xs z x) → WSs X rest D σ s1.H)
    (hN : X.N[i]? = some n := by rfl) (hv : Vis X.env.scope n := by first | exact Or.inl rfl | exact Or.inr (Or.inl rfl) | exact Or.inr (Or.inr rfl)) (hd : (n == ("__debug__" : Str)) = false := by decide) (hcd : (n == ("__classdict__" : Str)) = false := by decide)
    (hbase : attributeBase (.Name n p0) "insert" X.env (eval (.Name n p0) X.env) = eval (.Name n p0) X.env := by rfl)
    (hfew : ((backTo p2 (starEach [a, b] X.env)).all (fun x => !x.1) && (backToKw p2 (keywordEach [] X.env)).all (fun x => x.1.isSome) && decide (([a, b] : List Expr).length + ([] : List Keyword).length + (if ([] : List Keyword).isEmpty then 0 else 1) < 30)) = true := by rfl)
    (hline : (p1.endLine == p2.line) = true := by rfl) (hs : starEach [a, b] X.env = (false, eval a X.env) :: starEach [b] X.env := by rfl) (hs2 : starEach [b] X.env = (false, eval b X.env) :: starEach [] X.env := by rfl) (hplain : (backTo p2 (starEach [b] X.env)).any (·.1) = false := by rfl)
    (hsw : swapsWith (.Call (.Attribute (.Name n p0) "insert" p1) [a, b] [] p2) none p3.line X.env = pure false := by rfl) :
    WSs X (.Expr (.Call (.Attribute (.Name n p0) "insert" p1) [a, b] [] p2) p3 :: rest) D σ s.H :=
  do_cons (ps_expr (pe_bm PySem.F.plainAttrs_list PySem.F.slot_list_insert PySem.F.type_list_insert mt_insert (pe_var hN hv hd hcd) (pa_cons pe_we (pa_cons pe_we pa_nil hs2) hs) hbase hfew hline hs hplain) hsw) (by
    obtain ⟨h1, vs, h2, h3⟩ := id o
    refine ⟨_, hσ, .inl ⟨rfl, vs, .inl (.inl h2)⟩, ha s (Ex.refl _) _ fun u s1 k1 r1 => hb s1 k1 _ fun v s2 k2 r2 => ?_⟩
    have kk := k1.trans k2
    have f1 := kk.n _ _ h2 h1
    have g1 := kk.h _ _ h2
    refine ⟨p, vs, z, v, rfl, by rw [show u = V.int z from r1], g1, by rw [h3.len]; exact hj.2.2, hj.1, hj.2.1, ?_⟩
    exact k (s2.put p (.lst (vs.take z.toNat ++ [v] ++ vs.drop z.toNat)) f1) (kk.mx.trans (Mx.put f1)) ⟨f1, _, upd_same, (((h3.mono kk.f).take _).snoc r2).app ((h3.mono kk.f).drop _)⟩)
theorem do_reverse (i : Nat) {p : Addr} {n : Str} {xs : List α} (hσ : σ[i]? = some (some (.ref p))) (o : Own X.K s p xs)
    (k : ∀ s1, Mx (· = p) s s1 → Own X.K s1 p xs.reverse → WSs X rest D σ s1.H)
    (hN : X.N[i]? = some n := by rfl) (hv : Vis X.env.scope n := by first | exact Or.inl rfl | exact Or.inr (Or.inl rfl) | exact Or.inr (Or.inr rfl)) (hd : (n == ("__debug__" : Str)) = false := by decide) (hcd : (n == ("__classdict__" : Str)) = false := by decide)
    (hbase : attributeBase (.Name n p0) "reverse" X.env (eval (.Name n p0) X.env) = eval (.Name n p0) X.env := by rfl) (hline : (p1.endLine == p2.line) = true := by rfl)
    (hsw : swapsWith (.Call (.Attribute (.Name n p0) "reverse" p1) [] [] p2) none p3.line X.env = pure false := by rfl) :
    WSs X (.Expr (.Call (.Attribute (.Name n p0) "reverse" p1) [] [] p2) p3 :: rest) D σ s.H :=
  do_cons (ps_expr (pe_bm0 PySem.F.plainAttrs_list PySem.F.slot_list_reverse PySem.F.type_list_reverse mt_reverse (pe_var hN hv hd hcd) hbase hline) hsw) (by
    obtain ⟨h1, vs, h2, h3⟩ := id o
    refine ⟨_, hσ, .inl ⟨rfl, vs, .inl (.inl h2)⟩, p, vs, rfl, rfl, h2, ?_⟩
    exact k (s.put p (.lst vs.reverse) h1) (Mx.put h1) ⟨h1, _, upd_same, h3.rev⟩)
theorem do_clear (i : Nat) {p : Addr} {n : Str} {xs : List α} (hσ : σ[i]? = some (some (.ref p))) (o : Own X.K s p xs)
    (k : ∀ s1, Mx (· = p) s s1 → Own X.K s1 p ([] : List α) → WSs X rest D σ s1.H)
    (hN : X.N[i]? = some n := by rfl) (hv : Vis X.env.scope n := by first | exact Or.inl rfl | exact Or.inr (Or.inl rfl) | exact Or.inr (Or.inr rfl)) (hd : (n == ("__debug__" : Str)) = false := by decide) (hcd : (n == ("__classdict__" : Str)) = false := by decide)
    (hbase : attributeBase (.Name n p0) "clear" X.env (eval (.Name n p0) X.env) = eval (.Name n p0) X.env := by rfl) (hline : (p1.endLine == p2.line) = true := by rfl)
    (hsw : swapsWith (.Call (.Attribute (.Name n p0) "clear" p1) [] [] p2) none p3.line X.env = pure false := by rfl) :
    WSs X (.Expr (.Call (.Attribute (.Name n p0) "clear" p1) [] [] p2) p3 :: rest) D σ s.H :=
  do_cons (ps_expr (pe_bm0 PySem.F.plainAttrs_list PySem.F.slot_list_clear PySem.F.type_list_clear mt_clear (pe_var hN hv hd hcd) hbase hline) hsw) (by
    obtain ⟨h1, vs, h2, h3⟩ := id o
    refine ⟨_, hσ, .inl ⟨rfl, vs, .inl (.inl h2)⟩, p, vs, rfl, rfl, h2, ?_⟩
    exact k (s.put p (.lst []) h1) (Mx.put h1) ⟨h1, _, upd_same, trivial⟩)
theorem ev_catT {x y : Tu α} (ha : Ev X a σ s x) (hb : Ev X b σ s y) (hz : x.l.length + y.l.length ≤ sizeLine) : Ev X (.BinOp a .Add b pos) σ s (Tu.mk (x.l ++ y.l)) := fun s1 k Q q =>
  we_of (pe_op op_catA pe_we pe_we) (ha s1 k _ fun v s2 k2 r2 => hb s2 (k.trans k2) _ fun u s3 k3 r3 => by
    obtain ⟨p, vs, rfl, h1, h2⟩ := Enc.mono (α := Tu α) k3.f r2
    obtain ⟨p', ws, rfl, h3, h4⟩ := r3
    have kk := k2.trans k3
    refine ⟨p, p', vs, ws, rfl, rfl, sqt_mono s3.sub h1, sqt_mono s3.sub h3, by rw [h2.len, h4.len]; exact hz, fun e => ?_, fun _ e => ?_, fun _ _ l hl => q _ (s3.newF l _ hl) (kk.trans (Ex.newF hl)) ⟨l, _, rfl, tup_new hl, (h2.app h4).mono (Ex.newF hl).f⟩⟩
    · refine q _ s3 kk ⟨p', ws, rfl, h3, ?_⟩
      subst e
      have e2 : x.l = [] := List.length_eq_zero_iff.mp h2.len.symm
      show Reps _ _ ws (x.l ++ y.l)
      rw [e2]; exact h4
    · refine q _ s3 kk ⟨p, vs, rfl, h1, ?_⟩
      subst e
      have e2 : y.l = [] := List.length_eq_zero_iff.mp h4.len.symm
      show Reps _ _ vs (x.l ++ y.l)
      rw [e2, List.append_nil]; exact h2)
end
theorem foldO_app {α β : Type} {N : Nat} {f : List β → α → Option (List β)} {g : α → β} : ∀ {xs : List α} {b : List β}, (∀ b x, b.length < N → x ∈ xs → f b x = some (b ++ [g x])) → b.length + xs.length ≤ N → foldO f b xs = some (b ++ xs.map g)
  | [], b, _, _ => by simp [foldO]
  | x :: r, b, h, hl => by
    rw [List.length_cons] at hl
    unfold foldO
    rw [h b x (by omega) List.mem_cons_self, Option.bind_some, foldO_app (xs := r) (b := b ++ [g x]) (fun b y hb hy => h b y hb (List.mem_cons_of_mem _ hy)) (by rw [List.length_append, List.length_singleton]; omega)]
    simp
theorem atI_map {α β : Type} {f : α → β} {xs : List α} {i : Int} {x : α} (h : atI xs i = some x) : atI (xs.map f) i = some (f x) := by
  unfold atI at h ⊢
  rw [List.length_map]
  cases hj : ixN xs.length i with
  | none => rw [hj] at h; cases h
  | some j =>
    rw [hj] at h
    show (xs.map f)[j]? = _
    rw [List.getElem?_map]
    have : xs[j]? = some x := h
    rw [this]; rfl
theorem foldF_none {α ρ : Type} {f : Unit → α → Option (Fl Unit ρ)} : ∀ {xs : List α}, (∀ x ∈ xs, f () x = some (.nx ())) → foldF f () xs = some (.nx ())
  | [], _ => rfl
  | x :: r, h => by
    unfold foldF
    rw [h x List.mem_cons_self]
    exact foldF_none fun y hy => h y (List.mem_cons_of_mem _ hy)
theorem foldF_ok {α ρ : Type} {f : Unit → α → Option (Fl Unit ρ)} {xs : List α} {Q : Fl Unit ρ → Prop} (h : ∀ x ∈ xs, Ok (f () x) (· = .nx ())) (q : Q (.nx ())) : Ok (foldF f () xs) Q :=
  ⟨_, foldF_none fun x hx => (h x hx).eq, q⟩
def Drawn (sizes ds : List Int) : Prop := ds.length = sizes.length ∧ ∀ (j : Nat) (d n : Int), ds[j]? = some d → sizes[j]? = some n → 0 ≤ d ∧ d < n
theorem ok_draw {sizes ds : List Int} (h : Drawn sizes ds) (k : Nat) {n : Int} (hk : sizes[k]? = some n) {Q : Int → Prop} (q : ∀ d, 0 ≤ d → d < n → Q d) : Ok (atI ds (k : Int)) Q := by
  obtain ⟨h1, h2⟩ := h
  have hlt : k < ds.length := by rw [h1]; exact (List.getElem?_eq_some_iff.mp hk).1
  refine ok_atI (by omega) (by omega) fun d hd => ?_
  rw [show (k : Int).toNat = k by omega] at hd
  obtain ⟨a, b⟩ := h2 k d n hd hk
  exact q d a b
theorem ok_sgn {x : Str} {i : Int} {Q : Str → Prop} (hz : x.length ≤ sizeLine) (h0 : 0 ≤ i) (h1 : i < x.length) (h : ∀ c, x.cps.toList[i.toNat]? = some c → Q ⟨#[c]⟩) : Ok (sgn x i) Q := by
  unfold sgn
  rw [if_pos hz]
  have hl : i.toNat < x.cps.toList.length := by
    rw [Array.length_toList]
    show i.toNat < x.length
    omega
  rw [atI_get h0 (by rw [Array.length_toList]; show i < (x.length : Int); exact h1), List.getElem?_eq_getElem hl]
  exact ok_some (h _ (List.getElem?_eq_getElem hl))
theorem bnd_some {α : Type} (m : Option α) : (bnd m fun x => some x) = m := by cases m <;> rfl
theorem ok_ret {α : Type} {m : Option α} {P : α → Prop} (h : Ok m P) : Ok (bnd m fun x => some x) P := by rw [bnd_some]; exact h
def txt (x : Str) : Prop := PyData.strOk x = true
theorem shp_strs {xs : List Str} (h : ∀ x ∈ xs, txt x) : shp xs := by
  unfold shp SeqAt.shaped
  have h1 : PyData.canLay0 (EqD.toD xs) = true := by
    show PyData.canLay0 (.list (xs.map PyData.str)) = true
    unfold PyData.canLay0
    induction xs with
    | nil => simp [PyData.canLayAll0]
    | cons x r ih =>
      rw [List.map_cons]
      unfold PyData.canLayAll0
      rw [ih fun y hy => h y (List.mem_cons_of_mem _ hy)]
      show (PyData.canLay0 (.str x) && true) = true
      unfold PyData.canLay0
      rw [show PyData.strOk x = true from h x List.mem_cons_self]; rfl
  have h2 : PyData.depth (EqD.toD xs) ≤ 64 := by
    show PyData.depth (.list (xs.map PyData.str)) ≤ 64
    unfold PyData.depth
    have : PyData.depthAll (xs.map PyData.str) = 0 := by
      clear h h1
      induction xs with
      | nil => simp [PyData.depthAll]
      | cons x r ih => rw [List.map_cons]; unfold PyData.depthAll; rw [ih]; simp [PyData.depth]
    omega
  rw [h1, decide_eq_true h2]; rfl
end Dy

namespace Dy
open PySem PySem.Spec L2
open PyProof.Rows hiding St
open Enc (rep)
open Flat (toV)
open EncA (repA)

def S.back (s t : S) (h : Fle s.F t.F) : S := ⟨s.F, t.H, fun a o q => t.sub a o (h a o q)⟩
theorem backE {s0 s t : S} (h : Fle s.F t.F) (E : Ex s0 s) (E' : Ex s0 t) : Ex s0 (s.back t h) := ⟨E.f, E'.h, E.n⟩
theorem backOwn {α : Type} [Enc α] {K : PySem.W.Frag} {s s1 t : S} {p : Addr} {xs : List α} (h : Fle s.F t.F) (o : Own K s p xs) (h1 : s1.F p = s.H p) (h2 : Fle s1.F t.F) : Own K (s.back t h) p xs := by
  obtain ⟨n, vs, e, r⟩ := o
  exact ⟨n, vs, t.sub _ _ (h2 _ _ (h1.trans e)), r⟩
theorem backOwn2 {α : Type} [Flat α] {K : PySem.W.Frag} {s t : S} {q : Addr} {xs : List α} (h : Fle s.F t.F) (o : Own K t q xs) : Own K (s.back t h) q xs := by
  obtain ⟨n, vs, e, r⟩ := o
  refine ⟨?_, vs, e, ?_⟩
  · show s.F q = none
    cases z : s.F q with
    | none => rfl
    | some u => rw [h _ _ z] at n; cases n
  · rw [r.flat]; exact Reps.of_flat xs
theorem backFlat {α : Type} [Flat α] {K : PySem.W.Frag} {s t : S} {v : V} {x : α} (h : Fle s.F t.F) (r : rep K t.F v x) : rep K (s.back t h).F v x := Flat.iff.mpr (Flat.iff.mp r)
section
variable {α β γ δ : Type} [Enc α] [Enc β] [Enc γ] [Enc δ] {X : Cx} {σ : St} {s t : S} {e a b c tg iter : Expr} {es : List Expr} {pos p0 p1 p2 p3 p4 p5 : Pos} {D : Ends} {rest A B body : List Stmt}
theorem do_frz2 {p : Addr} {xs : List α} {ss : List Stmt} (o : Own X.K s p xs) (k : ∀ s' : S, s'.H = s.H → Fle s.F s'.F → (∀ q, q ≠ p → s'.F q = s.F q) → rep X.K s'.F (.ref p) xs → s'.F p = s.H p → WSs X ss D σ s'.H) : WSs X ss D σ s.H := by
  obtain ⟨hn, vs, hp, r⟩ := o
  have f : Fle s.F (upd s.F p (.lst vs)) := fun a o q => by rw [upd_ne (ne_of_none q hn)]; exact q
  exact k ⟨upd s.F p (.lst vs), s.H, fun a o q => by
    unfold upd at q
    split at q
    · rename_i e; cases q; rw [e]; exact hp
    · exact s.sub a o q⟩ rfl f (fun q hq => upd_ne hq) ⟨p, vs, rfl, .inl (.inl upd_same), r.mono f⟩ (by show upd s.F p (.lst vs) p = _; rw [upd_same, hp])
theorem do_back {ss : List Stmt} (s : S) {t : S} (h : Fle s.F t.F) (k : WSs X ss D σ (s.back t h).H) : WSs X ss D σ t.H := k

section
variable {p : Addr} {n : Str} {xs : List α}
theorem we_pop (i : Nat) {z : Int} {j : Nat} {y : α} {Q : VK} (hσ : σ[i]? = some (some (.ref p))) (o : Own X.K s p xs) (he : Ev X e σ s z) (hj : popN xs.length z = some j) (hy : xs[j]? = some y)
    (k : ∀ v s1, Mx (· = p) s s1 → Own X.K s1 p (xs.eraseIdx j) → rep X.K s1.F v y → Q v s1.H)
    (hN : X.N[i]? = some n := by rfl) (hv : Vis X.env.scope n := by first | exact Or.inl rfl | exact Or.inr (Or.inl rfl) | exact Or.inr (Or.inr rfl)) (hd : (n == ("__debug__" : Str)) = false := by decide) (hcd : (n == ("__classdict__" : Str)) = false := by decide)
    (hbase : attributeBase (.Name n p0) "pop" X.env (eval (.Name n p0) X.env) = eval (.Name n p0) X.env := by rfl)
    (hfew : ((backTo p2 (starEach [e] X.env)).all (fun x => !x.1) && (backToKw p2 (keywordEach [] X.env)).all (fun x => x.1.isSome) && decide (([e] : List Expr).length + ([] : List Keyword).length + (if ([] : List Keyword).isEmpty then 0 else 1) < 30)) = true := by rfl)
    (hline : (p1.endLine == p2.line) = true := by rfl) (hs : starEach [e] X.env = (false, eval e X.env) :: starEach [] X.env := by rfl) (hplain : (backTo p2 (starEach [] X.env)).any (·.1) = false := by rfl) :
    WE X (.Call (.Attribute (.Name n p0) "pop" p1) [e] [] p2) σ s.H Q :=
  we_of (pe_bm PySem.F.plainAttrs_list PySem.F.slot_list_pop PySem.F.type_list_pop mt_popAt (pe_var hN hv hd hcd) (pa_cons pe_we pa_nil hs) hbase hfew hline hs hplain) (by
    obtain ⟨h1, vs, h2, h3⟩ := id o
    refine ⟨_, hσ, .inl ⟨rfl, vs, .inl (.inl h2)⟩, he s (Ex.refl _) _ fun v s1 k1 r1 => ?_⟩
    have f1 := k1.n _ _ h2 h1
    have g1 := k1.h _ _ h2
    unfold popN at hj
    split at hj
    · rename_i hb
      obtain ⟨w, hw, rw'⟩ := (h3.mono k1.f).get hy
      refine ⟨p, vs, z, j, w, rfl, by rw [show v = V.int z from r1], g1, hb.1, hb.2, by rw [h3.len]; exact hj, hw, ?_⟩
      exact k w (s1.put p (.lst (vs.eraseIdx j)) f1) (k1.mx.trans (Mx.put f1)) ⟨f1, _, upd_same, (h3.mono k1.f).erase j⟩ rw'
    · cases hj)
end
def popAt {τ : Type} (xs : List τ) (z : Int) : Option (τ × List τ) := (popN xs.length z).bind fun j => (xs[j]?).map fun y => (y, xs.eraseIdx j)
theorem popAt_some {τ : Type} {xs ys : List τ} {z : Int} {y : τ} (h : popAt xs z = some (y, ys)) : ∃ j, popN xs.length z = some j ∧ xs[j]? = some y ∧ ys = xs.eraseIdx j := by
  unfold popAt at h
  obtain ⟨j, h1, h2⟩ := bndE h
  obtain ⟨w, h3, h4⟩ := Option.map_eq_some_iff.mp h2
  cases h4
  exact ⟨j, h1, h3, rfl⟩
theorem do_setPop (i l : Nat) {p : Addr} {n m : Str} {xs ys : List α} {z : Int} {y : α} {py : Pos} (hσ : σ[i]? = some (some (.ref p))) (o : Own X.K s p xs) (he : Ev X e σ s z) (hj : popAt xs z = some (y, ys))
    (k : ∀ v s1, Mx (· = p) s s1 → Own X.K s1 p ys → rep X.K s1.F v y → WSs X rest D (σ.set l (some v)) s1.H)
    (hnd : X.N.Nodup) (hN : X.N[i]? = some n := by rfl) (hv : Vis X.env.scope n := by first | exact Or.inl rfl | exact Or.inr (Or.inl rfl) | exact Or.inr (Or.inr rfl)) (hd : (n == ("__debug__" : Str)) = false := by decide) (hcd : (n == ("__classdict__" : Str)) = false := by decide)
    (hbase : attributeBase (.Name n p0) "pop" X.env (eval (.Name n p0) X.env) = eval (.Name n p0) X.env := by rfl)
    (hfew : ((backTo p2 (starEach [e] X.env)).all (fun x => !x.1) && (backToKw p2 (keywordEach [] X.env)).all (fun x => x.1.isSome) && decide (([e] : List Expr).length + ([] : List Keyword).length + (if ([] : List Keyword).isEmpty then 0 else 1) < 30)) = true := by rfl)
    (hline : (p1.endLine == p2.line) = true := by rfl) (hs : starEach [e] X.env = (false, eval e X.env) :: starEach [] X.env := by rfl) (hplain : (backTo p2 (starEach [] X.env)).any (·.1) = false := by rfl)
    (hx : Loc X.env.scope m := by first | exact Or.inl rfl | exact Or.inr rfl) (hi : X.N[l]? = some m := by rfl)
    (hsw : swapsWith (.Call (.Attribute (.Name n p0) "pop" p1) [e] [] p2) (some (.Name m py)) pos.line X.env = pure false := by rfl) (hf : X.fn m = true ∨ X.env.scope.names.lookup m = some .local := by first | exact .inl rfl | exact .inr rfl) :
    WSs X (.Assign [.Name m py] (.Call (.Attribute (.Name n p0) "pop" p1) [e] [] p2) pos :: rest) D σ s.H := by
  obtain ⟨j, h1, h2, rfl⟩ := popAt_some hj
  exact do_cons (ps_set hnd hi hx pe_we hsw hf) (we_pop i hσ o he h1 h2 (fun v s1 m1 o1 r1 => k v s1 m1 o1 r1) hN hv hd hcd hbase hfew hline hs hplain)
theorem do_appPop (i l : Nat) {p q : Addr} {n m : Str} {xs ys zs : List α} {z : Int} {y : α} {py : Pos} (hσ : σ[i]? = some (some (.ref p))) (hσ2 : σ[l]? = some (some (.ref q))) (hpq : q ≠ p) (o : Own X.K s p xs) (o2 : Own X.K s q zs) (hz : zs.length < sizeLine) (he : Ev X e σ s z) (hj : popAt xs z = some (y, ys))
    (k : ∀ s1, Mx (fun a => a = p ∨ a = q) s s1 → Own X.K s1 p ys → Own X.K s1 q (zs ++ [y]) → WSs X rest D σ s1.H)
    (hN : X.N[i]? = some n := by rfl) (hv : Vis X.env.scope n := by first | exact Or.inl rfl | exact Or.inr (Or.inl rfl) | exact Or.inr (Or.inr rfl)) (hd : (n == ("__debug__" : Str)) = false := by decide) (hcd : (n == ("__classdict__" : Str)) = false := by decide)
    (hbase : attributeBase (.Name n p0) "pop" X.env (eval (.Name n p0) X.env) = eval (.Name n p0) X.env := by rfl)
    (hfew : ((backTo p2 (starEach [e] X.env)).all (fun x => !x.1) && (backToKw p2 (keywordEach [] X.env)).all (fun x => x.1.isSome) && decide (([e] : List Expr).length + ([] : List Keyword).length + (if ([] : List Keyword).isEmpty then 0 else 1) < 30)) = true := by rfl)
    (hline : (p1.endLine == p2.line) = true := by rfl) (hs : starEach [e] X.env = (false, eval e X.env) :: starEach [] X.env := by rfl) (hplain : (backTo p2 (starEach [] X.env)).any (·.1) = false := by rfl)
    (hN2 : X.N[l]? = some m := by rfl) (hv2 : Vis X.env.scope m := by first | exact Or.inl rfl | exact Or.inr (Or.inl rfl) | exact Or.inr (Or.inr rfl)) (hd2 : (m == ("__debug__" : Str)) = false := by decide) (hcd2 : (m == ("__classdict__" : Str)) = false := by decide)
    (hbase2 : attributeBase (.Name m py) "append" X.env (eval (.Name m py) X.env) = eval (.Name m py) X.env := by rfl)
    (hfew2 : ((backTo p4 (starEach [.Call (.Attribute (.Name n p0) "pop" p1) [e] [] p2] X.env)).all (fun x => !x.1) && (backToKw p4 (keywordEach [] X.env)).all (fun x => x.1.isSome) && decide (([.Call (.Attribute (.Name n p0) "pop" p1) [e] [] p2] : List Expr).length + ([] : List Keyword).length + (if ([] : List Keyword).isEmpty then 0 else 1) < 30)) = true := by rfl)
    (hline2 : (p3.endLine == p4.line) = true := by rfl) (hs2 : starEach [.Call (.Attribute (.Name n p0) "pop" p1) [e] [] p2] X.env = (false, eval (.Call (.Attribute (.Name n p0) "pop" p1) [e] [] p2) X.env) :: starEach [] X.env := by rfl) (hplain2 : (backTo p4 (starEach [] X.env)).any (·.1) = false := by rfl)
    (hsw : swapsWith (.Call (.Attribute (.Name m py) "append" p3) [.Call (.Attribute (.Name n p0) "pop" p1) [e] [] p2] [] p4) none p5.line X.env = pure false := by rfl) :
    WSs X (.Expr (.Call (.Attribute (.Name m py) "append" p3) [.Call (.Attribute (.Name n p0) "pop" p1) [e] [] p2] [] p4) p5 :: rest) D σ s.H := by
  obtain ⟨j, h1, h2, rfl⟩ := popAt_some hj
  refine do_cons (ps_expr (pe_bm PySem.F.plainAttrs_list PySem.F.slot_list_append PySem.F.type_list_append mt_append (pe_var hN2 hv2 hd2 hcd2) (pa_cons pe_we pa_nil hs2) hbase2 hfew2 hline2 hs2 hplain2) hsw) ?_
  obtain ⟨g1, vs, g2, g3⟩ := id o2
  refine ⟨_, hσ2, .inl ⟨rfl, vs, .inl (.inl g2)⟩, we_pop i hσ o he h1 h2 (fun v s1 m1 o1 r1 => ?_) hN hv hd hcd hbase hfew hline hs hplain⟩
  obtain ⟨f1, ws, f2, f3⟩ := o2.mx m1 hpq
  refine ⟨q, ws, v, rfl, rfl, f2, by rw [f3.len]; exact hz, ?_⟩
  have m2 : Mx (fun a => a = p ∨ a = q) s1 (s1.put q (.lst (ws ++ [v])) f1) := ⟨(Mx.put f1).f, fun a u h nn => (Mx.put f1).h a u h fun z => nn (.inr z), (Mx.put f1).n, (Mx.put f1).d⟩
  have m0 : Mx (fun a => a = p ∨ a = q) s s1 := ⟨m1.f, fun a u h nn => m1.h a u h fun z => nn (.inl z), m1.n, m1.d⟩
  refine k (s1.put q (.lst (ws ++ [v])) f1) (m0.trans m2) (o1.mx (Mx.put f1) fun z => hpq z.symm) ⟨f1, _, upd_same, f3.snoc r1⟩
theorem Ex.mu2 {s t u : S} {p q : Addr} (a : Ex s t) (b : Mx (fun a => a = p ∨ a = q) t u) (h : s.H p = none) (h2 : s.H q = none) : Ex s u := a.mu b fun _ e => e.elim (fun z => z ▸ h) fun z => z ▸ h2
def popAll {σ τ : Type} (f : List τ → σ → Option Int) : List τ → List σ → Option (List τ)
  | _, [] => some []
  | l, x :: r => (f l x).bind fun z => (popAt l z).bind fun y => (popAll f y.2 r).bind fun ys => some (y.1 :: ys)
theorem do_retPop (i j : Nat) {τ : Type} [Enc τ] {zs : List τ} {xs ys : List α} {f : List α → τ → Option Int} {p : Addr} {n x : Str} {px : Pos} {ie : Expr} {scope : Scope} {own : List (Str × Nat)} (hc : X.calm = true) (hN : X.N.Nodup) (hi : EvI X (.Name x px) iter σ s zs) (o : Own X.K s p xs) (ok : BlkOk X.N X.env.scope scope own)
    (hj : X.N[j]? = some x) (hjo : j ∈ own.map (·.2)) (hg : ∀ s0 H0 C cl fp, PG (Blk X scope s0 H0 C cl fp) (.Name x px) (gName j)) (hσ : ∀ v, ((wipe σ (own.map (·.2))).set j (some v))[i]? = some (some (.ref p))) (hf : popAll f xs zs = some ys) (hz : ys.length ≤ sizeLine)
    (he : ∀ (l : List α) (y : τ) (z : Int) (v : V) (s1 : S), y ∈ zs → Mx (· = p) s s1 → Own X.K s1 p l → rep X.K s1.F v y → f l y = some z → ∀ s0 H0 C cl fp, Ev (Blk X scope s0 H0 C cl fp) ie ((wipe σ (own.map (·.2))).set j (some v)) s1 z)
    (k : ∀ q s1, Mx (· = p) s s1 → s.H q = none → Own X.K s1 q ys → D.rt (.ref q) s1.H)
    (hNi : X.N[i]? = some n := by rfl)
    (hv : ∀ s0 H0 C cl fp, Vis (Blk X scope s0 H0 C cl fp).env.scope n := by intros; first | exact Or.inl rfl | exact Or.inr (Or.inl rfl) | exact Or.inr (Or.inr rfl)) (hd : (n == ("__debug__" : Str)) = false := by decide) (hcd : (n == ("__classdict__" : Str)) = false := by decide)
    (hbase : ∀ s0 H0 C cl fp, attributeBase (.Name n p0) "pop" (Blk X scope s0 H0 C cl fp).env (eval (.Name n p0) (Blk X scope s0 H0 C cl fp).env) = eval (.Name n p0) (Blk X scope s0 H0 C cl fp).env := by intros; rfl)
    (hfew : ∀ s0 H0 C cl fp, ((backTo p2 (starEach [ie] (Blk X scope s0 H0 C cl fp).env)).all (fun x => !x.1) && (backToKw p2 (keywordEach [] (Blk X scope s0 H0 C cl fp).env)).all (fun x => x.1.isSome) && decide (([ie] : List Expr).length + ([] : List Keyword).length + (if ([] : List Keyword).isEmpty then 0 else 1) < 30)) = true := by intros; rfl)
    (hline : (p1.endLine == p2.line) = true := by rfl) (hs1 : ∀ s0 H0 C cl fp, starEach [ie] (Blk X scope s0 H0 C cl fp).env = (false, eval ie (Blk X scope s0 H0 C cl fp).env) :: starEach [] (Blk X scope s0 H0 C cl fp).env := by intros; rfl) (hplain : ∀ s0 H0 C cl fp, (backTo p2 (starEach [] (Blk X scope s0 H0 C cl fp).env)).any (·.1) = false := by intros; rfl)
    (hs : ∀ x, foldedSetIterable iter X.env x = pure x := by intro _; rfl) : WSs X (.Return (some (.ListComp (.Call (.Attribute (.Name n p0) "pop" p1) [ie] [] p2) [⟨.Name x px, iter, [], 0⟩] scope p3)) pos :: rest) D σ s.H := by
  have hpe : PE X (.ListComp (.Call (.Attribute (.Name n p0) "pop" p1) [ie] [] p2) [⟨.Name x px, iter, [], 0⟩] scope p3) (tLc (WI X (.Name x px) iter) (gName j) tYes (fun σ H Q => ∀ s0 H0 C cl fp, WE (Blk X scope s0 H0 C cl fp) (.Call (.Attribute (.Name n p0) "pop" p1) [ie] [] p2) σ H Q) (own.map (·.2))) :=
    pe_lc hc hN pi_wi ok hg (fun s0 H0 C cl fp => pts_nil) (fun s0 H0 C cl fp => ⟨fun pins s _ _ _ I h => h s0 H0 C cl fp pins s I⟩) hs
  refine do_cons (ps_ret hpe) ?_
  refine (show EvI X (.Name x px) iter σ s zs from hi) s (Ex.refl _) _ fun J s2 k2 W => ?_
  intro Dd hD
  have o2 : Own X.K s2 p xs := o.ex k2
  have hne : p ≠ Dd := Own.ne o2 hD
  refine ⟨fun i m H => ∃ (u : S) (pre l : List α) (vs : List V), u.H = H ∧ m = zs.length - i ∧ Mx (· = p) s2 u ∧ Own X.K u p l ∧ u.F Dd = none ∧ u.H Dd = some (.lst vs) ∧ Reps X.K u.F vs pre ∧ (∃ suf, popAll f l (zs.drop i) = some suf ∧ pre ++ suf = ys), ⟨zs.length, s2.newO Dd (.lst []) hD, [], xs, [], rfl, rfl, (Ex.newO hD).mx, o2.ex (Ex.newO hD), (fF hD : s2.F Dd = none), upd_same, trivial, ys, hf, rfl⟩, ?_⟩
  rintro i' m H ⟨u, pre, l, vs, rfl, rfl, ku, ol, n1, n2, n3, suf, h1, h2⟩
  by_cases hi' : i' < zs.length
  · right
    obtain ⟨g1, g2⟩ := W.go i' u zs[i'] ku.f (List.getElem?_eq_getElem hi')
    refine ⟨g1, fun H' => ∃ m', m' < zs.length - i' ∧ ∃ (u : S) (pre l : List α) (vs : List V), u.H = H' ∧ m' = zs.length - (i' + 1) ∧ Mx (· = p) s2 u ∧ Own X.K u p l ∧ u.F Dd = none ∧ u.H Dd = some (.lst vs) ∧ Reps X.K u.F vs pre ∧ (∃ suf, popAll f l (zs.drop (i' + 1)) = some suf ∧ pre ++ suf = ys), fun H' z => z, fun v H' hy => ?_⟩
    obtain ⟨u', rfl, ku', rv⟩ := g2 v H' hy
    refine ⟨by show wipe ((wipe σ (own.map (·.2))).set j (some v)) (own.map (·.2)) = _; rw [wipe_set hjo]; exact wipe_wipe fun _ z => z, ?_⟩
    unfold tYes
    dsimp only
    rw [if_pos rfl]
    rw [List.drop_eq_getElem_cons hi'] at h1
    unfold popAll at h1
    obtain ⟨z, hz1, h1⟩ := bndE h1
    obtain ⟨⟨y, l'⟩, hz2, h1⟩ := bndE h1
    obtain ⟨suf', hz3, h1⟩ := bndE h1
    cases h1
    obtain ⟨jj, e1, e2, e3⟩ := popAt_some hz2
    subst e3
    have kk : Mx (· = p) s u' := (k2.mx.trans ku).trans ku'.mx
    intro s0 H0 C cl fp
    refine we_pop (X := Blk X scope s0 H0 C cl fp) (e := ie) i (hσ v) (ol.ex ku') (he l zs[i'] z v u' (List.getElem_mem hi') kk (ol.ex ku') rv hz1 s0 H0 C cl fp) e1 e2 (fun w u4 m4 o4 r4 => ?_) hNi (hv s0 H0 C cl fp) hd hcd (hbase s0 H0 C cl fp) (hfew s0 H0 C cl fp) hline (hs1 s0 H0 C cl fp) (hplain s0 H0 C cl fp)
    have k5 : Mx (· = p) u u4 := ku'.mx.trans m4
    have hD4 : u4.H Dd = some (.lst vs) := k5.h _ _ n2 fun z => hne z.symm
    have hF4 : u4.F Dd = none := k5.n _ _ n2 n1
    have hlen : vs.length < sizeLine := by
      have e1 := n3.len
      have e2 : ys.length = pre.length + (suf'.length + 1) := by rw [← h2, List.length_append, List.length_cons]
      omega
    have hlt : zs.length - (i' + 1) < zs.length - i' := by omega
    have md : Mx (· = p) s2 (u4.put Dd (.lst (vs ++ [w])) hF4) := ⟨(ku.trans k5).f, fun a ob h nn => by
      show upd u4.H Dd _ a = some ob
      rw [upd_ne (ne_of_none h hD)]; exact (ku.trans k5).h a ob h nn, (ku.trans k5).n, fun a ob h => by
      obtain ⟨ob', h'⟩ := (ku.trans k5).d a ob h
      exact ⟨ob', by show upd u4.H Dd _ a = some ob'; rw [upd_ne (ne_of_none h hD)]; exact h'⟩⟩
    exact ⟨vs, hD4, hlen, _, hlt, u4.put Dd (.lst (vs ++ [w])) hF4, pre ++ [y], _, vs ++ [w], rfl, rfl, md, o4.mx (Mx.put hF4) hne, hF4, upd_same, (n3.mono k5.f).snoc r4, suf', hz3, by rw [List.append_assoc]; exact h2⟩
  · left
    have hd : zs.drop i' = [] := List.drop_eq_nil_of_le (by omega)
    rw [hd] at h1
    cases h1
    refine ⟨W.stop i' u ku.f (by omega), k Dd u (k2.mx.trans ku) (fr_back k2 hD) ⟨n1, vs, n2, ?_⟩⟩
    rw [← h2, List.append_nil]
    exact n3
end
end Dy

namespace Dy
open PySem PySem.Spec L2
open PyProof.Rows hiding St

theorem php : ∀ (n : Nat) (l : List Nat), l.Nodup → (∀ x ∈ l, x < n) → l.length ≤ n
  | 0, [], _, _ => Nat.le_refl _
  | 0, x :: _, _, h => absurd (h x List.mem_cons_self) (Nat.not_lt_zero _)
  | n + 1, l, hn, h => by
    by_cases hm : n ∈ l
    · have h1 := php n (l.erase n) (hn.erase n) (fun x hx => by
        have h2 := h x (List.mem_of_mem_erase hx)
        have h3 : x ≠ n := (hn.mem_erase_iff.mp hx).1
        omega)
      rw [List.length_erase_of_mem hm] at h1
      omega
    · have := php n l hn (fun x hx => by
        have h2 := h x hx
        have h3 : x ≠ n := fun e => hm (e ▸ hx)
        omega)
      omega
theorem mem_rng {a b x : Int} : x ∈ rng a b ↔ a ≤ x ∧ x < b := by
  constructor
  · exact rng_mem
  · intro ⟨h1, h2⟩
    unfold rng
    refine List.mem_map.mpr ⟨(x - a).toNat, List.mem_range.mpr (by omega), by omega⟩
theorem rng_nodup (a b : Int) : (rng a b).Nodup := by
  unfold rng
  refine List.Pairwise.map _ (fun x y h e => h (by omega)) List.nodup_range
theorem rng_sorted (a b : Int) : (rng a b).Pairwise (· ≤ ·) := by
  unfold rng
  refine List.Pairwise.map _ (fun x y h => ?_) List.pairwise_lt_range
  omega
theorem sort_perm (xs : List Int) : (sortI xs).Perm xs := List.mergeSort_perm _ _
theorem sort_of_perm {xs ys : List Int} (h : xs.Perm ys) (hs : ys.Pairwise (· ≤ ·)) : sortI xs = ys := by
  refine List.Perm.eq_of_pairwise (le := fun x y : Int => x ≤ y) (fun a b _ _ h h' => Int.le_antisymm h h') ?_ hs ((sort_perm xs).trans h)
  have := List.pairwise_mergeSort (le := fun x y : Int => decide (x ≤ y)) (fun a b c h1 h2 => by simp at *; omega) (fun a b => by simp; omega) xs
  exact this.imp (by simp)
theorem perm_rng {l : List Int} {n : Nat} (h1 : l.Nodup) (h2 : l.length = n) (h3 : ∀ x ∈ l, 0 ≤ x ∧ x < n) : l.Perm (rng 0 n) := by
  refine (List.perm_ext_iff_of_nodup h1 (rng_nodup 0 n)).mpr fun a => ⟨fun h => mem_rng.mpr (h3 a h), fun h => ?_⟩
  obtain ⟨a0, a1⟩ := mem_rng.mp h
  refine Classical.byContradiction fun hn => ?_
  have h4 : ((a :: l).map Int.toNat).Nodup := by
    refine List.Pairwise.map (R := fun x y => x ≠ y ∧ 0 ≤ x ∧ 0 ≤ y) _ (fun x y ⟨h, p, q⟩ e => h (by omega)) ?_
    refine List.pairwise_cons.mpr ⟨fun x hx => ⟨fun e => hn (e ▸ hx), a0, (h3 x hx).1⟩, ?_⟩
    refine List.Pairwise.imp_of_mem (fun {x y} hx hy h => ⟨h, (h3 x hx).1, (h3 y hy).1⟩) h1
  have h5 := php n _ h4 (fun x hx => by
    obtain ⟨y, hy, rfl⟩ := List.mem_map.mp hx
    rcases List.mem_cons.mp hy with rfl | hy
    · omega
    · have := h3 y hy; omega)
  simp at h5
  omega
def nxt (o : List Int) (x : Int) : Int := o.getD x.toNat 0
def it (o : List Int) : Nat → Int → Int
  | 0, x => x
  | k + 1, x => nxt o (it o k x)
theorem it_add (o : List Int) (a b : Nat) (x : Int) : it o (a + b) x = it o a (it o b x) := by
  induction a with
  | zero => rw [Nat.zero_add]; rfl
  | succ a ih => rw [Nat.succ_add]; show nxt o _ = nxt o _; rw [ih]
theorem it_one (o : List Int) (x : Int) : it o 1 x = nxt o x := rfl
theorem it_comm (o : List Int) (a b : Nat) (x : Int) : it o a (it o b x) = it o b (it o a x) := by rw [← it_add, ← it_add, Nat.add_comm]
structure IsOrd (o : List Int) : Prop where
  l1 : 1 ≤ o.length
  l2 : o.length ≤ 40
  pm : o.Perm (rng 0 o.length)
theorem isOrd_sort {o : List Int} (h1 : 1 ≤ o.length) (h2 : o.length ≤ 40) (h3 : sortI o = rng 0 o.length) : IsOrd o := ⟨h1, h2, by rw [← h3]; exact (sort_perm o).symm⟩
section
variable {o : List Int}
theorem IsOrd.sort (h : IsOrd o) : sortI o = rng 0 o.length := sort_of_perm h.pm (rng_sorted _ _)
theorem IsOrd.nd (h : IsOrd o) : o.Nodup := h.pm.nodup_iff.mpr (rng_nodup _ _)
theorem IsOrd.mem (h : IsOrd o) {x : Int} : x ∈ o ↔ 0 ≤ x ∧ x < o.length := h.pm.mem_iff.trans mem_rng
theorem nxt_get {x : Int} (h0 : 0 ≤ x) (h1 : x < o.length) : o[x.toNat]? = some (nxt o x) := by
  unfold nxt
  have : x.toNat < o.length := by omega
  rw [List.getElem?_eq_getElem this, List.getD_eq_getElem?_getD, List.getElem?_eq_getElem this]; rfl
theorem nxt_at {x : Int} (h0 : 0 ≤ x) (h1 : x < o.length) : atI o x = some (nxt o x) := by rw [atI_get h0 h1, nxt_get h0 h1]
theorem IsOrd.nxt (h : IsOrd o) {x : Int} (h0 : 0 ≤ x) (h1 : x < o.length) : 0 ≤ Dy.nxt o x ∧ Dy.nxt o x < o.length := h.mem.mp (List.mem_of_getElem? (nxt_get h0 h1))
theorem IsOrd.it (h : IsOrd o) {x : Int} (h0 : 0 ≤ x) (h1 : x < o.length) : ∀ k, 0 ≤ Dy.it o k x ∧ Dy.it o k x < o.length
  | 0 => ⟨h0, h1⟩
  | k + 1 => h.nxt (h.it h0 h1 k).1 (h.it h0 h1 k).2
theorem IsOrd.inj (h : IsOrd o) {x y : Int} (x0 : 0 ≤ x) (x1 : x < o.length) (y0 : 0 ≤ y) (y1 : y < o.length) (e : Dy.nxt o x = Dy.nxt o y) : x = y := by
  have h1 := nxt_get x0 x1
  have h2 := nxt_get y0 y1
  rw [← e] at h2
  obtain ⟨a1, b1⟩ := List.getElem?_eq_some_iff.mp h1
  obtain ⟨a2, b2⟩ := List.getElem?_eq_some_iff.mp h2
  have := (List.getElem_inj h.nd (i := x.toNat) (j := y.toNat) (h₀ := a1) (h₁ := a2)).mp (b1.trans b2.symm)
  omega
theorem IsOrd.itInj (h : IsOrd o) : ∀ (k : Nat) {x y : Int}, 0 ≤ x → x < o.length → 0 ≤ y → y < o.length → Dy.it o k x = Dy.it o k y → x = y
  | 0, _, _, _, _, _, _, e => e
  | k + 1, _, _, x0, x1, y0, y1, e => h.itInj k x0 x1 y0 y1 (h.inj (h.it x0 x1 k).1 (h.it x0 x1 k).2 (h.it y0 y1 k).1 (h.it y0 y1 k).2 e)
theorem least {p : Nat → Prop} : ∀ n, p n → ∃ m, m ≤ n ∧ p m ∧ ∀ k, k < m → ¬ p k := by
  intro n
  induction n using Nat.strongRecOn with
  | _ n ih =>
    intro h
    by_cases hk : ∃ k, k < n ∧ p k
    · obtain ⟨k, h1, h2⟩ := hk
      obtain ⟨m, h3, h4, h5⟩ := ih k h1 h2
      exact ⟨m, by omega, h4, h5⟩
    · exact ⟨n, Nat.le_refl _, h, fun k hk' hp => hk ⟨k, hk', hp⟩⟩
theorem IsOrd.cycle (h : IsOrd o) {x : Int} (h0 : 0 ≤ x) (h1 : x < o.length) : ∃ L, 1 ≤ L ∧ L ≤ o.length ∧ Dy.it o L x = x ∧ ∀ k, 0 < k → k < L → Dy.it o k x ≠ x := by
  have ex : ∃ L, 1 ≤ L ∧ L ≤ o.length ∧ Dy.it o L x = x := by
    refine Classical.byContradiction fun hn => ?_
    have hne : ∀ i j, i < j → j ≤ o.length → Dy.it o i x ≠ Dy.it o j x := fun i j hij hj e => by
      refine hn ⟨j - i, by omega, by omega, ?_⟩
      have e2 : Dy.it o i x = Dy.it o i (Dy.it o (j - i) x) := by rw [← it_add, show i + (j - i) = j by omega]; exact e
      have := h.it h0 h1 (j - i)
      exact (h.itInj i h0 h1 this.1 this.2 e2).symm
    have h2 : ((List.range (o.length + 1)).map fun k => (Dy.it o k x).toNat).Nodup := by
      refine List.Pairwise.map (R := fun a b => a < b ∧ b ≤ o.length) _ (fun a b ⟨p, q⟩ e => ?_) ?_
      · have e1 := h.it h0 h1 a
        have e2 := h.it h0 h1 b
        exact hne a b p q (by omega)
      · refine List.Pairwise.imp_of_mem (fun {a b} ha hb hlt => ⟨hlt, by have := List.mem_range.mp hb; omega⟩) List.pairwise_lt_range
    have h3 := php o.length _ h2 (fun y hy => by
      obtain ⟨k, _, rfl⟩ := List.mem_map.mp hy
      have := h.it h0 h1 k
      omega)
    rw [List.length_map, List.length_range] at h3
    omega
  obtain ⟨L, a, b, c⟩ := ex
  obtain ⟨m, m1, ⟨m2, m3, m4⟩, m5⟩ := least (p := fun L => 1 ≤ L ∧ L ≤ o.length ∧ Dy.it o L x = x) L ⟨a, b, c⟩
  exact ⟨m, m2, m3, m4, fun k k0 k1 e => m5 k k1 ⟨by omega, by omega, e⟩⟩
theorem it_mul {L : Nat} {x : Int} (h : Dy.it o L x = x) : ∀ q, Dy.it o (L * q) x = x
  | 0 => rfl
  | q + 1 => by rw [Nat.mul_succ, it_add, h, it_mul h q]
theorem it_mod {L : Nat} {x : Int} (h : Dy.it o L x = x) (m : Nat) : Dy.it o (m % L) x = Dy.it o m x := by
  conv => rhs; rw [← Nat.mod_add_div m L, it_add, it_mul h]
def srv (o : List Int) (m : Nat) : List Int := (rng 0 o.length).map (Dy.it o m)
theorem srv_len (o : List Int) (m : Nat) : (srv o m).length = o.length := by unfold srv; rw [List.length_map, rng_len]; omega
theorem rng_getE {a b : Int} {i : Nat} (h : i < (b - a).toNat) : (rng a b)[i]? = some (a + (i : Int)) := by
  unfold rng
  rw [List.getElem?_map, List.getElem?_range h]; rfl
theorem srv_at {m : Nat} {x : Int} (h0 : 0 ≤ x) (h1 : x < o.length) : atI (srv o m) x = some (Dy.it o m x) := by
  rw [atI_get h0 (by rw [srv_len]; exact h1)]
  unfold srv
  rw [List.getElem?_map, rng_getE (by omega)]
  show some (Dy.it o m (0 + (x.toNat : Int))) = _
  rw [show (0 : Int) + (x.toNat : Int) = x by omega]
theorem srv_perm (h : IsOrd o) (m : Nat) : (srv o m).Perm (rng 0 o.length) := by
  refine perm_rng ?_ (srv_len o m) (fun x hx => ?_)
  · refine List.Pairwise.map (R := fun (a b : Int) => a ≠ b ∧ (0 ≤ a ∧ a < (o.length : Int)) ∧ 0 ≤ b ∧ b < (o.length : Int)) _ (fun a b ⟨p, q, r⟩ e => p (h.itInj m q.1 q.2 r.1 r.2 e)) ?_
    exact List.Pairwise.imp_of_mem (fun {a b} ha hb hne => ⟨hne, mem_rng.mp ha, mem_rng.mp hb⟩) (rng_nodup _ _)
  · obtain ⟨y, hy, rfl⟩ := List.mem_map.mp hx
    obtain ⟨a, b⟩ := mem_rng.mp hy
    exact h.it a b m
theorem srv_mem (h : IsOrd o) {m : Nat} {x : Int} (hx : x ∈ srv o m) : 0 ≤ x ∧ x < o.length := mem_rng.mp ((srv_perm h m).mem_iff.mp hx)
theorem srv_zero (o : List Int) : srv o 0 = rng 0 o.length := by
  unfold srv
  have : (Dy.it o 0 : Int → Int) = id := by funext x; rfl
  rw [this, List.map_id]
theorem srv_one (o : List Int) : srv o 1 = o := by
  refine List.ext_getElem? fun i => ?_
  unfold srv
  rw [List.getElem?_map]
  by_cases h : i < o.length
  · rw [rng_getE (by omega)]
    show some (Dy.nxt o (0 + (i : Int))) = _
    have := nxt_get (o := o) (x := (i : Int)) (by omega) (by omega)
    rw [show (0 : Int) + (i : Int) = (i : Int) by omega, ← this]
    congr 1
  · rw [List.getElem?_eq_none (by rw [rng_len]; omega), List.getElem?_eq_none (by omega)]; rfl
theorem srv_add (a b : Nat) : (srv o a).map (Dy.it o b) = srv o (b + a) := by
  unfold srv
  rw [List.map_map]
  exact List.map_congr_left fun x _ => (it_add o b a x).symm
end
theorem erase_perm {τ : Type} : ∀ (l : List τ) (i : Nat) (h : i < l.length), (l[i] :: l.eraseIdx i).Perm l
  | [], i, h => absurd h (Nat.not_lt_zero _)
  | x :: xs, 0, _ => List.Perm.refl _
  | x :: xs, i + 1, h => (List.Perm.swap x _ _).trans (List.Perm.cons x (erase_perm xs i (Nat.lt_of_succ_lt_succ h)))
theorem popAt_ok {τ : Type} {l : List τ} {z : Int} (h0 : 0 ≤ z) (h1 : z < l.length) (h2 : l.length < 1000000) : Ok (popAt l z) (fun r => (r.1 :: r.2).Perm l) := by
  unfold popAt popN seqIndex?
  have hl : z.toNat < l.length := by omega
  rw [if_pos ⟨by omega, by omega⟩]
  simp only
  rw [show (if z < 0 then z + (l.length : Int) else z) = z from if_neg (by omega), if_pos (by rw [Bool.and_eq_true]; exact ⟨decide_eq_true h0, decide_eq_true h1⟩), Option.bind_some, List.getElem?_eq_getElem hl]
  exact ok_some (erase_perm l _ hl)
theorem ok_popAll {σ τ : Type} {f : List τ → σ → Option Int} : ∀ {xs : List σ} {l : List τ}, (∀ l' x, l' ≠ [] → l'.length ≤ l.length → x ∈ xs → Ok (f l' x) (fun z => 0 ≤ z ∧ z < l'.length)) → xs.length ≤ l.length → l.length < 1000000 → Ok (popAll f l xs) (fun ys => ys.length = xs.length ∧ ∃ r, (ys ++ r).Perm l)
  | [], l, _, _, _ => ⟨[], rfl, rfl, l, List.Perm.refl _⟩
  | x :: xs, l, h, hl, hz => by
    rw [List.length_cons] at hl
    have hne : l ≠ [] := fun e => by subst e; simp at hl
    unfold popAll
    refine ok_bnd (h l x hne (Nat.le_refl _) List.mem_cons_self) fun z ⟨z0, z1⟩ => ok_bnd (popAt_ok z0 z1 hz) fun r hr => ?_
    have hlen : r.2.length + 1 = l.length := by have := hr.length_eq; rw [List.length_cons] at this; exact this
    refine ok_bnd (ok_popAll (fun l' y hn hl' hy => h l' y hn (by omega) (List.mem_cons_of_mem _ hy)) (by omega) (by omega)) fun ys ⟨e1, r', e2⟩ => ok_some ⟨by rw [List.length_cons, List.length_cons, e1], r', ?_⟩
    exact (List.Perm.cons r.1 e2).trans hr
theorem repl_one {τ : Type} (n : Int) (x : τ) : repl n [x] = List.replicate n.toNat x := by
  unfold repl
  exact List.flatten_replicate_singleton
end Dy

namespace Dy
open PySem PySem.Spec L2
open PyProof.Rows hiding St
instance {α β : Type} [Enc α] [Enc β] : Opn (α × β) := ⟨fun h => by obtain ⟨_, _, _, e, _⟩ := h; cases e⟩
instance {α β γ : Type} [Enc α] [Enc β] [Enc γ] : Opn (T3 α β γ) := ⟨fun h => by obtain ⟨_, _, _, _, e, _⟩ := h; cases e⟩
instance {α β γ : Type} {n m k : Nat} [Shp α n] [Shp β m] [Shp γ k] : Shp (T3 α β γ) (n + m + k + 1) := ⟨fun x => by
  obtain ⟨h1, h2⟩ := Shp.ok x.a
  obtain ⟨h3, h4⟩ := Shp.ok x.b
  obtain ⟨h5, h6⟩ := Shp.ok x.c
  refine ⟨?_, ?_⟩
  · show PyData.canLay0 (.tuple [EqD.toD x.a, EqD.toD x.b, EqD.toD x.c]) = true
    simp [PyData.canLay0, PyData.canLayAll0, h1, h3, h5]
  · show PyData.depth (.tuple [EqD.toD x.a, EqD.toD x.b, EqD.toD x.c]) ≤ n + m + k + 1
    simp [PyData.depth, PyData.depthAll]
    omega⟩
section
variable {X : Cx} {K : PySem.W.Frag} {a b e : Expr} {σ : St} {s : S} {p0 p1 p2 pos : Pos} {α β : Type} [Enc α] [Enc β]
def ixS (x y : Str) : Option Nat := (Builtin.Str.occurrences y x 0 y.length 1).head?
theorem ev_indexS {x y : Str} {j : Nat} (ha : Ev X a σ s y) (hb : Ev X b σ s x) (h : ixS x y = some j)
    (hs : starEach [b] X.env = [(false, eval b X.env)] := by rfl) (hbase : attributeBase a "index" X.env (eval a X.env) = eval a X.env := by rfl) (hline : (p1.endLine == pos.line) = true := by rfl) :
    Ev X (.Call (.Attribute a "index" p1) [b] [] pos) σ s (j : Int) := fun s1 k Q q =>
  we_of (pe_m1 PySem.F.slot_str_index PySem.F.type_str_index mt_sindex pe_we pe_we hs hbase hline) (ha s1 k _ fun v s2 k2 r2 => ⟨⟨y, r2⟩, hb s2 (k.trans k2) _ fun u s3 k3 r3 => by
    unfold ixS at h
    obtain ⟨rest, hr⟩ : ∃ rest, Builtin.Str.occurrences y x 0 y.length 1 = j :: rest := by
      cases ho : Builtin.Str.occurrences y x 0 y.length 1 with
      | nil => rw [ho] at h; cases h
      | cons i rest => rw [ho] at h; cases h; exact ⟨rest, rfl⟩
    exact ⟨y, x, j, rest, r2, by rw [show u = V.str x from r3], hr, q _ s3 (k2.trans k3) rfl⟩⟩)
end
section
variable {α α' α'' β : Type} [Enc α] [Enc α'] [Enc α''] [Enc β] {X : Cx} {σ : St} {s : S} {elt tg iter c : Expr} {ifs : List Expr} {scope : Scope} {own : List (Str × Nat)} {pos : Pos}
theorem ev_some' {e : Expr} {x : Option α} {y : α} (ha : Ev X e σ s x) (h : x = some y) : Ev X e σ s y := fun s1 k Q q => by
  subst h
  exact ha s1 k Q fun v s2 k2 r2 => q v s2 k2 r2
theorem en_comp0P {xs : List (α × α')} {ys : List β} {f : α × α' → Option β} {i j : Nat} (hc : X.calm = true) (hN : X.N.Nodup) (hi : EvI X tg iter σ s xs) (ok : BlkOk X.N X.env.scope scope own)
    (hio : i ∈ own.map (·.2)) (hjo : j ∈ own.map (·.2)) (hg : ∀ s0 H0 C cl fp, PG (Blk X scope s0 H0 C cl fp) tg (gTup X.K 2 (gCons (gName i) (gCons (gName j) gNil)))) (hf : mapO f xs = some ys) (hz : ys.length ≤ sizeLine)
    (he : ∀ (x : α × α') (y : β) (v u : V) (s1 : S), x ∈ xs → Ex s s1 → Enc.rep X.K s1.F v x.1 → Enc.rep X.K s1.F u x.2 → f x = some y → ∀ s0 H0 C cl fp, Ev (Blk X scope s0 H0 C cl fp) elt (((wipe σ (own.map (·.2))).set i (some v)).set j (some u)) s1 y)
    (hs : ∀ x, foldedSetIterable iter X.env x = pure x := by intro _; rfl) : EvL X elt tg iter [] scope σ s ys :=
  ⟨hc, hN, hs, own, _, _, ok, hg, fun _ _ _ _ _ => pts_nil, fun s1 k Q q => comp_read (t := fun _ => some true) hc hN hi ok hg tg_2 (fun _ _ _ _ _ => pts_nil) hf hz (fun F x σ2 ⟨v, u, _, _, e⟩ => by rw [e, wipe_set hjo, wipe_set hio]; exact wipe_wipe fun _ z => z)
    (fun x b s1 σ2 Q _ _ _ hb q => by cases hb; exact q s1 (Ex.refl _)) (fun x y s1 σ2 hx k ⟨v, u, r, r', e⟩ _ hfx => by subst e; exact he x y v u s1 hx k r r' hfx) s1 k Q q⟩
theorem en_comp1P {xs : List (α × α')} {ys : List β} {t : α × α' → Option Bool} {f : α × α' → Option β} {i j : Nat} (hc : X.calm = true) (hN : X.N.Nodup) (hi : EvI X tg iter σ s xs) (ok : BlkOk X.N X.env.scope scope own)
    (hio : i ∈ own.map (·.2)) (hjo : j ∈ own.map (·.2)) (hg : ∀ s0 H0 C cl fp, PG (Blk X scope s0 H0 C cl fp) tg (gTup X.K 2 (gCons (gName i) (gCons (gName j) gNil)))) (hf : compO t f xs = some ys) (hz : ys.length ≤ sizeLine)
    (ht : ∀ (x : α × α') (b : Bool) (v u : V) (s1 : S), x ∈ xs → Ex s s1 → Enc.rep X.K s1.F v x.1 → Enc.rep X.K s1.F u x.2 → t x = some b → ∀ s0 H0 C cl fp, EvT (Blk X scope s0 H0 C cl fp) c (((wipe σ (own.map (·.2))).set i (some v)).set j (some u)) s1 b)
    (he : ∀ (x : α × α') (y : β) (v u : V) (s1 : S), x ∈ xs → Ex s s1 → Enc.rep X.K s1.F v x.1 → Enc.rep X.K s1.F u x.2 → t x = some true → f x = some y → ∀ s0 H0 C cl fp, Ev (Blk X scope s0 H0 C cl fp) elt (((wipe σ (own.map (·.2))).set i (some v)).set j (some u)) s1 y)
    (hs : ∀ x, foldedSetIterable iter X.env x = pure x := by intro _; rfl) : EvL X elt tg iter [c] scope σ s ys :=
  ⟨hc, hN, hs, own, _, _, ok, hg, fun s0 H0 C cl fp => pts_one ⟨fun pins s _ _ _ I h => h s0 H0 C cl fp pins s I⟩, fun s1 k Q q => comp_read (tt := fun σ H Q => ∀ s0 H0 C cl fp, WT (Blk X scope s0 H0 C cl fp) c σ H Q) hc hN hi ok hg tg_2 (fun s0 H0 C cl fp => pts_one ⟨fun pins s _ _ _ I h => h s0 H0 C cl fp pins s I⟩) hf hz (fun F x σ2 ⟨v, u, _, _, e⟩ => by rw [e, wipe_set hjo, wipe_set hio]; exact wipe_wipe fun _ z => z)
    (fun x b s1 σ2 Q hx k ⟨v, u, r, r', e⟩ hb q => by subst e; intro s0 H0 C cl fp; exact ht x b v u s1 hx k r r' hb s0 H0 C cl fp s1 (Ex.refl _) Q q) (fun x y s1 σ2 hx k ⟨v, u, r, r', e⟩ htx hfx => by subst e; exact he x y v u s1 hx k r r' htx hfx) s1 k Q q⟩
end
end Dy

namespace Dy
open PySem PySem.Spec L2
open PyProof.Rows hiding St
open Enc (rep)
open EncA (repA)

inductive Er where
  | pl (c : Str)
  | pi (c f : Str) (i : Int)
  | ps (c f x : Str)
def Er.c : Er → Str
  | .pl c => c
  | .pi c _ _ => c
  | .ps c _ _ => c
inductive Rz (ρ : Type) where
  | ok (r : ρ)
  | er (e : Er)
def tb {α β : Type} (m : Option (Rz α)) (h : Er → Option β) (k : α → Option β) : Option β := match m with
  | none => none
  | some (.ok r) => k r
  | some (.er e) => h e
theorem tbE {α β : Type} {m : Option (Rz α)} {h : Er → Option β} {k : α → Option β} {o : β} (hm : tb m h k = some o) : (∃ e, m = some (.er e) ∧ h e = some o) ∨ ∃ r, m = some (.ok r) ∧ k r = some o := by
  cases m with
  | none => cases hm
  | some x => cases x with
    | ok r => exact .inr ⟨r, rfl, hm⟩
    | er e => exact .inl ⟨e, rfl, hm⟩
def ExR (K : PySem.W.Frag) (F : Hp) (e : Er) (cls : Value) (d : Option Addr) : Prop := match e with
  | .pl c => cls = .ref (He.ga K c) ∧ d = none
  | .pi c f i => cls = .ref (He.ga K c) ∧ ∃ dd, d = some dd ∧ F dd = some (.xd [(f, V.int i)])
  | .ps c f x => cls = .ref (He.ga K c) ∧ ∃ dd, d = some dd ∧ F dd = some (.xd [(f, V.str x)])
theorem exR_cls {K : PySem.W.Frag} {F : Hp} {e : Er} {cls : Value} {d : Option Addr} (h : ExR K F e cls d) : cls = .ref (He.ga K e.c) := by
  cases e with
  | pl c => exact h.1
  | pi c f i => exact h.1
  | ps c f x => exact h.1
theorem ExR.mono {K : PySem.W.Frag} {F F' : Hp} {e : Er} {cls : Value} {d : Option Addr} (k : Fle F F') (h : ExR K F e cls d) : ExR K F' e cls d := by
  cases e with
  | pl c => exact h
  | pi c f i => obtain ⟨h1, dd, h2, h3⟩ := h; exact ⟨h1, dd, h2, k _ _ h3⟩
  | ps c f x => obtain ⟨h1, dd, h2, h3⟩ := h; exact ⟨h1, dd, h2, k _ _ h3⟩
def RzQ {ρ : Type} [Enc ρ] (K : PySem.W.Frag) (s : S) (o : Rz ρ) (Q : VK) (E : XK) : Prop := match o with
  | .ok r => ∀ v s', Ex s s' → rep K s'.F v r → Q v s'.H
  | .er e => ∀ cls d s', Ex s s' → ExR K s'.F e cls d → E cls d s'.H
def spR {A : Type} [EncA A] {ρ : Type} [Enc ρ] (K : PySem.W.Frag) (m : A → Option (Rz ρ)) : Sp := fun vs H Q E => ∃ (s : S) (x : A) (o : Rz ρ), s.H = H ∧ repA K s.F vs x ∧ m x = some o ∧ RzQ K s o Q E
section
variable {X : Cx} {σ : St} {s : S} {e : Expr} {es : List Expr} {p0 p1 p2 pos : Pos} {α : Type} [Enc α]
theorem ev_callR {A : Type} [EncA A] {m : A → Option (Rz α)} {n : Str} {k j : Nat} {x : A} {r : α} (C : Cal X.prog X.w X.K X.mg X.base (L2.CX X.prog X.w) k n (spR X.K m)) (hr : Room j X.A) (hk : k ≤ j) (ha : EvA X (e :: es) σ s x) (h : m x = some (.ok r)) (hg : Gl X n := by rfl)
    (hdb : (n == ("__debug__" : Str)) = false := by decide) (he : starEach (e :: es) X.env = (false, eval e X.env) :: starEach es X.env := by rfl) (hpl : (backTo pos (starEach es X.env)).any (·.1) = false := by rfl) : Ev X (.Call (.Name n p0) (e :: es) [] pos) σ s r := fun s1 k1 Q q => by
  obtain ⟨f, fd, ps, F, hm, kp, b⟩ := C.ex
  refine we_of (pe_callS (E := fun _ _ _ _ => False) F (hr.mono hk) hg hm kp b (fun σ' pins H sh ev s' I c => ?_) pa_wa hdb he hpl) (ha s1 k1 _ fun vs s2 k2 r2 => ⟨s2, x, .ok r, rfl, r2, h, fun v s3 k3 r3 => q v s3 (k2.trans k3) r3⟩)
  obtain ⟨_, _, _, _, _, _, _, _, _, _, _, _, hf⟩ := c
  exact hf.elim
def EvX (X : Cx) (e : Expr) (σ : St) (s : S) : Prop := ∀ s1, Ex s s1 → ∀ Q, WE X e σ s1.H Q
theorem EvX.ev (h : EvX X e σ s) (x : α) : Ev X e σ s x := fun s1 k Q _ => h s1 k Q
theorem evX_call {A : Type} [EncA A] {ρ : Type} [Enc ρ] {m : A → Option (Rz ρ)} {n : Str} {k j : Nat} {x : A} {er : Er} {W : WX} (C : Cal X.prog X.w X.K X.mg X.base (L2.CX X.prog X.w) k n (spR X.K m)) (tk : Takes X W) (hr : Room j X.A) (hk : k ≤ j) (ha : EvA X (e :: es) σ s x) (h : m x = some (.er er))
    (hw : ∀ cls d s2, Ex s s2 → ExR X.K s2.F er cls d → W cls d σ s2.H) (hg : Gl X n := by rfl)
    (hdb : (n == ("__debug__" : Str)) = false := by decide) (he : starEach (e :: es) X.env = (false, eval e X.env) :: starEach es X.env := by rfl) (hpl : (backTo pos (starEach es X.env)).any (·.1) = false := by rfl) : EvX X (.Call (.Name n p0) (e :: es) [] pos) σ s := fun s1 k1 Q => by
  obtain ⟨f, fd, ps, F, hm, kp, b⟩ := C.ex
  exact we_of (pe_callS (E := L2.WE W) F (hr.mono hk) hg hm kp b (fun σ' => passAt tk σ') pa_wa hdb he hpl) (ha s1 k1 _ fun vs s2 k2 r2 => ⟨s2, x, .er er, rfl, r2, h, fun cls d s3 k3 r3 => hw cls d s3 ((k1.trans k2).trans k3) r3⟩)
inductive Nv where
  | nv
instance : Enc Nv := ⟨fun _ _ _ _ => False, fun _ h => h⟩
theorem nv_elim {K : PySem.W.Frag} {F : Hp} {v : V} {x : Nv} {p : Prop} (h : rep K F v x) : p := (show False from h).elim
theorem nv2_elim {β : Type} [Enc β] {K : PySem.W.Frag} {F : Hp} {v : V} {x : β × Nv} {p : Prop} (h : rep K F v x) : p := by
  obtain ⟨_, _, _, _, _, _, h⟩ := h
  exact (show False from h).elim
end
section
variable {P : Program} {w : World} {K : PySem.W.Frag} {mg : Str → Option Value} {base : Heap}
theorem mk_calR {A ρ : Type} [EncA A] [Enc ρ] {m : A → Option (Rz ρ)} {x : Str} {st : Stmt} {f : Addr} {fd : FuncData} {N ps : List Str} {k : Nat} (F : FunP K x st f fd) (hm : mg x = some (.ref f)) (b : Binds K fd ps []) (Sc : FnScope N ps (defScope st))
    (hl : ∀ (F : Hp) (vs : List V) (a : A), repA K F vs a → vs.length = ps.length)
    (body : ∀ (cdv : Value) (A' : Around) (outer : List Env) (s0 : Shared) (H0 : Hp) (E0 : XK), Room k (A'.deeper (envOfC x (defScope st) s0.heap.objs.size f cdv)) → ∀ (s : S) (vs : List V) (a : A) (o : Rz ρ) (Q : VK), repA K s.F vs a → m a = some o →
      RzQ K s o Q E0 → WSs (cxOf (L2.CX P w) P w K mg base N x (defScope st) f cdv A' outer s0 H0 E0) (defBody st) (RD Q) (start N vs) s.H) : Cal P w K mg base (L2.CX P w) (k + 1) x (spR K m) :=
  ⟨f, fd, ps, F.ok Sc (fun vs H Q E ⟨s, a, r, _, h, _⟩ => hl s.F vs a h) (fun cdv A' outer s0 H0 vs Q E hr ⟨s, a, o, e, h1, h2, h3⟩ => ⟨_, pss_ws, by
    have := body cdv A' outer s0 H0 E hr s vs a o Q h1 h2 h3
    rw [e] at this
    exact this⟩), hm, F.kp, b⟩
end
structure ExcF (K : PySem.W.Frag) (mg : Str → Option Value) (c : Str) : Prop where
  q : PySem.W.excIn K (He.ga K c) He.veBase "ValueError.__new__" = true
  kp : PySem.W.keepIn K (.ref (He.ga K c)) = true
  sb : PySem.W.subIn K (.ref (He.ga K c)) (.type "BaseException") = some true
  ty : PySem.W.typeIn K (.ref (He.ga K c)) = some (.type "type")
  gl : mg c = some (.ref (He.ga K c))
section
variable {X : Cx} {σ : St} {s : S} {D : Ends} {rest : List Stmt} {W : WX}
theorem do_raise0 {c m : Str} {j : Nat} {p p2 pos pos' : Pos} (T : ExcF X.K X.mg c) (tk : Takes X W) (h : W (.ref (He.ga X.K c)) none σ s.H) (hc : X.calm = true := by rfl) (hg : Gl X c := by rfl) (hdb : (c == ("__debug__" : Str)) = false := by decide) :
    WSs X (.Raise (some (.Call (.Name c p) [.Constant (.str m) j p2] [] pos)) none pos' :: rest) D σ s.H :=
  do_cons (ps_raise hc tk (pmk_own F.excBase_ValueError T.q T.gl T.kp (raises_own T.sb T.ty) hg hdb)) h
theorem do_tryAs (i : Nat) {x n : Str} {c : Value} {body suite : List Stmt} {b₀ : Stmt} {np pos pos' : Pos} {Wout : WX} (hN : X.N.Nodup) (hcN : Names X x c) (tk : Takes X Wout)
    (h : ∀ pn xe, Takes (X.tr pn xe) (wAs X.K c i (fun a cls d D σ H => ∀ (oe : Obj) (pn : List (Addr × Obj)), Zc cls d oe → (∃ vs, oe.data = .fields vs) → WSs (X.suite a ((a, oe) :: pn)) (b₀ :: suite) D σ H) Wout { D with nx := fun σ' H' => WSs X rest D σ' H' }) → PassesOwn (model X.prog X.w) X.A X.env xe →
      WSs (X.tr pn xe) body { D with nx := fun σ' H' => WSs X rest D σ' H' } σ s.H)
    (hs : X.stack = X.env :: X.outer := by rfl) (hf : X.env.frame = some X.env.locals := by rfl) (hi : X.N[i]? = some n := by rfl) (hln : X.env.kindOf n = some .local := by rfl) :
    WSs X (.Try body [.ExceptHandler (some (.Name x np)) (some n) (b₀ :: suite) pos'] [] [] pos :: rest) D σ s.H :=
  do_cons (ps_try_as (tb := fun W D σ H => ∀ pn xe, Takes (X.tr pn xe) W → PassesOwn (model X.prog X.w) X.A X.env xe → WSs (X.tr pn xe) body D σ H) (ts := fun a cls d D σ H => ∀ (oe : Obj) (pn : List (Addr × Obj)), Zc cls d oe → (∃ vs, oe.data = .fields vs) → WSs (X.suite a ((a, oe) :: pn)) (b₀ :: suite) D σ H)
    hs hf hN hi hln hcN tk (fun W pn xe t po => ⟨fun pins sh σ H D I hh => hh pn xe t po pins sh I⟩) (fun a oe cls d pn hz hv => ⟨fun pins sh σ H D I hh => hh oe pn hz hv pins sh I⟩)) h
end
end Dy

namespace Dy
open PySem PySem.Spec L2
open PyProof.Rows hiding St
open Enc (rep)
open EncA (repA)

section
open PySem.W PySem.Calls
variable {prog : Program} {w : World} {A : Around} {E : Value → Shared → Prop} {K : Frag} {x D : Addr} {ox : Obj} {od : Option Obj}
theorem cls_bind (T : ExcC K D) : findObj K D od "__class__" = some (.bind (.builtin "getset_descriptor.__get__") (.builtin "object.__class__")) := by
  obtain ⟨cd, hc⟩ := Option.isSome_iff_exists.mp (show (clsIn K D).isSome = true by obtain ⟨cd, hc, _⟩ := any_some T.hd; rw [hc]; rfl)
  unfold findObj
  rw [hc, Option.bind_some, T.ha, Option.bind_some]
  simp [T.hn, T.ht]
theorem asks_cls {s : Shared} {Q : Option Value → Shared → Prop} (T : ExcC K D) (X : K.In s.heap) (I : PySem.W.InstAt s.heap x ox D od) (h : Q (some (.ref D)) { s with toks := s.toks + 1 }) : wpAny (model prog w) A (getAttr? (.ref x) "__class__") Q E s := by
  obtain ⟨hp, g, d, t, os⟩ := s
  have l0 := I.type (M := model prog w)
  have l1 := looks_findIn (M := model prog w) X T.hg
  have l2 := looks_findIn (M := model prog w) X T.hk
  have l3 := looks_find (M := model prog w) X I (cls_bind T)
  have sub : Looks (model prog w) hp (isInstance (.ref x) (.type "BaseException")) true := l0.andThen (looks_subIn X T.hs)
  unfold getAttr? getAttrBy? getAttrBy
  refine wpAny_bind (wpAny_mkText (wpAny_bind (wpAny_attempt (wpAny_holding (wpAny_bind (l0.at (wpAny_bind (l1.at ?_))))))))
  have no : (onTheHeap (Value.ref D) && Value.builtin "BaseException.__getattribute__" == Value.builtin "object.__getattribute__") = false := by
    rw [show (Value.builtin "BaseException.__getattribute__" == Value.builtin "object.__getattribute__") = false by decide +kernel]; rfl
  show wpAny _ _ (if (onTheHeap (Value.ref D) && Value.builtin "BaseException.__getattribute__" == Value.builtin "object.__getattribute__") = true then _ else _) _ _ _
  rw [no, if_neg Bool.false_ne_true]
  unfold getAttrByItsOwn hookBefore
  refine wpAny_bind ?_
  rw [if_pos (show onTheHeap (Value.ref D) = true from rfl)]
  refine l2.at (wpAny_bind (wpAny_attempt (wpAny_holding ?_)))
  unfold callGetattribute
  rw [show (false && onTheHeap (Value.builtin "BaseException.__getattribute__")) = false from rfl, if_neg Bool.false_ne_true]
  unfold boundAndCalled
  rw [PySem.F.excAttr_ValueError.ga.bind (.ref x)]
  refine wpAny_bind (wpAny_pure ?_)
  show wpAny _ _ (call (.builtin "BaseException.__getattribute__") [.ref x, .str "__class__" t]) _ _ _
  refine wpAny_call (codeAny_call_builtin PySem.F.excAttr_ValueError.ga.plain PySem.F.entry_bexc_ga ?_)
  refine @check_slot (model prog w) _ _ ⟨hp, g, d, t + 1, os⟩ "BaseException.__getattribute__" "BaseException" "__getattribute__" (.ref x) [.str "__class__" t] [] _ (by decide +kernel) (by decide +kernel) sub (PySem.F.args_bexc_ga (.ref x) (.str "__class__" t)) ?_
  unfold Builtin.«object.__getattribute__»
  refine wpAny_bind (wpAny_of_eq (a := ((Value.ref x : Value), [Value.str "__class__" t])) (by first | rfl | (simp only [slotArgs]; rfl)) ?_)
  refine wpAny_bind (wpAny_pure (wpAny_bind (l0.at (wpAny_bind (l3.at ?_)))))
  show wpAny _ _ (holding [Value.builtin "object.__class__"] (call (.builtin "getset_descriptor.__get__") [.builtin "object.__class__", .ref x, .ref D]) >>= ret) _ _ _
  refine wpAny_bind (wpAny_holding (wpAny_call (class_get (s := ⟨hp, g, d, t + 1, os⟩) (ox := ox) (od := od) X I T.hm (wpAny_pure ?_))))
  show wpAny _ _ (handedOut (.ref D)) _ _ _
  rw [handedOut_of (v := .ref D) rfl]
  first
    | exact wpAny_pure (wpAny_pure h)
    | exact wpAny_pure h
    | exact wpAny_pure (wpAny_bind (wpAny_pure (wpAny_pure h)))
theorem cls_at (T : ExcC K D) : ∃ c' d' cd' sl', K.lookup D = some ⟨c', d', .cls cd', sl'⟩ := by
  obtain ⟨cd, hc, _⟩ := any_some T.hd
  unfold clsIn at hc
  split at hc
  · rename_i c' d' cd' sl' ho
    exact ⟨c', d', cd', sl', ho⟩
  · cases hc
def InstE (a D : Addr) (oe : Obj) : Heap → Prop := fun h => ∃ od, PySem.W.InstAt h a oe D od
theorem kit_exc (T : ExcC K D) : KitX K (.ref x) (.ref D) (InstE x D ox) where
  ty := fun _ _ _ ⟨_, I⟩ => I.type
  it := fun _ _ X _ => by
    obtain ⟨_, _, _, _, ho⟩ := cls_at T
    intro A' Q' E' s' k q
    unfold isType loadHead
    exact wpAny_bind (wpAny_loadPart (k _ _ (X _ _ ho)) (wpAny_pure q))
  ne := fun h tp dd its n sl X htp => by
    obtain ⟨_, _, _, _, ho⟩ := cls_at T
    refine Bool.eq_false_iff.mpr fun q => ?_
    obtain rfl : D = tp := Value.ref.inj (beq_iff_eq.mp q)
    cases (X _ _ ho).symm.trans htp
  ca := fun X ⟨_, I⟩ k => asks_cls T X I k
end

structure Rw where
  v : V
instance : Enc Rw := ⟨fun _ _ v x => v = x.v, fun _ h => h⟩
theorem rw_reps {K : PySem.W.Frag} {F : Hp} : ∀ {vs : List V} {xs : List Rw}, Reps K F vs xs → vs = xs.map (·.v)
  | [], [], _ => rfl
  | _ :: _, _ :: _, ⟨h, t⟩ => by rw [List.map_cons, ← rw_reps t, show _ = _ from h]
  | [], _ :: _, h => h.elim
  | _ :: _, [], h => h.elim
def clsR (K : PySem.W.Frag) (c : Str) : V := if c = ("ValueError" : Str) then .ty "ValueError" else .ref (He.ga K c)
def clsV (K : PySem.W.Frag) (c : Str) : Value := if c = ("ValueError" : Str) then .type "ValueError" else .ref (He.ga K c)
theorem cls_cv (K : PySem.W.Frag) (c : Str) : ClsV (clsR K c) (clsV K c) := by
  unfold clsR clsV
  split
  · exact .ty _
  · exact .own _
theorem cls_all (K : PySem.W.Frag) : ∀ cs : List Str, Paired ClsV (cs.map (clsR K)) (cs.map (clsV K))
  | [] => .nil
  | c :: cs => .cons (cls_cv K c) (cls_all K cs)
def excCB (K : PySem.W.Frag) (D : Addr) : Bool := xfB K D && (He.eqO (PySem.W.findIn K (.ref D) "__class__") (some (some (.builtin "object.__class__"))) && (He.eqO (PySem.W.specialIn K (.builtin "object.__class__") "__get__") (some (some (.builtin "getset_descriptor.__get__"))) &&
  (decide (PySem.W.takesIn K (.builtin "object.__class__") = some true) && decide (PySem.W.mroIn K D (.type "object") = some true))))
theorem excCB_ok {K : PySem.W.Frag} {D : Addr} (h : excCB K D = true) : ExcC K D := by
  unfold excCB at h
  obtain ⟨h0, h⟩ := He.ba h
  obtain ⟨h5, h⟩ := He.ba h
  obtain ⟨h6, h⟩ := He.ba h
  obtain ⟨h7, h8⟩ := He.ba h
  unfold xfB at h0
  obtain ⟨h1, h0⟩ := He.ba h0
  obtain ⟨h2, h0⟩ := He.ba h0
  obtain ⟨h3, h4⟩ := He.ba h0
  exact ⟨of_decide_eq_true h1, of_decide_eq_true h2, of_decide_eq_true h3, h4, He.eqO_ok h5, He.eqO_ok h6, of_decide_eq_true h7, of_decide_eq_true h8⟩
structure ETab where
  ds : List Str
  fl : List (Str × Str)
  is : List ((Str × Str) × Bool)
  ex : List ((Str × Str) × Bool)
def lk (d c : Str) : List ((Str × Str) × Bool) → Option Bool
  | [] => none
  | q :: r => if q.1 = (d, c) then some q.2 else lk d c r
theorem lk_mem {d c : Str} {b : Bool} : ∀ {l : List ((Str × Str) × Bool)}, lk d c l = some b → ((d, c), b) ∈ l
  | [], h => by cases h
  | q :: r, h => by
    unfold lk at h
    split at h
    · rename_i e
      cases h
      rw [← e]
      exact List.mem_cons_self
    · exact List.mem_cons_of_mem _ (lk_mem h)
def ETab.ok (t : ETab) (K : PySem.W.Frag) : Bool := ((t.ds.all fun d => excCB K (He.ga K d)) && t.fl.all fun q => He.eqO (PySem.W.findIn K (.ref (He.ga K q.1)) q.2) (some none)) && ((t.is.all fun q => decide (PySem.W.kitOne K (.ref (He.ga K q.1.1)) (clsV K q.1.2) = some q.2)) && t.ex.all fun q => decide (PySem.W.exmOne K (.ref (He.ga K q.1.1)) (clsV K q.1.2) = some q.2))
def isE (t : ETab) (e : Er) (c : Str) : Option Bool := if e.c ∈ t.ds then lk e.c c t.is else none
def isEs (t : ETab) (e : Er) : List Str → Option Bool
  | [] => some false
  | c :: r => (isE t e c).bind fun b => if b = true then some true else isEs t e r
def exE (t : ETab) (e : Er) (c : Str) : Option Bool := lk e.c c t.ex
def erI (t : ETab) (e : Er) (f : Str) : Option Int := match e with
  | .pi c g i => if g = f ∧ (c, g) ∈ t.fl ∧ c ∈ t.ds then some i else none
  | _ => none
def erS (t : ETab) (e : Er) (f : Str) : Option Str := match e with
  | .ps c g x => if g = f ∧ (c, g) ∈ t.fl ∧ c ∈ t.ds then some x else none
  | _ => none
section
variable {K : PySem.W.Frag} {t : ETab}
theorem ETab.ds_ok (h : t.ok K = true) {d : Str} (hd : d ∈ t.ds) : ExcC K (He.ga K d) := by
  unfold ETab.ok at h
  exact excCB_ok (List.all_eq_true.mp (He.ba (He.ba h).1).1 d hd)
theorem ETab.xf_ok (h : t.ok K = true) {d : Str} (hd : d ∈ t.ds) : XfC K (He.ga K d) := by
  unfold ETab.ok at h
  have := List.all_eq_true.mp (He.ba (He.ba h).1).1 d hd
  unfold excCB at this
  exact xfB_ok (He.ba this).1
theorem ETab.fl_ok (h : t.ok K = true) {d f : Str} (hd : (d, f) ∈ t.fl) : PySem.W.findIn K (.ref (He.ga K d)) f = some none := by
  unfold ETab.ok at h
  exact He.eqO_ok (List.all_eq_true.mp (He.ba (He.ba h).1).2 _ hd)
theorem ETab.is_ok (h : t.ok K = true) {d c : Str} {b : Bool} (hl : lk d c t.is = some b) : PySem.W.kitOne K (.ref (He.ga K d)) (clsV K c) = some b := by
  unfold ETab.ok at h
  exact of_decide_eq_true (List.all_eq_true.mp (He.ba (He.ba h).2).1 _ (lk_mem hl))
theorem ETab.ex_ok (h : t.ok K = true) {d c : Str} {b : Bool} (hl : lk d c t.ex = some b) : PySem.W.exmOne K (.ref (He.ga K d)) (clsV K c) = some b := by
  unfold ETab.ok at h
  exact of_decide_eq_true (List.all_eq_true.mp (He.ba (He.ba h).2).2 _ (lk_mem hl))
theorem exE_ok (h : t.ok K = true) {e : Er} {c : Str} {b : Bool} {cls : Value} {d : Option Addr} {F : Hp} (he : ExR K F e cls d) (hl : exE t e c = some b) : PySem.W.exmOne K cls (clsV K c) = some b := by
  rw [exR_cls he]
  exact ETab.ex_ok h hl
end
section
variable {X : Cx} {σ : St} {s : S} {e : Expr} {es : List Expr} {p0 p1 p2 p3 pos : Pos} {a : Addr} {oe : Obj} {pn : List (Addr × Obj)}
theorem exc_inst {D : Addr} {d : Option Addr} {pins : List (Addr × Obj)} {σ : St} {H : Hp} {sh : Shared} (hz : Zc (.ref D) d oe) (hf : ∃ vs, oe.data = .fields vs) (hd : ∀ dd, d = some dd → ∃ fs, H dd = some (.xd fs)) (I : Inv (X.suite a ((a, oe) :: pn)) pins σ H sh) : InstE a D oe sh.heap := by
  obtain ⟨hget, _⟩ := I.pin (a, oe) (List.mem_append.mpr (.inl List.mem_cons_self))
  obtain ⟨vs, hv⟩ := hf
  cases d with
  | none =>
    exact ⟨none, hget, hz.1, by unfold PySem.W.notCls; rw [hv], by rw [hz.2]; trivial⟩
  | some dd =>
    obtain ⟨fs, he⟩ := hd dd rfl
    obtain ⟨mA, hns, _⟩ := (show ObjOk X.prog X.w H sh.heap dd (.xd fs) from I.hok dd _ he)
    obtain ⟨od, ho, _⟩ := lookIn_ns hns
    exact ⟨some od, hget, hz.1, by unfold PySem.W.notCls; rw [hv], by rw [hz.2]; exact ho⟩
theorem call_isE1 {D : Addr} {d : Option Addr} (C : ExcC X.K D) (hz : Zc (.ref D) d oe) (hf : ∃ vs, oe.data = .fields vs) : CallR (X.suite a ((a, oe) :: pn)) (.builtin "isinstance") (fun xs H Q => (∀ dd, d = some dd → ∃ fs, H dd = some (.xd fs)) ∧ ∃ (c : V) (cv : Value) (b : Bool), xs = [.ref a, c] ∧ ClsV c cv ∧ PySem.W.kitOne X.K (.ref D) cv = some b ∧ Q (.bl b) H) := by
  intro pins s σ H xs us Q I r h
  obtain ⟨hd, c, cv, b, rfl, k, e, q⟩ := h
  obtain ⟨u1, u2, rfl, r1, r2⟩ := vals2 r
  cases (show u1 = Value.ref a from r1)
  have e2 := k.eq r2
  subst e2
  exact PySem.W.kia_one (kit_exc C) I.kIn (exc_inst hz hf hd I) e (fun z => nomatch z) fun tk => ⟨.bl b, H, I.kept (t' := tk) fun _ _ z => z, rfl, q⟩
theorem call_isET {D : Addr} {d : Option Addr} (C : ExcC X.K D) (hz : Zc (.ref D) d oe) (hf : ∃ vs, oe.data = .fields vs) : CallR (X.suite a ((a, oe) :: pn)) (.builtin "isinstance") (fun xs H Q => (∀ dd, d = some dd → ∃ fs, H dd = some (.xd fs)) ∧ ∃ (tp : Addr) (cs : List V) (us : List Value) (b : Bool), xs = [.ref a, .ref tp] ∧ H tp = some (.tup cs) ∧ Paired ClsV cs us ∧ PySem.W.kitAny X.K (.ref D) us = some b ∧ Q (.bl b) H) := by
  intro pins s σ H xs us Q I r h
  obtain ⟨hd, tp, cs, ws, b, rfl, hT, k, e, q⟩ := h
  obtain ⟨u1, u2, rfl, r1, r2⟩ := vals2 r
  cases (show u1 = Value.ref a from r1)
  cases (show u2 = Value.ref tp from r2)
  obtain ⟨_, its, rv, o, h1, h2, n, h3⟩ := (show ObjOk X.prog X.w H s.heap tp (.tup cs) from I.hok tp _ hT)
  have e3 := ClsV.all k rv
  subst e3
  obtain ⟨oc, od, dt, sl⟩ := o
  simp only at h2 h3
  subst h2 h3
  exact PySem.W.kia_tup (kit_exc C) I.kIn (exc_inst hz hf hd I) h1 e (fun z => nomatch z) fun tk => ⟨.bl b, H, I.kept (t' := tk) fun _ _ z => z, rfl, q⟩
theorem exR_xd {K : PySem.W.Frag} {F : Hp} {e : Er} {cls : Value} {d : Option Addr} (h : ExR K F e cls d) : ∀ dd, d = some dd → ∃ fs, F dd = some (.xd fs) := fun dd e1 => by
  cases e with
  | pl c => rw [h.2] at e1; cases e1
  | pi c f i => obtain ⟨_, d2, h2, h3⟩ := h; rw [h2] at e1; cases e1; exact ⟨_, h3⟩
  | ps c f x => obtain ⟨_, d2, h2, h3⟩ := h; rw [h2] at e1; cases e1; exact ⟨_, h3⟩
theorem kit_any {K : PySem.W.Frag} {t : ETab} (h : t.ok K = true) {er : Er} : ∀ {cs : List Str} {b : Bool}, isEs t er cs = some b → PySem.W.kitAny K (.ref (He.ga K er.c)) (cs.map (clsV K)) = some b
  | [], b, e => e
  | c :: r, b, e => by
    unfold isEs isE at e
    by_cases hd : er.c ∈ t.ds
    · rw [if_pos hd] at e
      cases hl : lk er.c c t.is with
      | none => rw [hl] at e; cases e
      | some b1 =>
        rw [hl] at e
        have k1 := ETab.is_ok h hl
        rw [List.map_cons]
        unfold PySem.W.kitAny
        rw [k1]
        cases b1 with
        | true => exact e
        | false => exact kit_any h e
    · rw [if_neg hd] at e; cases e
theorem ev_cls {c : Str} (h : (c ≠ ("ValueError" : Str) ∧ X.mg c = some (.ref (He.ga X.K c))) ∨ (c = ("ValueError" : Str) ∧ X.mg c = none)) (hg : Gl X c := by rfl) (hd : (c == ("__debug__" : Str)) = false := by decide) : Ev X (.Name c pos) σ s (Rw.mk (clsR X.K c)) := by
  rcases h with ⟨h1, h2⟩ | ⟨h1, h2⟩
  · have : clsR X.K c = .ref (He.ga X.K c) := if_neg h1
    rw [this]
    exact ev_glob ⟨.ref (He.ga X.K c), _, h2, rfl, fun _ => rfl⟩ hg hd
  · subst h1
    exact fun s1 k Q q => we_of (pe_bltn (v := .ty "ValueError") hg h2 PyProof.Rows.Boot.«ValueError» rfl (by decide) (by decide)) (q _ s1 (Ex.refl _) rfl)
theorem ev_isE {c : Str} {er : Er} {d : Option Addr} {b : Bool} {t : ETab} (h : t.ok X.K = true) (hl : isE t er c = some b) (hz : Zc (.ref (He.ga X.K er.c)) d oe) (hf : ∃ vs, oe.data = .fields vs) (hx : ExR X.K s.F er (.ref (He.ga X.K er.c)) d) (hm : X.mg "isinstance" = none)
    (ha : Ev (X.suite a ((a, oe) :: pn)) e σ s (Rw.mk (.ref a))) (hb : Ev (X.suite a ((a, oe) :: pn)) (.Name c p1) σ s (Rw.mk (clsR X.K c))) (hg : Gl (X.suite a ((a, oe) :: pn)) "isinstance" := by rfl)
    (he : starEach [e, .Name c p1] X.env = (false, eval e X.env) :: starEach [.Name c p1] X.env := by rfl) (he2 : starEach [.Name c p1] X.env = (false, eval (.Name c p1) X.env) :: starEach [] X.env := by rfl) (hpl : (backTo pos (starEach [.Name c p1] X.env)).any (·.1) = false := by rfl) :
    Ev (X.suite a ((a, oe) :: pn)) (.Call (.Name "isinstance" p0) [e, .Name c p1] [] pos) σ s b := fun s1 k Q q => by
  unfold isE at hl
  by_cases hd : er.c ∈ t.ds
  · rw [if_pos hd] at hl
    refine we_of (pe_callB (call_isE1 (d := d) (ETab.ds_ok h hd) hz hf) hg hm (by decide +kernel) (pa_cons pe_we (pa_cons pe_we pa_nil he2) he) (he := he) (hpl := hpl)) (ha s1 k _ fun v s2 k2 r2 => hb s2 (k.trans k2) _ fun u s3 k3 r3 => ?_)
    cases (show v = .ref a from r2)
    cases (show u = clsR X.K c from r3)
    exact ⟨fun dd e1 => by
      obtain ⟨fs, z⟩ := exR_xd hx dd e1
      exact ⟨fs, s3.sub _ _ (((k.trans k2).trans k3).f _ _ z)⟩, clsR X.K c, clsV X.K c, b, rfl, cls_cv X.K c, ETab.is_ok h hl, q _ s3 (k2.trans k3) rfl⟩
  · rw [if_neg hd] at hl; cases hl
theorem ev_xfI {f : Str} {er : Er} {d : Option Addr} {i : Int} {t : ETab} (h : t.ok X.K = true) (hl : erI t er f = some i) (hz : Zc (.ref (He.ga X.K er.c)) d oe) (hf : ∃ vs, oe.data = .fields vs) (hx : ExR X.K s.F er (.ref (He.ga X.K er.c)) d)
    (ha : Ev (X.suite a ((a, oe) :: pn)) e σ s (Rw.mk (.ref a))) (hb : attributeBase e f X.env (eval e X.env) = eval e X.env := by rfl) : Ev (X.suite a ((a, oe) :: pn)) (.Attribute e f pos) σ s i := fun s1 k Q q => by
  cases er with
  | pl c => cases hl
  | ps c g x => cases hl
  | pi c g j =>
    unfold erI at hl
    dsimp only at hl
    split at hl
    · rename_i hh
      obtain ⟨rfl, h2, h3⟩ := hh
      cases hl
      obtain ⟨_, dd, rfl, h5⟩ := hx
      refine we_of (pe_xf (ETab.xf_ok h h3) (ETab.fl_ok h h2) hz hf pe_we hb) (ha s1 k _ fun v s2 k2 r2 => ?_)
      cases (show v = .ref a from r2)
      exact ⟨rfl, rfl, dd, _, _, rfl, s2.sub _ _ ((k.trans k2).f _ _ h5), by simp, q _ s2 k2 rfl⟩
    · cases hl
theorem ev_xfS {f : Str} {er : Er} {d : Option Addr} {x : Str} {t : ETab} (h : t.ok X.K = true) (hl : erS t er f = some x) (hz : Zc (.ref (He.ga X.K er.c)) d oe) (hf : ∃ vs, oe.data = .fields vs) (hx : ExR X.K s.F er (.ref (He.ga X.K er.c)) d)
    (ha : Ev (X.suite a ((a, oe) :: pn)) e σ s (Rw.mk (.ref a))) (hb : attributeBase e f X.env (eval e X.env) = eval e X.env := by rfl) : Ev (X.suite a ((a, oe) :: pn)) (.Attribute e f pos) σ s x := fun s1 k Q q => by
  cases er with
  | pl c => cases hl
  | pi c g x => cases hl
  | ps c g j =>
    unfold erS at hl
    dsimp only at hl
    split at hl
    · rename_i hh
      obtain ⟨rfl, h2, h3⟩ := hh
      cases hl
      obtain ⟨_, dd, rfl, h5⟩ := hx
      refine we_of (pe_xf (ETab.xf_ok h h3) (ETab.fl_ok h h2) hz hf pe_we hb) (ha s1 k _ fun v s2 k2 r2 => ?_)
      cases (show v = .ref a from r2)
      exact ⟨rfl, rfl, dd, _, _, rfl, s2.sub _ _ ((k.trans k2).f _ _ h5), by simp, q _ s2 k2 rfl⟩
    · cases hl
theorem isEs_ds {t : ETab} {er : Er} {c : Str} {r : List Str} {b : Bool} (h : isEs t er (c :: r) = some b) : er.c ∈ t.ds := by
  unfold isEs isE at h
  by_cases hd : er.c ∈ t.ds
  · exact hd
  · rw [if_neg hd] at h; cases h
theorem names_of {c : Str} (h : X.mg c = some (.ref (He.ga X.K c))) (hg : Gl X c := by rfl) (hd : (c == ("__debug__" : Str)) = false := by decide) (hv : c ≠ ("ValueError" : Str) := by decide) : Names X c (clsV X.K c) := ⟨hg, hd, .inl (by rw [h]; exact congrArg some (if_neg hv).symm)⟩
theorem takes_false : Takes X (fun _ _ _ _ => False) := fun u s' ⟨_, _, _, _, _, _, _, _, _, _, _, _, _, _, _, _, h⟩ => h.elim
theorem ev_isEs {c0 : Str} {cr : List Str} {er : Er} {d : Option Addr} {cs : List Str} {b : Bool} {t : ETab} {n} (h : t.ok X.K = true) (hl : isEs t er cs = some b) (hz : Zc (.ref (He.ga X.K er.c)) d oe) (hf : ∃ vs, oe.data = .fields vs) (hx : ExR X.K s.F er (.ref (He.ga X.K er.c)) d) (hm : X.mg "isinstance" = none)
    (ha : Ev (X.suite a ((a, oe) :: pn)) e σ s (Rw.mk (.ref a))) (hb : EvE (X.suite a ((a, oe) :: pn)) es σ s (cs.map fun c => Rw.mk (clsR X.K c))) (hc : cs.length ≤ 1000) (e0 : cs = c0 :: cr := by rfl) (hg : Gl (X.suite a ((a, oe) :: pn)) "isinstance" := by rfl)
    (he : starEach [e, .Tuple es n p1] X.env = (false, eval e X.env) :: starEach [.Tuple es n p1] X.env := by rfl) (he2 : starEach [.Tuple es n p1] X.env = (false, eval (.Tuple es n p1) X.env) :: starEach [] X.env := by rfl) (hpl : (backTo pos (starEach [.Tuple es n p1] X.env)).any (·.1) = false := by rfl) :
    Ev (X.suite a ((a, oe) :: pn)) (.Call (.Name "isinstance" p0) [e, .Tuple es n p1] [] pos) σ s b := fun s1 k Q q =>
  we_of (pe_callB (call_isET (d := d) (ETab.ds_ok h (isEs_ds (by rw [e0] at hl; exact hl))) hz hf) hg hm (by decide +kernel) (pa_cons pe_we (pa_cons (pe_tup pa_wa) pa_nil he2) he) (he := he) (hpl := hpl)) (ha s1 k _ fun v s2 k2 r2 => hb s2 (k.trans k2) _ fun us s3 k3 r3 => by
    cases (show v = .ref a from r2)
    have e := rw_reps r3
    have e2 : us = cs.map (clsR X.K) := by rw [e, List.map_map]; rfl
    subst e2
    refine ⟨by rw [List.length_map, sizeLine_eq]; omega, fun p hp => ⟨fun dd e1 => ?_, p, _, cs.map (clsV X.K), b, rfl, upd_same, cls_all X.K cs, kit_any h hl, q _ (s3.newF p (.tup (cs.map (clsR X.K))) hp) ((k2.trans k3).trans (Ex.newF hp)) rfl⟩⟩
    obtain ⟨fs, z⟩ := exR_xd hx dd e1
    exact ⟨fs, (s3.newF p _ hp).sub _ _ ((((k.trans k2).trans k3).trans (Ex.newF hp)).f _ _ z)⟩)
end
section
variable {X : Cx} {σ : St} {s : S} {D : Ends} {rest : List Stmt} {e : Expr} {pos : Pos}
theorem do_dropX (h : EvX X e σ s) (hs : swapsWith e none pos.line X.env = pure false := by rfl) : WSs X (.Expr e pos :: rest) D σ s.H :=
  do_cons (ps_expr pe_we hs) (h s (Ex.refl _) _)
theorem do_retX (h : EvX X e σ s) : WSs X (.Return (some e) pos :: rest) D σ s.H := do_cons (ps_ret pe_we) (h s (Ex.refl _) _)
theorem do_setX (i : Nat) {n : Str} {py : Pos} (h : EvX X e σ s) (hN : X.N.Nodup) (hx : Loc X.env.scope n := by first | exact Or.inl rfl | exact Or.inr rfl) (hi : X.N[i]? = some n := by rfl)
    (hs : swapsWith e (some (.Name n py)) pos.line X.env = pure false := by rfl) (hf : X.fn n = true ∨ X.env.scope.names.lookup n = some .local := by first | exact .inl rfl | exact .inr rfl) : WSs X (.Assign [.Name n py] e pos :: rest) D σ s.H :=
  do_cons (ps_set hN hi hx pe_we hs hf) (h s (Ex.refl _) _)
theorem do_unpX (i j : Nat) {tg : Expr} (h : EvX X e σ s) (hg : PG X tg (gTup X.K 2 (gCons (gName i) (gCons (gName j) gNil)))) (hs : swapsWithSole [tg] e pos.line X.env = pure false := by rfl) (hw : swappedStores [tg] e X.env = pure none := by rfl)
    (h1 : (assignEach [tg] X.env).map (·.2) = [assign tg X.env] := by rfl) : WSs X (.Assign [tg] e pos :: rest) D σ s.H :=
  do_cons (ps_asg pe_we hg hs hw h1) (h s (Ex.refl _) _)
theorem was_of {K : PySem.W.Frag} {c : Value} {i : Nat} {ts : Addr → Value → Option Addr → TS} {Wout : WX} {cls : Value} {d : Option Addr} {σ : St} {H : Hp} (h1 : PySem.W.exmOne K cls c = some true)
    (h2 : ∀ a, H a = none → ts a cls d { nx := fun σ' H' => D.nx (σ'.set i none) H', rt := D.rt, bk := fun σ' H' => D.bk (σ'.set i none) H', ct := fun σ' H' => D.ct (σ'.set i none) H' } (σ.set i (some (.ref a))) H) : wAs K c i ts Wout D cls d σ H := ⟨true, h1, fun _ => h2, fun z => nomatch z⟩
theorem do_ifC {c : Expr} {A B : List Stmt} {x : Bool} (hc : EvT X c σ s x) (h1 : x = true → ∀ s1, Ex s s1 → WSs X A { D with nx := fun σ' H' => WSs X rest D σ' H' } σ s1.H) (h2 : x = false → ∀ s1, Ex s s1 → WSs X B { D with nx := fun σ' H' => WSs X rest D σ' H' } σ s1.H) : WSs X (.If c A B pos :: rest) D σ s.H :=
  do_cons (ps_if pt_wt pss_ws pss_ws) (hc s (Ex.refl _) _ fun s1 k => by
    cases x with
    | true => exact iteT (h1 rfl s1 k)
    | false => exact iteF (h2 rfl s1 k))
end

section
variable {α : Type} [Enc α] {X : Cx} {σ : St} {s : S} {a b : Expr} {pos : Pos}
theorem en_repO {p : Addr} {xs : List α} {n : Int} (ha : Ev X a σ s (Rw.mk (.ref p))) (o : Own X.K s p xs) (hb : ∀ t, Ex s t → Ev X b σ t n) (hz : RepOk n xs.length) : EvN X (.BinOp a .Mult b pos) σ s (repl n xs) := fun s1 k Q q =>
  we_of (pe_op op_rep pe_we pe_we) (ha s1 k _ fun v s2 k2 r2 => by
    cases (show v = V.ref p from r2)
    exact hb s2 (k.trans k2) s2 (Ex.refl _) _ fun u s3 k3 r3 => by
      obtain ⟨_, vs, h1, h2⟩ := o.ex ((k.trans k2).trans k3)
      exact ⟨p, n, vs, rfl, r3, h1, hz.1, hz.2.1, by rw [h2.len]; exact hz.2.2, fun l hl => q l (s3.newO l _ hl) ((k2.trans k3).trans (Ex.newO hl)) (fr_back (k2.trans k3) hl) (own_new hl (h2.repF _))⟩)
end
theorem goN {β ρ γ : Type} {b : β} {k : β → γ} {e : ρ → γ} {r : γ} (h : Fl.go (Fl.nx b) k e = r) : k b = r := h
def obsX (n : Nat) (fa : List He.Fa) (fn : List He.DefD) (gs : PySem.W.Frag → Bool) (g : Addr → Option Obj) : Bool × He.AlD := (gs (He.frG g (He.asD g n)), He.obsDG n fa fn g)
def hookX (n : Nat) (fa : List He.Fa) (fn : List He.DefD) (gs : PySem.W.Frag → Bool) : PySem.W.Hook where
  α := Bool × He.AlD
  obs := fun s => obsX n fa fn gs s.heap.get?
  val := fun _ => (true, He.valD fn)
  says := fun _ h => ∃ K : PySem.W.Frag, K.In h ∧ He.SaysD fa fn K ∧ gs K = true
  of := fun _ _ e => ⟨_, He.frG_in, congrArg (fun z : Bool × He.AlD => z.2) e, congrArg (fun z : Bool × He.AlD => z.1) e⟩
  keeps := fun _ _ _ ⟨K, hK, c, d⟩ k => ⟨K, PySem.W.Frag.In.keeps hK k, c, d⟩
theorem obsX_eq {n : Nat} {fa : List He.Fa} {fn : List He.DefD} {gs : PySem.W.Frag → Bool} {g : Addr → Option Obj} {s : Shared} (h : ∀ a, g a = s.heap.get? a) : obsX n fa fn gs g = (hookX n fa fn gs).obs s := by
  have e : g = s.heap.get? := funext h
  rw [e] <;> rfl
end Dy

namespace Dy
open PySem PySem.Spec L2
open PyProof.Rows hiding St
open Enc (rep)
open EncA (repA)

def oexB (K : PySem.W.Frag) (C : Addr) : Bool := match K.lookup C with
  | some ⟨.type "type", _, .cls cd, sl⟩ => (match cd.mro, sl.toList with
    | .ref C' :: bm, [_, _, _, _, some (.builtin n), _] => C' == C && (n == "ValueError.__new__" && (!cd.hasDel && (cd.hasDict && PySem.HandSPX.refsVE bm)))
    | _, _ => false)
  | _ => false
theorem oexB_ok {K : PySem.W.Frag} {C : Addr} (h : oexB K C = true) : ∃ nm q N bs bm sn sub ab col dd k0 k1 k2 k3 k5, K.lookup C = some (excClassObj nm q C N bs bm true sn sub ab col dd k0 k1 k2 k3 k5 "ValueError.__new__") ∧ PySem.HandSPX.refsVE bm = true := by
  unfold oexB at h
  split at h
  · rename_i dd cd sl ho
    split at h
    · rename_i C' bm k0 k1 k2 k3 n k5 hm hs
      simp only [Bool.and_eq_true, beq_iff_eq, Bool.not_eq_true'] at h
      obtain ⟨rfl, rfl, h1, h2, h3⟩ := h
      obtain ⟨nm, bs, mro, ns, qn, hd, sn, sub, ab, col, del⟩ := cd
      dsimp only at hm h1 h2
      subst hm h1 h2
      obtain ⟨l⟩ := sl
      simp only at hs
      subst hs
      exact ⟨nm, qn, ns, bs, bm, sn, sub, ab, col, dd, k0, k1, k2, k3, k5, ho, h3⟩
    · cases h
  · cases h
def payB (K : PySem.W.Frag) (c f : Str) : Bool := oexB K (He.ga K c) && (He.eqO (PySem.W.findIn K (.ref (He.ga K c)) "__setattr__") (some (some (.builtin "object.__setattr__"))) && (decide (PySem.W.subIn K (.ref (He.ga K c)) (.type "BaseException") = some true) && (decide (PySem.W.typeIn K (.ref (He.ga K c)) = some (.type "type")) &&
  (PySem.W.keepIn K (.ref (He.ga K c)) && (He.eqO (PySem.W.findIn K (.ref (He.ga K c)) "__init__") (some (some (.ref (He.fAd K (c, some "__init__"))))) && (decide (PySem.W.typeIn K (.ref (He.fAd K (c, some "__init__"))) = some (.type "function")) && He.eqO (PySem.W.findIn K (.ref (He.ga K c)) f) (some none)))))))
structure PayF (K : PySem.W.Frag) (c f : Str) : Prop where
  o : OexC K (He.ga K c)
  i : PySem.W.findIn K (.ref (He.ga K c)) "__init__" = some (some (.ref (He.fAd K (c, some "__init__"))))
  t : PySem.W.typeIn K (.ref (He.fAd K (c, some "__init__"))) = some (.type "function")
  n : PySem.W.findIn K (.ref (He.ga K c)) f = some none
theorem payB_ok {K : PySem.W.Frag} {c f : Str} (h : payB K c f = true) : PayF K c f := by
  unfold payB at h
  obtain ⟨h1, h⟩ := He.ba h
  obtain ⟨h2, h⟩ := He.ba h
  obtain ⟨h3, h⟩ := He.ba h
  obtain ⟨h4, h⟩ := He.ba h
  obtain ⟨h5, h⟩ := He.ba h
  obtain ⟨h6, h⟩ := He.ba h
  obtain ⟨h7, h8⟩ := He.ba h
  exact ⟨⟨oexB_ok h1, He.eqO_ok h2, of_decide_eq_true h3, of_decide_eq_true h4, h5⟩, He.eqO_ok h6, of_decide_eq_true h7, He.eqO_ok h8⟩
def spInit (K : PySem.W.Frag) (f : Str) : Sp := fun vs H Q _ => ∃ (a C : Addr) (v : V), vs = [.ref a, v] ∧ H a = some (exo a C none) ∧ OexC K C ∧ PySem.W.findIn K (.ref C) f = some none ∧ ∀ dx, H dx = none → dx ≠ a → Q .non (upd (upd H dx (exd dx [(f, v)])) a (exo a C (some dx)))
section
variable {P : Program} {w : World} {K : PySem.W.Frag} {mg : Str → Option Value} {base : Heap}
theorem mk_init {f x : Str} {ar : Arguments} {sc : Scope} {q : Str} {fI : Addr} {fd : FuncData} {k : Nat} {p1 p2 p3 p4 : Pos} (F : FunD K "__init__" q ar [.Assign [.Attribute (.Name "self" p1) f p2] (.Name x p3) p4] sc [] [] fI fd) (Sc : FnScope ["self", x] ["self", x] sc)
    (hv : ∀ (cdv : Value) (A' : Around) (outer : List Env) (s0 : Shared) (H0 : Hp) (E0 : XK), Vis (cxOf CX0 P w K mg base ["self", x] q sc fI cdv A' outer s0 H0 E0).nox.env.scope "self" ∧ Vis (cxOf CX0 P w K mg base ["self", x] q sc fI cdv A' outer s0 H0 E0).nox.env.scope x ∧
      swapsWith (.Name x p3) (some (.Attribute (.Name "self" p1) f p2)) p4.line (cxOf CX0 P w K mg base ["self", x] q sc fI cdv A' outer s0 H0 E0).nox.env = pure false)
    (hx : (x == ("__debug__" : Str)) = false := by decide) (hx2 : (x == ("__classdict__" : Str)) = false := by decide) : FnOk P w K mg base CX0 (k + 1) fI fd ["self", x] (spInit K f) :=
  F.ok Sc (fun vs H Q E ⟨a, C, v, e, _⟩ => by rw [e]; rfl) (fun cdv A' outer s0 H0 vs Q E hr ⟨a, C, v, e, h1, h2, h3, h4⟩ => by
    obtain ⟨v1, v2, v3⟩ := hv cdv A' outer s0 H0 E
    subst e
    exact ⟨_, PSs.nox (pss_cons (ps_ost (pe_var (i := 0) rfl v1 (by decide) (by decide)) (pe_var (i := 1) rfl v2 hx hx2) v3) pss_nil), v, rfl, .ref a, rfl, a, C, rfl, h2, h3, .inl ⟨h1, fun dx n ne => h4 dx n ne⟩⟩)
end
section
variable {X : Cx} {σ : St} {s : S} {D : Ends} {rest : List Stmt} {W : WX} {e : Expr}
theorem do_raiseI {c f : Str} {fd : FuncData} {ps : List Str} {k j : Nat} {i : Int} {p pos pos' : Pos} (T : PayF X.K c f) (gC : X.mg c = some (.ref (He.ga X.K c))) (F1 : FnOk X.prog X.w X.K X.mg X.base CX0 k (He.fAd X.K (c, some "__init__")) fd ps (spInit X.K f)) (hb : Binds X.K fd ps [])
    (tk : Takes X W) (hr : Room j X.A) (hk : k + 1 ≤ j) (ha : Ev X e σ s i) (h : ∀ d s1, Ex s s1 → s1.F d = some (.xd [(f, V.int i)]) → W (.ref (He.ga X.K c)) (some d) σ s1.H)
    (hc : X.calm = true := by rfl) (hg : Gl X c := by rfl) (hdb : (c == ("__debug__" : Str)) = false := by decide) (he : starEach [e] X.env = (false, eval e X.env) :: starEach [] X.env := by rfl) (hpl : (backTo pos (starEach [] X.env)).any (·.1) = false := by rfl) :
    WSs X (.Raise (some (.Call (.Name c p) [e] [] pos)) none pos' :: rest) D σ s.H :=
  do_cons (ps_raise hc tk (pmk_oex T.o T.i T.t F1 (hr.mono hk) hb .nil pass0 hg gC (pa_cons pe_we pa_nil he) hdb he hpl)) (ha s (Ex.refl _) _ fun v s2 k2 r2 => by
    obtain rfl : v = V.int i := r2
    refine ⟨by simp, fun a hna => ⟨a, He.ga X.K c, V.int i, rfl, upd_same, T.o, T.n, fun dx h1 h2 => ?_⟩⟩
    have hdx : s2.H dx = none := by rw [upd_ne h2] at h1; exact h1
    refine ⟨rfl, dx, _, upd_same, by rw [upd_ne h2, upd_same], hdx, ?_⟩
    have eH : upd (del (upd (upd (upd s2.H a (exo a (He.ga X.K c) none)) dx (exd dx [(f, V.int i)])) a (exo a (He.ga X.K c) (some dx))) a) dx (.xd [(f, V.int i)]) = (s2.newF dx (.xd [(f, V.int i)]) hdx).H := by
      funext b
      show _ = upd s2.H dx (.xd [(f, V.int i)]) b
      by_cases hb1 : b = dx
      · subst hb1; rw [upd_same, upd_same]
      · rw [upd_ne hb1, upd_ne hb1]
        by_cases hb2 : b = a
        · subst hb2; rw [del_same, hna]
        · rw [del_ne hb2, upd_ne hb2, upd_ne hb1, upd_ne hb2]
    rw [eH]
    exact h dx _ (k2.trans (Ex.newF hdx)) upd_same)
end
def InitOk (P : Program) (w : World) (K : PySem.W.Frag) (mg : Str → Option Value) (base : Heap) (c f : Str) : Prop := ∃ (fd : FuncData) (ps : List Str), FnOk P w K mg base CX0 1 (He.fAd K (c, some "__init__")) fd ps (spInit K f) ∧ Binds K fd ps []
section
variable {α : Type} [Enc α] {X : Cx} {σ : St} {s : S} {e : Expr}
theorem ev_t2u {x : α × α} (h : Ev X e σ s x) : Ev X e σ s (⟨[x.1, x.2]⟩ : Tu α) := fun s1 k Q q => h s1 k Q fun v s2 k2 r => q v s2 k2 (by
  obtain ⟨p, v1, v2, rfl, h0, h1, h2⟩ := r
  exact ⟨p, [v1, v2], rfl, h0, h1, h2, trivial⟩)
end
class Arity (α : Type) (n : outParam Nat) extends Enc α where
  ar : ∀ {K : PySem.W.Frag} {F : Hp} {v : V} {x : α}, rep K F v x → ∃ p vs, v = .ref p ∧ SqT K F p vs ∧ vs.length = n
instance {α β : Type} [Enc α] [Enc β] : Arity (α × β) 2 := ⟨fun h => by
  obtain ⟨p, v1, v2, e, h, _⟩ := h
  exact ⟨p, _, e, h, rfl⟩⟩
instance {α β γ : Type} [Enc α] [Enc β] [Enc γ] : Arity (T3 α β γ) 3 := ⟨fun h => by
  obtain ⟨p, v1, v2, v3, e, h, _⟩ := h
  exact ⟨p, _, e, h, rfl⟩⟩
section
variable {α : Type} {X : Cx} {σ : St} {s : S} {e : Expr} {p0 pos : Pos}
theorem ev_lenA {n : Nat} [Arity α n] {x : α} (hm : X.mg "len" = none) (ha : Ev X e σ s x) (hg : Gl X "len" := by rfl) (he : starEach [e] X.env = (false, eval e X.env) :: starEach [] X.env := by rfl) (hpl : (backTo pos (starEach [] X.env)).any (·.1) = false := by rfl) : Ev X (.Call (.Name "len" p0) [e] [] pos) σ s (n : Int) :=
  ev_B1 call_len_seq hg hm boot_len ha (fun v s2 r2 Q q => by
    obtain ⟨p, vs, rfl, h1, h2⟩ := Arity.ar r2
    exact ⟨p, vs, rfl, .inr (sqt_mono s2.sub h1), q _ s2 (Ex.refl _) (by rw [h2]; rfl)⟩) (he := he) (hpl := hpl)
end
end Dy

namespace Dy
open PySem PySem.Spec L2
open PyProof.Rows hiding St
open Enc (rep)

def dsz (ns : List Int) : Nat := (PyProof.Rows.firstMet (fun i => ns.getD i 0) ns.length).length
section
variable {X : Cx} {a : Expr} {ta : TE} {p p2 q pos : Pos}
def tDsz (K : PySem.W.Frag) (ta : TE) : TE := fun σ H Q => ta σ H fun x H1 => ∃ (l : Addr) (ns : List Int), x = .ref l ∧ SqL K H1 l (ns.map V.int) ∧ ns.length ≤ 4000 ∧ dsz ns ≤ ns.length ∧ Q (.int (dsz ns : Nat)) H1
theorem pe_dsz (hg : Gl X "len") (hm : X.mg "len" = none) (hg2 : Gl X "set") (hm2 : X.mg "set" = none) (ha : PE X a ta) (hc : X.calm = true := by rfl)
    (na : starEach [a] X.env = (false, eval a X.env) :: starEach [] X.env := by rfl) : PE X (.Call (.Name "len" p) [.Call (.Name "set" p2) [a] [] q] [] pos) (tDsz X.K ta) := by
  refine ⟨fun pins s σ H Q I h => ?_⟩
  refine Call_ (ld_blt I hg hm boot_len (PyProof.Rows.callWith_builtin1 (PyProof.Rows.args_cons (Call_ (ld_blt I hg2 hm2 boot_set (PyProof.Rows.callWith_type1 (PyProof.Rows.args_cons (thn (ha.run pins s σ H _ I h) fun v s1 ⟨x, H1, I1, r1, l, ns, e, hq, hl, hd0, q1⟩ => PyProof.Rows.args_nil ?_) na) na rfl))) rfl) rfl rfl))
  subst e
  cases r1
  obtain ⟨its, r, pl, hz⟩ := I1.list hq
  have hlen : its.toArray.size = ns.length := by rw [List.size_toArray, ← r.length, List.length_map]
  refine call_set_list (I1.ok.hd hc) pl.isList (by simpa using RZ.intsAre_vals r) (by rw [hlen]; unfold scanBound; omega) fun h' tk hS hk => PyProof.Rows.args_nil ?_
  rw [hlen] at hS
  obtain ⟨o, es, ep, t, ho, hex, hd, _, _, _, hf, hn⟩ := hS
  have I2 : Inv X pins σ H1 { s1 with heap := h', toks := tk } := I1.kept fun b o e => hk b o (Heap.lt_size e) e
  unfold dsz at hd0 q1
  exact call_len_set ho hex hd hf (by rw [hn] <;> omega) ⟨.int (dsz ns : Nat), H1, I2.tok _, ⟨_, by rw [hn]; rfl⟩, q1⟩
theorem dsz_le (ns : List Int) : dsz ns ≤ ns.length := PyProof.Rows.firstMet_length_le _ _
variable {σ : St} {s : S}
theorem ev_dsz {xs : List Int} (hm : X.mg "len" = none) (hm2 : X.mg "set" = none) (ha : EvR X a σ s xs) (hz : xs.length ≤ 4000) (hc : X.calm = true := by rfl) (hg : Gl X "len" := by rfl) (hg2 : Gl X "set" := by rfl) (na : starEach [a] X.env = (false, eval a X.env) :: starEach [] X.env := by rfl) :
    Ev X (.Call (.Name "len" p) [.Call (.Name "set" p2) [a] [] q] [] pos) σ s ((dsz xs : Nat) : Int) := fun s1 k Q qq =>
  we_of (pe_dsz hg hm hg2 hm2 pe_we hc na) (ha s1 k _ fun v s2 k2 r2 => by
    obtain ⟨p, vs, rfl, h1, h2⟩ := r2
    obtain rfl := h2.flat
    exact ⟨p, xs, rfl, h1, hz, dsz_le xs, qq _ s2 k2 rfl⟩)
end
theorem fm_inv (ns : List Int) : ∀ i, i ≤ ns.length → (∀ x, x ∈ PyProof.Rows.firstMet (fun i => ns.getD i 0) i ↔ x ∈ ns.take i) ∧ ((PyProof.Rows.firstMet (fun i => ns.getD i 0) i).length = i ↔ (ns.take i).Nodup)
  | 0, _ => by
    rw [PyProof.Rows.firstMet_zero]
    simp
  | i + 1, h => by
    obtain ⟨h1, h2⟩ := fm_inv ns i (by omega)
    have h3 := PyProof.Rows.firstMet_length_le (fun i => ns.getD i 0) i
    have e1 : ns.getD i 0 = ns[i] := by rw [List.getD_eq_getElem?_getD, List.getElem?_eq_getElem (by omega)]; rfl
    have e2 : ns.take (i + 1) = ns.take i ++ [ns[i]] := by rw [List.take_add_one, List.getElem?_eq_getElem (by omega)]; rfl
    rw [PyProof.Rows.firstMet_succ, e2]
    generalize PyProof.Rows.firstMet (fun i => ns.getD i 0) i = m at *
    have e3 : PyProof.Rows.step_dedup m (ns.getD i 0) = if ns[i] ∈ m then m else m ++ [ns[i]] := by
      unfold PyProof.Rows.step_dedup
      rw [e1]
      have e4 : (m.any fun x => x == ns[i]) = true ↔ ns[i] ∈ m := by
        rw [List.any_eq_true]
        exact ⟨fun ⟨y, hy, ey⟩ => eq_of_beq ey ▸ hy, fun hm => ⟨_, hm, beq_self_eq_true _⟩⟩
      by_cases hm : ns[i] ∈ m
      · rw [if_pos hm, if_pos (e4.mpr hm)]
      · rw [if_neg hm, if_neg (fun z => hm (e4.mp z))]
    show (∀ x, x ∈ PyProof.Rows.step_dedup m (ns.getD i 0) ↔ _) ∧ ((PyProof.Rows.step_dedup m (ns.getD i 0)).length = i + 1 ↔ _)
    rw [e3]
    by_cases hm : ns[i] ∈ m
    · rw [if_pos hm]
      have hm2 := (h1 _).mp hm
      refine ⟨fun x => ?_, fun e => by omega, fun hn => ?_⟩
      · rw [List.mem_append, h1, List.mem_singleton]
        exact ⟨.inl, fun z => z.elim id fun z => z ▸ hm2⟩
      · exact absurd rfl ((List.nodup_append.mp hn).2.2 _ hm2 _ (List.mem_singleton.mpr rfl))
    · rw [if_neg hm]
      have hm2 : ns[i] ∉ ns.take i := fun z => hm ((h1 _).mpr z)
      refine ⟨fun x => by rw [List.mem_append, List.mem_append, h1], fun e => ?_, fun hn => ?_⟩
      · rw [List.length_append, List.length_singleton] at e
        refine List.nodup_append.mpr ⟨h2.mp (by omega), by simp, fun a ha b hb e => ?_⟩
        rw [List.mem_singleton.mp hb] at e
        exact hm2 (e ▸ ha)
      · rw [List.length_append, List.length_singleton, h2.mpr (List.nodup_append.mp hn).1]
theorem dsz_eq (ns : List Int) : dsz ns = ns.length ↔ ns.Nodup := by
  have := (fm_inv ns ns.length (Nat.le_refl _)).2
  rw [List.take_length] at this
  exact this
structure HL2 (α β : Type) where
  a : α
  b : β
deriving DecidableEq
instance {α β : Type} [Enc α] [Enc β] : Enc (HL2 α β) := ⟨fun K F v x => ∃ p v1 v2, v = .ref p ∧ SqL K F p [v1, v2] ∧ rep K F v1 x.a ∧ rep K F v2 x.b, fun e h => by
  obtain ⟨p, v1, v2, rfl, h0, h1, h2⟩ := h
  exact ⟨p, v1, v2, rfl, sql_mono e h0, Enc.mono e h1, Enc.mono e h2⟩⟩
instance {α β : Type} [EqD α] [EqD β] : EqD (HL2 α β) := ⟨fun x => .list [EqD.toD x.a, EqD.toD x.b], fun h f => by
  obtain ⟨p, v1, v2, rfl, h0, h1, h2⟩ := h
  exact .lst (sql_mono f h0) (.cons (EqD.dp h1 f) (.cons (EqD.dp h2 f) .nil)), fun x y => by
    obtain ⟨x1, x2⟩ := x
    obtain ⟨y1, y2⟩ := y
    show (PyData.eqv _ _ && (PyData.eqv _ _ && true)) = true ↔ _
    rw [Bool.and_eq_true, Bool.and_eq_true, EqD.eqv, EqD.eqv]; simp⟩
section
variable {α β : Type} [Enc α] [Enc β] {X : Cx} {σ : St} {s : S} {es : List Expr} {pos : Pos}
theorem ev_hl2 {x : α} {y : β} (h : EvA X es σ s (x, y, ())) : Ev X (.List es pos) σ s (⟨x, y⟩ : HL2 α β) := fun s1 k Q q =>
  we_of (pe_lst pa_wa) (h s1 k _ fun vs s2 k2 r2 => by
    obtain ⟨v1, _, rfl, r1, v2, _, rfl, r2, rfl⟩ := r2
    exact ⟨show _ ≤ 2 ^ 24 by simp, fun p hp => q _ (s2.newF p (.lst [v1, v2]) hp) (k2.trans (Ex.newF hp)) ⟨p, v1, v2, rfl, .inl (.inl upd_same), Enc.mono (Ex.newF hp).f r1, Enc.mono (Ex.newF hp).f r2⟩⟩)
end
def relS (scope sc : Scope) : Scope := { scope with names := scope.names.map fun (n, k) => if (k == .free && sc.kind == .function && sc.names.lookup n == some .cell) then (n, .cell) else (n, k) }
theorem blkOk_n {N : List Str} {scope1 sc0 scope : Scope} {env : Env} {own : List (Str × Nat)} (e : env.scope = sc0) (h : blkC N (relS scope1 sc0) scope own = true) : BlkOk N (relabel scope1 env) scope own := by
  have : relabel scope1 env = relS scope1 sc0 := by subst e; rfl
  rw [this]
  exact blkOk_by h
end Dy

namespace Dy
open PySem PySem.Spec L2
open PyProof.Rows hiding St
open Enc (rep)

inductive An where
  | b (x : Bool)
  | i (x : Int)
  | o (x : Option Int)
  | s (x : Str)
  | l (xs : List Int)
  | ls (xs : List Str)
  | ts (xs : Tu Str)
instance : Enc An := ⟨fun K F v x => match x with
  | .b x => rep K F v x
  | .i x => rep K F v x
  | .o x => rep K F v x
  | .s x => rep K F v x
  | .l x => rep K F v x
  | .ls x => rep K F v x
  | .ts x => rep K F v x, fun {K F F' v x} e h => by
  cases x with
  | b x => exact Enc.mono (α := Bool) e h
  | i x => exact Enc.mono (α := Int) e h
  | o x => exact Enc.mono (α := Option Int) e h
  | s x => exact Enc.mono (α := Str) e h
  | l x => exact Enc.mono (α := List Int) e h
  | ls x => exact Enc.mono (α := List Str) e h
  | ts x => exact Enc.mono (α := Tu Str) e h⟩
class ToD (α : Type) extends Enc α where
  td : α → PyData
  tdp : ∀ {K : PySem.W.Frag} {F H : Hp} {v : V} {x : α}, rep K F v x → Fle F H → Dp K H v (td x)
instance : ToD An := ⟨fun x => match x with
  | .b x => EqD.toD x
  | .i x => EqD.toD x
  | .o x => EqD.toD x
  | .s x => EqD.toD x
  | .l x => EqD.toD x
  | .ls x => EqD.toD x
  | .ts x => EqD.toD x, fun {K F H v x} h f => by
  cases x with
  | b x => exact EqD.dp (α := Bool) h f
  | i x => exact EqD.dp (α := Int) h f
  | o x => exact EqD.dp (α := Option Int) h f
  | s x => exact EqD.dp (α := Str) h f
  | l x => exact EqD.dp (α := List Int) h f
  | ls x => exact EqD.dp (α := List Str) h f
  | ts x => exact EqD.dp (α := Tu Str) h f⟩
instance {α : Type} [EqD α] : ToD (α × An) := ⟨fun x => .tuple [EqD.toD x.1, ToD.td x.2], fun h f => by
  obtain ⟨p, v1, v2, rfl, h0, h1, h2⟩ := h
  exact .tup (sqt_mono f h0) (.cons (EqD.dp h1 f) (.cons (ToD.tdp h2 f) .nil))⟩
def eqvD {α : Type} [ToD α] (x y : α) : Bool := PyData.eqv (ToD.td x) (ToD.td y)
def shpD {α : Type} [ToD α] (x : α) : Prop := SeqAt.shaped (ToD.td x) = true
section
variable {α : Type} {X : Cx} {σ : St} {s : S} {a b e : Expr} {pos : Pos}
theorem eb_eqV [ToD α] {x y : α} {j : Nat} (hr : Room j X.A) (ha : Ev X a σ s x) (hb : Ev X b σ s y) (h1 : shpD x) (h2 : shpD y) : EvB X (.Compare a [.Eq] [b] pos) σ s (eqvD x y) :=
  eb_cmp (op_eqD (hu64 hr)) ha hb (fun v u s2 hv hu Q q => ⟨_, _, ToD.tdp hv s2.sub, ToD.tdp hu s2.sub, h1, h2, q⟩) (nomark _)
theorem eb_neV [ToD α] {x y : α} {j : Nat} (hr : Room j X.A) (ha : Ev X a σ s x) (hb : Ev X b σ s y) (h1 : shpD x) (h2 : shpD y) : EvB X (.Compare a [.NotEq] [b] pos) σ s (!eqvD x y) :=
  eb_cmp (op_neD (hu64 hr)) ha hb (fun v u s2 hv hu Q q => ⟨_, _, ToD.tdp hv s2.sub, ToD.tdp hu s2.sub, h1, h2, q⟩) (nomark _)
theorem an_b {x : Bool} (h : Ev X e σ s x) : Ev X e σ s (An.b x) := h
theorem an_i {x : Int} (h : Ev X e σ s x) : Ev X e σ s (An.i x) := h
theorem an_o {x : Option Int} (h : Ev X e σ s x) : Ev X e σ s (An.o x) := h
theorem an_s {x : Str} (h : Ev X e σ s x) : Ev X e σ s (An.s x) := h
theorem an_l {x : List Int} (h : Ev X e σ s x) : Ev X e σ s (An.l x) := h
theorem an_ls {x : List Str} (h : Ev X e σ s x) : Ev X e σ s (An.ls x) := h
theorem an_ts {x : Tu Str} (h : Ev X e σ s x) : Ev X e σ s (An.ts x) := h
def anB : An → Option Bool
  | .b x => some x
  | _ => none
theorem ev_anB {x : An} {y : Bool} (h : Ev X e σ s x) (hy : anB x = some y) : Ev X e σ s y := by
  cases x with
  | b z => cases hy; exact h
  | _ => cases hy
end
end Dy

set_option maxHeartbeats 4000000
namespace K40
open PySem PySem.Spec L2 Dy
open PyProof.Rows hiding St
open Enc (rep)
open Flat (toV)
open EncA (repA)
def topS (i : Nat) : Stmt := PySem.Challenge.pw_deskpairs_k40_orders_refused.main.body.getD i (.Pass ⟨0, 0, 0, 0⟩)
def clsS (i j : Nat) : Stmt := match PySem.Challenge.pw_deskpairs_k40_orders_refused.main.body.getD i (.Pass ⟨0, 0, 0, 0⟩) with | .ClassDef _ _ _ body _ _ _ _ _ _ _ => body.getD j (.Pass ⟨0, 0, 0, 0⟩) | _ => .Pass ⟨0, 0, 0, 0⟩
def tab : ETab := ⟨["NoOrder"], [], [(("NoOrder", "NoBars"), false), (("NoOrder", "NoBreak"), false), (("NoOrder", "NoCall"), false), (("NoOrder", "NoInstrument"), false), (("NoOrder", "NoLine"), false), (("NoOrder", "NoName"), false), (("NoOrder", "NoOrder"), true), (("NoOrder", "NoPlace"), false), (("NoOrder", "NoPlayer"), false), (("NoOrder", "NoSeating"), false), (("NoOrder", "NoText"), false), (("NoOrder", "NoTimes"), false), (("NoOrder", "Twice"), false), (("NoOrder", "ValueError"), true)], [(("NoOrder", "PairsError"), true)]⟩
abbrev s_l_cell_at : Stmt := topS 24
abbrev N_l_cell_at : List Str := ["_law_script", "_law_k"]
theorem sc_l_cell_at : FnScope N_l_cell_at ["_law_script", "_law_k"] (defScope s_l_cell_at) := ⟨rfl, rfl, rfl, by decide +kernel, rfl, by decide +kernel, by decide +kernel⟩
noncomputable def m_l_cell_at (script1 : (List Int)) (k4 : Int) : Option Int :=
 (if (decide (k4 < ((script1).length : Int))) = true then
 (bnd (atI script1 k4) fun at16 => (some at16))
 else
 (some (0 : Int)))
noncomputable abbrev a_l_cell_at : (List Int) × Int × Unit → Option Int := fun a => m_l_cell_at a.1 a.2.1
theorem ok_l_cell_at {P : Program} {w : World} {K : PySem.W.Frag} {mg : Str → Option Value} {base : Heap} {f : Addr} {fd : FuncData} (F : FunP K "_law_cell_at" s_l_cell_at f fd) (hmg : mg "_law_cell_at" = some (.ref f)) (z_len : mg "len" = none) : Cal P w K mg base CX0 1 "_law_cell_at" (sp K a_l_cell_at) := by
  refine mk_cal (k := 0) F hmg (F.bindsN fun _ _ _ _ _ _ us hl => match us, hl with | [_, _], _ => rfl) sc_l_cell_at len2 ?_
  rintro cdv A' outer sh0 H0 X0 hr s0 vs ⟨script1, k4, _⟩ r0 Q ⟨v2, _, rfl, r3, v5, _, rfl, r6, rfl⟩ hm hQ
  have E7 := Ex.refl s0
  unfold a_l_cell_at m_l_cell_at at hm
  dsimp only at hm
  refine do_ifR (EvB.t (eb_lt (ev_var 1 rfl r6) (ev_len z_len (Ev.r (ev_var 0 rfl r3))))) (fun hb9 s10 e11 => ?_) (fun hb21 s22 e23 => ?_)
  · have hm12 := iteE1 hm hb9
    have E13 := E7.trans e11
    have r14 := Enc.mono e11.f r3
    have r15 := Enc.mono e11.f r6
    obtain ⟨at16, h_at16, hm12⟩ := bndE hm12
    obtain rfl := Option.some.inj hm12
    exact do_ret (ev_ix (Ev.r (ev_var 0 rfl r14)) (ev_var 1 rfl r15) h_at16) fun v17 s18 e19 r20 => hQ _ _ (E13.trans e19) r20
  · have hm24 := iteE2 hm hb21
    have E25 := E7.trans e23
    have r26 := Enc.mono e23.f r3
    have r27 := Enc.mono e23.f r6
    obtain rfl := Option.some.inj hm24
    exact do_ret ev_int fun v28 s29 e30 r31 => hQ _ _ (E25.trans e30) r31
abbrev s_l_draws : Stmt := topS 25
abbrev N_l_draws : List Str := ["_law_cell", "_law_sizes", "_law_found", "_law_digits", "_law_k", "_law_mixed"]
theorem sc_l_draws : FnScope N_l_draws ["_law_cell", "_law_sizes"] (defScope s_l_draws) := ⟨rfl, rfl, rfl, by decide +kernel, rfl, by decide +kernel, by decide +kernel⟩
noncomputable def m_l_draws (cell32 : Int) (sizes35 : (List Int)) : Option (List Int) :=
 (lt (([] : List Int) : (List Int)) fun found39 =>
 (lt ((cell32 / (2 : Int)) : Int) fun digits50 =>
 (chk (RgB ((sizes35).length : Int)) (bnd (foldO (fun (b63 : ((List Int) × Int)) (x65 : Int) =>
 (chk (MulOk x65 x65) (lt (((((cell32 % (1000003 : Int)) + (1 : Int)) * ((x65 * x65) + (48271 : Int))) % (65537 : Int)) : Int) fun mixed95 =>
 (lt ((((((mixed95 * mixed95) + ((7919 : Int) * x65)) + (11 : Int)) * (30269 : Int)) % (999983 : Int)) : Int) fun mixed108 =>
 (bnd (if (decide ((cell32 % (2 : Int)) = (0 : Int))) = true then
 (lt (b63.2 : Int) fun mixed137 =>
 (some mixed137))
 else
 (some mixed108) : Option Int) fun b122 =>
 (bnd (atI sizes35 x65) fun at183 => (chk (0 < at183) (chk ((b63.1).length < sizeLine) (lt ((b63.1 ++ [(b122 % at183)]) : (List Int)) fun found181 =>
 (bnd (atI sizes35 x65) fun at193 => (chk (DivOk at193) (lt ((b63.2 / at193) : Int) fun digits195 =>
 (some (found181, digits195)))))))))))))) (found39, digits50) (rng 0 ((sizes35).length : Int))) fun o61 =>
 (some o61.1)))))
noncomputable abbrev a_l_draws : Int × (List Int) × Unit → Option (List Int) := fun a => m_l_draws a.1 a.2.1
theorem ok_l_draws {P : Program} {w : World} {K : PySem.W.Frag} {mg : Str → Option Value} {base : Heap} {f : Addr} {fd : FuncData} (F : FunP K "_law_draws" s_l_draws f fd) (hmg : mg "_law_draws" = some (.ref f)) (z_range : mg "range" = none) (z_len : mg "len" = none) : Cal P w K mg base CX0 1 "_law_draws" (spN K a_l_draws) := by
  refine mk_calN (k := 0) F hmg (F.bindsN fun _ _ _ _ _ _ us hl => match us, hl with | [_, _], _ => rfl) sc_l_draws len2 ?_
  rintro cdv A' outer sh0 H0 X0 hr s0 vs ⟨cell32, sizes35, _⟩ r0 Q ⟨v33, _, rfl, r34, v36, _, rfl, r37, rfl⟩ hm hQ
  have E38 := Ex.refl s0
  unfold a_l_draws m_l_draws at hm
  dsimp only at hm
  refine do_setN 2 (en_list (xs := ([] : List Int)) ee_nil (by simp [sizeLine])) (fun p43 s41 e42 n44 o45 => ?_) sc_l_draws.nd
  have n46 := fr_back E38 n44
  have E47 := E38.trans e42
  have r48 := Enc.mono e42.f r34
  have r49 := Enc.mono e42.f r37
  obtain ⟨found39, q40, hm⟩ := ltE hm
  rw [← q40] at o45
  refine do_set 3 (ev_div (ev_var 0 rfl r48) ev_int ⟨by decide, by decide +kernel⟩) (fun v54 s52 e53 r55 => ?_) sc_l_draws.nd
  have E56 := E47.trans e53
  have r57 := Enc.mono e53.f r48
  have r58 := Enc.mono e53.f r49
  have o59 := Own.ex o45 e53
  obtain ⟨digits50, q51, hm⟩ := ltE hm
  rw [← q51] at r55
  obtain ⟨hc60, hm⟩ := chkE hm
  obtain ⟨o61, ho62, hm⟩ := bndE hm
  refine do_forO (υ := ((List Int) × Int)) PassesOwn.never rfl (ei_range1 z_range (ev_len z_len (Ev.r (ev_var 1 rfl r58))) hc60) (pg_name (i := 4) sc_l_draws.nd rfl (by first | exact Or.inl rfl | exact Or.inr rfl)) tg_n ho62 (fun (b63 : ((List Int) × Int)) (σ' : L2.St) (t' : S) => Ex s0 t' ∧ ∃ (v_digits : V) (y_mixed : Option V) (y_k : Option V), σ' = [some v33, some v36, some (.ref p43), some v_digits, y_k, y_mixed] ∧ Own K t' p43 (b63.1 : (List Int)) ∧ rep K t'.F v_digits (b63.2 : Int)) (fun s214 k215 => by have E216 := E56.trans k215; have r217 := Enc.mono k215.f r57; have r218 := Enc.mono k215.f r58; have o219 := Own.ex o59 k215; have r220 := Enc.mono k215.f r55; exact ⟨E216, v54, _, _, rfl, o219, r220⟩) (fun s66 k67 x65 b63 b64 σ76 σ77 t74 t75 hx68 hm69 fl70 hR71 k72 hB73 => ?_) (fun s208 k209 σ210 t211 fl212 hR213 => ?_)
  · have hf78 := Fle.trans k67.f fl70
    obtain ⟨E79, v80, y81, y82, rfl, o83, r84⟩ := hR71
    have r85 := Enc.mono hf78 r57
    have r86 := Enc.mono hf78 r58
    obtain ⟨v87, r88, rfl⟩ := hB73
    have E89 := E79.trans k72
    have o90 := Own.ex o83 k72
    have r91 := Enc.mono k72.f r84
    have r92 := Enc.mono k72.f r85
    have r93 := Enc.mono k72.f r86
    obtain ⟨hc94, hm69⟩ := chkE hm69
    refine do_set 5 (ev_mod (ev_mul (ev_add (ev_mod (ev_var 0 rfl r92) ev_int (by decide)) ev_int) (ev_add (ev_mul (ev_var 4 rfl r88) (ev_var 4 rfl r88) hc94) ev_int) (Or.inl (Or.inl ⟨by omega, by omega⟩))) ev_int (by decide)) (fun v99 s97 e98 r100 => ?_) sc_l_draws.nd
    have E101 := E89.trans e98
    have fl102 := Fle.trans (Fle.refl t75.F) e98.f
    have o103 := Own.ex o90 e98
    have r104 := Enc.mono e98.f r91
    have r105 := Enc.mono e98.f r92
    have r106 := Enc.mono e98.f r93
    have r107 := Enc.mono e98.f r88
    obtain ⟨mixed95, q96, hm69⟩ := ltE hm69
    rw [← q96] at r100
    refine do_set 5 (ev_mod (ev_mul (ev_add (ev_add (ev_mul (ev_var 5 rfl r100) (ev_var 5 rfl r100) (Or.inl (Or.inl ⟨by omega, by omega⟩))) (ev_mul ev_int (ev_var 4 rfl r107) (Or.inl (Or.inl ⟨by omega, by omega⟩)))) ev_int) ev_int (Or.inl (Or.inr ⟨by decide, by decide⟩))) ev_int (by decide)) (fun v112 s110 e111 r113 => ?_) sc_l_draws.nd
    have E114 := E101.trans e111
    have fl115 := Fle.trans fl102 e111.f
    have o116 := Own.ex o103 e111
    have r117 := Enc.mono e111.f r104
    have r118 := Enc.mono e111.f r105
    have r119 := Enc.mono e111.f r106
    have r120 := Enc.mono e111.f r107
    obtain ⟨mixed108, q109, hm69⟩ := ltE hm69
    rw [← q109] at r113
    obtain ⟨b122, hj123, hm69⟩ := bndE hm69
    refine do_if (EvB.t (eb_eq (ev_mod (ev_var 0 rfl r118) ev_int (by decide)) ev_int)) (fun (σ' : L2.St) (t' : S) => Fle s110.F t'.F ∧ Ex s0 t' ∧ ∃ (v_mixed : V), σ' = [some v33, some v36, some (.ref p43), some v80, some v87, some v_mixed] ∧ rep K t'.F v_mixed (b122 : Int) ∧ Own K t' p43 (b63.1 : (List Int))) (fun hb124 s125 e126 => ?_) (fun hb151 s152 e153 => ?_) (fun σ164 s165 hM166 => ?_)
    · have hm127 := iteE1 hj123 hb124
      have E128 := E114.trans e126
      have fl129 := Fle.trans fl115 e126.f
      have fl130 := Fle.trans (Fle.refl s110.F) e126.f
      have o131 := Own.ex o116 e126
      have r132 := Enc.mono e126.f r117
      have r133 := Enc.mono e126.f r118
      have r134 := Enc.mono e126.f r119
      have r135 := Enc.mono e126.f r120
      have r136 := Enc.mono e126.f r113
      refine do_set 5 (ev_var 3 rfl r132) (fun v141 s139 e140 r142 => ?_) sc_l_draws.nd
      have E143 := E128.trans e140
      have fl144 := Fle.trans fl129 e140.f
      have fl145 := Fle.trans fl130 e140.f
      have o146 := Own.ex o131 e140
      have r147 := Enc.mono e140.f r132
      have r148 := Enc.mono e140.f r133
      have r149 := Enc.mono e140.f r134
      have r150 := Enc.mono e140.f r135
      obtain ⟨mixed137, q138, hm127⟩ := ltE hm127
      rw [← q138] at r142
      obtain rfl := Option.some.inj hm127
      exact do_nil ⟨s139, rfl, fl145, ⟨E143, v141, rfl, r142, o146⟩⟩
    · have hm154 := iteE2 hj123 hb151
      have E155 := E114.trans e153
      have fl156 := Fle.trans fl115 e153.f
      have fl157 := Fle.trans (Fle.refl s110.F) e153.f
      have o158 := Own.ex o116 e153
      have r159 := Enc.mono e153.f r117
      have r160 := Enc.mono e153.f r118
      have r161 := Enc.mono e153.f r119
      have r162 := Enc.mono e153.f r120
      have r163 := Enc.mono e153.f r113
      obtain rfl := Option.some.inj hm154
      exact do_nil ⟨s152, rfl, fl157, ⟨E155, v112, rfl, r163, o158⟩⟩
    · obtain ⟨hf167, hR168⟩ := hM166
      obtain ⟨E169, v170, rfl, r171, o172⟩ := hR168
      have r173 := Enc.mono hf167 r117
      have r174 := Enc.mono hf167 r118
      have r175 := Enc.mono hf167 r119
      have r176 := Enc.mono hf167 r120
      have fl177 := Fle.trans fl115 hf167
      obtain ⟨at183, h_at183, hm69⟩ := bndE hm69
      obtain ⟨hc184, hm69⟩ := chkE hm69
      obtain ⟨hc185, hm69⟩ := chkE hm69
      refine do_append 2 rfl o172 (ev_mod (ev_var 5 rfl r171) (ev_ix (Ev.r (ev_var 1 rfl r175)) (ev_var 4 rfl r176) h_at183) hc184) hc185 (fun s178 m179 o180 => ?_)
      have E186 := Ex.mu1 E169 m179 n46
      have fl187 := Fle.trans fl177 m179.f
      have r188 := Enc.mono m179.f r171
      have r189 := Enc.mono m179.f r173
      have r190 := Enc.mono m179.f r174
      have r191 := Enc.mono m179.f r175
      have r192 := Enc.mono m179.f r176
      obtain ⟨found181, q182, hm69⟩ := ltE hm69
      rw [← q182] at o180
      obtain ⟨at193, h_at193, hm69⟩ := bndE hm69
      obtain ⟨hc194, hm69⟩ := chkE hm69
      refine do_set 3 (ev_div (ev_var 3 rfl r189) (ev_ix (Ev.r (ev_var 1 rfl r191)) (ev_var 4 rfl r192) h_at193) hc194) (fun v199 s197 e198 r200 => ?_) sc_l_draws.nd
      have E201 := E186.trans e198
      have fl202 := Fle.trans fl187 e198.f
      have r203 := Enc.mono e198.f r188
      have r204 := Enc.mono e198.f r190
      have r205 := Enc.mono e198.f r191
      have r206 := Enc.mono e198.f r192
      have o207 := Own.ex o180 e198
      obtain ⟨digits195, q196, hm69⟩ := ltE hm69
      rw [← q196] at r200
      obtain rfl := Option.some.inj hm69
      exact do_nil ⟨s197, rfl, fl202, ⟨E201, v199, _, _, rfl, o207, r200⟩⟩
  · have hf221 := Fle.trans k209.f fl212
    obtain ⟨E222, v223, y224, y225, rfl, o226, r227⟩ := hR213
    have r228 := Enc.mono hf221 r57
    have r229 := Enc.mono hf221 r58
    obtain rfl := Option.some.inj hm
    exact do_retO 2 rfl (hQ _ _ E222 n46 o226)
abbrev s_l_order : Stmt := topS 26
abbrev N_l_order : List Str := ["_law_cell", "_law_most", "_law_ds", "_law_many", "_law_left", "_law_k"]
theorem sc_l_order : FnScope N_l_order ["_law_cell", "_law_most"] (defScope s_l_order) := ⟨rfl, rfl, rfl, by decide +kernel, rfl, by decide +kernel, by decide +kernel⟩
noncomputable def m_l_order (cell230 : Int) (most233 : Int) : Option (List Int) :=
 (chk (RepOk most233 (([most233] : List Int)).length) (chk ((([most233] : List Int)).length + ((repl most233 ([most233] : List Int))).length ≤ sizeLine) (bnd (m_l_draws cell230 (([most233] : List Int) ++ (repl most233 ([most233] : List Int)))) fun draws239 => (lt (draws239 : (List Int)) fun ds240 =>
 (bnd (atI ds240 (0 : Int)) fun at249 => (lt (((1 : Int) + at249) : Int) fun many250 =>
 (chk (RgOk 0 many250) (lt ((rng 0 many250) : (List Int)) fun left261 =>
 (chk (RgB many250) (bnd (popAll (fun (l275 : (List Int)) (x276 : Int) => (bnd (atI ds240 ((1 : Int) + x276)) fun at289 => (chk (0 < ((l275).length : Int)) (some (at289 % ((l275).length : Int)))))) left261 (rng 0 many250)) fun ys291 => (chk ((ys291).length ≤ sizeLine) (some ys291))))))))))))
noncomputable abbrev a_l_order : Int × Int × Unit → Option (List Int) := fun a => m_l_order a.1 a.2.1
theorem ok_l_order {P : Program} {w : World} {K : PySem.W.Frag} {mg : Str → Option Value} {base : Heap} {f : Addr} {fd : FuncData} (F : FunP K "_law_order" s_l_order f fd) (hmg : mg "_law_order" = some (.ref f)) (C_l_draws : Cal P w K mg base CX0 1 "_law_draws" (spN K a_l_draws)) (z_list : mg "list" = none) (z_range : mg "range" = none) (z_len : mg "len" = none) : Cal P w K mg base CX0 2 "_law_order" (spN K a_l_order) := by
  refine mk_calN (k := 1) F hmg (F.bindsN fun _ _ _ _ _ _ us hl => match us, hl with | [_, _], _ => rfl) sc_l_order len2 ?_
  rintro cdv A' outer sh0 H0 X0 hr s0 vs ⟨cell230, most233, _⟩ r0 Q ⟨v231, _, rfl, r232, v234, _, rfl, r235, rfl⟩ hm hQ
  have E236 := Ex.refl s0
  unfold a_l_order m_l_order at hm
  dsimp only at hm
  obtain ⟨hc237, hm⟩ := chkE hm
  obtain ⟨hc238, hm⟩ := chkE hm
  obtain ⟨draws239, h_draws239, hm⟩ := bndE hm
  refine do_set 2 (EvN.ev (en_call C_l_draws hr (by decide) (ea_cons (ev_var 0 rfl r232) (ea_cons (EvN.ev (en_cat (EvN.r (en_list (xs := ([most233] : List Int)) (ee_cons (ev_var 1 rfl r235) ee_nil) (by simp [sizeLine]))) (EvN.r (en_rep (en_list (xs := ([most233] : List Int)) (ee_cons (ev_var 1 rfl r235) ee_nil) (by simp [sizeLine])) (fun _ hk => Ev.mono (ev_var 1 rfl r235) hk) hc237)) hc238)) ea_nil)) h_draws239)) (fun v244 s242 e243 r245 => ?_) sc_l_order.nd
  have E246 := E236.trans e243
  have r247 := Enc.mono e243.f r232
  have r248 := Enc.mono e243.f r235
  obtain ⟨ds240, q241, hm⟩ := ltE hm
  rw [← q241] at r245
  obtain ⟨at249, h_at249, hm⟩ := bndE hm
  refine do_set 3 (ev_add ev_int (ev_ix (Ev.r (ev_var 2 rfl r245)) ev_int h_at249)) (fun v254 s252 e253 r255 => ?_) sc_l_order.nd
  have E256 := E246.trans e253
  have r257 := Enc.mono e253.f r247
  have r258 := Enc.mono e253.f r248
  have r259 := Enc.mono e253.f r245
  obtain ⟨many250, q251, hm⟩ := ltE hm
  rw [← q251] at r255
  obtain ⟨hc260, hm⟩ := chkE hm
  refine do_setN 4 (en_listRg1 z_list z_range (ev_var 3 rfl r255) hc260) (fun p265 s263 e264 n266 o267 => ?_) sc_l_order.nd
  have n268 := fr_back E256 n266
  have E269 := E256.trans e264
  have r270 := Enc.mono e264.f r257
  have r271 := Enc.mono e264.f r258
  have r272 := Enc.mono e264.f r259
  have r273 := Enc.mono e264.f r255
  obtain ⟨left261, q262, hm⟩ := ltE hm
  rw [← q262] at o267
  obtain ⟨hc274, hm⟩ := chkE hm
  obtain ⟨ys291, h_ys291, hm⟩ := bndE hm
  obtain ⟨hc292, hm⟩ := chkE hm
  obtain rfl := Option.some.inj hm
  exact do_retPop (f := fun (l275 : (List Int)) (x276 : Int) => (bnd (atI ds240 ((1 : Int) + x276)) fun at289 => (chk (0 < ((l275).length : Int)) (some (at289 % ((l275).length : Int)))))) (own := [("_law_k", 5)]) 4 5 rfl sc_l_order.nd (ei_range1 z_range (ev_var 3 rfl r273) hc274) o267 (blkOk_by (own := [("_law_k", 5)]) (N := N_l_order) (sc := defScope s_l_order) (by decide +kernel)) rfl (by decide) (fun _ _ _ _ _ => pg_name (i := 5) sc_l_order.nd rfl (by first | exact Or.inl rfl | exact Or.inr rfl)) (fun _ => rfl) h_ys291 hc292 (fun l275 x276 z277 v278 s279 hx280 m281 o282 r283 hf284 _ _ _ _ _ => by have r287 := Enc.mono m281.f r272; obtain ⟨at289, h_at289, hf284⟩ := bndE hf284; obtain ⟨hc290, hf284⟩ := chkE hf284; obtain rfl := Option.some.inj hf284; exact (ev_mod (ev_ix (Ev.r (ev_var 2 rfl r287)) (ev_add ev_int (ev_var 5 rfl r283)) h_at289) (ev_len z_len (ev_varR 4 rfl o282)) hc290)) (fun q293 s294 m295 n296 o297 => hQ _ _ (Ex.mu1 E269 m295 n268) (fr_back E269 n296) o297)
abbrev s_l_is_order : Stmt := topS 28
abbrev N_l_is_order : List Str := ["_law_order_here", "_law_place"]
theorem sc_l_is_order : FnScope N_l_is_order ["_law_order_here"] (defScope s_l_is_order) := ⟨rfl, rfl, rfl, by decide +kernel, rfl, by decide +kernel, by decide +kernel⟩
noncomputable def m_l_is_order (order_here298 : (List Int)) : Option Bool :=
 (if (!(decide ((1 : Int) ≤ ((order_here298).length : Int)) && decide (((order_here298).length : Int) ≤ (40 : Int)))) = true then
 (some false)
 else
 (chk (RgB ((order_here298).length : Int)) (chk (((List.map (fun (x320 : Int) => x320) (List.filter (fun (x320 : Int) => (!decide (x320 ∈ order_here298))) (rng 0 ((order_here298).length : Int))))).length ≤ sizeLine) (some (decide ((List.map (fun (x320 : Int) => x320) (List.filter (fun (x320 : Int) => (!decide (x320 ∈ order_here298))) (rng 0 ((order_here298).length : Int)))) = ([] : List Int)))))))
noncomputable abbrev a_l_is_order : (List Int) × Unit → Option Bool := fun a => m_l_is_order a.1
theorem ok_l_is_order {P : Program} {w : World} {K : PySem.W.Frag} {mg : Str → Option Value} {base : Heap} {f : Addr} {fd : FuncData} (F : FunP K "_law_is_order" s_l_is_order f fd) (hmg : mg "_law_is_order" = some (.ref f)) (z_len : mg "len" = none) (z_range : mg "range" = none) : Cal P w K mg base CX0 1 "_law_is_order" (sp K a_l_is_order) := by
  refine mk_cal (k := 0) F hmg (F.bindsN fun _ _ _ _ _ _ us hl => match us, hl with | [_], _ => rfl) sc_l_is_order len1 ?_
  rintro cdv A' outer sh0 H0 X0 hr s0 vs ⟨order_here298, _⟩ r0 Q ⟨v299, _, rfl, r300, rfl⟩ hm hQ
  have E301 := Ex.refl s0
  unfold a_l_is_order m_l_is_order at hm
  dsimp only at hm
  refine do_ifR (EvB.t (eb_not (eb_chain op_le rfl op_le rfl ev_int (ev_len z_len (Ev.r (ev_var 0 rfl r300))) ev_int))) (fun hb303 s304 e305 => ?_) (fun hb313 s314 e315 => ?_)
  · have hm306 := iteE1 hm hb303
    have E307 := E301.trans e305
    have r308 := Enc.mono e305.f r300
    obtain rfl := Option.some.inj hm306
    exact do_ret ev_bl fun v309 s310 e311 r312 => hQ _ _ (E307.trans e311) r312
  · have hm316 := iteE2 hm hb313
    have E317 := E301.trans e315
    have r318 := Enc.mono e315.f r300
    obtain ⟨hc319, hm316⟩ := chkE hm316
    obtain ⟨hc329, hm316⟩ := chkE hm316
    obtain rfl := Option.some.inj hm316
    exact do_ret (EvB.v (eb_eqL hr (EvN.r (EvL.n (en_comp1 (own := [("_law_place", 1)]) (j := 1) (t := fun (x320 : Int) => some (!decide (x320 ∈ order_here298))) (f := fun (x320 : Int) => some x320) rfl sc_l_is_order.nd (ei_range1 z_range (ev_len z_len (Ev.r (ev_var 0 rfl r318))) hc319) (blkOk_by (own := [("_law_place", 1)]) (N := N_l_is_order) (sc := defScope s_l_is_order) (by decide +kernel)) rfl (by decide) (fun _ _ _ _ _ => pg_name (i := 1) sc_l_is_order.nd rfl (by first | exact Or.inl rfl | exact Or.inr rfl)) (compO_pure (fun (x320 : Int) => (!decide (x320 ∈ order_here298))) (fun (x320 : Int) => x320) (rng 0 ((order_here298).length : Int))) hc329 (fun x320 y321 v327 s322 hx324 e323 r328 hf325 _ _ _ _ _ => by have r326 := Enc.mono e323.f r318; obtain rfl := Option.some.inj hf325; exact (EvB.t (eb_notIn (ev_var 1 rfl r328) (Ev.r (ev_var 0 rfl r326))))) (fun x320 y321 v327 s322 hx324 e323 r328 ht330 hf325 _ _ _ _ _ => by obtain rfl := Option.some.inj hf325; exact (ev_var 1 rfl r328))))) (EvN.r (en_list (xs := ([] : List Int)) ee_nil (by simp [sizeLine]))) (shp_of _) (shp_of _))) fun v331 s332 e333 r334 => hQ _ _ (E317.trans e333) r334
abbrev s_asked_order : Stmt := topS 16
abbrev N_asked_order : List Str := ["order"]
theorem sc_asked_order : FnScope N_asked_order ["order"] (defScope s_asked_order) := ⟨rfl, rfl, rfl, by decide +kernel, rfl, by decide +kernel, by decide +kernel⟩
noncomputable def m_asked_order (order335 : (List Int)) : Option (Rz Bool) :=
 (bnd (orO (decide (((order335).length : Int) < (1 : Int))) (orO (decide ((40 : Int) < ((order335).length : Int))) (chk (RgOk 0 ((order335).length : Int)) (some (!decide ((sortI order335) = (rng 0 ((order335).length : Int)))))))) fun c340 => (if c340 = true then
 (some (Rz.er (Er.pl "NoOrder")))
 else
 (some (Rz.ok true))))
noncomputable abbrev a_asked_order : (List Int) × Unit → Option (Rz Bool) := fun a => m_asked_order a.1
theorem ok_asked_order {P : Program} {w : World} {K : PySem.W.Frag} {mg : Str → Option Value} {base : Heap} {f : Addr} {fd : FuncData} (F : FunP K "asked_order" s_asked_order f fd) (hmg : mg "asked_order" = some (.ref f)) (z_len : mg "len" = none) (z_sorted : mg "sorted" = none) (z_list : mg "list" = none) (z_range : mg "range" = none) (T_NoOrder : ExcF K mg "NoOrder") : Cal P w K mg base (L2.CX P w) 1 "asked_order" (spR K a_asked_order) := by
  refine mk_calR (k := 0) F hmg (F.bindsN fun _ _ _ _ _ _ us hl => match us, hl with | [_], _ => rfl) sc_asked_order len1 ?_
  rintro cdv A' outer sh0 H0 X0 hr s0 vs ⟨order335, _⟩ r0 Q ⟨v336, _, rfl, r337, rfl⟩ hm hQ
  have E338 := Ex.refl s0
  unfold a_asked_order m_asked_order at hm
  dsimp only at hm
  obtain ⟨c340, h_c340, hm⟩ := bndE hm
  refine do_ifR (EvW.tt (EvC.w (by skip; exact ec_orO (eb_lt (ev_len z_len (Ev.r (ev_var 0 rfl r337))) ev_int) (fun hb341 => (fun hz => (by skip; exact ec_orO (eb_gt (ev_len z_len (Ev.r (ev_var 0 rfl r337))) ev_int) (fun hb342 => (fun hz => (by obtain ⟨hc339, hz⟩ := chkE hz; obtain rfl := Option.some.inj hz; exact (ec_or1 (eb_neL hr (EvN.r (en_sorted z_sorted (Ev.r (ev_var 0 rfl r337)))) (EvN.r (en_listRg1 z_list z_range (ev_len z_len (Ev.r (ev_var 0 rfl r337))) hc339)) (shp_of _) (shp_of _))))) ((orE hz).1 hb342)) (orE hz).2)) ((orE h_c340).1 hb341)) (orE h_c340).2))) (fun hb344 s345 e346 => ?_) (fun hb350 s351 e352 => ?_)
  · have hm347 := iteE1 hm hb344
    have E348 := E338.trans e346
    have r349 := Enc.mono e346.f r337
    obtain rfl := Option.some.inj hm347
    exact do_raise0 T_NoOrder (takes_of rfl rfl rfl rfl) (hQ _ _ _ E348 ⟨rfl, rfl⟩)
  · have hm353 := iteE2 hm hb350
    have E354 := E338.trans e352
    have r355 := Enc.mono e352.f r337
    obtain rfl := Option.some.inj hm353
    exact do_ret ev_bl fun v356 s357 e358 r359 => hQ _ _ (E354.trans e358) r359
abbrev s_meet_of : Stmt := topS 22
abbrev N_meet_of : List Str := ["order", "one", "other", "place", "first", "second", "many"]
theorem sc_meet_of : FnScope N_meet_of ["order", "one", "other"] (defScope s_meet_of) := ⟨rfl, rfl, rfl, by decide +kernel, rfl, by decide +kernel, by decide +kernel⟩
noncomputable def m_meet_of (order360 : (List Int)) (one363 : Int) (other366 : Int) : Option (Rz (Option Int)) :=
 (tb (m_asked_order order360) (fun er371 => (some (Rz.er er371))) fun asked_order370 => (bnd (foldF (ρ := (Rz (Option Int))) (fun (b381 : Unit) (x383 : Int) =>
 (if ((decide (x383 < (0 : Int))) || (decide (((order360).length : Int) ≤ x383))) = true then
 none
 else
 (some (Fl.nx ())))) () ((⟨[one363, other366]⟩ : Tu Int)).l) fun o379 =>
 (Fl.go o379 (fun b443 => (if (decide (one363 = other366)) = true then
 none
 else
 (lt (one363 : Int) fun first468 =>
 (lt (other366 : Int) fun second478 =>
 (lt ((0 : Int) : Int) fun many489 =>
 (bnd (whileF (ρ := (Rz (Option Int))) (fun (b503 : (Int × Int × Int)) => (some (!decide ((b503.1 / (2 : Int)) = (b503.2.1 / (2 : Int)))))) (fun (b503 : (Int × Int × Int)) =>
 (bnd (atI order360 b503.1) fun at548 => (lt (at548 : Int) fun first549 =>
 (bnd (atI order360 b503.2.1) fun at562 => (lt (at562 : Int) fun second563 =>
 (lt ((b503.2.2 + (1 : Int)) : Int) fun many576 =>
 (if ((decide (first549 = one363)) && (decide (second563 = other366))) = true then
 (some (Fl.rt (Rz.ok none)))
 else
 (some (Fl.nx (first549, second563, many576)))))))))) fuel (first468, second478, many489)) fun o501 =>
 (Fl.go o501 (fun b625 => (some (Rz.ok (some b625.2.2)))) (fun rr => (some rr))))))))) (fun rr => (some rr)))))
noncomputable abbrev a_meet_of : (List Int) × Int × Int × Unit → Option (Rz (Option Int)) := fun a => m_meet_of a.1 a.2.1 a.2.2.1
theorem ok_meet_of {P : Program} {w : World} {K : PySem.W.Frag} {mg : Str → Option Value} {base : Heap} {f : Addr} {fd : FuncData} (F : FunP K "meet_of" s_meet_of f fd) (hmg : mg "meet_of" = some (.ref f)) (C_asked_order : Cal P w K mg base (L2.CX P w) 1 "asked_order" (spR K a_asked_order)) (z_len : mg "len" = none) : Cal P w K mg base (L2.CX P w) 2 "meet_of" (spR K a_meet_of) := by
  refine mk_calR (k := 1) F hmg (F.bindsN fun _ _ _ _ _ _ us hl => match us, hl with | [_, _, _], _ => rfl) sc_meet_of len3 ?_
  rintro cdv A' outer sh0 H0 X0 hr s0 vs ⟨order360, one363, other366, _⟩ r0 Q ⟨v361, _, rfl, r362, v364, _, rfl, r365, v367, _, rfl, r368, rfl⟩ hm hQ
  have E369 := Ex.refl s0
  unfold a_meet_of m_meet_of at hm
  dsimp only at hm
  rcases tbE hm with ⟨er371, he372, hm⟩ | ⟨asked_order370, h_asked_order370, hm⟩
  · obtain rfl := Option.some.inj hm
    refine do_dropX (evX_call C_asked_order (takes_of rfl rfl rfl rfl) hr (by decide) (ea_cons (ev_var 0 rfl r362) ea_nil) he372 (fun _ _ _ k2 r2 => hQ _ _ _ (Ex.trans E369 k2) r2))
  refine do_drop (ev_callR C_asked_order hr (by decide) (ea_cons (ev_var 0 rfl r362) ea_nil) h_asked_order370) (fun s373 e374 => ?_)
  have E375 := E369.trans e374
  have r376 := Enc.mono e374.f r362
  have r377 := Enc.mono e374.f r365
  have r378 := Enc.mono e374.f r368
  obtain ⟨o379, ho380, hm⟩ := bndE hm
  refine do_forF (ρ := (Rz (Option Int))) (υ := Unit) (passes_of rfl) rfl (ei_tup (ev_tu (xs := ([one363, other366] : List Int)) (ee_cons (ev_var 1 rfl r377) (ee_cons (ev_var 2 rfl r378) ee_nil)) (by simp [sizeLine]))) (pg_name (i := 3) sc_meet_of.nd rfl (by first | exact Or.inl rfl | exact Or.inr rfl)) tg_n ho380 (fun (b381 : Unit) (σ' : L2.St) (t' : S) => Ex s0 t' ∧ ∃ (y_place : Option V), σ' = [some v361, some v364, some v367, y_place, none, none, none]) (fun s437 k438 => by have E439 := E375.trans k438; have r440 := Enc.mono k438.f r376; have r441 := Enc.mono k438.f r377; have r442 := Enc.mono k438.f r378; exact ⟨E439, _, rfl⟩) (fun s384 k385 x383 b381 q408 σ394 σ395 t392 t393 hx386 hm387 hq409 fl388 hR389 k390 hB391 => ?_) (fun s431 k432 b443 σ433 t434 ho444 fl435 hR436 => ?_)
  · have hf396 := Fle.trans k385.f fl388
    obtain ⟨E397, y398, rfl⟩ := hR389
    have r399 := Enc.mono hf396 r376
    have r400 := Enc.mono hf396 r377
    have r401 := Enc.mono hf396 r378
    obtain ⟨v402, r403, rfl⟩ := hB391
    have E404 := E397.trans k390
    have r405 := Enc.mono k390.f r399
    have r406 := Enc.mono k390.f r400
    have r407 := Enc.mono k390.f r401
    refine do_ifR (EvW.tt (EvC.w (ec_or (eb_lt (ev_var 3 rfl r403) ev_int) fun _ => (ec_or1 (eb_ge (ev_var 3 rfl r403) (ev_len z_len (Ev.r (ev_var 0 rfl r405)))))))) (fun hb411 s412 e413 => ?_) (fun hb421 s422 e423 => ?_)
    · have hm414 := iteE1 hm387 hb411
      have E415 := E404.trans e413
      have fl416 := Fle.trans (Fle.refl t393.F) e413.f
      have r417 := Enc.mono e413.f r405
      have r418 := Enc.mono e413.f r406
      have r419 := Enc.mono e413.f r407
      have r420 := Enc.mono e413.f r403
      exact absurd hm414 (by intro z; cases z)
    · have hm424 := iteE2 hm387 hb421
      have E425 := E404.trans e423
      have fl426 := Fle.trans (Fle.refl t393.F) e423.f
      have r427 := Enc.mono e423.f r405
      have r428 := Enc.mono e423.f r406
      have r429 := Enc.mono e423.f r407
      have r430 := Enc.mono e423.f r403
      obtain rfl := Option.some.inj hm424
      exact do_nil ⟨s422, rfl, _, rfl, fl426, ⟨E425, _, rfl⟩⟩
  · subst ho444
    replace hm := goN hm
    have hf445 := Fle.trans k432.f fl435
    obtain ⟨E446, y447, rfl⟩ := hR436
    have r448 := Enc.mono hf445 r376
    have r449 := Enc.mono hf445 r377
    have r450 := Enc.mono hf445 r378
    refine do_ifR (EvB.t (eb_eq (ev_var 1 rfl r449) (ev_var 2 rfl r450))) (fun hb452 s453 e454 => ?_) (fun hb460 s461 e462 => ?_)
    · have hm455 := iteE1 hm hb452
      have E456 := E446.trans e454
      have r457 := Enc.mono e454.f r448
      have r458 := Enc.mono e454.f r449
      have r459 := Enc.mono e454.f r450
      exact absurd hm455 (by intro z; cases z)
    · have hm463 := iteE2 hm hb460
      have E464 := E446.trans e462
      have r465 := Enc.mono e462.f r448
      have r466 := Enc.mono e462.f r449
      have r467 := Enc.mono e462.f r450
      refine do_set 4 (ev_var 1 rfl r466) (fun v472 s470 e471 r473 => ?_) sc_meet_of.nd
      have E474 := E464.trans e471
      have r475 := Enc.mono e471.f r465
      have r476 := Enc.mono e471.f r466
      have r477 := Enc.mono e471.f r467
      obtain ⟨first468, q469, hm463⟩ := ltE hm463
      rw [← q469] at r473
      refine do_set 5 (ev_var 2 rfl r477) (fun v482 s480 e481 r483 => ?_) sc_meet_of.nd
      have E484 := E474.trans e481
      have r485 := Enc.mono e481.f r475
      have r486 := Enc.mono e481.f r476
      have r487 := Enc.mono e481.f r477
      have r488 := Enc.mono e481.f r473
      obtain ⟨second478, q479, hm463⟩ := ltE hm463
      rw [← q479] at r483
      refine do_set 6 ev_int (fun v493 s491 e492 r494 => ?_) sc_meet_of.nd
      have E495 := E484.trans e492
      have r496 := Enc.mono e492.f r485
      have r497 := Enc.mono e492.f r486
      have r498 := Enc.mono e492.f r487
      have r499 := Enc.mono e492.f r488
      have r500 := Enc.mono e492.f r483
      obtain ⟨many489, q490, hm463⟩ := ltE hm463
      rw [← q490] at r494
      obtain ⟨o501, ho502, hm463⟩ := bndE hm463
      refine do_whileF (ρ := (Rz (Option Int))) (υ := (Int × Int × Int)) (passes_of rfl) ho502 (fun (b503 : (Int × Int × Int)) (σ' : L2.St) (t' : S) => Ex s0 t' ∧ ∃ (v_first : V) (v_second : V) (v_many : V), σ' = [some v361, some v364, some v367, y447, some v_first, some v_second, some v_many] ∧ rep K t'.F v_first (b503.1 : Int) ∧ rep K t'.F v_second (b503.2.1 : Int) ∧ rep K t'.F v_many (b503.2.2 : Int)) ⟨E495, v472, v482, v493, rfl, r499, r500, r494⟩ (fun b503 x509 σ506 t505 hm510 fl507 hR508 => ?_) (fun b503 q546 σ523 t521 t522 hc527 hm528 hq547 fl524 hR525 k526 => ?_) (fun b625 σ618 t619 t620 ho626 hc621 fl622 hR623 k624 => ?_)
      · obtain ⟨E511, v512, v513, v514, rfl, r515, r516, r517⟩ := hR508
        have r518 := Enc.mono fl507 r496
        have r519 := Enc.mono fl507 r497
        have r520 := Enc.mono fl507 r498
        obtain rfl := Option.some.inj hm510
        exact (EvB.t (eb_ne (ev_div (ev_var 4 rfl r515) ev_int ⟨by decide, by decide +kernel⟩) (ev_div (ev_var 5 rfl r516) ev_int ⟨by decide, by decide +kernel⟩)))
      · obtain ⟨E529, v530, v531, v532, rfl, r533, r534, r535⟩ := hR525
        have r536 := Enc.mono fl524 r496
        have r537 := Enc.mono fl524 r497
        have r538 := Enc.mono fl524 r498
        have E539 := E529.trans k526
        have r540 := Enc.mono k526.f r533
        have r541 := Enc.mono k526.f r534
        have r542 := Enc.mono k526.f r535
        have r543 := Enc.mono k526.f r536
        have r544 := Enc.mono k526.f r537
        have r545 := Enc.mono k526.f r538
        obtain ⟨at548, h_at548, hm528⟩ := bndE hm528
        refine do_set 4 (ev_ix (Ev.r (ev_var 0 rfl r543)) (ev_var 4 rfl r540) h_at548) (fun v553 s551 e552 r554 => ?_) sc_meet_of.nd
        have E555 := E539.trans e552
        have fl556 := Fle.trans (Fle.refl t522.F) e552.f
        have r557 := Enc.mono e552.f r541
        have r558 := Enc.mono e552.f r542
        have r559 := Enc.mono e552.f r543
        have r560 := Enc.mono e552.f r544
        have r561 := Enc.mono e552.f r545
        obtain ⟨first549, q550, hm528⟩ := ltE hm528
        rw [← q550] at r554
        obtain ⟨at562, h_at562, hm528⟩ := bndE hm528
        refine do_set 5 (ev_ix (Ev.r (ev_var 0 rfl r559)) (ev_var 5 rfl r557) h_at562) (fun v567 s565 e566 r568 => ?_) sc_meet_of.nd
        have E569 := E555.trans e566
        have fl570 := Fle.trans fl556 e566.f
        have r571 := Enc.mono e566.f r558
        have r572 := Enc.mono e566.f r559
        have r573 := Enc.mono e566.f r560
        have r574 := Enc.mono e566.f r561
        have r575 := Enc.mono e566.f r554
        obtain ⟨second563, q564, hm528⟩ := ltE hm528
        rw [← q564] at r568
        refine do_set 6 (ev_add (ev_var 6 rfl r571) ev_int) (fun v580 s578 e579 r581 => ?_) sc_meet_of.nd
        have E582 := E569.trans e579
        have fl583 := Fle.trans fl570 e579.f
        have r584 := Enc.mono e579.f r572
        have r585 := Enc.mono e579.f r573
        have r586 := Enc.mono e579.f r574
        have r587 := Enc.mono e579.f r575
        have r588 := Enc.mono e579.f r568
        obtain ⟨many576, q577, hm528⟩ := ltE hm528
        rw [← q577] at r581
        refine do_ifR (EvW.tt (EvC.w (ec_and (eb_eq (ev_var 4 rfl r587) (ev_var 1 rfl r585)) fun _ => (ec_and1 (eb_eq (ev_var 5 rfl r588) (ev_var 2 rfl r586)))))) (fun hb590 s591 e592 => ?_) (fun hb606 s607 e608 => ?_)
        · have hm593 := iteE1 hm528 hb590
          have E594 := E582.trans e592
          have fl595 := Fle.trans fl583 e592.f
          have r596 := Enc.mono e592.f r584
          have r597 := Enc.mono e592.f r585
          have r598 := Enc.mono e592.f r586
          have r599 := Enc.mono e592.f r587
          have r600 := Enc.mono e592.f r588
          have r601 := Enc.mono e592.f r581
          obtain rfl := Option.some.inj hm593
          obtain rfl := hq547 _ rfl
          obtain rfl := Option.some.inj hm463
          exact do_ret (ev_nonO (α := Int)) fun v602 s603 e604 r605 => hQ _ _ (E594.trans e604) r605
        · have hm609 := iteE2 hm528 hb606
          have E610 := E582.trans e608
          have fl611 := Fle.trans fl583 e608.f
          have r612 := Enc.mono e608.f r584
          have r613 := Enc.mono e608.f r585
          have r614 := Enc.mono e608.f r586
          have r615 := Enc.mono e608.f r587
          have r616 := Enc.mono e608.f r588
          have r617 := Enc.mono e608.f r581
          obtain rfl := Option.some.inj hm609
          exact do_nil ⟨s607, rfl, _, rfl, fl611, ⟨E610, v553, v567, v580, rfl, r615, r616, r617⟩⟩
      · subst ho626
        replace hm463 := goN hm463
        obtain ⟨E627, v628, v629, v630, rfl, r631, r632, r633⟩ := hR623
        have r634 := Enc.mono fl622 r496
        have r635 := Enc.mono fl622 r497
        have r636 := Enc.mono fl622 r498
        have E637 := E627.trans k624
        have r638 := Enc.mono k624.f r631
        have r639 := Enc.mono k624.f r632
        have r640 := Enc.mono k624.f r633
        have r641 := Enc.mono k624.f r634
        have r642 := Enc.mono k624.f r635
        have r643 := Enc.mono k624.f r636
        obtain rfl := Option.some.inj hm463
        exact do_ret (ev_some (ev_var 6 rfl r640)) fun v644 s645 e646 r647 => hQ _ _ (E637.trans e646) r647
abbrev s_turns_from : Stmt := topS 17
abbrev N_turns_from : List Str := ["order", "place", "found", "here"]
theorem sc_turns_from : FnScope N_turns_from ["order", "place"] (defScope s_turns_from) := ⟨rfl, rfl, rfl, by decide +kernel, rfl, by decide +kernel, by decide +kernel⟩
noncomputable def m_turns_from (order648 : (List Int)) (place651 : Int) : Option (List Int) :=
 (lt (([place651] : List Int) : (List Int)) fun found655 =>
 (bnd (atI order648 place651) fun at666 => (lt (at666 : Int) fun here667 =>
 (bnd (whileO (fun (b679 : ((List Int) × Int)) => (some (!decide (b679.2 = place651)))) (fun (b679 : ((List Int) × Int)) =>
 (chk ((b679.1).length < sizeLine) (lt ((b679.1 ++ [b679.2]) : (List Int)) fun found715 =>
 (bnd (atI order648 b679.2) fun at723 => (lt (at723 : Int) fun here724 =>
 (some (found715, here724))))))) fuel (found655, here667)) fun o677 =>
 (some o677.1)))))
noncomputable abbrev a_turns_from : (List Int) × Int × Unit → Option (List Int) := fun a => m_turns_from a.1 a.2.1
theorem ok_turns_from {P : Program} {w : World} {K : PySem.W.Frag} {mg : Str → Option Value} {base : Heap} {f : Addr} {fd : FuncData} (F : FunP K "turns_from" s_turns_from f fd) (hmg : mg "turns_from" = some (.ref f))  : Cal P w K mg base CX0 1 "turns_from" (spN K a_turns_from) := by
  refine mk_calN (k := 0) F hmg (F.bindsN fun _ _ _ _ _ _ us hl => match us, hl with | [_, _], _ => rfl) sc_turns_from len2 ?_
  rintro cdv A' outer sh0 H0 X0 hr s0 vs ⟨order648, place651, _⟩ r0 Q ⟨v649, _, rfl, r650, v652, _, rfl, r653, rfl⟩ hm hQ
  have E654 := Ex.refl s0
  unfold a_turns_from m_turns_from at hm
  dsimp only at hm
  refine do_setN 2 (en_list (xs := ([place651] : List Int)) (ee_cons (ev_var 1 rfl r653) ee_nil) (by simp [sizeLine])) (fun p659 s657 e658 n660 o661 => ?_) sc_turns_from.nd
  have n662 := fr_back E654 n660
  have E663 := E654.trans e658
  have r664 := Enc.mono e658.f r650
  have r665 := Enc.mono e658.f r653
  obtain ⟨found655, q656, hm⟩ := ltE hm
  rw [← q656] at o661
  obtain ⟨at666, h_at666, hm⟩ := bndE hm
  refine do_set 3 (ev_ix (Ev.r (ev_var 0 rfl r664)) (ev_var 1 rfl r665) h_at666) (fun v671 s669 e670 r672 => ?_) sc_turns_from.nd
  have E673 := E663.trans e670
  have r674 := Enc.mono e670.f r664
  have r675 := Enc.mono e670.f r665
  have o676 := Own.ex o661 e670
  obtain ⟨here667, q668, hm⟩ := ltE hm
  rw [← q668] at r672
  obtain ⟨o677, ho678, hm⟩ := bndE hm
  refine do_whileO (υ := ((List Int) × Int)) PassesOwn.never ho678 (fun (b679 : ((List Int) × Int)) (σ' : L2.St) (t' : S) => Ex s0 t' ∧ ∃ (v_here : V), σ' = [some v649, some v652, some (.ref p659), some v_here] ∧ Own K t' p659 (b679.1 : (List Int)) ∧ rep K t'.F v_here (b679.2 : Int)) ⟨E673, v671, rfl, o676, r672⟩ (fun b679 x685 σ682 t681 hm686 fl683 hR684 => ?_) (fun b679 b680 σ695 t693 t694 hc699 hm700 fl696 hR697 k698 => ?_) (fun σ735 t736 t737 hc738 fl739 hR740 k741 => ?_)
  · obtain ⟨E687, v688, rfl, o689, r690⟩ := hR684
    have r691 := Enc.mono fl683 r674
    have r692 := Enc.mono fl683 r675
    obtain rfl := Option.some.inj hm686
    exact (EvB.t (eb_ne (ev_var 3 rfl r690) (ev_var 1 rfl r692)))
  · obtain ⟨E701, v702, rfl, o703, r704⟩ := hR697
    have r705 := Enc.mono fl696 r674
    have r706 := Enc.mono fl696 r675
    have E707 := E701.trans k698
    have o708 := Own.ex o703 k698
    have r709 := Enc.mono k698.f r704
    have r710 := Enc.mono k698.f r705
    have r711 := Enc.mono k698.f r706
    obtain ⟨hc717, hm700⟩ := chkE hm700
    refine do_append 2 rfl o708 (ev_var 3 rfl r709) hc717 (fun s712 m713 o714 => ?_)
    have E718 := Ex.mu1 E707 m713 n662
    have fl719 := Fle.trans (Fle.refl t694.F) m713.f
    have r720 := Enc.mono m713.f r709
    have r721 := Enc.mono m713.f r710
    have r722 := Enc.mono m713.f r711
    obtain ⟨found715, q716, hm700⟩ := ltE hm700
    rw [← q716] at o714
    obtain ⟨at723, h_at723, hm700⟩ := bndE hm700
    refine do_set 3 (ev_ix (Ev.r (ev_var 0 rfl r721)) (ev_var 3 rfl r720) h_at723) (fun v728 s726 e727 r729 => ?_) sc_turns_from.nd
    have E730 := E718.trans e727
    have fl731 := Fle.trans fl719 e727.f
    have r732 := Enc.mono e727.f r721
    have r733 := Enc.mono e727.f r722
    have o734 := Own.ex o714 e727
    obtain ⟨here724, q725, hm700⟩ := ltE hm700
    rw [← q725] at r729
    obtain rfl := Option.some.inj hm700
    exact do_nil ⟨s726, rfl, fl731, ⟨E730, v728, rfl, o734, r729⟩⟩
  · obtain ⟨E742, v743, rfl, o744, r745⟩ := hR740
    have r746 := Enc.mono fl739 r674
    have r747 := Enc.mono fl739 r675
    have E748 := E742.trans k741
    have o749 := Own.ex o744 k741
    have r750 := Enc.mono k741.f r745
    have r751 := Enc.mono k741.f r746
    have r752 := Enc.mono k741.f r747
    obtain rfl := Option.some.inj hm
    exact do_retO 2 rfl (hQ _ _ E748 n662 o749)
abbrev s_after_services : Stmt := topS 18
abbrev N_after_services : List Str := ["order", "many", "found", "place", "turns"]
theorem sc_after_services : FnScope N_after_services ["order", "many"] (defScope s_after_services) := ⟨rfl, rfl, rfl, by decide +kernel, rfl, by decide +kernel, by decide +kernel⟩
noncomputable def m_after_services (order753 : (List Int)) (many756 : Int) : Option (Rz (List Int)) :=
 (tb (m_asked_order order753) (fun er761 => (some (Rz.er er761))) fun asked_order760 => (lt (([] : List Int) : (List Int)) fun found768 =>
 (chk (RgB ((order753).length : Int)) (bnd (foldO (fun (b782 : (List Int)) (x784 : Int) =>
 (bnd (m_turns_from order753 x784) fun turns_from810 => (lt (turns_from810 : (List Int)) fun turns811 =>
 (chk (0 < ((turns811).length : Int)) (bnd (atI turns811 (many756 % ((turns811).length : Int))) fun at829 => (chk ((b782).length < sizeLine) (lt ((b782 ++ [at829]) : (List Int)) fun found826 =>
 (some found826)))))))) found768 (rng 0 ((order753).length : Int))) fun o780 =>
 (some (Rz.ok o780))))))
noncomputable abbrev a_after_services : (List Int) × Int × Unit → Option (Rz (List Int)) := fun a => m_after_services a.1 a.2.1
theorem ok_after_services {P : Program} {w : World} {K : PySem.W.Frag} {mg : Str → Option Value} {base : Heap} {f : Addr} {fd : FuncData} (F : FunP K "after_services" s_after_services f fd) (hmg : mg "after_services" = some (.ref f)) (C_asked_order : Cal P w K mg base (L2.CX P w) 1 "asked_order" (spR K a_asked_order)) (C_turns_from : Cal P w K mg base CX0 1 "turns_from" (spN K a_turns_from)) (z_range : mg "range" = none) (z_len : mg "len" = none) : Cal P w K mg base (L2.CX P w) 2 "after_services" (spR K a_after_services) := by
  refine mk_calR (k := 1) F hmg (F.bindsN fun _ _ _ _ _ _ us hl => match us, hl with | [_, _], _ => rfl) sc_after_services len2 ?_
  rintro cdv A' outer sh0 H0 X0 hr s0 vs ⟨order753, many756, _⟩ r0 Q ⟨v754, _, rfl, r755, v757, _, rfl, r758, rfl⟩ hm hQ
  have E759 := Ex.refl s0
  unfold a_after_services m_after_services at hm
  dsimp only at hm
  rcases tbE hm with ⟨er761, he762, hm⟩ | ⟨asked_order760, h_asked_order760, hm⟩
  · obtain rfl := Option.some.inj hm
    refine do_dropX (evX_call C_asked_order (takes_of rfl rfl rfl rfl) hr (by decide) (ea_cons (ev_var 0 rfl r755) ea_nil) he762 (fun _ _ _ k2 r2 => hQ _ _ _ (Ex.trans E759 k2) r2))
  refine do_drop (ev_callR C_asked_order hr (by decide) (ea_cons (ev_var 0 rfl r755) ea_nil) h_asked_order760) (fun s763 e764 => ?_)
  have E765 := E759.trans e764
  have r766 := Enc.mono e764.f r755
  have r767 := Enc.mono e764.f r758
  refine do_setN 2 (en_list (xs := ([] : List Int)) ee_nil (by simp [sizeLine])) (fun p772 s770 e771 n773 o774 => ?_) sc_after_services.nd
  have n775 := fr_back E765 n773
  have E776 := E765.trans e771
  have r777 := Enc.mono e771.f r766
  have r778 := Enc.mono e771.f r767
  obtain ⟨found768, q769, hm⟩ := ltE hm
  rw [← q769] at o774
  obtain ⟨hc779, hm⟩ := chkE hm
  obtain ⟨o780, ho781, hm⟩ := bndE hm
  refine do_forO (υ := (List Int)) (passes_of rfl) rfl (ei_range1 z_range (ev_len z_len (Ev.r (ev_var 0 rfl r777))) hc779) (pg_name (i := 3) sc_after_services.nd rfl (by first | exact Or.inl rfl | exact Or.inr rfl)) tg_n ho781 (fun (b782 : (List Int)) (σ' : L2.St) (t' : S) => Ex s0 t' ∧ ∃ (y_turns : Option V) (y_place : Option V), σ' = [some v754, some v757, some (.ref p772), y_place, y_turns] ∧ Own K t' p772 (b782 : (List Int))) (fun s843 k844 => by have E845 := E776.trans k844; have r846 := Enc.mono k844.f r777; have r847 := Enc.mono k844.f r778; have o848 := Own.ex o774 k844; exact ⟨E845, _, _, rfl, o848⟩) (fun s785 k786 x784 b782 b783 σ795 σ796 t793 t794 hx787 hm788 fl789 hR790 k791 hB792 => ?_) (fun s837 k838 σ839 t840 fl841 hR842 => ?_)
  · have hf797 := Fle.trans k786.f fl789
    obtain ⟨E798, y799, y800, rfl, o801⟩ := hR790
    have r802 := Enc.mono hf797 r777
    have r803 := Enc.mono hf797 r778
    obtain ⟨v804, r805, rfl⟩ := hB792
    have E806 := E798.trans k791
    have o807 := Own.ex o801 k791
    have r808 := Enc.mono k791.f r802
    have r809 := Enc.mono k791.f r803
    obtain ⟨turns_from810, h_turns_from810, hm788⟩ := bndE hm788
    refine do_set 4 (EvN.ev (en_call C_turns_from hr (by decide) (ea_cons (ev_var 0 rfl r808) (ea_cons (ev_var 3 rfl r805) ea_nil)) h_turns_from810)) (fun v815 s813 e814 r816 => ?_) sc_after_services.nd
    have E817 := E806.trans e814
    have fl818 := Fle.trans (Fle.refl t794.F) e814.f
    have o819 := Own.ex o807 e814
    have r820 := Enc.mono e814.f r808
    have r821 := Enc.mono e814.f r809
    have r822 := Enc.mono e814.f r805
    obtain ⟨turns811, q812, hm788⟩ := ltE hm788
    rw [← q812] at r816
    obtain ⟨hc828, hm788⟩ := chkE hm788
    obtain ⟨at829, h_at829, hm788⟩ := bndE hm788
    obtain ⟨hc830, hm788⟩ := chkE hm788
    refine do_append 2 rfl o819 (ev_ix (Ev.r (ev_var 4 rfl r816)) (ev_mod (ev_var 1 rfl r821) (ev_len z_len (Ev.r (ev_var 4 rfl r816))) hc828) h_at829) hc830 (fun s823 m824 o825 => ?_)
    have E831 := Ex.mu1 E817 m824 n775
    have fl832 := Fle.trans fl818 m824.f
    have r833 := Enc.mono m824.f r820
    have r834 := Enc.mono m824.f r821
    have r835 := Enc.mono m824.f r822
    have r836 := Enc.mono m824.f r816
    obtain ⟨found826, q827, hm788⟩ := ltE hm788
    rw [← q827] at o825
    obtain rfl := Option.some.inj hm788
    exact do_nil ⟨s823, rfl, fl832, ⟨E831, _, _, rfl, o825⟩⟩
  · have hf849 := Fle.trans k838.f fl841
    obtain ⟨E850, y851, y852, rfl, o853⟩ := hR842
    have r854 := Enc.mono hf849 r777
    have r855 := Enc.mono hf849 r778
    refine do_frz2 o853 fun s856 hs857 hf858 hg859 r860 hx861 => ?_
    have E862 := frzE E850 n775 hs857 hf858 hg859
    have r863 := Enc.mono hf858 r854
    have r864 := Enc.mono hf858 r855
    obtain rfl := Option.some.inj hm
    exact do_ret (ev_var 2 rfl r860) fun v865 s866 e867 r868 => hQ _ _ (E862.trans e867) r868
abbrev s_common_by : Stmt := topS 19
abbrev N_common_by : List Str := ["one", "other", "rest"]
theorem sc_common_by : FnScope N_common_by ["one", "other"] (defScope s_common_by) := ⟨rfl, rfl, rfl, by decide +kernel, rfl, by decide +kernel, by decide +kernel⟩
noncomputable def m_common_by (one869 : Int) (other872 : Int) : Option Int :=
 (bnd (whileO (fun (b878 : (Int × Int)) => (some (decide ((0 : Int) < b878.2)))) (fun (b878 : (Int × Int)) =>
 (chk (0 < b878.2) (lt ((b878.1 % b878.2) : Int) fun rest910 =>
 (lt (b878.2 : Int) fun one920 =>
 (lt (rest910 : Int) fun other930 =>
 (some (one920, other930))))))) fuel (one869, other872)) fun o876 =>
 (some o876.1))
noncomputable abbrev a_common_by : Int × Int × Unit → Option Int := fun a => m_common_by a.1 a.2.1
theorem ok_common_by {P : Program} {w : World} {K : PySem.W.Frag} {mg : Str → Option Value} {base : Heap} {f : Addr} {fd : FuncData} (F : FunP K "common_by" s_common_by f fd) (hmg : mg "common_by" = some (.ref f))  : Cal P w K mg base CX0 1 "common_by" (sp K a_common_by) := by
  refine mk_cal (k := 0) F hmg (F.bindsN fun _ _ _ _ _ _ us hl => match us, hl with | [_, _], _ => rfl) sc_common_by len2 ?_
  rintro cdv A' outer sh0 H0 X0 hr s0 vs ⟨one869, other872, _⟩ r0 Q ⟨v870, _, rfl, r871, v873, _, rfl, r874, rfl⟩ hm hQ
  have E875 := Ex.refl s0
  unfold a_common_by m_common_by at hm
  dsimp only at hm
  obtain ⟨o876, ho877, hm⟩ := bndE hm
  refine do_whileO (υ := (Int × Int)) PassesOwn.never ho877 (fun (b878 : (Int × Int)) (σ' : L2.St) (t' : S) => Ex s0 t' ∧ ∃ (v_one : V) (v_other : V) (y_rest : Option V), σ' = [some v_one, some v_other, y_rest] ∧ rep K t'.F v_one (b878.1 : Int) ∧ rep K t'.F v_other (b878.2 : Int)) ⟨E875, v870, v873, _, rfl, r871, r874⟩ (fun b878 x884 σ881 t880 hm885 fl882 hR883 => ?_) (fun b878 b879 σ894 t892 t893 hc898 hm899 fl895 hR896 k897 => ?_) (fun σ940 t941 t942 hc943 fl944 hR945 k946 => ?_)
  · obtain ⟨E886, v887, v888, y889, rfl, r890, r891⟩ := hR883
    obtain rfl := Option.some.inj hm885
    exact (EvB.t (eb_gt (ev_var 1 rfl r891) ev_int))
  · obtain ⟨E900, v901, v902, y903, rfl, r904, r905⟩ := hR896
    have E906 := E900.trans k897
    have r907 := Enc.mono k897.f r904
    have r908 := Enc.mono k897.f r905
    obtain ⟨hc909, hm899⟩ := chkE hm899
    refine do_set 2 (ev_mod (ev_var 0 rfl r907) (ev_var 1 rfl r908) hc909) (fun v914 s912 e913 r915 => ?_) sc_common_by.nd
    have E916 := E906.trans e913
    have fl917 := Fle.trans (Fle.refl t893.F) e913.f
    have r918 := Enc.mono e913.f r907
    have r919 := Enc.mono e913.f r908
    obtain ⟨rest910, q911, hm899⟩ := ltE hm899
    rw [← q911] at r915
    refine do_set 0 (ev_var 1 rfl r919) (fun v924 s922 e923 r925 => ?_) sc_common_by.nd
    have E926 := E916.trans e923
    have fl927 := Fle.trans fl917 e923.f
    have r928 := Enc.mono e923.f r919
    have r929 := Enc.mono e923.f r915
    obtain ⟨one920, q921, hm899⟩ := ltE hm899
    rw [← q921] at r925
    refine do_set 1 (ev_var 2 rfl r929) (fun v934 s932 e933 r935 => ?_) sc_common_by.nd
    have E936 := E926.trans e933
    have fl937 := Fle.trans fl927 e933.f
    have r938 := Enc.mono e933.f r929
    have r939 := Enc.mono e933.f r925
    obtain ⟨other930, q931, hm899⟩ := ltE hm899
    rw [← q931] at r935
    obtain rfl := Option.some.inj hm899
    exact do_nil ⟨s932, rfl, fl937, ⟨E936, v924, v934, _, rfl, r939, r935⟩⟩
  · obtain ⟨E947, v948, v949, y950, rfl, r951, r952⟩ := hR945
    have E953 := E947.trans k946
    have r954 := Enc.mono k946.f r951
    have r955 := Enc.mono k946.f r952
    obtain rfl := Option.some.inj hm
    exact do_ret (ev_var 0 rfl r954) fun v956 s957 e958 r959 => hQ _ _ (E953.trans e958) r959
abbrev s_round_of : Stmt := topS 20
abbrev N_round_of : List Str := ["order", "whole", "place", "many"]
theorem sc_round_of : FnScope N_round_of ["order"] (defScope s_round_of) := ⟨rfl, rfl, rfl, by decide +kernel, rfl, by decide +kernel, by decide +kernel⟩
noncomputable def m_round_of (order960 : (List Int)) : Option (Rz Int) :=
 (tb (m_asked_order order960) (fun er965 => (some (Rz.er er965))) fun asked_order964 => (lt ((1 : Int) : Int) fun whole971 =>
 (chk (RgB ((order960).length : Int)) (bnd (foldO (fun (b982 : Int) (x984 : Int) =>
 (bnd (m_turns_from order960 x984) fun turns_from1009 => (lt (((turns_from1009).length : Int) : Int) fun many1010 =>
 (chk (MulOk b982 many1010) (bnd (m_common_by b982 many1010) fun common_by1022 => (chk (DivOk common_by1022) (lt (((b982 * many1010) / common_by1022) : Int) fun whole1024 =>
 (some whole1024)))))))) whole971 (rng 0 ((order960).length : Int))) fun o980 =>
 (some (Rz.ok o980))))))
noncomputable abbrev a_round_of : (List Int) × Unit → Option (Rz Int) := fun a => m_round_of a.1
theorem ok_round_of {P : Program} {w : World} {K : PySem.W.Frag} {mg : Str → Option Value} {base : Heap} {f : Addr} {fd : FuncData} (F : FunP K "round_of" s_round_of f fd) (hmg : mg "round_of" = some (.ref f)) (C_asked_order : Cal P w K mg base (L2.CX P w) 1 "asked_order" (spR K a_asked_order)) (C_turns_from : Cal P w K mg base CX0 1 "turns_from" (spN K a_turns_from)) (C_common_by : Cal P w K mg base CX0 1 "common_by" (sp K a_common_by)) (z_range : mg "range" = none) (z_len : mg "len" = none) : Cal P w K mg base (L2.CX P w) 2 "round_of" (spR K a_round_of) := by
  refine mk_calR (k := 1) F hmg (F.bindsN fun _ _ _ _ _ _ us hl => match us, hl with | [_], _ => rfl) sc_round_of len1 ?_
  rintro cdv A' outer sh0 H0 X0 hr s0 vs ⟨order960, _⟩ r0 Q ⟨v961, _, rfl, r962, rfl⟩ hm hQ
  have E963 := Ex.refl s0
  unfold a_round_of m_round_of at hm
  dsimp only at hm
  rcases tbE hm with ⟨er965, he966, hm⟩ | ⟨asked_order964, h_asked_order964, hm⟩
  · obtain rfl := Option.some.inj hm
    refine do_dropX (evX_call C_asked_order (takes_of rfl rfl rfl rfl) hr (by decide) (ea_cons (ev_var 0 rfl r962) ea_nil) he966 (fun _ _ _ k2 r2 => hQ _ _ _ (Ex.trans E963 k2) r2))
  refine do_drop (ev_callR C_asked_order hr (by decide) (ea_cons (ev_var 0 rfl r962) ea_nil) h_asked_order964) (fun s967 e968 => ?_)
  have E969 := E963.trans e968
  have r970 := Enc.mono e968.f r962
  refine do_set 1 ev_int (fun v975 s973 e974 r976 => ?_) sc_round_of.nd
  have E977 := E969.trans e974
  have r978 := Enc.mono e974.f r970
  obtain ⟨whole971, q972, hm⟩ := ltE hm
  rw [← q972] at r976
  obtain ⟨hc979, hm⟩ := chkE hm
  obtain ⟨o980, ho981, hm⟩ := bndE hm
  refine do_forO (υ := Int) (passes_of rfl) rfl (ei_range1 z_range (ev_len z_len (Ev.r (ev_var 0 rfl r978))) hc979) (pg_name (i := 2) sc_round_of.nd rfl (by first | exact Or.inl rfl | exact Or.inr rfl)) tg_n ho981 (fun (b982 : Int) (σ' : L2.St) (t' : S) => Ex s0 t' ∧ ∃ (v_whole : V) (y_many : Option V) (y_place : Option V), σ' = [some v961, some v_whole, y_place, y_many] ∧ rep K t'.F v_whole (b982 : Int)) (fun s1041 k1042 => by have E1043 := E977.trans k1042; have r1044 := Enc.mono k1042.f r978; have r1045 := Enc.mono k1042.f r976; exact ⟨E1043, v975, _, _, rfl, r1045⟩) (fun s985 k986 x984 b982 b983 σ995 σ996 t993 t994 hx987 hm988 fl989 hR990 k991 hB992 => ?_) (fun s1035 k1036 σ1037 t1038 fl1039 hR1040 => ?_)
  · have hf997 := Fle.trans k986.f fl989
    obtain ⟨E998, v999, y1000, y1001, rfl, r1002⟩ := hR990
    have r1003 := Enc.mono hf997 r978
    obtain ⟨v1004, r1005, rfl⟩ := hB992
    have E1006 := E998.trans k991
    have r1007 := Enc.mono k991.f r1002
    have r1008 := Enc.mono k991.f r1003
    obtain ⟨turns_from1009, h_turns_from1009, hm988⟩ := bndE hm988
    refine do_set 3 (ev_len z_len (EvN.r (en_call C_turns_from hr (by decide) (ea_cons (ev_var 0 rfl r1008) (ea_cons (ev_var 2 rfl r1005) ea_nil)) h_turns_from1009))) (fun v1014 s1012 e1013 r1015 => ?_) sc_round_of.nd
    have E1016 := E1006.trans e1013
    have fl1017 := Fle.trans (Fle.refl t994.F) e1013.f
    have r1018 := Enc.mono e1013.f r1007
    have r1019 := Enc.mono e1013.f r1008
    have r1020 := Enc.mono e1013.f r1005
    obtain ⟨many1010, q1011, hm988⟩ := ltE hm988
    rw [← q1011] at r1015
    obtain ⟨hc1021, hm988⟩ := chkE hm988
    obtain ⟨common_by1022, h_common_by1022, hm988⟩ := bndE hm988
    obtain ⟨hc1023, hm988⟩ := chkE hm988
    refine do_set 1 (ev_div (ev_mul (ev_var 1 rfl r1018) (ev_var 3 rfl r1015) hc1021) (ev_call C_common_by hr (by decide) (ea_cons (ev_var 1 rfl r1018) (ea_cons (ev_var 3 rfl r1015) ea_nil)) h_common_by1022) hc1023) (fun v1028 s1026 e1027 r1029 => ?_) sc_round_of.nd
    have E1030 := E1016.trans e1027
    have fl1031 := Fle.trans fl1017 e1027.f
    have r1032 := Enc.mono e1027.f r1019
    have r1033 := Enc.mono e1027.f r1020
    have r1034 := Enc.mono e1027.f r1015
    obtain ⟨whole1024, q1025, hm988⟩ := ltE hm988
    rw [← q1025] at r1029
    obtain rfl := Option.some.inj hm988
    exact do_nil ⟨s1026, rfl, fl1031, ⟨E1030, v1028, _, _, rfl, r1029⟩⟩
  · have hf1046 := Fle.trans k1036.f fl1039
    obtain ⟨E1047, v1048, y1049, y1050, rfl, r1051⟩ := hR1040
    have r1052 := Enc.mono hf1046 r978
    obtain rfl := Option.some.inj hm
    exact do_ret (ev_var 1 rfl r1051) fun v1053 s1054 e1055 r1056 => hQ _ _ (E1047.trans e1055) r1056
abbrev s_l_asked : Stmt := topS 29
abbrev N_l_asked : List Str := ["_law_way", "_law_order_here", "_law_many", "_law_one", "_law_other"]
theorem sc_l_asked : FnScope N_l_asked ["_law_way", "_law_order_here", "_law_many", "_law_one", "_law_other"] (defScope s_l_asked) := ⟨rfl, rfl, rfl, by decide +kernel, rfl, by decide +kernel, by decide +kernel⟩
noncomputable def m_l_asked (way1057 : Int) (order_here1060 : (List Int)) (many1063 : Int) (one1066 : Int) (other1069 : Int) : Option (Rz An) :=
 (if (decide (way1057 = (0 : Int))) = true then
 (tb (m_asked_order order_here1060) (fun er1085 => (some (Rz.er er1085))) fun asked_order1084 => (some (Rz.ok (An.b asked_order1084))))
 else
 (if (decide (way1057 = (1 : Int))) = true then
 (tb (m_after_services order_here1060 many1063) (fun er1113 => (some (Rz.er er1113))) fun after_services1112 => (some (Rz.ok (An.l after_services1112))))
 else
 (if (decide (way1057 = (2 : Int))) = true then
 (tb (m_round_of order_here1060) (fun er1141 => (some (Rz.er er1141))) fun round_of1140 => (some (Rz.ok (An.i round_of1140))))
 else
 (tb (m_meet_of order_here1060 one1066 other1069) (fun er1158 => (some (Rz.er er1158))) fun meet_of1157 => (some (Rz.ok (An.o meet_of1157)))))))
noncomputable abbrev a_l_asked : Int × (List Int) × Int × Int × Int × Unit → Option (Rz An) := fun a => m_l_asked a.1 a.2.1 a.2.2.1 a.2.2.2.1 a.2.2.2.2.1
theorem ok_l_asked {P : Program} {w : World} {K : PySem.W.Frag} {mg : Str → Option Value} {base : Heap} {f : Addr} {fd : FuncData} (F : FunP K "_law_asked" s_l_asked f fd) (hmg : mg "_law_asked" = some (.ref f)) (C_asked_order : Cal P w K mg base (L2.CX P w) 1 "asked_order" (spR K a_asked_order)) (C_after_services : Cal P w K mg base (L2.CX P w) 2 "after_services" (spR K a_after_services)) (C_round_of : Cal P w K mg base (L2.CX P w) 2 "round_of" (spR K a_round_of)) (C_meet_of : Cal P w K mg base (L2.CX P w) 2 "meet_of" (spR K a_meet_of)) : Cal P w K mg base (L2.CX P w) 3 "_law_asked" (spR K a_l_asked) := by
  refine mk_calR (k := 2) F hmg (F.bindsN fun _ _ _ _ _ _ us hl => match us, hl with | [_, _, _, _, _], _ => rfl) sc_l_asked len5 ?_
  rintro cdv A' outer sh0 H0 X0 hr s0 vs ⟨way1057, order_here1060, many1063, one1066, other1069, _⟩ r0 Q ⟨v1058, _, rfl, r1059, v1061, _, rfl, r1062, v1064, _, rfl, r1065, v1067, _, rfl, r1068, v1070, _, rfl, r1071, rfl⟩ hm hQ
  have E1072 := Ex.refl s0
  unfold a_l_asked m_l_asked at hm
  dsimp only at hm
  refine do_ifC (EvB.t (eb_eq (ev_var 0 rfl r1059) ev_int)) (fun hb1074 s1075 e1076 => ?_) (fun hb1091 s1092 e1093 => ?_)
  · have hm1077 := iteE1 hm hb1074
    have E1078 := E1072.trans e1076
    have r1079 := Enc.mono e1076.f r1059
    have r1080 := Enc.mono e1076.f r1062
    have r1081 := Enc.mono e1076.f r1065
    have r1082 := Enc.mono e1076.f r1068
    have r1083 := Enc.mono e1076.f r1071
    rcases tbE hm1077 with ⟨er1085, he1086, hm1077⟩ | ⟨asked_order1084, h_asked_order1084, hm1077⟩
    · obtain rfl := Option.some.inj hm1077
      refine do_retX (evX_call C_asked_order (takes_of rfl rfl rfl rfl) hr (by decide) (ea_cons (ev_var 1 rfl r1080) ea_nil) he1086 (fun _ _ _ k2 r2 => hQ _ _ _ (Ex.trans E1078 k2) r2))
    obtain rfl := Option.some.inj hm1077
    exact do_ret (an_b (ev_callR C_asked_order hr (by decide) (ea_cons (ev_var 1 rfl r1080) ea_nil) h_asked_order1084)) fun v1087 s1088 e1089 r1090 => hQ _ _ (E1078.trans e1089) r1090
  · have hm1094 := iteE2 hm hb1091
    have E1095 := E1072.trans e1093
    have r1096 := Enc.mono e1093.f r1059
    have r1097 := Enc.mono e1093.f r1062
    have r1098 := Enc.mono e1093.f r1065
    have r1099 := Enc.mono e1093.f r1068
    have r1100 := Enc.mono e1093.f r1071
    refine do_nil (show WSs _ _ _ _ _ from ?_)
    refine do_ifC (EvB.t (eb_eq (ev_var 0 rfl r1096) ev_int)) (fun hb1102 s1103 e1104 => ?_) (fun hb1119 s1120 e1121 => ?_)
    · have hm1105 := iteE1 hm1094 hb1102
      have E1106 := E1095.trans e1104
      have r1107 := Enc.mono e1104.f r1096
      have r1108 := Enc.mono e1104.f r1097
      have r1109 := Enc.mono e1104.f r1098
      have r1110 := Enc.mono e1104.f r1099
      have r1111 := Enc.mono e1104.f r1100
      rcases tbE hm1105 with ⟨er1113, he1114, hm1105⟩ | ⟨after_services1112, h_after_services1112, hm1105⟩
      · obtain rfl := Option.some.inj hm1105
        refine do_retX (evX_call C_after_services (takes_of rfl rfl rfl rfl) hr (by decide) (ea_cons (ev_var 1 rfl r1108) (ea_cons (ev_var 2 rfl r1109) ea_nil)) he1114 (fun _ _ _ k2 r2 => hQ _ _ _ (Ex.trans E1106 k2) r2))
      obtain rfl := Option.some.inj hm1105
      exact do_ret (an_l (ev_callR C_after_services hr (by decide) (ea_cons (ev_var 1 rfl r1108) (ea_cons (ev_var 2 rfl r1109) ea_nil)) h_after_services1112)) fun v1115 s1116 e1117 r1118 => hQ _ _ (E1106.trans e1117) r1118
    · have hm1122 := iteE2 hm1094 hb1119
      have E1123 := E1095.trans e1121
      have r1124 := Enc.mono e1121.f r1096
      have r1125 := Enc.mono e1121.f r1097
      have r1126 := Enc.mono e1121.f r1098
      have r1127 := Enc.mono e1121.f r1099
      have r1128 := Enc.mono e1121.f r1100
      refine do_nil (show WSs _ _ _ _ _ from ?_)
      refine do_ifC (EvB.t (eb_eq (ev_var 0 rfl r1124) ev_int)) (fun hb1130 s1131 e1132 => ?_) (fun hb1147 s1148 e1149 => ?_)
      · have hm1133 := iteE1 hm1122 hb1130
        have E1134 := E1123.trans e1132
        have r1135 := Enc.mono e1132.f r1124
        have r1136 := Enc.mono e1132.f r1125
        have r1137 := Enc.mono e1132.f r1126
        have r1138 := Enc.mono e1132.f r1127
        have r1139 := Enc.mono e1132.f r1128
        rcases tbE hm1133 with ⟨er1141, he1142, hm1133⟩ | ⟨round_of1140, h_round_of1140, hm1133⟩
        · obtain rfl := Option.some.inj hm1133
          refine do_retX (evX_call C_round_of (takes_of rfl rfl rfl rfl) hr (by decide) (ea_cons (ev_var 1 rfl r1136) ea_nil) he1142 (fun _ _ _ k2 r2 => hQ _ _ _ (Ex.trans E1134 k2) r2))
        obtain rfl := Option.some.inj hm1133
        exact do_ret (an_i (ev_callR C_round_of hr (by decide) (ea_cons (ev_var 1 rfl r1136) ea_nil) h_round_of1140)) fun v1143 s1144 e1145 r1146 => hQ _ _ (E1134.trans e1145) r1146
      · have hm1150 := iteE2 hm1122 hb1147
        have E1151 := E1123.trans e1149
        have r1152 := Enc.mono e1149.f r1124
        have r1153 := Enc.mono e1149.f r1125
        have r1154 := Enc.mono e1149.f r1126
        have r1155 := Enc.mono e1149.f r1127
        have r1156 := Enc.mono e1149.f r1128
        refine do_nil (show WSs _ _ _ _ _ from ?_)
        rcases tbE hm1150 with ⟨er1158, he1159, hm1150⟩ | ⟨meet_of1157, h_meet_of1157, hm1150⟩
        · obtain rfl := Option.some.inj hm1150
          refine do_retX (evX_call C_meet_of (takes_of rfl rfl rfl rfl) hr (by decide) (ea_cons (ev_var 1 rfl r1153) (ea_cons (ev_var 3 rfl r1155) (ea_cons (ev_var 4 rfl r1156) ea_nil))) he1159 (fun _ _ _ k2 r2 => hQ _ _ _ (Ex.trans E1151 k2) r2))
        obtain rfl := Option.some.inj hm1150
        exact do_ret (an_o (ev_callR C_meet_of hr (by decide) (ea_cons (ev_var 1 rfl r1153) (ea_cons (ev_var 3 rfl r1155) (ea_cons (ev_var 4 rfl r1156) ea_nil))) h_meet_of1157)) fun v1160 s1161 e1162 r1163 => hQ _ _ (E1151.trans e1162) r1163
abbrev s_l_told : Stmt := topS 30
abbrev N_l_told : List Str := ["_law_way", "_law_order_here", "_law_many", "_law_one", "_law_other", "_law_told_here", "e"]
theorem sc_l_told : FnScope N_l_told ["_law_way", "_law_order_here", "_law_many", "_law_one", "_law_other"] (defScope s_l_told) := ⟨rfl, rfl, rfl, by decide +kernel, rfl, by decide +kernel, by decide +kernel⟩
noncomputable def m_l_told (way1164 : Int) (order_here1167 : (List Int)) (many1170 : Int) (one1173 : Int) (other1176 : Int) : Option (Str × An) :=
 (lt ((("refused" : Str), (An.b false)) : (Str × An)) fun told_here1180 =>
 (tb (m_l_asked way1164 order_here1167 many1170 one1173 other1176) (fun er1197 => (chk (exE tab er1197 "PairsError" = some true) (bnd (isE tab er1197 "NoOrder") fun isE1218 => (bnd (andO isE1218 (bnd (isE tab er1197 "ValueError") fun isE1219 => (some isE1219))) fun c1220 => (lt ((("refused" : Str), (An.b c1220)) : (Str × An)) fun told_here1222 =>
 (bnd (isEs tab er1197 ["NoBars", "NoBreak", "NoCall", "NoInstrument", "NoLine", "NoName"]) fun isE1235 => (bnd (if isE1235 = true then
 (lt ((("refused" : Str), (An.b false)) : (Str × An)) fun told_here1252 =>
 (some told_here1252))
 else
 (some told_here1222) : Option (Str × An)) fun b1237 =>
 (bnd (isEs tab er1197 ["NoPlace", "NoPlayer", "NoSeating", "NoText", "NoTimes", "Twice"]) fun isE1293 => (bnd (if isE1293 = true then
 (lt ((("refused" : Str), (An.b false)) : (Str × An)) fun told_here1310 =>
 (some told_here1310))
 else
 (some b1237) : Option (Str × An)) fun b1295 =>
 (some b1295)))))))))) fun asked1196 => (lt ((("told" : Str), asked1196) : (Str × An)) fun told_here1355 =>
 (some told_here1355))))
noncomputable abbrev a_l_told : Int × (List Int) × Int × Int × Int × Unit → Option (Str × An) := fun a => m_l_told a.1 a.2.1 a.2.2.1 a.2.2.2.1 a.2.2.2.2.1
theorem ok_l_told {P : Program} {w : World} {K : PySem.W.Frag} {mg : Str → Option Value} {base : Heap} {f : Addr} {fd : FuncData} (F : FunP K "_law_told" s_l_told f fd) (hmg : mg "_law_told" = some (.ref f)) (C_l_asked : Cal P w K mg base (L2.CX P w) 3 "_law_asked" (spR K a_l_asked)) (z_isinstance : mg "isinstance" = none) (z_ValueError : mg "ValueError" = none) (N_PairsError : mg "PairsError" = some (.ref (He.ga K "PairsError"))) (N_NoOrder : mg "NoOrder" = some (.ref (He.ga K "NoOrder"))) (N_NoBars : mg "NoBars" = some (.ref (He.ga K "NoBars"))) (N_NoBreak : mg "NoBreak" = some (.ref (He.ga K "NoBreak"))) (N_NoCall : mg "NoCall" = some (.ref (He.ga K "NoCall"))) (N_NoInstrument : mg "NoInstrument" = some (.ref (He.ga K "NoInstrument"))) (N_NoLine : mg "NoLine" = some (.ref (He.ga K "NoLine"))) (N_NoName : mg "NoName" = some (.ref (He.ga K "NoName"))) (N_NoPlace : mg "NoPlace" = some (.ref (He.ga K "NoPlace"))) (N_NoPlayer : mg "NoPlayer" = some (.ref (He.ga K "NoPlayer"))) (N_NoSeating : mg "NoSeating" = some (.ref (He.ga K "NoSeating"))) (N_NoText : mg "NoText" = some (.ref (He.ga K "NoText"))) (N_NoTimes : mg "NoTimes" = some (.ref (He.ga K "NoTimes"))) (N_Twice : mg "Twice" = some (.ref (He.ga K "Twice"))) (TB : tab.ok K = true) : Cal P w K mg base CX0 4 "_law_told" (sp K a_l_told) := by
  refine mk_cal (k := 3) F hmg (F.bindsN fun _ _ _ _ _ _ us hl => match us, hl with | [_, _, _, _, _], _ => rfl) sc_l_told len5 ?_
  rintro cdv A' outer sh0 H0 X0 hr s0 vs ⟨way1164, order_here1167, many1170, one1173, other1176, _⟩ r0 Q ⟨v1165, _, rfl, r1166, v1168, _, rfl, r1169, v1171, _, rfl, r1172, v1174, _, rfl, r1175, v1177, _, rfl, r1178, rfl⟩ hm hQ
  have E1179 := Ex.refl s0
  unfold a_l_told m_l_told at hm
  dsimp only at hm
  refine do_set 5 (ev_t2 (ea_cons ev_str (ea_cons (an_b ev_bl) ea_nil))) (fun v1184 s1182 e1183 r1185 => ?_) sc_l_told.nd
  have E1186 := E1179.trans e1183
  have r1187 := Enc.mono e1183.f r1166
  have r1188 := Enc.mono e1183.f r1169
  have r1189 := Enc.mono e1183.f r1172
  have r1190 := Enc.mono e1183.f r1175
  have r1191 := Enc.mono e1183.f r1178
  obtain ⟨told_here1180, q1181, hm⟩ := ltE hm
  rw [← q1181] at r1185
  refine do_tryAs 6 sc_l_told.nd (names_of N_PairsError) takes_false (fun pn1192 xe1193 tk1194 po1195 => ?_)
  rcases tbE hm with ⟨er1197, he1198, hm⟩ | ⟨asked1196, h_asked1196, hm⟩
  · obtain ⟨hx1202, hm⟩ := chkE hm
    refine do_set 5 (ev_t2 (ea_cons ev_str (ea_cons (EvX.ev (evX_call C_l_asked tk1194 hr (by decide) (ea_cons (ev_var 0 rfl r1187) (ea_cons (ev_var 1 rfl r1188) (ea_cons (ev_var 2 rfl r1189) (ea_cons (ev_var 3 rfl r1190) (ea_cons (ev_var 4 rfl r1191) ea_nil))))) he1198 (fun _ _ s1199 k1200 r1201 => ?_)) Nv.nv) ea_nil))) (fun _ _ _ r => nv2_elim r) sc_l_told.nd
    have hb1203 := exE_ok TB r1201 hx1202
    obtain rfl := exR_cls r1201
    refine was_of hb1203 (fun a1205 ha1206 oe1207 pn1208 hz1209 hf1210 => ?_)
    have E1211 := E1186.trans k1200
    have r1212 := Enc.mono k1200.f r1187
    have r1213 := Enc.mono k1200.f r1188
    have r1214 := Enc.mono k1200.f r1189
    have r1215 := Enc.mono k1200.f r1190
    have r1216 := Enc.mono k1200.f r1191
    have r1217 := Enc.mono k1200.f r1185
    obtain ⟨isE1218, h_isE1218, hm⟩ := bndE hm
    obtain ⟨c1220, h_c1220, hm⟩ := bndE hm
    refine do_set 5 (ev_t2 (ea_cons ev_str (ea_cons (an_b (EvC.v (by skip; exact ec_andO (eb_v (ev_isE TB h_isE1218 hz1209 hf1210 r1201 z_isinstance (ev_var 6 rfl (show rep _ _ (V.ref a1205) (Rw.mk (V.ref a1205)) from rfl)) (ev_cls (.inl ⟨by decide, N_NoOrder⟩)))) (fun hb1221 => (fun hz => (by obtain ⟨isE1219, h_isE1219, hz⟩ := bndE hz; obtain rfl := Option.some.inj hz; exact (ec_and1 (eb_v (ev_isE TB h_isE1219 hz1209 hf1210 r1201 z_isinstance (ev_var 6 rfl (show rep _ _ (V.ref a1205) (Rw.mk (V.ref a1205)) from rfl)) (ev_cls (.inr ⟨rfl, z_ValueError⟩))))))) ((andE h_c1220).1 hb1221)) (andE h_c1220).2))) ea_nil))) (fun v1226 s1224 e1225 r1227 => ?_) sc_l_told.nd
    have E1228 := E1211.trans e1225
    have r1229 := Enc.mono e1225.f r1212
    have r1230 := Enc.mono e1225.f r1213
    have r1231 := Enc.mono e1225.f r1214
    have r1232 := Enc.mono e1225.f r1215
    have r1233 := Enc.mono e1225.f r1216
    have r1234 := ExR.mono e1225.f r1201
    obtain ⟨told_here1222, q1223, hm⟩ := ltE hm
    rw [← q1223] at r1227
    obtain ⟨isE1235, h_isE1235, hm⟩ := bndE hm
    obtain ⟨b1237, hj1238, hm⟩ := bndE hm
    refine do_if (et_v (ev_isEs (c0 := "NoBars") (cr := ["NoBreak", "NoCall", "NoInstrument", "NoLine", "NoName"]) TB h_isE1235 hz1209 hf1210 r1234 z_isinstance (ev_var 6 rfl (show rep _ _ (V.ref a1205) (Rw.mk (V.ref a1205)) from rfl)) (ee_cons (ev_cls (.inl ⟨by decide, N_NoBars⟩)) (ee_cons (ev_cls (.inl ⟨by decide, N_NoBreak⟩)) (ee_cons (ev_cls (.inl ⟨by decide, N_NoCall⟩)) (ee_cons (ev_cls (.inl ⟨by decide, N_NoInstrument⟩)) (ee_cons (ev_cls (.inl ⟨by decide, N_NoLine⟩)) (ee_cons (ev_cls (.inl ⟨by decide, N_NoName⟩)) ee_nil)))))) (by decide))) (fun (σ' : L2.St) (t' : S) => Fle s1224.F t'.F ∧ Ex s0 t' ∧ ∃ (v_told_here : V), σ' = [some v1165, some v1168, some v1171, some v1174, some v1177, some v_told_here, some (V.ref a1205)] ∧ rep K t'.F v_told_here (b1237 : (Str × An))) (fun hb1239 s1240 e1241 => ?_) (fun hb1266 s1267 e1268 => ?_) (fun σ1279 s1280 hM1281 => ?_)
    · have hm1242 := iteE1 hj1238 hb1239
      have E1243 := E1228.trans e1241
      have fl1244 := Fle.trans (Fle.refl s1224.F) e1241.f
      have r1245 := Enc.mono e1241.f r1229
      have r1246 := Enc.mono e1241.f r1230
      have r1247 := Enc.mono e1241.f r1231
      have r1248 := Enc.mono e1241.f r1232
      have r1249 := Enc.mono e1241.f r1233
      have r1250 := ExR.mono e1241.f r1234
      have r1251 := Enc.mono e1241.f r1227
      refine do_set 5 (ev_t2 (ea_cons ev_str (ea_cons (an_b ev_bl) ea_nil))) (fun v1256 s1254 e1255 r1257 => ?_) sc_l_told.nd
      have E1258 := E1243.trans e1255
      have fl1259 := Fle.trans fl1244 e1255.f
      have r1260 := Enc.mono e1255.f r1245
      have r1261 := Enc.mono e1255.f r1246
      have r1262 := Enc.mono e1255.f r1247
      have r1263 := Enc.mono e1255.f r1248
      have r1264 := Enc.mono e1255.f r1249
      have r1265 := ExR.mono e1255.f r1250
      obtain ⟨told_here1252, q1253, hm1242⟩ := ltE hm1242
      rw [← q1253] at r1257
      obtain rfl := Option.some.inj hm1242
      exact do_nil ⟨s1254, rfl, fl1259, ⟨E1258, v1256, rfl, r1257⟩⟩
    · have hm1269 := iteE2 hj1238 hb1266
      have E1270 := E1228.trans e1268
      have fl1271 := Fle.trans (Fle.refl s1224.F) e1268.f
      have r1272 := Enc.mono e1268.f r1229
      have r1273 := Enc.mono e1268.f r1230
      have r1274 := Enc.mono e1268.f r1231
      have r1275 := Enc.mono e1268.f r1232
      have r1276 := Enc.mono e1268.f r1233
      have r1277 := ExR.mono e1268.f r1234
      have r1278 := Enc.mono e1268.f r1227
      obtain rfl := Option.some.inj hm1269
      exact do_nil ⟨s1267, rfl, fl1271, ⟨E1270, v1226, rfl, r1278⟩⟩
    · obtain ⟨hf1282, hR1283⟩ := hM1281
      obtain ⟨E1284, v1285, rfl, r1286⟩ := hR1283
      have r1287 := Enc.mono hf1282 r1229
      have r1288 := Enc.mono hf1282 r1230
      have r1289 := Enc.mono hf1282 r1231
      have r1290 := Enc.mono hf1282 r1232
      have r1291 := Enc.mono hf1282 r1233
      have r1292 := ExR.mono hf1282 r1234
      obtain ⟨isE1293, h_isE1293, hm⟩ := bndE hm
      obtain ⟨b1295, hj1296, hm⟩ := bndE hm
      refine do_if (et_v (ev_isEs (c0 := "NoPlace") (cr := ["NoPlayer", "NoSeating", "NoText", "NoTimes", "Twice"]) TB h_isE1293 hz1209 hf1210 r1292 z_isinstance (ev_var 6 rfl (show rep _ _ (V.ref a1205) (Rw.mk (V.ref a1205)) from rfl)) (ee_cons (ev_cls (.inl ⟨by decide, N_NoPlace⟩)) (ee_cons (ev_cls (.inl ⟨by decide, N_NoPlayer⟩)) (ee_cons (ev_cls (.inl ⟨by decide, N_NoSeating⟩)) (ee_cons (ev_cls (.inl ⟨by decide, N_NoText⟩)) (ee_cons (ev_cls (.inl ⟨by decide, N_NoTimes⟩)) (ee_cons (ev_cls (.inl ⟨by decide, N_Twice⟩)) ee_nil)))))) (by decide))) (fun (σ' : L2.St) (t' : S) => Fle s1280.F t'.F ∧ Ex s0 t' ∧ ∃ (v_told_here : V), σ' = [some v1165, some v1168, some v1171, some v1174, some v1177, some v_told_here, some (V.ref a1205)] ∧ rep K t'.F v_told_here (b1295 : (Str × An))) (fun hb1297 s1298 e1299 => ?_) (fun hb1324 s1325 e1326 => ?_) (fun σ1337 s1338 hM1339 => ?_)
      · have hm1300 := iteE1 hj1296 hb1297
        have E1301 := E1284.trans e1299
        have fl1302 := Fle.trans (Fle.refl s1280.F) e1299.f
        have r1303 := Enc.mono e1299.f r1286
        have r1304 := Enc.mono e1299.f r1287
        have r1305 := Enc.mono e1299.f r1288
        have r1306 := Enc.mono e1299.f r1289
        have r1307 := Enc.mono e1299.f r1290
        have r1308 := Enc.mono e1299.f r1291
        have r1309 := ExR.mono e1299.f r1292
        refine do_set 5 (ev_t2 (ea_cons ev_str (ea_cons (an_b ev_bl) ea_nil))) (fun v1314 s1312 e1313 r1315 => ?_) sc_l_told.nd
        have E1316 := E1301.trans e1313
        have fl1317 := Fle.trans fl1302 e1313.f
        have r1318 := Enc.mono e1313.f r1304
        have r1319 := Enc.mono e1313.f r1305
        have r1320 := Enc.mono e1313.f r1306
        have r1321 := Enc.mono e1313.f r1307
        have r1322 := Enc.mono e1313.f r1308
        have r1323 := ExR.mono e1313.f r1309
        obtain ⟨told_here1310, q1311, hm1300⟩ := ltE hm1300
        rw [← q1311] at r1315
        obtain rfl := Option.some.inj hm1300
        exact do_nil ⟨s1312, rfl, fl1317, ⟨E1316, v1314, rfl, r1315⟩⟩
      · have hm1327 := iteE2 hj1296 hb1324
        have E1328 := E1284.trans e1326
        have fl1329 := Fle.trans (Fle.refl s1280.F) e1326.f
        have r1330 := Enc.mono e1326.f r1286
        have r1331 := Enc.mono e1326.f r1287
        have r1332 := Enc.mono e1326.f r1288
        have r1333 := Enc.mono e1326.f r1289
        have r1334 := Enc.mono e1326.f r1290
        have r1335 := Enc.mono e1326.f r1291
        have r1336 := ExR.mono e1326.f r1292
        obtain rfl := Option.some.inj hm1327
        exact do_nil ⟨s1325, rfl, fl1329, ⟨E1328, v1285, rfl, r1330⟩⟩
      · obtain ⟨hf1340, hR1341⟩ := hM1339
        obtain ⟨E1342, v1343, rfl, r1344⟩ := hR1341
        have r1345 := Enc.mono hf1340 r1287
        have r1346 := Enc.mono hf1340 r1288
        have r1347 := Enc.mono hf1340 r1289
        have r1348 := Enc.mono hf1340 r1290
        have r1349 := Enc.mono hf1340 r1291
        have r1350 := ExR.mono hf1340 r1292
        refine do_nil (show WSs _ _ _ _ _ from ?_)
        obtain rfl := Option.some.inj hm
        exact do_ret (ev_var 5 rfl r1344) fun v1351 s1352 e1353 r1354 => hQ _ _ (E1342.trans e1353) r1354
  refine do_set 5 (ev_t2 (ea_cons ev_str (ea_cons (ev_callR C_l_asked hr (by decide) (ea_cons (ev_var 0 rfl r1187) (ea_cons (ev_var 1 rfl r1188) (ea_cons (ev_var 2 rfl r1189) (ea_cons (ev_var 3 rfl r1190) (ea_cons (ev_var 4 rfl r1191) ea_nil))))) h_asked1196) ea_nil))) (fun v1359 s1357 e1358 r1360 => ?_) sc_l_told.nd
  have E1361 := E1186.trans e1358
  have r1362 := Enc.mono e1358.f r1187
  have r1363 := Enc.mono e1358.f r1188
  have r1364 := Enc.mono e1358.f r1189
  have r1365 := Enc.mono e1358.f r1190
  have r1366 := Enc.mono e1358.f r1191
  obtain ⟨told_here1355, q1356, hm⟩ := ltE hm
  rw [← q1356] at r1360
  refine do_nil (show WSs _ _ _ _ _ from ?_)
  obtain rfl := Option.some.inj hm
  exact do_ret (ev_var 5 rfl r1360) fun v1367 s1368 e1369 r1370 => hQ _ _ (E1361.trans e1369) r1370
abbrev s_l_right : Stmt := topS 31
abbrev N_l_right : List Str := ["_law_order_here", "_law_many", "_law_kept", "_law_well", "_law_way", "_law_other", "_law_told_here"]
theorem sc_l_right : FnScope N_l_right ["_law_order_here", "_law_many"] (defScope s_l_right) := ⟨rfl, rfl, rfl, by decide +kernel, rfl, by decide +kernel, by decide +kernel⟩
noncomputable def m_l_right (order_here1371 : (List Int)) (many1374 : Int) : Option Bool :=
 (lt (order_here1371 : (List Int)) fun kept1378 =>
 (bnd (m_l_is_order order_here1371) fun is_order1387 => (lt (is_order1387 : Bool) fun well1388 =>
 (bnd (foldF (ρ := Bool) (fun (b1400 : Unit) (x1402 : Int) =>
 (lt ((1 : Int) : Int) fun other1434 =>
 (if (well1388 && ((decide (((order_here1371).length : Int) = (1 : Int))) && (decide (x1402 = (3 : Int))))) = true then
 (some (Fl.rt (decide (order_here1371 = kept1378))))
 else
 (bnd (if ((!well1388) && (decide (x1402 = (3 : Int)))) = true then
 (lt (((0 : Int) - many1374) : Int) fun other1492 =>
 (some other1492))
 else
 (some other1434) : Option Int) fun b1477 =>
 (bnd (m_l_told x1402 order_here1371 many1374 (0 : Int) b1477) fun told1533 => (lt (told1533 : (Str × An)) fun told_here1534 =>
 (bnd (andO (!well1388) (chk (shpD told_here1534) (chk (shpD (("refused" : Str), (An.b true))) (some (!eqvD told_here1534 (("refused" : Str), (An.b true))))))) fun c1550 => (if c1550 = true then
 (some (Fl.rt false))
 else
 (bnd (andO well1388 (bnd (orO (!decide ((told_here1534).1 = ("told" : Str))) (bnd (andO (decide (x1402 = (0 : Int))) (bnd (anB (told_here1534).2) fun truth1583 => (some (!decide (truth1583 = true))))) fun c1584 => (some c1584))) fun c1586 => (some c1586))) fun c1588 => (if c1588 = true then
 (some (Fl.rt false))
 else
 (some (Fl.nx ())))))))))))) () (rng 0 (4 : Int))) fun o1398 =>
 (Fl.go o1398 (fun b1634 => (some (decide (order_here1371 = kept1378)))) (fun rr => (some rr)))))))
noncomputable abbrev a_l_right : (List Int) × Int × Unit → Option Bool := fun a => m_l_right a.1 a.2.1
theorem ok_l_right {P : Program} {w : World} {K : PySem.W.Frag} {mg : Str → Option Value} {base : Heap} {f : Addr} {fd : FuncData} (F : FunP K "_law_right" s_l_right f fd) (hmg : mg "_law_right" = some (.ref f)) (C_l_is_order : Cal P w K mg base CX0 1 "_law_is_order" (sp K a_l_is_order)) (C_l_told : Cal P w K mg base CX0 4 "_law_told" (sp K a_l_told)) (z_list : mg "list" = none) (z_range : mg "range" = none) (z_len : mg "len" = none) : Cal P w K mg base CX0 5 "_law_right" (sp K a_l_right) := by
  refine mk_cal (k := 4) F hmg (F.bindsN fun _ _ _ _ _ _ us hl => match us, hl with | [_, _], _ => rfl) sc_l_right len2 ?_
  rintro cdv A' outer sh0 H0 X0 hr s0 vs ⟨order_here1371, many1374, _⟩ r0 Q ⟨v1372, _, rfl, r1373, v1375, _, rfl, r1376, rfl⟩ hm hQ
  have E1377 := Ex.refl s0
  unfold a_l_right m_l_right at hm
  dsimp only at hm
  refine do_set 2 (EvN.ev (en_copy z_list (Ev.r (ev_var 0 rfl r1373)))) (fun v1382 s1380 e1381 r1383 => ?_) sc_l_right.nd
  have E1384 := E1377.trans e1381
  have r1385 := Enc.mono e1381.f r1373
  have r1386 := Enc.mono e1381.f r1376
  obtain ⟨kept1378, q1379, hm⟩ := ltE hm
  rw [← q1379] at r1383
  obtain ⟨is_order1387, h_is_order1387, hm⟩ := bndE hm
  refine do_set 3 (ev_call C_l_is_order hr (by decide) (ea_cons (ev_var 0 rfl r1385) ea_nil) h_is_order1387) (fun v1392 s1390 e1391 r1393 => ?_) sc_l_right.nd
  have E1394 := E1384.trans e1391
  have r1395 := Enc.mono e1391.f r1385
  have r1396 := Enc.mono e1391.f r1386
  have r1397 := Enc.mono e1391.f r1383
  obtain ⟨well1388, q1389, hm⟩ := ltE hm
  rw [← q1389] at r1393
  obtain ⟨o1398, ho1399, hm⟩ := bndE hm
  refine do_forF (ρ := Bool) (υ := Unit) PassesOwn.never rfl (ei_range1 z_range ev_int ⟨by omega, by omega⟩) (pg_name (i := 4) sc_l_right.nd rfl (by first | exact Or.inl rfl | exact Or.inr rfl)) tg_n ho1399 (fun (b1400 : Unit) (σ' : L2.St) (t' : S) => Ex s0 t' ∧ ∃ (y_other : Option V) (y_told_here : Option V) (y_way : Option V), σ' = [some v1372, some v1375, some v1382, some v1392, y_way, y_other, y_told_here]) (fun s1627 k1628 => by have E1629 := E1394.trans k1628; have r1630 := Enc.mono k1628.f r1395; have r1631 := Enc.mono k1628.f r1396; have r1632 := Enc.mono k1628.f r1397; have r1633 := Enc.mono k1628.f r1393; exact ⟨E1629, _, _, _, rfl⟩) (fun s1403 k1404 x1402 b1400 q1432 σ1413 σ1414 t1411 t1412 hx1405 hm1406 hq1433 fl1407 hR1408 k1409 hB1410 => ?_) (fun s1621 k1622 b1634 σ1623 t1624 ho1635 fl1625 hR1626 => ?_)
  · have hf1415 := Fle.trans k1404.f fl1407
    obtain ⟨E1416, y1417, y1418, y1419, rfl⟩ := hR1408
    have r1420 := Enc.mono hf1415 r1395
    have r1421 := Enc.mono hf1415 r1396
    have r1422 := Enc.mono hf1415 r1397
    have r1423 := Enc.mono hf1415 r1393
    obtain ⟨v1424, r1425, rfl⟩ := hB1410
    have E1426 := E1416.trans k1409
    have r1427 := Enc.mono k1409.f r1420
    have r1428 := Enc.mono k1409.f r1421
    have r1429 := Enc.mono k1409.f r1422
    have r1430 := Enc.mono k1409.f r1423
    have q1431 := rng_mem hx1405
    refine do_set 5 ev_int (fun v1438 s1436 e1437 r1439 => ?_) sc_l_right.nd
    have E1440 := E1426.trans e1437
    have fl1441 := Fle.trans (Fle.refl t1412.F) e1437.f
    have r1442 := Enc.mono e1437.f r1427
    have r1443 := Enc.mono e1437.f r1428
    have r1444 := Enc.mono e1437.f r1429
    have r1445 := Enc.mono e1437.f r1430
    have r1446 := Enc.mono e1437.f r1425
    obtain ⟨other1434, q1435, hm1406⟩ := ltE hm1406
    rw [← q1435] at r1439
    refine do_ifR (EvW.tt (EvC.w (ec_and (eb_v (ev_var 3 rfl r1445)) fun _ => (ec_and (eb_eq (ev_len z_len (Ev.r (ev_var 0 rfl r1442))) ev_int) fun _ => (ec_and1 (eb_eq (ev_var 4 rfl r1446) ev_int)))))) (fun hb1448 s1449 e1450 => ?_) (fun hb1464 s1465 e1466 => ?_)
    · have hm1451 := iteE1 hm1406 hb1448
      have E1452 := E1440.trans e1450
      have fl1453 := Fle.trans fl1441 e1450.f
      have r1454 := Enc.mono e1450.f r1442
      have r1455 := Enc.mono e1450.f r1443
      have r1456 := Enc.mono e1450.f r1444
      have r1457 := Enc.mono e1450.f r1445
      have r1458 := Enc.mono e1450.f r1446
      have r1459 := Enc.mono e1450.f r1439
      obtain rfl := Option.some.inj hm1451
      obtain rfl := hq1433 _ rfl
      obtain rfl := Option.some.inj hm
      exact do_ret (EvB.v (eb_eqL hr (Ev.r (ev_var 0 rfl r1454)) (Ev.r (ev_var 2 rfl r1456)) (shp_of _) (shp_of _))) fun v1460 s1461 e1462 r1463 => hQ _ _ (E1452.trans e1462) r1463
    · have hm1467 := iteE2 hm1406 hb1464
      have E1468 := E1440.trans e1466
      have fl1469 := Fle.trans fl1441 e1466.f
      have r1470 := Enc.mono e1466.f r1442
      have r1471 := Enc.mono e1466.f r1443
      have r1472 := Enc.mono e1466.f r1444
      have r1473 := Enc.mono e1466.f r1445
      have r1474 := Enc.mono e1466.f r1446
      have r1475 := Enc.mono e1466.f r1439
      obtain ⟨b1477, hj1478, hm1467⟩ := bndE hm1467
      refine do_if (EvW.tt (EvC.w (ec_and (eb_not (eb_v (ev_var 3 rfl r1473))) fun _ => (ec_and1 (eb_eq (ev_var 4 rfl r1474) ev_int))))) (fun (σ' : L2.St) (t' : S) => Fle s1465.F t'.F ∧ Ex s0 t' ∧ ∃ (v_other : V), σ' = [some v1372, some v1375, some v1382, some v1392, some v1424, some v_other, y1418] ∧ rep K t'.F v_other (b1477 : Int)) (fun hb1479 s1480 e1481 => ?_) (fun hb1506 s1507 e1508 => ?_) (fun σ1519 s1520 hM1521 => ?_)
      · have hm1482 := iteE1 hj1478 hb1479
        have E1483 := E1468.trans e1481
        have fl1484 := Fle.trans fl1469 e1481.f
        have fl1485 := Fle.trans (Fle.refl s1465.F) e1481.f
        have r1486 := Enc.mono e1481.f r1470
        have r1487 := Enc.mono e1481.f r1471
        have r1488 := Enc.mono e1481.f r1472
        have r1489 := Enc.mono e1481.f r1473
        have r1490 := Enc.mono e1481.f r1474
        have r1491 := Enc.mono e1481.f r1475
        refine do_set 5 (ev_sub ev_int (ev_var 1 rfl r1487)) (fun v1496 s1494 e1495 r1497 => ?_) sc_l_right.nd
        have E1498 := E1483.trans e1495
        have fl1499 := Fle.trans fl1484 e1495.f
        have fl1500 := Fle.trans fl1485 e1495.f
        have r1501 := Enc.mono e1495.f r1486
        have r1502 := Enc.mono e1495.f r1487
        have r1503 := Enc.mono e1495.f r1488
        have r1504 := Enc.mono e1495.f r1489
        have r1505 := Enc.mono e1495.f r1490
        obtain ⟨other1492, q1493, hm1482⟩ := ltE hm1482
        rw [← q1493] at r1497
        obtain rfl := Option.some.inj hm1482
        exact do_nil ⟨s1494, rfl, fl1500, ⟨E1498, v1496, rfl, r1497⟩⟩
      · have hm1509 := iteE2 hj1478 hb1506
        have E1510 := E1468.trans e1508
        have fl1511 := Fle.trans fl1469 e1508.f
        have fl1512 := Fle.trans (Fle.refl s1465.F) e1508.f
        have r1513 := Enc.mono e1508.f r1470
        have r1514 := Enc.mono e1508.f r1471
        have r1515 := Enc.mono e1508.f r1472
        have r1516 := Enc.mono e1508.f r1473
        have r1517 := Enc.mono e1508.f r1474
        have r1518 := Enc.mono e1508.f r1475
        obtain rfl := Option.some.inj hm1509
        exact do_nil ⟨s1507, rfl, fl1512, ⟨E1510, v1438, rfl, r1518⟩⟩
      · obtain ⟨hf1522, hR1523⟩ := hM1521
        obtain ⟨E1524, v1525, rfl, r1526⟩ := hR1523
        have r1527 := Enc.mono hf1522 r1470
        have r1528 := Enc.mono hf1522 r1471
        have r1529 := Enc.mono hf1522 r1472
        have r1530 := Enc.mono hf1522 r1473
        have r1531 := Enc.mono hf1522 r1474
        have fl1532 := Fle.trans fl1469 hf1522
        obtain ⟨told1533, h_told1533, hm1467⟩ := bndE hm1467
        refine do_set 6 (ev_call C_l_told hr (by decide) (ea_cons (ev_var 4 rfl r1531) (ea_cons (ev_var 0 rfl r1527) (ea_cons (ev_var 1 rfl r1528) (ea_cons ev_int (ea_cons (ev_var 5 rfl r1526) ea_nil))))) h_told1533) (fun v1538 s1536 e1537 r1539 => ?_) sc_l_right.nd
        have E1540 := E1524.trans e1537
        have fl1541 := Fle.trans fl1532 e1537.f
        have r1542 := Enc.mono e1537.f r1526
        have r1543 := Enc.mono e1537.f r1527
        have r1544 := Enc.mono e1537.f r1528
        have r1545 := Enc.mono e1537.f r1529
        have r1546 := Enc.mono e1537.f r1530
        have r1547 := Enc.mono e1537.f r1531
        obtain ⟨told_here1534, q1535, hm1467⟩ := ltE hm1467
        rw [← q1535] at r1539
        obtain ⟨c1550, h_c1550, hm1467⟩ := bndE hm1467
        refine do_ifR (EvW.tt (EvC.w (by skip; exact ec_andO (eb_not (eb_v (ev_var 3 rfl r1546))) (fun hb1551 => (fun hz => (by obtain ⟨hc1548, hz⟩ := chkE hz; obtain ⟨hc1549, hz⟩ := chkE hz; obtain rfl := Option.some.inj hz; exact (ec_and1 (eb_neV hr (ev_var 6 rfl r1539) (ev_t2 (ea_cons ev_str (ea_cons (an_b ev_bl) ea_nil))) hc1548 hc1549)))) ((andE h_c1550).1 hb1551)) (andE h_c1550).2))) (fun hb1553 s1554 e1555 => ?_) (fun hb1570 s1571 e1572 => ?_)
        · have hm1556 := iteE1 hm1467 hb1553
          have E1557 := E1540.trans e1555
          have fl1558 := Fle.trans fl1541 e1555.f
          have r1559 := Enc.mono e1555.f r1542
          have r1560 := Enc.mono e1555.f r1543
          have r1561 := Enc.mono e1555.f r1544
          have r1562 := Enc.mono e1555.f r1545
          have r1563 := Enc.mono e1555.f r1546
          have r1564 := Enc.mono e1555.f r1547
          have r1565 := Enc.mono e1555.f r1539
          obtain rfl := Option.some.inj hm1556
          obtain rfl := hq1433 _ rfl
          obtain rfl := Option.some.inj hm
          exact do_ret ev_bl fun v1566 s1567 e1568 r1569 => hQ _ _ (E1557.trans e1568) r1569
        · have hm1573 := iteE2 hm1467 hb1570
          have E1574 := E1540.trans e1572
          have fl1575 := Fle.trans fl1541 e1572.f
          have r1576 := Enc.mono e1572.f r1542
          have r1577 := Enc.mono e1572.f r1543
          have r1578 := Enc.mono e1572.f r1544
          have r1579 := Enc.mono e1572.f r1545
          have r1580 := Enc.mono e1572.f r1546
          have r1581 := Enc.mono e1572.f r1547
          have r1582 := Enc.mono e1572.f r1539
          obtain ⟨c1588, h_c1588, hm1573⟩ := bndE hm1573
          refine do_ifR (EvW.tt (EvC.w (by skip; exact ec_andO (eb_v (ev_var 3 rfl r1580)) (fun hb1589 => (fun hz => (by obtain ⟨c1586, h_c1586, hz⟩ := bndE hz; obtain rfl := Option.some.inj hz; exact (ec_and1 (EvC.bb (by skip; exact ec_orO (eb_ne (ev_ixP (ev_var 6 rfl r1582) ev_int p2_0) ev_str) (fun hb1587 => (fun hz => (by obtain ⟨c1584, h_c1584, hz⟩ := bndE hz; obtain rfl := Option.some.inj hz; exact (ec_or1 (EvC.bb (by skip; exact ec_andO (eb_eq (ev_var 4 rfl r1581) ev_int) (fun hb1585 => (fun hz => (by obtain ⟨truth1583, h_truth1583, hz⟩ := bndE hz; obtain rfl := Option.some.inj hz; exact (ec_and1 (eb_isnotB (ev_anB (ev_ixP (ev_var 6 rfl r1582) ev_int p2_1) h_truth1583) ev_bl)))) ((andE h_c1584).1 hb1585)) (andE h_c1584).2))))) ((orE h_c1586).1 hb1587)) (orE h_c1586).2))))) ((andE h_c1588).1 hb1589)) (andE h_c1588).2))) (fun hb1591 s1592 e1593 => ?_) (fun hb1608 s1609 e1610 => ?_)
          · have hm1594 := iteE1 hm1573 hb1591
            have E1595 := E1574.trans e1593
            have fl1596 := Fle.trans fl1575 e1593.f
            have r1597 := Enc.mono e1593.f r1576
            have r1598 := Enc.mono e1593.f r1577
            have r1599 := Enc.mono e1593.f r1578
            have r1600 := Enc.mono e1593.f r1579
            have r1601 := Enc.mono e1593.f r1580
            have r1602 := Enc.mono e1593.f r1581
            have r1603 := Enc.mono e1593.f r1582
            obtain rfl := Option.some.inj hm1594
            obtain rfl := hq1433 _ rfl
            obtain rfl := Option.some.inj hm
            exact do_ret ev_bl fun v1604 s1605 e1606 r1607 => hQ _ _ (E1595.trans e1606) r1607
          · have hm1611 := iteE2 hm1573 hb1608
            have E1612 := E1574.trans e1610
            have fl1613 := Fle.trans fl1575 e1610.f
            have r1614 := Enc.mono e1610.f r1576
            have r1615 := Enc.mono e1610.f r1577
            have r1616 := Enc.mono e1610.f r1578
            have r1617 := Enc.mono e1610.f r1579
            have r1618 := Enc.mono e1610.f r1580
            have r1619 := Enc.mono e1610.f r1581
            have r1620 := Enc.mono e1610.f r1582
            obtain rfl := Option.some.inj hm1611
            exact do_nil ⟨s1609, rfl, _, rfl, fl1613, ⟨E1612, _, _, _, rfl⟩⟩
  · subst ho1635
    replace hm := goN hm
    have hf1636 := Fle.trans k1622.f fl1625
    obtain ⟨E1637, y1638, y1639, y1640, rfl⟩ := hR1626
    have r1641 := Enc.mono hf1636 r1395
    have r1642 := Enc.mono hf1636 r1396
    have r1643 := Enc.mono hf1636 r1397
    have r1644 := Enc.mono hf1636 r1393
    obtain rfl := Option.some.inj hm
    exact do_ret (EvB.v (eb_eqL hr (Ev.r (ev_var 0 rfl r1641)) (Ev.r (ev_var 2 rfl r1643)) (shp_of _) (shp_of _))) fun v1645 s1646 e1647 r1648 => hQ _ _ (E1637.trans e1647) r1648
abbrev s_l_bent : Stmt := topS 27
abbrev N_l_bent : List Str := ["_law_cell", "_law_order_here", "_law_ds", "_law_at", "_law_place"]
theorem sc_l_bent : FnScope N_l_bent ["_law_cell", "_law_order_here"] (defScope s_l_bent) := ⟨rfl, rfl, rfl, by decide +kernel, rfl, by decide +kernel, by decide +kernel⟩
noncomputable def m_l_bent (cell1649 : Int) (order_here1652 : (List Int)) : Option (List Int) :=
 (bnd (m_l_draws cell1649 ([(7 : Int), (40 : Int), (43 : Int), (8 : Int)] : List Int)) fun draws1656 => (lt (draws1656 : (List Int)) fun ds1657 =>
 (bnd (atI ds1657 (1 : Int)) fun at1666 => (chk (0 < (((order_here1652).length : Int) + (1 : Int))) (lt ((at1666 % (((order_here1652).length : Int) + (1 : Int))) : Int) fun at1668 =>
 (bnd (atI ds1657 (2 : Int)) fun at1678 => (chk (0 < (((order_here1652).length : Int) + (2 : Int))) (lt (((at1678 % (((order_here1652).length : Int) + (2 : Int))) - (1 : Int)) : Int) fun place1680 =>
 (bnd (atI ds1657 (3 : Int)) fun at1691 => (bnd (if (decide (at1691 = (0 : Int))) = true then
 (bnd (atI ds1657 (1 : Int)) fun at1706 => (bnd (atI ([((10 : Int) ^ ((59 : Int)).toNat), ((0 : Int) - ((10 : Int) ^ ((59 : Int)).toNat))] : List Int) (at1706 % (2 : Int))) fun at1707 => (lt (at1707 : Int) fun place1708 =>
 (some place1708))))
 else
 (some place1680) : Option Int) fun b1693 =>
 (bnd (atI ds1657 (0 : Int)) fun at1743 => (if (decide (at1743 = (0 : Int))) = true then
 (chk (((cut order_here1652 none (some at1668))).length + (([b1693] : List Int)).length ≤ sizeLine) (chk ((((cut order_here1652 none (some at1668)) ++ ([b1693] : List Int))).length + ((cut order_here1652 (some (at1668 + (1 : Int))) none)).length ≤ sizeLine) (some (((cut order_here1652 none (some at1668)) ++ ([b1693] : List Int)) ++ (cut order_here1652 (some (at1668 + (1 : Int))) none)))))
 else
 (bnd (atI ds1657 (0 : Int)) fun at1771 => (if (decide (at1771 = (1 : Int))) = true then
 (chk (((cut order_here1652 none (some at1668))).length + (([b1693] : List Int)).length ≤ sizeLine) (chk ((((cut order_here1652 none (some at1668)) ++ ([b1693] : List Int))).length + ((cut order_here1652 (some at1668) none)).length ≤ sizeLine) (some (((cut order_here1652 none (some at1668)) ++ ([b1693] : List Int)) ++ (cut order_here1652 (some at1668) none)))))
 else
 (bnd (atI ds1657 (0 : Int)) fun at1799 => (if (decide (at1799 = (2 : Int))) = true then
 (chk (((cut order_here1652 none (some at1668))).length + ((cut order_here1652 (some (at1668 + (1 : Int))) none)).length ≤ sizeLine) (some ((cut order_here1652 none (some at1668)) ++ (cut order_here1652 (some (at1668 + (1 : Int))) none))))
 else
 (bnd (atI ds1657 (0 : Int)) fun at1826 => (if (decide (at1826 = (3 : Int))) = true then
 (chk (((cut order_here1652 none (some at1668))).length + ((cut order_here1652 (some at1668) (some (at1668 + (1 : Int))))).length ≤ sizeLine) (chk ((((cut order_here1652 none (some at1668)) ++ (cut order_here1652 (some at1668) (some (at1668 + (1 : Int)))))).length + ((cut order_here1652 (some at1668) none)).length ≤ sizeLine) (some (((cut order_here1652 none (some at1668)) ++ (cut order_here1652 (some at1668) (some (at1668 + (1 : Int))))) ++ (cut order_here1652 (some at1668) none)))))
 else
 (bnd (atI ds1657 (0 : Int)) fun at1854 => (if (decide (at1854 = (4 : Int))) = true then
 (chk (RgOk 0 (41 : Int)) (chk (RgOk 0 (40 : Int)) (bnd (atI ds1657 (2 : Int)) fun at1868 => (bnd (atI ([([] : List Int), (rng 0 (41 : Int)), (rng 0 (40 : Int)), ([(1 : Int)] : List Int)] : List (List Int)) (at1868 % (4 : Int))) fun at1869 => (some at1869)))))
 else
 (some order_here1652)))))))))))))))))))))
noncomputable abbrev a_l_bent : Int × (List Int) × Unit → Option (List Int) := fun a => m_l_bent a.1 a.2.1
theorem ok_l_bent {P : Program} {w : World} {K : PySem.W.Frag} {mg : Str → Option Value} {base : Heap} {f : Addr} {fd : FuncData} (F : FunP K "_law_bent" s_l_bent f fd) (hmg : mg "_law_bent" = some (.ref f)) (C_l_draws : Cal P w K mg base CX0 1 "_law_draws" (spN K a_l_draws)) (z_len : mg "len" = none) (z_list : mg "list" = none) (z_range : mg "range" = none) : Cal P w K mg base CX0 2 "_law_bent" (sp K a_l_bent) := by
  refine mk_cal (k := 1) F hmg (F.bindsN fun _ _ _ _ _ _ us hl => match us, hl with | [_, _], _ => rfl) sc_l_bent len2 ?_
  rintro cdv A' outer sh0 H0 X0 hr s0 vs ⟨cell1649, order_here1652, _⟩ r0 Q ⟨v1650, _, rfl, r1651, v1653, _, rfl, r1654, rfl⟩ hm hQ
  have E1655 := Ex.refl s0
  unfold a_l_bent m_l_bent at hm
  dsimp only at hm
  obtain ⟨draws1656, h_draws1656, hm⟩ := bndE hm
  refine do_set 2 (EvN.ev (en_call C_l_draws hr (by decide) (ea_cons (ev_var 0 rfl r1651) (ea_cons (EvN.ev (en_list (xs := ([(7 : Int), (40 : Int), (43 : Int), (8 : Int)] : List Int)) (ee_cons ev_int (ee_cons ev_int (ee_cons ev_int (ee_cons ev_int ee_nil)))) (by simp [sizeLine]))) ea_nil)) h_draws1656)) (fun v1661 s1659 e1660 r1662 => ?_) sc_l_bent.nd
  have E1663 := E1655.trans e1660
  have r1664 := Enc.mono e1660.f r1651
  have r1665 := Enc.mono e1660.f r1654
  obtain ⟨ds1657, q1658, hm⟩ := ltE hm
  rw [← q1658] at r1662
  obtain ⟨at1666, h_at1666, hm⟩ := bndE hm
  obtain ⟨hc1667, hm⟩ := chkE hm
  refine do_set 3 (ev_mod (ev_ix (Ev.r (ev_var 2 rfl r1662)) ev_int h_at1666) (ev_add (ev_len z_len (Ev.r (ev_var 1 rfl r1665))) ev_int) hc1667) (fun v1672 s1670 e1671 r1673 => ?_) sc_l_bent.nd
  have E1674 := E1663.trans e1671
  have r1675 := Enc.mono e1671.f r1664
  have r1676 := Enc.mono e1671.f r1665
  have r1677 := Enc.mono e1671.f r1662
  obtain ⟨at1668, q1669, hm⟩ := ltE hm
  rw [← q1669] at r1673
  obtain ⟨at1678, h_at1678, hm⟩ := bndE hm
  obtain ⟨hc1679, hm⟩ := chkE hm
  refine do_set 4 (ev_sub (ev_mod (ev_ix (Ev.r (ev_var 2 rfl r1677)) ev_int h_at1678) (ev_add (ev_len z_len (Ev.r (ev_var 1 rfl r1676))) ev_int) hc1679) ev_int) (fun v1684 s1682 e1683 r1685 => ?_) sc_l_bent.nd
  have E1686 := E1674.trans e1683
  have r1687 := Enc.mono e1683.f r1675
  have r1688 := Enc.mono e1683.f r1676
  have r1689 := Enc.mono e1683.f r1677
  have r1690 := Enc.mono e1683.f r1673
  obtain ⟨place1680, q1681, hm⟩ := ltE hm
  rw [← q1681] at r1685
  obtain ⟨at1691, h_at1691, hm⟩ := bndE hm
  obtain ⟨b1693, hj1694, hm⟩ := bndE hm
  refine do_if (EvB.t (eb_eq (ev_ix (Ev.r (ev_var 2 rfl r1689)) ev_int h_at1691) ev_int)) (fun (σ' : L2.St) (t' : S) => Fle s1682.F t'.F ∧ Ex s0 t' ∧ ∃ (v_place : V), σ' = [some v1650, some v1653, some v1661, some v1672, some v_place] ∧ rep K t'.F v_place (b1693 : Int)) (fun hb1695 s1696 e1697 => ?_) (fun hb1720 s1721 e1722 => ?_) (fun σ1731 s1732 hM1733 => ?_)
  · have hm1698 := iteE1 hj1694 hb1695
    have E1699 := E1686.trans e1697
    have fl1700 := Fle.trans (Fle.refl s1682.F) e1697.f
    have r1701 := Enc.mono e1697.f r1687
    have r1702 := Enc.mono e1697.f r1688
    have r1703 := Enc.mono e1697.f r1689
    have r1704 := Enc.mono e1697.f r1690
    have r1705 := Enc.mono e1697.f r1685
    obtain ⟨at1706, h_at1706, hm1698⟩ := bndE hm1698
    obtain ⟨at1707, h_at1707, hm1698⟩ := bndE hm1698
    refine do_set 4 (ev_ix (EvN.r (en_list (xs := ([((10 : Int) ^ ((59 : Int)).toNat), ((0 : Int) - ((10 : Int) ^ ((59 : Int)).toNat))] : List Int)) (ee_cons (ev_pow ev_int ev_int ⟨by decide, by decide, by decide⟩) (ee_cons (ev_sub ev_int (ev_pow ev_int ev_int ⟨by decide, by decide, by decide⟩)) ee_nil)) (by simp [sizeLine]))) (ev_mod (ev_ix (Ev.r (ev_var 2 rfl r1703)) ev_int h_at1706) ev_int (by decide)) h_at1707) (fun v1712 s1710 e1711 r1713 => ?_) sc_l_bent.nd
    have E1714 := E1699.trans e1711
    have fl1715 := Fle.trans fl1700 e1711.f
    have r1716 := Enc.mono e1711.f r1701
    have r1717 := Enc.mono e1711.f r1702
    have r1718 := Enc.mono e1711.f r1703
    have r1719 := Enc.mono e1711.f r1704
    obtain ⟨place1708, q1709, hm1698⟩ := ltE hm1698
    rw [← q1709] at r1713
    obtain rfl := Option.some.inj hm1698
    exact do_nil ⟨s1710, rfl, fl1715, ⟨E1714, v1712, rfl, r1713⟩⟩
  · have hm1723 := iteE2 hj1694 hb1720
    have E1724 := E1686.trans e1722
    have fl1725 := Fle.trans (Fle.refl s1682.F) e1722.f
    have r1726 := Enc.mono e1722.f r1687
    have r1727 := Enc.mono e1722.f r1688
    have r1728 := Enc.mono e1722.f r1689
    have r1729 := Enc.mono e1722.f r1690
    have r1730 := Enc.mono e1722.f r1685
    obtain rfl := Option.some.inj hm1723
    exact do_nil ⟨s1721, rfl, fl1725, ⟨E1724, v1684, rfl, r1730⟩⟩
  · obtain ⟨hf1734, hR1735⟩ := hM1733
    obtain ⟨E1736, v1737, rfl, r1738⟩ := hR1735
    have r1739 := Enc.mono hf1734 r1687
    have r1740 := Enc.mono hf1734 r1688
    have r1741 := Enc.mono hf1734 r1689
    have r1742 := Enc.mono hf1734 r1690
    obtain ⟨at1743, h_at1743, hm⟩ := bndE hm
    refine do_ifR (EvB.t (eb_eq (ev_ix (Ev.r (ev_var 2 rfl r1741)) ev_int h_at1743) ev_int)) (fun hb1745 s1746 e1747 => ?_) (fun hb1761 s1762 e1763 => ?_)
    · have hm1748 := iteE1 hm hb1745
      have E1749 := E1736.trans e1747
      have r1750 := Enc.mono e1747.f r1738
      have r1751 := Enc.mono e1747.f r1739
      have r1752 := Enc.mono e1747.f r1740
      have r1753 := Enc.mono e1747.f r1741
      have r1754 := Enc.mono e1747.f r1742
      obtain ⟨hc1755, hm1748⟩ := chkE hm1748
      obtain ⟨hc1756, hm1748⟩ := chkE hm1748
      obtain rfl := Option.some.inj hm1748
      exact do_ret (EvN.ev (en_cat (EvN.r (en_cat (EvN.r (en_slice (Ev.r (ev_var 1 rfl r1752)) eo_none (eo_some (ev_var 3 rfl r1754)))) (EvN.r (en_list (xs := ([b1693] : List Int)) (ee_cons (ev_var 4 rfl r1750) ee_nil) (by simp [sizeLine]))) hc1755)) (EvN.r (en_slice (Ev.r (ev_var 1 rfl r1752)) (eo_some (ev_add (ev_var 3 rfl r1754) ev_int)) eo_none)) hc1756)) fun v1757 s1758 e1759 r1760 => hQ _ _ (E1749.trans e1759) r1760
    · have hm1764 := iteE2 hm hb1761
      have E1765 := E1736.trans e1763
      have r1766 := Enc.mono e1763.f r1738
      have r1767 := Enc.mono e1763.f r1739
      have r1768 := Enc.mono e1763.f r1740
      have r1769 := Enc.mono e1763.f r1741
      have r1770 := Enc.mono e1763.f r1742
      obtain ⟨at1771, h_at1771, hm1764⟩ := bndE hm1764
      refine do_ifR (EvB.t (eb_eq (ev_ix (Ev.r (ev_var 2 rfl r1769)) ev_int h_at1771) ev_int)) (fun hb1773 s1774 e1775 => ?_) (fun hb1789 s1790 e1791 => ?_)
      · have hm1776 := iteE1 hm1764 hb1773
        have E1777 := E1765.trans e1775
        have r1778 := Enc.mono e1775.f r1766
        have r1779 := Enc.mono e1775.f r1767
        have r1780 := Enc.mono e1775.f r1768
        have r1781 := Enc.mono e1775.f r1769
        have r1782 := Enc.mono e1775.f r1770
        obtain ⟨hc1783, hm1776⟩ := chkE hm1776
        obtain ⟨hc1784, hm1776⟩ := chkE hm1776
        obtain rfl := Option.some.inj hm1776
        exact do_ret (EvN.ev (en_cat (EvN.r (en_cat (EvN.r (en_slice (Ev.r (ev_var 1 rfl r1780)) eo_none (eo_some (ev_var 3 rfl r1782)))) (EvN.r (en_list (xs := ([b1693] : List Int)) (ee_cons (ev_var 4 rfl r1778) ee_nil) (by simp [sizeLine]))) hc1783)) (EvN.r (en_slice (Ev.r (ev_var 1 rfl r1780)) (eo_some (ev_var 3 rfl r1782)) eo_none)) hc1784)) fun v1785 s1786 e1787 r1788 => hQ _ _ (E1777.trans e1787) r1788
      · have hm1792 := iteE2 hm1764 hb1789
        have E1793 := E1765.trans e1791
        have r1794 := Enc.mono e1791.f r1766
        have r1795 := Enc.mono e1791.f r1767
        have r1796 := Enc.mono e1791.f r1768
        have r1797 := Enc.mono e1791.f r1769
        have r1798 := Enc.mono e1791.f r1770
        obtain ⟨at1799, h_at1799, hm1792⟩ := bndE hm1792
        refine do_ifR (EvB.t (eb_eq (ev_ix (Ev.r (ev_var 2 rfl r1797)) ev_int h_at1799) ev_int)) (fun hb1801 s1802 e1803 => ?_) (fun hb1816 s1817 e1818 => ?_)
        · have hm1804 := iteE1 hm1792 hb1801
          have E1805 := E1793.trans e1803
          have r1806 := Enc.mono e1803.f r1794
          have r1807 := Enc.mono e1803.f r1795
          have r1808 := Enc.mono e1803.f r1796
          have r1809 := Enc.mono e1803.f r1797
          have r1810 := Enc.mono e1803.f r1798
          obtain ⟨hc1811, hm1804⟩ := chkE hm1804
          obtain rfl := Option.some.inj hm1804
          exact do_ret (EvN.ev (en_cat (EvN.r (en_slice (Ev.r (ev_var 1 rfl r1808)) eo_none (eo_some (ev_var 3 rfl r1810)))) (EvN.r (en_slice (Ev.r (ev_var 1 rfl r1808)) (eo_some (ev_add (ev_var 3 rfl r1810) ev_int)) eo_none)) hc1811)) fun v1812 s1813 e1814 r1815 => hQ _ _ (E1805.trans e1814) r1815
        · have hm1819 := iteE2 hm1792 hb1816
          have E1820 := E1793.trans e1818
          have r1821 := Enc.mono e1818.f r1794
          have r1822 := Enc.mono e1818.f r1795
          have r1823 := Enc.mono e1818.f r1796
          have r1824 := Enc.mono e1818.f r1797
          have r1825 := Enc.mono e1818.f r1798
          obtain ⟨at1826, h_at1826, hm1819⟩ := bndE hm1819
          refine do_ifR (EvB.t (eb_eq (ev_ix (Ev.r (ev_var 2 rfl r1824)) ev_int h_at1826) ev_int)) (fun hb1828 s1829 e1830 => ?_) (fun hb1844 s1845 e1846 => ?_)
          · have hm1831 := iteE1 hm1819 hb1828
            have E1832 := E1820.trans e1830
            have r1833 := Enc.mono e1830.f r1821
            have r1834 := Enc.mono e1830.f r1822
            have r1835 := Enc.mono e1830.f r1823
            have r1836 := Enc.mono e1830.f r1824
            have r1837 := Enc.mono e1830.f r1825
            obtain ⟨hc1838, hm1831⟩ := chkE hm1831
            obtain ⟨hc1839, hm1831⟩ := chkE hm1831
            obtain rfl := Option.some.inj hm1831
            exact do_ret (EvN.ev (en_cat (EvN.r (en_cat (EvN.r (en_slice (Ev.r (ev_var 1 rfl r1835)) eo_none (eo_some (ev_var 3 rfl r1837)))) (EvN.r (en_slice (Ev.r (ev_var 1 rfl r1835)) (eo_some (ev_var 3 rfl r1837)) (eo_some (ev_add (ev_var 3 rfl r1837) ev_int)))) hc1838)) (EvN.r (en_slice (Ev.r (ev_var 1 rfl r1835)) (eo_some (ev_var 3 rfl r1837)) eo_none)) hc1839)) fun v1840 s1841 e1842 r1843 => hQ _ _ (E1832.trans e1842) r1843
          · have hm1847 := iteE2 hm1819 hb1844
            have E1848 := E1820.trans e1846
            have r1849 := Enc.mono e1846.f r1821
            have r1850 := Enc.mono e1846.f r1822
            have r1851 := Enc.mono e1846.f r1823
            have r1852 := Enc.mono e1846.f r1824
            have r1853 := Enc.mono e1846.f r1825
            obtain ⟨at1854, h_at1854, hm1847⟩ := bndE hm1847
            refine do_ifR (EvB.t (eb_eq (ev_ix (Ev.r (ev_var 2 rfl r1852)) ev_int h_at1854) ev_int)) (fun hb1856 s1857 e1858 => ?_) (fun hb1874 s1875 e1876 => ?_)
            · have hm1859 := iteE1 hm1847 hb1856
              have E1860 := E1848.trans e1858
              have r1861 := Enc.mono e1858.f r1849
              have r1862 := Enc.mono e1858.f r1850
              have r1863 := Enc.mono e1858.f r1851
              have r1864 := Enc.mono e1858.f r1852
              have r1865 := Enc.mono e1858.f r1853
              obtain ⟨hc1866, hm1859⟩ := chkE hm1859
              obtain ⟨hc1867, hm1859⟩ := chkE hm1859
              obtain ⟨at1868, h_at1868, hm1859⟩ := bndE hm1859
              obtain ⟨at1869, h_at1869, hm1859⟩ := bndE hm1859
              obtain rfl := Option.some.inj hm1859
              exact do_ret (ev_ix (EvN.r (en_list (xs := ([([] : List Int), (rng 0 (41 : Int)), (rng 0 (40 : Int)), ([(1 : Int)] : List Int)] : List (List Int))) (ee_cons (EvN.ev (en_list (xs := ([] : List Int)) ee_nil (by simp [sizeLine]))) (ee_cons (EvN.ev (en_listRg1 z_list z_range ev_int hc1866)) (ee_cons (EvN.ev (en_listRg1 z_list z_range ev_int hc1867)) (ee_cons (EvN.ev (en_list (xs := ([(1 : Int)] : List Int)) (ee_cons ev_int ee_nil) (by simp [sizeLine]))) ee_nil)))) (by simp [sizeLine]))) (ev_mod (ev_ix (Ev.r (ev_var 2 rfl r1864)) ev_int h_at1868) ev_int (by decide)) h_at1869) fun v1870 s1871 e1872 r1873 => hQ _ _ (E1860.trans e1872) r1873
            · have hm1877 := iteE2 hm1847 hb1874
              have E1878 := E1848.trans e1876
              have r1879 := Enc.mono e1876.f r1849
              have r1880 := Enc.mono e1876.f r1850
              have r1881 := Enc.mono e1876.f r1851
              have r1882 := Enc.mono e1876.f r1852
              have r1883 := Enc.mono e1876.f r1853
              obtain rfl := Option.some.inj hm1877
              exact do_ret (ev_var 1 rfl r1881) fun v1884 s1885 e1886 r1887 => hQ _ _ (E1878.trans e1886) r1887
abbrev s_law : Stmt := topS 32
abbrev N_law : List Str := ["_law_script", "_law_k", "_law_cell", "_law_order_here", "_law_other"]
theorem sc_law : FnScope N_law ["_law_script"] (defScope s_law) := ⟨rfl, rfl, rfl, by decide +kernel, rfl, by decide +kernel, by decide +kernel⟩
noncomputable def m_law (script1888 : (List Int)) : Option Bool :=
 (chk (RgB ((1 : Int) + ((((cut script1888 none (some (59 : Int)))).length : Int) / (2 : Int)))) (bnd (foldF (ρ := Bool) (fun (b1895 : Unit) (x1897 : Int) =>
 (bnd (m_l_cell_at script1888 ((2 : Int) * x1897)) fun cell_at1923 => (lt (cell_at1923 : Int) fun cell1924 =>
 (bnd (atI ([(12 : Int), (40 : Int)] : List Int) (if (decide ((cell1924 % (8 : Int)) = (3 : Int))) = true then (1 : Int) else 0)) fun at1934 => (bnd (m_l_order (cell1924 / (8 : Int)) at1934) fun order1935 => (lt (order1935 : (List Int)) fun order_here1936 =>
 (bnd (m_l_cell_at script1888 (((2 : Int) * x1897) + (1 : Int))) fun cell_at1947 => (lt (cell_at1947 : Int) fun other1948 =>
 (bnd (m_l_bent other1948 order_here1936) fun bent1960 => (bnd (m_l_right bent1960 (other1948 % ((10 : Int) ^ ((59 : Int)).toNat))) fun right1961 => (if (!right1961) = true then
 (some (Fl.rt false))
 else
 (some (Fl.nx ()))))))))))))) () (rng 0 ((1 : Int) + ((((cut script1888 none (some (59 : Int)))).length : Int) / (2 : Int))))) fun o1893 =>
 (Fl.go o1893 (fun b1999 => (some true)) (fun rr => (some rr)))))
noncomputable abbrev a_law : (List Int) × Unit → Option Bool := fun a => m_law a.1
theorem ok_law_fn {P : Program} {w : World} {K : PySem.W.Frag} {mg : Str → Option Value} {base : Heap} {f : Addr} {fd : FuncData} (F : FunP K "law" s_law f fd) (hmg : mg "law" = some (.ref f)) (C_l_cell_at : Cal P w K mg base CX0 1 "_law_cell_at" (sp K a_l_cell_at)) (C_l_order : Cal P w K mg base CX0 2 "_law_order" (spN K a_l_order)) (C_l_right : Cal P w K mg base CX0 5 "_law_right" (sp K a_l_right)) (C_l_bent : Cal P w K mg base CX0 2 "_law_bent" (sp K a_l_bent)) (z_range : mg "range" = none) (z_len : mg "len" = none) (z_int : mg "int" = none) : FnOk P w K mg base CX0 6 f fd ["_law_script"] (sp K a_law) := by
  refine mk_fn (k := 5) F sc_law len1 ?_
  rintro cdv A' outer sh0 H0 X0 hr s0 vs ⟨script1888, _⟩ r0 Q ⟨v1889, _, rfl, r1890, rfl⟩ hm hQ
  have E1891 := Ex.refl s0
  unfold a_law m_law at hm
  dsimp only at hm
  obtain ⟨hc1892, hm⟩ := chkE hm
  obtain ⟨o1893, ho1894, hm⟩ := bndE hm
  refine do_forF (ρ := Bool) (υ := Unit) PassesOwn.never rfl (ei_range1 z_range (ev_add ev_int (ev_div (ev_len z_len (EvN.r (en_slice (Ev.r (ev_var 0 rfl r1890)) eo_none (eo_some ev_int)))) ev_int ⟨by decide, by decide +kernel⟩)) hc1892) (pg_name (i := 1) sc_law.nd rfl (by first | exact Or.inl rfl | exact Or.inr rfl)) tg_n ho1894 (fun (b1895 : Unit) (σ' : L2.St) (t' : S) => Ex s0 t' ∧ ∃ (y_cell : Option V) (y_order_here : Option V) (y_other : Option V) (y_k : Option V), σ' = [some v1889, y_k, y_cell, y_order_here, y_other]) (fun s1995 k1996 => by have E1997 := E1891.trans k1996; have r1998 := Enc.mono k1996.f r1890; exact ⟨E1997, _, _, _, _, rfl⟩) (fun s1898 k1899 x1897 b1895 q1921 σ1908 σ1909 t1906 t1907 hx1900 hm1901 hq1922 fl1902 hR1903 k1904 hB1905 => ?_) (fun s1989 k1990 b1999 σ1991 t1992 ho2000 fl1993 hR1994 => ?_)
  · have hf1910 := Fle.trans k1899.f fl1902
    obtain ⟨E1911, y1912, y1913, y1914, y1915, rfl⟩ := hR1903
    have r1916 := Enc.mono hf1910 r1890
    obtain ⟨v1917, r1918, rfl⟩ := hB1905
    have E1919 := E1911.trans k1904
    have r1920 := Enc.mono k1904.f r1916
    obtain ⟨cell_at1923, h_cell_at1923, hm1901⟩ := bndE hm1901
    refine do_set 2 (ev_call C_l_cell_at hr (by decide) (ea_cons (ev_var 0 rfl r1920) (ea_cons (ev_mul ev_int (ev_var 1 rfl r1918) (Or.inl (Or.inl ⟨by omega, by omega⟩))) ea_nil)) h_cell_at1923) (fun v1928 s1926 e1927 r1929 => ?_) sc_law.nd
    have E1930 := E1919.trans e1927
    have fl1931 := Fle.trans (Fle.refl t1907.F) e1927.f
    have r1932 := Enc.mono e1927.f r1920
    have r1933 := Enc.mono e1927.f r1918
    obtain ⟨cell1924, q1925, hm1901⟩ := ltE hm1901
    rw [← q1925] at r1929
    obtain ⟨at1934, h_at1934, hm1901⟩ := bndE hm1901
    obtain ⟨order1935, h_order1935, hm1901⟩ := bndE hm1901
    refine do_set 3 (EvN.ev (en_call C_l_order hr (by decide) (ea_cons (ev_div (ev_var 2 rfl r1929) ev_int ⟨by decide, by decide +kernel⟩) (ea_cons (ev_ix (EvN.r (en_list (xs := ([(12 : Int), (40 : Int)] : List Int)) (ee_cons ev_int (ee_cons ev_int ee_nil)) (by simp [sizeLine]))) (ev_intB z_int (EvB.v (eb_eq (ev_mod (ev_var 2 rfl r1929) ev_int (by decide)) ev_int))) h_at1934) ea_nil)) h_order1935)) (fun v1940 s1938 e1939 r1941 => ?_) sc_law.nd
    have E1942 := E1930.trans e1939
    have fl1943 := Fle.trans fl1931 e1939.f
    have r1944 := Enc.mono e1939.f r1932
    have r1945 := Enc.mono e1939.f r1933
    have r1946 := Enc.mono e1939.f r1929
    obtain ⟨order_here1936, q1937, hm1901⟩ := ltE hm1901
    rw [← q1937] at r1941
    obtain ⟨cell_at1947, h_cell_at1947, hm1901⟩ := bndE hm1901
    refine do_set 4 (ev_call C_l_cell_at hr (by decide) (ea_cons (ev_var 0 rfl r1944) (ea_cons (ev_add (ev_mul ev_int (ev_var 1 rfl r1945) (Or.inl (Or.inl ⟨by omega, by omega⟩))) ev_int) ea_nil)) h_cell_at1947) (fun v1952 s1950 e1951 r1953 => ?_) sc_law.nd
    have E1954 := E1942.trans e1951
    have fl1955 := Fle.trans fl1943 e1951.f
    have r1956 := Enc.mono e1951.f r1944
    have r1957 := Enc.mono e1951.f r1945
    have r1958 := Enc.mono e1951.f r1946
    have r1959 := Enc.mono e1951.f r1941
    obtain ⟨other1948, q1949, hm1901⟩ := ltE hm1901
    rw [← q1949] at r1953
    obtain ⟨bent1960, h_bent1960, hm1901⟩ := bndE hm1901
    obtain ⟨right1961, h_right1961, hm1901⟩ := bndE hm1901
    refine do_ifR (EvB.t (eb_not (eb_v (ev_call C_l_right hr (by decide) (ea_cons (ev_call C_l_bent hr (by decide) (ea_cons (ev_var 4 rfl r1953) (ea_cons (ev_var 3 rfl r1959) ea_nil)) h_bent1960) (ea_cons (ev_mod (ev_var 4 rfl r1953) (ev_pow ev_int ev_int ⟨by decide, by decide, by decide⟩) (by decide)) ea_nil)) h_right1961)))) (fun hb1963 s1964 e1965 => ?_) (fun hb1978 s1979 e1980 => ?_)
    · have hm1966 := iteE1 hm1901 hb1963
      have E1967 := E1954.trans e1965
      have fl1968 := Fle.trans fl1955 e1965.f
      have r1969 := Enc.mono e1965.f r1956
      have r1970 := Enc.mono e1965.f r1957
      have r1971 := Enc.mono e1965.f r1958
      have r1972 := Enc.mono e1965.f r1959
      have r1973 := Enc.mono e1965.f r1953
      obtain rfl := Option.some.inj hm1966
      obtain rfl := hq1922 _ rfl
      obtain rfl := Option.some.inj hm
      exact do_ret ev_bl fun v1974 s1975 e1976 r1977 => hQ _ _ (E1967.trans e1976) r1977
    · have hm1981 := iteE2 hm1901 hb1978
      have E1982 := E1954.trans e1980
      have fl1983 := Fle.trans fl1955 e1980.f
      have r1984 := Enc.mono e1980.f r1956
      have r1985 := Enc.mono e1980.f r1957
      have r1986 := Enc.mono e1980.f r1958
      have r1987 := Enc.mono e1980.f r1959
      have r1988 := Enc.mono e1980.f r1953
      obtain rfl := Option.some.inj hm1981
      exact do_nil ⟨s1979, rfl, _, rfl, fl1983, ⟨E1982, _, _, _, _, rfl⟩⟩
  · subst ho2000
    replace hm := goN hm
    have hf2001 := Fle.trans k1990.f fl1993
    obtain ⟨E2002, y2003, y2004, y2005, y2006, rfl⟩ := hR1994
    have r2007 := Enc.mono hf2001 r1890
    obtain rfl := Option.some.inj hm
    exact do_ret ev_bl fun v2008 s2009 e2010 r2011 => hQ _ _ (E2002.trans e2010) r2011
def d_l_cell_at : He.DefD := ⟨("_law_cell_at", none), "_law_cell_at", "_law_cell_at", defArgs s_l_cell_at, defBody s_l_cell_at, defScope s_l_cell_at, [], []⟩
def d_l_draws : He.DefD := ⟨("_law_draws", none), "_law_draws", "_law_draws", defArgs s_l_draws, defBody s_l_draws, defScope s_l_draws, [], []⟩
def d_l_order : He.DefD := ⟨("_law_order", none), "_law_order", "_law_order", defArgs s_l_order, defBody s_l_order, defScope s_l_order, [], []⟩
def d_l_is_order : He.DefD := ⟨("_law_is_order", none), "_law_is_order", "_law_is_order", defArgs s_l_is_order, defBody s_l_is_order, defScope s_l_is_order, [], []⟩
def d_asked_order : He.DefD := ⟨("asked_order", none), "asked_order", "asked_order", defArgs s_asked_order, defBody s_asked_order, defScope s_asked_order, [], []⟩
def d_meet_of : He.DefD := ⟨("meet_of", none), "meet_of", "meet_of", defArgs s_meet_of, defBody s_meet_of, defScope s_meet_of, [], []⟩
def d_turns_from : He.DefD := ⟨("turns_from", none), "turns_from", "turns_from", defArgs s_turns_from, defBody s_turns_from, defScope s_turns_from, [], []⟩
def d_after_services : He.DefD := ⟨("after_services", none), "after_services", "after_services", defArgs s_after_services, defBody s_after_services, defScope s_after_services, [], []⟩
def d_common_by : He.DefD := ⟨("common_by", none), "common_by", "common_by", defArgs s_common_by, defBody s_common_by, defScope s_common_by, [], []⟩
def d_round_of : He.DefD := ⟨("round_of", none), "round_of", "round_of", defArgs s_round_of, defBody s_round_of, defScope s_round_of, [], []⟩
def d_l_asked : He.DefD := ⟨("_law_asked", none), "_law_asked", "_law_asked", defArgs s_l_asked, defBody s_l_asked, defScope s_l_asked, [], []⟩
def d_l_told : He.DefD := ⟨("_law_told", none), "_law_told", "_law_told", defArgs s_l_told, defBody s_l_told, defScope s_l_told, [], []⟩
def d_l_right : He.DefD := ⟨("_law_right", none), "_law_right", "_law_right", defArgs s_l_right, defBody s_l_right, defScope s_l_right, [], []⟩
def d_l_bent : He.DefD := ⟨("_law_bent", none), "_law_bent", "_law_bent", defArgs s_l_bent, defBody s_l_bent, defScope s_l_bent, [], []⟩
def d_law : He.DefD := ⟨("law", none), "law", "law", defArgs s_law, defBody s_law, defScope s_law, [], []⟩
def fn : List He.DefD := [d_l_cell_at, d_l_draws, d_l_order, d_l_is_order, d_asked_order, d_meet_of, d_turns_from, d_after_services, d_common_by, d_round_of, d_l_asked, d_l_told, d_l_right, d_l_bent, d_law]
def gs (K : PySem.W.Frag) : Bool := tab.ok K
def fa : List He.Fa := [.glo "_law_cell_at", .glo "_law_draws", .glo "_law_order", .glo "_law_is_order", .glo "asked_order", .glo "meet_of", .glo "turns_from", .glo "after_services", .glo "common_by", .glo "round_of", .glo "_law_asked", .glo "_law_told", .glo "_law_right", .glo "_law_bent", .glo "law", .free "len", .free "range", .free "list", .free "sorted", .free "isinstance", .free "ValueError", .free "int", .glo "NoOrder", .glo "PairsError", .glo "NoBars", .glo "NoBreak", .glo "NoCall", .glo "NoInstrument", .glo "NoLine", .glo "NoName", .glo "NoPlace", .glo "NoPlayer", .glo "NoSeating", .glo "NoText", .glo "NoTimes", .glo "Twice", .exc "NoOrder"]
abbrev R : PySem.W.OpenRow := PySem.W.OpenLaw.row PySem.Challenge.rw_deskpairs_k40_orders_refused
abbrev hk : PySem.W.Hook := Dy.hookX 4 fa fn gs
def ob (s : PySem.W.SharedT) : Bool × He.AlD := Dy.obsX 4 fa fn gs (HandSHeadRun.getT s)
theorem ob_eq (s : PySem.W.SharedT) : ob s = hk.obs s.abs := Dy.obsX_eq (HandSHeadRun.getT_eq s)
def loose0 : List Str := ["PairsError", "NoBars", "NoTimes", "NoSeating", "NoOrder", "NoText", "NoCall", "NoBreak", "NoInstrument", "NoLine", "NoPlayer", "NoPlace", "Twice", "NoName", "asked_order", "turns_from", "after_services", "common_by", "round_of", "meet_of", "_law_cell_at", "_law_draws", "_law_order", "_law_bent", "_law_is_order", "_law_asked", "_law_told", "_law_right"]
def loose : List Str := loose0
theorem run (w : World) : HandSHeadRun.RunEq R (PySem.W.view R.prog [32]) hk ob 7320 loose w := by
  intro os
  kernel_rfl
theorem facts {P : Program} {w : World} {K : PySem.W.Frag} {h : Heap} {mg : Str → Option Value} {f : Addr} (X : K.In h) (G : h.Ns mainGlobals mg) (hfa : mg ("law" : Str) = some (.ref f)) (c : He.SaysD fa fn K) (GS : gs K = true) :
    ∃ fd : FuncData, (∀ (s : Shared) (v : Value), BindsTo s fd ⟨[v], []⟩ [("_law_script", v)]) ∧ ∀ base : Heap, K.In base → base.Ns mainGlobals mg → FnOk P w K mg base CX0 6 f fd ["_law_script"] (sp K a_law) := by
  obtain ⟨fd_l_cell_at, F_l_cell_at⟩ := c.def_ 0 (d := d_l_cell_at) rfl
  have g_l_cell_at : mg "_law_cell_at" = some (.ref (He.fAd K ("_law_cell_at", none))) := He.glo_ok X G (c.fact 0 (f := .glo "_law_cell_at") rfl)
  obtain ⟨fd_l_draws, F_l_draws⟩ := c.def_ 1 (d := d_l_draws) rfl
  have g_l_draws : mg "_law_draws" = some (.ref (He.fAd K ("_law_draws", none))) := He.glo_ok X G (c.fact 1 (f := .glo "_law_draws") rfl)
  obtain ⟨fd_l_order, F_l_order⟩ := c.def_ 2 (d := d_l_order) rfl
  have g_l_order : mg "_law_order" = some (.ref (He.fAd K ("_law_order", none))) := He.glo_ok X G (c.fact 2 (f := .glo "_law_order") rfl)
  obtain ⟨fd_l_is_order, F_l_is_order⟩ := c.def_ 3 (d := d_l_is_order) rfl
  have g_l_is_order : mg "_law_is_order" = some (.ref (He.fAd K ("_law_is_order", none))) := He.glo_ok X G (c.fact 3 (f := .glo "_law_is_order") rfl)
  obtain ⟨fd_asked_order, F_asked_order⟩ := c.def_ 4 (d := d_asked_order) rfl
  have g_asked_order : mg "asked_order" = some (.ref (He.fAd K ("asked_order", none))) := He.glo_ok X G (c.fact 4 (f := .glo "asked_order") rfl)
  obtain ⟨fd_meet_of, F_meet_of⟩ := c.def_ 5 (d := d_meet_of) rfl
  have g_meet_of : mg "meet_of" = some (.ref (He.fAd K ("meet_of", none))) := He.glo_ok X G (c.fact 5 (f := .glo "meet_of") rfl)
  obtain ⟨fd_turns_from, F_turns_from⟩ := c.def_ 6 (d := d_turns_from) rfl
  have g_turns_from : mg "turns_from" = some (.ref (He.fAd K ("turns_from", none))) := He.glo_ok X G (c.fact 6 (f := .glo "turns_from") rfl)
  obtain ⟨fd_after_services, F_after_services⟩ := c.def_ 7 (d := d_after_services) rfl
  have g_after_services : mg "after_services" = some (.ref (He.fAd K ("after_services", none))) := He.glo_ok X G (c.fact 7 (f := .glo "after_services") rfl)
  obtain ⟨fd_common_by, F_common_by⟩ := c.def_ 8 (d := d_common_by) rfl
  have g_common_by : mg "common_by" = some (.ref (He.fAd K ("common_by", none))) := He.glo_ok X G (c.fact 8 (f := .glo "common_by") rfl)
  obtain ⟨fd_round_of, F_round_of⟩ := c.def_ 9 (d := d_round_of) rfl
  have g_round_of : mg "round_of" = some (.ref (He.fAd K ("round_of", none))) := He.glo_ok X G (c.fact 9 (f := .glo "round_of") rfl)
  obtain ⟨fd_l_asked, F_l_asked⟩ := c.def_ 10 (d := d_l_asked) rfl
  have g_l_asked : mg "_law_asked" = some (.ref (He.fAd K ("_law_asked", none))) := He.glo_ok X G (c.fact 10 (f := .glo "_law_asked") rfl)
  obtain ⟨fd_l_told, F_l_told⟩ := c.def_ 11 (d := d_l_told) rfl
  have g_l_told : mg "_law_told" = some (.ref (He.fAd K ("_law_told", none))) := He.glo_ok X G (c.fact 11 (f := .glo "_law_told") rfl)
  obtain ⟨fd_l_right, F_l_right⟩ := c.def_ 12 (d := d_l_right) rfl
  have g_l_right : mg "_law_right" = some (.ref (He.fAd K ("_law_right", none))) := He.glo_ok X G (c.fact 12 (f := .glo "_law_right") rfl)
  obtain ⟨fd_l_bent, F_l_bent⟩ := c.def_ 13 (d := d_l_bent) rfl
  have g_l_bent : mg "_law_bent" = some (.ref (He.fAd K ("_law_bent", none))) := He.glo_ok X G (c.fact 13 (f := .glo "_law_bent") rfl)
  obtain ⟨fd_law, F_law⟩ := c.def_ 14 (d := d_law) rfl
  have g_law : mg "law" = some (.ref (He.fAd K ("law", none))) := He.glo_ok X G (c.fact 14 (f := .glo "law") rfl)
  have z_len : mg "len" = none := He.free_ok X G (c.fact 15 (f := .free "len") rfl)
  have z_range : mg "range" = none := He.free_ok X G (c.fact 16 (f := .free "range") rfl)
  have z_list : mg "list" = none := He.free_ok X G (c.fact 17 (f := .free "list") rfl)
  have z_sorted : mg "sorted" = none := He.free_ok X G (c.fact 18 (f := .free "sorted") rfl)
  have z_isinstance : mg "isinstance" = none := He.free_ok X G (c.fact 19 (f := .free "isinstance") rfl)
  have z_ValueError : mg "ValueError" = none := He.free_ok X G (c.fact 20 (f := .free "ValueError") rfl)
  have z_int : mg "int" = none := He.free_ok X G (c.fact 21 (f := .free "int") rfl)
  unfold gs at GS
  have TB : tab.ok K = true := GS
  have N_NoOrder : mg "NoOrder" = some (.ref (He.ga K "NoOrder")) := He.glo_ok X G (c.fact 22 (f := .glo "NoOrder") rfl)
  have N_PairsError : mg "PairsError" = some (.ref (He.ga K "PairsError")) := He.glo_ok X G (c.fact 23 (f := .glo "PairsError") rfl)
  have N_NoBars : mg "NoBars" = some (.ref (He.ga K "NoBars")) := He.glo_ok X G (c.fact 24 (f := .glo "NoBars") rfl)
  have N_NoBreak : mg "NoBreak" = some (.ref (He.ga K "NoBreak")) := He.glo_ok X G (c.fact 25 (f := .glo "NoBreak") rfl)
  have N_NoCall : mg "NoCall" = some (.ref (He.ga K "NoCall")) := He.glo_ok X G (c.fact 26 (f := .glo "NoCall") rfl)
  have N_NoInstrument : mg "NoInstrument" = some (.ref (He.ga K "NoInstrument")) := He.glo_ok X G (c.fact 27 (f := .glo "NoInstrument") rfl)
  have N_NoLine : mg "NoLine" = some (.ref (He.ga K "NoLine")) := He.glo_ok X G (c.fact 28 (f := .glo "NoLine") rfl)
  have N_NoName : mg "NoName" = some (.ref (He.ga K "NoName")) := He.glo_ok X G (c.fact 29 (f := .glo "NoName") rfl)
  have N_NoPlace : mg "NoPlace" = some (.ref (He.ga K "NoPlace")) := He.glo_ok X G (c.fact 30 (f := .glo "NoPlace") rfl)
  have N_NoPlayer : mg "NoPlayer" = some (.ref (He.ga K "NoPlayer")) := He.glo_ok X G (c.fact 31 (f := .glo "NoPlayer") rfl)
  have N_NoSeating : mg "NoSeating" = some (.ref (He.ga K "NoSeating")) := He.glo_ok X G (c.fact 32 (f := .glo "NoSeating") rfl)
  have N_NoText : mg "NoText" = some (.ref (He.ga K "NoText")) := He.glo_ok X G (c.fact 33 (f := .glo "NoText") rfl)
  have N_NoTimes : mg "NoTimes" = some (.ref (He.ga K "NoTimes")) := He.glo_ok X G (c.fact 34 (f := .glo "NoTimes") rfl)
  have N_Twice : mg "Twice" = some (.ref (He.ga K "Twice")) := He.glo_ok X G (c.fact 35 (f := .glo "Twice") rfl)
  have T_NoOrder : ExcF K mg "NoOrder" := by
    obtain ⟨h1, h2, h3, h4⟩ := He.exc_ok (c.fact 36 (f := .exc "NoOrder") rfl)
    exact ⟨h1, h2, h3, h4, N_NoOrder⟩
  have e := hfa.symm.trans g_law
  cases e
  have b := FunD.bindsA (ps := ["_law_script"]) F_law fun _ _ _ _ _ _ us hl => match us, hl with | [_], _ => rfl
  refine ⟨fd_law, fun s v => b s [v] rfl, fun base _ _ => ?_⟩
  have C_l_cell_at := ok_l_cell_at (P := P) (w := w) (base := base) F_l_cell_at g_l_cell_at z_len
  have C_l_draws := ok_l_draws (P := P) (w := w) (base := base) F_l_draws g_l_draws z_range z_len
  have C_l_order := ok_l_order (P := P) (w := w) (base := base) F_l_order g_l_order C_l_draws z_list z_range z_len
  have C_l_is_order := ok_l_is_order (P := P) (w := w) (base := base) F_l_is_order g_l_is_order z_len z_range
  have C_asked_order := ok_asked_order (P := P) (w := w) (base := base) F_asked_order g_asked_order z_len z_sorted z_list z_range T_NoOrder
  have C_meet_of := ok_meet_of (P := P) (w := w) (base := base) F_meet_of g_meet_of C_asked_order z_len
  have C_turns_from := ok_turns_from (P := P) (w := w) (base := base) F_turns_from g_turns_from 
  have C_after_services := ok_after_services (P := P) (w := w) (base := base) F_after_services g_after_services C_asked_order C_turns_from z_range z_len
  have C_common_by := ok_common_by (P := P) (w := w) (base := base) F_common_by g_common_by 
  have C_round_of := ok_round_of (P := P) (w := w) (base := base) F_round_of g_round_of C_asked_order C_turns_from C_common_by z_range z_len
  have C_l_asked := ok_l_asked (P := P) (w := w) (base := base) F_l_asked g_l_asked C_asked_order C_after_services C_round_of C_meet_of
  have C_l_told := ok_l_told (P := P) (w := w) (base := base) F_l_told g_l_told C_l_asked z_isinstance z_ValueError N_PairsError N_NoOrder N_NoBars N_NoBreak N_NoCall N_NoInstrument N_NoLine N_NoName N_NoPlace N_NoPlayer N_NoSeating N_NoText N_NoTimes N_Twice TB
  have C_l_right := ok_l_right (P := P) (w := w) (base := base) F_l_right g_l_right C_l_is_order C_l_told z_list z_range z_len
  have C_l_bent := ok_l_bent (P := P) (w := w) (base := base) F_l_bent g_l_bent C_l_draws z_len z_list z_range
  exact ok_law_fn (P := P) (w := w) (base := base) F_law g_law C_l_cell_at C_l_order C_l_right C_l_bent z_range z_len z_int
theorem draws_ok {cell : Int} {sizes : List Int} (h1 : ∀ n ∈ sizes, 0 < n ∧ n < 100000000) (h2 : sizes.length ≤ 1000) : Ok (m_l_draws cell sizes) (Drawn sizes) := by
  unfold m_l_draws
  have hz := szl
  refine ok_lt fun f hf => ok_lt fun n _ => ok_chk ⟨by omega, by omega⟩ (ok_bnd (P := fun b => Drawn sizes b.1) (ok_foldO (fun i b => b.1.length = i ∧ ∀ (j : Nat) (d n : Int), b.1[j]? = some d → sizes[j]? = some n → 0 ≤ d ∧ d < n) ⟨by rw [hf]; rfl, by rw [hf]; simp⟩ ?_ ?_) ?_)
  · rintro i ⟨b1, b2⟩ x hx ⟨hl, hm⟩
    obtain ⟨e1, e2⟩ := rng_at hx
    dsimp only at hl hm ⊢
    have hi : i < sizes.length := by omega
    have hs : sizes[i]? = some sizes[i] := List.getElem?_eq_getElem hi
    obtain ⟨p1, p2⟩ := h1 sizes[i] (List.getElem_mem hi)
    have hat : atI sizes x = some sizes[i] := by
      rw [e1, Int.zero_add, atI_nat hs]
    refine ok_chk (mul_l (by omega) (by omega)) (ok_lt fun m1 _ => ok_lt fun m2 _ => ?_)
    refine ok_bnd (P := fun _ => True) (ok_ite (fun _ => ok_lt fun _ _ => ok_some trivial) (fun _ => ok_some trivial)) fun v _ => ?_
    refine ok_bnd (P := fun s => s = sizes[i]) (ok_eq hat rfl) fun s hs1 => ?_
    subst hs1
    refine ok_chk p1 (ok_chk (by omega) (ok_lt fun y hy => ok_bnd (P := fun s => s = sizes[i]) (ok_eq hat rfl) fun s hs1 => ?_))
    subst hs1
    refine ok_chk (div_small p1 (by omega)) (ok_lt fun w _ => ok_some ?_)
    subst hy
    refine ⟨by rw [List.length_append, hl]; rfl, fun j d n hd hn => ?_⟩
    by_cases hj : j < i
    · rw [List.getElem?_append_left (by omega)] at hd
      exact hm j d n hd hn
    · by_cases hji : j = i
      · subst hji
        rw [List.getElem?_append_right (by omega), hl, Nat.sub_self] at hd
        rw [hs] at hn
        cases hn
        have e : v % sizes[j] = d := Option.some.inj hd
        rw [← e]
        exact ⟨Int.emod_nonneg _ (by omega), Int.emod_lt_of_pos _ p1⟩
      · rw [List.getElem?_eq_none (by rw [List.length_append, hl, List.length_singleton]; omega)] at hd
        cases hd
  · rintro b ⟨hl, hm⟩
    exact ⟨by rw [hl, rng_len_nn (by omega)]; omega, hm⟩
  · exact fun b hb => ok_some hb
theorem tb_ok {α β : Type} {r : α} {h : Er → Option β} {k : α → Option β} : tb (some (Rz.ok r)) h k = k r := rfl
theorem tb_er {α β : Type} {e : Er} {h : Er → Option β} {k : α → Option β} : tb (some (Rz.er e)) h k = h e := rfl
theorem asked_ok {o : List Int} (h : IsOrd o) : m_asked_order o = some (Rz.ok true) := by
  unfold m_asked_order
  have h1 := h.l1
  have h2 := h.l2
  rw [show decide ((o.length : Int) < 1) = false from decide_eq_false (by omega), show decide ((40 : Int) < (o.length : Int)) = false from decide_eq_false (by omega), h.sort]
  show bnd (chk _ (some (!decide (rng 0 ↑o.length = rng 0 ↑o.length)))) _ = _
  rw [chk_pos ⟨by omega, by omega⟩, decide_eq_true rfl]
  rfl
theorem asked_bad {o : List Int} (h : ¬ IsOrd o) : m_asked_order o = some (Rz.er (Er.pl "NoOrder")) := by
  refine Ok.eq ?_
  unfold m_asked_order
  refine ok_bnd (P := fun c => c = true) (ok_orO (fun h1 => ok_orO (fun h2 => ?_) fun _ => rfl) fun _ => rfl) fun c hc => by rw [hc, if_pos rfl]; exact ok_some rfl
  have h1 := of_decide_eq_false h1
  have h2 := of_decide_eq_false h2
  refine ok_chk ⟨by omega, by omega⟩ (ok_some ?_)
  rw [Bool.not_eq_true', decide_eq_false_iff_not]
  exact fun e => h (isOrd_sort (by omega) (by omega) e)
theorem turns_ok {o : List Int} (h : IsOrd o) {p : Int} (h0 : 0 ≤ p) (h1 : p < o.length) : Ok (m_turns_from o p) (fun t => ∃ L : Nat, 1 ≤ L ∧ L ≤ o.length ∧ it o L p = p ∧ (∀ k, 0 < k → k < L → it o k p ≠ p) ∧ t = (List.range L).map (fun k => it o k p)) := by
  unfold m_turns_from
  have hz := szl
  have hl := h.l2
  obtain ⟨L, L1, L2, L3, L4⟩ := h.cycle h0 h1
  refine ok_lt fun f hf => ok_bnd (P := fun x => x = nxt o p) (ok_eq (nxt_at h0 h1) rfl) fun x hx => ok_lt fun y hy => ?_
  subst hf hx hy
  refine ok_bnd (P := fun b => b.1 = (List.range L).map (fun k => it o k p)) (ok_whileO (fun b => ∃ k : Nat, 1 ≤ k ∧ k ≤ L ∧ b.1 = (List.range k).map (fun k => it o k p) ∧ b.2 = it o k p) (fun b => L - b.1.length) ?_ _ _ ⟨1, Nat.le_refl _, L1, rfl, rfl⟩ ?_) fun b hb => ok_some ⟨L, L1, L2, L3, L4, hb⟩
  · rintro ⟨b1, b2⟩ ⟨k, k1, k2, e1, e2⟩
    dsimp only at e1 e2 ⊢
    subst e1 e2
    refine ok_some ?_
    split
    · rename_i hc
      rw [Bool.not_eq_true', decide_eq_false_iff_not] at hc
      have hk : k < L := Nat.lt_of_le_of_ne k2 (fun e => hc (e ▸ L3))
      obtain ⟨g0, g1⟩ := h.it h0 h1 k
      refine ok_chk (by rw [List.length_map, List.length_range]; omega) (ok_lt fun f hf => ok_bnd (P := fun x => x = nxt o (it o k p)) (ok_eq (nxt_at g0 g1) rfl) fun x hx => ok_lt fun y hy => ok_some ?_)
      subst hf hx hy
      refine ⟨⟨k + 1, by omega, hk, ?_, rfl⟩, ?_⟩
      · rw [List.range_succ, List.map_append]; rfl
      · simp only [List.length_append, List.length_map, List.length_range, List.length_singleton]; omega
    · rename_i hc
      have hc : it o k p = p := by
        rw [Bool.not_eq_true', decide_eq_false_iff_not, Classical.not_not] at hc; exact hc
      have : k = L := Nat.le_antisymm k2 (Nat.le_of_not_lt fun hlt => L4 k k1 hlt hc)
      subst this
      rfl
  · rw [fuel_eq]
    show L - 1 < 1000000
    omega
theorem take_succ_of {τ : Type} {l : List τ} {i : Nat} {x : τ} (h : l[i]? = some x) : l.take i ++ [x] = l.take (i + 1) := by
  rw [List.take_add_one, h]; rfl
theorem after_ok {o : List Int} (h : IsOrd o) {m : Int} (m0 : 0 ≤ m) : m_after_services o m = some (Rz.ok (srv o m.toNat)) := by
  refine Ok.eq ?_
  unfold m_after_services
  have hz := szl
  have hl := h.l2
  rw [asked_ok h, tb_ok]
  refine ok_lt fun f hf => ok_chk ⟨by omega, by omega⟩ (ok_bnd (P := fun b => b = srv o m.toNat) (ok_foldO (fun i b => b = (srv o m.toNat).take i) (by rw [hf]; rfl) ?_ ?_) fun b hb => ok_some (by rw [hb]))
  · rintro i b x hx e
    obtain ⟨e1, e2⟩ := rng_at hx
    rw [Int.zero_add] at e1
    refine ok_bnd (turns_ok h (p := x) (by omega) (by omega)) fun t ⟨L, L1, L2, L3, _, ht⟩ => ok_lt fun t' ht' => ?_
    subst ht' ht
    have hlen : (((List.range L).map (fun k => it o k x)).length : Int) = L := by rw [List.length_map, List.length_range]
    rw [hlen]
    have hm1 := Int.emod_nonneg m (b := (L : Int)) (by omega)
    have hm2 := Int.emod_lt_of_pos m (b := (L : Int)) (by omega)
    have hm3 : (m % (L : Int)).toNat = m.toNat % L := by
      have h5 : m = (m.toNat : Int) := by omega
      conv => lhs; rw [h5, ← Int.natCast_emod, Int.toNat_natCast]
    refine ok_chk (by omega) (ok_bnd (P := fun z => z = it o m.toNat x) (ok_atI hm1 (by rw [hlen]; exact hm2) fun z hz1 => ?_) fun z hz2 => ?_)
    · rw [List.getElem?_map, List.getElem?_range (by omega), Option.map_some] at hz1
      rw [← Option.some.inj hz1, hm3]
      exact it_mod L3 m.toNat
    · subst hz2 e
      have hs := srv_len o m.toNat
      have ht := List.length_take_le i (srv o m.toNat)
      refine ok_chk (by omega) (ok_lt fun f hf => ok_some ?_)
      subst hf
      refine take_succ_of ?_
      have hx0 := srv_at (o := o) (m := m.toNat) (x := x) (by omega) (by omega)
      rw [atI_get (by omega) (by omega)] at hx0
      rw [← hx0, show x.toNat = i by omega]
  · rintro b rfl
    rw [rng_len_nn (by omega), Int.toNat_natCast, List.take_of_length_le (by rw [srv_len]; exact Nat.le_refl _)]
theorem order_ok {cell most : Int} (h1 : 1 ≤ most) (h2 : most ≤ 40) : Ok (m_l_order cell most) (fun o => IsOrd o ∧ o.length ≤ most) := by
  unfold m_l_order
  have hz := szl
  have e : repl most [most] = List.replicate most.toNat most := repl_one _ _
  rw [e]
  refine ok_chk ?_ (ok_chk ?_ (ok_bnd (draws_ok (fun n hn => ?_) ?_) fun ds hds => ok_lt fun ds' h => ?_))
  · first | exact ⟨by omega, by simp; omega⟩ | (unfold RepOk; simp; omega)
  · rw [List.length_replicate]; show 1 + _ ≤ _; omega
  · have : n = most := by
      rcases List.mem_append.mp hn with h | h
      · exact List.mem_singleton.mp h
      · exact (List.mem_replicate.mp h).2
    omega
  · rw [List.length_append, List.length_replicate]; show 1 + _ ≤ _; omega
  · subst h
    have hk : ∀ k : Nat, k ≤ most.toNat → ([most] ++ List.replicate most.toNat most)[k]? = some most := fun k hk => by
      have : [most] ++ List.replicate most.toNat most = List.replicate (most.toNat + 1) most := by rw [List.replicate_succ]; rfl
      rw [this, List.getElem?_replicate, if_pos (by omega)]
    refine ok_bnd (ok_draw hds 0 (hk 0 (Nat.zero_le _)) (Q := fun d => 0 ≤ d ∧ d < most) fun d a b => ⟨a, b⟩) fun d hd => ok_lt fun n hn => ?_
    have hll : (rng 0 n).length = n.toNat := rng_len_nn (by omega)
    refine ok_chk ⟨by omega, by omega⟩ (ok_lt fun left hleft => ok_chk ⟨by omega, by omega⟩ ?_)
    subst hleft
    refine ok_bnd (ok_popAll (fun l x hne hl hx => ?_) (Nat.le_refl _) (by omega)) fun ys ⟨y1, r, y2⟩ => ok_chk (by omega) (ok_some ?_)
    · obtain ⟨x0, x1⟩ := mem_rng.mp hx
      obtain ⟨k, rfl⟩ : ∃ k : Nat, x = (k : Int) := ⟨x.toNat, by omega⟩
      have hp : 0 < l.length := List.length_pos_iff.mpr hne
      have := ok_draw hds (1 + k) (hk _ (by omega)) (Q := fun d => 0 ≤ d ∧ d < most) fun d a b => ⟨a, b⟩
      rw [show ((1 + k : Nat) : Int) = 1 + (k : Int) by omega] at this
      exact ok_bnd this fun d hd => ok_chk (by omega) (ok_some ⟨Int.emod_nonneg _ (by omega), Int.emod_lt_of_pos _ (by omega)⟩)
    · have hr : r = [] := by
        have := y2.length_eq
        rw [List.length_append, y1] at this
        exact List.length_eq_zero_iff.mp (by omega)
      subst hr
      rw [List.append_nil] at y2
      refine ⟨⟨by omega, by omega, ?_⟩, by omega⟩
      rw [show (ys.length : Int) = n by omega]
      exact y2
theorem common_ok {a c : Nat} (hc : c < 100000) : m_common_by (a : Int) (c : Int) = some ((Nat.gcd a c : Nat) : Int) := by
  refine Ok.eq ?_
  unfold m_common_by
  refine ok_bnd (P := fun b => b.1 = ((Nat.gcd a c : Nat) : Int)) (ok_whileO (fun b => ∃ u v : Nat, b.1 = (u : Int) ∧ b.2 = (v : Int) ∧ Nat.gcd u v = Nat.gcd a c) (fun b => b.2.toNat) ?_ _ _ ⟨a, c, rfl, rfl, rfl⟩ ?_) fun b hb => ok_some hb
  · rintro ⟨b1, b2⟩ ⟨u, v, e1, e2, e3⟩
    dsimp only at e1 e2 ⊢
    subst e1 e2
    refine ok_some ?_
    split
    · rename_i h
      have h := of_decide_eq_true h
      have hv : 0 < v := by omega
      refine ok_chk h (ok_lt fun r hr => ok_lt fun x hx => ok_lt fun y hy => ok_some ⟨⟨v, u % v, hx, by rw [hy, hr]; rfl, ?_⟩, ?_⟩)
      · rw [← e3, Nat.gcd_comm v, Nat.gcd_comm u v, ← Nat.gcd_rec]
      · rw [hy, hr]
        have := Nat.mod_lt u hv
        show ((u : Int) % (v : Int)).toNat < (v : Int).toNat
        rw [← Int.natCast_emod, Int.toNat_natCast, Int.toNat_natCast]
        exact this
    · rename_i h
      have h : ¬ (0 : Int) < (v : Int) := fun h' => h (decide_eq_true h')
      have hv : v = 0 := by omega
      subst hv
      rw [Nat.gcd_zero_right] at e3
      rw [e3]
  · rw [fuel_eq]; show (c : Int).toNat < _; omega
theorem per_dvd {o : List Int} {L : Nat} {x : Int} (h1 : 1 ≤ L) (h2 : it o L x = x) (h3 : ∀ k, 0 < k → k < L → it o k x ≠ x) (M : Nat) : L ∣ M ↔ it o M x = x := by
  constructor
  · rintro ⟨q, rfl⟩
    exact it_mul h2 q
  · intro h
    rw [← it_mod h2] at h
    have := Nat.mod_lt M h1
    rcases Nat.eq_zero_or_pos (M % L) with e | e
    · exact Nat.dvd_of_mod_eq_zero e
    · exact absurd h (h3 _ e this)
def Whole (o : List Int) (i : Nat) (w : Int) : Prop := ∃ W : Nat, w = (W : Int) ∧ 1 ≤ W ∧ ∀ M : Nat, W ∣ M ↔ ∀ x : Int, 0 ≤ x → x < i → it o M x = x
theorem whole_zero (o : List Int) : Whole o 0 1 := ⟨1, rfl, Nat.le_refl _, fun M => ⟨fun _ x h0 h1 => by omega, fun _ => Nat.one_dvd _⟩⟩
theorem whole_succ {o : List Int} {i : Nat} {W L V : Nat} (hL1 : 1 ≤ L) (hW : 1 ≤ W) (hV : V = Nat.lcm W L) (hd : ∀ M : Nat, W ∣ M ↔ ∀ x : Int, 0 ≤ x → x < i → it o M x = x) (hL : ∀ M : Nat, L ∣ M ↔ it o M (i : Int) = (i : Int)) : Whole o (i + 1) (V : Int) := by
  refine ⟨V, rfl, by rw [hV]; exact Nat.lcm_pos hW hL1, fun M => ?_⟩
  rw [hV, Nat.lcm_dvd_iff, hd, hL]
  constructor
  · rintro ⟨h1, h2⟩ x x0 x1
    by_cases hx : x < i
    · exact h1 x x0 hx
    · have : x = (i : Int) := by omega
      rw [this]; exact h2
  · exact fun h => ⟨fun x x0 x1 => h x x0 (by omega), h _ (by omega) (by omega)⟩
theorem round_ok {o : List Int} (h : IsOrd o) : ∃ w, m_round_of o = some (Rz.ok w) := by
  suffices H : Ok (m_round_of o) (fun r => ∃ w, r = Rz.ok w) by
    obtain ⟨r, e, w, rfl⟩ := H
    exact ⟨w, e⟩
  unfold m_round_of
  have hl := h.l2
  rw [asked_ok h, tb_ok]
  refine ok_lt fun f hf => ok_chk ⟨by omega, by omega⟩ (ok_bnd (P := Whole o o.length) (ok_foldO (fun i b => Whole o i b) (by rw [hf]; exact whole_zero o) ?_ ?_) fun b hb => ok_some ⟨b, rfl⟩)
  · rintro i b x hx ⟨W, rfl, W1, hd⟩
    obtain ⟨e1, e2⟩ := rng_at hx
    rw [Int.zero_add] at e1
    subst e1
    refine ok_bnd (turns_ok h (p := (i : Int)) (by omega) (by omega)) fun t ⟨L, L1, L2, L3, L4, ht⟩ => ok_lt fun m hm => ?_
    have hm : m = (L : Int) := by rw [hm, ht, List.length_map, List.length_range]
    subst hm
    rw [common_ok (by omega)]
    have hg : Nat.gcd W L ≤ L := Nat.le_of_dvd L1 (Nat.gcd_dvd_right W L)
    have hg0 : 0 < Nat.gcd W L := Nat.gcd_pos_of_pos_right W L1
    refine ok_chk (mul_r (by omega) (by omega)) (ok_bnd (P := fun y => y = _) (ok_some rfl) fun y hy => ok_chk (by rw [hy]; exact div_small (by omega) (by omega)) (ok_lt fun z hz => ok_some ?_))
    rw [hz, hy]
    have : ((W : Int) * (L : Int)) / ((Nat.gcd W L : Nat) : Int) = ((Nat.lcm W L : Nat) : Int) := by
      unfold Nat.lcm
      rw [Int.natCast_ediv, Int.natCast_mul]
    rw [this]
    exact whole_succ L1 W1 rfl hd (per_dvd L1 L3 L4)
  · intro b hb
    rw [rng_len_nn (by omega), Int.toNat_natCast] at hb
    exact hb
theorem go_nx {β ρ γ : Type} {b : β} {k : β → γ} {e : ρ → γ} : Fl.go (Fl.nx b) k e = k b := rfl
theorem perm_of_sub {τ : Type} [DecidableEq τ] : ∀ {l o : List τ}, l.Nodup → (∀ x ∈ l, x ∈ o) → o.length ≤ l.length → l.Perm o
  | [], o, _, _, h => by rw [List.length_eq_zero_iff.mp (Nat.le_zero.mp h)]
  | x :: l, o, h1, h2, h3 => by
    have hx := h2 x List.mem_cons_self
    have hp := List.perm_cons_erase hx
    refine List.Perm.trans (List.Perm.cons x ?_) hp.symm
    obtain ⟨n1, n2⟩ := List.nodup_cons.mp h1
    refine perm_of_sub n2 (fun y hy => ?_) (by have := List.length_erase_of_mem hx; rw [List.length_cons] at h3; omega)
    exact (List.mem_erase_of_ne (fun (e : y = x) => n1 (by rw [← e]; exact hy))).mpr (h2 y (List.mem_cons_of_mem _ hy))
theorem is_ord_iff {o : List Int} (h1 : 1 ≤ o.length) (h2 : o.length ≤ 40) : IsOrd o ↔ ∀ x ∈ rng 0 o.length, x ∈ o :=
  ⟨fun h x hx => h.pm.mem_iff.mpr hx, fun h => ⟨h1, h2, (perm_of_sub (rng_nodup _ _) h (by rw [rng_len_nn (by omega)]; omega)).symm⟩⟩
theorem is_order_eq {o : List Int} : ∃ b, m_l_is_order o = some b ∧ (b = true ↔ IsOrd o) := by
  suffices H : Ok (m_l_is_order o) (fun b => b = true ↔ IsOrd o) from H
  unfold m_l_is_order
  have hz := szl
  refine ok_ite (fun h => ok_some ?_) fun h => ?_
  · refine ⟨fun z => Bool.noConfusion z, fun z => ?_⟩
    rw [Bool.not_eq_true', Bool.and_eq_false_iff, decide_eq_false_iff_not, decide_eq_false_iff_not] at h
    have := z.l1
    have := z.l2
    omega
  · rw [Bool.not_eq_false', Bool.and_eq_true, decide_eq_true_iff, decide_eq_true_iff] at h
    have hl : (List.filter (fun x => !decide (x ∈ o)) (rng 0 (o.length : Int))).length ≤ o.length := by
      have := List.length_filter_le (fun x => !decide (x ∈ o)) (rng 0 (o.length : Int))
      rw [rng_len_nn (by omega)] at this
      omega
    refine ok_chk ⟨by omega, by omega⟩ (ok_chk (by rw [List.length_map]; omega) (ok_some ?_))
    rw [decide_eq_true_iff, List.map_eq_nil_iff, List.filter_eq_nil_iff, is_ord_iff (by omega) (by omega)]
    constructor
    · intro q x hx
      have := q x hx
      simpa using this
    · intro q x hx
      simp [q x hx]
theorem meet_ok {o : List Int} (h : IsOrd o) (h2 : 2 ≤ o.length) : ∃ w, m_meet_of o 0 1 = some (Rz.ok w) := by
  suffices H : Ok (m_meet_of o 0 1) (fun r => ∃ w, r = Rz.ok w) by
    obtain ⟨r, e, w, rfl⟩ := H
    exact ⟨w, e⟩
  unfold m_meet_of
  rw [asked_ok h, tb_ok]
  refine ok_bnd (P := fun r => r = Fl.nx ()) (foldF_ok (fun x hx => ?_) rfl) fun r hr => ?_
  · refine ok_ite (fun hc => ?_) fun _ => ok_some rfl
    rw [Bool.or_eq_true, decide_eq_true_iff, decide_eq_true_iff] at hc
    have : x = 0 ∨ x = 1 := by simpa using hx
    omega
  · subst hr
    rw [go_nx]
    refine ok_ite (fun hc => absurd (of_decide_eq_true hc) (by decide)) fun _ => ok_lt fun a ha => ok_lt fun b hb => ok_lt fun c hc => ?_
    subst ha hb hc
    refine ok_bnd (P := fun r => ∃ q, r = Fl.nx q) (ok_whileF (fun q => q = (0, 1, 0)) (fun _ => 0) ?_ _ _ rfl (by rw [fuel_eq]; omega)) fun r ⟨q, hq⟩ => ?_
    · rintro q rfl
      exact ok_some (by show if (!decide ((0 : Int) / 2 = 1 / 2)) = true then _ else _; rw [if_neg (by decide)]; exact ⟨_, rfl⟩)
    · subst hq
      exact ok_some ⟨_, rfl⟩
theorem told_bad {o : List Int} (h : ¬ IsOrd o) (w m a b : Int) : m_l_told w o m a b = some (("refused" : Str), An.b true) := by
  have e0 : m_l_asked w o m a b = some (Rz.er (Er.pl "NoOrder")) := by
    unfold m_l_asked m_after_services m_round_of m_meet_of
    rw [asked_bad h]
    simp only [tb_er, ite_self]
  have e1 : exE tab (Er.pl "NoOrder") "PairsError" = some true := by decide +kernel
  have e2 : isE tab (Er.pl "NoOrder") "NoOrder" = some true := by decide +kernel
  have e3 : isE tab (Er.pl "NoOrder") "ValueError" = some true := by decide +kernel
  have e4 : isEs tab (Er.pl "NoOrder") ["NoBars", "NoBreak", "NoCall", "NoInstrument", "NoLine", "NoName"] = some false := by decide +kernel
  have e5 : isEs tab (Er.pl "NoOrder") ["NoPlace", "NoPlayer", "NoSeating", "NoText", "NoTimes", "Twice"] = some false := by decide +kernel
  unfold m_l_told
  rw [e0, tb_er, e1, e2, e3, e4, e5]
  show chk (some true = some true) _ = _
  rw [chk_pos rfl]
  rfl
theorem told_ok {o : List Int} (h : IsOrd o) {w m : Int} (m0 : 0 ≤ m) (hw : (o.length : Int) = 1 → w ≠ 3) (w0 : 0 ≤ w) (w3 : w < 4) : ∃ x : An, m_l_told w o m 0 1 = some (("told" : Str), x) ∧ (w = 0 → x = An.b true) := by
  suffices H : ∃ x, m_l_asked w o m 0 1 = some (Rz.ok x) ∧ (w = 0 → x = An.b true) by
    obtain ⟨x, e, hx⟩ := H
    refine ⟨x, ?_, hx⟩
    unfold m_l_told
    rw [e]; rfl
  unfold m_l_asked
  have := h.l1
  by_cases c0 : w = 0
  · rw [decide_eq_true c0, if_pos rfl, asked_ok h, tb_ok]
    exact ⟨_, rfl, fun _ => rfl⟩
  · rw [decide_eq_false c0, if_neg Bool.false_ne_true]
    by_cases c1 : w = 1
    · rw [decide_eq_true c1, if_pos rfl, after_ok h m0, tb_ok]
      exact ⟨_, rfl, fun z => absurd z c0⟩
    · rw [decide_eq_false c1, if_neg Bool.false_ne_true]
      by_cases c2 : w = 2
      · obtain ⟨r, hr⟩ := round_ok h
        rw [decide_eq_true c2, if_pos rfl, hr, tb_ok]
        exact ⟨_, rfl, fun z => absurd z c0⟩
      · obtain ⟨r, hr⟩ := meet_ok h (by omega)
        rw [decide_eq_false c2, if_neg Bool.false_ne_true, hr, tb_ok]
        exact ⟨_, rfl, fun z => absurd z c0⟩
theorem right_ok {o : List Int} {m : Int} (m0 : 0 ≤ m) : m_l_right o m = some true := by
  refine Ok.eq ?_
  unfold m_l_right
  obtain ⟨b, hb, hbi⟩ := is_order_eq (o := o)
  refine ok_lt fun kept hk => ok_bnd (P := fun x => x = b) (ok_eq hb rfl) fun b' hb' => ok_lt fun well hw => ?_
  subst hk hb' hw
  refine ok_bnd (P := fun r => match r with | .nx _ => True | .rt r => r = true) (ok_foldF (fun _ _ => True) (fun r => r = true) trivial ?_ (fun _ _ => trivial) fun r hr => hr) fun r hr => ?_
  · intro i u x hx _
    obtain ⟨x1, x2⟩ := rng_at hx
    refine ok_lt fun other ho => ok_ite (fun hc => ok_some (decide_eq_true rfl)) fun hc => ?_
    subst ho
    cases hbb : well with
    | true =>
      have hO := hbi.mp hbb
      refine ok_bnd (P := fun z => z = 1) (ok_some rfl) fun z hz => ?_
      subst hz
      obtain ⟨t, ht, h0⟩ := told_ok hO m0 (w := x) (fun e1 e2 => by
        rw [hbb, decide_eq_true e1, decide_eq_true e2] at hc
        exact Bool.noConfusion hc) (by omega) (by omega)
      rw [ht]
      refine ok_bnd (P := fun z => z = (("told" : Str), t)) (ok_some rfl) fun z hz => ok_lt fun z' hz' => ?_
      subst hz' hz
      refine ok_bnd (P := fun c => c = false) (ok_some rfl) fun c hc => ?_
      subst hc
      rw [if_neg Bool.false_ne_true]
      refine ok_bnd (P := fun c => c = false) ?_ fun c hc => by subst hc; exact ok_some trivial
      refine ok_andO (fun _ => ok_bnd (P := fun c => c = false) (ok_orO (fun _ => ok_bnd (P := fun c => c = false) (ok_andO (fun hx0 => ?_) fun _ => rfl) fun c hc => ok_some hc) fun hq => ?_) fun c hc => ok_some hc) fun hq => rfl
      · rw [h0 (of_decide_eq_true hx0)]
        exact ok_some rfl
      · rw [show decide ((("told" : Str), t).1 = ("told" : Str)) = true from decide_eq_true rfl] at hq
        exact Bool.noConfusion hq
    | false =>
      have hO : ¬ IsOrd kept := fun z => by rw [hbi.mpr z] at hbb; exact Bool.noConfusion hbb
      refine ok_bnd (P := fun _ => True) (ok_ite (fun _ => ok_lt fun _ _ => ok_some trivial) fun _ => ok_some trivial) fun z _ => ?_
      rw [told_bad hO]
      refine ok_bnd (P := fun z => z = (("refused" : Str), An.b true)) (ok_some rfl) fun z hz => ok_lt fun z' hz' => ?_
      subst hz' hz
      have s1 : shpD (("refused", An.b true) : Str × An) := by unfold shpD; decide +kernel
      have s2 : eqvD (("refused", An.b true) : Str × An) ("refused", An.b true) = true := by unfold eqvD; decide +kernel
      refine ok_bnd (P := fun c => c = false) (ok_andO (fun _ => ok_chk s1 (ok_chk s1 (ok_some (by rw [s2]; rfl)))) fun _ => rfl) fun c hc => ?_
      subst hc
      rw [if_neg Bool.false_ne_true]
      exact ok_bnd (P := fun c => c = false) (ok_some rfl) fun c hc => by subst hc; exact ok_some trivial
  · cases r with
    | nx u => exact ok_some (decide_eq_true rfl)
    | rt v => exact ok_some hr
theorem bent_ok {c : Int} {o : List Int} (h : o.length ≤ 40) : Ok (m_l_bent c o) (fun _ => True) := by
  unfold m_l_bent
  have hz := szl
  have hc : ∀ (a b : Option Int), (cut o a b).length ≤ 40 := fun a b => Nat.le_trans (cut_len_le _ _ _) h
  have hd : ∀ {sizes ds : List Int} (k : Nat) {n : Int}, Drawn sizes ds → sizes[k]? = some n → Ok (atI ds (k : Int)) (fun d => 0 ≤ d ∧ d < n) := fun k n H e => ok_draw H k e fun d a b => ⟨a, b⟩
  refine ok_bnd (draws_ok (by decide) (by decide)) fun ds hds => ok_lt fun ds' h' => ?_
  subst h'
  refine ok_bnd (hd 1 hds rfl) fun d1 h1 => ok_chk (by omega) (ok_lt fun at' hat => ok_bnd (hd 2 hds rfl) fun d2 h2 => ok_chk (by omega) (ok_lt fun pl hpl => ok_bnd (hd 3 hds rfl) fun d3 h3 => ?_))
  refine ok_bnd (P := fun _ => True) (ok_ite (fun _ => ok_bnd (hd 1 hds rfl) fun e1 g1 => ok_bnd (P := fun _ => True) (ok_atI (by omega) (by show _ < ((2 : Nat) : Int); omega) fun _ _ => trivial) fun _ _ => ok_lt fun _ _ => ok_some trivial) fun _ => ok_some trivial) fun p _ => ?_
  refine ok_bnd (hd 0 hds rfl) fun e0 _ => ok_ite (fun _ => ok_chk ?_ (ok_chk ?_ (ok_some trivial))) fun _ => ?_
  · have := hc none (some at'); rw [List.length_singleton]; omega
  · have := hc none (some at'); have := hc (some (at' + 1)) none; rw [List.length_append, List.length_singleton]; omega
  refine ok_bnd (hd 0 hds rfl) fun e0 _ => ok_ite (fun _ => ok_chk ?_ (ok_chk ?_ (ok_some trivial))) fun _ => ?_
  · have := hc none (some at'); rw [List.length_singleton]; omega
  · have := hc none (some at'); have := hc (some at') none; rw [List.length_append, List.length_singleton]; omega
  refine ok_bnd (hd 0 hds rfl) fun e0 _ => ok_ite (fun _ => ok_chk ?_ (ok_some trivial)) fun _ => ?_
  · have := hc none (some at'); have := hc (some (at' + 1)) none; omega
  refine ok_bnd (hd 0 hds rfl) fun e0 _ => ok_ite (fun _ => ok_chk ?_ (ok_chk ?_ (ok_some trivial))) fun _ => ?_
  · have := hc none (some at'); have := hc (some at') (some (at' + 1)); omega
  · have := hc none (some at'); have := hc (some at') (some (at' + 1)); have := hc (some at') none; rw [List.length_append]; omega
  refine ok_bnd (hd 0 hds rfl) fun e0 _ => ok_ite (fun _ => ok_chk ⟨by omega, by omega⟩ (ok_chk ⟨by omega, by omega⟩ (ok_bnd (hd 2 hds rfl) fun e2 g2 => ok_bnd (P := fun _ => True) (ok_atI (by omega) (by show _ < ((4 : Nat) : Int); omega) fun _ _ => trivial) fun _ _ => ok_some trivial))) fun _ => ok_some trivial
theorem cell_ok (sc : List Int) {k : Int} (h : 0 ≤ k) : Ok (m_l_cell_at sc k) (fun _ => True) := by
  unfold m_l_cell_at
  exact ok_ite (fun hk => ok_bnd (P := fun _ => True) (ok_atI h (of_decide_eq_true hk) fun _ _ => trivial) fun _ _ => ok_some trivial) fun _ => ok_some trivial
theorem law_true : ∀ ns : List Int, ns.length ≤ 63 → a_law (ns, ()) = some true := by
  intro ns hn
  refine Ok.eq ?_
  show Ok (m_law ns) _
  unfold m_law
  have hc : (cut ns none (some 59)).length ≤ 63 := Nat.le_trans (cut_len_le _ _ _) hn
  refine ok_chk ⟨by omega, by omega⟩ (ok_bnd (P := fun o => o = .nx ()) (foldF_ok (fun x hx => ?_) rfl) fun o ho => by subst ho; exact ok_some rfl)
  obtain ⟨x0, x1⟩ := rng_mem hx
  refine ok_bnd (cell_ok ns (by omega)) fun c _ => ok_lt fun c' _ => ?_
  refine ok_bnd (P := fun m => m = 12 ∨ m = 40) ?_ fun m hm => ?_
  · split
    · exact ok_some (.inr rfl)
    · exact ok_some (.inl rfl)
  refine ok_bnd (order_ok (by omega) (by omega)) fun o ho => ok_lt fun o' ho' => ?_
  subst ho'
  refine ok_bnd (cell_ok ns (by omega)) fun d _ => ok_lt fun d' _ => ok_bnd (bent_ok (by omega)) fun e _ => ?_
  rw [right_ok (Int.emod_nonneg _ (by decide))]
  exact ok_bnd (P := fun r => r = true) (ok_some rfl) fun r hr => by subst hr; exact ok_some rfl

end K40

open PySem PySem.W PySem.Calls PyProof.Rows
set_option maxHeartbeats 0 in
theorem PySem.Challenge.cw_deskpairs_k40_orders_refused_holds : PySem.Challenge.rw_deskpairs_k40_orders_refused.Holds := by
  w_on; o_law
  refine HandSHeadRun.head_any (r := OpenLaw.row PySem.Challenge.rw_deskpairs_k40_orders_refused) (q := view (OpenLaw.row PySem.Challenge.rw_deskpairs_k40_orders_refused).prog [32]) (H := K40.hk) (ob := K40.ob) (M := 7320) (loose := K40.loose) (d := HandSHeadRun.topDef (OpenLaw.row PySem.Challenge.rw_deskpairs_k40_orders_refused).prog 32) (kwd := []) K40.ob_eq
    (by kernel_rfl) (fun s => by kernel_rfl) K40.run (by kernel_rfl) (by kernel_rfl) (by kernel_rfl) (by rfl) (by first | assumption | decide +kernel) (by decide +kernel) ⟨rfl, rfl, rfl, rfl, rfl, by decide +kernel⟩ ?hw ?hc
  case hw => w_witness2
  case hc =>
    refine L2.walk_ofE (l := PySem.Challenge.rw_deskpairs_k40_orders_refused) (n := 63) (k := 6) (x := "_law_script") (CX := L2.CX0) rfl (by decide) (by kernel_rfl) ⟨rfl, by decide, by decide⟩ ?F (fun _ _ _ _ z => z)
    intro w mg fa h Y G hmg0
    obtain ⟨K, KX, c, TB⟩ := Y
    have hmg : mg ("law" : PySem.Str) = some (.ref fa) := by
      have e : (HandSHeadRun.topDef (OpenLaw.row PySem.Challenge.rw_deskpairs_k40_orders_refused).prog 32).name = ("law" : PySem.Str) := by kernel_rfl
      rw [← e]
      exact hmg0
    obtain ⟨fd, hb, hF⟩ := K40.facts (P := (PySem.Challenge.rw_deskpairs_k40_orders_refused).prog) (w := w) KX G hmg c TB
    exact ⟨K, fd, Dy.spLaw K, KX, hb, fun H a ns hl _ hS => ⟨a, ns, rfl, hS, hl, fun _ => rfl⟩, fun base h1 h2 => Dy.law_of (hF base h1 h2) K40.law_true⟩

