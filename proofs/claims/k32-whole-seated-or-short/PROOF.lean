import PyProof.Rows.All
import Wide.All
import OpenK.AllK
import Wide.FinOn
import HandS.ForMost
import HandS.Codes
import HandS.Wide
import HandS.SortInts
import HandS.Conv
import HandS.IsInst
import HandS.Defaults
import HandS.Head0
import HandS.Head1
import HandS.Head2
import HandS.HeadEnd
import HandS.HeadHook1
import HandS.HeadHook2
import HandS.Zip
import HandS.Exc
import HandS.TryOnly
import HandS.ExcOwn
import HandS.WordsExc
import HandS.ExcInit
import HandS.ExcIs
import HandS.ExcField
import HandS.Style
import HandS.TupAny
import HandS.More
import HandS.Replace
import HandS.Dict
import HandS.Iter
import HandS.WordsDict
import HandS.Rev
import PySem.Challenge.RW_deskpairs_k32_whole_seated_or_short
set_option Elab.async false
set_option linter.all false
set_option maxRecDepth 100000
namespace Dy
open PySem PySem.Spec PyProof.Rows L2

structure S where
  F : Hp
  H : Hp
  sub : ∀ a o, F a = some o → H a = some o
abbrev Fle (F F' : Hp) : Prop := ∀ a o, F a = some o → F' a = some o
theorem Fle.refl (F : Hp) : Fle F F := fun _ _ h => h
theorem Fle.trans {F G I : Hp} (a : Fle F G) (b : Fle G I) : Fle F I := fun x o h => b x o (a x o h)
structure Ex (s t : S) : Prop where
  f : Fle s.F t.F
  h : ∀ a o, s.H a = some o → t.H a = some o
  n : ∀ a o, s.H a = some o → s.F a = none → t.F a = none
theorem Ex.refl (s : S) : Ex s s := ⟨fun _ _ h => h, fun _ _ h => h, fun _ _ _ h => h⟩
theorem Ex.trans {s t u : S} (a : Ex s t) (b : Ex t u) : Ex s u :=
  ⟨fun x o h => b.f x o (a.f x o h), fun x o h => b.h x o (a.h x o h), fun x o h n => b.n x o (a.h x o h) (a.n x o h n)⟩
theorem fr_back {s t : S} (e : Ex s t) {p : Addr} (h : t.H p = none) : s.H p = none := by
  cases q : s.H p with
  | none => rfl
  | some o => rw [e.h p o q] at h; cases h
theorem fF {s : S} {p : Addr} (h : s.H p = none) : s.F p = none := by
  cases q : s.F p with
  | none => rfl
  | some o => rw [s.sub p o q] at h; cases h
def S.newF (s : S) (p : Addr) (o : HO) (h : s.H p = none) : S := ⟨upd s.F p o, upd s.H p o, fun a u q => by
  unfold upd at q ⊢
  split
  · rename_i e; rw [if_pos e] at q; exact q
  · rename_i e; rw [if_neg e] at q; exact s.sub a u q⟩
def S.newO (s : S) (p : Addr) (o : HO) (h : s.H p = none) : S := ⟨s.F, upd s.H p o, fun a u q => by
  rw [upd_ne (ne_of_none (s.sub a u q) h)]; exact s.sub a u q⟩
def S.put (s : S) (p : Addr) (o : HO) (h : s.F p = none) : S := ⟨s.F, upd s.H p o, fun a u q => by
  rw [upd_ne (ne_of_none q h)]; exact s.sub a u q⟩
theorem Ex.newF {s : S} {p : Addr} {o : HO} (h : s.H p = none) : Ex s (s.newF p o h) :=
  ⟨fun a u q => by show upd s.F p o a = some u; rw [upd_ne (ne_of_none (s.sub a u q) h)]; exact q,
   fun a u q => by show upd s.H p o a = some u; rw [upd_ne (ne_of_none q h)]; exact q,
   fun a u q n => by show upd s.F p o a = none; rw [upd_ne (ne_of_none q h)]; exact n⟩
theorem Ex.newO {s : S} {p : Addr} {o : HO} (h : s.H p = none) : Ex s (s.newO p o h) :=
  ⟨fun a u q => q, fun a u q => by show upd s.H p o a = some u; rw [upd_ne (ne_of_none q h)]; exact q, fun a u q n => n⟩
structure Mx (P : Addr → Prop) (s t : S) : Prop where
  f : Fle s.F t.F
  h : ∀ a o, s.H a = some o → ¬ P a → t.H a = some o
  n : ∀ a o, s.H a = some o → s.F a = none → t.F a = none
  d : ∀ a o, s.H a = some o → ∃ u, t.H a = some u
theorem Ex.mx {P : Addr → Prop} {s t : S} (e : Ex s t) : Mx P s t := ⟨e.f, fun a o h _ => e.h a o h, e.n, fun a o h => ⟨o, e.h a o h⟩⟩
theorem Mx.trans {P : Addr → Prop} {s t u : S} (a : Mx P s t) (b : Mx P t u) : Mx P s u :=
  ⟨fun x o h => b.f x o (a.f x o h), fun x o h n => b.h x o (a.h x o h n) n,
   fun x o h n => by obtain ⟨v, hv⟩ := a.d x o h; exact b.n x v hv (a.n x o h n),
   fun x o h => by obtain ⟨v, hv⟩ := a.d x o h; exact b.d x v hv⟩
theorem Mx.put {s : S} {p : Addr} {o : HO} (h : s.F p = none) : Mx (· = p) s (s.put p o h) :=
  ⟨fun a u q => q, fun a u q n => by show upd s.H p o a = some u; rw [upd_ne n]; exact q, fun a u q n => n,
   fun a u q => by
    by_cases e : a = p
    · exact ⟨o, by rw [e]; exact upd_same⟩
    · exact ⟨u, by show upd s.H p o a = some u; rw [upd_ne e]; exact q⟩⟩
theorem Mx.fr_back {P : Addr → Prop} {s t : S} (e : Mx P s t) {p : Addr} (h : t.H p = none) : s.H p = none := by
  cases q : s.H p with
  | none => rfl
  | some o => obtain ⟨u, z⟩ := e.d p o q; rw [z] at h; cases h
theorem Ex.mu {s t u : S} {P : Addr → Prop} (a : Ex s t) (b : Mx P t u) (h : ∀ p, P p → s.H p = none) : Ex s u :=
  ⟨fun x o q => b.f x o (a.f x o q), fun x o q => b.h x o (a.h x o q) fun z => (by rw [h x z] at q; cases q), fun x o q n => b.n x o (a.h x o q) (a.n x o q n)⟩
theorem Ex.mu1 {s t u : S} {p : Addr} (a : Ex s t) (b : Mx (· = p) t u) (h : s.H p = none) : Ex s u := a.mu b fun _ e => e ▸ h

class Enc (α : Type) where
  rep : PySem.W.Frag → Hp → V → α → Prop
  mono : ∀ {K : PySem.W.Frag} {F F' : Hp} {v : V} {x : α}, Fle F F' → rep K F v x → rep K F' v x
open Enc (rep)
def Reps {α : Type} [Enc α] (K : PySem.W.Frag) (F : Hp) : List V → List α → Prop
  | [], [] => True
  | v :: vs, x :: xs => rep K F v x ∧ Reps K F vs xs
  | _, _ => False
section
variable {α β : Type} [Enc α] [Enc β] {K : PySem.W.Frag} {F F' : Hp}
theorem Reps.mono (e : Fle F F') : ∀ {vs : List V} {xs : List α}, Reps K F vs xs → Reps K F' vs xs
  | [], [], _ => trivial
  | _ :: _, _ :: _, ⟨h, t⟩ => ⟨Enc.mono e h, Reps.mono e t⟩
  | [], _ :: _, h => h.elim
  | _ :: _, [], h => h.elim
theorem Reps.len : ∀ {vs : List V} {xs : List α}, Reps K F vs xs → vs.length = xs.length
  | [], [], _ => rfl
  | _ :: _, _ :: _, ⟨_, t⟩ => congrArg (· + 1) (Reps.len t)
  | [], _ :: _, h => h.elim
  | _ :: _, [], h => h.elim
theorem Reps.get : ∀ {vs : List V} {xs : List α} {i : Nat} {x : α}, Reps K F vs xs → xs[i]? = some x → ∃ v, vs[i]? = some v ∧ rep K F v x
  | [], [], _, _, _, e => by simp at e
  | v :: _, y :: _, 0, x, ⟨h, _⟩, e => by
    have : y = x := Option.some.inj e
    subst this
    exact ⟨v, rfl, h⟩
  | _ :: vs, _ :: xs, i + 1, x, ⟨_, t⟩, e => by
    obtain ⟨v, h1, h2⟩ := Reps.get (i := i) t (by simpa using e)
    exact ⟨v, by simpa using h1, h2⟩
  | [], _ :: _, _, _, h, _ => h.elim
  | _ :: _, [], _, _, h, _ => h.elim
theorem Reps.get' : ∀ {vs : List V} {xs : List α} {i : Nat} {v : V}, Reps K F vs xs → vs[i]? = some v → ∃ x, xs[i]? = some x ∧ rep K F v x
  | [], [], _, _, _, e => by simp at e
  | v :: _, y :: _, 0, w, ⟨h, _⟩, e => by
    have : v = w := Option.some.inj e
    subst this
    exact ⟨y, rfl, h⟩
  | _ :: vs, _ :: xs, i + 1, w, ⟨_, t⟩, e => by
    obtain ⟨x, h1, h2⟩ := Reps.get' (i := i) t (by simpa using e)
    exact ⟨x, by simpa using h1, h2⟩
  | [], _ :: _, _, _, h, _ => h.elim
  | _ :: _, [], _, _, h, _ => h.elim
theorem Reps.app : ∀ {vs ws : List V} {xs ys : List α}, Reps K F vs xs → Reps K F ws ys → Reps K F (vs ++ ws) (xs ++ ys)
  | [], _, [], _, _, t => t
  | _ :: _, _, _ :: _, _, ⟨h, t⟩, u => ⟨h, Reps.app t u⟩
  | [], _, _ :: _, _, h, _ => h.elim
  | _ :: _, _, [], _, h, _ => h.elim
theorem Reps.snoc {vs : List V} {xs : List α} {v : V} {x : α} (h : Reps K F vs xs) (r : rep K F v x) : Reps K F (vs ++ [v]) (xs ++ [x]) := h.app ⟨r, trivial⟩
theorem Reps.take : ∀ {vs : List V} {xs : List α} (n : Nat), Reps K F vs xs → Reps K F (vs.take n) (xs.take n)
  | _, _, 0, _ => by rw [List.take_zero, List.take_zero]; trivial
  | [], [], _ + 1, _ => trivial
  | _ :: _, _ :: _, n + 1, ⟨h, t⟩ => ⟨h, Reps.take n t⟩
  | [], _ :: _, _ + 1, h => h.elim
  | _ :: _, [], _ + 1, h => h.elim
theorem Reps.drop : ∀ {vs : List V} {xs : List α} (n : Nat), Reps K F vs xs → Reps K F (vs.drop n) (xs.drop n)
  | _, _, 0, h => h
  | [], [], _ + 1, _ => trivial
  | _ :: _, _ :: _, n + 1, ⟨_, t⟩ => Reps.drop n t
  | [], _ :: _, _ + 1, h => h.elim
  | _ :: _, [], _ + 1, h => h.elim
theorem Reps.set : ∀ {vs : List V} {xs : List α} {v : V} {x : α} (i : Nat), Reps K F vs xs → rep K F v x → Reps K F (vs.set i v) (xs.set i x)
  | [], [], _, _, _, _, _ => trivial
  | _ :: _, _ :: _, _, _, 0, ⟨_, t⟩, r => ⟨r, t⟩
  | _ :: _, _ :: _, _, _, i + 1, ⟨h, t⟩, r => ⟨h, Reps.set i t r⟩
  | [], _ :: _, _, _, _, h, _ => h.elim
  | _ :: _, [], _, _, _, h, _ => h.elim
theorem Reps.erase : ∀ {vs : List V} {xs : List α} (i : Nat), Reps K F vs xs → Reps K F (vs.eraseIdx i) (xs.eraseIdx i)
  | [], [], _, _ => trivial
  | _ :: _, _ :: _, 0, ⟨_, t⟩ => t
  | _ :: _, _ :: _, i + 1, ⟨h, t⟩ => ⟨h, Reps.erase i t⟩
  | [], _ :: _, _, h => h.elim
  | _ :: _, [], _, h => h.elim
theorem Reps.rev : ∀ {vs : List V} {xs : List α}, Reps K F vs xs → Reps K F vs.reverse xs.reverse
  | [], [], _ => trivial
  | _ :: _, _ :: _, ⟨h, t⟩ => by rw [List.reverse_cons, List.reverse_cons]; exact (Reps.rev t).snoc h
  | [], _ :: _, h => h.elim
  | _ :: _, [], h => h.elim
theorem Reps.mem : ∀ {vs : List V} {xs : List α} {x : α}, Reps K F vs xs → x ∈ xs → ∃ v, v ∈ vs ∧ rep K F v x
  | v :: _, y :: _, x, ⟨h, t⟩, e => by
    rcases List.mem_cons.mp e with rfl | e
    · exact ⟨v, List.mem_cons_self, h⟩
    · obtain ⟨w, a, b⟩ := Reps.mem t e
      exact ⟨w, List.mem_cons_of_mem _ a, b⟩
  | [], _ :: _, _, h, _ => h.elim
theorem Reps.repl {v : V} {x : α} (r : rep K F v x) : ∀ n : Nat, Reps K F (List.replicate n v) (List.replicate n x)
  | 0 => trivial
  | n + 1 => ⟨r, Reps.repl r n⟩
end
instance : Enc Int := ⟨fun _ _ v x => v = .int x, fun _ h => h⟩
instance : Enc Bool := ⟨fun _ _ v x => v = .bl x, fun _ h => h⟩
instance : Enc Str := ⟨fun _ _ v x => v = .str x, fun _ h => h⟩
instance : Enc Unit := ⟨fun _ _ v _ => v = .non, fun _ h => h⟩
class Opn (α : Type) extends Enc α where
  notNon : ∀ {K : PySem.W.Frag} {F : Hp} {x : α}, ¬ rep K F .non x
instance : Opn Int := ⟨fun {K F x} h => nomatch (show V.non = V.int x from h)⟩
instance : Opn Str := ⟨fun {K F x} h => nomatch (show V.non = V.str x from h)⟩
instance : Opn Bool := ⟨fun {K F x} h => nomatch (show V.non = V.bl x from h)⟩
instance {α : Type} [Enc α] : Enc (Option α) := ⟨fun K F v x => match x with | none => v = .non | some y => rep K F v y, fun {K F F' v x} e h => by
  cases x with
  | none => exact h
  | some y => exact Enc.mono (α := α) e h⟩
theorem sql_mono {K : PySem.W.Frag} {F F' : Hp} {a : Addr} {vs : List V} (e : Fle F F') (h : SqL K F a vs) : SqL K F' a vs := by
  rcases h with (h | ⟨o, h⟩) | h
  · exact .inl (.inl (e _ _ h))
  · exact .inl (.inr ⟨o, e _ _ h⟩)
  · exact .inr h
theorem sqt_mono {K : PySem.W.Frag} {F F' : Hp} {a : Addr} {vs : List V} (e : Fle F F') (h : SqT K F a vs) : SqT K F' a vs := by
  rcases h with (h | ⟨o, h⟩) | h
  · exact .inl (.inl (e _ _ h))
  · exact .inl (.inr ⟨o, e _ _ h⟩)
  · exact .inr h
def RepL {α : Type} [Enc α] (K : PySem.W.Frag) (F : Hp) (v : V) (xs : List α) : Prop := ∃ a vs, v = .ref a ∧ SqL K F a vs ∧ Reps K F vs xs
instance {α : Type} [Enc α] : Enc (List α) := ⟨RepL, fun e h => by
  obtain ⟨a, vs, rfl, h1, h2⟩ := h
  exact ⟨a, vs, rfl, sql_mono e h1, h2.mono e⟩⟩
structure T1 (α : Type) where
  a : α
deriving DecidableEq
structure T3 (α β γ : Type) where
  a : α
  b : β
  c : γ
deriving DecidableEq
structure T4 (α β γ δ : Type) where
  a : α
  b : β
  c : γ
  d : δ
deriving DecidableEq
structure T5 (α β γ δ ε : Type) where
  a : α
  b : β
  c : γ
  d : δ
  e : ε
deriving DecidableEq
structure Tu (α : Type) where
  l : List α
deriving DecidableEq
instance {α β : Type} [Enc α] [Enc β] : Enc (α × β) := ⟨fun K F v x => ∃ p v1 v2, v = .ref p ∧ SqT K F p [v1, v2] ∧ rep K F v1 x.1 ∧ rep K F v2 x.2, fun e h => by
  obtain ⟨p, v1, v2, rfl, h0, h1, h2⟩ := h
  exact ⟨p, v1, v2, rfl, sqt_mono e h0, Enc.mono e h1, Enc.mono e h2⟩⟩
instance {α : Type} [Enc α] : Enc (T1 α) := ⟨fun K F v x => ∃ p v1, v = .ref p ∧ SqT K F p [v1] ∧ rep K F v1 x.a, fun e h => by
  obtain ⟨p, v1, rfl, h0, h1⟩ := h
  exact ⟨p, v1, rfl, sqt_mono e h0, Enc.mono e h1⟩⟩
instance {α β γ : Type} [Enc α] [Enc β] [Enc γ] : Enc (T3 α β γ) := ⟨fun K F v x => ∃ p v1 v2 v3, v = .ref p ∧ SqT K F p [v1, v2, v3] ∧ rep K F v1 x.a ∧ rep K F v2 x.b ∧ rep K F v3 x.c, fun e h => by
  obtain ⟨p, v1, v2, v3, rfl, h0, h1, h2, h3⟩ := h
  exact ⟨p, v1, v2, v3, rfl, sqt_mono e h0, Enc.mono e h1, Enc.mono e h2, Enc.mono e h3⟩⟩
instance {α β γ δ : Type} [Enc α] [Enc β] [Enc γ] [Enc δ] : Enc (T4 α β γ δ) := ⟨fun K F v x => ∃ p v1 v2 v3 v4, v = .ref p ∧ SqT K F p [v1, v2, v3, v4] ∧ rep K F v1 x.a ∧ rep K F v2 x.b ∧ rep K F v3 x.c ∧ rep K F v4 x.d, fun e h => by
  obtain ⟨p, v1, v2, v3, v4, rfl, h0, h1, h2, h3, h4⟩ := h
  exact ⟨p, v1, v2, v3, v4, rfl, sqt_mono e h0, Enc.mono e h1, Enc.mono e h2, Enc.mono e h3, Enc.mono e h4⟩⟩
instance {α β γ δ ε : Type} [Enc α] [Enc β] [Enc γ] [Enc δ] [Enc ε] : Enc (T5 α β γ δ ε) := ⟨fun K F v x => ∃ p v1 v2 v3 v4 v5, v = .ref p ∧ SqT K F p [v1, v2, v3, v4, v5] ∧ rep K F v1 x.a ∧ rep K F v2 x.b ∧ rep K F v3 x.c ∧ rep K F v4 x.d ∧ rep K F v5 x.e, fun e h => by
  obtain ⟨p, v1, v2, v3, v4, v5, rfl, h0, h1, h2, h3, h4, h5⟩ := h
  exact ⟨p, v1, v2, v3, v4, v5, rfl, sqt_mono e h0, Enc.mono e h1, Enc.mono e h2, Enc.mono e h3, Enc.mono e h4, Enc.mono e h5⟩⟩
def RepT {α : Type} [Enc α] (K : PySem.W.Frag) (F : Hp) (v : V) (xs : List α) : Prop := ∃ a vs, v = .ref a ∧ SqT K F a vs ∧ Reps K F vs xs
instance {α : Type} [Enc α] : Enc (Tu α) := ⟨fun K F v x => RepT K F v x.l, fun e h => by
  obtain ⟨a, vs, rfl, h1, h2⟩ := h
  exact ⟨a, vs, rfl, sqt_mono e h1, h2.mono e⟩⟩
instance {α : Type} [Enc α] : Opn (List α) := ⟨fun h => by obtain ⟨_, _, e, _⟩ := h; cases e⟩
instance {α : Type} [Enc α] : Opn (Tu α) := ⟨fun h => by obtain ⟨_, _, e, _⟩ := h; cases e⟩
class Flat (α : Type) extends Enc α where
  toV : α → V
  iff : ∀ {K : PySem.W.Frag} {F : Hp} {v : V} {x : α}, rep K F v x ↔ v = toV x
  flat : ∀ x, flatV (toV x) = true
  inj : ∀ x y, eqV (toV x) (toV y) = true ↔ x = y
open Flat (toV)
instance : Flat Int := ⟨V.int, Iff.rfl, fun _ => rfl, fun x y => by show (x == y) = true ↔ _; simp⟩
instance : Flat Bool := ⟨V.bl, Iff.rfl, fun _ => rfl, fun x y => by show (x == y) = true ↔ _; simp⟩
instance : Flat Str := ⟨V.str, Iff.rfl, fun _ => rfl, fun x y => by show (x == y) = true ↔ _; simp⟩
instance : Flat (Option Int) := ⟨fun x => match x with | none => .non | some i => .int i, fun {K F v x} => by cases x <;> exact Iff.rfl, fun x => by cases x <;> rfl, fun x y => by
  cases x <;> cases y <;> simp [eqV]⟩
instance : Flat (Option Str) := ⟨fun x => match x with | none => .non | some i => .str i, fun {K F v x} => by cases x <;> exact Iff.rfl, fun x => by cases x <;> rfl, fun x y => by
  cases x <;> cases y <;> simp [eqV]⟩
section
variable {α : Type} [Flat α] {K : PySem.W.Frag} {F : Hp}
theorem Reps.flat : ∀ {vs : List V} {xs : List α}, Reps K F vs xs → vs = xs.map toV
  | [], [], _ => rfl
  | _ :: _, _ :: _, ⟨h, t⟩ => by rw [List.map_cons, ← Flat.iff.mp h, ← Reps.flat t]
  | [], _ :: _, h => h.elim
  | _ :: _, [], h => h.elim
theorem Reps.of_flat : ∀ (xs : List α), Reps K F (xs.map toV) xs
  | [] => trivial
  | _ :: xs => ⟨Flat.iff.mpr rfl, Reps.of_flat xs⟩
theorem flat_all (xs : List α) : (xs.map toV).all flatV = true := by
  rw [List.all_eq_true]
  intro v hv
  obtain ⟨x, _, rfl⟩ := List.mem_map.mp hv
  exact Flat.flat x
theorem inV_flat [DecidableEq α] (x : α) (xs : List α) : inV (toV x) (xs.map toV) = decide (x ∈ xs) := by
  rw [Bool.eq_iff_iff, decide_eq_true_eq]
  unfold inV
  rw [List.any_eq_true]
  constructor
  · rintro ⟨v, hv, e⟩
    obtain ⟨y, hy, rfl⟩ := List.mem_map.mp hv
    rw [Flat.inj] at e
    rw [← e]; exact hy
  · intro h
    exact ⟨_, List.mem_map.mpr ⟨x, h, rfl⟩, (Flat.inj x x).mpr rfl⟩
end
end Dy

namespace Dy
open PySem PySem.Spec L2
open PyProof.Rows hiding St
open Enc (rep)
open Flat (toV)

def WE (X : Cx) (e : Expr) : TE := fun σ H Q => ∀ (pins : List (Addr × Obj)) (s : Shared), Inv X pins σ H s → wpAny (model X.prog X.w) X.A (eval e X.env) (EP X pins σ Q) X.xe s
def WT (X : Cx) (e : Expr) : TT := fun σ H Q => ∀ (pins : List (Addr × Obj)) (s : Shared), Inv X pins σ H s → wpAny (model X.prog X.w) X.A (isTrue e X.env (eval e X.env)) (TP X pins σ Q) X.xe s
def WW (X : Cx) (e : Expr) : TT := fun σ H Q => ∀ (whole : Sem Value) (pins : List (Addr × Obj)) (s : Shared), Inv X pins σ H s → wpAny (model X.prog X.w) X.A (isTrue e X.env whole) (TP X pins σ Q) X.xe s
def WA (X : Cx) (es : List Expr) : TA := fun σ H Q => ∀ (pos : Pos) (pins : List (Addr × Obj)) (s : Shared), Inv X pins σ H s → wpAny (model X.prog X.w) X.A (spliced (backTo pos (starEach es X.env))) (AP X pins σ Q) X.xe s
def WSs (X : Cx) (ss : List Stmt) : TS := fun D σ H => ∀ (pins : List (Addr × Obj)) (s : Shared), Inv X pins σ H s → wpAny (model X.prog X.w) X.A (execs ss X.env) (SP X pins D) X.xe s
theorem pe_we {X : Cx} {e : Expr} : PE X e (WE X e) := ⟨fun pins s _ _ _ I h => h pins s I⟩
theorem pt_wt {X : Cx} {e : Expr} : PT X e (WT X e) := ⟨fun pins s _ _ _ I h => h pins s I⟩
theorem pw_ww {X : Cx} {e : Expr} : PW X e (WW X e) := ⟨fun whole pins s _ _ _ I h => h whole pins s I⟩
theorem pa_wa {X : Cx} {es : List Expr} : PA X es (WA X es) := ⟨fun pos pins s _ _ _ I h => h pos pins s I⟩
theorem pss_ws {X : Cx} {ss : List Stmt} : PSs X ss (WSs X ss) := ⟨fun pins s _ _ _ I h => h pins s I⟩
theorem we_of {X : Cx} {e : Expr} {t : TE} {σ : St} {H : Hp} {Q : VK} (h : PE X e t) (q : t σ H Q) : WE X e σ H Q := fun pins s I => h.run pins s σ H Q I q
theorem wt_of {X : Cx} {e : Expr} {t : TT} {σ : St} {H : Hp} {Q : Bool → Hp → Prop} (h : PT X e t) (q : t σ H Q) : WT X e σ H Q := fun pins s I => h.run pins s σ H Q I q
theorem ww_of {X : Cx} {e : Expr} {t : TT} {σ : St} {H : Hp} {Q : Bool → Hp → Prop} (h : PW X e t) (q : t σ H Q) : WW X e σ H Q := fun w pins s I => h.run w pins s σ H Q I q
theorem wa_of {X : Cx} {es : List Expr} {t : TA} {σ : St} {H : Hp} {Q : List V → Hp → Prop} (h : PA X es t) (q : t σ H Q) : WA X es σ H Q := fun pos pins s I => h.run pos pins s σ H Q I q
theorem ws_of {X : Cx} {ss : List Stmt} {t : TS} {D : Ends} {σ : St} {H : Hp} (h : PSs X ss t) (q : t D σ H) : WSs X ss D σ H := fun pins s I => h.run pins s σ H D I q
theorem WSs.imp {X : Cx} {ss : List Stmt} {D D' : Ends} {σ : St} {H : Hp} (h : WSs X ss D σ H) (h1 : ∀ σ H, D.nx σ H → D'.nx σ H) (h2 : ∀ v H, D.rt v H → D'.rt v H) (h3 : ∀ σ H, D.bk σ H → D'.bk σ H) (h4 : ∀ σ H, D.ct σ H → D'.ct σ H) : WSs X ss D' σ H := fun pins s I => thn (h pins s I) fun f s1 q => by
  cases f with
  | next => obtain ⟨a, b, c, d⟩ := q; exact ⟨a, b, c, h1 _ _ d⟩
  | brk => obtain ⟨a, b, c, d⟩ := q; exact ⟨a, b, c, h3 _ _ d⟩
  | cont => obtain ⟨a, b, c, d⟩ := q; exact ⟨a, b, c, h4 _ _ d⟩
  | ret u => obtain ⟨a, b, c, d, e, f⟩ := q; exact ⟨a, b, c, d, e, h2 _ _ f⟩

section
variable {α β γ δ : Type} [Enc α] [Enc β] [Enc γ] [Enc δ]
def Ev (X : Cx) (e : Expr) (σ : St) (s : S) (x : α) : Prop := ∀ s1, Ex s s1 → ∀ Q : VK, (∀ v s2, Ex s1 s2 → rep X.K s2.F v x → Q v s2.H) → WE X e σ s1.H Q
def RepR (K : PySem.W.Frag) (s : S) (v : V) (xs : List α) : Prop := ∃ a vs, v = .ref a ∧ SqL K s.H a vs ∧ Reps K s.F vs xs
def EvR (X : Cx) (e : Expr) (σ : St) (s : S) (xs : List α) : Prop := ∀ s1, Ex s s1 → ∀ Q : VK, (∀ v s2, Ex s1 s2 → RepR X.K s2 v xs → Q v s2.H) → WE X e σ s1.H Q
def Own (K : PySem.W.Frag) (s : S) (p : Addr) (xs : List α) : Prop := s.F p = none ∧ ∃ vs, s.H p = some (.lst vs) ∧ Reps K s.F vs xs
def EvN (X : Cx) (e : Expr) (σ : St) (s : S) (xs : List α) : Prop := ∀ s1, Ex s s1 → ∀ Q : VK, (∀ p s2, Ex s1 s2 → s1.H p = none → Own X.K s2 p xs → Q (.ref p) s2.H) → WE X e σ s1.H Q
def EvT (X : Cx) (e : Expr) (σ : St) (s : S) (b : Bool) : Prop := ∀ s1, Ex s s1 → ∀ Q : Bool → Hp → Prop, (∀ s2, Ex s1 s2 → Q b s2.H) → WT X e σ s1.H Q
def EvW (X : Cx) (e : Expr) (σ : St) (s : S) (b : Bool) : Prop := ∀ s1, Ex s s1 → ∀ Q : Bool → Hp → Prop, (∀ s2, Ex s1 s2 → Q b s2.H) → WW X e σ s1.H Q
structure EvB (X : Cx) (e : Expr) (σ : St) (s : S) (b : Bool) : Prop where
  v : Ev X e σ s b
  t : EvT X e σ s b
structure EvC (X : Cx) (e : Expr) (σ : St) (s : S) (b : Bool) : Prop where
  v : Ev X e σ s b
  w : EvW X e σ s b
end
class EncA (A : Type) where
  repA : PySem.W.Frag → Hp → List V → A → Prop
  monoA : ∀ {K : PySem.W.Frag} {F F' : Hp} {vs : List V} {x : A}, Fle F F' → repA K F vs x → repA K F' vs x
open EncA (repA)
instance : EncA Unit := ⟨fun _ _ vs _ => vs = [], fun _ h => h⟩
instance {α A : Type} [Enc α] [EncA A] : EncA (α × A) := ⟨fun K F vs x => ∃ v r, vs = v :: r ∧ rep K F v x.1 ∧ repA K F r x.2, fun e h => by
  obtain ⟨v, r, rfl, h1, h2⟩ := h
  exact ⟨v, r, rfl, Enc.mono e h1, EncA.monoA e h2⟩⟩
def EvA {A : Type} [EncA A] (X : Cx) (es : List Expr) (σ : St) (s : S) (a : A) : Prop := ∀ s1, Ex s s1 → ∀ Q : List V → Hp → Prop, (∀ vs s2, Ex s1 s2 → repA X.K s2.F vs a → Q vs s2.H) → WA X es σ s1.H Q

section
variable {α β γ δ : Type} [Enc α] [Enc β] [Enc γ] [Enc δ] {X : Cx} {σ : St} {s t : S} {e a b c : Expr} {es : List Expr} {pos p0 p1 p2 p3 : Pos}
theorem Own.frz {K : PySem.W.Frag} {p : Addr} {xs : List α} (h : Own K s p xs) : ∃ s' : S, s'.H = s.H ∧ Fle s.F s'.F ∧ (∀ q, q ≠ p → s'.F q = s.F q) ∧ rep K s'.F (.ref p) xs := by
  obtain ⟨hn, vs, hp, r⟩ := h
  have f : Fle s.F (upd s.F p (.lst vs)) := fun a o q => by rw [upd_ne (ne_of_none q hn)]; exact q
  refine ⟨⟨upd s.F p (.lst vs), s.H, fun a o q => ?_⟩, rfl, f, fun q hq => upd_ne hq, p, vs, rfl, .inl (.inl upd_same), r.mono f⟩
  unfold upd at q
  split at q
  · rename_i e; cases q; rw [e]; exact hp
  · exact s.sub a o q
theorem Own.ex {K : PySem.W.Frag} {p : Addr} {xs : List α} (h : Own K s p xs) (e : Ex s t) : Own K t p xs := by
  obtain ⟨hn, vs, hp, r⟩ := h
  exact ⟨e.n _ _ hp hn, vs, e.h _ _ hp, r.mono e.f⟩
theorem Own.mx {K : PySem.W.Frag} {p : Addr} {P : Addr → Prop} {xs : List α} (h : Own K s p xs) (e : Mx P s t) (n : ¬ P p) : Own K t p xs := by
  obtain ⟨hn, vs, hp, r⟩ := h
  exact ⟨e.n _ _ hp hn, vs, e.h _ _ hp n, r.mono e.f⟩
theorem Own.ne {K : PySem.W.Frag} {p q : Addr} {xs : List α} (h : Own K s p xs) (n : s.H q = none) : p ≠ q := by
  obtain ⟨_, vs, hp, _⟩ := h
  exact ne_of_none hp n
theorem Own.r {K : PySem.W.Frag} {p : Addr} {xs : List α} (h : Own K s p xs) : RepR K s (.ref p) xs := by
  obtain ⟨hn, vs, hp, r⟩ := h
  exact ⟨p, vs, rfl, .inl (.inl hp), r⟩
theorem RepR.ex {K : PySem.W.Frag} {v : V} {xs : List α} (h : RepR K s v xs) (e : Ex s t) : RepR K t v xs := by
  obtain ⟨p, vs, rfl, h1, h2⟩ := h
  exact ⟨p, vs, rfl, sql_mono e.h h1, h2.mono e.f⟩
theorem rep_r {K : PySem.W.Frag} {v : V} {xs : List α} (h : rep K s.F v xs) : RepR K s v xs := by
  obtain ⟨p, vs, rfl, h1, h2⟩ := h
  exact ⟨p, vs, rfl, sql_mono s.sub h1, h2⟩
theorem Ev.mono {x : α} (h : Ev X e σ s x) (k : Ex s t) : Ev X e σ t x := fun s1 k1 Q q => h s1 (k.trans k1) Q q
theorem EvT.mono {x : Bool} (h : EvT X e σ s x) (k : Ex s t) : EvT X e σ t x := fun s1 k1 Q q => h s1 (k.trans k1) Q q
theorem Ev.r {xs : List α} (h : Ev X e σ s xs) : EvR X e σ s xs := fun s1 k Q q => h s1 k Q fun v s2 k2 r => q v s2 k2 (rep_r r)
theorem EvN.r {xs : List α} (h : EvN X e σ s xs) : EvR X e σ s xs := fun s1 k Q q => h s1 k Q fun p s2 k2 _ o => q (.ref p) s2 k2 o.r
theorem frz_ex {K : PySem.W.Frag} {p : Addr} {xs : List α} (k : Ex s t) (n : s.H p = none) (o : Own K t p xs) : ∃ t' : S, t'.H = t.H ∧ Ex s t' ∧ rep K t'.F (.ref p) xs := by
  obtain ⟨t', h1, h2, h3, h4⟩ := o.frz
  refine ⟨t', h1, ⟨k.f.trans h2, fun a u q => by rw [h1]; exact k.h a u q, fun a u q m => ?_⟩, h4⟩
  have : a ≠ p := ne_of_none q n
  rw [h3 a this]
  exact k.n a u q m
theorem EvN.ev {xs : List α} (h : EvN X e σ s xs) : Ev X e σ s xs := fun s1 k Q q => h s1 k Q fun p s2 k2 n o => by
  obtain ⟨t', h1, h2, h3⟩ := frz_ex k2 n o
  rw [← h1]
  exact q _ t' h2 h3
theorem Ev.cast {x y : α} (h : Ev X e σ s x) (k : x = y) : Ev X e σ s y := k ▸ h

theorem ev_var (i : Nat) {v : V} {x : α} {n : Str} (h : σ[i]? = some (some v)) (r : rep X.K s.F v x) (hN : X.N[i]? = some n := by rfl) (hv : Vis X.env.scope n := by first | exact Or.inl rfl | exact Or.inr (Or.inl rfl) | exact Or.inr (Or.inr rfl)) (hd : (n == ("__debug__" : Str)) = false := by decide)
    (hcd : (n == ("__classdict__" : Str)) = false := by decide) : Ev X (.Name n pos) σ s x := fun s1 k Q q => we_of (pe_var hN hv hd hcd) ⟨v, h, q v s1 (Ex.refl _) (Enc.mono k.f r)⟩
theorem ev_varR (i : Nat) {p : Addr} {xs : List α} {n : Str} (h : σ[i]? = some (some (.ref p))) (r : Own X.K s p xs) (hN : X.N[i]? = some n := by rfl) (hv : Vis X.env.scope n := by first | exact Or.inl rfl | exact Or.inr (Or.inl rfl) | exact Or.inr (Or.inr rfl)) (hd : (n == ("__debug__" : Str)) = false := by decide)
    (hcd : (n == ("__classdict__" : Str)) = false := by decide) : EvR X (.Name n pos) σ s xs := fun s1 k Q q => we_of (pe_var hN hv hd hcd) ⟨_, h, q _ s1 (Ex.refl _) (r.ex k).r⟩
theorem ev_int {i : Int} {j} : Ev X (.Constant (.int i) j pos) σ s i := fun s1 k Q q => we_of pe_int (q _ s1 (Ex.refl _) rfl)
theorem ev_bl {i : Bool} {j} : Ev X (.Constant (.bool i) j pos) σ s i := fun s1 k Q q => we_of pe_bl (q _ s1 (Ex.refl _) rfl)
theorem ev_str {i : Str} {j} : Ev X (.Constant (.str i) j pos) σ s i := fun s1 k Q q => we_of pe_str (q _ s1 (Ex.refl _) rfl)
theorem ev_non {j} : Ev X (.Constant .none j pos) σ s () := fun s1 k Q q => we_of pe_non (q _ s1 (Ex.refl _) rfl)
theorem ev_nonO {j} : Ev X (.Constant .none j pos) σ s (none : Option α) := fun s1 k Q q => we_of pe_non (q _ s1 (Ex.refl _) rfl)
theorem ev_some {x : α} (h : Ev X e σ s x) : Ev X e σ s (some x) := h
theorem ev_glob {n : Str} {x : α} (h : ∃ v u, X.mg n = some u ∧ RelV v u ∧ ∀ F, rep X.K F v x) (hg : Gl X n := by rfl) (hd : (n == ("__debug__" : Str)) = false := by decide) : Ev X (.Name n pos) σ s x := fun s1 k Q q => by
  obtain ⟨v, u, h1, h2, h3⟩ := h
  exact we_of (pe_glob hg h1 h2 hd) (q v s1 (Ex.refl _) (h3 _))

theorem ev_op {op : Operator} {r : R2} {x : α} {y : β} {z : γ} (ho : OpR X (binaryOp op) r) (ha : Ev X a σ s x) (hb : Ev X b σ s y)
    (hr : ∀ v u s2, rep X.K s2.F v x → rep X.K s2.F u y → ∀ Q : VK, (∀ v' s3, Ex s2 s3 → rep X.K s3.F v' z → Q v' s3.H) → r v u s2.H Q) : Ev X (.BinOp a op b pos) σ s z := fun s1 k Q q =>
  we_of (pe_op ho pe_we pe_we) (ha s1 k _ fun v s2 k2 r2 => hb s2 (k.trans k2) _ fun u s3 k3 r3 => hr v u s3 (Enc.mono k3.f r2) r3 Q fun w s4 k4 r4 => q w s4 ((k2.trans k3).trans k4) r4)
theorem ev_I0 {op : Operator} {g : Int → Int → V} {x y : Int} {z : γ} (ho : OpR X (binaryOp op) (rI0 g)) (ha : Ev X a σ s x) (hb : Ev X b σ s y) (hz : ∀ K F, rep K F (g x y) z) : Ev X (.BinOp a op b pos) σ s z :=
  ev_op ho ha hb fun v u s2 hv hu Q q => ⟨x, y, hv, hu, q _ s2 (Ex.refl _) (hz _ _)⟩
theorem ev_I {op : Operator} {C : Int → Int → Prop} {g : Int → Int → V} {x y : Int} {z : γ} (ho : OpR X (binaryOp op) (rI C g)) (ha : Ev X a σ s x) (hb : Ev X b σ s y) (hc : C x y) (hz : ∀ K F, rep K F (g x y) z) : Ev X (.BinOp a op b pos) σ s z :=
  ev_op ho ha hb fun v u s2 hv hu Q q => ⟨x, y, hv, hu, hc, q _ s2 (Ex.refl _) (hz _ _)⟩
theorem ev_add {x y : Int} (ha : Ev X a σ s x) (hb : Ev X b σ s y) : Ev X (.BinOp a .Add b pos) σ s (x + y) := ev_I0 op_add ha hb fun _ _ => rfl
theorem ev_sub {x y : Int} (ha : Ev X a σ s x) (hb : Ev X b σ s y) : Ev X (.BinOp a .Sub b pos) σ s (x - y) := ev_I0 op_sub ha hb fun _ _ => rfl
def MulOk (x y : Int) : Prop := CMul x y ∨ CMulW x y
theorem ev_mul {x y : Int} (ha : Ev X a σ s x) (hb : Ev X b σ s y) (hc : MulOk x y) : Ev X (.BinOp a .Mult b pos) σ s (x * y) := by
  rcases hc with hc | hc
  · exact ev_I op_mul ha hb hc fun _ _ => rfl
  · exact ev_I op_mulW ha hb hc fun _ _ => rfl
theorem ev_mod {x y : Int} (ha : Ev X a σ s x) (hb : Ev X b σ s y) (hc : 0 < y) : Ev X (.BinOp a .Mod b pos) σ s (x % y) := ev_I op_mod ha hb hc fun _ _ => rfl
def DivOk (y : Int) : Prop := 0 < y ∧ y.natAbs.log2 < 9000
theorem ev_div {x y : Int} (ha : Ev X a σ s x) (hb : Ev X b σ s y) (hc : DivOk y) : Ev X (.BinOp a .FloorDiv b pos) σ s (x / y) := ev_I op_fdivW ha hb hc fun _ _ => rfl
theorem ev_pow {x y : Int} (ha : Ev X a σ s x) (hb : Ev X b σ s y) (hc : CPow x y) : Ev X (.BinOp a .Pow b pos) σ s (x ^ y.toNat) := ev_I op_pow ha hb hc fun _ _ => rfl
theorem ev_adds {x y : Str} (ha : Ev X a σ s x) (hb : Ev X b σ s y) (hc : x.length + y.length ≤ sizeLine) : Ev X (.BinOp a .Add b pos) σ s (x ++ y) :=
  ev_op op_add_str ha hb fun v u s2 hv hu Q q => ⟨x, y, hv, hu, hc, q _ s2 (Ex.refl _) rfl⟩
theorem ev_neg {x : Int} (ha : Ev X a σ s x) : Ev X (.UnaryOp .USub a pos) σ s (-x) := fun s1 k Q q =>
  we_of (pe_un un_neg pe_we) (ha s1 k _ fun v s2 k2 r2 => ⟨x, r2, q _ s2 k2 rfl⟩)

theorem atI_rep {K : PySem.W.Frag} {F : Hp} {vs : List V} {xs : List α} {i : Int} {x : α} (r : Reps K F vs xs) (h : atI xs i = some x) : ∃ v, atI vs i = some v ∧ rep K F v x := by
  unfold atI at h ⊢
  rw [r.len]
  cases hj : ixN xs.length i with
  | none => rw [hj] at h; cases h
  | some j =>
    rw [hj] at h
    obtain ⟨v, h1, h2⟩ := r.get (i := j) h
    exact ⟨v, h1, h2⟩
theorem ev_ix {xs : List α} {i : Int} {x : α} (ha : EvR X a σ s xs) (hb : Ev X b σ s i) (h : atI xs i = some x) (hp : PlainIx b := by intro _ _; rfl) : Ev X (.Subscript a b pos) σ s x := fun s1 k Q q =>
  we_of (pe_ix ix_list pe_we pe_we hp) (ha s1 k _ fun v s2 k2 r2 => hb s2 (k.trans k2) _ fun u s3 k3 r3 => by
    obtain ⟨p, vs, rfl, h1, h2⟩ := r2.ex k3
    obtain ⟨w, h3, h4⟩ := atI_rep h2 h
    exact ⟨p, vs, i, w, rfl, r3, h1, h3, q w s3 (k2.trans k3) h4⟩)
theorem ev_ixT {xs : Tu α} {i : Int} {x : α} (ha : Ev X a σ s xs) (hb : Ev X b σ s i) (h : atI xs.l i = some x) (hp : PlainIx b := by intro _ _; rfl) : Ev X (.Subscript a b pos) σ s x := fun s1 k Q q =>
  we_of (pe_ix ix_tup pe_we pe_we hp) (ha s1 k _ fun v s2 k2 r2 => hb s2 (k.trans k2) _ fun u s3 k3 r3 => by
    obtain ⟨p, vs, rfl, h1, h2⟩ := Enc.mono (α := Tu α) k3.f r2
    obtain ⟨w, h3, h4⟩ := atI_rep h2 h
    exact ⟨p, vs, i, w, rfl, r3, sqt_mono s3.sub h1, h3, q w s3 (k2.trans k3) h4⟩)
theorem ev_ixP {x : β} {i : Int} {y : α} (ha : Ev X a σ s x) (hb : Ev X b σ s i) (h : ∀ {F : Hp} {v : V}, rep X.K F v x → ∃ p vs w, v = .ref p ∧ SqT X.K F p vs ∧ atI vs i = some w ∧ rep X.K F w y) (hp : PlainIx b := by intro _ _; rfl) : Ev X (.Subscript a b pos) σ s y := fun s1 k Q q =>
  we_of (pe_ix ix_tup pe_we pe_we hp) (ha s1 k _ fun v s2 k2 r2 => hb s2 (k.trans k2) _ fun u s3 k3 r3 => by
    obtain ⟨p, vs, w, rfl, h1, h2, h3⟩ := h (Enc.mono k3.f r2)
    exact ⟨p, vs, i, w, rfl, r3, sqt_mono s3.sub h1, h2, q w s3 (k2.trans k3) h3⟩)
theorem p2_0 {K : PySem.W.Frag} {x : α × β} {F : Hp} {v : V} (h : rep K F v x) : ∃ p vs w, v = .ref p ∧ SqT K F p vs ∧ atI vs 0 = some w ∧ rep K F w x.1 := by
  obtain ⟨p, v1, v2, rfl, h0, h1, h2⟩ := h
  exact ⟨p, _, v1, rfl, h0, rfl, h1⟩
theorem p2_1 {K : PySem.W.Frag} {x : α × β} {F : Hp} {v : V} (h : rep K F v x) : ∃ p vs w, v = .ref p ∧ SqT K F p vs ∧ atI vs 1 = some w ∧ rep K F w x.2 := by
  obtain ⟨p, v1, v2, rfl, h0, h1, h2⟩ := h
  exact ⟨p, _, v2, rfl, h0, rfl, h2⟩
theorem p3_0 {K : PySem.W.Frag} {x : T3 α β γ} {F : Hp} {v : V} (h : rep K F v x) : ∃ p vs w, v = .ref p ∧ SqT K F p vs ∧ atI vs 0 = some w ∧ rep K F w x.a := by
  obtain ⟨p, v1, v2, v3, rfl, h0, h1, h2, h3⟩ := h
  exact ⟨p, _, v1, rfl, h0, rfl, h1⟩
theorem p3_1 {K : PySem.W.Frag} {x : T3 α β γ} {F : Hp} {v : V} (h : rep K F v x) : ∃ p vs w, v = .ref p ∧ SqT K F p vs ∧ atI vs 1 = some w ∧ rep K F w x.b := by
  obtain ⟨p, v1, v2, v3, rfl, h0, h1, h2, h3⟩ := h
  exact ⟨p, _, v2, rfl, h0, rfl, h2⟩
theorem p3_2 {K : PySem.W.Frag} {x : T3 α β γ} {F : Hp} {v : V} (h : rep K F v x) : ∃ p vs w, v = .ref p ∧ SqT K F p vs ∧ atI vs 2 = some w ∧ rep K F w x.c := by
  obtain ⟨p, v1, v2, v3, rfl, h0, h1, h2, h3⟩ := h
  exact ⟨p, _, v3, rfl, h0, rfl, h3⟩
def sgn (x : Str) (i : Int) : Option Str := if x.length ≤ sizeLine then (atI x.cps.toList i).map fun c => ⟨#[c]⟩ else none
theorem ev_ixS {x : Str} {i : Int} {y : Str} (ha : Ev X a σ s x) (hb : Ev X b σ s i) (h : sgn x i = some y) (hp : PlainIx b := by intro _ _; rfl) : Ev X (.Subscript a b pos) σ s y := fun s1 k Q q =>
  we_of (pe_ix ix_str pe_we pe_we hp) (ha s1 k _ fun v s2 k2 r2 => hb s2 (k.trans k2) _ fun u s3 k3 r3 => by
    unfold sgn at h
    split at h
    · rename_i hz
      obtain ⟨c, h1, h2⟩ := Option.map_eq_some_iff.mp h
      exact ⟨x, i, c, r2, r3, hz, h1, q _ s3 (k2.trans k3) (by rw [h2]; rfl)⟩
    · cases h)
end
end Dy

namespace Dy
open PySem PySem.Spec L2
open PyProof.Rows hiding St
open Enc (rep)
open Flat (toV)
open EncA (repA)

section
variable {α β γ δ : Type} [Enc α] [Enc β] [Enc γ] [Enc δ] {X : Cx} {σ : St} {s t : S} {e a b c : Expr} {es : List Expr} {pos p0 p1 p2 p3 : Pos}

theorem et_v {x : Bool} (h : Ev X e σ s x) (he : ∀ whole, isTrue e X.env whole = (do let v ← whole; standAt e.pos; holding [v] (truthy v)) := by intro _; rfl) : EvT X e σ s x := fun s1 k Q q =>
  wt_of (pt_val pe_we he) (h s1 k _ fun v s2 k2 r => ⟨x, r, q s2 k2⟩)
theorem eb_v {x : Bool} (h : Ev X e σ s x) (he : ∀ whole, isTrue e X.env whole = (do let v ← whole; standAt e.pos; holding [v] (truthy v)) := by intro _; rfl) : EvB X e σ s x := ⟨h, et_v h he⟩
theorem EvW.tt {x : Bool} (h : EvW X e σ s x) : EvT X e σ s x := fun s1 k Q q => wt_of pw_ww.pt (h s1 k Q q)
theorem EvC.bb {x : Bool} (h : EvC X e σ s x) : EvB X e σ s x := ⟨h.v, h.w.tt⟩
theorem EvB.cast {x y : Bool} (h : EvB X e σ s x) (k : x = y) : EvB X e σ s y := k ▸ h
theorem ec_and1 {x : Bool} (h : EvB X a σ s x) : EvC X (.BoolOp .And [a] pos) σ s x :=
  ⟨fun s1 k Q q => we_of (pe_one pe_we) (h.v s1 k Q q), fun s1 k Q q => ww_of (pw_and1 pt_wt) (h.t s1 k Q q)⟩
theorem ec_or1 {x : Bool} (h : EvB X a σ s x) : EvC X (.BoolOp .Or [a] pos) σ s x :=
  ⟨fun s1 k Q q => we_of (pe_one pe_we) (h.v s1 k Q q), fun s1 k Q q => ww_of (pw_or1 pt_wt) (h.t s1 k Q q)⟩
theorem ec_and {x y : Bool} (h : EvB X a σ s x) (h2 : x = true → EvC X (.BoolOp .And (b :: es) pos) σ s y) : EvC X (.BoolOp .And (a :: b :: es) pos) σ s (x && y) :=
  ⟨fun s1 k Q q => we_of (pe_and pe_we pe_we) (h.v s1 k _ fun v s2 k2 r => ⟨x, r, by
    cases x with
    | true => exact iteT ((h2 rfl).v s2 (k.trans k2) Q fun v s3 k3 r3 => q v s3 (k2.trans k3) r3)
    | false => exact iteF (q _ s2 k2 rfl)⟩),
   fun s1 k Q q => ww_of (pw_and pt_wt pw_ww) (h.t s1 k _ fun s2 k2 => by
    cases x with
    | true => exact iteT ((h2 rfl).w s2 (k.trans k2) Q fun s3 k3 => q s3 (k2.trans k3))
    | false => exact iteF (q s2 k2))⟩
theorem ec_or {x y : Bool} (h : EvB X a σ s x) (h2 : x = false → EvC X (.BoolOp .Or (b :: es) pos) σ s y) : EvC X (.BoolOp .Or (a :: b :: es) pos) σ s (x || y) :=
  ⟨fun s1 k Q q => we_of (pe_or pe_we pe_we) (h.v s1 k _ fun v s2 k2 r => ⟨x, r, by
    cases x with
    | true => exact iteT (q _ s2 k2 rfl)
    | false => exact iteF ((h2 rfl).v s2 (k.trans k2) Q fun v s3 k3 r3 => q v s3 (k2.trans k3) r3)⟩),
   fun s1 k Q q => ww_of (pw_or pt_wt pw_ww) (h.t s1 k _ fun s2 k2 => by
    cases x with
    | true => exact iteT (q s2 k2)
    | false => exact iteF ((h2 rfl).w s2 (k.trans k2) Q fun s3 k3 => q s3 (k2.trans k3)))⟩
theorem eb_not {x : Bool} (h : EvB X a σ s x) : EvB X (.UnaryOp .Not a pos) σ s (!x) :=
  ⟨fun s1 k Q q => we_of (pe_not pe_we) (h.v s1 k _ fun v s2 k2 r => ⟨x, r, q _ s2 k2 rfl⟩), fun s1 k Q q => wt_of (pt_not pt_wt) (h.t s1 k _ fun s2 k2 => q s2 k2)⟩
theorem ev_ifE {x : Bool} {y z : α} (h : EvT X c σ s x) (h1 : x = true → Ev X a σ s y) (h2 : x = false → Ev X b σ s z) : Ev X (.IfExp c a b pos) σ s (if x = true then y else z) := fun s1 k Q q =>
  we_of (pe_ifExp pt_wt pe_we pe_we) (h s1 k _ fun s2 k2 => by
    cases x with
    | true => exact iteT (h1 rfl s2 (k.trans k2) Q fun v s3 k3 r => q v s3 (k2.trans k3) r)
    | false => exact iteF (h2 rfl s2 (k.trans k2) Q fun v s3 k3 r => q v s3 (k2.trans k3) r))

theorem eb_cmp {op : CmpOp} {r : R2} {x : α} {y : β} {z : Bool} (ho : OpR X (compareOp op) r) (ha : Ev X a σ s x) (hb : Ev X b σ s y)
    (hr : ∀ (v u : V) (s2 : S), rep X.K s2.F v x → rep X.K s2.F u y → ∀ Q : VK, Q (.bl z) s2.H → r v u s2.H Q) (hm : behindInMarks op b = false) : EvB X (.Compare a [op] [b] pos) σ s z :=
  ⟨fun s1 k Q q => we_of (pe_cmpR ho pe_we pe_we hm) (ha s1 k _ fun v s2 k2 r2 => hb s2 (k.trans k2) _ fun u s3 k3 r3 => hr v u s3 (Enc.mono k3.f r2) r3 Q (q _ s3 (k2.trans k3) rfl)),
   fun s1 k Q q => wt_of (pt_cmpR ho pe_we pe_we hm) (ha s1 k _ fun v s2 k2 r2 => hb s2 (k.trans k2) _ fun u s3 k3 r3 => hr v u s3 (Enc.mono k3.f r2) r3 _ ⟨z, rfl, q s3 (k2.trans k3)⟩)⟩
theorem eb_cmpR {op : CmpOp} {r : R2} {x : α} {ys : List β} {z : Bool} (ho : OpR X (compareOp op) r) (ha : Ev X a σ s x) (hb : EvR X b σ s ys)
    (hr : ∀ (v u : V) (s2 : S), rep X.K s2.F v x → RepR X.K s2 u ys → ∀ Q : VK, Q (.bl z) s2.H → r v u s2.H Q) (hm : behindInMarks op b = false) : EvB X (.Compare a [op] [b] pos) σ s z :=
  ⟨fun s1 k Q q => we_of (pe_cmpR ho pe_we pe_we hm) (ha s1 k _ fun v s2 k2 r2 => hb s2 (k.trans k2) _ fun u s3 k3 r3 => hr v u s3 (Enc.mono k3.f r2) r3 Q (q _ s3 (k2.trans k3) rfl)),
   fun s1 k Q q => wt_of (pt_cmpR ho pe_we pe_we hm) (ha s1 k _ fun v s2 k2 r2 => hb s2 (k.trans k2) _ fun u s3 k3 r3 => hr v u s3 (Enc.mono k3.f r2) r3 _ ⟨z, rfl, q s3 (k2.trans k3)⟩)⟩
theorem eb_cmpRR {op : CmpOp} {r : R2} {xs : List α} {ys : List β} {z : Bool} (ho : OpR X (compareOp op) r) (ha : EvR X a σ s xs) (hb : EvR X b σ s ys)
    (hr : ∀ (v u : V) (s2 : S), RepR X.K s2 v xs → RepR X.K s2 u ys → ∀ Q : VK, Q (.bl z) s2.H → r v u s2.H Q) (hm : behindInMarks op b = false) : EvB X (.Compare a [op] [b] pos) σ s z :=
  ⟨fun s1 k Q q => we_of (pe_cmpR ho pe_we pe_we hm) (ha s1 k _ fun v s2 k2 r2 => hb s2 (k.trans k2) _ fun u s3 k3 r3 => hr v u s3 (r2.ex k3) r3 Q (q _ s3 (k2.trans k3) rfl)),
   fun s1 k Q q => wt_of (pt_cmpR ho pe_we pe_we hm) (ha s1 k _ fun v s2 k2 r2 => hb s2 (k.trans k2) _ fun u s3 k3 r3 => hr v u s3 (r2.ex k3) r3 _ ⟨z, rfl, q s3 (k2.trans k3)⟩)⟩
theorem eb_I0 {op : CmpOp} {g : Int → Int → V} {x y : Int} {z : Bool} (ho : OpR X (compareOp op) (rI0 g)) (hg : g x y = .bl z) (hm : behindInMarks op b = false) (ha : Ev X a σ s x) (hb : Ev X b σ s y) : EvB X (.Compare a [op] [b] pos) σ s z :=
  eb_cmp ho ha hb (fun v u s2 hv hu Q q => ⟨x, y, hv, hu, by rw [hg]; exact q⟩) hm
theorem eb_lt {x y : Int} (ha : Ev X a σ s x) (hb : Ev X b σ s y) : EvB X (.Compare a [.Lt] [b] pos) σ s (decide (x < y)) := eb_I0 op_lt rfl (nomark _) ha hb
theorem eb_le {x y : Int} (ha : Ev X a σ s x) (hb : Ev X b σ s y) : EvB X (.Compare a [.LtE] [b] pos) σ s (decide (x ≤ y)) := eb_I0 op_le rfl (nomark _) ha hb
theorem eb_gt {x y : Int} (ha : Ev X a σ s x) (hb : Ev X b σ s y) : EvB X (.Compare a [.Gt] [b] pos) σ s (decide (y < x)) := eb_I0 op_gt rfl (nomark _) ha hb
theorem eb_ge {x y : Int} (ha : Ev X a σ s x) (hb : Ev X b σ s y) : EvB X (.Compare a [.GtE] [b] pos) σ s (decide (y ≤ x)) := eb_I0 op_ge rfl (nomark _) ha hb
class Eqs (α : Type) extends Flat α where
  sc : ∀ x y : α, scal (toV x) (toV y) = true
  ij : ∀ x y : α, toV x = toV y ↔ x = y
instance : Eqs Int := { sc := fun _ _ => rfl, ij := fun x y => by show V.int x = V.int y ↔ _; simp }
instance : Eqs Bool := { sc := fun _ _ => rfl, ij := fun x y => by show V.bl x = V.bl y ↔ _; simp }
instance : Eqs Str := { sc := fun _ _ => rfl, ij := fun x y => by show V.str x = V.str y ↔ _; simp }
theorem eb_eq {ε : Type} [Eqs ε] [DecidableEq ε] {x y : ε} (ha : Ev X a σ s x) (hb : Ev X b σ s y) : EvB X (.Compare a [.Eq] [b] pos) σ s (decide (x = y)) :=
  eb_cmp op_eq ha hb (fun v u s2 hv hu Q q => by
    rw [Flat.iff.mp hv, Flat.iff.mp hu]
    refine ⟨Eqs.sc x y, ?_⟩
    rw [show decide (toV x = toV y) = decide (x = y) from decide_eq_decide.mpr (Eqs.ij x y)]
    exact q) (nomark _)
theorem eb_ne {ε : Type} [Eqs ε] [DecidableEq ε] {x y : ε} (ha : Ev X a σ s x) (hb : Ev X b σ s y) : EvB X (.Compare a [.NotEq] [b] pos) σ s (!decide (x = y)) :=
  eb_cmp op_ne ha hb (fun v u s2 hv hu Q q => by
    rw [Flat.iff.mp hv, Flat.iff.mp hu]
    refine ⟨Eqs.sc x y, ?_⟩
    rw [show decide (toV x = toV y) = decide (x = y) from decide_eq_decide.mpr (Eqs.ij x y)]
    exact q) (nomark _)
theorem eb_isN {o : Type} [Opn o] {x : Option o} {j} (ha : Ev X a σ s x) : EvB X (.Compare a [.Is] [.Constant .none j p1] pos) σ s x.isNone :=
  eb_cmp op_isN ha ev_non (fun v u s2 hv hu Q q => by
    refine ⟨hu, ?_⟩
    have : decide (v = V.non) = x.isNone := by
      cases x with
      | none => cases (show v = V.non from hv); rfl
      | some y => exact decide_eq_false fun z => Opn.notNon (z ▸ (show rep X.K s2.F v y from hv))
    rw [this]; exact q) (nomark _)
theorem eb_notN {o : Type} [Opn o] {x : Option o} {j} (ha : Ev X a σ s x) : EvB X (.Compare a [.IsNot] [.Constant .none j p1] pos) σ s x.isSome :=
  eb_cmp op_notN ha ev_non (fun v u s2 hv hu Q q => by
    refine ⟨hu, ?_⟩
    have : (!decide (v = V.non)) = x.isSome := by
      cases x with
      | none => cases (show v = V.non from hv); rfl
      | some y => rw [decide_eq_false fun z => Opn.notNon (z ▸ (show rep X.K s2.F v y from hv))]; rfl
    rw [this]; exact q) (nomark _)
theorem eb_in {ε : Type} [Eqs ε] [DecidableEq ε] {x : ε} {xs : List ε} (ha : Ev X a σ s x) (hb : EvR X b σ s xs) (hm : behindInMarks .In b = false := by rfl) : EvB X (.Compare a [.In] [b] pos) σ s (decide (x ∈ xs)) :=
  eb_cmpR op_in_seq ha hb (fun v u s2 hv hu Q q => by
    obtain ⟨p, vs, rfl, h1, h2⟩ := hu
    rw [Flat.iff.mp hv]
    obtain rfl := h2.flat
    refine ⟨p, _, rfl, .inl h1, Flat.flat x, flat_all xs, ?_⟩
    rw [inV_flat]; exact q) hm
theorem eb_notIn {ε : Type} [Eqs ε] [DecidableEq ε] {x : ε} {xs : List ε} (ha : Ev X a σ s x) (hb : EvR X b σ s xs) (hm : behindInMarks .NotIn b = false := by rfl) : EvB X (.Compare a [.NotIn] [b] pos) σ s (!decide (x ∈ xs)) :=
  eb_cmpR op_notIn_seq ha hb (fun v u s2 hv hu Q q => by
    obtain ⟨p, vs, rfl, h1, h2⟩ := hu
    rw [Flat.iff.mp hv]
    obtain rfl := h2.flat
    refine ⟨p, _, rfl, .inl h1, Flat.flat x, flat_all xs, ?_⟩
    rw [inV_flat]; exact q) hm
theorem eb_inT {ε : Type} [Eqs ε] [DecidableEq ε] {x : ε} {xs : Tu ε} (ha : Ev X a σ s x) (hb : Ev X b σ s xs) (hm : behindInMarks .In b = false := by rfl) : EvB X (.Compare a [.In] [b] pos) σ s (decide (x ∈ xs.l)) :=
  eb_cmp op_in_seq ha hb (fun v u s2 hv hu Q q => by
    obtain ⟨p, vs, rfl, h1, h2⟩ := hu
    rw [Flat.iff.mp hv]
    obtain rfl := h2.flat
    refine ⟨p, _, rfl, .inr (sqt_mono s2.sub h1), Flat.flat x, flat_all xs.l, ?_⟩
    rw [inV_flat]; exact q) hm
theorem eb_notInT {ε : Type} [Eqs ε] [DecidableEq ε] {x : ε} {xs : Tu ε} (ha : Ev X a σ s x) (hb : Ev X b σ s xs) (hm : behindInMarks .NotIn b = false := by rfl) : EvB X (.Compare a [.NotIn] [b] pos) σ s (!decide (x ∈ xs.l)) :=
  eb_cmp op_notIn_seq ha hb (fun v u s2 hv hu Q q => by
    obtain ⟨p, vs, rfl, h1, h2⟩ := hu
    rw [Flat.iff.mp hv]
    obtain rfl := h2.flat
    refine ⟨p, _, rfl, .inr (sqt_mono s2.sub h1), Flat.flat x, flat_all xs.l, ?_⟩
    rw [inV_flat]; exact q) hm
def inS (x y : Str) : Bool := !(Builtin.Str.occurrences y x 0 y.length 1).isEmpty
theorem eb_inS {x y : Str} (ha : Ev X a σ s x) (hb : Ev X b σ s y) (hm : behindInMarks .In b = false := by rfl) : EvB X (.Compare a [.In] [b] pos) σ s (inS x y) :=
  eb_cmp op_in_str ha hb (fun v u s2 hv hu Q q => ⟨x, y, hv, hu, q⟩) hm
theorem eb_notInS {x y : Str} (ha : Ev X a σ s x) (hb : Ev X b σ s y) (hm : behindInMarks .NotIn b = false := by rfl) : EvB X (.Compare a [.NotIn] [b] pos) σ s (!inS x y) :=
  eb_cmp op_notIn_str ha hb (fun v u s2 hv hu Q q => ⟨x, y, hv, hu, q⟩) hm
theorem eb_chain {op op' : CmpOp} {g g' : Int → Int → V} {x y z : Int} {k1 k2 : Bool} (ho : OpR X (compareOp op) (rI0 g)) (hg : g x y = .bl k1) (ho' : OpR X (compareOp op') (rI0 g')) (hg' : g' y z = .bl k2) (ha : Ev X a σ s x) (hb : Ev X b σ s y) (hc : Ev X c σ s z)
    (hm : lastMarks [op, op'] [b, c] = false := by with_unfolding_all rfl) : EvB X (.Compare a [op, op'] [b, c] pos) σ s (k1 && k2) :=
  ⟨fun s1 k Q q => we_of (pe_chain ho ho' pe_we pe_we pe_we hm) (ha s1 k _ fun v s2 j2 r2 => hb s2 (k.trans j2) _ fun u s3 j3 r3 => ⟨x, y, r2, r3, k1, hg, by
    cases k1 with
    | true => exact iteT (hc s3 ((k.trans j2).trans j3) _ fun w s4 j4 r4 => ⟨y, z, r3, r4, by rw [hg']; exact q _ s4 ((j2.trans j3).trans j4) rfl⟩)
    | false => exact iteF (q _ s3 (j2.trans j3) rfl)⟩),
   fun s1 k Q q => wt_of (pt_chain ho ho' pe_we pe_we pe_we hm) (ha s1 k _ fun v s2 j2 r2 => hb s2 (k.trans j2) _ fun u s3 j3 r3 => ⟨x, y, r2, r3, k1, hg, by
    cases k1 with
    | true => exact iteT (hc s3 ((k.trans j2).trans j3) _ fun w s4 j4 r4 => ⟨y, z, r3, r4, by rw [hg']; exact ⟨_, rfl, q s4 ((j2.trans j3).trans j4)⟩⟩)
    | false => exact iteF ⟨_, rfl, q s3 (j2.trans j3)⟩⟩)⟩

theorem ea_nil : EvA X [] σ s () := fun s1 k Q q => wa_of pa_nil (q [] s1 (Ex.refl _) rfl)
theorem ea_cons {A : Type} [EncA A] {x : α} {r : A} (h : Ev X e σ s x) (hr : EvA X es σ s r) (hs : starEach (e :: es) X.env = (false, eval e X.env) :: starEach es X.env := by rfl) : EvA X (e :: es) σ s (x, r) := fun s1 k Q q =>
  wa_of (pa_cons pe_we pa_wa hs) (h s1 k _ fun v s2 k2 r2 => hr s2 (k.trans k2) _ fun vs s3 k3 r3 => q _ s3 (k2.trans k3) ⟨v, vs, rfl, Enc.mono k3.f r2, r3⟩)
theorem ev_B1 {id : String} {n : Str} {r : List V → Hp → VK → Prop} {x : β} {y : α} (hc : CallR X (.builtin id) r) (hg : Gl X n) (hm : X.mg n = none) (hv : bootBuiltins n = some (.builtin id)) (ha : Ev X e σ s x)
    (hr : ∀ (v : V) (s2 : S), rep X.K s2.F v x → ∀ Q : VK, (∀ w s3, Ex s2 s3 → rep X.K s3.F w y → Q w s3.H) → r [v] s2.H Q) (hn : n ≠ "__name__" := by decide) (hdb : (n == ("__debug__" : Str)) = false := by decide)
    (he : starEach [e] X.env = (false, eval e X.env) :: starEach [] X.env := by rfl) (hpl : (backTo pos (starEach [] X.env)).any (·.1) = false := by rfl) : Ev X (.Call (.Name n p0) [e] [] pos) σ s y := fun s1 k Q q =>
  we_of (pe_callB hc hg hm hv (pa_cons pe_we pa_nil he) hn hdb he hpl) (ha s1 k _ fun v s2 k2 r2 => hr v s2 r2 Q fun w s3 k3 r3 => q w s3 (k2.trans k3) r3)
theorem ev_BR {id : String} {n : Str} {r : List V → Hp → VK → Prop} {xs : List β} {y : α} (hc : CallR X (.builtin id) r) (hg : Gl X n) (hm : X.mg n = none) (hv : bootBuiltins n = some (.builtin id)) (ha : EvR X e σ s xs)
    (hr : ∀ (v : V) (s2 : S), RepR X.K s2 v xs → ∀ Q : VK, (∀ w s3, Ex s2 s3 → rep X.K s3.F w y → Q w s3.H) → r [v] s2.H Q) (hn : n ≠ "__name__" := by decide) (hdb : (n == ("__debug__" : Str)) = false := by decide)
    (he : starEach [e] X.env = (false, eval e X.env) :: starEach [] X.env := by rfl) (hpl : (backTo pos (starEach [] X.env)).any (·.1) = false := by rfl) : Ev X (.Call (.Name n p0) [e] [] pos) σ s y := fun s1 k Q q =>
  we_of (pe_callB hc hg hm hv (pa_cons pe_we pa_nil he) hn hdb he hpl) (ha s1 k _ fun v s2 k2 r2 => hr v s2 r2 Q fun w s3 k3 r3 => q w s3 (k2.trans k3) r3)
theorem ev_len {xs : List β} (hm : X.mg "len" = none) (ha : EvR X e σ s xs) (hg : Gl X "len" := by rfl) (he : starEach [e] X.env = (false, eval e X.env) :: starEach [] X.env := by rfl) (hpl : (backTo pos (starEach [] X.env)).any (·.1) = false := by rfl) : Ev X (.Call (.Name "len" p0) [e] [] pos) σ s (xs.length : Int) :=
  ev_BR call_len_seq hg hm boot_len ha (fun v s2 r2 Q q => by
    obtain ⟨p, vs, rfl, h1, h2⟩ := r2
    exact ⟨p, vs, rfl, .inl h1, q _ s2 (Ex.refl _) (by rw [h2.len]; rfl)⟩) (he := he) (hpl := hpl)
theorem ev_lenT {xs : Tu β} (hm : X.mg "len" = none) (ha : Ev X e σ s xs) (hg : Gl X "len" := by rfl) (he : starEach [e] X.env = (false, eval e X.env) :: starEach [] X.env := by rfl) (hpl : (backTo pos (starEach [] X.env)).any (·.1) = false := by rfl) : Ev X (.Call (.Name "len" p0) [e] [] pos) σ s (xs.l.length : Int) :=
  ev_B1 call_len_seq hg hm boot_len ha (fun v s2 r2 Q q => by
    obtain ⟨p, vs, rfl, h1, h2⟩ := r2
    exact ⟨p, vs, rfl, .inr (sqt_mono s2.sub h1), q _ s2 (Ex.refl _) (by rw [h2.len]; rfl)⟩) (he := he) (hpl := hpl)
theorem ev_lenS {x : Str} (hm : X.mg "len" = none) (hz : x.length ≤ sizeLine) (ha : Ev X e σ s x) (hg : Gl X "len" := by rfl) (he : starEach [e] X.env = (false, eval e X.env) :: starEach [] X.env := by rfl) (hpl : (backTo pos (starEach [] X.env)).any (·.1) = false := by rfl) : Ev X (.Call (.Name "len" p0) [e] [] pos) σ s (x.length : Int) :=
  ev_B1 call_len_str hg hm boot_len ha (fun v s2 r2 Q q => ⟨x, by rw [show v = V.str x from r2], hz, q _ s2 (Ex.refl _) rfl⟩) (he := he) (hpl := hpl)
theorem ev_sum {xs : List Int} (hm : X.mg "sum" = none) (ha : EvR X e σ s xs) (hc : X.calm = true := by rfl) (hg : Gl X "sum" := by rfl) (he : starEach [e] X.env = (false, eval e X.env) :: starEach [] X.env := by rfl) (hpl : (backTo pos (starEach [] X.env)).any (·.1) = false := by rfl) : Ev X (.Call (.Name "sum" p0) [e] [] pos) σ s xs.sum :=
  ev_BR (cr_sum hc) hg hm (by decide +kernel) ha (fun v s2 r2 Q q => by
    obtain ⟨p, vs, rfl, h1, h2⟩ := r2
    rw [h2.flat] at h1
    exact ⟨p, xs, rfl, h1, q _ s2 (Ex.refl _) rfl⟩) (he := he) (hpl := hpl)
theorem ev_all {xs : List Bool} (hm : X.mg "all" = none) (ha : EvR X e σ s xs) (hc : X.calm = true := by rfl) (hg : Gl X "all" := by rfl) (he : starEach [e] X.env = (false, eval e X.env) :: starEach [] X.env := by rfl) (hpl : (backTo pos (starEach [] X.env)).any (·.1) = false := by rfl) : Ev X (.Call (.Name "all" p0) [e] [] pos) σ s (xs.all id) :=
  ev_BR (cr_all hc) hg hm (by decide +kernel) ha (fun v s2 r2 Q q => by
    obtain ⟨p, vs, rfl, h1, h2⟩ := r2
    rw [h2.flat] at h1
    exact ⟨p, xs, rfl, h1, q _ s2 (Ex.refl _) rfl⟩) (he := he) (hpl := hpl)
theorem ev_any {xs : List Bool} (hm : X.mg "any" = none) (ha : EvR X e σ s xs) (hc : X.calm = true := by rfl) (hg : Gl X "any" := by rfl) (he : starEach [e] X.env = (false, eval e X.env) :: starEach [] X.env := by rfl) (hpl : (backTo pos (starEach [] X.env)).any (·.1) = false := by rfl) : Ev X (.Call (.Name "any" p0) [e] [] pos) σ s (xs.any id) :=
  ev_BR (cr_any hc) hg hm (by decide +kernel) ha (fun v s2 r2 Q q => by
    obtain ⟨p, vs, rfl, h1, h2⟩ := r2
    rw [h2.flat] at h1
    exact ⟨p, xs, rfl, h1, q _ s2 (Ex.refl _) rfl⟩) (he := he) (hpl := hpl)
def minL : List Int → Option Int
  | [] => none
  | x :: xs => some (xs.foldl min x)
def maxL : List Int → Option Int
  | [] => none
  | x :: xs => some (xs.foldl max x)
theorem foldl_min (xs : List Int) : ∀ x : Int, (xs.foldl min x ∈ x :: xs) ∧ ∀ y ∈ x :: xs, xs.foldl min x ≤ y := by
  induction xs with
  | nil => intro x; exact ⟨by simp, fun y hy => by simp at hy; simp [hy]⟩
  | cons a r ih =>
    intro x
    obtain ⟨h1, h2⟩ := ih (min x a)
    refine ⟨?_, fun y hy => ?_⟩
    · rw [List.foldl_cons]
      rcases List.mem_cons.mp h1 with h | h
      · rw [h]
        by_cases hx : x ≤ a
        · rw [Int.min_eq_left hx]; exact List.mem_cons_self
        · rw [Int.min_eq_right (by omega)]; exact List.mem_cons_of_mem _ List.mem_cons_self
      · exact List.mem_cons_of_mem _ (List.mem_cons_of_mem _ h)
    · rw [List.foldl_cons]
      have h3 := h2 (min x a) List.mem_cons_self
      rcases List.mem_cons.mp hy with rfl | hy
      · exact Int.le_trans h3 (Int.min_le_left _ _)
      · rcases List.mem_cons.mp hy with rfl | hy
        · exact Int.le_trans h3 (Int.min_le_right _ _)
        · exact h2 y (List.mem_cons_of_mem _ hy)
theorem foldl_max (xs : List Int) : ∀ x : Int, (xs.foldl max x ∈ x :: xs) ∧ ∀ y ∈ x :: xs, y ≤ xs.foldl max x := by
  induction xs with
  | nil => intro x; exact ⟨by simp, fun y hy => by simp at hy; simp [hy]⟩
  | cons a r ih =>
    intro x
    obtain ⟨h1, h2⟩ := ih (max x a)
    refine ⟨?_, fun y hy => ?_⟩
    · rw [List.foldl_cons]
      rcases List.mem_cons.mp h1 with h | h
      · rw [h]
        by_cases hx : a ≤ x
        · rw [Int.max_eq_left hx]; exact List.mem_cons_self
        · rw [Int.max_eq_right (by omega)]; exact List.mem_cons_of_mem _ List.mem_cons_self
      · exact List.mem_cons_of_mem _ (List.mem_cons_of_mem _ h)
    · rw [List.foldl_cons]
      have h3 := h2 (max x a) List.mem_cons_self
      rcases List.mem_cons.mp hy with rfl | hy
      · exact Int.le_trans (Int.le_max_left _ _) h3
      · rcases List.mem_cons.mp hy with rfl | hy
        · exact Int.le_trans (Int.le_max_right _ _) h3
        · exact h2 y (List.mem_cons_of_mem _ hy)
theorem minL_of {xs : List Int} {m : Int} (h1 : m ∈ xs) (h2 : ∀ y ∈ xs, m ≤ y) : minL xs = some m := by
  cases xs with
  | nil => simp at h1
  | cons x r =>
    obtain ⟨h3, h4⟩ := foldl_min r x
    exact congrArg some (Int.le_antisymm (h4 m h1) (h2 _ h3))
theorem maxL_of {xs : List Int} {m : Int} (h1 : m ∈ xs) (h2 : ∀ y ∈ xs, y ≤ m) : maxL xs = some m := by
  cases xs with
  | nil => simp at h1
  | cons x r =>
    obtain ⟨h3, h4⟩ := foldl_max r x
    exact congrArg some (Int.le_antisymm (h2 _ h3) (h4 m h1))
theorem ev_min {xs : List Int} {m : Int} (hm : X.mg "min" = none) (ha : EvR X e σ s xs) (h : minL xs = some m) (hc : X.calm = true := by rfl) (hg : Gl X "min" := by rfl) (he : starEach [e] X.env = (false, eval e X.env) :: starEach [] X.env := by rfl) (hpl : (backTo pos (starEach [] X.env)).any (·.1) = false := by rfl) : Ev X (.Call (.Name "min" p0) [e] [] pos) σ s m :=
  ev_BR (cr_min hc) hg hm (by decide +kernel) ha (fun v s2 r2 Q q => by
    obtain ⟨p, vs, rfl, h1, h2⟩ := r2
    rw [h2.flat] at h1
    refine ⟨p, xs, rfl, h1, ?_, fun z hz1 hz2 => ?_⟩
    · cases xs with
      | nil => cases h
      | cons _ _ => exact Nat.succ_pos _
    · rw [minL_of hz1 hz2] at h
      cases h
      exact q _ s2 (Ex.refl _) rfl) (he := he) (hpl := hpl)
theorem ev_max {xs : List Int} {m : Int} (hm : X.mg "max" = none) (ha : EvR X e σ s xs) (h : maxL xs = some m) (hc : X.calm = true := by rfl) (hg : Gl X "max" := by rfl) (he : starEach [e] X.env = (false, eval e X.env) :: starEach [] X.env := by rfl) (hpl : (backTo pos (starEach [] X.env)).any (·.1) = false := by rfl) : Ev X (.Call (.Name "max" p0) [e] [] pos) σ s m :=
  ev_BR (cr_max hc) hg hm (by decide +kernel) ha (fun v s2 r2 Q q => by
    obtain ⟨p, vs, rfl, h1, h2⟩ := r2
    rw [h2.flat] at h1
    refine ⟨p, xs, rfl, h1, ?_, fun z hz1 hz2 => ?_⟩
    · cases xs with
      | nil => cases h
      | cons _ _ => exact Nat.succ_pos _
    · rw [maxL_of hz1 hz2] at h
      cases h
      exact q _ s2 (Ex.refl _) rfl) (he := he) (hpl := hpl)
theorem ev_min2 {x y : Int} (hm : X.mg "min" = none) (ha : Ev X a σ s x) (hb : Ev X b σ s y) (hc : X.calm = true := by rfl) (hg : Gl X "min" := by rfl) (he : starEach [a, b] X.env = (false, eval a X.env) :: starEach [b] X.env := by rfl) (he2 : starEach [b] X.env = (false, eval b X.env) :: starEach [] X.env := by rfl) (hpl : (backTo pos (starEach [b] X.env)).any (·.1) = false := by rfl) : Ev X (.Call (.Name "min" p0) [a, b] [] pos) σ s (min x y) := fun s1 k Q q =>
  we_of (pe_callB (call_min2 hc) hg hm (by decide +kernel) (pa_cons pe_we (pa_cons pe_we pa_nil he2) he) (he := he) (hpl := hpl)) (ha s1 k _ fun v s2 k2 r2 => hb s2 (k.trans k2) _ fun u s3 k3 r3 =>
    ⟨x, y, by rw [show v = V.int x from r2, show u = V.int y from r3], q _ s3 (k2.trans k3) (by
      show V.int _ = V.int _
      by_cases h : y < x
      · rw [if_pos h, Int.min_eq_right (by omega)]
      · rw [if_neg h, Int.min_eq_left (by omega)])⟩)
theorem ev_max2 {x y : Int} (hm : X.mg "max" = none) (ha : Ev X a σ s x) (hb : Ev X b σ s y) (hc : X.calm = true := by rfl) (hg : Gl X "max" := by rfl) (he : starEach [a, b] X.env = (false, eval a X.env) :: starEach [b] X.env := by rfl) (he2 : starEach [b] X.env = (false, eval b X.env) :: starEach [] X.env := by rfl) (hpl : (backTo pos (starEach [b] X.env)).any (·.1) = false := by rfl) : Ev X (.Call (.Name "max" p0) [a, b] [] pos) σ s (max x y) := fun s1 k Q q =>
  we_of (pe_callB (call_max2 hc) hg hm (by decide +kernel) (pa_cons pe_we (pa_cons pe_we pa_nil he2) he) (he := he) (hpl := hpl)) (ha s1 k _ fun v s2 k2 r2 => hb s2 (k.trans k2) _ fun u s3 k3 r3 =>
    ⟨x, y, by rw [show v = V.int x from r2, show u = V.int y from r3], q _ s3 (k2.trans k3) (by
      show V.int _ = V.int _
      by_cases h : y > x
      · rw [if_pos h, Int.max_eq_right (by omega)]
      · rw [if_neg h, Int.max_eq_left (by omega)])⟩)
theorem ev_T1 {T : String} {n : Str} {r : List V → Hp → VK → Prop} {x : β} {y : α} (hc : CallR X (.type T) r) (hg : Gl X n) (hm : X.mg n = none) (hv : bootBuiltins n = some (.type T)) (ha : Ev X e σ s x)
    (hr : ∀ (v : V) (s2 : S), rep X.K s2.F v x → ∀ Q : VK, (∀ w s3, Ex s2 s3 → rep X.K s3.F w y → Q w s3.H) → r [v] s2.H Q) (hn : n ≠ "__name__" := by decide) (hdb : (n == ("__debug__" : Str)) = false := by decide)
    (he : starEach [e] X.env = (false, eval e X.env) :: starEach [] X.env := by rfl) (hpl : (backTo pos (starEach [] X.env)).any (·.1) = false := by rfl) : Ev X (.Call (.Name n p0) [e] [] pos) σ s y := fun s1 k Q q =>
  we_of (pe_callTy hc hg hm hv (pa_cons pe_we pa_nil he) hn hdb he hpl) (ha s1 k _ fun v s2 k2 r2 => hr v s2 r2 Q fun w s3 k3 r3 => q w s3 (k2.trans k3) r3)
theorem ev_intB {x : Bool} (hm : X.mg "int" = none) (ha : Ev X e σ s x) (hg : Gl X "int" := by rfl) (he : starEach [e] X.env = (false, eval e X.env) :: starEach [] X.env := by rfl) (hpl : (backTo pos (starEach [] X.env)).any (·.1) = false := by rfl) : Ev X (.Call (.Name "int" p0) [e] [] pos) σ s (if x = true then (1 : Int) else 0) :=
  ev_T1 call_int1 hg hm (by decide +kernel) ha (fun v s2 r2 Q q => .inr ⟨x, by rw [show v = V.bl x from r2], q _ s2 (Ex.refl _) rfl⟩) (he := he) (hpl := hpl)
theorem ev_intS {x : Str} {n : Int} (hm : X.mg "int" = none) (ha : Ev X e σ s x) (h : PySem.intText? x = some n) (hl : x.length ≤ 640) (hg : Gl X "int" := by rfl) (he : starEach [e] X.env = (false, eval e X.env) :: starEach [] X.env := by rfl) (hpl : (backTo pos (starEach [] X.env)).any (·.1) = false := by rfl) : Ev X (.Call (.Name "int" p0) [e] [] pos) σ s n :=
  ev_T1 call_int_str hg hm (by decide +kernel) ha (fun v s2 r2 Q q => ⟨x, n, by rw [show v = V.str x from r2], h, hl, q _ s2 (Ex.refl _) rfl⟩) (he := he) (hpl := hpl)
theorem ev_strI {x : Int} (hm : X.mg "str" = none) (h : x.natAbs.log2 < 1920) (ha : Ev X e σ s x) (hg : Gl X "str" := by rfl) (he : starEach [e] X.env = (false, eval e X.env) :: starEach [] X.env := by rfl) (hpl : (backTo pos (starEach [] X.env)).any (·.1) = false := by rfl) : Ev X (.Call (.Name "str" p0) [e] [] pos) σ s (toString x : Str) :=
  ev_T1 call_str_int hg hm (by decide +kernel) ha (fun v s2 r2 Q q => ⟨x, by rw [show v = V.int x from r2], h, q _ s2 (Ex.refl _) rfl⟩) (he := he) (hpl := hpl)
end
end Dy

namespace Dy
open PySem PySem.Spec L2
open PyProof.Rows hiding St
open Enc (rep)
open Flat (toV)
open EncA (repA)

section
variable {α β γ δ ζ : Type} [Enc α] [Enc β] [Enc γ] [Enc δ] [Enc ζ] {X : Cx} {σ : St} {s t : S} {e a b c : Expr} {es : List Expr} {pos p0 p1 p2 p3 : Pos}

def EvE (X : Cx) (es : List Expr) (σ : St) (s : S) (xs : List α) : Prop := ∀ s1, Ex s s1 → ∀ Q : List V → Hp → Prop, (∀ vs s2, Ex s1 s2 → Reps X.K s2.F vs xs → Q vs s2.H) → WA X es σ s1.H Q
theorem ee_nil : EvE X [] σ s ([] : List α) := fun s1 k Q q => wa_of pa_nil (q [] s1 (Ex.refl _) trivial)
theorem ee_cons {x : α} {xs : List α} (h : Ev X e σ s x) (hr : EvE X es σ s xs) (hs : starEach (e :: es) X.env = (false, eval e X.env) :: starEach es X.env := by rfl) : EvE X (e :: es) σ s (x :: xs) := fun s1 k Q q =>
  wa_of (pa_cons pe_we pa_wa hs) (h s1 k _ fun v s2 k2 r2 => hr s2 (k.trans k2) _ fun vs s3 k3 r3 => q _ s3 (k2.trans k3) ⟨Enc.mono k3.f r2, r3⟩)
theorem own_new {K : PySem.W.Frag} {p : Addr} {vs : List V} {xs : List α} (h : s.H p = none) (r : Reps K s.F vs xs) : Own K (s.newO p (.lst vs) h) p xs := ⟨(fF h : s.F p = none), vs, upd_same, r⟩
theorem en_list {xs : List α} (h : EvE X es σ s xs) (hz : xs.length ≤ sizeLine := by decide) : EvN X (.List es pos) σ s xs := fun s1 k Q q =>
  we_of (pe_lst pa_wa) (h s1 k _ fun vs s2 k2 r2 => ⟨by rw [r2.len]; exact hz, fun p hp => q p (s2.newO p (.lst vs) hp) (k2.trans (Ex.newO hp)) (fr_back k2 hp) (own_new hp r2)⟩)
theorem tup_new {K : PySem.W.Frag} {p : Addr} {vs : List V} (h : s.H p = none) : SqT K (s.newF p (.tup vs) h).F p vs := .inl (.inl upd_same)
theorem ev_tu {xs : List α} (h : EvE X es σ s xs) (hz : xs.length ≤ sizeLine := by decide) {n} : Ev X (.Tuple es n pos) σ s (⟨xs⟩ : Tu α) := fun s1 k Q q =>
  we_of (pe_tup pa_wa) (h s1 k _ fun vs s2 k2 r2 => ⟨by rw [r2.len]; exact hz, fun p hp => q _ (s2.newF p (.tup vs) hp) (k2.trans (Ex.newF hp)) ⟨p, vs, rfl, tup_new hp, r2.mono (Ex.newF hp).f⟩⟩)
theorem ev_t1 {x : α} {n} (h : EvA X es σ s (x, ())) : Ev X (.Tuple es n pos) σ s (⟨x⟩ : T1 α) := fun s1 k Q q =>
  we_of (pe_tup pa_wa) (h s1 k _ fun vs s2 k2 r2 => by
    obtain ⟨v1, _, rfl, r1, rfl⟩ := r2
    refine ⟨show _ ≤ 2 ^ 24 by simp, fun p hp => q _ (s2.newF p _ hp) (k2.trans (Ex.newF hp)) ⟨p, v1, rfl, tup_new hp, Enc.mono (Ex.newF hp).f r1⟩⟩)
theorem ev_t2 {x : α} {y : β} {n} (h : EvA X es σ s (x, y, ())) : Ev X (.Tuple es n pos) σ s (x, y) := fun s1 k Q q =>
  we_of (pe_tup pa_wa) (h s1 k _ fun vs s2 k2 r2 => by
    obtain ⟨v1, _, rfl, r1, v2, _, rfl, r2, rfl⟩ := r2
    refine ⟨show _ ≤ 2 ^ 24 by simp, fun p hp => q _ (s2.newF p _ hp) (k2.trans (Ex.newF hp)) ⟨p, v1, v2, rfl, tup_new hp, Enc.mono (Ex.newF hp).f r1, Enc.mono (Ex.newF hp).f r2⟩⟩)
theorem ev_t3 {x : α} {y : β} {z : γ} {n} (h : EvA X es σ s (x, y, z, ())) : Ev X (.Tuple es n pos) σ s (⟨x, y, z⟩ : T3 α β γ) := fun s1 k Q q =>
  we_of (pe_tup pa_wa) (h s1 k _ fun vs s2 k2 r2 => by
    obtain ⟨v1, _, rfl, r1, v2, _, rfl, r2, v3, _, rfl, r3, rfl⟩ := r2
    refine ⟨show _ ≤ 2 ^ 24 by simp, fun p hp => q _ (s2.newF p _ hp) (k2.trans (Ex.newF hp)) ⟨p, v1, v2, v3, rfl, tup_new hp, Enc.mono (Ex.newF hp).f r1, Enc.mono (Ex.newF hp).f r2, Enc.mono (Ex.newF hp).f r3⟩⟩)
theorem ev_t4 {x : α} {y : β} {z : γ} {u : δ} {n} (h : EvA X es σ s (x, y, z, u, ())) : Ev X (.Tuple es n pos) σ s (⟨x, y, z, u⟩ : T4 α β γ δ) := fun s1 k Q q =>
  we_of (pe_tup pa_wa) (h s1 k _ fun vs s2 k2 r2 => by
    obtain ⟨v1, _, rfl, r1, v2, _, rfl, r2, v3, _, rfl, r3, v4, _, rfl, r4, rfl⟩ := r2
    refine ⟨show _ ≤ 2 ^ 24 by simp, fun p hp => q _ (s2.newF p _ hp) (k2.trans (Ex.newF hp)) ⟨p, v1, v2, v3, v4, rfl, tup_new hp, Enc.mono (Ex.newF hp).f r1, Enc.mono (Ex.newF hp).f r2, Enc.mono (Ex.newF hp).f r3, Enc.mono (Ex.newF hp).f r4⟩⟩)
theorem ev_t5 {x : α} {y : β} {z : γ} {u : δ} {w : ζ} {n} (h : EvA X es σ s (x, y, z, u, w, ())) : Ev X (.Tuple es n pos) σ s (⟨x, y, z, u, w⟩ : T5 α β γ δ ζ) := fun s1 k Q q =>
  we_of (pe_tup pa_wa) (h s1 k _ fun vs s2 k2 r2 => by
    obtain ⟨v1, _, rfl, r1, v2, _, rfl, r2, v3, _, rfl, r3, v4, _, rfl, r4, v5, _, rfl, r5, rfl⟩ := r2
    refine ⟨show _ ≤ 2 ^ 24 by simp, fun p hp => q _ (s2.newF p _ hp) (k2.trans (Ex.newF hp)) ⟨p, v1, v2, v3, v4, v5, rfl, tup_new hp, Enc.mono (Ex.newF hp).f r1, Enc.mono (Ex.newF hp).f r2, Enc.mono (Ex.newF hp).f r3, Enc.mono (Ex.newF hp).f r4, Enc.mono (Ex.newF hp).f r5⟩⟩)

theorem en_T1 {n : Str} {T : String} {r : List V → Hp → VK → Prop} {xs : List β} {ys : List α} (hc : CallR X (.type T) r) (hg : Gl X n) (hm : X.mg n = none) (hv : bootBuiltins n = some (.type T)) (ha : EvR X e σ s xs)
    (hr : ∀ (v : V) (s2 : S), RepR X.K s2 v xs → ∀ Q : VK, (∀ p s3, Ex s2 s3 → s2.H p = none → Own X.K s3 p ys → Q (.ref p) s3.H) → r [v] s2.H Q) (hn : n ≠ "__name__" := by decide) (hdb : (n == ("__debug__" : Str)) = false := by decide)
    (he : starEach [e] X.env = (false, eval e X.env) :: starEach [] X.env := by rfl) (hpl : (backTo pos (starEach [] X.env)).any (·.1) = false := by rfl) : EvN X (.Call (.Name n p0) [e] [] pos) σ s ys := fun s1 k Q q =>
  we_of (pe_callTy hc hg hm hv (pa_cons pe_we pa_nil he) hn hdb he hpl) (ha s1 k _ fun v s2 k2 r2 => hr v s2 r2 Q fun w s3 k3 n3 r3 => q w s3 (k2.trans k3) (fr_back k2 n3) r3)
theorem en_copy {xs : List α} (hm : X.mg "list" = none) (ha : EvR X e σ s xs) (hg : Gl X "list" := by rfl) (he : starEach [e] X.env = (false, eval e X.env) :: starEach [] X.env := by rfl) (hpl : (backTo pos (starEach [] X.env)).any (·.1) = false := by rfl) : EvN X (.Call (.Name "list" p0) [e] [] pos) σ s xs :=
  en_T1 call_list_of hg hm (by decide +kernel) ha (fun v s2 r2 Q q => by
    obtain ⟨p, vs, rfl, h1, h2⟩ := r2
    exact ⟨p, vs, rfl, .inl h1, fun l hl => q l (s2.newO l _ hl) (Ex.newO hl) hl (own_new hl h2)⟩) (he := he) (hpl := hpl)
theorem en_copyT {xs : Tu α} (hm : X.mg "list" = none) (ha : Ev X e σ s xs) (hg : Gl X "list" := by rfl) (he : starEach [e] X.env = (false, eval e X.env) :: starEach [] X.env := by rfl) (hpl : (backTo pos (starEach [] X.env)).any (·.1) = false := by rfl) : EvN X (.Call (.Name "list" p0) [e] [] pos) σ s xs.l := fun s1 k Q q =>
  we_of (pe_callTy call_list_of hg hm (by decide +kernel) (pa_cons pe_we pa_nil he) (he := he) (hpl := hpl)) (ha s1 k _ fun v s2 k2 r2 => by
    obtain ⟨p, vs, rfl, h1, h2⟩ := r2
    exact ⟨p, vs, rfl, .inr (sqt_mono s2.sub h1), fun l hl => q l (s2.newO l _ hl) (k2.trans (Ex.newO hl)) (fr_back k2 hl) (own_new hl h2)⟩)
theorem ev_tuple {xs : List α} (hm : X.mg "tuple" = none) (ha : EvR X e σ s xs) (hg : Gl X "tuple" := by rfl) (he : starEach [e] X.env = (false, eval e X.env) :: starEach [] X.env := by rfl) (hpl : (backTo pos (starEach [] X.env)).any (·.1) = false := by rfl) : Ev X (.Call (.Name "tuple" p0) [e] [] pos) σ s (⟨xs⟩ : Tu α) := fun s1 k Q q =>
  we_of (pe_callTy call_tuple_of hg hm (by decide +kernel) (pa_cons pe_we pa_nil he) (he := he) (hpl := hpl)) (ha s1 k _ fun v s2 k2 r2 => by
    obtain ⟨p, vs, rfl, h1, h2⟩ := r2
    exact ⟨p, vs, rfl, .inl ⟨h1, fun l hl => q _ (s2.newF l _ hl) (k2.trans (Ex.newF hl)) ⟨l, vs, rfl, tup_new hl, h2.mono (Ex.newF hl).f⟩⟩⟩)
theorem ev_tupleT {xs : Tu α} (hm : X.mg "tuple" = none) (ha : Ev X e σ s xs) (hg : Gl X "tuple" := by rfl) (he : starEach [e] X.env = (false, eval e X.env) :: starEach [] X.env := by rfl) (hpl : (backTo pos (starEach [] X.env)).any (·.1) = false := by rfl) : Ev X (.Call (.Name "tuple" p0) [e] [] pos) σ s xs := fun s1 k Q q =>
  we_of (pe_callTy call_tuple_of hg hm (by decide +kernel) (pa_cons pe_we pa_nil he) (he := he) (hpl := hpl)) (ha s1 k _ fun v s2 k2 r2 => by
    obtain ⟨p, vs, rfl, h1, h2⟩ := r2
    exact ⟨p, vs, rfl, .inr ⟨sqt_mono s2.sub h1, q _ s2 k2 ⟨p, vs, rfl, h1, h2⟩⟩⟩)
def rng (a b : Int) : List Int := (List.range (b - a).toNat).map fun i : Nat => a + (i : Int)
theorem rgV_rng (a b : Int) : rgV a b = (rng a b).map V.int := by
  unfold rgV rng
  rw [List.map_map]; rfl
theorem en_listRg1 {n : Int} (hm : X.mg "list" = none) (hr : X.mg "range" = none) (ha : Ev X e σ s n) (hz : RgOk 0 n) (hc : X.calm = true := by rfl) (hg : Gl X "list" := by rfl) (hgr : Gl X "range" := by rfl)
    (he : starEach [e] X.env = (false, eval e X.env) :: starEach [] X.env := by rfl) (he2 : starEach [.Call (.Name "range" p1) [e] [] p2] X.env = (false, eval (.Call (.Name "range" p1) [e] [] p2) X.env) :: starEach [] X.env := by rfl) :
    EvN X (.Call (.Name "list" p0) [.Call (.Name "range" p1) [e] [] p2] [] pos) σ s (rng 0 n) := fun s1 k Q q =>
  we_of (pe_listRg hc hg hm (prg_1 hgr hr pe_we he) he2) (ha s1 k _ fun v s2 k2 r2 => ⟨n, r2, hz, fun l hl => q l (s2.newO l _ hl) (k2.trans (Ex.newO hl)) (fr_back k2 hl) (own_new hl (by rw [rgV_rng]; exact Reps.of_flat _))⟩)
theorem en_listRg2 {m n : Int} (hm : X.mg "list" = none) (hr : X.mg "range" = none) (ha : Ev X a σ s m) (hb : Ev X b σ s n) (hz : RgOk m n) (hc : X.calm = true := by rfl) (hg : Gl X "list" := by rfl) (hgr : Gl X "range" := by rfl)
    (he : starEach [a, b] X.env = (false, eval a X.env) :: starEach [b] X.env := by rfl) (heb : starEach [b] X.env = (false, eval b X.env) :: starEach [] X.env := by rfl) (hpl : (backTo p2 (starEach [b] X.env)).any (·.1) = false := by rfl)
    (he2 : starEach [.Call (.Name "range" p1) [a, b] [] p2] X.env = (false, eval (.Call (.Name "range" p1) [a, b] [] p2) X.env) :: starEach [] X.env := by rfl) :
    EvN X (.Call (.Name "list" p0) [.Call (.Name "range" p1) [a, b] [] p2] [] pos) σ s (rng m n) := fun s1 k Q q =>
  we_of (pe_listRg hc hg hm (prg_2 hgr hr pe_we pe_we he heb hpl) he2) (ha s1 k _ fun v s2 k2 r2 => hb s2 (k.trans k2) _ fun u s3 k3 r3 => ⟨m, n, r2, r3, hz, fun l hl => q l (s3.newO l _ hl) ((k2.trans k3).trans (Ex.newO hl)) (fr_back (k2.trans k3) hl) (own_new hl (by rw [rgV_rng]; exact Reps.of_flat _))⟩)
def cut {τ : Type} (xs : List τ) (lo hi : Option Int) : List τ := (xs.drop (HT.sIx xs.length 0 lo)).take (HT.sIx xs.length xs.length hi - HT.sIx xs.length 0 lo)
theorem Reps.cut {K : PySem.W.Frag} {F : Hp} {vs : List V} {xs : List α} (r : Reps K F vs xs) (lo hi : Option Int) : Reps K F (cutV vs lo hi) (Dy.cut xs lo hi) := by
  unfold cutV Dy.cut
  rw [r.len]
  exact (r.drop _).take _
def EvO (X : Cx) (o : Option Expr) (σ : St) (s : S) (x : Option Int) : Prop := match o, x with
  | none, none => True
  | some e, some i => Ev X e σ s i
  | _, _ => False
theorem po_evo {o : Option Expr} {x : Option Int} (h : EvO X o σ s x) : ∃ t, PO X o t ∧ ∀ s1, Ex s s1 → ∀ Q : Option Int → Hp → Prop, (∀ s2, Ex s1 s2 → Q x s2.H) → t σ s1.H Q := by
  cases o with
  | none =>
    cases x with
    | none => exact ⟨_, po_none, fun s1 k Q q => q s1 (Ex.refl _)⟩
    | some i => exact h.elim
  | some e =>
    cases x with
    | none => exact h.elim
    | some i => exact ⟨_, po_some pe_we, fun s1 k Q q => (show Ev X e σ s i from h) s1 k _ fun v s2 k2 r2 => ⟨i, r2, q s2 k2⟩⟩
theorem eo_none : EvO X none σ s none := trivial
theorem eo_some {i : Int} (h : Ev X e σ s i) : EvO X (some e) σ s (some i) := h
theorem en_slice {xs : List α} {lo hi : Option Expr} {l h : Option Int} (ha : EvR X a σ s xs) (hl : EvO X lo σ s l) (hh : EvO X hi σ s h) : EvN X (.Subscript a (.Slice lo hi none p2) pos) σ s (cut xs l h) := fun s1 k Q q => by
  obtain ⟨tl, pl, ql⟩ := po_evo hl
  obtain ⟨th, ph, qh⟩ := po_evo hh
  refine we_of (pe_slice sl_list pe_we pl ph) (ha s1 k _ fun v s2 k2 r2 => ql s2 (k.trans k2) _ fun s3 k3 => qh s3 ((k.trans k2).trans k3) _ fun s4 k4 => ?_)
  obtain ⟨p, vs, rfl, h1, h2⟩ := (r2.ex k3).ex k4
  exact ⟨p, vs, rfl, h1, fun l hl => q l (s4.newO l _ hl) (((k2.trans k3).trans k4).trans (Ex.newO hl)) (fr_back ((k2.trans k3).trans k4) hl) (own_new hl (h2.cut _ _))⟩
theorem ev_sliceS {x : Str} {lo hi : Option Expr} {l h : Option Int} (hz : x.length ≤ sizeLine) (ha : Ev X a σ s x) (hl : EvO X lo σ s l) (hh : EvO X hi σ s h) : Ev X (.Subscript a (.Slice lo hi none p2) pos) σ s (cutS x l h) := fun s1 k Q q => by
  obtain ⟨tl, pl, ql⟩ := po_evo hl
  obtain ⟨th, ph, qh⟩ := po_evo hh
  exact we_of (pe_slice sl_str pe_we pl ph) (ha s1 k _ fun v s2 k2 r2 => ql s2 (k.trans k2) _ fun s3 k3 => qh s3 ((k.trans k2).trans k3) _ fun s4 k4 => ⟨x, r2, hz, q _ s4 ((k2.trans k3).trans k4) rfl⟩)
theorem op_catS : OpR X (binaryOp .Add) (fun x y H Q => ∃ l b xs zs, x = .ref l ∧ y = .ref b ∧ SqL X.K H l xs ∧ SqL X.K H b zs ∧ xs.length + zs.length ≤ sizeLine ∧ ∀ p, H p = none → Q (.ref p) (upd H p (.lst (xs ++ zs)))) := by
  intro pins s σ H x y v u Q I rx ry h
  obtain ⟨l, b, xs, zs, rfl, rfl, hH, hB, hz, q⟩ := h
  cases rx
  cases ry
  obtain ⟨its, r, ⟨⟨cls, dd, data, sl⟩, n, ho, hc, hd0, hd⟩, z1⟩ := I.list hH
  obtain ⟨its2, r2, ⟨⟨cls2, dd2, data2, sl2⟩, n2, ho2, hc2, hd02, hd2⟩, z2⟩ := I.list hB
  simp only at hc hd hc2 hd2 hd0 hd02
  subst hc hd hc2 hd2 hd0 hd02
  have e : its.toArray ++ its2.toArray = (its ++ its2).toArray := by simp
  have h1 := r.length
  have h2 := r2.length
  refine concat_meets ⟨_, ho, rfl⟩ ⟨_, ho2, rfl⟩ noFill_list_add seq_list_add PySem.F.slot_list_add PySem.F.entry_list_add (PySem.F.args_list_add_2 _ _) (list_addW l b its.toArray its2.toArray n n2 none none sl sl2 (by rw [List.size_toArray, List.size_toArray]; omega)) ⟨ho, ho2, ?_⟩
  rw [e]
  exact ⟨.ref _, _, I.lnew (t' := s.toks) (r.append r2) (by rw [List.length_append]; omega), rfl, q _ I.fresh⟩
theorem en_cat {xs ys : List α} (ha : EvR X a σ s xs) (hb : EvR X b σ s ys) (hz : xs.length + ys.length ≤ sizeLine) : EvN X (.BinOp a .Add b pos) σ s (xs ++ ys) := fun s1 k Q q =>
  we_of (pe_op op_catS pe_we pe_we) (ha s1 k _ fun v s2 k2 r2 => hb s2 (k.trans k2) _ fun u s3 k3 r3 => by
    obtain ⟨p, vs, rfl, h1, h2⟩ := r2.ex k3
    obtain ⟨p', ws, rfl, h3, h4⟩ := r3
    exact ⟨p, p', vs, ws, rfl, rfl, h1, h3, by rw [h2.len, h4.len]; exact hz, fun l hl => q l (s3.newO l _ hl) ((k2.trans k3).trans (Ex.newO hl)) (fr_back (k2.trans k3) hl) (own_new hl (h2.app h4))⟩)
def repl {τ : Type} (n : Int) (xs : List τ) : List τ := (List.replicate n.toNat xs).flatten
theorem Reps.repF {K : PySem.W.Frag} {F : Hp} {vs : List V} {xs : List α} (r : Reps K F vs xs) (n : Nat) : Reps K F (List.replicate n vs).flatten (List.replicate n xs).flatten := by
  induction n with
  | zero => exact trivial
  | succ n ih => rw [List.replicate_succ, List.replicate_succ, List.flatten_cons, List.flatten_cons]; exact r.app ih
def RepOk (n : Int) (l : Nat) : Prop := -(2 ^ 63) ≤ n ∧ n < 2 ^ 63 ∧ l * n.toNat ≤ sizeLine
theorem en_rep {xs : List α} {n : Int} (ha : EvN X a σ s xs) (hb : ∀ t, Ex s t → Ev X b σ t n) (hz : RepOk n xs.length) : EvN X (.BinOp a .Mult b pos) σ s (repl n xs) := fun s1 k Q q =>
  we_of (pe_op op_rep pe_we pe_we) (ha s1 k _ fun p s2 k2 n2 o2 => hb s2 (k.trans k2) s2 (Ex.refl _) _ fun u s3 k3 r3 => by
    obtain ⟨_, vs, h1, h2⟩ := o2.ex k3
    exact ⟨p, n, vs, rfl, r3, h1, hz.1, hz.2.1, by rw [h2.len]; exact hz.2.2, fun l hl => q l (s3.newO l _ hl) ((k2.trans k3).trans (Ex.newO hl)) (fr_back (k2.trans k3) hl) (own_new hl (h2.repF _))⟩)
theorem en_sorted {xs : List Int} (hm : X.mg "sorted" = none) (ha : EvR X e σ s xs) (hg : Gl X "sorted" := by rfl) (he : starEach [e] X.env = (false, eval e X.env) :: starEach [] X.env := by rfl) (hpl : (backTo pos (starEach [] X.env)).any (·.1) = false := by rfl) :
    EvN X (.Call (.Name "sorted" p0) [e] [] pos) σ s (xs.mergeSort (fun x y => decide (x ≤ y))) := fun s1 k Q q =>
  we_of (pe_callB cr_sortedI hg hm (by decide +kernel) (pa_cons pe_we pa_nil he) (he := he) (hpl := hpl)) (ha s1 k _ fun v s2 k2 r2 => by
    obtain ⟨p, vs, rfl, h1, h2⟩ := r2
    rw [h2.flat] at h1
    refine ⟨p, xs, rfl, h1, fun ys l hp hs hl => ?_⟩
    have e1 : ys = xs.mergeSort (fun x y => decide (x ≤ y)) := by
      refine List.Perm.eq_of_pairwise (le := fun x y : Int => x ≤ y) (fun a b _ _ h h' => Int.le_antisymm h h') hs ?_ (hp.trans (List.mergeSort_perm _ _).symm)
      have := List.pairwise_mergeSort (le := fun x y : Int => decide (x ≤ y)) (fun a b c h1 h2 => by simp at *; omega) (fun a b => by simp; omega) xs
      exact this.imp (by simp)
    subst e1
    exact q l (s2.newO l _ hl) (k2.trans (Ex.newO hl)) (fr_back k2 hl) (own_new hl (Reps.of_flat _)))
theorem en_split {x y : Str} (ha : Ev X a σ s x) (hb : Ev X b σ s y) (h1 : (y.length == 0) = false) (h2 : x.length + 2 ≤ sizeLine) (hs : starEach [b] X.env = [(false, eval b X.env)] := by rfl) (hbase : attributeBase a "split" X.env (eval a X.env) = eval a X.env := by rfl) (hline : (p1.endLine == pos.line) = true := by rfl) :
    EvN X (.Call (.Attribute a "split" p1) [b] [] pos) σ s (Txt.split x y) := fun s1 k Q q =>
  we_of (pe_split pe_we pe_we hs hbase hline) (ha s1 k _ fun v s2 k2 r2 => ⟨⟨x, r2⟩, hb s2 (k.trans k2) _ fun u s3 k3 r3 => ⟨x, y, r2, by rw [show u = V.str y from r3], h1, h2, fun l hl =>
    q l (s3.newO l _ hl) ((k2.trans k3).trans (Ex.newO hl)) (fr_back (k2.trans k3) hl) (own_new hl (Reps.of_flat _))⟩⟩)
def JnOk (x : Str) (ys : List Str) : Prop := (ys.map (·.length)).sum + ys.length * x.length ≤ 16777216
theorem ev_join {x : Str} {ys : List Str} (ha : Ev X a σ s x) (hb : EvR X b σ s ys) (h : JnOk x ys) (hs : starEach [b] X.env = [(false, eval b X.env)] := by rfl) (hbase : attributeBase a "join" X.env (eval a X.env) = eval a X.env := by rfl) (hline : (p1.endLine == pos.line) = true := by rfl) :
    Ev X (.Call (.Attribute a "join" p1) [b] [] pos) σ s (Txt.join x ys) := fun s1 k Q q =>
  we_of (pe_join pe_we pe_we hs hbase hline) (ha s1 k _ fun v s2 k2 r2 => ⟨⟨x, r2⟩, hb s2 (k.trans k2) _ fun u s3 k3 r3 => by
    obtain ⟨p, vs, rfl, h1, h2⟩ := r3
    obtain rfl := h2.flat
    exact ⟨x, p, ys, r2, rfl, .inl h1, h, q _ s3 (k2.trans k3) rfl⟩⟩)
def ixOf {τ : Type} [DecidableEq τ] (x : τ) : List τ → Option Nat
  | [] => none
  | y :: ys => if y = x then some 0 else (ixOf x ys).map (· + 1)
theorem ixOf_some {τ : Type} [DecidableEq τ] {x : τ} : ∀ {ys : List τ} {j : Nat}, ixOf x ys = some j → ys[j]? = some x ∧ ∀ m z, m < j → ys[m]? = some z → z ≠ x
  | [], _, h => by cases h
  | y :: ys, j, h => by
    unfold ixOf at h
    split at h
    · rename_i e; cases h; exact ⟨by simp [e], fun m z hm => absurd hm (Nat.not_lt_zero _)⟩
    · rename_i e
      obtain ⟨i, h1, rfl⟩ := Option.map_eq_some_iff.mp h
      obtain ⟨h2, h3⟩ := ixOf_some h1
      refine ⟨by simpa using h2, fun m z hm hz => ?_⟩
      cases m with
      | zero => simp at hz; subst hz; exact e
      | succ m => exact h3 m z (by omega) (by simpa using hz)
theorem ev_index {ε : Type} [Eqs ε] [DecidableEq ε] {x : ε} {xs : List ε} {j : Nat} (ha : EvR X a σ s xs) (hb : Ev X b σ s x) (h : ixOf x xs = some j)
    (hbase : attributeBase a "index" X.env (eval a X.env) = eval a X.env := by rfl)
    (hfew : ((backTo pos (starEach [b] X.env)).all (fun x => !x.1) && (backToKw pos (keywordEach [] X.env)).all (fun x => x.1.isSome) && decide (([b] : List Expr).length + ([] : List Keyword).length + (if ([] : List Keyword).isEmpty then 0 else 1) < 30)) = true := by rfl)
    (hline : (p1.endLine == pos.line) = true := by rfl) (hs : starEach [b] X.env = (false, eval b X.env) :: starEach [] X.env := by rfl) (hplain : (backTo pos (starEach [] X.env)).any (·.1) = false := by rfl) :
    Ev X (.Call (.Attribute a "index" p1) [b] [] pos) σ s (j : Int) := fun s1 k Q q =>
  we_of (pe_bm PySem.F.plainAttrs_list PySem.F.slot_list_index PySem.F.type_list_index mt_index pe_we (pa_cons pe_we pa_nil hs) hbase hfew hline hs hplain) (ha s1 k _ fun v s2 k2 r2 => by
    obtain ⟨p, vs, rfl, h1, h2⟩ := r2
    obtain rfl := h2.flat
    refine ⟨.inl ⟨rfl, _, h1⟩, hb s2 (k.trans k2) _ fun u s3 k3 r3 => ?_⟩
    rw [Flat.iff.mp r3]
    obtain ⟨h3, h4⟩ := ixOf_some h
    refine ⟨p, _, toV x, j, toV x, rfl, rfl, sql_mono k3.h h1, Flat.flat x, flat_all xs, by rw [List.getElem?_map, h3]; rfl, (Flat.inj x x).mpr rfl, fun m z hm hz => ?_, q _ s3 (k2.trans k3) rfl⟩
    rw [List.getElem?_map] at hz
    obtain ⟨y, h5, rfl⟩ := Option.map_eq_some_iff.mp hz
    exact Bool.eq_false_iff.mpr fun z => h4 m y hm h5 ((Flat.inj y x).mp z))

structure Cal (P : Program) (w : World) (K : PySem.W.Frag) (mg : Str → Option Value) (base : Heap) (CX : CXT) (k : Nat) (x : Str) (q : Sp) : Prop where
  ex : ∃ (f : Addr) (fd : FuncData) (ps : List Str), FnOk P w K mg base CX k f fd ps q ∧ mg x = some (.ref f) ∧ PySem.W.keepIn K (.ref f) = true ∧ Binds K fd ps []
theorem pe_c0 {n : Str} {k j : Nat} {q : Sp} {ta : TA} (C : Cal X.prog X.w X.K X.mg X.base CX0 k n q) (hr : Room j X.A) (hk : k ≤ j) (hg : Gl X n) (ha : PA X (e :: es) ta) (hdb : (n == ("__debug__" : Str)) = false := by decide)
    (he : starEach (e :: es) X.env = (false, eval e X.env) :: starEach es X.env := by rfl) (hpl : (backTo pos (starEach es X.env)).any (·.1) = false := by rfl) : PE X (.Call (.Name n p0) (e :: es) [] pos) (tCall q [] E0 ta) := by
  obtain ⟨f, fd, ps, F, hm, kp, b⟩ := C.ex
  exact pe_call F (hr.mono hk) hg hm kp b .nil pass0 ha hdb he hpl
def sp {A : Type} [EncA A] {ρ : Type} [Enc ρ] (K : PySem.W.Frag) (m : A → Option ρ) : Sp := fun vs H Q _ => ∃ (s : S) (x : A) (r : ρ), s.H = H ∧ repA K s.F vs x ∧ m x = some r ∧ ∀ v s', Ex s s' → rep K s'.F v r → Q v s'.H
def spN {A : Type} [EncA A] {ρ : Type} [Enc ρ] (K : PySem.W.Frag) (m : A → Option (List ρ)) : Sp := fun vs H Q _ => ∃ (s : S) (x : A) (r : List ρ), s.H = H ∧ repA K s.F vs x ∧ m x = some r ∧ ∀ p s', Ex s s' → s.H p = none → Own K s' p r → Q (.ref p) s'.H
theorem ev_call {A : Type} [EncA A] {m : A → Option α} {n : Str} {k j : Nat} {x : A} {r : α} (C : Cal X.prog X.w X.K X.mg X.base CX0 k n (sp X.K m)) (hr : Room j X.A) (hk : k ≤ j) (ha : EvA X (e :: es) σ s x) (h : m x = some r) (hg : Gl X n := by rfl)
    (hdb : (n == ("__debug__" : Str)) = false := by decide) (he : starEach (e :: es) X.env = (false, eval e X.env) :: starEach es X.env := by rfl) (hpl : (backTo pos (starEach es X.env)).any (·.1) = false := by rfl) : Ev X (.Call (.Name n p0) (e :: es) [] pos) σ s r := fun s1 k1 Q q =>
  we_of (pe_c0 C hr hk hg pa_wa hdb he hpl) (ha s1 k1 _ fun vs s2 k2 r2 => ⟨s2, x, r, rfl, by rw [List.append_nil]; exact r2, h, fun v s3 k3 r3 => q v s3 (k2.trans k3) r3⟩)
theorem en_call {A : Type} [EncA A] {m : A → Option (List α)} {n : Str} {k j : Nat} {x : A} {r : List α} (C : Cal X.prog X.w X.K X.mg X.base CX0 k n (spN X.K m)) (hr : Room j X.A) (hk : k ≤ j) (ha : EvA X (e :: es) σ s x) (h : m x = some r) (hg : Gl X n := by rfl)
    (hdb : (n == ("__debug__" : Str)) = false := by decide) (he : starEach (e :: es) X.env = (false, eval e X.env) :: starEach es X.env := by rfl) (hpl : (backTo pos (starEach es X.env)).any (·.1) = false := by rfl) : EvN X (.Call (.Name n p0) (e :: es) [] pos) σ s r := fun s1 k1 Q q =>
  we_of (pe_c0 C hr hk hg pa_wa hdb he hpl) (ha s1 k1 _ fun vs s2 k2 r2 => ⟨s2, x, r, rfl, by rw [List.append_nil]; exact r2, h, fun v s3 k3 n3 r3 => q v s3 (k2.trans k3) (fr_back k2 n3) r3⟩)
end
end Dy

namespace Dy
open PySem PySem.Spec L2
open PyProof.Rows hiding St
open Enc (rep)
open Flat (toV)
open EncA (repA)

noncomputable def chk {α : Type} (c : Prop) (m : Option α) : Option α := open Classical in if c then m else none
theorem chk_pos {α : Type} {c : Prop} {m : Option α} (h : c) : chk c m = m := by unfold chk; exact if_pos h
theorem chkE {α : Type} {c : Prop} {m : Option α} {r : α} (h : chk c m = some r) : c ∧ m = some r := by
  unfold chk at h
  split at h
  · rename_i hc; exact ⟨hc, h⟩
  · cases h
def lt {α β : Type} (x : α) (f : α → Option β) : Option β := f x
theorem ltE {α β : Type} {x : α} {f : α → Option β} {r : β} (h : lt x f = some r) : ∃ y, y = x ∧ f y = some r := ⟨x, rfl, h⟩
abbrev bnd {α β : Type} (m : Option α) (f : α → Option β) : Option β := m.bind f
theorem bndE {α β : Type} {m : Option α} {f : α → Option β} {r : β} (h : bnd m f = some r) : ∃ y, m = some y ∧ f y = some r := by
  cases m with
  | none => cases h
  | some y => exact ⟨y, rfl, h⟩
theorem iteE1 {α : Type} {b : Bool} {m k : Option α} {r : α} (h : (if b = true then m else k) = some r) (e : b = true) : m = some r := by rw [if_pos e] at h; exact h
theorem iteE2 {α : Type} {b : Bool} {m k : Option α} {r : α} (h : (if b = true then m else k) = some r) (e : b = false) : k = some r := by rw [if_neg (by rw [e]; exact Bool.false_ne_true)] at h; exact h
def andO (a : Bool) (m : Option Bool) : Option Bool := if a = true then m else some false
def orO (a : Bool) (m : Option Bool) : Option Bool := if a = true then some true else m
theorem andE {a r : Bool} {m : Option Bool} (h : andO a m = some r) : (a = true → m = some r) ∧ (a = false → r = false) := by
  unfold andO at h
  cases a with
  | true => exact ⟨fun _ => h, fun z => Bool.noConfusion z⟩
  | false => exact ⟨fun z => Bool.noConfusion z, fun _ => (Option.some.inj h).symm⟩
theorem orE {a r : Bool} {m : Option Bool} (h : orO a m = some r) : (a = false → m = some r) ∧ (a = true → r = true) := by
  unfold orO at h
  cases a with
  | false => exact ⟨fun _ => h, fun z => Bool.noConfusion z⟩
  | true => exact ⟨fun z => Bool.noConfusion z, fun _ => (Option.some.inj h).symm⟩
inductive Fl (β ρ : Type) where
  | nx (b : β)
  | rt (r : ρ)
def foldO {α β : Type} (f : β → α → Option β) : β → List α → Option β
  | b, [] => some b
  | b, x :: r => (f b x).bind fun b' => foldO f b' r
def foldF {α β ρ : Type} (f : β → α → Option (Fl β ρ)) : β → List α → Option (Fl β ρ)
  | b, [] => some (.nx b)
  | b, x :: r => (f b x).bind fun o => match o with
    | .nx b' => foldF f b' r
    | .rt v => some (.rt v)
def whileO {β : Type} (c : β → Option Bool) (f : β → Option β) : Nat → β → Option β
  | 0, _ => none
  | n + 1, b => (c b).bind fun t => if t = true then (f b).bind fun b' => whileO c f n b' else some b
def whileF {β ρ : Type} (c : β → Option Bool) (f : β → Option (Fl β ρ)) : Nat → β → Option (Fl β ρ)
  | 0, _ => none
  | n + 1, b => (c b).bind fun t => if t = true then (f b).bind fun o => (match o with
    | .nx b' => whileF c f n b'
    | .rt v => some (.rt v)) else some (.nx b)
def compO {α β : Type} (t : α → Option Bool) (f : α → Option β) : List α → Option (List β)
  | [] => some []
  | x :: r => (t x).bind fun b => if b = true then (f x).bind fun y => (compO t f r).bind fun ys => some (y :: ys) else compO t f r
theorem compO_pure {α β : Type} (t : α → Bool) (f : α → β) : ∀ xs : List α, compO (fun x => some (t x)) (fun x => some (f x)) xs = some ((xs.filter t).map f)
  | [] => rfl
  | x :: r => by
    unfold compO
    rw [Option.bind_some, compO_pure t f r, List.filter_cons]
    split
    · rfl
    · rfl
theorem compO_map {α β : Type} (f : α → β) : ∀ xs : List α, compO (fun _ => some true) (fun x => some (f x)) xs = some (xs.map f)
  | [] => rfl
  | x :: r => by
    unfold compO
    rw [Option.bind_some, compO_map f r]
    rfl
def mapO {α β : Type} (f : α → Option β) (xs : List α) : Option (List β) := compO (fun _ => some true) f xs

def WI (X : Cx) (tg iter : Expr) : TI := fun σ H R => ∀ (pins : List (Addr × Obj)) (s : Shared), Inv X pins σ H s →
  wpAny (model X.prog X.w) X.A (eval iter X.env) (fun v s1 => wpAny (model X.prog X.w) X.A (pyIter v) (PIE X pins σ tg R) X.xe s1) X.xe s
theorem pi_wi {X : Cx} {tg iter : Expr} : PI X tg iter (WI X tg iter) := ⟨fun pins s _ _ _ I h => h pins s I⟩
theorem wi_of {X : Cx} {tg iter : Expr} {t : TI} {σ : St} {H : Hp} {R : It → Hp → Prop} (h : PI X tg iter t) (q : t σ H R) : WI X tg iter σ H R := fun pins s I => h.run pins s σ H R I q
section
variable {α β γ δ : Type} [Enc α] [Enc β] [Enc γ] [Enc δ] {X : Cx} {σ : St} {s t : S} {e a b c tg : Expr} {es : List Expr} {pos p0 p1 p2 p3 : Pos}
structure Walk (K : PySem.W.Frag) (F : Hp) (J : It) (xs : List α) : Prop where
  go : ∀ (i : Nat) (t : S) (x : α), Fle F t.F → xs[i]? = some x → J.go i t.H ∧ ∀ v H', J.yld i t.H v H' → ∃ t' : S, t'.H = H' ∧ Ex t t' ∧ rep K t'.F v x
  stop : ∀ (i : Nat) (t : S), Fle F t.F → xs.length ≤ i → J.stop i t.H
def EvI (X : Cx) (tg e : Expr) (σ : St) (s : S) (xs : List α) : Prop := ∀ s1, Ex s s1 → ∀ R : It → Hp → Prop, (∀ J s2, Ex s1 s2 → Walk X.K s2.F J xs → R J s2.H) → WI X tg e σ s1.H R
theorem ei_list {xs : List α} (h : Ev X e σ s xs) : EvI X tg e σ s xs := fun s1 k R q =>
  wi_of (pi_list pe_we) (h s1 k _ fun v s2 k2 r2 => by
    obtain ⟨p, vs, rfl, h1, h2⟩ := r2
    refine ⟨p, rfl, ⟨vs, sql_mono s2.sub h1⟩, q _ s2 k2 ⟨fun i t x f hx => ?_, fun i t f hi => ⟨vs, sql_mono t.sub (sql_mono f h1), by rw [h2.len]; exact hi⟩⟩⟩
    obtain ⟨v, h3, h4⟩ := h2.get hx
    refine ⟨⟨vs, v, sql_mono t.sub (sql_mono f h1), h3⟩, fun w H' ⟨e1, hy⟩ => ⟨t, e1.symm, Ex.refl _, ?_⟩⟩
    have := hy vs (sql_mono t.sub (sql_mono f h1))
    rw [h3] at this
    cases this
    exact Enc.mono f h4)
theorem ei_tup {xs : Tu α} (h : Ev X e σ s xs) : EvI X tg e σ s xs.l := fun s1 k R q =>
  wi_of (pi_tup pe_we) (h s1 k _ fun v s2 k2 r2 => by
    obtain ⟨p, vs, rfl, h1, h2⟩ := r2
    refine ⟨p, rfl, ⟨vs, sqt_mono s2.sub h1⟩, q _ s2 k2 ⟨fun i t x f hx => ?_, fun i t f hi => ⟨vs, sqt_mono t.sub (sqt_mono f h1), by rw [h2.len]; exact hi⟩⟩⟩
    obtain ⟨v, h3, h4⟩ := h2.get hx
    refine ⟨⟨vs, v, sqt_mono t.sub (sqt_mono f h1), h3⟩, fun w H' ⟨e1, hy⟩ => ⟨t, e1.symm, Ex.refl _, ?_⟩⟩
    have := hy vs (sqt_mono t.sub (sqt_mono f h1))
    rw [h3] at this
    cases this
    exact Enc.mono f h4)
theorem rng_get {a b : Int} {i : Nat} {x : Int} (h : (rng a b)[i]? = some x) : i < (b - a).toNat ∧ x = a + (i : Int) := by
  unfold rng at h
  rw [List.getElem?_map] at h
  obtain ⟨j, h1, rfl⟩ := Option.map_eq_some_iff.mp h
  obtain ⟨h2, h3⟩ := List.getElem?_eq_some_iff.mp h1
  rw [List.length_range] at h2
  rw [List.getElem_range] at h3
  subst h3
  exact ⟨h2, rfl⟩
theorem rng_len (a b : Int) : (rng a b).length = (b - a).toNat := by unfold rng; rw [List.length_map, List.length_range]
theorem walk_rng {K : PySem.W.Frag} {F : Hp} {a b : Int} : Walk K F (Itr a (b - a).toNat) (rng a b) :=
  ⟨fun i t x f hx => ⟨(rng_get hx).1, fun v H' ⟨e1, e2⟩ => ⟨t, e1.symm, Ex.refl _, by rw [e2, (rng_get hx).2]; rfl⟩⟩, fun i t f hi => by rw [rng_len] at hi; exact hi⟩
def RgB (x : Int) : Prop := -(2 ^ 62) ≤ x ∧ x < 2 ^ 62
theorem ei_range1 {n : Int} (hm : X.mg "range" = none) (h : Ev X e σ s n) (hb : RgB n) (hg : Gl X "range" := by rfl) (hs : starEach [e] X.env = [(false, eval e X.env)] := by rfl) (hs2 : starEach [e] X.env = (false, eval e X.env) :: starEach [] X.env := by rfl) :
    EvI X tg (.Call (.Name "range" p0) [e] [] pos) σ s (rng 0 n) := fun s1 k R q =>
  wi_of (pi_range1 hg hm (pa_cons pe_we pa_nil hs2) hs) (h s1 k _ fun v s2 k2 r2 => ⟨n, by rw [show v = V.int n from r2], hb.1, hb.2, q _ s2 k2 (by
    have := walk_rng (K := X.K) (F := s2.F) (a := 0) (b := n)
    rw [Int.sub_zero] at this
    exact this)⟩)
theorem ei_range2 {m n : Int} (hm : X.mg "range" = none) (ha : Ev X a σ s m) (hb : Ev X b σ s n) (h1 : RgB m) (h2 : RgB n) (hg : Gl X "range" := by rfl) (hs : starEach [a, b] X.env = [(false, eval a X.env), (false, eval b X.env)] := by rfl) (hs2 : starEach [b] X.env = [(false, eval b X.env)] := by rfl)
    (hs3 : starEach [a, b] X.env = (false, eval a X.env) :: starEach [b] X.env := by rfl) (hs4 : starEach [b] X.env = (false, eval b X.env) :: starEach [] X.env := by rfl) :
    EvI X tg (.Call (.Name "range" p0) [a, b] [] pos) σ s (rng m n) := fun s1 k R q =>
  wi_of (pi_range2 hg hm (pa_cons pe_we (pa_cons pe_we pa_nil hs4) hs3) hs hs2) (ha s1 k _ fun v s2 k2 r2 => hb s2 (k.trans k2) _ fun u s3 k3 r3 => ⟨m, n, by rw [show v = V.int m from r2, show u = V.int n from r3], ⟨h1.1, h1.2, h2.1, h2.2⟩, q _ s3 (k2.trans k3) walk_rng⟩)
def chars (x : Str) : List Str := x.cps.toList.map fun c => ⟨#[c]⟩
theorem ei_str {x : Str} (h : Ev X e σ s x) : EvI X tg e σ s (chars x) := fun s1 k R q =>
  wi_of (pi_str pe_we) (h s1 k _ fun v s2 k2 r2 => ⟨x, r2, q _ s2 k2 ⟨fun i t y f hy => by
    unfold chars at hy
    rw [List.getElem?_map] at hy
    obtain ⟨c, h1, rfl⟩ := Option.map_eq_some_iff.mp hy
    have h1' : x.cps[i]? = some c := by simpa using h1
    refine ⟨?_, fun v H' ⟨e1, d, h2, h3⟩ => ⟨t, e1.symm, Ex.refl _, ?_⟩⟩
    · obtain ⟨z, _⟩ := Array.getElem?_eq_some_iff.mp h1'
      exact z
    · rw [h1'] at h2
      cases h2
      exact h3, fun i t f hi => by
    unfold chars at hi
    rw [List.length_map, Array.length_toList] at hi
    exact hi⟩⟩)
end

structure Tgt {α : Type} [Enc α] (K : PySem.W.Frag) (g : TG) (B : Hp → α → St → St → Prop) : Prop where
  run : ∀ (t : S) (v : V) (x : α) (σ : St) (Q : St → Hp → Prop), rep K t.F v x → (∀ σ2, B t.F x σ σ2 → Q σ2 t.H) → g v σ t.H Q
def BN {α : Type} [Enc α] (K : PySem.W.Frag) (j : Nat) : Hp → α → St → St → Prop := fun F x σ σ2 => ∃ v, rep K F v x ∧ σ2 = σ.set j (some v)
def B2 {α β : Type} [Enc α] [Enc β] (K : PySem.W.Frag) (i j : Nat) : Hp → α × β → St → St → Prop := fun F x σ σ2 => ∃ v w, rep K F v x.1 ∧ rep K F w x.2 ∧ σ2 = (σ.set i (some v)).set j (some w)
def B3 {α β γ : Type} [Enc α] [Enc β] [Enc γ] (K : PySem.W.Frag) (i j k : Nat) : Hp → T3 α β γ → St → St → Prop := fun F x σ σ2 => ∃ v w u, rep K F v x.a ∧ rep K F w x.b ∧ rep K F u x.c ∧ σ2 = ((σ.set i (some v)).set j (some w)).set k (some u)
theorem tg_n {α : Type} [Enc α] {K : PySem.W.Frag} {j : Nat} : Tgt (α := α) K (gName j) (BN K j) := ⟨fun t v x σ Q r h => h _ ⟨v, r, rfl⟩⟩
theorem tg_2 {α β : Type} [Enc α] [Enc β] {K : PySem.W.Frag} {i j : Nat} : Tgt (α := α × β) K (gTup K 2 (gCons (gName i) (gCons (gName j) gNil))) (B2 K i j) := ⟨fun t v x σ Q r h => by
  obtain ⟨p, v1, v2, rfl, h0, h1, h2⟩ := r
  exact ⟨p, _, rfl, sqt_mono t.sub h0, rfl, v1, _, rfl, v2, _, rfl, rfl, h _ ⟨v1, v2, h1, h2, rfl⟩⟩⟩
theorem tg_3 {α β γ : Type} [Enc α] [Enc β] [Enc γ] {K : PySem.W.Frag} {i j k : Nat} : Tgt (α := T3 α β γ) K (gTup K 3 (gCons (gName i) (gCons (gName j) (gCons (gName k) gNil)))) (B3 K i j k) := ⟨fun t v x σ Q r h => by
  obtain ⟨p, v1, v2, v3, rfl, h0, h1, h2, h3⟩ := r
  exact ⟨p, _, rfl, sqt_mono t.sub h0, rfl, v1, _, rfl, v2, _, rfl, v3, _, rfl, rfl, h _ ⟨v1, v2, v3, h1, h2, h3, rfl⟩⟩⟩

section
variable {α β : Type} [Enc α] [Enc β] {X : Cx} {σ : St} {s : S} {elt tg iter c : Expr} {ifs : List Expr} {scope : Scope} {own : List (Str × Nat)} {pos : Pos}
abbrev Blk (X : Cx) (scope : Scope) (s0 : Shared) (H0 : Hp) (C : Addr) (cl : List (Str × Addr)) (fp : List Addr) : Cx := X.blk s0 H0 scope (compEnvC scope cl C X.env) fp
theorem comp_read {xs : List α} {ys : List β} {t : α → Option Bool} {f : α → Option β} {g : TG} {B : Hp → α → St → St → Prop} {tt : TT} (hc : X.calm = true) (hN : X.N.Nodup) (hi : EvI X tg iter σ s xs) (ok : BlkOk X.N X.env.scope scope own)
    (hg : ∀ s0 H0 C cl fp, PG (Blk X scope s0 H0 C cl fp) tg g) (T : Tgt (α := α) X.K g B) (htt : ∀ s0 H0 C cl fp, PTs (Blk X scope s0 H0 C cl fp) ifs tt) (hf : compO t f xs = some ys) (hz : ys.length ≤ sizeLine)
    (hw : ∀ (F : Hp) (x : α) σ2, B F x (wipe σ (own.map (·.2))) σ2 → wipe σ2 (own.map (·.2)) = wipe σ (own.map (·.2)))
    (ht : ∀ (x : α) (b : Bool) (s1 : S) (σ2 : St) (Q : Bool → Hp → Prop), x ∈ xs → Ex s s1 → B s1.F x (wipe σ (own.map (·.2))) σ2 → t x = some b → (∀ s2, Ex s1 s2 → Q b s2.H) → tt σ2 s1.H Q)
    (he : ∀ (x : α) (y : β) (s1 : S) (σ2 : St), x ∈ xs → Ex s s1 → B s1.F x (wipe σ (own.map (·.2))) σ2 → t x = some true → f x = some y → ∀ s0 H0 C cl fp, Ev (Blk X scope s0 H0 C cl fp) elt σ2 s1 y)
    (s1 : S) (k : Ex s s1) (Q : VK) (q : ∀ p s2, Ex s1 s2 → s1.H p = none → Own X.K s2 p ys → Q (.ref p) s2.H) : tLc (WI X tg iter) g tt (fun σ H Q => ∀ s0 H0 C cl fp, WE (Blk X scope s0 H0 C cl fp) elt σ H Q) (own.map (·.2)) σ s1.H Q := by
  refine hi s1 k _ fun J s2 k2 W => ?_
  intro D hD
  refine ⟨fun i m H => ∃ (u : S) (pre : List β) (vs : List V), u.H = H ∧ m = xs.length - i ∧ Ex s2 u ∧ u.F D = none ∧ u.H D = some (.lst vs) ∧ Reps X.K u.F vs pre ∧ (∃ suf, compO t f (xs.drop i) = some suf ∧ pre ++ suf = ys), ⟨xs.length, s2.newO D (.lst []) hD, [], [], rfl, rfl, Ex.newO hD, (fF hD : s2.F D = none), upd_same, trivial, ys, hf, rfl⟩, ?_⟩
  rintro i m H ⟨u, pre, vs, rfl, rfl, ku, n1, n2, n3, suf, h1, h2⟩
  by_cases hi' : i < xs.length
  · right
    have hx : xs[i]? = some xs[i] := List.getElem?_eq_getElem hi'
    obtain ⟨g1, g2⟩ := W.go i u xs[i] ku.f hx
    refine ⟨g1, fun H' => ∃ m', m' < xs.length - i ∧ ∃ (u : S) (pre : List β) (vs : List V), u.H = H' ∧ m' = xs.length - (i + 1) ∧ Ex s2 u ∧ u.F D = none ∧ u.H D = some (.lst vs) ∧ Reps X.K u.F vs pre ∧ (∃ suf, compO t f (xs.drop (i + 1)) = some suf ∧ pre ++ suf = ys), fun H' z => z, fun v H' hy => ?_⟩
    obtain ⟨u', rfl, ku', rv⟩ := g2 v H' hy
    refine T.run u' v xs[i] _ _ rv fun σ2 hB => ⟨hw _ _ _ hB, ?_⟩
    rw [List.drop_eq_getElem_cons hi'] at h1
    unfold compO at h1
    cases hb : t xs[i] with
    | none => rw [hb] at h1; cases h1
    | some b =>
      rw [hb, Option.bind_some] at h1
      have mem : xs[i] ∈ xs := List.getElem_mem hi'
      have base : Ex s u' := (k.trans k2).trans (ku.trans ku')
      refine ht xs[i] b u' σ2 _ mem base hB hb fun u3 k3 => ?_
      have hlt : xs.length - (i + 1) < xs.length - i := by omega
      have kk : Ex u u3 := ku'.trans k3
      cases b with
      | false =>
        rw [if_neg Bool.false_ne_true] at h1 ⊢
        exact ⟨_, hlt, u3, pre, vs, rfl, rfl, ku.trans kk, kk.n _ _ n2 n1, kk.h _ _ n2, n3.mono kk.f, suf, h1, h2⟩
      | true =>
        rw [if_pos rfl] at h1 ⊢
        cases hfx : f xs[i] with
        | none => rw [hfx] at h1; cases h1
        | some y =>
          rw [hfx, Option.bind_some] at h1
          cases hr : compO t f (xs.drop (i + 1)) with
          | none => rw [hr] at h1; cases h1
          | some suf' =>
            rw [hr] at h1
            cases h1
            intro s0 H0 C cl fp
            refine he xs[i] y u' σ2 mem base hB hb hfx s0 H0 C cl fp u3 k3 _ fun w u4 k4 r4 => ?_
            have k5 : Ex u u4 := kk.trans k4
            have hD4 : u4.H D = some (.lst vs) := k5.h _ _ n2
            have hF4 : u4.F D = none := k5.n _ _ n2 n1
            have hlen : vs.length < sizeLine := by
              have e1 := n3.len
              have e2 : ys.length = pre.length + (suf'.length + 1) := by rw [← h2, List.length_append, List.length_cons]
              omega
            refine ⟨vs, hD4, hlen, _, hlt, u4.put D (.lst (vs ++ [w])) hF4, pre ++ [y], vs ++ [w], rfl, rfl, (ku.trans k5).mu1 (Mx.put hF4) hD, hF4, upd_same, (n3.mono k5.f).snoc r4, suf', rfl, by rw [List.append_assoc]; exact h2⟩
  · left
    have hd : xs.drop i = [] := List.drop_eq_nil_of_le (by omega)
    rw [hd] at h1
    cases h1
    refine ⟨W.stop i u ku.f (by omega), q D u (k2.trans ku) (fr_back k2 hD) ⟨n1, vs, n2, ?_⟩⟩
    rw [← h2, List.append_nil]
    exact n3
structure EvL (X : Cx) (elt tg iter : Expr) (ifs : List Expr) (scope : Scope) (σ : St) (s : S) (ys : List β) : Prop where
  calm : X.calm = true
  nd : X.N.Nodup
  fs : ∀ x, foldedSetIterable iter X.env x = pure x
  ex : ∃ (own : List (Str × Nat)) (g : TG) (tt : TT), BlkOk X.N X.env.scope scope own ∧ (∀ s0 H0 C cl fp, PG (Blk X scope s0 H0 C cl fp) tg g) ∧ (∀ s0 H0 C cl fp, PTs (Blk X scope s0 H0 C cl fp) ifs tt) ∧
    ∀ s1, Ex s s1 → ∀ Q : VK, (∀ p s2, Ex s1 s2 → s1.H p = none → Own X.K s2 p ys → Q (.ref p) s2.H) → tLc (WI X tg iter) g tt (fun σ H Q => ∀ s0 H0 C cl fp, WE (Blk X scope s0 H0 C cl fp) elt σ H Q) (own.map (·.2)) σ s1.H Q
theorem EvL.n {ys : List β} (h : EvL X elt tg iter ifs scope σ s ys) : EvN X (.ListComp elt [⟨tg, iter, ifs, 0⟩] scope pos) σ s ys := fun s1 k Q q => by
  obtain ⟨own, g, tt, h1, h2, h3, h4⟩ := h.ex
  exact we_of (pe_lc h.calm h.nd pi_wi h1 h2 h3 (fun s0 H0 C cl fp => ⟨fun pins s _ _ _ I h => h s0 H0 C cl fp pins s I⟩) h.fs) (h4 s1 k Q q)
theorem do_setL (i : Nat) {ys : List β} {n : Str} {py : Pos} {rest : List Stmt} {D : Ends} {spos : Pos} (h : EvL X elt tg iter ifs scope σ s ys) (k : ∀ p s1, Ex s s1 → s.H p = none → Own X.K s1 p ys → WSs X rest D (σ.set i (some (.ref p))) s1.H) (hk : X.env.scope.kind = .function) (hy : X.env.scope.names.lookup n = some .local)
    (hl : (py.line == pos.line) = true := by rfl) (ha : (scope.names.any fun (m, k) => m == n && (k == .local || k == .cell)) = false := by decide +kernel) (hi : X.N[i]? = some n := by rfl) :
    WSs X (.Assign [.Name n py] (.ListComp elt [⟨tg, iter, ifs, 0⟩] scope pos) spos :: rest) D σ s.H := by
  obtain ⟨own, g, tt, h1, h2, h3, h4⟩ := h.ex
  exact ws_of (pss_cons (ps_setLc (te := fun σ H Q => ∀ s0 H0 C cl fp, WE (Blk X scope s0 H0 C cl fp) elt σ H Q) h.calm h.nd hi hy (sw_true hk hy hl ha) pi_wi h1 h2 h3 (fun s0 H0 C cl fp => ⟨fun pins s _ _ _ I h => h s0 H0 C cl fp pins s I⟩) h.fs) pss_ws) (h4 s (Ex.refl _) (fun x H1 => WSs X rest D (σ.set i (some x)) H1) fun p s2 k2 n2 o2 => k p s2 k2 n2 o2)
theorem wipe_set {τ : St} {j : Nat} {o : Option V} : ∀ {vs : List Nat}, j ∈ vs → wipe (τ.set j o) vs = wipe τ vs
  | v :: vs, h => by
    show (wipe (τ.set j o) vs).set v none = (wipe τ vs).set v none
    by_cases e : j ∈ vs
    · rw [wipe_set e]
    · have : j = v := by
        rcases List.mem_cons.mp h with z | z
        · exact z
        · exact absurd z e
      subst this
      have : ∀ {ws : List Nat} {τ : St}, j ∉ ws → wipe (τ.set j o) ws = (wipe τ ws).set j o := by
        intro ws
        induction ws with
        | nil => intro τ _; rfl
        | cons a r ih =>
          intro τ h
          show (wipe (τ.set j o) r).set a none = ((wipe τ r).set a none).set j o
          rw [ih fun z => h (List.mem_cons_of_mem _ z), List.set_comm _ _ (fun z => h (by rw [z]; exact List.mem_cons_self))]
      rw [this e, List.set_set]
theorem wipe_wipe {τ : St} : ∀ {vs ws : List Nat}, (∀ v ∈ vs, v ∈ ws) → wipe (wipe τ vs) ws = wipe τ ws
  | [], _, _ => rfl
  | v :: vs, ws, h => by
    show wipe ((wipe τ vs).set v none) ws = wipe τ ws
    rw [wipe_set (h v List.mem_cons_self)]
    exact wipe_wipe fun u hu => h u (List.mem_cons_of_mem _ hu)
theorem en_comp0 {xs : List α} {ys : List β} {f : α → Option β} {j : Nat} {n : Str} {py : Pos} (hc : X.calm = true) (hN : X.N.Nodup) (hi : EvI X (.Name n py) iter σ s xs) (ok : BlkOk X.N X.env.scope scope own) (hj : X.N[j]? = some n)
    (hjo : j ∈ own.map (·.2)) (hg : ∀ s0 H0 C cl fp, PG (Blk X scope s0 H0 C cl fp) (.Name n py) (gName j)) (hf : mapO f xs = some ys) (hz : ys.length ≤ sizeLine)
    (he : ∀ (x : α) (y : β) (v : V) (s1 : S), x ∈ xs → Ex s s1 → rep X.K s1.F v x → f x = some y → ∀ s0 H0 C cl fp, Ev (Blk X scope s0 H0 C cl fp) elt ((wipe σ (own.map (·.2))).set j (some v)) s1 y)
    (hs : ∀ x, foldedSetIterable iter X.env x = pure x := by intro _; rfl) : EvL X elt (.Name n py) iter [] scope σ s ys :=
  ⟨hc, hN, hs, own, _, _, ok, hg, fun _ _ _ _ _ => pts_nil, fun s1 k Q q => comp_read (t := fun _ => some true) hc hN hi ok hg tg_n (fun _ _ _ _ _ => pts_nil) hf hz (fun F x σ2 ⟨v, _, e⟩ => by rw [e, wipe_set hjo]; exact wipe_wipe fun _ z => z)
    (fun x b s1 σ2 Q _ _ _ hb q => by cases hb; exact q s1 (Ex.refl _)) (fun x y s1 σ2 hx k ⟨v, r, e⟩ _ hfx => by subst e; exact he x y v s1 hx k r hfx) s1 k Q q⟩
theorem en_comp1 {xs : List α} {ys : List β} {t : α → Option Bool} {f : α → Option β} {j : Nat} {n : Str} {py : Pos} (hc : X.calm = true) (hN : X.N.Nodup) (hi : EvI X (.Name n py) iter σ s xs) (ok : BlkOk X.N X.env.scope scope own) (hj : X.N[j]? = some n)
    (hjo : j ∈ own.map (·.2)) (hg : ∀ s0 H0 C cl fp, PG (Blk X scope s0 H0 C cl fp) (.Name n py) (gName j)) (hf : compO t f xs = some ys) (hz : ys.length ≤ sizeLine)
    (ht : ∀ (x : α) (b : Bool) (v : V) (s1 : S), x ∈ xs → Ex s s1 → rep X.K s1.F v x → t x = some b → ∀ s0 H0 C cl fp, EvT (Blk X scope s0 H0 C cl fp) c ((wipe σ (own.map (·.2))).set j (some v)) s1 b)
    (he : ∀ (x : α) (y : β) (v : V) (s1 : S), x ∈ xs → Ex s s1 → rep X.K s1.F v x → t x = some true → f x = some y → ∀ s0 H0 C cl fp, Ev (Blk X scope s0 H0 C cl fp) elt ((wipe σ (own.map (·.2))).set j (some v)) s1 y)
    (hs : ∀ x, foldedSetIterable iter X.env x = pure x := by intro _; rfl) : EvL X elt (.Name n py) iter [c] scope σ s ys :=
  ⟨hc, hN, hs, own, _, _, ok, hg, fun s0 H0 C cl fp => pts_one ⟨fun pins s _ _ _ I h => h s0 H0 C cl fp pins s I⟩, fun s1 k Q q => comp_read (tt := fun σ H Q => ∀ s0 H0 C cl fp, WT (Blk X scope s0 H0 C cl fp) c σ H Q) hc hN hi ok hg tg_n (fun s0 H0 C cl fp => pts_one ⟨fun pins s _ _ _ I h => h s0 H0 C cl fp pins s I⟩) hf hz (fun F x σ2 ⟨v, _, e⟩ => by rw [e, wipe_set hjo]; exact wipe_wipe fun _ z => z)
    (fun x b s1 σ2 Q hx k ⟨v, r, e⟩ hb q => by subst e; intro s0 H0 C cl fp; exact ht x b v s1 hx k r hb s0 H0 C cl fp s1 (Ex.refl _) Q q) (fun x y s1 σ2 hx k ⟨v, r, e⟩ htx hfx => by subst e; exact he x y v s1 hx k r htx hfx) s1 k Q q⟩
end
end Dy

namespace Dy
open PySem PySem.Spec L2
open PyProof.Rows hiding St
open Enc (rep)
open Flat (toV)
open EncA (repA)

abbrev MD (D : Ends) (M : St → S → Prop) : Ends := { D with nx := fun σ H => ∃ s : S, s.H = H ∧ M σ s }
abbrev ND (D : Ends) : Ends := { D with nx := fun _ _ => False }
abbrev LD (D : Ends) (M : St → S → Prop) : Ends := { nx := fun σ H => ∃ s : S, s.H = H ∧ M σ s, rt := D.rt }
abbrev RD (Q : VK) : Ends := { nx := fun _ H' => Q .non H', rt := Q }
section
variable {α β γ δ : Type} [Enc α] [Enc β] [Enc γ] [Enc δ] {X : Cx} {σ : St} {s t : S} {e a b c tg iter : Expr} {es : List Expr} {pos p0 p1 p2 p3 : Pos} {D : Ends} {rest A B : List Stmt}
theorem do_nil (h : D.nx σ s.H) : WSs X [] D σ s.H := ws_of pss_nil h
theorem do_cons {st : Stmt} {ts : TS} (h : PS X st ts) (q : ts { D with nx := fun σ' H' => WSs X rest D σ' H' } σ s.H) : WSs X (st :: rest) D σ s.H := ws_of (pss_cons h pss_ws) q
theorem do_set (i : Nat) {x : α} {n : Str} {py : Pos} (h : Ev X e σ s x) (k : ∀ v s1, Ex s s1 → rep X.K s1.F v x → WSs X rest D (σ.set i (some v)) s1.H) (hN : X.N.Nodup) (hx : Loc X.env.scope n := by first | exact Or.inl rfl | exact Or.inr rfl) (hi : X.N[i]? = some n := by rfl)
    (hs : swapsWith e (some (.Name n py)) pos.line X.env = pure false := by rfl) (hf : X.fn n = true ∨ X.env.scope.names.lookup n = some .local := by first | exact .inl rfl | exact .inr rfl) : WSs X (.Assign [.Name n py] e pos :: rest) D σ s.H :=
  do_cons (ps_set hN hi hx pe_we hs hf) (h s (Ex.refl _) _ fun v s1 k1 r => k v s1 k1 r)
theorem do_setN (i : Nat) {xs : List α} {n : Str} {py : Pos} (h : EvN X e σ s xs) (k : ∀ p s1, Ex s s1 → s.H p = none → Own X.K s1 p xs → WSs X rest D (σ.set i (some (.ref p))) s1.H) (hN : X.N.Nodup) (hx : Loc X.env.scope n := by first | exact Or.inl rfl | exact Or.inr rfl) (hi : X.N[i]? = some n := by rfl)
    (hs : swapsWith e (some (.Name n py)) pos.line X.env = pure false := by rfl) (hf : X.fn n = true ∨ X.env.scope.names.lookup n = some .local := by first | exact .inl rfl | exact .inr rfl) : WSs X (.Assign [.Name n py] e pos :: rest) D σ s.H :=
  do_cons (ps_set hN hi hx pe_we hs hf) (h s (Ex.refl _) _ fun v s1 k1 n1 r => k v s1 k1 n1 r)
theorem do_ret {x : α} (h : Ev X e σ s x) (k : ∀ v s1, Ex s s1 → rep X.K s1.F v x → D.rt v s1.H) : WSs X (.Return (some e) pos :: rest) D σ s.H :=
  do_cons (ps_ret pe_we) (h s (Ex.refl _) _ fun v s1 k1 r => k v s1 k1 r)
theorem do_retN {xs : List α} (h : EvN X e σ s xs) (k : ∀ p s1, Ex s s1 → s.H p = none → Own X.K s1 p xs → D.rt (.ref p) s1.H) : WSs X (.Return (some e) pos :: rest) D σ s.H :=
  do_cons (ps_ret pe_we) (h s (Ex.refl _) _ fun v s1 k1 n1 r => k v s1 k1 n1 r)
theorem do_retO (i : Nat) {p : Addr} {n : Str} (h : σ[i]? = some (some (.ref p))) (k : D.rt (.ref p) s.H) (hN : X.N[i]? = some n := by rfl) (hv : Vis X.env.scope n := by first | exact Or.inl rfl | exact Or.inr (Or.inl rfl) | exact Or.inr (Or.inr rfl)) (hd : (n == ("__debug__" : Str)) = false := by decide)
    (hcd : (n == ("__classdict__" : Str)) = false := by decide) : WSs X (.Return (some (.Name n p0)) pos :: rest) D σ s.H :=
  do_cons (ps_ret (pe_var hN hv hd hcd)) ⟨_, h, k⟩
theorem do_if {x : Bool} (hc : EvT X c σ s x) (M : St → S → Prop) (h1 : x = true → ∀ s1, Ex s s1 → WSs X A (MD D M) σ s1.H) (h2 : x = false → ∀ s1, Ex s s1 → WSs X B (MD D M) σ s1.H)
    (h3 : ∀ σ' s', M σ' s' → WSs X rest D σ' s'.H) : WSs X (.If c A B pos :: rest) D σ s.H :=
  do_cons (ps_if pt_wt pss_ws pss_ws) (hc s (Ex.refl _) _ fun s1 k => by
    cases x with
    | true => exact iteT ((h1 rfl s1 k).imp (fun σ' H' ⟨s', e, m⟩ => e ▸ h3 σ' s' m) (fun _ _ q => q) (fun _ _ q => q) fun _ _ q => q)
    | false => exact iteF ((h2 rfl s1 k).imp (fun σ' H' ⟨s', e, m⟩ => e ▸ h3 σ' s' m) (fun _ _ q => q) (fun _ _ q => q) fun _ _ q => q))
theorem do_ifR {x : Bool} (hc : EvT X c σ s x) (h1 : x = true → ∀ s1, Ex s s1 → WSs X A (ND D) σ s1.H) (h2 : x = false → ∀ s1, Ex s s1 → WSs X rest D σ s1.H) : WSs X (.If c A [] pos :: rest) D σ s.H :=
  do_cons (ps_if pt_wt pss_ws pss_nil) (hc s (Ex.refl _) _ fun s1 k => by
    cases x with
    | true => exact iteT ((h1 rfl s1 k).imp (fun _ _ z => z.elim) (fun _ _ q => q) (fun _ _ q => q) fun _ _ q => q)
    | false => exact iteF (h2 rfl s1 k))
theorem do_ifRR {x : Bool} (hc : EvT X c σ s x) (h1 : x = true → ∀ s1, Ex s s1 → WSs X A (ND D) σ s1.H) (h2 : x = false → ∀ s1, Ex s s1 → WSs X B (ND D) σ s1.H) : WSs X (.If c A B pos :: rest) D σ s.H :=
  do_cons (ps_if pt_wt pss_ws pss_ws) (hc s (Ex.refl _) _ fun s1 k => by
    cases x with
    | true => exact iteT ((h1 rfl s1 k).imp (fun _ _ z => z.elim) (fun _ _ q => q) (fun _ _ q => q) fun _ _ q => q)
    | false => exact iteF ((h2 rfl s1 k).imp (fun _ _ z => z.elim) (fun _ _ q => q) (fun _ _ q => q) fun _ _ q => q))

theorem st_set {l : St} {i : Nat} {v : V} (h : l[i]? = some (some v)) : l[i]? = some (some v) := h
theorem do_append (i : Nat) {p : Addr} {n : Str} {xs : List α} {x : α} (hσ : σ[i]? = some (some (.ref p))) (o : Own X.K s p xs) (he : Ev X e σ s x) (hz : xs.length < sizeLine)
    (k : ∀ s1, Mx (· = p) s s1 → Own X.K s1 p (xs ++ [x]) → WSs X rest D σ s1.H)
    (hN : X.N[i]? = some n := by rfl) (hv : Vis X.env.scope n := by first | exact Or.inl rfl | exact Or.inr (Or.inl rfl) | exact Or.inr (Or.inr rfl)) (hd : (n == ("__debug__" : Str)) = false := by decide) (hcd : (n == ("__classdict__" : Str)) = false := by decide)
    (hbase : attributeBase (.Name n p0) "append" X.env (eval (.Name n p0) X.env) = eval (.Name n p0) X.env := by rfl)
    (hfew : ((backTo p2 (starEach [e] X.env)).all (fun x => !x.1) && (backToKw p2 (keywordEach [] X.env)).all (fun x => x.1.isSome) && decide (([e] : List Expr).length + ([] : List Keyword).length + (if ([] : List Keyword).isEmpty then 0 else 1) < 30)) = true := by rfl)
    (hline : (p1.endLine == p2.line) = true := by rfl) (hs : starEach [e] X.env = (false, eval e X.env) :: starEach [] X.env := by rfl) (hplain : (backTo p2 (starEach [] X.env)).any (·.1) = false := by rfl)
    (hsw : swapsWith (.Call (.Attribute (.Name n p0) "append" p1) [e] [] p2) none p3.line X.env = pure false := by rfl) :
    WSs X (.Expr (.Call (.Attribute (.Name n p0) "append" p1) [e] [] p2) p3 :: rest) D σ s.H :=
  do_cons (ps_expr (pe_bm PySem.F.plainAttrs_list PySem.F.slot_list_append PySem.F.type_list_append mt_append (pe_var hN hv hd hcd) (pa_cons pe_we pa_nil hs) hbase hfew hline hs hplain) hsw) (by
    obtain ⟨h1, vs, h2, h3⟩ := id o
    refine ⟨_, hσ, .inl ⟨rfl, vs, .inl (.inl h2)⟩, he s (Ex.refl _) _ fun v s1 k1 r1 => ?_⟩
    have f1 := k1.n _ _ h2 h1
    have g1 := k1.h _ _ h2
    refine ⟨p, vs, v, rfl, rfl, g1, by rw [h3.len]; exact hz, ?_⟩
    exact k (s1.put p (.lst (vs ++ [v])) f1) (k1.mx.trans (Mx.put f1)) ⟨f1, _, upd_same, (h3.mono k1.f).snoc r1⟩)
theorem do_extend (i : Nat) {p : Addr} {n : Str} {xs ys : List α} (hσ : σ[i]? = some (some (.ref p))) (o : Own X.K s p xs) (he : EvN X e σ s ys) (hz : xs.length + ys.length ≤ sizeLine)
    (k : ∀ s1, Mx (· = p) s s1 → Own X.K s1 p (xs ++ ys) → WSs X rest D σ s1.H)
    (hN : X.N[i]? = some n := by rfl) (hv : Vis X.env.scope n := by first | exact Or.inl rfl | exact Or.inr (Or.inl rfl) | exact Or.inr (Or.inr rfl)) (hd : (n == ("__debug__" : Str)) = false := by decide) (hcd : (n == ("__classdict__" : Str)) = false := by decide)
    (hbase : attributeBase (.Name n p0) "extend" X.env (eval (.Name n p0) X.env) = eval (.Name n p0) X.env := by rfl)
    (hfew : ((backTo p2 (starEach [e] X.env)).all (fun x => !x.1) && (backToKw p2 (keywordEach [] X.env)).all (fun x => x.1.isSome) && decide (([e] : List Expr).length + ([] : List Keyword).length + (if ([] : List Keyword).isEmpty then 0 else 1) < 30)) = true := by rfl)
    (hline : (p1.endLine == p2.line) = true := by rfl) (hs : starEach [e] X.env = (false, eval e X.env) :: starEach [] X.env := by rfl) (hplain : (backTo p2 (starEach [] X.env)).any (·.1) = false := by rfl)
    (hsw : swapsWith (.Call (.Attribute (.Name n p0) "extend" p1) [e] [] p2) none p3.line X.env = pure false := by rfl) :
    WSs X (.Expr (.Call (.Attribute (.Name n p0) "extend" p1) [e] [] p2) p3 :: rest) D σ s.H :=
  do_cons (ps_expr (pe_bm PySem.F.plainAttrs_list PySem.F.slot_list_extend PySem.F.type_list_extend mt_extend (pe_var hN hv hd hcd) (pa_cons pe_we pa_nil hs) hbase hfew hline hs hplain) hsw) (by
    obtain ⟨h1, vs, h2, h3⟩ := id o
    refine ⟨_, hσ, .inl ⟨rfl, vs, .inl (.inl h2)⟩, he s (Ex.refl _) _ fun q s1 k1 n1 o1 => ?_⟩
    obtain ⟨_, ws, h4, h5⟩ := o1
    have f1 := k1.n _ _ h2 h1
    have g1 := k1.h _ _ h2
    refine ⟨p, q, vs, ws, rfl, rfl, g1, h4, by rw [h3.len, h5.len]; exact hz, ?_⟩
    exact k (s1.put p (.lst (vs ++ ws)) f1) (k1.mx.trans (Mx.put f1)) ⟨f1, _, upd_same, (h3.mono k1.f).app h5⟩)
theorem do_setItem (i : Nat) {p : Addr} {n : Str} {xs : List α} {x : α} {z : Int} {j : Nat} (hσ : σ[i]? = some (some (.ref p))) (o : Own X.K s p xs) (he : Ev X e σ s x) (hi : Ev X a σ s z) (hj : ixN xs.length z = some j)
    (k : ∀ s1, Mx (· = p) s s1 → Own X.K s1 p (xs.set j x) → WSs X rest D σ s1.H)
    (hN : X.N[i]? = some n := by rfl) (hv : Vis X.env.scope n := by first | exact Or.inl rfl | exact Or.inr (Or.inl rfl) | exact Or.inr (Or.inr rfl)) (hd : (n == ("__debug__" : Str)) = false := by decide) (hcd : (n == ("__classdict__" : Str)) = false := by decide)
    (ha : ∀ v, assign (.Subscript (.Name n p0) a p1) X.env v = (do
      let ov ← holding [v] (eval (.Name n p0) X.env)
      let iv ← holding [v, ov] (eval a X.env)
      standAt p1
      holding [v, ov, iv] (setItem ov iv v)
      release [v, ov, iv] []) := by intro _; rfl)
    (hs : swapsWithSole [.Subscript (.Name n p0) a p1] e pos.line X.env = pure false := by rfl) (hw : swappedStores [.Subscript (.Name n p0) a p1] e X.env = pure none := by rfl)
    (h1 : (assignEach [.Subscript (.Name n p0) a p1] X.env).map (·.2) = [assign (.Subscript (.Name n p0) a p1) X.env] := by rfl) :
    WSs X (.Assign [.Subscript (.Name n p0) a p1] e pos :: rest) D σ s.H :=
  do_cons (ps_asg pe_we (pg_sub (pe_var hN hv hd hcd) pe_we set_list ha) hs hw h1) (by
    obtain ⟨f0, vs, h2, h3⟩ := id o
    refine he s (Ex.refl _) _ fun v s1 k1 r1 => ⟨_, hσ, hi s1 k1 _ fun u s2 k2 r2 => ?_⟩
    have k3 := k1.trans k2
    have f1 := k3.n _ _ h2 f0
    have g1 := k3.h _ _ h2
    refine ⟨p, vs, z, j, rfl, r2, g1, by rw [h3.len]; exact hj, ?_⟩
    exact k (s2.put p (.lst (vs.set j v)) f1) (k3.mx.trans (Mx.put f1)) ⟨f1, _, upd_same, (h3.mono k3.f).set j (Enc.mono k2.f r1)⟩)
theorem do_frz {p : Addr} {xs : List α} {ss : List Stmt} (o : Own X.K s p xs) (k : ∀ s' : S, s'.H = s.H → Fle s.F s'.F → (∀ q, q ≠ p → s'.F q = s.F q) → rep X.K s'.F (.ref p) xs → WSs X ss D σ s'.H) : WSs X ss D σ s.H := by
  obtain ⟨s', h1, h2, h3, h4⟩ := o.frz
  have := k s' h1 h2 h3 h4
  rw [h1] at this
  exact this

theorem foldO_drop {τ υ : Type} {f : υ → τ → Option υ} {b b1 : υ} {xs : List τ} {i : Nat} (hi : i < xs.length) (h : foldO f b (xs.drop i) = some b1) : ∃ b', f b xs[i] = some b' ∧ foldO f b' (xs.drop (i + 1)) = some b1 := by
  rw [List.drop_eq_getElem_cons hi] at h
  exact bndE h
theorem do_for_core {τ : Type} [Enc τ] {xs : List τ} {body : List Stmt} {g : TG} {B : Hp → τ → St → St → Prop} (hp : PassesOwn (model X.prog X.w) X.A X.env X.xe) (hc : X.calm = true) (hi : EvI X tg iter σ s xs) (hg : PG X tg g) (T : Tgt (α := τ) X.K g B)
    (R : Nat → St → S → Prop) (h0 : ∀ s1, Ex s s1 → R 0 σ s1)
    (hb : ∀ s1, Ex s s1 → ∀ (i : Nat) (x : τ) (σ' σ2 : St) (t t' : S), xs[i]? = some x → Fle s1.F t.F → R i σ' t → Ex t t' → B t'.F x σ' σ2 → WSs X body (LD D fun σ s => Fle t'.F s.F ∧ R (i + 1) σ s) σ2 t'.H)
    (hd : ∀ s1, Ex s s1 → ∀ σ' t, Fle s1.F t.F → R xs.length σ' t → WSs X rest D σ' t.H)
    (hs : ∀ x, foldedSetIterable iter X.env x = pure x := by intro _; rfl) : WSs X (.For tg iter body [] pos :: rest) D σ s.H :=
  do_cons (ps_for hp hc pi_wi hg pss_ws hs) (hi s (Ex.refl _) _ fun J s1 k1 W => by
    refine ⟨fun i m σ' H' => ∃ t : S, t.H = H' ∧ m = xs.length - i ∧ i ≤ xs.length ∧ Fle s1.F t.F ∧ R i σ' t, ⟨xs.length, s1, rfl, rfl, Nat.zero_le _, Fle.refl _, h0 s1 k1⟩, ?_⟩
    rintro i m σ' H' ⟨t, rfl, rfl, hle, f, r⟩
    by_cases hlt : i < xs.length
    · right
      obtain ⟨g1, g2⟩ := W.go i t xs[i] f (List.getElem?_eq_getElem hlt)
      refine ⟨g1, fun σ' H' => ∃ u : S, u.H = H' ∧ Fle s1.F u.F ∧ R (i + 1) σ' u, fun σ' H' ⟨u, e1, f1, r1⟩ => ⟨xs.length - (i + 1), by omega, u, e1, rfl, hlt, f1, r1⟩, fun v H' hy => ?_⟩
      obtain ⟨t', rfl, kt, rv⟩ := g2 v H' hy
      refine T.run t' v xs[i] _ _ rv fun σ2 hB => ?_
      have := hb s1 k1 i xs[i] σ' σ2 t t' (List.getElem?_eq_getElem hlt) f r kt hB
      exact this.imp (fun σ3 H3 ⟨u, e1, f1, r1⟩ => ⟨u, e1, (f.trans kt.f).trans f1, r1⟩) (fun _ _ q => q) (fun _ _ q => q.elim) (fun _ _ q => q.elim)
    · left
      have e : i = xs.length := by omega
      subst e
      exact ⟨W.stop _ t f (Nat.le_refl _), hd s1 k1 σ' t f r⟩)
theorem do_forO {τ υ : Type} [Enc τ] {xs : List τ} {f : υ → τ → Option υ} {b0 b1 : υ} {body : List Stmt} {g : TG} {B : Hp → τ → St → St → Prop} (hp : PassesOwn (model X.prog X.w) X.A X.env X.xe) (hc : X.calm = true) (hi : EvI X tg iter σ s xs) (hg : PG X tg g) (T : Tgt (α := τ) X.K g B)
    (hf : foldO f b0 xs = some b1) (R : υ → St → S → Prop) (h0 : ∀ s1, Ex s s1 → R b0 σ s1)
    (hb : ∀ s1, Ex s s1 → ∀ (x : τ) (b b' : υ) (σ' σ2 : St) (t t' : S), x ∈ xs → f b x = some b' → Fle s1.F t.F → R b σ' t → Ex t t' → B t'.F x σ' σ2 → WSs X body (LD D fun σ s => Fle t'.F s.F ∧ R b' σ s) σ2 t'.H)
    (hd : ∀ s1, Ex s s1 → ∀ σ' t, Fle s1.F t.F → R b1 σ' t → WSs X rest D σ' t.H)
    (hs : ∀ x, foldedSetIterable iter X.env x = pure x := by intro _; rfl) : WSs X (.For tg iter body [] pos :: rest) D σ s.H :=
  do_for_core hp hc hi hg T (fun i σ' t => ∃ b, foldO f b (xs.drop i) = some b1 ∧ R b σ' t) (fun s1 k => ⟨b0, hf, h0 s1 k⟩)
    (fun s1 k i x σ' σ2 t t' hx fl ⟨b, h1, h2⟩ kt hB => by
      obtain ⟨hlt, rfl⟩ := List.getElem?_eq_some_iff.mp hx
      obtain ⟨b', h3, h4⟩ := foldO_drop hlt h1
      exact (hb s1 k xs[i] b b' σ' σ2 t t' (List.getElem_mem hlt) h3 fl h2 kt hB).imp (fun σ3 H3 ⟨u, e1, f1, r1⟩ => ⟨u, e1, f1, b', h4, r1⟩) (fun _ _ q => q) (fun _ _ q => q.elim) (fun _ _ q => q.elim))
    (fun s1 k σ' t fl ⟨b, h1, h2⟩ => by
      rw [List.drop_length] at h1
      cases h1
      exact hd s1 k σ' t fl h2) hs
theorem foldF_drop {τ υ ρ : Type} {f : υ → τ → Option (Fl υ ρ)} {b : υ} {o : Fl υ ρ} {xs : List τ} {i : Nat} (hi : i < xs.length) (h : foldF f b (xs.drop i) = some o) : ∃ q, f b xs[i] = some q ∧ (∀ b', q = .nx b' → foldF f b' (xs.drop (i + 1)) = some o) ∧ ∀ r, q = .rt r → o = .rt r := by
  rw [List.drop_eq_getElem_cons hi] at h
  obtain ⟨q, h1, h2⟩ := bndE h
  refine ⟨q, h1, fun b' e => by subst e; exact h2, fun r e => by subst e; exact (Option.some.inj h2).symm⟩
theorem do_forF {τ υ ρ : Type} [Enc τ] {xs : List τ} {f : υ → τ → Option (Fl υ ρ)} {b0 : υ} {o : Fl υ ρ} {body : List Stmt} {g : TG} {B : Hp → τ → St → St → Prop} (hp : PassesOwn (model X.prog X.w) X.A X.env X.xe) (hc : X.calm = true) (hi : EvI X tg iter σ s xs) (hg : PG X tg g) (T : Tgt (α := τ) X.K g B)
    (hf : foldF f b0 xs = some o) (R : υ → St → S → Prop) (h0 : ∀ s1, Ex s s1 → R b0 σ s1)
    (hb : ∀ s1, Ex s s1 → ∀ (x : τ) (b : υ) (q : Fl υ ρ) (σ' σ2 : St) (t t' : S), x ∈ xs → f b x = some q → (∀ r, q = .rt r → o = .rt r) → Fle s1.F t.F → R b σ' t → Ex t t' → B t'.F x σ' σ2 → WSs X body (LD D fun σ s => ∃ b', q = .nx b' ∧ Fle t'.F s.F ∧ R b' σ s) σ2 t'.H)
    (hd : ∀ s1, Ex s s1 → ∀ b1 σ' t, o = .nx b1 → Fle s1.F t.F → R b1 σ' t → WSs X rest D σ' t.H)
    (hs : ∀ x, foldedSetIterable iter X.env x = pure x := by intro _; rfl) : WSs X (.For tg iter body [] pos :: rest) D σ s.H :=
  do_for_core hp hc hi hg T (fun i σ' t => ∃ b, foldF f b (xs.drop i) = some o ∧ R b σ' t) (fun s1 k => ⟨b0, hf, h0 s1 k⟩)
    (fun s1 k i x σ' σ2 t t' hx fl ⟨b, h1, h2⟩ kt hB => by
      obtain ⟨hlt, rfl⟩ := List.getElem?_eq_some_iff.mp hx
      obtain ⟨q, h3, h4, h5⟩ := foldF_drop hlt h1
      exact (hb s1 k xs[i] b q σ' σ2 t t' (List.getElem_mem hlt) h3 h5 fl h2 kt hB).imp (fun σ3 H3 ⟨u, e1, b', e2, f1, r1⟩ => ⟨u, e1, f1, b', h4 b' e2, r1⟩) (fun _ _ q => q) (fun _ _ q => q.elim) (fun _ _ q => q.elim))
    (fun s1 k σ' t fl ⟨b, h1, h2⟩ => by
      rw [List.drop_length] at h1
      cases h1
      exact hd s1 k b σ' t rfl fl h2) hs
theorem do_whileO {υ : Type} {cf : υ → Option Bool} {f : υ → Option υ} {n : Nat} {b0 b1 : υ} {body : List Stmt} (hp : PassesOwn (model X.prog X.w) X.A X.env X.xe) (hf : whileO cf f n b0 = some b1) (R : υ → St → S → Prop) (h0 : R b0 σ s)
    (hc : ∀ (b : υ) (x : Bool) (σ' : St) (t : S), cf b = some x → Fle s.F t.F → R b σ' t → EvT X c σ' t x)
    (hb : ∀ (b b' : υ) (σ' : St) (t t' : S), cf b = some true → f b = some b' → Fle s.F t.F → R b σ' t → Ex t t' → WSs X body (LD D fun σ s => Fle t'.F s.F ∧ R b' σ s) σ' t'.H)
    (hd : ∀ σ' t t', cf b1 = some false → Fle s.F t.F → R b1 σ' t → Ex t t' → WSs X rest D σ' t'.H) : WSs X (.While c body [] pos :: rest) D σ s.H :=
  do_cons (ps_while hp pt_wt pss_ws) (by
    refine ⟨fun m σ' H' => ∃ (t : S) (b : υ), t.H = H' ∧ Fle s.F t.F ∧ whileO cf f m b = some b1 ∧ R b σ' t, ⟨n, s, b0, rfl, Fle.refl _, hf, h0⟩, ?_⟩
    rintro m σ' H' ⟨t, b, rfl, fl, h1, h2⟩
    cases m with
    | zero => cases h1
    | succ m =>
      obtain ⟨x, h3, h4⟩ := bndE h1
      refine hc b x σ' t h3 fl h2 t (Ex.refl _) _ fun t' kt => ?_
      cases x with
      | true =>
        refine iteT ?_
        rw [if_pos rfl] at h4
        obtain ⟨b', h5, h6⟩ := bndE h4
        refine ⟨fun σ3 H3 => ∃ u : S, u.H = H3 ∧ Fle s.F u.F ∧ R b' σ3 u, fun σ3 H3 ⟨u, e1, f1, r1⟩ => ⟨m, Nat.lt_succ_self _, u, b', e1, f1, h6, r1⟩, ?_⟩
        exact (hb b b' σ' t t' h3 h5 fl h2 kt).imp (fun σ3 H3 ⟨u, e1, f1, r1⟩ => ⟨u, e1, (fl.trans kt.f).trans f1, r1⟩) (fun _ _ q => q) (fun _ _ q => q.elim) (fun _ _ q => q.elim)
      | false =>
        refine iteF ?_
        rw [if_neg Bool.false_ne_true] at h4
        cases h4
        exact hd σ' t t' h3 fl h2 kt)
end
end Dy

namespace Dy
open PySem PySem.Spec L2
open PyProof.Rows hiding St
open Enc (rep)
open Flat (toV)
open EncA (repA)

section
variable {P : Program} {w : World} {K : PySem.W.Frag} {mg : Str → Option Value} {base : Heap}
abbrev FunP (K : PySem.W.Frag) (x : Str) (st : Stmt) (f : Addr) (fd : FuncData) : Prop := FunD K x x (defArgs st) (defBody st) (defScope st) [] [] f fd
theorem mk_fn {A ρ : Type} [EncA A] [Enc ρ] {m : A → Option ρ} {x : Str} {st : Stmt} {f : Addr} {fd : FuncData} {N ps : List Str} {k : Nat} (F : FunP K x st f fd) (Sc : FnScope N ps (defScope st))
    (hl : ∀ (F : Hp) (vs : List V) (a : A), repA K F vs a → vs.length = ps.length)
    (body : ∀ (cdv : Value) (A' : Around) (outer : List Env) (s0 : Shared) (H0 : Hp) (E0 : XK), Room k (A'.deeper (envOfC x (defScope st) s0.heap.objs.size f cdv)) → ∀ (s : S) (vs : List V) (a : A) (r : ρ) (Q : VK), repA K s.F vs a → m a = some r →
      (∀ v s', Ex s s' → rep K s'.F v r → Q v s'.H) → WSs (cxOf CX0 P w K mg base N x (defScope st) f cdv A' outer s0 H0 E0).nox (defBody st) (RD Q) (start N vs) s.H) : FnOk P w K mg base CX0 (k + 1) f fd ps (sp K m) :=
  F.ok Sc (fun vs H Q E ⟨s, a, r, _, h, _⟩ => hl s.F vs a h) (fun cdv A' outer s0 H0 vs Q E hr ⟨s, a, r, e, h1, h2, h3⟩ => ⟨_, pss_ws.nox, by
    have := body cdv A' outer s0 H0 E hr s vs a r Q h1 h2 h3
    rw [e] at this
    exact this⟩)
theorem mk_cal {A ρ : Type} [EncA A] [Enc ρ] {m : A → Option ρ} {x : Str} {st : Stmt} {f : Addr} {fd : FuncData} {N ps : List Str} {k : Nat} (F : FunP K x st f fd) (hm : mg x = some (.ref f)) (b : Binds K fd ps []) (Sc : FnScope N ps (defScope st))
    (hl : ∀ (F : Hp) (vs : List V) (a : A), repA K F vs a → vs.length = ps.length)
    (body : ∀ (cdv : Value) (A' : Around) (outer : List Env) (s0 : Shared) (H0 : Hp) (E0 : XK), Room k (A'.deeper (envOfC x (defScope st) s0.heap.objs.size f cdv)) → ∀ (s : S) (vs : List V) (a : A) (r : ρ) (Q : VK), repA K s.F vs a → m a = some r →
      (∀ v s', Ex s s' → rep K s'.F v r → Q v s'.H) → WSs (cxOf CX0 P w K mg base N x (defScope st) f cdv A' outer s0 H0 E0).nox (defBody st) (RD Q) (start N vs) s.H) : Cal P w K mg base CX0 (k + 1) x (sp K m) :=
  ⟨f, fd, ps, F.ok Sc (fun vs H Q E ⟨s, a, r, _, h, _⟩ => hl s.F vs a h) (fun cdv A' outer s0 H0 vs Q E hr ⟨s, a, r, e, h1, h2, h3⟩ => ⟨_, pss_ws.nox, by
    have := body cdv A' outer s0 H0 E hr s vs a r Q h1 h2 h3
    rw [e] at this
    exact this⟩), hm, F.kp, b⟩
theorem mk_calN {A ρ : Type} [EncA A] [Enc ρ] {m : A → Option (List ρ)} {x : Str} {st : Stmt} {f : Addr} {fd : FuncData} {N ps : List Str} {k : Nat} (F : FunP K x st f fd) (hm : mg x = some (.ref f)) (b : Binds K fd ps []) (Sc : FnScope N ps (defScope st))
    (hl : ∀ (F : Hp) (vs : List V) (a : A), repA K F vs a → vs.length = ps.length)
    (body : ∀ (cdv : Value) (A' : Around) (outer : List Env) (s0 : Shared) (H0 : Hp) (E0 : XK), Room k (A'.deeper (envOfC x (defScope st) s0.heap.objs.size f cdv)) → ∀ (s : S) (vs : List V) (a : A) (r : List ρ) (Q : VK), repA K s.F vs a → m a = some r →
      (∀ p s', Ex s s' → s.H p = none → Own K s' p r → Q (.ref p) s'.H) → WSs (cxOf CX0 P w K mg base N x (defScope st) f cdv A' outer s0 H0 E0).nox (defBody st) (RD Q) (start N vs) s.H) : Cal P w K mg base CX0 (k + 1) x (spN K m) :=
  ⟨f, fd, ps, F.ok Sc (fun vs H Q E ⟨s, a, r, _, h, _⟩ => hl s.F vs a h) (fun cdv A' outer s0 H0 vs Q E hr ⟨s, a, r, e, h1, h2, h3⟩ => ⟨_, pss_ws.nox, by
    have := body cdv A' outer s0 H0 E hr s vs a r Q h1 h2 h3
    rw [e] at this
    exact this⟩), hm, F.kp, b⟩
theorem len1 {α : Type} [Enc α] (F : Hp) (vs : List V) (a : α × Unit) (h : repA K F vs a) : vs.length = 1 := by obtain ⟨_, _, rfl, _, rfl⟩ := h; rfl
theorem len2 {α β : Type} [Enc α] [Enc β] (F : Hp) (vs : List V) (a : α × β × Unit) (h : repA K F vs a) : vs.length = 2 := by obtain ⟨_, _, rfl, _, _, _, rfl, _, rfl⟩ := h; rfl
theorem len3 {α β γ : Type} [Enc α] [Enc β] [Enc γ] (F : Hp) (vs : List V) (a : α × β × γ × Unit) (h : repA K F vs a) : vs.length = 3 := by obtain ⟨_, _, rfl, _, _, _, rfl, _, _, _, rfl, _, rfl⟩ := h; rfl
theorem len4 {α β γ δ : Type} [Enc α] [Enc β] [Enc γ] [Enc δ] (F : Hp) (vs : List V) (a : α × β × γ × δ × Unit) (h : repA K F vs a) : vs.length = 4 := by obtain ⟨_, _, rfl, _, _, _, rfl, _, _, _, rfl, _, _, _, rfl, _, rfl⟩ := h; rfl
theorem len5 {α β γ δ ε : Type} [Enc α] [Enc β] [Enc γ] [Enc δ] [Enc ε] (F : Hp) (vs : List V) (a : α × β × γ × δ × ε × Unit) (h : repA K F vs a) : vs.length = 5 := by obtain ⟨_, _, rfl, _, _, _, rfl, _, _, _, rfl, _, _, _, rfl, _, _, _, rfl, _, rfl⟩ := h; rfl
theorem len6 {α β γ δ ε ζ : Type} [Enc α] [Enc β] [Enc γ] [Enc δ] [Enc ε] [Enc ζ] (F : Hp) (vs : List V) (a : α × β × γ × δ × ε × ζ × Unit) (h : repA K F vs a) : vs.length = 6 := by obtain ⟨_, _, rfl, _, _, _, rfl, _, _, _, rfl, _, _, _, rfl, _, _, _, rfl, _, _, _, rfl, _, rfl⟩ := h; rfl
end

class Ty (α : Type) extends Enc α where
  ty : α → String
  is : ∀ {K : PySem.W.Frag} {F H : Hp} {v : V} {x : α}, rep K F v x → Fle F H → TyX K H v (.type (ty x))
theorem sql_ty {K : PySem.W.Frag} {H : Hp} {p : Addr} {vs : List V} (h : SqL K H p vs) : TyX K H (.ref p) (.type "list") := by
  rcases h with (h | ⟨o, h⟩) | ⟨o, its, n, h, hc, _⟩
  · exact .base (.lst h)
  · exact .base (.frz h)
  · exact .kList h hc
theorem sqt_ty {K : PySem.W.Frag} {H : Hp} {p : Addr} {vs : List V} (h : SqT K H p vs) : TyX K H (.ref p) (.type "tuple") := by
  rcases h with (h | ⟨o, h⟩) | ⟨o, its, n, h, hc, _⟩
  · exact .base (.tup h)
  · exact .fTuple h
  · exact .kTuple h hc
instance : Ty Int := ⟨fun _ => "int", fun {K F H v x} h _ => by rw [show v = V.int x from h]; exact .base (.int _)⟩
instance : Ty Bool := ⟨fun _ => "bool", fun {K F H v x} h _ => by rw [show v = V.bl x from h]; exact .base (.bl _)⟩
instance : Ty Str := ⟨fun _ => "str", fun {K F H v x} h _ => by rw [show v = V.str x from h]; exact .base (.str _)⟩
instance {α : Type} [Ty α] : Ty (Option α) := ⟨fun x => match x with | none => "NoneType" | some y => Ty.ty y, fun {K F H v x} h f => by
  cases x with
  | none => rw [show v = V.non from h]; exact .base .non
  | some y => exact Ty.is (α := α) h f⟩
instance {α : Type} [Enc α] : Ty (List α) := ⟨fun _ => "list", fun h f => by
  obtain ⟨p, vs, rfl, h1, _⟩ := h
  exact sql_ty (sql_mono f h1)⟩
instance {α : Type} [Enc α] : Ty (Tu α) := ⟨fun _ => "tuple", fun h f => by
  obtain ⟨p, vs, rfl, h1, _⟩ := h
  exact sqt_ty (sqt_mono f h1)⟩
instance {α β : Type} [Enc α] [Enc β] : Ty (α × β) := ⟨fun _ => "tuple", fun h f => by
  obtain ⟨p, v1, v2, rfl, h1, _⟩ := h
  exact sqt_ty (sqt_mono f h1)⟩
instance {α : Type} [Enc α] : Ty (T1 α) := ⟨fun _ => "tuple", fun h f => by
  obtain ⟨p, v1, rfl, h1, _⟩ := h
  exact sqt_ty (sqt_mono f h1)⟩
instance {α β γ : Type} [Enc α] [Enc β] [Enc γ] : Ty (T3 α β γ) := ⟨fun _ => "tuple", fun h f => by
  obtain ⟨p, v1, v2, v3, rfl, h1, _⟩ := h
  exact sqt_ty (sqt_mono f h1)⟩
instance {α β γ δ : Type} [Enc α] [Enc β] [Enc γ] [Enc δ] : Ty (T4 α β γ δ) := ⟨fun _ => "tuple", fun h f => by
  obtain ⟨p, v1, v2, v3, v4, rfl, h1, _⟩ := h
  exact sqt_ty (sqt_mono f h1)⟩
instance {α β γ δ ε : Type} [Enc α] [Enc β] [Enc γ] [Enc δ] [Enc ε] : Ty (T5 α β γ δ ε) := ⟨fun _ => "tuple", fun h f => by
  obtain ⟨p, v1, v2, v3, v4, v5, rfl, h1, _⟩ := h
  exact sqt_ty (sqt_mono f h1)⟩
section
variable {α β : Type} {X : Cx} {σ : St} {s : S} {a b : Expr} {pos p0 p1 p2 p3 : Pos}
theorem ev_isi [Ty α] {x : α} {n : Str} {T : String} {r : Bool} (hm : X.mg "isinstance" = none) (hn : X.mg n = none) (hv : bootBuiltins n = some (.type T)) (ha : Ev X a σ s x) (h : kitB (Ty.ty x) T = some r)
    (hg : Gl X "isinstance" := by rfl) (hgn : Gl X n := by rfl) (he : starEach [a, .Name n p1] X.env = (false, eval a X.env) :: starEach [.Name n p1] X.env := by rfl) (he2 : starEach [.Name n p1] X.env = (false, eval (.Name n p1) X.env) :: starEach [] X.env := by rfl) (hpl : (backTo pos (starEach [.Name n p1] X.env)).any (·.1) = false := by rfl)
    (hnn : n ≠ "__name__" := by decide) (hnd : (n == ("__debug__" : Str)) = false := by decide) :
    Ev X (.Call (.Name "isinstance" p0) [a, .Name n p1] [] pos) σ s r := fun s1 k Q q =>
  we_of (pe_callB call_isi hg hm (by decide +kernel) (pa_cons pe_we (pa_cons (pe_bltn (v := .ty T) hgn hn hv rfl hnn hnd) pa_nil he2) he) (he := he) (hpl := hpl)) (ha s1 k _ fun v s2 k2 r2 =>
    ⟨v, .ty T, .type (Ty.ty x), .type T, r, rfl, .ty T, Ty.is r2 s2.sub, kit_ty h, q _ s2 k2 rfl⟩)

class EqD (α : Type) extends Enc α where
  toD : α → PyData
  dp : ∀ {K : PySem.W.Frag} {F H : Hp} {v : V} {x : α}, rep K F v x → Fle F H → Dp K H v (toD x)
  eqv : ∀ x y : α, PyData.eqv (toD x) (toD y) = true ↔ x = y
def DpR {α : Type} [EqD α] {K : PySem.W.Frag} {F H : Hp} (f : Fle F H) : ∀ {vs : List V} {xs : List α}, Reps K F vs xs → DpAll K H vs (xs.map EqD.toD)
  | [], [], _ => .nil
  | _ :: _, _ :: _, ⟨h, t⟩ => .cons (EqD.dp h f) (DpR f t)
  | [], _ :: _, h => h.elim
  | _ :: _, [], h => h.elim
theorem eqv_all {α : Type} [EqD α] : ∀ xs ys : List α, PyData.eqvAll (xs.map EqD.toD) (ys.map EqD.toD) = true ↔ xs = ys
  | [], [] => by simp [PyData.eqvAll]
  | [], _ :: _ => by simp [PyData.eqvAll]
  | _ :: _, [] => by simp [PyData.eqvAll]
  | x :: xs, y :: ys => by
    show (PyData.eqv (EqD.toD x) (EqD.toD y) && PyData.eqvAll (xs.map EqD.toD) (ys.map EqD.toD)) = true ↔ _
    rw [Bool.and_eq_true, EqD.eqv, eqv_all xs ys]
    simp
instance : EqD Int := ⟨PyData.int, fun {K F H v x} h _ => by rw [show v = V.int x from h]; exact .int _, fun x y => by show (x == y) = true ↔ _; simp⟩
instance : EqD Bool := ⟨PyData.bool, fun {K F H v x} h _ => by rw [show v = V.bl x from h]; exact .bl _, fun x y => by show (x == y) = true ↔ _; simp⟩
instance : EqD Str := ⟨PyData.str, fun {K F H v x} h _ => by rw [show v = V.str x from h]; exact .str _, fun x y => by show (x == y) = true ↔ _; simp⟩
instance : EqD (Option Int) := ⟨fun x => match x with | none => .none | some i => .int i, fun {K F H v x} h _ => by
  cases x with
  | none => rw [show v = V.non from h]; exact .non
  | some i => rw [show v = V.int i from h]; exact .int _, fun x y => by cases x <;> cases y <;> simp [PyData.eqv]⟩
instance : EqD (Option Str) := ⟨fun x => match x with | none => .none | some i => .str i, fun {K F H v x} h _ => by
  cases x with
  | none => rw [show v = V.non from h]; exact .non
  | some i => rw [show v = V.str i from h]; exact .str _, fun x y => by cases x <;> cases y <;> simp [PyData.eqv]⟩
instance {α : Type} [EqD α] : EqD (List α) := ⟨fun xs => .list (xs.map EqD.toD), fun h f => by
  obtain ⟨p, vs, rfl, h1, h2⟩ := h
  exact .lst (sql_mono f h1) (DpR f h2), fun x y => eqv_all x y⟩
instance {α : Type} [EqD α] : EqD (Tu α) := ⟨fun xs => .tuple (xs.l.map EqD.toD), fun h f => by
  obtain ⟨p, vs, rfl, h1, h2⟩ := h
  exact .tup (sqt_mono f h1) (DpR f h2), fun x y => by
    obtain ⟨x⟩ := x
    obtain ⟨y⟩ := y
    show PyData.eqvAll _ _ = true ↔ _
    rw [eqv_all]; simp⟩
instance {α β : Type} [EqD α] [EqD β] : EqD (α × β) := ⟨fun x => .tuple [EqD.toD x.1, EqD.toD x.2], fun h f => by
  obtain ⟨p, v1, v2, rfl, h0, h1, h2⟩ := h
  exact .tup (sqt_mono f h0) (.cons (EqD.dp h1 f) (.cons (EqD.dp h2 f) .nil)), fun x y => by
    obtain ⟨x1, x2⟩ := x
    obtain ⟨y1, y2⟩ := y
    show (PyData.eqv _ _ && (PyData.eqv _ _ && true)) = true ↔ _
    rw [Bool.and_eq_true, Bool.and_eq_true, EqD.eqv, EqD.eqv]; simp⟩
instance {α β γ : Type} [EqD α] [EqD β] [EqD γ] : EqD (T3 α β γ) := ⟨fun x => .tuple [EqD.toD x.a, EqD.toD x.b, EqD.toD x.c], fun h f => by
  obtain ⟨p, v1, v2, v3, rfl, h0, h1, h2, h3⟩ := h
  exact .tup (sqt_mono f h0) (.cons (EqD.dp h1 f) (.cons (EqD.dp h2 f) (.cons (EqD.dp h3 f) .nil))), fun x y => by
    obtain ⟨x1, x2, x3⟩ := x
    obtain ⟨y1, y2, y3⟩ := y
    show (PyData.eqv _ _ && (PyData.eqv _ _ && (PyData.eqv _ _ && true))) = true ↔ _
    rw [Bool.and_eq_true, Bool.and_eq_true, Bool.and_eq_true, EqD.eqv, EqD.eqv, EqD.eqv]; simp⟩
instance {α : Type} [EqD α] : EqD (T1 α) := ⟨fun x => .tuple [EqD.toD x.a], fun h f => by
  obtain ⟨p, v1, rfl, h0, h1⟩ := h
  exact .tup (sqt_mono f h0) (.cons (EqD.dp h1 f) .nil), fun x y => by
    obtain ⟨x1⟩ := x
    obtain ⟨y1⟩ := y
    show (PyData.eqv _ _ && true) = true ↔ _
    rw [Bool.and_eq_true, EqD.eqv]; simp⟩
def shp {α : Type} [EqD α] (x : α) : Prop := SeqAt.shaped (EqD.toD x) = true
theorem eqv_dec {α : Type} [EqD α] [DecidableEq α] (x y : α) : PyData.eqv (EqD.toD x) (EqD.toD y) = decide (x = y) := by
  rw [Bool.eq_iff_iff, EqD.eqv, decide_eq_true_eq]
theorem repR_d {α : Type} [EqD α] {K : PySem.W.Frag} {v : V} {xs : List α} (h : RepR K s v xs) : Dp K s.H v (EqD.toD xs) := by
  obtain ⟨p, vs, rfl, h1, h2⟩ := h
  exact .lst h1 (DpR s.sub h2)
theorem hu64 {j : Nat} (hr : Room j X.A) : X.A.units + 64 < cLine := by
  have := hr.un
  omega
theorem eb_eqD [EqD α] [DecidableEq α] {x y : α} {j : Nat} (hr : Room j X.A) (ha : Ev X a σ s x) (hb : Ev X b σ s y) (h1 : shp x) (h2 : shp y) : EvB X (.Compare a [.Eq] [b] pos) σ s (decide (x = y)) :=
  eb_cmp (op_eqD (hu64 hr)) ha hb (fun v u s2 hv hu Q q => ⟨_, _, EqD.dp hv s2.sub, EqD.dp hu s2.sub, h1, h2, by rw [eqv_dec]; exact q⟩) (nomark _)
theorem eb_neD [EqD α] [DecidableEq α] {x y : α} {j : Nat} (hr : Room j X.A) (ha : Ev X a σ s x) (hb : Ev X b σ s y) (h1 : shp x) (h2 : shp y) : EvB X (.Compare a [.NotEq] [b] pos) σ s (!decide (x = y)) :=
  eb_cmp (op_neD (hu64 hr)) ha hb (fun v u s2 hv hu Q q => ⟨_, _, EqD.dp hv s2.sub, EqD.dp hu s2.sub, h1, h2, by rw [eqv_dec]; exact q⟩) (nomark _)
theorem eb_eqL [EqD α] [DecidableEq α] {x y : List α} {j : Nat} (hr : Room j X.A) (ha : EvR X a σ s x) (hb : EvR X b σ s y) (h1 : shp x) (h2 : shp y) : EvB X (.Compare a [.Eq] [b] pos) σ s (decide (x = y)) :=
  eb_cmpRR (op_eqD (hu64 hr)) ha hb (fun v u s2 hv hu Q q => ⟨_, _, repR_d hv, repR_d hu, h1, h2, by rw [eqv_dec]; exact q⟩) (nomark _)
theorem eb_neL [EqD α] [DecidableEq α] {x y : List α} {j : Nat} (hr : Room j X.A) (ha : EvR X a σ s x) (hb : EvR X b σ s y) (h1 : shp x) (h2 : shp y) : EvB X (.Compare a [.NotEq] [b] pos) σ s (!decide (x = y)) :=
  eb_cmpRR (op_neD (hu64 hr)) ha hb (fun v u s2 hv hu Q q => ⟨_, _, repR_d hv, repR_d hu, h1, h2, by rw [eqv_dec]; exact q⟩) (nomark _)
end

class Shp (α : Type) (n : outParam Nat) extends EqD α where
  ok : ∀ x : α, PyData.canLay0 (EqD.toD x) = true ∧ PyData.depth (EqD.toD x) ≤ n
theorem shp_all {α : Type} {n : Nat} [Shp α n] : ∀ xs : List α, PyData.canLayAll0 (xs.map EqD.toD) = true ∧ PyData.depthAll (xs.map EqD.toD) ≤ n
  | [] => ⟨by simp [PyData.canLayAll0], by simp [PyData.depthAll]⟩
  | x :: xs => by
    obtain ⟨h1, h2⟩ := shp_all xs
    obtain ⟨h3, h4⟩ := Shp.ok x
    refine ⟨?_, ?_⟩
    · show PyData.canLayAll0 (EqD.toD x :: xs.map EqD.toD) = true
      unfold PyData.canLayAll0
      rw [h3, h1]; rfl
    · show PyData.depthAll (EqD.toD x :: xs.map EqD.toD) ≤ n
      unfold PyData.depthAll
      omega
instance : Shp Int 0 := ⟨fun x => ⟨by show PyData.canLay0 (.int x) = true; unfold PyData.canLay0; rfl, by show PyData.depth (.int x) ≤ 0; unfold PyData.depth; omega⟩⟩
instance : Shp Bool 0 := ⟨fun x => ⟨by show PyData.canLay0 (.bool x) = true; unfold PyData.canLay0; rfl, by show PyData.depth (.bool x) ≤ 0; unfold PyData.depth; omega⟩⟩
instance : Shp (Option Int) 0 := ⟨fun x => by
  cases x with
  | none => exact ⟨by show PyData.canLay0 .none = true; unfold PyData.canLay0; rfl, by show PyData.depth .none ≤ 0; unfold PyData.depth; omega⟩
  | some i => exact ⟨by show PyData.canLay0 (.int i) = true; unfold PyData.canLay0; rfl, by show PyData.depth (.int i) ≤ 0; unfold PyData.depth; omega⟩⟩
instance {α : Type} {n : Nat} [Shp α n] : Shp (List α) (n + 1) := ⟨fun x => by
  obtain ⟨h1, h2⟩ := shp_all x
  refine ⟨?_, ?_⟩
  · show PyData.canLay0 (.list (x.map EqD.toD)) = true
    unfold PyData.canLay0; exact h1
  · show PyData.depth (.list (x.map EqD.toD)) ≤ n + 1
    unfold PyData.depth; omega⟩
instance {α : Type} {n : Nat} [Shp α n] : Shp (Tu α) (n + 1) := ⟨fun x => by
  obtain ⟨h1, h2⟩ := shp_all x.l
  refine ⟨?_, ?_⟩
  · show PyData.canLay0 (.tuple (x.l.map EqD.toD)) = true
    unfold PyData.canLay0; exact h1
  · show PyData.depth (.tuple (x.l.map EqD.toD)) ≤ n + 1
    unfold PyData.depth; omega⟩
instance {α β : Type} {n m : Nat} [Shp α n] [Shp β m] : Shp (α × β) (n + m + 1) := ⟨fun x => by
  obtain ⟨h1, h2⟩ := Shp.ok x.1
  obtain ⟨h3, h4⟩ := Shp.ok x.2
  refine ⟨?_, ?_⟩
  · show PyData.canLay0 (.tuple [EqD.toD x.1, EqD.toD x.2]) = true
    simp [PyData.canLay0, PyData.canLayAll0, h1, h3]
  · show PyData.depth (.tuple [EqD.toD x.1, EqD.toD x.2]) ≤ n + m + 1
    simp [PyData.depth, PyData.depthAll]
    omega⟩
instance {α : Type} {n : Nat} [Shp α n] : Shp (T1 α) (n + 1) := ⟨fun x => by
  obtain ⟨h1, h2⟩ := Shp.ok x.a
  refine ⟨?_, ?_⟩
  · show PyData.canLay0 (.tuple [EqD.toD x.a]) = true
    simp [PyData.canLay0, PyData.canLayAll0, h1]
  · show PyData.depth (.tuple [EqD.toD x.a]) ≤ n + 1
    simp [PyData.depth, PyData.depthAll]
    omega⟩
theorem shp_of {α : Type} {n : Nat} [Shp α n] (x : α) (h : n ≤ 64 := by decide) : shp x := by
  obtain ⟨h1, h2⟩ := Shp.ok x
  unfold shp SeqAt.shaped
  rw [h1, decide_eq_true (Nat.le_trans h2 h)]; rfl

def spLaw (K : PySem.W.Frag) : Sp := fun vs H Q _ => ∃ (a : Addr) (ns : List Int), vs = [.ref a] ∧ SqL K H a (ns.map V.int) ∧ ns.length ≤ 63 ∧ ∀ H', Q (.bl true) H'
theorem law_of {P : Program} {w : World} {K : PySem.W.Frag} {mg : Str → Option Value} {base : Heap} {CX : CXT} {k : Nat} {f : Addr} {fd : FuncData} {ps : List Str} {m : List Int × Unit → Option Bool} (F : FnOk P w K mg base CX k f fd ps (sp K m)) (h : ∀ ns : List Int, ns.length ≤ 63 → m (ns, ()) = some true) : FnOk P w K mg base CX k f fd ps (spLaw K) :=
  F.imp fun vs H Q E ⟨a, ns, e, hs, hl, q⟩ => by
    subst e
    exact ⟨⟨H, H, fun _ _ h => h⟩, (ns, ()), true, rfl, ⟨.ref a, [], rfl, ⟨a, ns.map V.int, rfl, hs, Reps.of_flat ns⟩, rfl⟩, h ns hl, fun v s' _ r => by rw [show v = V.bl true from r]; exact q _⟩
end Dy

namespace Dy
open PySem PySem.Spec L2
open PyProof.Rows hiding St
open Enc (rep)
open Flat (toV)
open EncA (repA)

def strI (x : Int) : Str := toString x
noncomputable def sortI (xs : List Int) : List Int := xs.mergeSort (fun x y => decide (x ≤ y))
def Fl.go {β ρ γ : Type} (o : Fl β ρ) (k : β → γ) (e : ρ → γ) : γ := match o with
  | .nx b => k b
  | .rt r => e r
@[irreducible] def fuel : Nat := 1000000
theorem rng_mem {a b x : Int} (h : x ∈ rng a b) : a ≤ x ∧ x < b := by
  obtain ⟨i, hi⟩ := List.mem_iff_getElem?.mp h
  obtain ⟨h1, h2⟩ := rng_get hi
  omega
theorem frzE {s0 s s' : S} {p : Addr} (E : Ex s0 s) (n : s0.H p = none) (h1 : s'.H = s.H) (h2 : Fle s.F s'.F) (h3 : ∀ q, q ≠ p → s'.F q = s.F q) : Ex s0 s' :=
  ⟨E.f.trans h2, fun a o h => by rw [h1]; exact E.h a o h, fun a o h m => by rw [h3 a (ne_of_none h n)]; exact E.n a o h m⟩
theorem ownFrz {α : Type} [Enc α] {K : PySem.W.Frag} {s s' : S} {p q : Addr} {xs : List α} (o : Own K s q xs) (hne : q ≠ p) (h1 : s'.H = s.H) (h2 : Fle s.F s'.F) (h3 : ∀ q, q ≠ p → s'.F q = s.F q) : Own K s' q xs := by
  obtain ⟨hn, vs, hp, r⟩ := o
  exact ⟨by rw [h3 q hne]; exact hn, vs, by rw [h1]; exact hp, r.mono h2⟩
section
variable {α β γ δ ε : Type} [Enc α] [Enc β] [Enc γ] [Enc δ] [Enc ε] {X : Cx} {σ : St} {s t : S} {e a b c tg iter : Expr} {es : List Expr} {pos p0 p1 p2 p3 : Pos} {D : Ends} {rest A B body : List Stmt}
theorem ec_andO {x r : Bool} (h : EvB X a σ s x) (h2 : x = true → EvC X (.BoolOp .And (b :: es) pos) σ s r) (h3 : x = false → r = false) : EvC X (.BoolOp .And (a :: b :: es) pos) σ s r := by
  cases x with
  | true => exact (ec_and h h2 : EvC X _ σ s (true && r))
  | false =>
    have := ec_and (y := false) (es := es) (b := b) (pos := pos) h (fun z => Bool.noConfusion z)
    rw [h3 rfl]
    exact this
theorem ec_orO {x r : Bool} (h : EvB X a σ s x) (h2 : x = false → EvC X (.BoolOp .Or (b :: es) pos) σ s r) (h3 : x = true → r = true) : EvC X (.BoolOp .Or (a :: b :: es) pos) σ s r := by
  cases x with
  | false => exact (ec_or h h2 : EvC X _ σ s (false || r))
  | true =>
    have := ec_or (y := true) (es := es) (b := b) (pos := pos) h (fun z => Bool.noConfusion z)
    rw [h3 rfl]
    exact this
theorem et_tru {xs : List α} (h : EvR X e σ s xs) (he : ∀ whole, isTrue e X.env whole = (do let v ← whole; standAt e.pos; holding [v] (truthy v)) := by intro _; rfl) : EvT X e σ s (!xs.isEmpty) := fun s1 k Q q =>
  wt_of (pt_truth pe_we he) (h s1 k _ fun v s2 k2 r => by
    obtain ⟨p, vs, rfl, h1, h2⟩ := r
    refine ⟨_, .inl ⟨vs, h1, ?_⟩, q s2 k2⟩
    have := h2.len
    cases vs <;> cases xs <;> simp at this ⊢)
theorem isi_optT {τ : Type} [Ty τ] (x : Option τ) {T : String} (h1 : ∀ y : τ, kitB (Ty.ty y) T = some true) (h2 : kitB "NoneType" T = some false) : kitB (Ty.ty x) T = some x.isSome := by
  cases x with
  | none => exact h2
  | some y => exact h1 y
theorem isi_optF {τ : Type} [Ty τ] (x : Option τ) {T : String} (h1 : ∀ y : τ, kitB (Ty.ty y) T = some false) (h2 : kitB "NoneType" T = some false) : kitB (Ty.ty x) T = some false := by
  cases x with
  | none => exact h2
  | some y => exact h1 y
theorem en_rev {xs : List α} {k q1 q2 q3} (ha : EvR X e σ s xs) : EvN X (.Subscript e (.Slice none none (some (.UnaryOp .USub (.Constant (.int 1) k q1) q2)) q3) pos) σ s xs.reverse := fun s1 k1 Q q =>
  we_of (pe_revL pe_we) (ha s1 k1 _ fun v s2 k2 r2 => by
    obtain ⟨p, vs, rfl, h1, h2⟩ := r2
    exact ⟨p, vs, rfl, h1, fun l hl => q l (s2.newO l _ hl) (k2.trans (Ex.newO hl)) (fr_back k2 hl) (own_new hl h2.rev)⟩)
theorem do_drop {x : α} (h : Ev X e σ s x) (k : ∀ s1, Ex s s1 → WSs X rest D σ s1.H) (hs : swapsWith e none pos.line X.env = pure false := by rfl) : WSs X (.Expr e pos :: rest) D σ s.H :=
  do_cons (ps_expr pe_we hs) (h s (Ex.refl _) _ fun v s1 k1 r => k s1 k1)
theorem do_unp2 (i j : Nat) {x : α × β} (h : Ev X e σ s x) (k : ∀ v w s1, Ex s s1 → rep X.K s1.F v x.1 → rep X.K s1.F w x.2 → WSs X rest D ((σ.set i (some v)).set j (some w)) s1.H)
    (hg : PG X tg (gTup X.K 2 (gCons (gName i) (gCons (gName j) gNil)))) (hs : swapsWithSole [tg] e pos.line X.env = pure false := by rfl) (hw : swappedStores [tg] e X.env = pure none := by rfl)
    (h1 : (assignEach [tg] X.env).map (·.2) = [assign tg X.env] := by rfl) : WSs X (.Assign [tg] e pos :: rest) D σ s.H :=
  do_cons (ps_asg pe_we hg hs hw h1) (h s (Ex.refl _) _ fun v s1 k1 r => by
    obtain ⟨p, v1, v2, rfl, h0, h1, h2⟩ := r
    exact ⟨p, _, rfl, sqt_mono s1.sub h0, rfl, v1, _, rfl, v2, _, rfl, rfl, k v1 v2 s1 k1 h1 h2⟩)
theorem do_unp3 (i j l : Nat) {x : T3 α β γ} (h : Ev X e σ s x) (k : ∀ v w u s1, Ex s s1 → rep X.K s1.F v x.a → rep X.K s1.F w x.b → rep X.K s1.F u x.c → WSs X rest D (((σ.set i (some v)).set j (some w)).set l (some u)) s1.H)
    (hg : PG X tg (gTup X.K 3 (gCons (gName i) (gCons (gName j) (gCons (gName l) gNil))))) (hs : swapsWithSole [tg] e pos.line X.env = pure false := by rfl) (hw : swappedStores [tg] e X.env = pure none := by rfl)
    (h1 : (assignEach [tg] X.env).map (·.2) = [assign tg X.env] := by rfl) : WSs X (.Assign [tg] e pos :: rest) D σ s.H :=
  do_cons (ps_asg pe_we hg hs hw h1) (h s (Ex.refl _) _ fun v s1 k1 r => by
    obtain ⟨p, v1, v2, v3, rfl, h0, h1, h2, h3⟩ := r
    exact ⟨p, _, rfl, sqt_mono s1.sub h0, rfl, v1, _, rfl, v2, _, rfl, v3, _, rfl, rfl, k v1 v2 v3 s1 k1 h1 h2 h3⟩)
theorem do_whileF {υ ρ : Type} {cf : υ → Option Bool} {f : υ → Option (Fl υ ρ)} {n : Nat} {b0 : υ} {o : Fl υ ρ} (hp : PassesOwn (model X.prog X.w) X.A X.env X.xe) (hf : whileF cf f n b0 = some o) (R : υ → St → S → Prop) (h0 : R b0 σ s)
    (hc : ∀ (b : υ) (x : Bool) (σ' : St) (t : S), cf b = some x → Fle s.F t.F → R b σ' t → EvT X c σ' t x)
    (hb : ∀ (b : υ) (q : Fl υ ρ) (σ' : St) (t t' : S), cf b = some true → f b = some q → (∀ r, q = .rt r → o = .rt r) → Fle s.F t.F → R b σ' t → Ex t t' → WSs X body (LD D fun σ s => ∃ b', q = .nx b' ∧ Fle t'.F s.F ∧ R b' σ s) σ' t'.H)
    (hd : ∀ b1 σ' t t', o = .nx b1 → cf b1 = some false → Fle s.F t.F → R b1 σ' t → Ex t t' → WSs X rest D σ' t'.H) : WSs X (.While c body [] pos :: rest) D σ s.H :=
  do_cons (ps_while hp pt_wt pss_ws) (by
    refine ⟨fun m σ' H' => ∃ (t : S) (b : υ), t.H = H' ∧ Fle s.F t.F ∧ whileF cf f m b = some o ∧ R b σ' t, ⟨n, s, b0, rfl, Fle.refl _, hf, h0⟩, ?_⟩
    rintro m σ' H' ⟨t, b, rfl, fl, h1, h2⟩
    cases m with
    | zero => cases h1
    | succ m =>
      obtain ⟨x, h3, h4⟩ := bndE h1
      refine hc b x σ' t h3 fl h2 t (Ex.refl _) _ fun t' kt => ?_
      cases x with
      | true =>
        refine iteT ?_
        rw [if_pos rfl] at h4
        obtain ⟨q, h5, h6⟩ := bndE h4
        refine ⟨fun σ3 H3 => ∃ b', q = .nx b' ∧ ∃ u : S, u.H = H3 ∧ Fle s.F u.F ∧ R b' σ3 u, fun σ3 H3 ⟨b', e0, u, e1, f1, r1⟩ => ⟨m, Nat.lt_succ_self _, u, b', e1, f1, by subst e0; exact h6, r1⟩, ?_⟩
        exact (hb b q σ' t t' h3 h5 (fun r e0 => by subst e0; exact (Option.some.inj h6).symm) fl h2 kt).imp (fun σ3 H3 ⟨u, e1, b', e2, f1, r1⟩ => ⟨b', e2, u, e1, (fl.trans kt.f).trans f1, r1⟩) (fun _ _ q => q) (fun _ _ q => q.elim) (fun _ _ q => q.elim)
      | false =>
        refine iteF ?_
        rw [if_neg Bool.false_ne_true] at h4
        cases h4
        exact hd b σ' t t' rfl h3 fl h2 kt)
end
end Dy

namespace Dy
open PySem PySem.Spec L2
open PyProof.Rows hiding St

def Ok {α : Type} (m : Option α) (P : α → Prop) : Prop := ∃ r, m = some r ∧ P r
section
variable {α β γ ρ : Type}
theorem Ok.imp {m : Option α} {P Q : α → Prop} (h : Ok m P) (k : ∀ r, P r → Q r) : Ok m Q := let ⟨r, e, p⟩ := h; ⟨r, e, k r p⟩
theorem Ok.eq {m : Option α} {x : α} (h : Ok m (· = x)) : m = some x := by obtain ⟨r, e, rfl⟩ := h; exact e
theorem ok_eq {m : Option α} {x : α} {P : α → Prop} (h : m = some x) (p : P x) : Ok m P := ⟨x, h, p⟩
theorem ok_some {x : α} {P : α → Prop} (p : P x) : Ok (some x) P := ⟨x, rfl, p⟩
theorem ok_bnd {m : Option α} {f : α → Option β} {P : α → Prop} {Q : β → Prop} (h : Ok m P) (k : ∀ r, P r → Ok (f r) Q) : Ok (bnd m f) Q := by
  obtain ⟨r, e, p⟩ := h
  subst e
  exact k r p
theorem ok_chk {c : Prop} {m : Option α} {Q : α → Prop} (h : c) (k : Ok m Q) : Ok (chk c m) Q := by rw [chk_pos h]; exact k
theorem ok_lt {x : α} {f : α → Option β} {Q : β → Prop} (k : ∀ y, y = x → Ok (f y) Q) : Ok (lt x f) Q := k x rfl
theorem ok_ite {b : Bool} {m k : Option α} {Q : α → Prop} (h1 : b = true → Ok m Q) (h2 : b = false → Ok k Q) : Ok (if b = true then m else k) Q := by
  cases b with
  | true => exact h1 rfl
  | false => exact h2 rfl
theorem ok_andO {a : Bool} {m : Option Bool} {Q : Bool → Prop} (h1 : a = true → Ok m Q) (h2 : a = false → Q false) : Ok (andO a m) Q := by
  cases a with
  | true => exact h1 rfl
  | false => exact ⟨false, rfl, h2 rfl⟩
theorem ok_orO {a : Bool} {m : Option Bool} {Q : Bool → Prop} (h1 : a = false → Ok m Q) (h2 : a = true → Q true) : Ok (orO a m) Q := by
  cases a with
  | false => exact h1 rfl
  | true => exact ⟨true, rfl, h2 rfl⟩
theorem ok_foldO {f : β → α → Option β} (I : Nat → β → Prop) : ∀ {xs : List α} {b : β} {Q : β → Prop}, I 0 b → (∀ i b x, xs[i]? = some x → I i b → Ok (f b x) (I (i + 1))) → (∀ b, I xs.length b → Q b) → Ok (foldO f b xs) Q := by
  have key : ∀ (xs : List α) (b : β) (k : Nat), I k b → (∀ i b x, xs[i]? = some x → I (k + i) b → Ok (f b x) (I (k + i + 1))) → Ok (foldO f b xs) (I (k + xs.length)) := by
    intro xs
    induction xs with
    | nil => intro b k h _; exact ⟨b, rfl, h⟩
    | cons x r ih =>
      intro b k h hs
      refine ok_bnd (hs 0 b x rfl h) fun b' h' => ?_
      have := ih b' (k + 1) h' (fun i b y hy hI => by
        have := hs (i + 1) b y (by simpa using hy) (by rw [show k + (i + 1) = k + 1 + i by omega]; exact hI)
        rw [show k + (i + 1) + 1 = k + 1 + i + 1 by omega] at this
        exact this)
      rw [List.length_cons, show k + (r.length + 1) = k + 1 + r.length by omega]
      exact this
  intro xs b Q h0 hs hd
  have := key xs b 0 h0 (fun i b x hx hI => by
    have := hs i b x hx (by rw [Nat.zero_add] at hI; exact hI)
    rw [Nat.zero_add]; exact this)
  rw [Nat.zero_add] at this
  exact this.imp hd
theorem ok_foldF {f : β → α → Option (Fl β ρ)} (I : Nat → β → Prop) (Rr : ρ → Prop) : ∀ {xs : List α} {b : β} {Q : Fl β ρ → Prop}, I 0 b → (∀ i b x, xs[i]? = some x → I i b → Ok (f b x) (fun o => match o with | .nx b' => I (i + 1) b' | .rt r => Rr r)) →
    (∀ b, I xs.length b → Q (.nx b)) → (∀ r, Rr r → Q (.rt r)) → Ok (foldF f b xs) Q := by
  have key : ∀ (xs : List α) (b : β) (k : Nat), I k b → (∀ i b x, xs[i]? = some x → I (k + i) b → Ok (f b x) (fun o => match o with | .nx b' => I (k + i + 1) b' | .rt r => Rr r)) → Ok (foldF f b xs) (fun o => match o with | .nx b' => I (k + xs.length) b' | .rt r => Rr r) := by
    intro xs
    induction xs with
    | nil => intro b k h _; exact ⟨.nx b, rfl, h⟩
    | cons x r ih =>
      intro b k h hs
      refine ok_bnd (hs 0 b x rfl h) fun o h' => ?_
      cases o with
      | rt r => exact ⟨.rt r, rfl, h'⟩
      | nx b' =>
        have := ih b' (k + 1) h' (fun i b y hy hI => by
          have := hs (i + 1) b y (by simpa using hy) (by rw [show k + (i + 1) = k + 1 + i by omega]; exact hI)
          rw [show k + (i + 1) + 1 = k + 1 + i + 1 by omega] at this
          exact this)
        rw [List.length_cons, show k + (r.length + 1) = k + 1 + r.length by omega]
        exact this
  intro xs b Q h0 hs hd hr
  have := key xs b 0 h0 (fun i b x hx hI => by
    have := hs i b x hx (by rw [Nat.zero_add] at hI; exact hI)
    rw [Nat.zero_add]; exact this)
  rw [Nat.zero_add] at this
  refine this.imp fun o h => ?_
  cases o with
  | nx b => exact hd b h
  | rt r => exact hr r h
theorem ok_go {o : Fl β ρ} {k : β → Option γ} {e : ρ → Option γ} {Q : γ → Prop} (h1 : ∀ b, o = .nx b → Ok (k b) Q) (h2 : ∀ r, o = .rt r → Ok (e r) Q) : Ok (o.go k e) Q := by
  cases o with
  | nx b => exact h1 b rfl
  | rt r => exact h2 r rfl
theorem ok_compO {t : α → Option Bool} {f : α → Option β} {P : α → β → Prop} {T : α → Bool} : ∀ {xs : List α}, (∀ x ∈ xs, Ok (t x) (· = T x)) → (∀ x ∈ xs, T x = true → Ok (f x) (P x)) → Ok (compO t f xs) (fun ys => ys.length = (xs.filter T).length ∧ ∀ (i : Nat) (y : β), ys[i]? = some y → ∃ x, (xs.filter T)[i]? = some x ∧ P x y)
  | [], _, _ => ⟨[], rfl, rfl, fun i y h => by simp at h⟩
  | x :: r, h1, h2 => by
    unfold compO
    refine ok_bnd (h1 x List.mem_cons_self) fun b hb => ?_
    subst hb
    have ih := ok_compO (xs := r) (fun z hz => h1 z (List.mem_cons_of_mem _ hz)) (fun z hz => h2 z (List.mem_cons_of_mem _ hz))
    refine ok_ite (fun hb => ?_) (fun hb => ?_)
    · refine ok_bnd (h2 x List.mem_cons_self hb) fun y hy => ?_
      refine ok_bnd ih fun ys ⟨e1, e2⟩ => ok_some ?_
      rw [List.filter_cons, if_pos hb]
      refine ⟨by simp [e1], fun i z hz => ?_⟩
      cases i with
      | zero => simp at hz; subst hz; exact ⟨x, rfl, hy⟩
      | succ i => exact e2 i z (by simpa using hz)
    · rw [List.filter_cons, if_neg (by rw [hb]; exact Bool.false_ne_true)]
      exact ih
theorem ok_mapO {f : α → Option β} {P : α → β → Prop} {xs : List α} (h : ∀ x ∈ xs, Ok (f x) (P x)) : Ok (mapO f xs) (fun ys => ys.length = xs.length ∧ ∀ (i : Nat) (y : β), ys[i]? = some y → ∃ x, xs[i]? = some x ∧ P x y) := by
  have := ok_compO (t := fun _ => some true) (T := fun _ => true) (xs := xs) (fun x _ => ok_some rfl) (fun x hx _ => h x hx)
  rw [show xs.filter (fun _ => true) = xs from List.filter_eq_self.mpr (fun _ _ => rfl)] at this
  exact this
theorem mapO_eq {f : α → Option β} {g : α → β} : ∀ {xs : List α}, (∀ x ∈ xs, f x = some (g x)) → mapO f xs = some (xs.map g)
  | [], _ => rfl
  | x :: r, h => by
    have ih := mapO_eq (xs := r) (fun z hz => h z (List.mem_cons_of_mem _ hz))
    unfold mapO at ih ⊢
    unfold compO
    rw [Option.bind_some, if_pos rfl, h x List.mem_cons_self, Option.bind_some, ih]
    rfl
theorem compO_eq {t : α → Option Bool} {T : α → Bool} {f : α → Option β} {g : α → β} : ∀ {xs : List α}, (∀ x ∈ xs, t x = some (T x)) → (∀ x ∈ xs, T x = true → f x = some (g x)) → compO t f xs = some ((xs.filter T).map g)
  | [], _, _ => rfl
  | x :: r, h1, h2 => by
    have ih := compO_eq (xs := r) (fun z hz => h1 z (List.mem_cons_of_mem _ hz)) (fun z hz => h2 z (List.mem_cons_of_mem _ hz))
    unfold compO
    rw [h1 x List.mem_cons_self, Option.bind_some, List.filter_cons]
    cases hT : T x with
    | true => rw [if_pos rfl, if_pos rfl, h2 x List.mem_cons_self hT, Option.bind_some, ih]; rfl
    | false => rw [if_neg Bool.false_ne_true, if_neg Bool.false_ne_true, ih]
theorem foldO_eq {f : β → α → Option β} {g : β → α → β} : ∀ {xs : List α} {b : β}, (∀ b, ∀ x ∈ xs, f b x = some (g b x)) → foldO f b xs = some (xs.foldl g b)
  | [], _, _ => rfl
  | x :: r, b, h => by
    unfold foldO
    rw [h b x List.mem_cons_self, Option.bind_some, foldO_eq (xs := r) (fun b z hz => h b z (List.mem_cons_of_mem _ hz))]
    rfl
theorem ok_whileO {c : β → Option Bool} {f : β → Option β} (I : β → Prop) (μ : β → Nat) {Q : β → Prop} (hc : ∀ b, I b → Ok (c b) (fun t => if t = true then Ok (f b) (fun b' => I b' ∧ μ b' < μ b) else Q b)) : ∀ (n : Nat) (b : β), I b → μ b < n → Ok (whileO c f n b) Q
  | 0, b, _, h => absurd h (Nat.not_lt_zero _)
  | n + 1, b, hI, h => by
    unfold whileO
    refine ok_bnd (hc b hI) fun t ht => ?_
    cases t with
    | true =>
      rw [if_pos rfl] at ht ⊢
      exact ok_bnd ht fun b' ⟨h1, h2⟩ => ok_whileO I μ hc n b' h1 (by omega)
    | false =>
      rw [if_neg Bool.false_ne_true] at ht ⊢
      exact ok_some ht
theorem ok_whileF {c : β → Option Bool} {f : β → Option (Fl β ρ)} (I : β → Prop) (μ : β → Nat) {Q : Fl β ρ → Prop} (hc : ∀ b, I b → Ok (c b) (fun t => if t = true then Ok (f b) (fun o => match o with | .nx b' => I b' ∧ μ b' < μ b | .rt r => Q (.rt r)) else Q (.nx b))) : ∀ (n : Nat) (b : β), I b → μ b < n → Ok (whileF c f n b) Q
  | 0, b, _, h => absurd h (Nat.not_lt_zero _)
  | n + 1, b, hI, h => by
    unfold whileF
    refine ok_bnd (hc b hI) fun t ht => ?_
    cases t with
    | true =>
      rw [if_pos rfl] at ht ⊢
      refine ok_bnd ht fun o ho => ?_
      cases o with
      | nx b' => exact ok_whileF I μ hc n b' ho.1 (by have := ho.2; omega)
      | rt r => exact ok_some ho
    | false =>
      rw [if_neg Bool.false_ne_true] at ht ⊢
      exact ok_some ht
theorem fuel_eq : fuel = 1000000 := by unfold fuel; rfl
theorem mul_l {x y : Int} (h1 : -1000000000000000000 < x) (h2 : x < 1000000000000000000) : MulOk x y := .inl (.inl ⟨by omega, by omega⟩)
theorem mul_r {x y : Int} (h1 : -1000000000000000000 < y) (h2 : y < 1000000000000000000) : MulOk x y := .inl (.inr ⟨by omega, by omega⟩)
set_option exponentiation.threshold 10000 in
theorem div_small {y : Int} (h1 : 0 < y) (h2 : y < 1000000000000000000) : DivOk y := ⟨h1, PySem.Flt.log2_lt_of (by decide) (show y.natAbs < 2 ^ 9000 from Nat.lt_of_lt_of_le (show y.natAbs < 2 ^ 64 by omega) (Nat.pow_le_pow_right (by decide) (by decide)))⟩
theorem szl : sizeLine = 16777216 := rfl
theorem atI_get {xs : List α} {i : Int} (h0 : 0 ≤ i) (h1 : i < xs.length) : atI xs i = xs[i.toNat]? := by
  unfold atI ixN
  rw [if_pos h0, if_pos h1]; rfl
theorem ok_atI {xs : List α} {i : Int} {Q : α → Prop} (h0 : 0 ≤ i) (h1 : i < xs.length) (h : ∀ x, xs[i.toNat]? = some x → Q x) : Ok (atI xs i) Q := by
  rw [atI_get h0 h1]
  have hl : i.toNat < xs.length := by omega
  exact ⟨xs[i.toNat], List.getElem?_eq_getElem hl, h _ (List.getElem?_eq_getElem hl)⟩
theorem cut_len_le (xs : List α) (lo hi : Option Int) : (cut xs lo hi).length ≤ xs.length := by
  unfold cut
  rw [List.length_take, List.length_drop]
  omega
theorem cut_hi (xs : List α) (n : Nat) : cut xs none (some (n : Int)) = xs.take n := by
  unfold cut
  rw [HT.sIx_none, show HT.sIx xs.length xs.length (some (n : Int)) = min n xs.length from HT.sIx_nat xs.length xs.length n]
  simp only [List.drop_zero, Nat.sub_zero]
  by_cases h : n ≤ xs.length
  · rw [Nat.min_eq_left h]
  · rw [Nat.min_eq_right (by omega), List.take_of_length_le (Nat.le_refl _), List.take_of_length_le (by omega)]
theorem rng_len_nn {n : Int} (h : 0 ≤ n) : (rng 0 n).length = n.toNat := by rw [rng_len]; congr 1; omega
theorem rng_at {a b : Int} {i : Nat} {x : Int} (h : (rng a b)[i]? = some x) : x = a + (i : Int) ∧ a + (i : Int) < b := by
  obtain ⟨h1, h2⟩ := rng_get h
  omega
end
theorem chars_len (x : Str) : (chars x).length = x.length := by
  unfold chars
  rw [List.length_map, Array.length_toList]; rfl
theorem join_len0 (ys : List Str) : (Txt.join ("" : Str) ys).length = (ys.map (·.length)).sum := by
  have h : ∀ z : Str, z.length = (TL.tl z).length := fun z => by show z.cps.size = z.cps.toList.length; rw [Array.length_toList]
  have key : ∀ ps : List (List Nat), (TL.joinL [] ps).length = (ps.map List.length).sum := by
    intro ps
    induction ps with
    | nil => rfl
    | cons p r ih =>
      cases r with
      | nil => simp [TL.joinL]
      | cons q r =>
        have e : TL.joinL [] (p :: q :: r) = p ++ ([] ++ TL.joinL [] (q :: r)) := by simp [TL.joinL]
        rw [e, List.nil_append, List.length_append, ih]; rfl
  rw [h, TL.join_eq, TL.tl_join, show TL.tl ("" : Str) = [] from rfl, key, List.map_map]
  exact congrArg List.sum (List.map_congr_left fun z _ => (h z).symm)
theorem sum_ones {ys : List Str} (h : ∀ y ∈ ys, y.length = 1) : (ys.map (·.length)).sum = ys.length := by
  induction ys with
  | nil => rfl
  | cons y r ih =>
    rw [List.map_cons, List.sum_cons, ih fun z hz => h z (List.mem_cons_of_mem _ hz), h y List.mem_cons_self, List.length_cons]
    omega
theorem foldF_any {α ρ : Type} {p : α → Bool} {f : Unit → α → Option (Fl Unit ρ)} {r : ρ} (h : ∀ x, f () x = if p x = true then some (.rt r) else some (.nx ())) : ∀ xs : List α, foldF f () xs = some (if xs.any p = true then .rt r else .nx ())
  | [] => rfl
  | x :: xs => by
    unfold foldF
    rw [h x, List.any_cons]
    cases hp : p x with
    | true => rfl
    | false =>
      rw [if_neg Bool.false_ne_true]
      show foldF f () xs = _
      rw [foldF_any h xs, Bool.false_or]
end Dy

namespace Dy
open PySem PySem.Spec L2
open PyProof.Rows hiding St
open Enc (rep)
open Flat (toV)
open EncA (repA)

section
variable {α β γ δ : Type} [Enc α] [Enc β] [Enc γ] [Enc δ] {X : Cx} {σ : St} {s t : S} {e a b c tg iter : Expr} {es : List Expr} {pos p0 p1 p2 p3 : Pos} {D : Ends} {rest A B body : List Stmt}
def RepS (x : Str) (n : Int) : Prop := PySem.MulOk x n
def replS (x : Str) (n : Int) : Str := Txt.mul x n
theorem op_repStr : OpR X (binaryOp .Mult) (fun x y H Q => ∃ z n, x = .str z ∧ y = .int n ∧ RepS z n ∧ Q (.str (replS z n)) H) := by
  intro pins s σ H x y v u Q I rx ry h
  obtain ⟨z, n, rfl, rfl, hok, q⟩ := h
  obtain ⟨t, rfl⟩ := rx
  obtain ⟨t', rfl⟩ := ry
  exact PySem.SB.mul hok fun t' k => ⟨.str _, H, I.tok _, ⟨_, rfl⟩, q⟩
theorem ev_repS {x : Str} {n : Int} (ha : Ev X a σ s x) (hb : Ev X b σ s n) (h : RepS x n) : Ev X (.BinOp a .Mult b pos) σ s (replS x n) :=
  ev_op op_repStr ha hb fun v u s2 hv hu Q q => ⟨x, n, hv, hu, h, q _ s2 (Ex.refl _) rfl⟩
theorem repS_small {x : Str} {n : Int} (h0 : x.length ≤ 1000) (h1 : n ≤ 1000) (h2 : -1000 ≤ n) : RepS x n := by
  refine ⟨by rw [Bool.or_eq_false_iff]; exact ⟨decide_eq_false (by omega), decide_eq_false (by omega)⟩, fun h3 _ => ?_, fun h3 _ => ?_⟩
  · intro h
    have : (2 ^ 63 - 1) / n ≥ 1000 := by
      refine (Int.le_ediv_iff_mul_le (by omega)).mpr ?_
      omega
    omega
  · unfold Builtin.Str.tooLong
    have : x.length * n.toNat ≤ 1000 * 1000 := Nat.mul_le_mul h0 (by omega)
    refine decide_eq_false ?_
    have := szl
    omega
def stepN (a b c : Int) : Nat := if a < b then ((b - a - 1) / c + 1).toNat else 0
def rngS (a b c : Int) : List Int := (List.range (stepN a b c)).map fun i : Nat => a + (i : Int) * c
def RgS (a b c : Int) : Prop := (-(2 ^ 61) ≤ a ∧ a < 2 ^ 61) ∧ (-(2 ^ 61) ≤ b ∧ b < 2 ^ 61) ∧ 0 < c ∧ c < 1000000
theorem rgC_of {a b c : Int} (h : RgS a b c) : RgC a b c (stepN a b c) := by
  obtain ⟨⟨h1, h2⟩, ⟨h3, h4⟩, h5, h6⟩ := h
  have hs : Builtin.Range.rangeSize a b c = (stepN a b c : Nat) := by
    unfold Builtin.Range.rangeSize stepN
    rw [if_pos h5]
    split
    · have : 0 ≤ (b - a - 1) / c := Int.ediv_nonneg (by omega) (by omega)
      omega
    · rfl
  refine ⟨by omega, by omega, ?_, hs⟩
  have e1 : a < b → c * ((b - a - 1) / c) ≤ b - a - 1 := fun _ => Int.mul_ediv_self_le (by omega)
  have e2 : a < b → 0 ≤ (b - a - 1) / c := fun _ => Int.ediv_nonneg (by omega) (by omega)
  have e3 : a < b → (b - a - 1) / c ≤ b - a - 1 := fun _ => by
    refine Int.ediv_le_self _ (by omega)
  unfold Builtin.Range.small
  unfold Builtin.Range.rangeSize
  simp only [Builtin.Range.rangeFitsLong, Bool.and_eq_true, Bool.or_eq_true, decide_eq_true_eq, beq_iff_eq, if_pos h5]
  split
  · rename_i hlt
    have e1 := e1 hlt
    have e2 := e2 hlt
    have e3 := e3 hlt
    generalize hq : (b - a - 1) / c = q at *
    have e4 : c * q = q * c := Int.mul_comm _ _
    have e5 : (q + 1) * c = q * c + c := by rw [Int.add_mul]; omega
    have e6 : 0 ≤ c * q := Int.mul_nonneg (by omega) e2
    refine ⟨?_, ?_⟩ <;> omega
  · omega
theorem rngS_get {a b c : Int} {i : Nat} {x : Int} (h : (rngS a b c)[i]? = some x) : i < stepN a b c ∧ x = a + (i : Int) * c := by
  unfold rngS at h
  rw [List.getElem?_map] at h
  obtain ⟨j, h1, rfl⟩ := Option.map_eq_some_iff.mp h
  obtain ⟨h2, h3⟩ := List.getElem?_eq_some_iff.mp h1
  rw [List.length_range] at h2
  rw [List.getElem_range] at h3
  subst h3
  exact ⟨h2, rfl⟩
theorem rngS_len (a b c : Int) : (rngS a b c).length = stepN a b c := by unfold rngS; rw [List.length_map, List.length_range]
theorem ei_range3 {x y z : Int} (hm : X.mg "range" = none) (ha : Ev X a σ s x) (hb : Ev X b σ s y) (hc : Ev X c σ s z) (h : RgS x y z) (hg : Gl X "range" := by rfl)
    (hs : starEach [a, b, c] X.env = (false, eval a X.env) :: starEach [b, c] X.env := by rfl) (hs2 : starEach [b, c] X.env = (false, eval b X.env) :: starEach [c] X.env := by rfl) (hs3 : starEach [c] X.env = (false, eval c X.env) :: starEach [] X.env := by rfl) (hpl : (backTo pos (starEach [b, c] X.env)).any (·.1) = false := by rfl) :
    EvI X tg (.Call (.Name "range" p0) [a, b, c] [] pos) σ s (rngS x y z) := fun s1 k R q =>
  wi_of (pi_range3 hg hm (pa_cons pe_we (pa_cons pe_we (pa_cons pe_we pa_nil hs3) hs2) hs) hs hpl) (ha s1 k _ fun v s2 k2 r2 => hb s2 (k.trans k2) _ fun u s3 k3 r3 => hc s3 ((k.trans k2).trans k3) _ fun w s4 k4 r4 =>
    ⟨x, y, z, stepN x y z, by rw [show v = V.int x from r2, show u = V.int y from r3, show w = V.int z from r4], rgC_of h, q _ s4 ((k2.trans k3).trans k4) ⟨fun i t w f hw => ⟨(rngS_get hw).1, fun v' H' ⟨e1, e2⟩ => ⟨t, e1.symm, Ex.refl _, by rw [e2, (rngS_get hw).2]; rfl⟩⟩, fun i t f hi => by rw [rngS_len] at hi; exact hi⟩⟩)
theorem ev_isiR {xs : List α} {n : Str} {T : String} {r : Bool} (hm : X.mg "isinstance" = none) (hn : X.mg n = none) (hv : bootBuiltins n = some (.type T)) (ha : EvR X a σ s xs) (h : kitB "list" T = some r)
    (hg : Gl X "isinstance" := by rfl) (hgn : Gl X n := by rfl) (he : starEach [a, .Name n p1] X.env = (false, eval a X.env) :: starEach [.Name n p1] X.env := by rfl) (he2 : starEach [.Name n p1] X.env = (false, eval (.Name n p1) X.env) :: starEach [] X.env := by rfl) (hpl : (backTo pos (starEach [.Name n p1] X.env)).any (·.1) = false := by rfl)
    (hnn : n ≠ "__name__" := by decide) (hnd : (n == ("__debug__" : Str)) = false := by decide) :
    Ev X (.Call (.Name "isinstance" p0) [a, .Name n p1] [] pos) σ s r := fun s1 k Q q =>
  we_of (pe_callB call_isi hg hm (by decide +kernel) (pa_cons pe_we (pa_cons (pe_bltn (v := .ty T) hgn hn hv rfl hnn hnd) pa_nil he2) he) (he := he) (hpl := hpl)) (ha s1 k _ fun v s2 k2 r2 => by
    obtain ⟨p, vs, rfl, h1, _⟩ := r2
    exact ⟨.ref p, .ty T, .type "list", .type T, r, rfl, .ty T, sql_ty h1, kit_ty h, q _ s2 k2 rfl⟩)
theorem eb_isB {x y : Bool} (ha : Ev X a σ s x) (hb : Ev X b σ s y) : EvB X (.Compare a [.Is] [b] pos) σ s (decide (x = y)) :=
  eb_cmp op_isBl ha hb (fun v u s2 hv hu Q q => ⟨x, y, hv, hu, q⟩) (nomark _)
theorem eb_isnotB {x y : Bool} (ha : Ev X a σ s x) (hb : Ev X b σ s y) : EvB X (.Compare a [.IsNot] [b] pos) σ s (!decide (x = y)) :=
  eb_cmp op_notBl ha hb (fun v u s2 hv hu Q q => ⟨x, y, hv, hu, q⟩) (nomark _)
theorem ev_sliceT {x : Tu α} {lo hi : Option Expr} {l h : Option Int} (ha : Ev X a σ s x) (hl : EvO X lo σ s l) (hh : EvO X hi σ s h) : Ev X (.Subscript a (.Slice lo hi none p2) pos) σ s (Tu.mk (cut x.l l h)) := fun s1 k Q q => by
  obtain ⟨tl, pl, ql⟩ := po_evo hl
  obtain ⟨th, ph, qh⟩ := po_evo hh
  refine we_of (pe_slice sl_tupA pe_we pl ph) (ha s1 k _ fun v s2 k2 r2 => ql s2 (k.trans k2) _ fun s3 k3 => qh s3 ((k.trans k2).trans k3) _ fun s4 k4 => ?_)
  obtain ⟨p, vs, rfl, h1, h2⟩ := Enc.mono (α := Tu α) (k3.trans k4).f r2
  have kk := (k2.trans k3).trans k4
  refine ⟨p, vs, rfl, sqt_mono s4.sub h1, fun hw => ?_, fun _ l hl => q _ (s4.newF l _ hl) (kk.trans (Ex.newF hl)) ⟨l, _, rfl, tup_new hl, (h2.cut _ _).mono (Ex.newF hl).f⟩⟩
  refine q _ s4 kk ⟨p, vs, rfl, h1, ?_⟩
  have e : cut x.l l h = x.l := by
    unfold cut
    rw [← h2.len, hw.1, hw.2, List.drop_zero, Nat.sub_zero, h2.len, List.take_length]
  show Reps _ _ vs (cut x.l l h)
  rw [e]; exact h2
def popN (n : Nat) (i : Int) : Option Nat := if -(2 ^ 63) ≤ i ∧ i < 2 ^ 63 then seqIndex? i n else none
theorem seqIx_lt {n : Nat} {i : Int} {k : Nat} (h : seqIndex? i n = some k) : k < n := by
  unfold seqIndex? at h
  dsimp only at h
  split at h <;> split at h
  all_goals first | (rename_i h2; simp only [Bool.and_eq_true, decide_eq_true_eq] at h2; cases h; omega) | cases h
theorem do_popAt (i : Nat) {p : Addr} {n : Str} {xs : List α} {z : Int} {j : Nat} (hσ : σ[i]? = some (some (.ref p))) (o : Own X.K s p xs) (he : Ev X e σ s z) (hj : popN xs.length z = some j)
    (k : ∀ s1, Mx (· = p) s s1 → Own X.K s1 p (xs.eraseIdx j) → WSs X rest D σ s1.H)
    (hN : X.N[i]? = some n := by rfl) (hv : Vis X.env.scope n := by first | exact Or.inl rfl | exact Or.inr (Or.inl rfl) | exact Or.inr (Or.inr rfl)) (hd : (n == ("__debug__" : Str)) = false := by decide) (hcd : (n == ("__classdict__" : Str)) = false := by decide)
    (hbase : attributeBase (.Name n p0) "pop" X.env (eval (.Name n p0) X.env) = eval (.Name n p0) X.env := by rfl)
    (hfew : ((backTo p2 (starEach [e] X.env)).all (fun x => !x.1) && (backToKw p2 (keywordEach [] X.env)).all (fun x => x.1.isSome) && decide (([e] : List Expr).length + ([] : List Keyword).length + (if ([] : List Keyword).isEmpty then 0 else 1) < 30)) = true := by rfl)
    (hline : (p1.endLine == p2.line) = true := by rfl) (hs : starEach [e] X.env = (false, eval e X.env) :: starEach [] X.env := by rfl) (hplain : (backTo p2 (starEach [] X.env)).any (·.1) = false := by rfl)
    (hsw : swapsWith (.Call (.Attribute (.Name n p0) "pop" p1) [e] [] p2) none p3.line X.env = pure false := by rfl) :
    WSs X (.Expr (.Call (.Attribute (.Name n p0) "pop" p1) [e] [] p2) p3 :: rest) D σ s.H :=
  do_cons (ps_expr (pe_bm PySem.F.plainAttrs_list PySem.F.slot_list_pop PySem.F.type_list_pop mt_popAt (pe_var hN hv hd hcd) (pa_cons pe_we pa_nil hs) hbase hfew hline hs hplain) hsw) (by
    obtain ⟨h1, vs, h2, h3⟩ := id o
    refine ⟨_, hσ, .inl ⟨rfl, vs, .inl (.inl h2)⟩, he s (Ex.refl _) _ fun v s1 k1 r1 => ?_⟩
    have f1 := k1.n _ _ h2 h1
    have g1 := k1.h _ _ h2
    unfold popN at hj
    split at hj
    · rename_i hb
      have hlt : j < vs.length := by rw [h3.len]; exact seqIx_lt hj
      refine ⟨p, vs, z, j, vs[j], rfl, by rw [show v = V.int z from r1], g1, hb.1, hb.2, by rw [h3.len]; exact hj, List.getElem?_eq_getElem hlt, ?_⟩
      exact k (s1.put p (.lst (vs.eraseIdx j)) f1) (k1.mx.trans (Mx.put f1)) ⟨f1, _, upd_same, (h3.mono k1.f).erase j⟩
    · cases hj)
def InsOk (i : Int) (n : Nat) : Prop := 0 ≤ i ∧ i < 2 ^ 63 ∧ n < sizeLine
def insI {τ : Type} (xs : List τ) (i : Int) (x : τ) : List τ := xs.take i.toNat ++ [x] ++ xs.drop i.toNat
theorem do_insert (i : Nat) {p : Addr} {n : Str} {xs : List α} {z : Int} {x : α} (hσ : σ[i]? = some (some (.ref p))) (o : Own X.K s p xs) (ha : Ev X a σ s z) (hb : Ev X b σ s x) (hj : InsOk z xs.length)
    (k : ∀ s1, Mx (· = p) s s1 → Own X.K s1 p (insI xs z x) → WSs X rest D σ s1.H)
    (hN : X.N[i]? = some n := by rfl) (hv : Vis X.env.scope n := by first | exact Or.inl rfl | exact Or.inr (Or.inl rfl) | exact Or.inr (Or.inr rfl)) (hd : (n == ("__debug__" : Str)) = false := by decide) (hcd : (n == ("__classdict__" : Str)) = false := by decide)
    (hbase : attributeBase (.Name n p0) "insert" X.env (eval (.Name n p0) X.env) = eval (.Name n p0) X.env := by rfl)
    (hfew : ((backTo p2 (starEach [a, b] X.env)).all (fun x => !x.1) && (backToKw p2 (keywordEach [] X.env)).all (fun x => x.1.isSome) && decide (([a, b] : List Expr).length + ([] : List Keyword).length + (if ([] : List Keyword).isEmpty then 0 else 1) < 30)) = true := by rfl)
    (hline : (p1.endLine == p2.line) = true := by rfl) (hs : starEach [a, b] X.env = (false, eval a X.env) :: starEach [b] X.env := by rfl) (hs2 : starEach [b] X.env = (false, eval b X.env) :: starEach [] X.env := by rfl) (hplain : (backTo p2 (starEach [b] X.env)).any (·.1) = false := by rfl)
    (hsw : swapsWith (.Call (.Attribute (.Name n p0) "insert" p1) [a, b] [] p2) none p3.line X.env = pure false := by rfl) :
    WSs X (.Expr (.Call (.Attribute (.Name n p0) "insert" p1) [a, b] [] p2) p3 :: rest) D σ s.H :=
  do_cons (ps_expr (pe_bm PySem.F.plainAttrs_list PySem.F.slot_list_insert PySem.F.type_list_insert mt_insert (pe_var hN hv hd hcd) (pa_cons pe_we (pa_cons pe_we pa_nil hs2) hs) hbase hfew hline hs hplain) hsw) (by
    obtain ⟨h1, vs, h2, h3⟩ := id o
    refine ⟨_, hσ, .inl ⟨rfl, vs, .inl (.inl h2)⟩, ha s (Ex.refl _) _ fun u s1 k1 r1 => hb s1 k1 _ fun v s2 k2 r2 => ?_⟩
    have kk := k1.trans k2
    have f1 := kk.n _ _ h2 h1
    have g1 := kk.h _ _ h2
    refine ⟨p, vs, z, v, rfl, by rw [show u = V.int z from r1], g1, by rw [h3.len]; exact hj.2.2, hj.1, hj.2.1, ?_⟩
    exact k (s2.put p (.lst (vs.take z.toNat ++ [v] ++ vs.drop z.toNat)) f1) (kk.mx.trans (Mx.put f1)) ⟨f1, _, upd_same, (((h3.mono kk.f).take _).snoc r2).app ((h3.mono kk.f).drop _)⟩)
theorem do_reverse (i : Nat) {p : Addr} {n : Str} {xs : List α} (hσ : σ[i]? = some (some (.ref p))) (o : Own X.K s p xs)
    (k : ∀ s1, Mx (· = p) s s1 → Own X.K s1 p xs.reverse → WSs X rest D σ s1.H)
    (hN : X.N[i]? = some n := by rfl) (hv : Vis X.env.scope n := by first | exact Or.inl rfl | exact Or.inr (Or.inl rfl) | exact Or.inr (Or.inr rfl)) (hd : (n == ("__debug__" : Str)) = false := by decide) (hcd : (n == ("__classdict__" : Str)) = false := by decide)
    (hbase : attributeBase (.Name n p0) "reverse" X.env (eval (.Name n p0) X.env) = eval (.Name n p0) X.env := by rfl) (hline : (p1.endLine == p2.line) = true := by rfl)
    (hsw : swapsWith (.Call (.Attribute (.Name n p0) "reverse" p1) [] [] p2) none p3.line X.env = pure false := by rfl) :
    WSs X (.Expr (.Call (.Attribute (.Name n p0) "reverse" p1) [] [] p2) p3 :: rest) D σ s.H :=
  do_cons (ps_expr (pe_bm0 PySem.F.plainAttrs_list PySem.F.slot_list_reverse PySem.F.type_list_reverse mt_reverse (pe_var hN hv hd hcd) hbase hline) hsw) (by
    obtain ⟨h1, vs, h2, h3⟩ := id o
    refine ⟨_, hσ, .inl ⟨rfl, vs, .inl (.inl h2)⟩, p, vs, rfl, rfl, h2, ?_⟩
    exact k (s.put p (.lst vs.reverse) h1) (Mx.put h1) ⟨h1, _, upd_same, h3.rev⟩)
theorem do_clear (i : Nat) {p : Addr} {n : Str} {xs : List α} (hσ : σ[i]? = some (some (.ref p))) (o : Own X.K s p xs)
    (k : ∀ s1, Mx (· = p) s s1 → Own X.K s1 p ([] : List α) → WSs X rest D σ s1.H)
    (hN : X.N[i]? = some n := by rfl) (hv : Vis X.env.scope n := by first | exact Or.inl rfl | exact Or.inr (Or.inl rfl) | exact Or.inr (Or.inr rfl)) (hd : (n == ("__debug__" : Str)) = false := by decide) (hcd : (n == ("__classdict__" : Str)) = false := by decide)
    (hbase : attributeBase (.Name n p0) "clear" X.env (eval (.Name n p0) X.env) = eval (.Name n p0) X.env := by rfl) (hline : (p1.endLine == p2.line) = true := by rfl)
    (hsw : swapsWith (.Call (.Attribute (.Name n p0) "clear" p1) [] [] p2) none p3.line X.env = pure false := by rfl) :
    WSs X (.Expr (.Call (.Attribute (.Name n p0) "clear" p1) [] [] p2) p3 :: rest) D σ s.H :=
  do_cons (ps_expr (pe_bm0 PySem.F.plainAttrs_list PySem.F.slot_list_clear PySem.F.type_list_clear mt_clear (pe_var hN hv hd hcd) hbase hline) hsw) (by
    obtain ⟨h1, vs, h2, h3⟩ := id o
    refine ⟨_, hσ, .inl ⟨rfl, vs, .inl (.inl h2)⟩, p, vs, rfl, rfl, h2, ?_⟩
    exact k (s.put p (.lst []) h1) (Mx.put h1) ⟨h1, _, upd_same, trivial⟩)
theorem ev_catT {x y : Tu α} (ha : Ev X a σ s x) (hb : Ev X b σ s y) (hz : x.l.length + y.l.length ≤ sizeLine) : Ev X (.BinOp a .Add b pos) σ s (Tu.mk (x.l ++ y.l)) := fun s1 k Q q =>
  we_of (pe_op op_catA pe_we pe_we) (ha s1 k _ fun v s2 k2 r2 => hb s2 (k.trans k2) _ fun u s3 k3 r3 => by
    obtain ⟨p, vs, rfl, h1, h2⟩ := Enc.mono (α := Tu α) k3.f r2
    obtain ⟨p', ws, rfl, h3, h4⟩ := r3
    have kk := k2.trans k3
    refine ⟨p, p', vs, ws, rfl, rfl, sqt_mono s3.sub h1, sqt_mono s3.sub h3, by rw [h2.len, h4.len]; exact hz, fun e => ?_, fun _ e => ?_, fun _ _ l hl => q _ (s3.newF l _ hl) (kk.trans (Ex.newF hl)) ⟨l, _, rfl, tup_new hl, (h2.app h4).mono (Ex.newF hl).f⟩⟩
    · refine q _ s3 kk ⟨p', ws, rfl, h3, ?_⟩
      subst e
      have e2 : x.l = [] := List.length_eq_zero_iff.mp h2.len.symm
      show Reps _ _ ws (x.l ++ y.l)
      rw [e2]; exact h4
    · refine q _ s3 kk ⟨p, vs, rfl, h1, ?_⟩
      subst e
      have e2 : y.l = [] := List.length_eq_zero_iff.mp h4.len.symm
      show Reps _ _ vs (x.l ++ y.l)
      rw [e2, List.append_nil]; exact h2)
end
theorem foldO_app {α β : Type} {N : Nat} {f : List β → α → Option (List β)} {g : α → β} : ∀ {xs : List α} {b : List β}, (∀ b x, b.length < N → x ∈ xs → f b x = some (b ++ [g x])) → b.length + xs.length ≤ N → foldO f b xs = some (b ++ xs.map g)
  | [], b, _, _ => by simp [foldO]
  | x :: r, b, h, hl => by
    rw [List.length_cons] at hl
    unfold foldO
    rw [h b x (by omega) List.mem_cons_self, Option.bind_some, foldO_app (xs := r) (b := b ++ [g x]) (fun b y hb hy => h b y hb (List.mem_cons_of_mem _ hy)) (by rw [List.length_append, List.length_singleton]; omega)]
    simp
theorem atI_map {α β : Type} {f : α → β} {xs : List α} {i : Int} {x : α} (h : atI xs i = some x) : atI (xs.map f) i = some (f x) := by
  unfold atI at h ⊢
  rw [List.length_map]
  cases hj : ixN xs.length i with
  | none => rw [hj] at h; cases h
  | some j =>
    rw [hj] at h
    show (xs.map f)[j]? = _
    rw [List.getElem?_map]
    have : xs[j]? = some x := h
    rw [this]; rfl
theorem foldF_none {α ρ : Type} {f : Unit → α → Option (Fl Unit ρ)} : ∀ {xs : List α}, (∀ x ∈ xs, f () x = some (.nx ())) → foldF f () xs = some (.nx ())
  | [], _ => rfl
  | x :: r, h => by
    unfold foldF
    rw [h x List.mem_cons_self]
    exact foldF_none fun y hy => h y (List.mem_cons_of_mem _ hy)
theorem foldF_ok {α ρ : Type} {f : Unit → α → Option (Fl Unit ρ)} {xs : List α} {Q : Fl Unit ρ → Prop} (h : ∀ x ∈ xs, Ok (f () x) (· = .nx ())) (q : Q (.nx ())) : Ok (foldF f () xs) Q :=
  ⟨_, foldF_none fun x hx => (h x hx).eq, q⟩
def Drawn (sizes ds : List Int) : Prop := ds.length = sizes.length ∧ ∀ (j : Nat) (d n : Int), ds[j]? = some d → sizes[j]? = some n → 0 ≤ d ∧ d < n
theorem ok_draw {sizes ds : List Int} (h : Drawn sizes ds) (k : Nat) {n : Int} (hk : sizes[k]? = some n) {Q : Int → Prop} (q : ∀ d, 0 ≤ d → d < n → Q d) : Ok (atI ds (k : Int)) Q := by
  obtain ⟨h1, h2⟩ := h
  have hlt : k < ds.length := by rw [h1]; exact (List.getElem?_eq_some_iff.mp hk).1
  refine ok_atI (by omega) (by omega) fun d hd => ?_
  rw [show (k : Int).toNat = k by omega] at hd
  obtain ⟨a, b⟩ := h2 k d n hd hk
  exact q d a b
theorem ok_sgn {x : Str} {i : Int} {Q : Str → Prop} (hz : x.length ≤ sizeLine) (h0 : 0 ≤ i) (h1 : i < x.length) (h : ∀ c, x.cps.toList[i.toNat]? = some c → Q ⟨#[c]⟩) : Ok (sgn x i) Q := by
  unfold sgn
  rw [if_pos hz]
  have hl : i.toNat < x.cps.toList.length := by
    rw [Array.length_toList]
    show i.toNat < x.length
    omega
  rw [atI_get h0 (by rw [Array.length_toList]; show i < (x.length : Int); exact h1), List.getElem?_eq_getElem hl]
  exact ok_some (h _ (List.getElem?_eq_getElem hl))
theorem bnd_some {α : Type} (m : Option α) : (bnd m fun x => some x) = m := by cases m <;> rfl
theorem ok_ret {α : Type} {m : Option α} {P : α → Prop} (h : Ok m P) : Ok (bnd m fun x => some x) P := by rw [bnd_some]; exact h
def txt (x : Str) : Prop := PyData.strOk x = true
theorem shp_strs {xs : List Str} (h : ∀ x ∈ xs, txt x) : shp xs := by
  unfold shp SeqAt.shaped
  have h1 : PyData.canLay0 (EqD.toD xs) = true := by
    show PyData.canLay0 (.list (xs.map PyData.str)) = true
    unfold PyData.canLay0
    induction xs with
    | nil => simp [PyData.canLayAll0]
    | cons x r ih =>
      rw [List.map_cons]
      unfold PyData.canLayAll0
      rw [ih fun y hy => h y (List.mem_cons_of_mem _ hy)]
      show (PyData.canLay0 (.str x) && true) = true
      unfold PyData.canLay0
      rw [show PyData.strOk x = true from h x List.mem_cons_self]; rfl
  have h2 : PyData.depth (EqD.toD xs) ≤ 64 := by
    show PyData.depth (.list (xs.map PyData.str)) ≤ 64
    unfold PyData.depth
    have : PyData.depthAll (xs.map PyData.str) = 0 := by
      clear h h1
      induction xs with
      | nil => simp [PyData.depthAll]
      | cons x r ih => rw [List.map_cons]; unfold PyData.depthAll; rw [ih]; simp [PyData.depth]
    omega
  rw [h1, decide_eq_true h2]; rfl
end Dy

namespace Dy
open PySem PySem.Spec L2
open PyProof.Rows hiding St
open Enc (rep)
open Flat (toV)
open EncA (repA)

def S.back (s t : S) (h : Fle s.F t.F) : S := ⟨s.F, t.H, fun a o q => t.sub a o (h a o q)⟩
theorem backE {s0 s t : S} (h : Fle s.F t.F) (E : Ex s0 s) (E' : Ex s0 t) : Ex s0 (s.back t h) := ⟨E.f, E'.h, E.n⟩
theorem backOwn {α : Type} [Enc α] {K : PySem.W.Frag} {s s1 t : S} {p : Addr} {xs : List α} (h : Fle s.F t.F) (o : Own K s p xs) (h1 : s1.F p = s.H p) (h2 : Fle s1.F t.F) : Own K (s.back t h) p xs := by
  obtain ⟨n, vs, e, r⟩ := o
  exact ⟨n, vs, t.sub _ _ (h2 _ _ (h1.trans e)), r⟩
theorem backOwn2 {α : Type} [Flat α] {K : PySem.W.Frag} {s t : S} {q : Addr} {xs : List α} (h : Fle s.F t.F) (o : Own K t q xs) : Own K (s.back t h) q xs := by
  obtain ⟨n, vs, e, r⟩ := o
  refine ⟨?_, vs, e, ?_⟩
  · show s.F q = none
    cases z : s.F q with
    | none => rfl
    | some u => rw [h _ _ z] at n; cases n
  · rw [r.flat]; exact Reps.of_flat xs
theorem backFlat {α : Type} [Flat α] {K : PySem.W.Frag} {s t : S} {v : V} {x : α} (h : Fle s.F t.F) (r : rep K t.F v x) : rep K (s.back t h).F v x := Flat.iff.mpr (Flat.iff.mp r)
section
variable {α β γ δ : Type} [Enc α] [Enc β] [Enc γ] [Enc δ] {X : Cx} {σ : St} {s t : S} {e a b c tg iter : Expr} {es : List Expr} {pos p0 p1 p2 p3 p4 p5 : Pos} {D : Ends} {rest A B body : List Stmt}
theorem do_frz2 {p : Addr} {xs : List α} {ss : List Stmt} (o : Own X.K s p xs) (k : ∀ s' : S, s'.H = s.H → Fle s.F s'.F → (∀ q, q ≠ p → s'.F q = s.F q) → rep X.K s'.F (.ref p) xs → s'.F p = s.H p → WSs X ss D σ s'.H) : WSs X ss D σ s.H := by
  obtain ⟨hn, vs, hp, r⟩ := o
  have f : Fle s.F (upd s.F p (.lst vs)) := fun a o q => by rw [upd_ne (ne_of_none q hn)]; exact q
  exact k ⟨upd s.F p (.lst vs), s.H, fun a o q => by
    unfold upd at q
    split at q
    · rename_i e; cases q; rw [e]; exact hp
    · exact s.sub a o q⟩ rfl f (fun q hq => upd_ne hq) ⟨p, vs, rfl, .inl (.inl upd_same), r.mono f⟩ (by show upd s.F p (.lst vs) p = _; rw [upd_same, hp])
theorem do_back {ss : List Stmt} (s : S) {t : S} (h : Fle s.F t.F) (k : WSs X ss D σ (s.back t h).H) : WSs X ss D σ t.H := k

section
variable {p : Addr} {n : Str} {xs : List α}
theorem we_pop (i : Nat) {z : Int} {j : Nat} {y : α} {Q : VK} (hσ : σ[i]? = some (some (.ref p))) (o : Own X.K s p xs) (he : Ev X e σ s z) (hj : popN xs.length z = some j) (hy : xs[j]? = some y)
    (k : ∀ v s1, Mx (· = p) s s1 → Own X.K s1 p (xs.eraseIdx j) → rep X.K s1.F v y → Q v s1.H)
    (hN : X.N[i]? = some n := by rfl) (hv : Vis X.env.scope n := by first | exact Or.inl rfl | exact Or.inr (Or.inl rfl) | exact Or.inr (Or.inr rfl)) (hd : (n == ("__debug__" : Str)) = false := by decide) (hcd : (n == ("__classdict__" : Str)) = false := by decide)
    (hbase : attributeBase (.Name n p0) "pop" X.env (eval (.Name n p0) X.env) = eval (.Name n p0) X.env := by rfl)
    (hfew : ((backTo p2 (starEach [e] X.env)).all (fun x => !x.1) && (backToKw p2 (keywordEach [] X.env)).all (fun x => x.1.isSome) && decide (([e] : List Expr).length + ([] : List Keyword).length + (if ([] : List Keyword).isEmpty then 0 else 1) < 30)) = true := by rfl)
    (hline : (p1.endLine == p2.line) = true := by rfl) (hs : starEach [e] X.env = (false, eval e X.env) :: starEach [] X.env := by rfl) (hplain : (backTo p2 (starEach [] X.env)).any (·.1) = false := by rfl) :
    WE X (.Call (.Attribute (.Name n p0) "pop" p1) [e] [] p2) σ s.H Q :=
  we_of (pe_bm PySem.F.plainAttrs_list PySem.F.slot_list_pop PySem.F.type_list_pop mt_popAt (pe_var hN hv hd hcd) (pa_cons pe_we pa_nil hs) hbase hfew hline hs hplain) (by
    obtain ⟨h1, vs, h2, h3⟩ := id o
    refine ⟨_, hσ, .inl ⟨rfl, vs, .inl (.inl h2)⟩, he s (Ex.refl _) _ fun v s1 k1 r1 => ?_⟩
    have f1 := k1.n _ _ h2 h1
    have g1 := k1.h _ _ h2
    unfold popN at hj
    split at hj
    · rename_i hb
      obtain ⟨w, hw, rw'⟩ := (h3.mono k1.f).get hy
      refine ⟨p, vs, z, j, w, rfl, by rw [show v = V.int z from r1], g1, hb.1, hb.2, by rw [h3.len]; exact hj, hw, ?_⟩
      exact k w (s1.put p (.lst (vs.eraseIdx j)) f1) (k1.mx.trans (Mx.put f1)) ⟨f1, _, upd_same, (h3.mono k1.f).erase j⟩ rw'
    · cases hj)
end
def popAt {τ : Type} (xs : List τ) (z : Int) : Option (τ × List τ) := (popN xs.length z).bind fun j => (xs[j]?).map fun y => (y, xs.eraseIdx j)
theorem popAt_some {τ : Type} {xs ys : List τ} {z : Int} {y : τ} (h : popAt xs z = some (y, ys)) : ∃ j, popN xs.length z = some j ∧ xs[j]? = some y ∧ ys = xs.eraseIdx j := by
  unfold popAt at h
  obtain ⟨j, h1, h2⟩ := bndE h
  obtain ⟨w, h3, h4⟩ := Option.map_eq_some_iff.mp h2
  cases h4
  exact ⟨j, h1, h3, rfl⟩
theorem do_setPop (i l : Nat) {p : Addr} {n m : Str} {xs ys : List α} {z : Int} {y : α} {py : Pos} (hσ : σ[i]? = some (some (.ref p))) (o : Own X.K s p xs) (he : Ev X e σ s z) (hj : popAt xs z = some (y, ys))
    (k : ∀ v s1, Mx (· = p) s s1 → Own X.K s1 p ys → rep X.K s1.F v y → WSs X rest D (σ.set l (some v)) s1.H)
    (hnd : X.N.Nodup) (hN : X.N[i]? = some n := by rfl) (hv : Vis X.env.scope n := by first | exact Or.inl rfl | exact Or.inr (Or.inl rfl) | exact Or.inr (Or.inr rfl)) (hd : (n == ("__debug__" : Str)) = false := by decide) (hcd : (n == ("__classdict__" : Str)) = false := by decide)
    (hbase : attributeBase (.Name n p0) "pop" X.env (eval (.Name n p0) X.env) = eval (.Name n p0) X.env := by rfl)
    (hfew : ((backTo p2 (starEach [e] X.env)).all (fun x => !x.1) && (backToKw p2 (keywordEach [] X.env)).all (fun x => x.1.isSome) && decide (([e] : List Expr).length + ([] : List Keyword).length + (if ([] : List Keyword).isEmpty then 0 else 1) < 30)) = true := by rfl)
    (hline : (p1.endLine == p2.line) = true := by rfl) (hs : starEach [e] X.env = (false, eval e X.env) :: starEach [] X.env := by rfl) (hplain : (backTo p2 (starEach [] X.env)).any (·.1) = false := by rfl)
    (hx : Loc X.env.scope m := by first | exact Or.inl rfl | exact Or.inr rfl) (hi : X.N[l]? = some m := by rfl)
    (hsw : swapsWith (.Call (.Attribute (.Name n p0) "pop" p1) [e] [] p2) (some (.Name m py)) pos.line X.env = pure false := by rfl) (hf : X.fn m = true ∨ X.env.scope.names.lookup m = some .local := by first | exact .inl rfl | exact .inr rfl) :
    WSs X (.Assign [.Name m py] (.Call (.Attribute (.Name n p0) "pop" p1) [e] [] p2) pos :: rest) D σ s.H := by
  obtain ⟨j, h1, h2, rfl⟩ := popAt_some hj
  exact do_cons (ps_set hnd hi hx pe_we hsw hf) (we_pop i hσ o he h1 h2 (fun v s1 m1 o1 r1 => k v s1 m1 o1 r1) hN hv hd hcd hbase hfew hline hs hplain)
theorem do_appPop (i l : Nat) {p q : Addr} {n m : Str} {xs ys zs : List α} {z : Int} {y : α} {py : Pos} (hσ : σ[i]? = some (some (.ref p))) (hσ2 : σ[l]? = some (some (.ref q))) (hpq : q ≠ p) (o : Own X.K s p xs) (o2 : Own X.K s q zs) (hz : zs.length < sizeLine) (he : Ev X e σ s z) (hj : popAt xs z = some (y, ys))
    (k : ∀ s1, Mx (fun a => a = p ∨ a = q) s s1 → Own X.K s1 p ys → Own X.K s1 q (zs ++ [y]) → WSs X rest D σ s1.H)
    (hN : X.N[i]? = some n := by rfl) (hv : Vis X.env.scope n := by first | exact Or.inl rfl | exact Or.inr (Or.inl rfl) | exact Or.inr (Or.inr rfl)) (hd : (n == ("__debug__" : Str)) = false := by decide) (hcd : (n == ("__classdict__" : Str)) = false := by decide)
    (hbase : attributeBase (.Name n p0) "pop" X.env (eval (.Name n p0) X.env) = eval (.Name n p0) X.env := by rfl)
    (hfew : ((backTo p2 (starEach [e] X.env)).all (fun x => !x.1) && (backToKw p2 (keywordEach [] X.env)).all (fun x => x.1.isSome) && decide (([e] : List Expr).length + ([] : List Keyword).length + (if ([] : List Keyword).isEmpty then 0 else 1) < 30)) = true := by rfl)
    (hline : (p1.endLine == p2.line) = true := by rfl) (hs : starEach [e] X.env = (false, eval e X.env) :: starEach [] X.env := by rfl) (hplain : (backTo p2 (starEach [] X.env)).any (·.1) = false := by rfl)
    (hN2 : X.N[l]? = some m := by rfl) (hv2 : Vis X.env.scope m := by first | exact Or.inl rfl | exact Or.inr (Or.inl rfl) | exact Or.inr (Or.inr rfl)) (hd2 : (m == ("__debug__" : Str)) = false := by decide) (hcd2 : (m == ("__classdict__" : Str)) = false := by decide)
    (hbase2 : attributeBase (.Name m py) "append" X.env (eval (.Name m py) X.env) = eval (.Name m py) X.env := by rfl)
    (hfew2 : ((backTo p4 (starEach [.Call (.Attribute (.Name n p0) "pop" p1) [e] [] p2] X.env)).all (fun x => !x.1) && (backToKw p4 (keywordEach [] X.env)).all (fun x => x.1.isSome) && decide (([.Call (.Attribute (.Name n p0) "pop" p1) [e] [] p2] : List Expr).length + ([] : List Keyword).length + (if ([] : List Keyword).isEmpty then 0 else 1) < 30)) = true := by rfl)
    (hline2 : (p3.endLine == p4.line) = true := by rfl) (hs2 : starEach [.Call (.Attribute (.Name n p0) "pop" p1) [e] [] p2] X.env = (false, eval (.Call (.Attribute (.Name n p0) "pop" p1) [e] [] p2) X.env) :: starEach [] X.env := by rfl) (hplain2 : (backTo p4 (starEach [] X.env)).any (·.1) = false := by rfl)
    (hsw : swapsWith (.Call (.Attribute (.Name m py) "append" p3) [.Call (.Attribute (.Name n p0) "pop" p1) [e] [] p2] [] p4) none p5.line X.env = pure false := by rfl) :
    WSs X (.Expr (.Call (.Attribute (.Name m py) "append" p3) [.Call (.Attribute (.Name n p0) "pop" p1) [e] [] p2] [] p4) p5 :: rest) D σ s.H := by
  obtain ⟨j, h1, h2, rfl⟩ := popAt_some hj
  refine do_cons (ps_expr (pe_bm PySem.F.plainAttrs_list PySem.F.slot_list_append PySem.F.type_list_append mt_append (pe_var hN2 hv2 hd2 hcd2) (pa_cons pe_we pa_nil hs2) hbase2 hfew2 hline2 hs2 hplain2) hsw) ?_
  obtain ⟨g1, vs, g2, g3⟩ := id o2
  refine ⟨_, hσ2, .inl ⟨rfl, vs, .inl (.inl g2)⟩, we_pop i hσ o he h1 h2 (fun v s1 m1 o1 r1 => ?_) hN hv hd hcd hbase hfew hline hs hplain⟩
  obtain ⟨f1, ws, f2, f3⟩ := o2.mx m1 hpq
  refine ⟨q, ws, v, rfl, rfl, f2, by rw [f3.len]; exact hz, ?_⟩
  have m2 : Mx (fun a => a = p ∨ a = q) s1 (s1.put q (.lst (ws ++ [v])) f1) := ⟨(Mx.put f1).f, fun a u h nn => (Mx.put f1).h a u h fun z => nn (.inr z), (Mx.put f1).n, (Mx.put f1).d⟩
  have m0 : Mx (fun a => a = p ∨ a = q) s s1 := ⟨m1.f, fun a u h nn => m1.h a u h fun z => nn (.inl z), m1.n, m1.d⟩
  refine k (s1.put q (.lst (ws ++ [v])) f1) (m0.trans m2) (o1.mx (Mx.put f1) fun z => hpq z.symm) ⟨f1, _, upd_same, f3.snoc r1⟩
theorem Ex.mu2 {s t u : S} {p q : Addr} (a : Ex s t) (b : Mx (fun a => a = p ∨ a = q) t u) (h : s.H p = none) (h2 : s.H q = none) : Ex s u := a.mu b fun _ e => e.elim (fun z => z ▸ h) fun z => z ▸ h2
def popAll {σ τ : Type} (f : List τ → σ → Option Int) : List τ → List σ → Option (List τ)
  | _, [] => some []
  | l, x :: r => (f l x).bind fun z => (popAt l z).bind fun y => (popAll f y.2 r).bind fun ys => some (y.1 :: ys)
theorem do_retPop (i j : Nat) {τ : Type} [Enc τ] {zs : List τ} {xs ys : List α} {f : List α → τ → Option Int} {p : Addr} {n x : Str} {px : Pos} {ie : Expr} {scope : Scope} {own : List (Str × Nat)} (hc : X.calm = true) (hN : X.N.Nodup) (hi : EvI X (.Name x px) iter σ s zs) (o : Own X.K s p xs) (ok : BlkOk X.N X.env.scope scope own)
    (hj : X.N[j]? = some x) (hjo : j ∈ own.map (·.2)) (hg : ∀ s0 H0 C cl fp, PG (Blk X scope s0 H0 C cl fp) (.Name x px) (gName j)) (hσ : ∀ v, ((wipe σ (own.map (·.2))).set j (some v))[i]? = some (some (.ref p))) (hf : popAll f xs zs = some ys) (hz : ys.length ≤ sizeLine)
    (he : ∀ (l : List α) (y : τ) (z : Int) (v : V) (s1 : S), y ∈ zs → Mx (· = p) s s1 → Own X.K s1 p l → rep X.K s1.F v y → f l y = some z → ∀ s0 H0 C cl fp, Ev (Blk X scope s0 H0 C cl fp) ie ((wipe σ (own.map (·.2))).set j (some v)) s1 z)
    (k : ∀ q s1, Mx (· = p) s s1 → s.H q = none → Own X.K s1 q ys → D.rt (.ref q) s1.H)
    (hNi : X.N[i]? = some n := by rfl)
    (hv : ∀ s0 H0 C cl fp, Vis (Blk X scope s0 H0 C cl fp).env.scope n := by intros; first | exact Or.inl rfl | exact Or.inr (Or.inl rfl) | exact Or.inr (Or.inr rfl)) (hd : (n == ("__debug__" : Str)) = false := by decide) (hcd : (n == ("__classdict__" : Str)) = false := by decide)
    (hbase : ∀ s0 H0 C cl fp, attributeBase (.Name n p0) "pop" (Blk X scope s0 H0 C cl fp).env (eval (.Name n p0) (Blk X scope s0 H0 C cl fp).env) = eval (.Name n p0) (Blk X scope s0 H0 C cl fp).env := by intros; rfl)
    (hfew : ∀ s0 H0 C cl fp, ((backTo p2 (starEach [ie] (Blk X scope s0 H0 C cl fp).env)).all (fun x => !x.1) && (backToKw p2 (keywordEach [] (Blk X scope s0 H0 C cl fp).env)).all (fun x => x.1.isSome) && decide (([ie] : List Expr).length + ([] : List Keyword).length + (if ([] : List Keyword).isEmpty then 0 else 1) < 30)) = true := by intros; rfl)
    (hline : (p1.endLine == p2.line) = true := by rfl) (hs1 : ∀ s0 H0 C cl fp, starEach [ie] (Blk X scope s0 H0 C cl fp).env = (false, eval ie (Blk X scope s0 H0 C cl fp).env) :: starEach [] (Blk X scope s0 H0 C cl fp).env := by intros; rfl) (hplain : ∀ s0 H0 C cl fp, (backTo p2 (starEach [] (Blk X scope s0 H0 C cl fp).env)).any (·.1) = false := by intros; rfl)
    (hs : ∀ x, foldedSetIterable iter X.env x = pure x := by intro _; rfl) : WSs X (.Return (some (.ListComp (.Call (.Attribute (.Name n p0) "pop" p1) [ie] [] p2) [⟨.Name x px, iter, [], 0⟩] scope p3)) pos :: rest) D σ s.H := by
  have hpe : PE X (.ListComp (.Call (.Attribute (.Name n p0) "pop" p1) [ie] [] p2) [⟨.Name x px, iter, [], 0⟩] scope p3) (tLc (WI X (.Name x px) iter) (gName j) tYes (fun σ H Q => ∀ s0 H0 C cl fp, WE (Blk X scope s0 H0 C cl fp) (.Call (.Attribute (.Name n p0) "pop" p1) [ie] [] p2) σ H Q) (own.map (·.2))) :=
    pe_lc hc hN pi_wi ok hg (fun s0 H0 C cl fp => pts_nil) (fun s0 H0 C cl fp => ⟨fun pins s _ _ _ I h => h s0 H0 C cl fp pins s I⟩) hs
  refine do_cons (ps_ret hpe) ?_
  refine (show EvI X (.Name x px) iter σ s zs from hi) s (Ex.refl _) _ fun J s2 k2 W => ?_
  intro Dd hD
  have o2 : Own X.K s2 p xs := o.ex k2
  have hne : p ≠ Dd := Own.ne o2 hD
  refine ⟨fun i m H => ∃ (u : S) (pre l : List α) (vs : List V), u.H = H ∧ m = zs.length - i ∧ Mx (· = p) s2 u ∧ Own X.K u p l ∧ u.F Dd = none ∧ u.H Dd = some (.lst vs) ∧ Reps X.K u.F vs pre ∧ (∃ suf, popAll f l (zs.drop i) = some suf ∧ pre ++ suf = ys), ⟨zs.length, s2.newO Dd (.lst []) hD, [], xs, [], rfl, rfl, (Ex.newO hD).mx, o2.ex (Ex.newO hD), (fF hD : s2.F Dd = none), upd_same, trivial, ys, hf, rfl⟩, ?_⟩
  rintro i' m H ⟨u, pre, l, vs, rfl, rfl, ku, ol, n1, n2, n3, suf, h1, h2⟩
  by_cases hi' : i' < zs.length
  · right
    obtain ⟨g1, g2⟩ := W.go i' u zs[i'] ku.f (List.getElem?_eq_getElem hi')
    refine ⟨g1, fun H' => ∃ m', m' < zs.length - i' ∧ ∃ (u : S) (pre l : List α) (vs : List V), u.H = H' ∧ m' = zs.length - (i' + 1) ∧ Mx (· = p) s2 u ∧ Own X.K u p l ∧ u.F Dd = none ∧ u.H Dd = some (.lst vs) ∧ Reps X.K u.F vs pre ∧ (∃ suf, popAll f l (zs.drop (i' + 1)) = some suf ∧ pre ++ suf = ys), fun H' z => z, fun v H' hy => ?_⟩
    obtain ⟨u', rfl, ku', rv⟩ := g2 v H' hy
    refine ⟨by show wipe ((wipe σ (own.map (·.2))).set j (some v)) (own.map (·.2)) = _; rw [wipe_set hjo]; exact wipe_wipe fun _ z => z, ?_⟩
    unfold tYes
    dsimp only
    rw [if_pos rfl]
    rw [List.drop_eq_getElem_cons hi'] at h1
    unfold popAll at h1
    obtain ⟨z, hz1, h1⟩ := bndE h1
    obtain ⟨⟨y, l'⟩, hz2, h1⟩ := bndE h1
    obtain ⟨suf', hz3, h1⟩ := bndE h1
    cases h1
    obtain ⟨jj, e1, e2, e3⟩ := popAt_some hz2
    subst e3
    have kk : Mx (· = p) s u' := (k2.mx.trans ku).trans ku'.mx
    intro s0 H0 C cl fp
    refine we_pop (X := Blk X scope s0 H0 C cl fp) (e := ie) i (hσ v) (ol.ex ku') (he l zs[i'] z v u' (List.getElem_mem hi') kk (ol.ex ku') rv hz1 s0 H0 C cl fp) e1 e2 (fun w u4 m4 o4 r4 => ?_) hNi (hv s0 H0 C cl fp) hd hcd (hbase s0 H0 C cl fp) (hfew s0 H0 C cl fp) hline (hs1 s0 H0 C cl fp) (hplain s0 H0 C cl fp)
    have k5 : Mx (· = p) u u4 := ku'.mx.trans m4
    have hD4 : u4.H Dd = some (.lst vs) := k5.h _ _ n2 fun z => hne z.symm
    have hF4 : u4.F Dd = none := k5.n _ _ n2 n1
    have hlen : vs.length < sizeLine := by
      have e1 := n3.len
      have e2 : ys.length = pre.length + (suf'.length + 1) := by rw [← h2, List.length_append, List.length_cons]
      omega
    have hlt : zs.length - (i' + 1) < zs.length - i' := by omega
    have md : Mx (· = p) s2 (u4.put Dd (.lst (vs ++ [w])) hF4) := ⟨(ku.trans k5).f, fun a ob h nn => by
      show upd u4.H Dd _ a = some ob
      rw [upd_ne (ne_of_none h hD)]; exact (ku.trans k5).h a ob h nn, (ku.trans k5).n, fun a ob h => by
      obtain ⟨ob', h'⟩ := (ku.trans k5).d a ob h
      exact ⟨ob', by show upd u4.H Dd _ a = some ob'; rw [upd_ne (ne_of_none h hD)]; exact h'⟩⟩
    exact ⟨vs, hD4, hlen, _, hlt, u4.put Dd (.lst (vs ++ [w])) hF4, pre ++ [y], _, vs ++ [w], rfl, rfl, md, o4.mx (Mx.put hF4) hne, hF4, upd_same, (n3.mono k5.f).snoc r4, suf', hz3, by rw [List.append_assoc]; exact h2⟩
  · left
    have hd : zs.drop i' = [] := List.drop_eq_nil_of_le (by omega)
    rw [hd] at h1
    cases h1
    refine ⟨W.stop i' u ku.f (by omega), k Dd u (k2.mx.trans ku) (fr_back k2 hD) ⟨n1, vs, n2, ?_⟩⟩
    rw [← h2, List.append_nil]
    exact n3
end
end Dy

namespace Dy
open PySem PySem.Spec L2
open PyProof.Rows hiding St

theorem php : ∀ (n : Nat) (l : List Nat), l.Nodup → (∀ x ∈ l, x < n) → l.length ≤ n
  | 0, [], _, _ => Nat.le_refl _
  | 0, x :: _, _, h => absurd (h x List.mem_cons_self) (Nat.not_lt_zero _)
  | n + 1, l, hn, h => by
    by_cases hm : n ∈ l
    · have h1 := php n (l.erase n) (hn.erase n) (fun x hx => by
        have h2 := h x (List.mem_of_mem_erase hx)
        have h3 : x ≠ n := (hn.mem_erase_iff.mp hx).1
        omega)
      rw [List.length_erase_of_mem hm] at h1
      omega
    · have := php n l hn (fun x hx => by
        have h2 := h x hx
        have h3 : x ≠ n := fun e => hm (e ▸ hx)
        omega)
      omega
theorem mem_rng {a b x : Int} : x ∈ rng a b ↔ a ≤ x ∧ x < b := by
  constructor
  · exact rng_mem
  · intro ⟨h1, h2⟩
    unfold rng
    refine List.mem_map.mpr ⟨(x - a).toNat, List.mem_range.mpr (by omega), by omega⟩
theorem rng_nodup (a b : Int) : (rng a b).Nodup := by
  unfold rng
  refine List.Pairwise.map _ (fun x y h e => h (by omega)) List.nodup_range
theorem rng_sorted (a b : Int) : (rng a b).Pairwise (· ≤ ·) := by
  unfold rng
  refine List.Pairwise.map _ (fun x y h => ?_) List.pairwise_lt_range
  omega
theorem sort_perm (xs : List Int) : (sortI xs).Perm xs := List.mergeSort_perm _ _
theorem sort_of_perm {xs ys : List Int} (h : xs.Perm ys) (hs : ys.Pairwise (· ≤ ·)) : sortI xs = ys := by
  refine List.Perm.eq_of_pairwise (le := fun x y : Int => x ≤ y) (fun a b _ _ h h' => Int.le_antisymm h h') ?_ hs ((sort_perm xs).trans h)
  have := List.pairwise_mergeSort (le := fun x y : Int => decide (x ≤ y)) (fun a b c h1 h2 => by simp at *; omega) (fun a b => by simp; omega) xs
  exact this.imp (by simp)
theorem perm_rng {l : List Int} {n : Nat} (h1 : l.Nodup) (h2 : l.length = n) (h3 : ∀ x ∈ l, 0 ≤ x ∧ x < n) : l.Perm (rng 0 n) := by
  refine (List.perm_ext_iff_of_nodup h1 (rng_nodup 0 n)).mpr fun a => ⟨fun h => mem_rng.mpr (h3 a h), fun h => ?_⟩
  obtain ⟨a0, a1⟩ := mem_rng.mp h
  refine Classical.byContradiction fun hn => ?_
  have h4 : ((a :: l).map Int.toNat).Nodup := by
    refine List.Pairwise.map (R := fun x y => x ≠ y ∧ 0 ≤ x ∧ 0 ≤ y) _ (fun x y ⟨h, p, q⟩ e => h (by omega)) ?_
    refine List.pairwise_cons.mpr ⟨fun x hx => ⟨fun e => hn (e ▸ hx), a0, (h3 x hx).1⟩, ?_⟩
    refine List.Pairwise.imp_of_mem (fun {x y} hx hy h => ⟨h, (h3 x hx).1, (h3 y hy).1⟩) h1
  have h5 := php n _ h4 (fun x hx => by
    obtain ⟨y, hy, rfl⟩ := List.mem_map.mp hx
    rcases List.mem_cons.mp hy with rfl | hy
    · omega
    · have := h3 y hy; omega)
  simp at h5
  omega
def nxt (o : List Int) (x : Int) : Int := o.getD x.toNat 0
def it (o : List Int) : Nat → Int → Int
  | 0, x => x
  | k + 1, x => nxt o (it o k x)
theorem it_add (o : List Int) (a b : Nat) (x : Int) : it o (a + b) x = it o a (it o b x) := by
  induction a with
  | zero => rw [Nat.zero_add]; rfl
  | succ a ih => rw [Nat.succ_add]; show nxt o _ = nxt o _; rw [ih]
theorem it_one (o : List Int) (x : Int) : it o 1 x = nxt o x := rfl
theorem it_comm (o : List Int) (a b : Nat) (x : Int) : it o a (it o b x) = it o b (it o a x) := by rw [← it_add, ← it_add, Nat.add_comm]
structure IsOrd (o : List Int) : Prop where
  l1 : 1 ≤ o.length
  l2 : o.length ≤ 40
  pm : o.Perm (rng 0 o.length)
theorem isOrd_sort {o : List Int} (h1 : 1 ≤ o.length) (h2 : o.length ≤ 40) (h3 : sortI o = rng 0 o.length) : IsOrd o := ⟨h1, h2, by rw [← h3]; exact (sort_perm o).symm⟩
section
variable {o : List Int}
theorem IsOrd.sort (h : IsOrd o) : sortI o = rng 0 o.length := sort_of_perm h.pm (rng_sorted _ _)
theorem IsOrd.nd (h : IsOrd o) : o.Nodup := h.pm.nodup_iff.mpr (rng_nodup _ _)
theorem IsOrd.mem (h : IsOrd o) {x : Int} : x ∈ o ↔ 0 ≤ x ∧ x < o.length := h.pm.mem_iff.trans mem_rng
theorem nxt_get {x : Int} (h0 : 0 ≤ x) (h1 : x < o.length) : o[x.toNat]? = some (nxt o x) := by
  unfold nxt
  have : x.toNat < o.length := by omega
  rw [List.getElem?_eq_getElem this, List.getD_eq_getElem?_getD, List.getElem?_eq_getElem this]; rfl
theorem nxt_at {x : Int} (h0 : 0 ≤ x) (h1 : x < o.length) : atI o x = some (nxt o x) := by rw [atI_get h0 h1, nxt_get h0 h1]
theorem IsOrd.nxt (h : IsOrd o) {x : Int} (h0 : 0 ≤ x) (h1 : x < o.length) : 0 ≤ Dy.nxt o x ∧ Dy.nxt o x < o.length := h.mem.mp (List.mem_of_getElem? (nxt_get h0 h1))
theorem IsOrd.it (h : IsOrd o) {x : Int} (h0 : 0 ≤ x) (h1 : x < o.length) : ∀ k, 0 ≤ Dy.it o k x ∧ Dy.it o k x < o.length
  | 0 => ⟨h0, h1⟩
  | k + 1 => h.nxt (h.it h0 h1 k).1 (h.it h0 h1 k).2
theorem IsOrd.inj (h : IsOrd o) {x y : Int} (x0 : 0 ≤ x) (x1 : x < o.length) (y0 : 0 ≤ y) (y1 : y < o.length) (e : Dy.nxt o x = Dy.nxt o y) : x = y := by
  have h1 := nxt_get x0 x1
  have h2 := nxt_get y0 y1
  rw [← e] at h2
  obtain ⟨a1, b1⟩ := List.getElem?_eq_some_iff.mp h1
  obtain ⟨a2, b2⟩ := List.getElem?_eq_some_iff.mp h2
  have := (List.getElem_inj h.nd (i := x.toNat) (j := y.toNat) (h₀ := a1) (h₁ := a2)).mp (b1.trans b2.symm)
  omega
theorem IsOrd.itInj (h : IsOrd o) : ∀ (k : Nat) {x y : Int}, 0 ≤ x → x < o.length → 0 ≤ y → y < o.length → Dy.it o k x = Dy.it o k y → x = y
  | 0, _, _, _, _, _, _, e => e
  | k + 1, _, _, x0, x1, y0, y1, e => h.itInj k x0 x1 y0 y1 (h.inj (h.it x0 x1 k).1 (h.it x0 x1 k).2 (h.it y0 y1 k).1 (h.it y0 y1 k).2 e)
theorem least {p : Nat → Prop} : ∀ n, p n → ∃ m, m ≤ n ∧ p m ∧ ∀ k, k < m → ¬ p k := by
  intro n
  induction n using Nat.strongRecOn with
  | _ n ih =>
    intro h
    by_cases hk : ∃ k, k < n ∧ p k
    · obtain ⟨k, h1, h2⟩ := hk
      obtain ⟨m, h3, h4, h5⟩ := ih k h1 h2
      exact ⟨m, by omega, h4, h5⟩
    · exact ⟨n, Nat.le_refl _, h, fun k hk' hp => hk ⟨k, hk', hp⟩⟩
theorem IsOrd.cycle (h : IsOrd o) {x : Int} (h0 : 0 ≤ x) (h1 : x < o.length) : ∃ L, 1 ≤ L ∧ L ≤ o.length ∧ Dy.it o L x = x ∧ ∀ k, 0 < k → k < L → Dy.it o k x ≠ x := by
  have ex : ∃ L, 1 ≤ L ∧ L ≤ o.length ∧ Dy.it o L x = x := by
    refine Classical.byContradiction fun hn => ?_
    have hne : ∀ i j, i < j → j ≤ o.length → Dy.it o i x ≠ Dy.it o j x := fun i j hij hj e => by
      refine hn ⟨j - i, by omega, by omega, ?_⟩
      have e2 : Dy.it o i x = Dy.it o i (Dy.it o (j - i) x) := by rw [← it_add, show i + (j - i) = j by omega]; exact e
      have := h.it h0 h1 (j - i)
      exact (h.itInj i h0 h1 this.1 this.2 e2).symm
    have h2 : ((List.range (o.length + 1)).map fun k => (Dy.it o k x).toNat).Nodup := by
      refine List.Pairwise.map (R := fun a b => a < b ∧ b ≤ o.length) _ (fun a b ⟨p, q⟩ e => ?_) ?_
      · have e1 := h.it h0 h1 a
        have e2 := h.it h0 h1 b
        exact hne a b p q (by omega)
      · refine List.Pairwise.imp_of_mem (fun {a b} ha hb hlt => ⟨hlt, by have := List.mem_range.mp hb; omega⟩) List.pairwise_lt_range
    have h3 := php o.length _ h2 (fun y hy => by
      obtain ⟨k, _, rfl⟩ := List.mem_map.mp hy
      have := h.it h0 h1 k
      omega)
    rw [List.length_map, List.length_range] at h3
    omega
  obtain ⟨L, a, b, c⟩ := ex
  obtain ⟨m, m1, ⟨m2, m3, m4⟩, m5⟩ := least (p := fun L => 1 ≤ L ∧ L ≤ o.length ∧ Dy.it o L x = x) L ⟨a, b, c⟩
  exact ⟨m, m2, m3, m4, fun k k0 k1 e => m5 k k1 ⟨by omega, by omega, e⟩⟩
theorem it_mul {L : Nat} {x : Int} (h : Dy.it o L x = x) : ∀ q, Dy.it o (L * q) x = x
  | 0 => rfl
  | q + 1 => by rw [Nat.mul_succ, it_add, h, it_mul h q]
theorem it_mod {L : Nat} {x : Int} (h : Dy.it o L x = x) (m : Nat) : Dy.it o (m % L) x = Dy.it o m x := by
  conv => rhs; rw [← Nat.mod_add_div m L, it_add, it_mul h]
def srv (o : List Int) (m : Nat) : List Int := (rng 0 o.length).map (Dy.it o m)
theorem srv_len (o : List Int) (m : Nat) : (srv o m).length = o.length := by unfold srv; rw [List.length_map, rng_len]; omega
theorem rng_getE {a b : Int} {i : Nat} (h : i < (b - a).toNat) : (rng a b)[i]? = some (a + (i : Int)) := by
  unfold rng
  rw [List.getElem?_map, List.getElem?_range h]; rfl
theorem srv_at {m : Nat} {x : Int} (h0 : 0 ≤ x) (h1 : x < o.length) : atI (srv o m) x = some (Dy.it o m x) := by
  rw [atI_get h0 (by rw [srv_len]; exact h1)]
  unfold srv
  rw [List.getElem?_map, rng_getE (by omega)]
  show some (Dy.it o m (0 + (x.toNat : Int))) = _
  rw [show (0 : Int) + (x.toNat : Int) = x by omega]
theorem srv_perm (h : IsOrd o) (m : Nat) : (srv o m).Perm (rng 0 o.length) := by
  refine perm_rng ?_ (srv_len o m) (fun x hx => ?_)
  · refine List.Pairwise.map (R := fun (a b : Int) => a ≠ b ∧ (0 ≤ a ∧ a < (o.length : Int)) ∧ 0 ≤ b ∧ b < (o.length : Int)) _ (fun a b ⟨p, q, r⟩ e => p (h.itInj m q.1 q.2 r.1 r.2 e)) ?_
    exact List.Pairwise.imp_of_mem (fun {a b} ha hb hne => ⟨hne, mem_rng.mp ha, mem_rng.mp hb⟩) (rng_nodup _ _)
  · obtain ⟨y, hy, rfl⟩ := List.mem_map.mp hx
    obtain ⟨a, b⟩ := mem_rng.mp hy
    exact h.it a b m
theorem srv_mem (h : IsOrd o) {m : Nat} {x : Int} (hx : x ∈ srv o m) : 0 ≤ x ∧ x < o.length := mem_rng.mp ((srv_perm h m).mem_iff.mp hx)
theorem srv_zero (o : List Int) : srv o 0 = rng 0 o.length := by
  unfold srv
  have : (Dy.it o 0 : Int → Int) = id := by funext x; rfl
  rw [this, List.map_id]
theorem srv_one (o : List Int) : srv o 1 = o := by
  refine List.ext_getElem? fun i => ?_
  unfold srv
  rw [List.getElem?_map]
  by_cases h : i < o.length
  · rw [rng_getE (by omega)]
    show some (Dy.nxt o (0 + (i : Int))) = _
    have := nxt_get (o := o) (x := (i : Int)) (by omega) (by omega)
    rw [show (0 : Int) + (i : Int) = (i : Int) by omega, ← this]
    congr 1
  · rw [List.getElem?_eq_none (by rw [rng_len]; omega), List.getElem?_eq_none (by omega)]; rfl
theorem srv_add (a b : Nat) : (srv o a).map (Dy.it o b) = srv o (b + a) := by
  unfold srv
  rw [List.map_map]
  exact List.map_congr_left fun x _ => (it_add o b a x).symm
end
theorem erase_perm {τ : Type} : ∀ (l : List τ) (i : Nat) (h : i < l.length), (l[i] :: l.eraseIdx i).Perm l
  | [], i, h => absurd h (Nat.not_lt_zero _)
  | x :: xs, 0, _ => List.Perm.refl _
  | x :: xs, i + 1, h => (List.Perm.swap x _ _).trans (List.Perm.cons x (erase_perm xs i (Nat.lt_of_succ_lt_succ h)))
theorem popAt_ok {τ : Type} {l : List τ} {z : Int} (h0 : 0 ≤ z) (h1 : z < l.length) (h2 : l.length < 1000000) : Ok (popAt l z) (fun r => (r.1 :: r.2).Perm l) := by
  unfold popAt popN seqIndex?
  have hl : z.toNat < l.length := by omega
  rw [if_pos ⟨by omega, by omega⟩]
  simp only
  rw [show (if z < 0 then z + (l.length : Int) else z) = z from if_neg (by omega), if_pos (by rw [Bool.and_eq_true]; exact ⟨decide_eq_true h0, decide_eq_true h1⟩), Option.bind_some, List.getElem?_eq_getElem hl]
  exact ok_some (erase_perm l _ hl)
theorem ok_popAll {σ τ : Type} {f : List τ → σ → Option Int} : ∀ {xs : List σ} {l : List τ}, (∀ l' x, l' ≠ [] → l'.length ≤ l.length → x ∈ xs → Ok (f l' x) (fun z => 0 ≤ z ∧ z < l'.length)) → xs.length ≤ l.length → l.length < 1000000 → Ok (popAll f l xs) (fun ys => ys.length = xs.length ∧ ∃ r, (ys ++ r).Perm l)
  | [], l, _, _, _ => ⟨[], rfl, rfl, l, List.Perm.refl _⟩
  | x :: xs, l, h, hl, hz => by
    rw [List.length_cons] at hl
    have hne : l ≠ [] := fun e => by subst e; simp at hl
    unfold popAll
    refine ok_bnd (h l x hne (Nat.le_refl _) List.mem_cons_self) fun z ⟨z0, z1⟩ => ok_bnd (popAt_ok z0 z1 hz) fun r hr => ?_
    have hlen : r.2.length + 1 = l.length := by have := hr.length_eq; rw [List.length_cons] at this; exact this
    refine ok_bnd (ok_popAll (fun l' y hn hl' hy => h l' y hn (by omega) (List.mem_cons_of_mem _ hy)) (by omega) (by omega)) fun ys ⟨e1, r', e2⟩ => ok_some ⟨by rw [List.length_cons, List.length_cons, e1], r', ?_⟩
    exact (List.Perm.cons r.1 e2).trans hr
theorem repl_one {τ : Type} (n : Int) (x : τ) : repl n [x] = List.replicate n.toNat x := by
  unfold repl
  exact List.flatten_replicate_singleton
end Dy

namespace Dy
open PySem PySem.Spec L2
open PyProof.Rows hiding St
instance {α β : Type} [Enc α] [Enc β] : Opn (α × β) := ⟨fun h => by obtain ⟨_, _, _, e, _⟩ := h; cases e⟩
instance {α β γ : Type} [Enc α] [Enc β] [Enc γ] : Opn (T3 α β γ) := ⟨fun h => by obtain ⟨_, _, _, _, e, _⟩ := h; cases e⟩
instance {α β γ : Type} {n m k : Nat} [Shp α n] [Shp β m] [Shp γ k] : Shp (T3 α β γ) (n + m + k + 1) := ⟨fun x => by
  obtain ⟨h1, h2⟩ := Shp.ok x.a
  obtain ⟨h3, h4⟩ := Shp.ok x.b
  obtain ⟨h5, h6⟩ := Shp.ok x.c
  refine ⟨?_, ?_⟩
  · show PyData.canLay0 (.tuple [EqD.toD x.a, EqD.toD x.b, EqD.toD x.c]) = true
    simp [PyData.canLay0, PyData.canLayAll0, h1, h3, h5]
  · show PyData.depth (.tuple [EqD.toD x.a, EqD.toD x.b, EqD.toD x.c]) ≤ n + m + k + 1
    simp [PyData.depth, PyData.depthAll]
    omega⟩
section
variable {X : Cx} {K : PySem.W.Frag} {a b e : Expr} {σ : St} {s : S} {p0 p1 p2 pos : Pos} {α β : Type} [Enc α] [Enc β]
def ixS (x y : Str) : Option Nat := (Builtin.Str.occurrences y x 0 y.length 1).head?
theorem ev_indexS {x y : Str} {j : Nat} (ha : Ev X a σ s y) (hb : Ev X b σ s x) (h : ixS x y = some j)
    (hs : starEach [b] X.env = [(false, eval b X.env)] := by rfl) (hbase : attributeBase a "index" X.env (eval a X.env) = eval a X.env := by rfl) (hline : (p1.endLine == pos.line) = true := by rfl) :
    Ev X (.Call (.Attribute a "index" p1) [b] [] pos) σ s (j : Int) := fun s1 k Q q =>
  we_of (pe_m1 PySem.F.slot_str_index PySem.F.type_str_index mt_sindex pe_we pe_we hs hbase hline) (ha s1 k _ fun v s2 k2 r2 => ⟨⟨y, r2⟩, hb s2 (k.trans k2) _ fun u s3 k3 r3 => by
    unfold ixS at h
    obtain ⟨rest, hr⟩ : ∃ rest, Builtin.Str.occurrences y x 0 y.length 1 = j :: rest := by
      cases ho : Builtin.Str.occurrences y x 0 y.length 1 with
      | nil => rw [ho] at h; cases h
      | cons i rest => rw [ho] at h; cases h; exact ⟨rest, rfl⟩
    exact ⟨y, x, j, rest, r2, by rw [show u = V.str x from r3], hr, q _ s3 (k2.trans k3) rfl⟩⟩)
end
section
variable {α α' α'' β : Type} [Enc α] [Enc α'] [Enc α''] [Enc β] {X : Cx} {σ : St} {s : S} {elt tg iter c : Expr} {ifs : List Expr} {scope : Scope} {own : List (Str × Nat)} {pos : Pos}
theorem ev_some' {e : Expr} {x : Option α} {y : α} (ha : Ev X e σ s x) (h : x = some y) : Ev X e σ s y := fun s1 k Q q => by
  subst h
  exact ha s1 k Q fun v s2 k2 r2 => q v s2 k2 r2
theorem en_comp0P {xs : List (α × α')} {ys : List β} {f : α × α' → Option β} {i j : Nat} (hc : X.calm = true) (hN : X.N.Nodup) (hi : EvI X tg iter σ s xs) (ok : BlkOk X.N X.env.scope scope own)
    (hio : i ∈ own.map (·.2)) (hjo : j ∈ own.map (·.2)) (hg : ∀ s0 H0 C cl fp, PG (Blk X scope s0 H0 C cl fp) tg (gTup X.K 2 (gCons (gName i) (gCons (gName j) gNil)))) (hf : mapO f xs = some ys) (hz : ys.length ≤ sizeLine)
    (he : ∀ (x : α × α') (y : β) (v u : V) (s1 : S), x ∈ xs → Ex s s1 → Enc.rep X.K s1.F v x.1 → Enc.rep X.K s1.F u x.2 → f x = some y → ∀ s0 H0 C cl fp, Ev (Blk X scope s0 H0 C cl fp) elt (((wipe σ (own.map (·.2))).set i (some v)).set j (some u)) s1 y)
    (hs : ∀ x, foldedSetIterable iter X.env x = pure x := by intro _; rfl) : EvL X elt tg iter [] scope σ s ys :=
  ⟨hc, hN, hs, own, _, _, ok, hg, fun _ _ _ _ _ => pts_nil, fun s1 k Q q => comp_read (t := fun _ => some true) hc hN hi ok hg tg_2 (fun _ _ _ _ _ => pts_nil) hf hz (fun F x σ2 ⟨v, u, _, _, e⟩ => by rw [e, wipe_set hjo, wipe_set hio]; exact wipe_wipe fun _ z => z)
    (fun x b s1 σ2 Q _ _ _ hb q => by cases hb; exact q s1 (Ex.refl _)) (fun x y s1 σ2 hx k ⟨v, u, r, r', e⟩ _ hfx => by subst e; exact he x y v u s1 hx k r r' hfx) s1 k Q q⟩
theorem en_comp1P {xs : List (α × α')} {ys : List β} {t : α × α' → Option Bool} {f : α × α' → Option β} {i j : Nat} (hc : X.calm = true) (hN : X.N.Nodup) (hi : EvI X tg iter σ s xs) (ok : BlkOk X.N X.env.scope scope own)
    (hio : i ∈ own.map (·.2)) (hjo : j ∈ own.map (·.2)) (hg : ∀ s0 H0 C cl fp, PG (Blk X scope s0 H0 C cl fp) tg (gTup X.K 2 (gCons (gName i) (gCons (gName j) gNil)))) (hf : compO t f xs = some ys) (hz : ys.length ≤ sizeLine)
    (ht : ∀ (x : α × α') (b : Bool) (v u : V) (s1 : S), x ∈ xs → Ex s s1 → Enc.rep X.K s1.F v x.1 → Enc.rep X.K s1.F u x.2 → t x = some b → ∀ s0 H0 C cl fp, EvT (Blk X scope s0 H0 C cl fp) c (((wipe σ (own.map (·.2))).set i (some v)).set j (some u)) s1 b)
    (he : ∀ (x : α × α') (y : β) (v u : V) (s1 : S), x ∈ xs → Ex s s1 → Enc.rep X.K s1.F v x.1 → Enc.rep X.K s1.F u x.2 → t x = some true → f x = some y → ∀ s0 H0 C cl fp, Ev (Blk X scope s0 H0 C cl fp) elt (((wipe σ (own.map (·.2))).set i (some v)).set j (some u)) s1 y)
    (hs : ∀ x, foldedSetIterable iter X.env x = pure x := by intro _; rfl) : EvL X elt tg iter [c] scope σ s ys :=
  ⟨hc, hN, hs, own, _, _, ok, hg, fun s0 H0 C cl fp => pts_one ⟨fun pins s _ _ _ I h => h s0 H0 C cl fp pins s I⟩, fun s1 k Q q => comp_read (tt := fun σ H Q => ∀ s0 H0 C cl fp, WT (Blk X scope s0 H0 C cl fp) c σ H Q) hc hN hi ok hg tg_2 (fun s0 H0 C cl fp => pts_one ⟨fun pins s _ _ _ I h => h s0 H0 C cl fp pins s I⟩) hf hz (fun F x σ2 ⟨v, u, _, _, e⟩ => by rw [e, wipe_set hjo, wipe_set hio]; exact wipe_wipe fun _ z => z)
    (fun x b s1 σ2 Q hx k ⟨v, u, r, r', e⟩ hb q => by subst e; intro s0 H0 C cl fp; exact ht x b v u s1 hx k r r' hb s0 H0 C cl fp s1 (Ex.refl _) Q q) (fun x y s1 σ2 hx k ⟨v, u, r, r', e⟩ htx hfx => by subst e; exact he x y v u s1 hx k r r' htx hfx) s1 k Q q⟩
end
end Dy

namespace Dy
open PySem PySem.Spec L2
open PyProof.Rows hiding St
open Enc (rep)
open EncA (repA)

inductive Er where
  | pl (c : Str)
  | pi (c f : Str) (i : Int)
  | ps (c f x : Str)
def Er.c : Er → Str
  | .pl c => c
  | .pi c _ _ => c
  | .ps c _ _ => c
inductive Rz (ρ : Type) where
  | ok (r : ρ)
  | er (e : Er)
def tb {α β : Type} (m : Option (Rz α)) (h : Er → Option β) (k : α → Option β) : Option β := match m with
  | none => none
  | some (.ok r) => k r
  | some (.er e) => h e
theorem tbE {α β : Type} {m : Option (Rz α)} {h : Er → Option β} {k : α → Option β} {o : β} (hm : tb m h k = some o) : (∃ e, m = some (.er e) ∧ h e = some o) ∨ ∃ r, m = some (.ok r) ∧ k r = some o := by
  cases m with
  | none => cases hm
  | some x => cases x with
    | ok r => exact .inr ⟨r, rfl, hm⟩
    | er e => exact .inl ⟨e, rfl, hm⟩
def ExR (K : PySem.W.Frag) (F : Hp) (e : Er) (cls : Value) (d : Option Addr) : Prop := match e with
  | .pl c => cls = .ref (He.ga K c) ∧ d = none
  | .pi c f i => cls = .ref (He.ga K c) ∧ ∃ dd, d = some dd ∧ F dd = some (.xd [(f, V.int i)])
  | .ps c f x => cls = .ref (He.ga K c) ∧ ∃ dd, d = some dd ∧ F dd = some (.xd [(f, V.str x)])
theorem exR_cls {K : PySem.W.Frag} {F : Hp} {e : Er} {cls : Value} {d : Option Addr} (h : ExR K F e cls d) : cls = .ref (He.ga K e.c) := by
  cases e with
  | pl c => exact h.1
  | pi c f i => exact h.1
  | ps c f x => exact h.1
theorem ExR.mono {K : PySem.W.Frag} {F F' : Hp} {e : Er} {cls : Value} {d : Option Addr} (k : Fle F F') (h : ExR K F e cls d) : ExR K F' e cls d := by
  cases e with
  | pl c => exact h
  | pi c f i => obtain ⟨h1, dd, h2, h3⟩ := h; exact ⟨h1, dd, h2, k _ _ h3⟩
  | ps c f x => obtain ⟨h1, dd, h2, h3⟩ := h; exact ⟨h1, dd, h2, k _ _ h3⟩
def RzQ {ρ : Type} [Enc ρ] (K : PySem.W.Frag) (s : S) (o : Rz ρ) (Q : VK) (E : XK) : Prop := match o with
  | .ok r => ∀ v s', Ex s s' → rep K s'.F v r → Q v s'.H
  | .er e => ∀ cls d s', Ex s s' → ExR K s'.F e cls d → E cls d s'.H
def spR {A : Type} [EncA A] {ρ : Type} [Enc ρ] (K : PySem.W.Frag) (m : A → Option (Rz ρ)) : Sp := fun vs H Q E => ∃ (s : S) (x : A) (o : Rz ρ), s.H = H ∧ repA K s.F vs x ∧ m x = some o ∧ RzQ K s o Q E
section
variable {X : Cx} {σ : St} {s : S} {e : Expr} {es : List Expr} {p0 p1 p2 pos : Pos} {α : Type} [Enc α]
theorem ev_callR {A : Type} [EncA A] {m : A → Option (Rz α)} {n : Str} {k j : Nat} {x : A} {r : α} (C : Cal X.prog X.w X.K X.mg X.base (L2.CX X.prog X.w) k n (spR X.K m)) (hr : Room j X.A) (hk : k ≤ j) (ha : EvA X (e :: es) σ s x) (h : m x = some (.ok r)) (hg : Gl X n := by rfl)
    (hdb : (n == ("__debug__" : Str)) = false := by decide) (he : starEach (e :: es) X.env = (false, eval e X.env) :: starEach es X.env := by rfl) (hpl : (backTo pos (starEach es X.env)).any (·.1) = false := by rfl) : Ev X (.Call (.Name n p0) (e :: es) [] pos) σ s r := fun s1 k1 Q q => by
  obtain ⟨f, fd, ps, F, hm, kp, b⟩ := C.ex
  refine we_of (pe_callS (E := fun _ _ _ _ => False) F (hr.mono hk) hg hm kp b (fun σ' pins H sh ev s' I c => ?_) pa_wa hdb he hpl) (ha s1 k1 _ fun vs s2 k2 r2 => ⟨s2, x, .ok r, rfl, r2, h, fun v s3 k3 r3 => q v s3 (k2.trans k3) r3⟩)
  obtain ⟨_, _, _, _, _, _, _, _, _, _, _, _, hf⟩ := c
  exact hf.elim
def EvX (X : Cx) (e : Expr) (σ : St) (s : S) : Prop := ∀ s1, Ex s s1 → ∀ Q, WE X e σ s1.H Q
theorem EvX.ev (h : EvX X e σ s) (x : α) : Ev X e σ s x := fun s1 k Q _ => h s1 k Q
theorem evX_call {A : Type} [EncA A] {ρ : Type} [Enc ρ] {m : A → Option (Rz ρ)} {n : Str} {k j : Nat} {x : A} {er : Er} {W : WX} (C : Cal X.prog X.w X.K X.mg X.base (L2.CX X.prog X.w) k n (spR X.K m)) (tk : Takes X W) (hr : Room j X.A) (hk : k ≤ j) (ha : EvA X (e :: es) σ s x) (h : m x = some (.er er))
    (hw : ∀ cls d s2, Ex s s2 → ExR X.K s2.F er cls d → W cls d σ s2.H) (hg : Gl X n := by rfl)
    (hdb : (n == ("__debug__" : Str)) = false := by decide) (he : starEach (e :: es) X.env = (false, eval e X.env) :: starEach es X.env := by rfl) (hpl : (backTo pos (starEach es X.env)).any (·.1) = false := by rfl) : EvX X (.Call (.Name n p0) (e :: es) [] pos) σ s := fun s1 k1 Q => by
  obtain ⟨f, fd, ps, F, hm, kp, b⟩ := C.ex
  exact we_of (pe_callS (E := L2.WE W) F (hr.mono hk) hg hm kp b (fun σ' => passAt tk σ') pa_wa hdb he hpl) (ha s1 k1 _ fun vs s2 k2 r2 => ⟨s2, x, .er er, rfl, r2, h, fun cls d s3 k3 r3 => hw cls d s3 ((k1.trans k2).trans k3) r3⟩)
inductive Nv where
  | nv
instance : Enc Nv := ⟨fun _ _ _ _ => False, fun _ h => h⟩
theorem nv_elim {K : PySem.W.Frag} {F : Hp} {v : V} {x : Nv} {p : Prop} (h : rep K F v x) : p := (show False from h).elim
theorem nv2_elim {β : Type} [Enc β] {K : PySem.W.Frag} {F : Hp} {v : V} {x : β × Nv} {p : Prop} (h : rep K F v x) : p := by
  obtain ⟨_, _, _, _, _, _, h⟩ := h
  exact (show False from h).elim
end
section
variable {P : Program} {w : World} {K : PySem.W.Frag} {mg : Str → Option Value} {base : Heap}
theorem mk_calR {A ρ : Type} [EncA A] [Enc ρ] {m : A → Option (Rz ρ)} {x : Str} {st : Stmt} {f : Addr} {fd : FuncData} {N ps : List Str} {k : Nat} (F : FunP K x st f fd) (hm : mg x = some (.ref f)) (b : Binds K fd ps []) (Sc : FnScope N ps (defScope st))
    (hl : ∀ (F : Hp) (vs : List V) (a : A), repA K F vs a → vs.length = ps.length)
    (body : ∀ (cdv : Value) (A' : Around) (outer : List Env) (s0 : Shared) (H0 : Hp) (E0 : XK), Room k (A'.deeper (envOfC x (defScope st) s0.heap.objs.size f cdv)) → ∀ (s : S) (vs : List V) (a : A) (o : Rz ρ) (Q : VK), repA K s.F vs a → m a = some o →
      RzQ K s o Q E0 → WSs (cxOf (L2.CX P w) P w K mg base N x (defScope st) f cdv A' outer s0 H0 E0) (defBody st) (RD Q) (start N vs) s.H) : Cal P w K mg base (L2.CX P w) (k + 1) x (spR K m) :=
  ⟨f, fd, ps, F.ok Sc (fun vs H Q E ⟨s, a, r, _, h, _⟩ => hl s.F vs a h) (fun cdv A' outer s0 H0 vs Q E hr ⟨s, a, o, e, h1, h2, h3⟩ => ⟨_, pss_ws, by
    have := body cdv A' outer s0 H0 E hr s vs a o Q h1 h2 h3
    rw [e] at this
    exact this⟩), hm, F.kp, b⟩
end
structure ExcF (K : PySem.W.Frag) (mg : Str → Option Value) (c : Str) : Prop where
  q : PySem.W.excIn K (He.ga K c) He.veBase "ValueError.__new__" = true
  kp : PySem.W.keepIn K (.ref (He.ga K c)) = true
  sb : PySem.W.subIn K (.ref (He.ga K c)) (.type "BaseException") = some true
  ty : PySem.W.typeIn K (.ref (He.ga K c)) = some (.type "type")
  gl : mg c = some (.ref (He.ga K c))
section
variable {X : Cx} {σ : St} {s : S} {D : Ends} {rest : List Stmt} {W : WX}
theorem do_raise0 {c m : Str} {j : Nat} {p p2 pos pos' : Pos} (T : ExcF X.K X.mg c) (tk : Takes X W) (h : W (.ref (He.ga X.K c)) none σ s.H) (hc : X.calm = true := by rfl) (hg : Gl X c := by rfl) (hdb : (c == ("__debug__" : Str)) = false := by decide) :
    WSs X (.Raise (some (.Call (.Name c p) [.Constant (.str m) j p2] [] pos)) none pos' :: rest) D σ s.H :=
  do_cons (ps_raise hc tk (pmk_own F.excBase_ValueError T.q T.gl T.kp (raises_own T.sb T.ty) hg hdb)) h
theorem do_tryAs (i : Nat) {x n : Str} {c : Value} {body suite : List Stmt} {b₀ : Stmt} {np pos pos' : Pos} {Wout : WX} (hN : X.N.Nodup) (hcN : Names X x c) (tk : Takes X Wout)
    (h : ∀ pn xe, Takes (X.tr pn xe) (wAs X.K c i (fun a cls d D σ H => ∀ (oe : Obj) (pn : List (Addr × Obj)), Zc cls d oe → (∃ vs, oe.data = .fields vs) → WSs (X.suite a ((a, oe) :: pn)) (b₀ :: suite) D σ H) Wout { D with nx := fun σ' H' => WSs X rest D σ' H' }) → PassesOwn (model X.prog X.w) X.A X.env xe →
      WSs (X.tr pn xe) body { D with nx := fun σ' H' => WSs X rest D σ' H' } σ s.H)
    (hs : X.stack = X.env :: X.outer := by rfl) (hf : X.env.frame = some X.env.locals := by rfl) (hi : X.N[i]? = some n := by rfl) (hln : X.env.kindOf n = some .local := by rfl) :
    WSs X (.Try body [.ExceptHandler (some (.Name x np)) (some n) (b₀ :: suite) pos'] [] [] pos :: rest) D σ s.H :=
  do_cons (ps_try_as (tb := fun W D σ H => ∀ pn xe, Takes (X.tr pn xe) W → PassesOwn (model X.prog X.w) X.A X.env xe → WSs (X.tr pn xe) body D σ H) (ts := fun a cls d D σ H => ∀ (oe : Obj) (pn : List (Addr × Obj)), Zc cls d oe → (∃ vs, oe.data = .fields vs) → WSs (X.suite a ((a, oe) :: pn)) (b₀ :: suite) D σ H)
    hs hf hN hi hln hcN tk (fun W pn xe t po => ⟨fun pins sh σ H D I hh => hh pn xe t po pins sh I⟩) (fun a oe cls d pn hz hv => ⟨fun pins sh σ H D I hh => hh oe pn hz hv pins sh I⟩)) h
end
end Dy

namespace Dy
open PySem PySem.Spec L2
open PyProof.Rows hiding St
open Enc (rep)
open EncA (repA)

section
open PySem.W PySem.Calls
variable {prog : Program} {w : World} {A : Around} {E : Value → Shared → Prop} {K : Frag} {x D : Addr} {ox : Obj} {od : Option Obj}
theorem cls_bind (T : ExcC K D) : findObj K D od "__class__" = some (.bind (.builtin "getset_descriptor.__get__") (.builtin "object.__class__")) := by
  obtain ⟨cd, hc⟩ := Option.isSome_iff_exists.mp (show (clsIn K D).isSome = true by obtain ⟨cd, hc, _⟩ := any_some T.hd; rw [hc]; rfl)
  unfold findObj
  rw [hc, Option.bind_some, T.ha, Option.bind_some]
  simp [T.hn, T.ht]
theorem asks_cls {s : Shared} {Q : Option Value → Shared → Prop} (T : ExcC K D) (X : K.In s.heap) (I : PySem.W.InstAt s.heap x ox D od) (h : Q (some (.ref D)) { s with toks := s.toks + 1 }) : wpAny (model prog w) A (getAttr? (.ref x) "__class__") Q E s := by
  obtain ⟨hp, g, d, t, os⟩ := s
  have l0 := I.type (M := model prog w)
  have l1 := looks_findIn (M := model prog w) X T.hg
  have l2 := looks_findIn (M := model prog w) X T.hk
  have l3 := looks_find (M := model prog w) X I (cls_bind T)
  have sub : Looks (model prog w) hp (isInstance (.ref x) (.type "BaseException")) true := l0.andThen (looks_subIn X T.hs)
  unfold getAttr? getAttrBy? getAttrBy
  refine wpAny_bind (wpAny_mkText (wpAny_bind (wpAny_attempt (wpAny_holding (wpAny_bind (l0.at (wpAny_bind (l1.at ?_))))))))
  have no : (onTheHeap (Value.ref D) && Value.builtin "BaseException.__getattribute__" == Value.builtin "object.__getattribute__") = false := by
    rw [show (Value.builtin "BaseException.__getattribute__" == Value.builtin "object.__getattribute__") = false by decide +kernel]; rfl
  show wpAny _ _ (if (onTheHeap (Value.ref D) && Value.builtin "BaseException.__getattribute__" == Value.builtin "object.__getattribute__") = true then _ else _) _ _ _
  rw [no, if_neg Bool.false_ne_true]
  unfold getAttrByItsOwn hookBefore
  refine wpAny_bind ?_
  rw [if_pos (show onTheHeap (Value.ref D) = true from rfl)]
  refine l2.at (wpAny_bind (wpAny_attempt (wpAny_holding ?_)))
  unfold callGetattribute
  rw [show (false && onTheHeap (Value.builtin "BaseException.__getattribute__")) = false from rfl, if_neg Bool.false_ne_true]
  unfold boundAndCalled
  rw [PySem.F.excAttr_ValueError.ga.bind (.ref x)]
  refine wpAny_bind (wpAny_pure ?_)
  show wpAny _ _ (call (.builtin "BaseException.__getattribute__") [.ref x, .str "__class__" t]) _ _ _
  refine wpAny_call (codeAny_call_builtin PySem.F.excAttr_ValueError.ga.plain PySem.F.entry_bexc_ga ?_)
  refine @check_slot (model prog w) _ _ ⟨hp, g, d, t + 1, os⟩ "BaseException.__getattribute__" "BaseException" "__getattribute__" (.ref x) [.str "__class__" t] [] _ (by decide +kernel) (by decide +kernel) sub (PySem.F.args_bexc_ga (.ref x) (.str "__class__" t)) ?_
  unfold Builtin.«object.__getattribute__»
  refine wpAny_bind (wpAny_of_eq (a := ((Value.ref x : Value), [Value.str "__class__" t])) (by first | rfl | (simp only [slotArgs]; rfl)) ?_)
  refine wpAny_bind (wpAny_pure (wpAny_bind (l0.at (wpAny_bind (l3.at ?_)))))
  show wpAny _ _ (holding [Value.builtin "object.__class__"] (call (.builtin "getset_descriptor.__get__") [.builtin "object.__class__", .ref x, .ref D]) >>= ret) _ _ _
  refine wpAny_bind (wpAny_holding (wpAny_call (class_get (s := ⟨hp, g, d, t + 1, os⟩) (ox := ox) (od := od) X I T.hm (wpAny_pure ?_))))
  show wpAny _ _ (handedOut (.ref D)) _ _ _
  rw [handedOut_of (v := .ref D) rfl]
  first
    | exact wpAny_pure (wpAny_pure h)
    | exact wpAny_pure h
    | exact wpAny_pure (wpAny_bind (wpAny_pure (wpAny_pure h)))
theorem cls_at (T : ExcC K D) : ∃ c' d' cd' sl', K.lookup D = some ⟨c', d', .cls cd', sl'⟩ := by
  obtain ⟨cd, hc, _⟩ := any_some T.hd
  unfold clsIn at hc
  split at hc
  · rename_i c' d' cd' sl' ho
    exact ⟨c', d', cd', sl', ho⟩
  · cases hc
def InstE (a D : Addr) (oe : Obj) : Heap → Prop := fun h => ∃ od, PySem.W.InstAt h a oe D od
theorem kit_exc (T : ExcC K D) : KitX K (.ref x) (.ref D) (InstE x D ox) where
  ty := fun _ _ _ ⟨_, I⟩ => I.type
  it := fun _ _ X _ => by
    obtain ⟨_, _, _, _, ho⟩ := cls_at T
    intro A' Q' E' s' k q
    unfold isType loadHead
    exact wpAny_bind (wpAny_loadPart (k _ _ (X _ _ ho)) (wpAny_pure q))
  ne := fun h tp dd its n sl X htp => by
    obtain ⟨_, _, _, _, ho⟩ := cls_at T
    refine Bool.eq_false_iff.mpr fun q => ?_
    obtain rfl : D = tp := Value.ref.inj (beq_iff_eq.mp q)
    cases (X _ _ ho).symm.trans htp
  ca := fun X ⟨_, I⟩ k => asks_cls T X I k
end

structure Rw where
  v : V
instance : Enc Rw := ⟨fun _ _ v x => v = x.v, fun _ h => h⟩
theorem rw_reps {K : PySem.W.Frag} {F : Hp} : ∀ {vs : List V} {xs : List Rw}, Reps K F vs xs → vs = xs.map (·.v)
  | [], [], _ => rfl
  | _ :: _, _ :: _, ⟨h, t⟩ => by rw [List.map_cons, ← rw_reps t, show _ = _ from h]
  | [], _ :: _, h => h.elim
  | _ :: _, [], h => h.elim
def clsR (K : PySem.W.Frag) (c : Str) : V := if c = ("ValueError" : Str) then .ty "ValueError" else .ref (He.ga K c)
def clsV (K : PySem.W.Frag) (c : Str) : Value := if c = ("ValueError" : Str) then .type "ValueError" else .ref (He.ga K c)
theorem cls_cv (K : PySem.W.Frag) (c : Str) : ClsV (clsR K c) (clsV K c) := by
  unfold clsR clsV
  split
  · exact .ty _
  · exact .own _
theorem cls_all (K : PySem.W.Frag) : ∀ cs : List Str, Paired ClsV (cs.map (clsR K)) (cs.map (clsV K))
  | [] => .nil
  | c :: cs => .cons (cls_cv K c) (cls_all K cs)
def excCB (K : PySem.W.Frag) (D : Addr) : Bool := xfB K D && (He.eqO (PySem.W.findIn K (.ref D) "__class__") (some (some (.builtin "object.__class__"))) && (He.eqO (PySem.W.specialIn K (.builtin "object.__class__") "__get__") (some (some (.builtin "getset_descriptor.__get__"))) &&
  (decide (PySem.W.takesIn K (.builtin "object.__class__") = some true) && decide (PySem.W.mroIn K D (.type "object") = some true))))
theorem excCB_ok {K : PySem.W.Frag} {D : Addr} (h : excCB K D = true) : ExcC K D := by
  unfold excCB at h
  obtain ⟨h0, h⟩ := He.ba h
  obtain ⟨h5, h⟩ := He.ba h
  obtain ⟨h6, h⟩ := He.ba h
  obtain ⟨h7, h8⟩ := He.ba h
  unfold xfB at h0
  obtain ⟨h1, h0⟩ := He.ba h0
  obtain ⟨h2, h0⟩ := He.ba h0
  obtain ⟨h3, h4⟩ := He.ba h0
  exact ⟨of_decide_eq_true h1, of_decide_eq_true h2, of_decide_eq_true h3, h4, He.eqO_ok h5, He.eqO_ok h6, of_decide_eq_true h7, of_decide_eq_true h8⟩
structure ETab where
  ds : List Str
  fl : List (Str × Str)
  is : List ((Str × Str) × Bool)
  ex : List ((Str × Str) × Bool)
def lk (d c : Str) : List ((Str × Str) × Bool) → Option Bool
  | [] => none
  | q :: r => if q.1 = (d, c) then some q.2 else lk d c r
theorem lk_mem {d c : Str} {b : Bool} : ∀ {l : List ((Str × Str) × Bool)}, lk d c l = some b → ((d, c), b) ∈ l
  | [], h => by cases h
  | q :: r, h => by
    unfold lk at h
    split at h
    · rename_i e
      cases h
      rw [← e]
      exact List.mem_cons_self
    · exact List.mem_cons_of_mem _ (lk_mem h)
def ETab.ok (t : ETab) (K : PySem.W.Frag) : Bool := ((t.ds.all fun d => excCB K (He.ga K d)) && t.fl.all fun q => He.eqO (PySem.W.findIn K (.ref (He.ga K q.1)) q.2) (some none)) && ((t.is.all fun q => decide (PySem.W.kitOne K (.ref (He.ga K q.1.1)) (clsV K q.1.2) = some q.2)) && t.ex.all fun q => decide (PySem.W.exmOne K (.ref (He.ga K q.1.1)) (clsV K q.1.2) = some q.2))
def isE (t : ETab) (e : Er) (c : Str) : Option Bool := if e.c ∈ t.ds then lk e.c c t.is else none
def isEs (t : ETab) (e : Er) : List Str → Option Bool
  | [] => some false
  | c :: r => (isE t e c).bind fun b => if b = true then some true else isEs t e r
def exE (t : ETab) (e : Er) (c : Str) : Option Bool := lk e.c c t.ex
def erI (t : ETab) (e : Er) (f : Str) : Option Int := match e with
  | .pi c g i => if g = f ∧ (c, g) ∈ t.fl ∧ c ∈ t.ds then some i else none
  | _ => none
def erS (t : ETab) (e : Er) (f : Str) : Option Str := match e with
  | .ps c g x => if g = f ∧ (c, g) ∈ t.fl ∧ c ∈ t.ds then some x else none
  | _ => none
section
variable {K : PySem.W.Frag} {t : ETab}
theorem ETab.ds_ok (h : t.ok K = true) {d : Str} (hd : d ∈ t.ds) : ExcC K (He.ga K d) := by
  unfold ETab.ok at h
  exact excCB_ok (List.all_eq_true.mp (He.ba (He.ba h).1).1 d hd)
theorem ETab.xf_ok (h : t.ok K = true) {d : Str} (hd : d ∈ t.ds) : XfC K (He.ga K d) := by
  unfold ETab.ok at h
  have := List.all_eq_true.mp (He.ba (He.ba h).1).1 d hd
  unfold excCB at this
  exact xfB_ok (He.ba this).1
theorem ETab.fl_ok (h : t.ok K = true) {d f : Str} (hd : (d, f) ∈ t.fl) : PySem.W.findIn K (.ref (He.ga K d)) f = some none := by
  unfold ETab.ok at h
  exact He.eqO_ok (List.all_eq_true.mp (He.ba (He.ba h).1).2 _ hd)
theorem ETab.is_ok (h : t.ok K = true) {d c : Str} {b : Bool} (hl : lk d c t.is = some b) : PySem.W.kitOne K (.ref (He.ga K d)) (clsV K c) = some b := by
  unfold ETab.ok at h
  exact of_decide_eq_true (List.all_eq_true.mp (He.ba (He.ba h).2).1 _ (lk_mem hl))
theorem ETab.ex_ok (h : t.ok K = true) {d c : Str} {b : Bool} (hl : lk d c t.ex = some b) : PySem.W.exmOne K (.ref (He.ga K d)) (clsV K c) = some b := by
  unfold ETab.ok at h
  exact of_decide_eq_true (List.all_eq_true.mp (He.ba (He.ba h).2).2 _ (lk_mem hl))
theorem exE_ok (h : t.ok K = true) {e : Er} {c : Str} {b : Bool} {cls : Value} {d : Option Addr} {F : Hp} (he : ExR K F e cls d) (hl : exE t e c = some b) : PySem.W.exmOne K cls (clsV K c) = some b := by
  rw [exR_cls he]
  exact ETab.ex_ok h hl
end
section
variable {X : Cx} {σ : St} {s : S} {e : Expr} {es : List Expr} {p0 p1 p2 p3 pos : Pos} {a : Addr} {oe : Obj} {pn : List (Addr × Obj)}
theorem exc_inst {D : Addr} {d : Option Addr} {pins : List (Addr × Obj)} {σ : St} {H : Hp} {sh : Shared} (hz : Zc (.ref D) d oe) (hf : ∃ vs, oe.data = .fields vs) (hd : ∀ dd, d = some dd → ∃ fs, H dd = some (.xd fs)) (I : Inv (X.suite a ((a, oe) :: pn)) pins σ H sh) : InstE a D oe sh.heap := by
  obtain ⟨hget, _⟩ := I.pin (a, oe) (List.mem_append.mpr (.inl List.mem_cons_self))
  obtain ⟨vs, hv⟩ := hf
  cases d with
  | none =>
    exact ⟨none, hget, hz.1, by unfold PySem.W.notCls; rw [hv], by rw [hz.2]; trivial⟩
  | some dd =>
    obtain ⟨fs, he⟩ := hd dd rfl
    obtain ⟨mA, hns, _⟩ := (show ObjOk X.prog X.w H sh.heap dd (.xd fs) from I.hok dd _ he)
    obtain ⟨od, ho, _⟩ := lookIn_ns hns
    exact ⟨some od, hget, hz.1, by unfold PySem.W.notCls; rw [hv], by rw [hz.2]; exact ho⟩
theorem call_isE1 {D : Addr} {d : Option Addr} (C : ExcC X.K D) (hz : Zc (.ref D) d oe) (hf : ∃ vs, oe.data = .fields vs) : CallR (X.suite a ((a, oe) :: pn)) (.builtin "isinstance") (fun xs H Q => (∀ dd, d = some dd → ∃ fs, H dd = some (.xd fs)) ∧ ∃ (c : V) (cv : Value) (b : Bool), xs = [.ref a, c] ∧ ClsV c cv ∧ PySem.W.kitOne X.K (.ref D) cv = some b ∧ Q (.bl b) H) := by
  intro pins s σ H xs us Q I r h
  obtain ⟨hd, c, cv, b, rfl, k, e, q⟩ := h
  obtain ⟨u1, u2, rfl, r1, r2⟩ := vals2 r
  cases (show u1 = Value.ref a from r1)
  have e2 := k.eq r2
  subst e2
  exact PySem.W.kia_one (kit_exc C) I.kIn (exc_inst hz hf hd I) e (fun z => nomatch z) fun tk => ⟨.bl b, H, I.kept (t' := tk) fun _ _ z => z, rfl, q⟩
theorem call_isET {D : Addr} {d : Option Addr} (C : ExcC X.K D) (hz : Zc (.ref D) d oe) (hf : ∃ vs, oe.data = .fields vs) : CallR (X.suite a ((a, oe) :: pn)) (.builtin "isinstance") (fun xs H Q => (∀ dd, d = some dd → ∃ fs, H dd = some (.xd fs)) ∧ ∃ (tp : Addr) (cs : List V) (us : List Value) (b : Bool), xs = [.ref a, .ref tp] ∧ H tp = some (.tup cs) ∧ Paired ClsV cs us ∧ PySem.W.kitAny X.K (.ref D) us = some b ∧ Q (.bl b) H) := by
  intro pins s σ H xs us Q I r h
  obtain ⟨hd, tp, cs, ws, b, rfl, hT, k, e, q⟩ := h
  obtain ⟨u1, u2, rfl, r1, r2⟩ := vals2 r
  cases (show u1 = Value.ref a from r1)
  cases (show u2 = Value.ref tp from r2)
  obtain ⟨_, its, rv, o, h1, h2, n, h3⟩ := (show ObjOk X.prog X.w H s.heap tp (.tup cs) from I.hok tp _ hT)
  have e3 := ClsV.all k rv
  subst e3
  obtain ⟨oc, od, dt, sl⟩ := o
  simp only at h2 h3
  subst h2 h3
  exact PySem.W.kia_tup (kit_exc C) I.kIn (exc_inst hz hf hd I) h1 e (fun z => nomatch z) fun tk => ⟨.bl b, H, I.kept (t' := tk) fun _ _ z => z, rfl, q⟩
theorem exR_xd {K : PySem.W.Frag} {F : Hp} {e : Er} {cls : Value} {d : Option Addr} (h : ExR K F e cls d) : ∀ dd, d = some dd → ∃ fs, F dd = some (.xd fs) := fun dd e1 => by
  cases e with
  | pl c => rw [h.2] at e1; cases e1
  | pi c f i => obtain ⟨_, d2, h2, h3⟩ := h; rw [h2] at e1; cases e1; exact ⟨_, h3⟩
  | ps c f x => obtain ⟨_, d2, h2, h3⟩ := h; rw [h2] at e1; cases e1; exact ⟨_, h3⟩
theorem kit_any {K : PySem.W.Frag} {t : ETab} (h : t.ok K = true) {er : Er} : ∀ {cs : List Str} {b : Bool}, isEs t er cs = some b → PySem.W.kitAny K (.ref (He.ga K er.c)) (cs.map (clsV K)) = some b
  | [], b, e => e
  | c :: r, b, e => by
    unfold isEs isE at e
    by_cases hd : er.c ∈ t.ds
    · rw [if_pos hd] at e
      cases hl : lk er.c c t.is with
      | none => rw [hl] at e; cases e
      | some b1 =>
        rw [hl] at e
        have k1 := ETab.is_ok h hl
        rw [List.map_cons]
        unfold PySem.W.kitAny
        rw [k1]
        cases b1 with
        | true => exact e
        | false => exact kit_any h e
    · rw [if_neg hd] at e; cases e
theorem ev_cls {c : Str} (h : (c ≠ ("ValueError" : Str) ∧ X.mg c = some (.ref (He.ga X.K c))) ∨ (c = ("ValueError" : Str) ∧ X.mg c = none)) (hg : Gl X c := by rfl) (hd : (c == ("__debug__" : Str)) = false := by decide) : Ev X (.Name c pos) σ s (Rw.mk (clsR X.K c)) := by
  rcases h with ⟨h1, h2⟩ | ⟨h1, h2⟩
  · have : clsR X.K c = .ref (He.ga X.K c) := if_neg h1
    rw [this]
    exact ev_glob ⟨.ref (He.ga X.K c), _, h2, rfl, fun _ => rfl⟩ hg hd
  · subst h1
    exact fun s1 k Q q => we_of (pe_bltn (v := .ty "ValueError") hg h2 PyProof.Rows.Boot.«ValueError» rfl (by decide) (by decide)) (q _ s1 (Ex.refl _) rfl)
theorem ev_isE {c : Str} {er : Er} {d : Option Addr} {b : Bool} {t : ETab} (h : t.ok X.K = true) (hl : isE t er c = some b) (hz : Zc (.ref (He.ga X.K er.c)) d oe) (hf : ∃ vs, oe.data = .fields vs) (hx : ExR X.K s.F er (.ref (He.ga X.K er.c)) d) (hm : X.mg "isinstance" = none)
    (ha : Ev (X.suite a ((a, oe) :: pn)) e σ s (Rw.mk (.ref a))) (hb : Ev (X.suite a ((a, oe) :: pn)) (.Name c p1) σ s (Rw.mk (clsR X.K c))) (hg : Gl (X.suite a ((a, oe) :: pn)) "isinstance" := by rfl)
    (he : starEach [e, .Name c p1] X.env = (false, eval e X.env) :: starEach [.Name c p1] X.env := by rfl) (he2 : starEach [.Name c p1] X.env = (false, eval (.Name c p1) X.env) :: starEach [] X.env := by rfl) (hpl : (backTo pos (starEach [.Name c p1] X.env)).any (·.1) = false := by rfl) :
    Ev (X.suite a ((a, oe) :: pn)) (.Call (.Name "isinstance" p0) [e, .Name c p1] [] pos) σ s b := fun s1 k Q q => by
  unfold isE at hl
  by_cases hd : er.c ∈ t.ds
  · rw [if_pos hd] at hl
    refine we_of (pe_callB (call_isE1 (d := d) (ETab.ds_ok h hd) hz hf) hg hm (by decide +kernel) (pa_cons pe_we (pa_cons pe_we pa_nil he2) he) (he := he) (hpl := hpl)) (ha s1 k _ fun v s2 k2 r2 => hb s2 (k.trans k2) _ fun u s3 k3 r3 => ?_)
    cases (show v = .ref a from r2)
    cases (show u = clsR X.K c from r3)
    exact ⟨fun dd e1 => by
      obtain ⟨fs, z⟩ := exR_xd hx dd e1
      exact ⟨fs, s3.sub _ _ (((k.trans k2).trans k3).f _ _ z)⟩, clsR X.K c, clsV X.K c, b, rfl, cls_cv X.K c, ETab.is_ok h hl, q _ s3 (k2.trans k3) rfl⟩
  · rw [if_neg hd] at hl; cases hl
theorem ev_xfI {f : Str} {er : Er} {d : Option Addr} {i : Int} {t : ETab} (h : t.ok X.K = true) (hl : erI t er f = some i) (hz : Zc (.ref (He.ga X.K er.c)) d oe) (hf : ∃ vs, oe.data = .fields vs) (hx : ExR X.K s.F er (.ref (He.ga X.K er.c)) d)
    (ha : Ev (X.suite a ((a, oe) :: pn)) e σ s (Rw.mk (.ref a))) (hb : attributeBase e f X.env (eval e X.env) = eval e X.env := by rfl) : Ev (X.suite a ((a, oe) :: pn)) (.Attribute e f pos) σ s i := fun s1 k Q q => by
  cases er with
  | pl c => cases hl
  | ps c g x => cases hl
  | pi c g j =>
    unfold erI at hl
    dsimp only at hl
    split at hl
    · rename_i hh
      obtain ⟨rfl, h2, h3⟩ := hh
      cases hl
      obtain ⟨_, dd, rfl, h5⟩ := hx
      refine we_of (pe_xf (ETab.xf_ok h h3) (ETab.fl_ok h h2) hz hf pe_we hb) (ha s1 k _ fun v s2 k2 r2 => ?_)
      cases (show v = .ref a from r2)
      exact ⟨rfl, rfl, dd, _, _, rfl, s2.sub _ _ ((k.trans k2).f _ _ h5), by simp, q _ s2 k2 rfl⟩
    · cases hl
theorem ev_xfS {f : Str} {er : Er} {d : Option Addr} {x : Str} {t : ETab} (h : t.ok X.K = true) (hl : erS t er f = some x) (hz : Zc (.ref (He.ga X.K er.c)) d oe) (hf : ∃ vs, oe.data = .fields vs) (hx : ExR X.K s.F er (.ref (He.ga X.K er.c)) d)
    (ha : Ev (X.suite a ((a, oe) :: pn)) e σ s (Rw.mk (.ref a))) (hb : attributeBase e f X.env (eval e X.env) = eval e X.env := by rfl) : Ev (X.suite a ((a, oe) :: pn)) (.Attribute e f pos) σ s x := fun s1 k Q q => by
  cases er with
  | pl c => cases hl
  | pi c g x => cases hl
  | ps c g j =>
    unfold erS at hl
    dsimp only at hl
    split at hl
    · rename_i hh
      obtain ⟨rfl, h2, h3⟩ := hh
      cases hl
      obtain ⟨_, dd, rfl, h5⟩ := hx
      refine we_of (pe_xf (ETab.xf_ok h h3) (ETab.fl_ok h h2) hz hf pe_we hb) (ha s1 k _ fun v s2 k2 r2 => ?_)
      cases (show v = .ref a from r2)
      exact ⟨rfl, rfl, dd, _, _, rfl, s2.sub _ _ ((k.trans k2).f _ _ h5), by simp, q _ s2 k2 rfl⟩
    · cases hl
theorem isEs_ds {t : ETab} {er : Er} {c : Str} {r : List Str} {b : Bool} (h : isEs t er (c :: r) = some b) : er.c ∈ t.ds := by
  unfold isEs isE at h
  by_cases hd : er.c ∈ t.ds
  · exact hd
  · rw [if_neg hd] at h; cases h
theorem names_of {c : Str} (h : X.mg c = some (.ref (He.ga X.K c))) (hg : Gl X c := by rfl) (hd : (c == ("__debug__" : Str)) = false := by decide) (hv : c ≠ ("ValueError" : Str) := by decide) : Names X c (clsV X.K c) := ⟨hg, hd, .inl (by rw [h]; exact congrArg some (if_neg hv).symm)⟩
theorem takes_false : Takes X (fun _ _ _ _ => False) := fun u s' ⟨_, _, _, _, _, _, _, _, _, _, _, _, _, _, _, _, h⟩ => h.elim
theorem ev_isEs {c0 : Str} {cr : List Str} {er : Er} {d : Option Addr} {cs : List Str} {b : Bool} {t : ETab} {n} (h : t.ok X.K = true) (hl : isEs t er cs = some b) (hz : Zc (.ref (He.ga X.K er.c)) d oe) (hf : ∃ vs, oe.data = .fields vs) (hx : ExR X.K s.F er (.ref (He.ga X.K er.c)) d) (hm : X.mg "isinstance" = none)
    (ha : Ev (X.suite a ((a, oe) :: pn)) e σ s (Rw.mk (.ref a))) (hb : EvE (X.suite a ((a, oe) :: pn)) es σ s (cs.map fun c => Rw.mk (clsR X.K c))) (hc : cs.length ≤ 1000) (e0 : cs = c0 :: cr := by rfl) (hg : Gl (X.suite a ((a, oe) :: pn)) "isinstance" := by rfl)
    (he : starEach [e, .Tuple es n p1] X.env = (false, eval e X.env) :: starEach [.Tuple es n p1] X.env := by rfl) (he2 : starEach [.Tuple es n p1] X.env = (false, eval (.Tuple es n p1) X.env) :: starEach [] X.env := by rfl) (hpl : (backTo pos (starEach [.Tuple es n p1] X.env)).any (·.1) = false := by rfl) :
    Ev (X.suite a ((a, oe) :: pn)) (.Call (.Name "isinstance" p0) [e, .Tuple es n p1] [] pos) σ s b := fun s1 k Q q =>
  we_of (pe_callB (call_isET (d := d) (ETab.ds_ok h (isEs_ds (by rw [e0] at hl; exact hl))) hz hf) hg hm (by decide +kernel) (pa_cons pe_we (pa_cons (pe_tup pa_wa) pa_nil he2) he) (he := he) (hpl := hpl)) (ha s1 k _ fun v s2 k2 r2 => hb s2 (k.trans k2) _ fun us s3 k3 r3 => by
    cases (show v = .ref a from r2)
    have e := rw_reps r3
    have e2 : us = cs.map (clsR X.K) := by rw [e, List.map_map]; rfl
    subst e2
    refine ⟨by rw [List.length_map, sizeLine_eq]; omega, fun p hp => ⟨fun dd e1 => ?_, p, _, cs.map (clsV X.K), b, rfl, upd_same, cls_all X.K cs, kit_any h hl, q _ (s3.newF p (.tup (cs.map (clsR X.K))) hp) ((k2.trans k3).trans (Ex.newF hp)) rfl⟩⟩
    obtain ⟨fs, z⟩ := exR_xd hx dd e1
    exact ⟨fs, (s3.newF p _ hp).sub _ _ ((((k.trans k2).trans k3).trans (Ex.newF hp)).f _ _ z)⟩)
end
section
variable {X : Cx} {σ : St} {s : S} {D : Ends} {rest : List Stmt} {e : Expr} {pos : Pos}
theorem do_dropX (h : EvX X e σ s) (hs : swapsWith e none pos.line X.env = pure false := by rfl) : WSs X (.Expr e pos :: rest) D σ s.H :=
  do_cons (ps_expr pe_we hs) (h s (Ex.refl _) _)
theorem do_retX (h : EvX X e σ s) : WSs X (.Return (some e) pos :: rest) D σ s.H := do_cons (ps_ret pe_we) (h s (Ex.refl _) _)
theorem do_setX (i : Nat) {n : Str} {py : Pos} (h : EvX X e σ s) (hN : X.N.Nodup) (hx : Loc X.env.scope n := by first | exact Or.inl rfl | exact Or.inr rfl) (hi : X.N[i]? = some n := by rfl)
    (hs : swapsWith e (some (.Name n py)) pos.line X.env = pure false := by rfl) (hf : X.fn n = true ∨ X.env.scope.names.lookup n = some .local := by first | exact .inl rfl | exact .inr rfl) : WSs X (.Assign [.Name n py] e pos :: rest) D σ s.H :=
  do_cons (ps_set hN hi hx pe_we hs hf) (h s (Ex.refl _) _)
theorem do_unpX (i j : Nat) {tg : Expr} (h : EvX X e σ s) (hg : PG X tg (gTup X.K 2 (gCons (gName i) (gCons (gName j) gNil)))) (hs : swapsWithSole [tg] e pos.line X.env = pure false := by rfl) (hw : swappedStores [tg] e X.env = pure none := by rfl)
    (h1 : (assignEach [tg] X.env).map (·.2) = [assign tg X.env] := by rfl) : WSs X (.Assign [tg] e pos :: rest) D σ s.H :=
  do_cons (ps_asg pe_we hg hs hw h1) (h s (Ex.refl _) _)
theorem was_of {K : PySem.W.Frag} {c : Value} {i : Nat} {ts : Addr → Value → Option Addr → TS} {Wout : WX} {cls : Value} {d : Option Addr} {σ : St} {H : Hp} (h1 : PySem.W.exmOne K cls c = some true)
    (h2 : ∀ a, H a = none → ts a cls d { nx := fun σ' H' => D.nx (σ'.set i none) H', rt := D.rt, bk := fun σ' H' => D.bk (σ'.set i none) H', ct := fun σ' H' => D.ct (σ'.set i none) H' } (σ.set i (some (.ref a))) H) : wAs K c i ts Wout D cls d σ H := ⟨true, h1, fun _ => h2, fun z => nomatch z⟩
theorem do_ifC {c : Expr} {A B : List Stmt} {x : Bool} (hc : EvT X c σ s x) (h1 : x = true → ∀ s1, Ex s s1 → WSs X A { D with nx := fun σ' H' => WSs X rest D σ' H' } σ s1.H) (h2 : x = false → ∀ s1, Ex s s1 → WSs X B { D with nx := fun σ' H' => WSs X rest D σ' H' } σ s1.H) : WSs X (.If c A B pos :: rest) D σ s.H :=
  do_cons (ps_if pt_wt pss_ws pss_ws) (hc s (Ex.refl _) _ fun s1 k => by
    cases x with
    | true => exact iteT (h1 rfl s1 k)
    | false => exact iteF (h2 rfl s1 k))
end

section
variable {α : Type} [Enc α] {X : Cx} {σ : St} {s : S} {a b : Expr} {pos : Pos}
theorem en_repO {p : Addr} {xs : List α} {n : Int} (ha : Ev X a σ s (Rw.mk (.ref p))) (o : Own X.K s p xs) (hb : ∀ t, Ex s t → Ev X b σ t n) (hz : RepOk n xs.length) : EvN X (.BinOp a .Mult b pos) σ s (repl n xs) := fun s1 k Q q =>
  we_of (pe_op op_rep pe_we pe_we) (ha s1 k _ fun v s2 k2 r2 => by
    cases (show v = V.ref p from r2)
    exact hb s2 (k.trans k2) s2 (Ex.refl _) _ fun u s3 k3 r3 => by
      obtain ⟨_, vs, h1, h2⟩ := o.ex ((k.trans k2).trans k3)
      exact ⟨p, n, vs, rfl, r3, h1, hz.1, hz.2.1, by rw [h2.len]; exact hz.2.2, fun l hl => q l (s3.newO l _ hl) ((k2.trans k3).trans (Ex.newO hl)) (fr_back (k2.trans k3) hl) (own_new hl (h2.repF _))⟩)
end
theorem goN {β ρ γ : Type} {b : β} {k : β → γ} {e : ρ → γ} {r : γ} (h : Fl.go (Fl.nx b) k e = r) : k b = r := h
def obsX (n : Nat) (fa : List He.Fa) (fn : List He.DefD) (gs : PySem.W.Frag → Bool) (g : Addr → Option Obj) : Bool × He.AlD := (gs (He.frG g (He.asD g n)), He.obsDG n fa fn g)
def hookX (n : Nat) (fa : List He.Fa) (fn : List He.DefD) (gs : PySem.W.Frag → Bool) : PySem.W.Hook where
  α := Bool × He.AlD
  obs := fun s => obsX n fa fn gs s.heap.get?
  val := fun _ => (true, He.valD fn)
  says := fun _ h => ∃ K : PySem.W.Frag, K.In h ∧ He.SaysD fa fn K ∧ gs K = true
  of := fun _ _ e => ⟨_, He.frG_in, congrArg (fun z : Bool × He.AlD => z.2) e, congrArg (fun z : Bool × He.AlD => z.1) e⟩
  keeps := fun _ _ _ ⟨K, hK, c, d⟩ k => ⟨K, PySem.W.Frag.In.keeps hK k, c, d⟩
theorem obsX_eq {n : Nat} {fa : List He.Fa} {fn : List He.DefD} {gs : PySem.W.Frag → Bool} {g : Addr → Option Obj} {s : Shared} (h : ∀ a, g a = s.heap.get? a) : obsX n fa fn gs g = (hookX n fa fn gs).obs s := by
  have e : g = s.heap.get? := funext h
  rw [e] <;> rfl
end Dy

namespace Dy
open PySem PySem.Spec L2
open PyProof.Rows hiding St
open Enc (rep)
open EncA (repA)

def oexB (K : PySem.W.Frag) (C : Addr) : Bool := match K.lookup C with
  | some ⟨.type "type", _, .cls cd, sl⟩ => (match cd.mro, sl.toList with
    | .ref C' :: bm, [_, _, _, _, some (.builtin n), _] => C' == C && (n == "ValueError.__new__" && (!cd.hasDel && (cd.hasDict && PySem.HandSPX.refsVE bm)))
    | _, _ => false)
  | _ => false
theorem oexB_ok {K : PySem.W.Frag} {C : Addr} (h : oexB K C = true) : ∃ nm q N bs bm sn sub ab col dd k0 k1 k2 k3 k5, K.lookup C = some (excClassObj nm q C N bs bm true sn sub ab col dd k0 k1 k2 k3 k5 "ValueError.__new__") ∧ PySem.HandSPX.refsVE bm = true := by
  unfold oexB at h
  split at h
  · rename_i dd cd sl ho
    split at h
    · rename_i C' bm k0 k1 k2 k3 n k5 hm hs
      simp only [Bool.and_eq_true, beq_iff_eq, Bool.not_eq_true'] at h
      obtain ⟨rfl, rfl, h1, h2, h3⟩ := h
      obtain ⟨nm, bs, mro, ns, qn, hd, sn, sub, ab, col, del⟩ := cd
      dsimp only at hm h1 h2
      subst hm h1 h2
      obtain ⟨l⟩ := sl
      simp only at hs
      subst hs
      exact ⟨nm, qn, ns, bs, bm, sn, sub, ab, col, dd, k0, k1, k2, k3, k5, ho, h3⟩
    · cases h
  · cases h
def payB (K : PySem.W.Frag) (c f : Str) : Bool := oexB K (He.ga K c) && (He.eqO (PySem.W.findIn K (.ref (He.ga K c)) "__setattr__") (some (some (.builtin "object.__setattr__"))) && (decide (PySem.W.subIn K (.ref (He.ga K c)) (.type "BaseException") = some true) && (decide (PySem.W.typeIn K (.ref (He.ga K c)) = some (.type "type")) &&
  (PySem.W.keepIn K (.ref (He.ga K c)) && (He.eqO (PySem.W.findIn K (.ref (He.ga K c)) "__init__") (some (some (.ref (He.fAd K (c, some "__init__"))))) && (decide (PySem.W.typeIn K (.ref (He.fAd K (c, some "__init__"))) = some (.type "function")) && He.eqO (PySem.W.findIn K (.ref (He.ga K c)) f) (some none)))))))
structure PayF (K : PySem.W.Frag) (c f : Str) : Prop where
  o : OexC K (He.ga K c)
  i : PySem.W.findIn K (.ref (He.ga K c)) "__init__" = some (some (.ref (He.fAd K (c, some "__init__"))))
  t : PySem.W.typeIn K (.ref (He.fAd K (c, some "__init__"))) = some (.type "function")
  n : PySem.W.findIn K (.ref (He.ga K c)) f = some none
theorem payB_ok {K : PySem.W.Frag} {c f : Str} (h : payB K c f = true) : PayF K c f := by
  unfold payB at h
  obtain ⟨h1, h⟩ := He.ba h
  obtain ⟨h2, h⟩ := He.ba h
  obtain ⟨h3, h⟩ := He.ba h
  obtain ⟨h4, h⟩ := He.ba h
  obtain ⟨h5, h⟩ := He.ba h
  obtain ⟨h6, h⟩ := He.ba h
  obtain ⟨h7, h8⟩ := He.ba h
  exact ⟨⟨oexB_ok h1, He.eqO_ok h2, of_decide_eq_true h3, of_decide_eq_true h4, h5⟩, He.eqO_ok h6, of_decide_eq_true h7, He.eqO_ok h8⟩
def spInit (K : PySem.W.Frag) (f : Str) : Sp := fun vs H Q _ => ∃ (a C : Addr) (v : V), vs = [.ref a, v] ∧ H a = some (exo a C none) ∧ OexC K C ∧ PySem.W.findIn K (.ref C) f = some none ∧ ∀ dx, H dx = none → dx ≠ a → Q .non (upd (upd H dx (exd dx [(f, v)])) a (exo a C (some dx)))
section
variable {P : Program} {w : World} {K : PySem.W.Frag} {mg : Str → Option Value} {base : Heap}
theorem mk_init {f x : Str} {ar : Arguments} {sc : Scope} {q : Str} {fI : Addr} {fd : FuncData} {k : Nat} {p1 p2 p3 p4 : Pos} (F : FunD K "__init__" q ar [.Assign [.Attribute (.Name "self" p1) f p2] (.Name x p3) p4] sc [] [] fI fd) (Sc : FnScope ["self", x] ["self", x] sc)
    (hv : ∀ (cdv : Value) (A' : Around) (outer : List Env) (s0 : Shared) (H0 : Hp) (E0 : XK), Vis (cxOf CX0 P w K mg base ["self", x] q sc fI cdv A' outer s0 H0 E0).nox.env.scope "self" ∧ Vis (cxOf CX0 P w K mg base ["self", x] q sc fI cdv A' outer s0 H0 E0).nox.env.scope x ∧
      swapsWith (.Name x p3) (some (.Attribute (.Name "self" p1) f p2)) p4.line (cxOf CX0 P w K mg base ["self", x] q sc fI cdv A' outer s0 H0 E0).nox.env = pure false)
    (hx : (x == ("__debug__" : Str)) = false := by decide) (hx2 : (x == ("__classdict__" : Str)) = false := by decide) : FnOk P w K mg base CX0 (k + 1) fI fd ["self", x] (spInit K f) :=
  F.ok Sc (fun vs H Q E ⟨a, C, v, e, _⟩ => by rw [e]; rfl) (fun cdv A' outer s0 H0 vs Q E hr ⟨a, C, v, e, h1, h2, h3, h4⟩ => by
    obtain ⟨v1, v2, v3⟩ := hv cdv A' outer s0 H0 E
    subst e
    exact ⟨_, PSs.nox (pss_cons (ps_ost (pe_var (i := 0) rfl v1 (by decide) (by decide)) (pe_var (i := 1) rfl v2 hx hx2) v3) pss_nil), v, rfl, .ref a, rfl, a, C, rfl, h2, h3, .inl ⟨h1, fun dx n ne => h4 dx n ne⟩⟩)
end
section
variable {X : Cx} {σ : St} {s : S} {D : Ends} {rest : List Stmt} {W : WX} {e : Expr}
theorem do_raiseI {c f : Str} {fd : FuncData} {ps : List Str} {k j : Nat} {i : Int} {p pos pos' : Pos} (T : PayF X.K c f) (gC : X.mg c = some (.ref (He.ga X.K c))) (F1 : FnOk X.prog X.w X.K X.mg X.base CX0 k (He.fAd X.K (c, some "__init__")) fd ps (spInit X.K f)) (hb : Binds X.K fd ps [])
    (tk : Takes X W) (hr : Room j X.A) (hk : k + 1 ≤ j) (ha : Ev X e σ s i) (h : ∀ d s1, Ex s s1 → s1.F d = some (.xd [(f, V.int i)]) → W (.ref (He.ga X.K c)) (some d) σ s1.H)
    (hc : X.calm = true := by rfl) (hg : Gl X c := by rfl) (hdb : (c == ("__debug__" : Str)) = false := by decide) (he : starEach [e] X.env = (false, eval e X.env) :: starEach [] X.env := by rfl) (hpl : (backTo pos (starEach [] X.env)).any (·.1) = false := by rfl) :
    WSs X (.Raise (some (.Call (.Name c p) [e] [] pos)) none pos' :: rest) D σ s.H :=
  do_cons (ps_raise hc tk (pmk_oex T.o T.i T.t F1 (hr.mono hk) hb .nil pass0 hg gC (pa_cons pe_we pa_nil he) hdb he hpl)) (ha s (Ex.refl _) _ fun v s2 k2 r2 => by
    obtain rfl : v = V.int i := r2
    refine ⟨by simp, fun a hna => ⟨a, He.ga X.K c, V.int i, rfl, upd_same, T.o, T.n, fun dx h1 h2 => ?_⟩⟩
    have hdx : s2.H dx = none := by rw [upd_ne h2] at h1; exact h1
    refine ⟨rfl, dx, _, upd_same, by rw [upd_ne h2, upd_same], hdx, ?_⟩
    have eH : upd (del (upd (upd (upd s2.H a (exo a (He.ga X.K c) none)) dx (exd dx [(f, V.int i)])) a (exo a (He.ga X.K c) (some dx))) a) dx (.xd [(f, V.int i)]) = (s2.newF dx (.xd [(f, V.int i)]) hdx).H := by
      funext b
      show _ = upd s2.H dx (.xd [(f, V.int i)]) b
      by_cases hb1 : b = dx
      · subst hb1; rw [upd_same, upd_same]
      · rw [upd_ne hb1, upd_ne hb1]
        by_cases hb2 : b = a
        · subst hb2; rw [del_same, hna]
        · rw [del_ne hb2, upd_ne hb2, upd_ne hb1, upd_ne hb2]
    rw [eH]
    exact h dx _ (k2.trans (Ex.newF hdx)) upd_same)
end
def InitOk (P : Program) (w : World) (K : PySem.W.Frag) (mg : Str → Option Value) (base : Heap) (c f : Str) : Prop := ∃ (fd : FuncData) (ps : List Str), FnOk P w K mg base CX0 1 (He.fAd K (c, some "__init__")) fd ps (spInit K f) ∧ Binds K fd ps []
section
variable {α : Type} [Enc α] {X : Cx} {σ : St} {s : S} {e : Expr}
theorem ev_t2u {x : α × α} (h : Ev X e σ s x) : Ev X e σ s (⟨[x.1, x.2]⟩ : Tu α) := fun s1 k Q q => h s1 k Q fun v s2 k2 r => q v s2 k2 (by
  obtain ⟨p, v1, v2, rfl, h0, h1, h2⟩ := r
  exact ⟨p, [v1, v2], rfl, h0, h1, h2, trivial⟩)
end
class Arity (α : Type) (n : outParam Nat) extends Enc α where
  ar : ∀ {K : PySem.W.Frag} {F : Hp} {v : V} {x : α}, rep K F v x → ∃ p vs, v = .ref p ∧ SqT K F p vs ∧ vs.length = n
instance {α β : Type} [Enc α] [Enc β] : Arity (α × β) 2 := ⟨fun h => by
  obtain ⟨p, v1, v2, e, h, _⟩ := h
  exact ⟨p, _, e, h, rfl⟩⟩
instance {α β γ : Type} [Enc α] [Enc β] [Enc γ] : Arity (T3 α β γ) 3 := ⟨fun h => by
  obtain ⟨p, v1, v2, v3, e, h, _⟩ := h
  exact ⟨p, _, e, h, rfl⟩⟩
section
variable {α : Type} {X : Cx} {σ : St} {s : S} {e : Expr} {p0 pos : Pos}
theorem ev_lenA {n : Nat} [Arity α n] {x : α} (hm : X.mg "len" = none) (ha : Ev X e σ s x) (hg : Gl X "len" := by rfl) (he : starEach [e] X.env = (false, eval e X.env) :: starEach [] X.env := by rfl) (hpl : (backTo pos (starEach [] X.env)).any (·.1) = false := by rfl) : Ev X (.Call (.Name "len" p0) [e] [] pos) σ s (n : Int) :=
  ev_B1 call_len_seq hg hm boot_len ha (fun v s2 r2 Q q => by
    obtain ⟨p, vs, rfl, h1, h2⟩ := Arity.ar r2
    exact ⟨p, vs, rfl, .inr (sqt_mono s2.sub h1), q _ s2 (Ex.refl _) (by rw [h2]; rfl)⟩) (he := he) (hpl := hpl)
end
end Dy

namespace Dy
open PySem PySem.Spec L2
open PyProof.Rows hiding St
open Enc (rep)

def dsz (ns : List Int) : Nat := (PyProof.Rows.firstMet (fun i => ns.getD i 0) ns.length).length
section
variable {X : Cx} {a : Expr} {ta : TE} {p p2 q pos : Pos}
def tDsz (K : PySem.W.Frag) (ta : TE) : TE := fun σ H Q => ta σ H fun x H1 => ∃ (l : Addr) (ns : List Int), x = .ref l ∧ SqL K H1 l (ns.map V.int) ∧ ns.length ≤ 4000 ∧ dsz ns ≤ ns.length ∧ Q (.int (dsz ns : Nat)) H1
theorem pe_dsz (hg : Gl X "len") (hm : X.mg "len" = none) (hg2 : Gl X "set") (hm2 : X.mg "set" = none) (ha : PE X a ta) (hc : X.calm = true := by rfl)
    (na : starEach [a] X.env = (false, eval a X.env) :: starEach [] X.env := by rfl) : PE X (.Call (.Name "len" p) [.Call (.Name "set" p2) [a] [] q] [] pos) (tDsz X.K ta) := by
  refine ⟨fun pins s σ H Q I h => ?_⟩
  refine Call_ (ld_blt I hg hm boot_len (PyProof.Rows.callWith_builtin1 (PyProof.Rows.args_cons (Call_ (ld_blt I hg2 hm2 boot_set (PyProof.Rows.callWith_type1 (PyProof.Rows.args_cons (thn (ha.run pins s σ H _ I h) fun v s1 ⟨x, H1, I1, r1, l, ns, e, hq, hl, hd0, q1⟩ => PyProof.Rows.args_nil ?_) na) na rfl))) rfl) rfl rfl))
  subst e
  cases r1
  obtain ⟨its, r, pl, hz⟩ := I1.list hq
  have hlen : its.toArray.size = ns.length := by rw [List.size_toArray, ← r.length, List.length_map]
  refine call_set_list (I1.ok.hd hc) pl.isList (by simpa using RZ.intsAre_vals r) (by rw [hlen]; unfold scanBound; omega) fun h' tk hS hk => PyProof.Rows.args_nil ?_
  rw [hlen] at hS
  obtain ⟨o, es, ep, t, ho, hex, hd, _, _, _, hf, hn⟩ := hS
  have I2 : Inv X pins σ H1 { s1 with heap := h', toks := tk } := I1.kept fun b o e => hk b o (Heap.lt_size e) e
  unfold dsz at hd0 q1
  exact call_len_set ho hex hd hf (by rw [hn] <;> omega) ⟨.int (dsz ns : Nat), H1, I2.tok _, ⟨_, by rw [hn]; rfl⟩, q1⟩
theorem dsz_le (ns : List Int) : dsz ns ≤ ns.length := PyProof.Rows.firstMet_length_le _ _
variable {σ : St} {s : S}
theorem ev_dsz {xs : List Int} (hm : X.mg "len" = none) (hm2 : X.mg "set" = none) (ha : EvR X a σ s xs) (hz : xs.length ≤ 4000) (hc : X.calm = true := by rfl) (hg : Gl X "len" := by rfl) (hg2 : Gl X "set" := by rfl) (na : starEach [a] X.env = (false, eval a X.env) :: starEach [] X.env := by rfl) :
    Ev X (.Call (.Name "len" p) [.Call (.Name "set" p2) [a] [] q] [] pos) σ s ((dsz xs : Nat) : Int) := fun s1 k Q qq =>
  we_of (pe_dsz hg hm hg2 hm2 pe_we hc na) (ha s1 k _ fun v s2 k2 r2 => by
    obtain ⟨p, vs, rfl, h1, h2⟩ := r2
    obtain rfl := h2.flat
    exact ⟨p, xs, rfl, h1, hz, dsz_le xs, qq _ s2 k2 rfl⟩)
end
theorem fm_inv (ns : List Int) : ∀ i, i ≤ ns.length → (∀ x, x ∈ PyProof.Rows.firstMet (fun i => ns.getD i 0) i ↔ x ∈ ns.take i) ∧ ((PyProof.Rows.firstMet (fun i => ns.getD i 0) i).length = i ↔ (ns.take i).Nodup)
  | 0, _ => by
    rw [PyProof.Rows.firstMet_zero]
    simp
  | i + 1, h => by
    obtain ⟨h1, h2⟩ := fm_inv ns i (by omega)
    have h3 := PyProof.Rows.firstMet_length_le (fun i => ns.getD i 0) i
    have e1 : ns.getD i 0 = ns[i] := by rw [List.getD_eq_getElem?_getD, List.getElem?_eq_getElem (by omega)]; rfl
    have e2 : ns.take (i + 1) = ns.take i ++ [ns[i]] := by rw [List.take_add_one, List.getElem?_eq_getElem (by omega)]; rfl
    rw [PyProof.Rows.firstMet_succ, e2]
    generalize PyProof.Rows.firstMet (fun i => ns.getD i 0) i = m at *
    have e3 : PyProof.Rows.step_dedup m (ns.getD i 0) = if ns[i] ∈ m then m else m ++ [ns[i]] := by
      unfold PyProof.Rows.step_dedup
      rw [e1]
      have e4 : (m.any fun x => x == ns[i]) = true ↔ ns[i] ∈ m := by
        rw [List.any_eq_true]
        exact ⟨fun ⟨y, hy, ey⟩ => eq_of_beq ey ▸ hy, fun hm => ⟨_, hm, beq_self_eq_true _⟩⟩
      by_cases hm : ns[i] ∈ m
      · rw [if_pos hm, if_pos (e4.mpr hm)]
      · rw [if_neg hm, if_neg (fun z => hm (e4.mp z))]
    show (∀ x, x ∈ PyProof.Rows.step_dedup m (ns.getD i 0) ↔ _) ∧ ((PyProof.Rows.step_dedup m (ns.getD i 0)).length = i + 1 ↔ _)
    rw [e3]
    by_cases hm : ns[i] ∈ m
    · rw [if_pos hm]
      have hm2 := (h1 _).mp hm
      refine ⟨fun x => ?_, fun e => by omega, fun hn => ?_⟩
      · rw [List.mem_append, h1, List.mem_singleton]
        exact ⟨.inl, fun z => z.elim id fun z => z ▸ hm2⟩
      · exact absurd rfl ((List.nodup_append.mp hn).2.2 _ hm2 _ (List.mem_singleton.mpr rfl))
    · rw [if_neg hm]
      have hm2 : ns[i] ∉ ns.take i := fun z => hm ((h1 _).mpr z)
      refine ⟨fun x => by rw [List.mem_append, List.mem_append, h1], fun e => ?_, fun hn => ?_⟩
      · rw [List.length_append, List.length_singleton] at e
        refine List.nodup_append.mpr ⟨h2.mp (by omega), by simp, fun a ha b hb e => ?_⟩
        rw [List.mem_singleton.mp hb] at e
        exact hm2 (e ▸ ha)
      · rw [List.length_append, List.length_singleton, h2.mpr (List.nodup_append.mp hn).1]
theorem dsz_eq (ns : List Int) : dsz ns = ns.length ↔ ns.Nodup := by
  have := (fm_inv ns ns.length (Nat.le_refl _)).2
  rw [List.take_length] at this
  exact this
structure HL2 (α β : Type) where
  a : α
  b : β
deriving DecidableEq
instance {α β : Type} [Enc α] [Enc β] : Enc (HL2 α β) := ⟨fun K F v x => ∃ p v1 v2, v = .ref p ∧ SqL K F p [v1, v2] ∧ rep K F v1 x.a ∧ rep K F v2 x.b, fun e h => by
  obtain ⟨p, v1, v2, rfl, h0, h1, h2⟩ := h
  exact ⟨p, v1, v2, rfl, sql_mono e h0, Enc.mono e h1, Enc.mono e h2⟩⟩
instance {α β : Type} [EqD α] [EqD β] : EqD (HL2 α β) := ⟨fun x => .list [EqD.toD x.a, EqD.toD x.b], fun h f => by
  obtain ⟨p, v1, v2, rfl, h0, h1, h2⟩ := h
  exact .lst (sql_mono f h0) (.cons (EqD.dp h1 f) (.cons (EqD.dp h2 f) .nil)), fun x y => by
    obtain ⟨x1, x2⟩ := x
    obtain ⟨y1, y2⟩ := y
    show (PyData.eqv _ _ && (PyData.eqv _ _ && true)) = true ↔ _
    rw [Bool.and_eq_true, Bool.and_eq_true, EqD.eqv, EqD.eqv]; simp⟩
section
variable {α β : Type} [Enc α] [Enc β] {X : Cx} {σ : St} {s : S} {es : List Expr} {pos : Pos}
theorem ev_hl2 {x : α} {y : β} (h : EvA X es σ s (x, y, ())) : Ev X (.List es pos) σ s (⟨x, y⟩ : HL2 α β) := fun s1 k Q q =>
  we_of (pe_lst pa_wa) (h s1 k _ fun vs s2 k2 r2 => by
    obtain ⟨v1, _, rfl, r1, v2, _, rfl, r2, rfl⟩ := r2
    exact ⟨show _ ≤ 2 ^ 24 by simp, fun p hp => q _ (s2.newF p (.lst [v1, v2]) hp) (k2.trans (Ex.newF hp)) ⟨p, v1, v2, rfl, .inl (.inl upd_same), Enc.mono (Ex.newF hp).f r1, Enc.mono (Ex.newF hp).f r2⟩⟩)
end
def relS (scope sc : Scope) : Scope := { scope with names := scope.names.map fun (n, k) => if (k == .free && sc.kind == .function && sc.names.lookup n == some .cell) then (n, .cell) else (n, k) }
theorem blkOk_n {N : List Str} {scope1 sc0 scope : Scope} {env : Env} {own : List (Str × Nat)} (e : env.scope = sc0) (h : blkC N (relS scope1 sc0) scope own = true) : BlkOk N (relabel scope1 env) scope own := by
  have : relabel scope1 env = relS scope1 sc0 := by subst e; rfl
  rw [this]
  exact blkOk_by h
end Dy

namespace Dy
open PySem PySem.Spec L2
open PyProof.Rows hiding St
open Enc (rep)

inductive An where
  | b (x : Bool)
  | i (x : Int)
  | o (x : Option Int)
  | s (x : Str)
  | l (xs : List Int)
  | ls (xs : List Str)
  | ts (xs : Tu Str)
instance : Enc An := ⟨fun K F v x => match x with
  | .b x => rep K F v x
  | .i x => rep K F v x
  | .o x => rep K F v x
  | .s x => rep K F v x
  | .l x => rep K F v x
  | .ls x => rep K F v x
  | .ts x => rep K F v x, fun {K F F' v x} e h => by
  cases x with
  | b x => exact Enc.mono (α := Bool) e h
  | i x => exact Enc.mono (α := Int) e h
  | o x => exact Enc.mono (α := Option Int) e h
  | s x => exact Enc.mono (α := Str) e h
  | l x => exact Enc.mono (α := List Int) e h
  | ls x => exact Enc.mono (α := List Str) e h
  | ts x => exact Enc.mono (α := Tu Str) e h⟩
class ToD (α : Type) extends Enc α where
  td : α → PyData
  tdp : ∀ {K : PySem.W.Frag} {F H : Hp} {v : V} {x : α}, rep K F v x → Fle F H → Dp K H v (td x)
instance : ToD An := ⟨fun x => match x with
  | .b x => EqD.toD x
  | .i x => EqD.toD x
  | .o x => EqD.toD x
  | .s x => EqD.toD x
  | .l x => EqD.toD x
  | .ls x => EqD.toD x
  | .ts x => EqD.toD x, fun {K F H v x} h f => by
  cases x with
  | b x => exact EqD.dp (α := Bool) h f
  | i x => exact EqD.dp (α := Int) h f
  | o x => exact EqD.dp (α := Option Int) h f
  | s x => exact EqD.dp (α := Str) h f
  | l x => exact EqD.dp (α := List Int) h f
  | ls x => exact EqD.dp (α := List Str) h f
  | ts x => exact EqD.dp (α := Tu Str) h f⟩
instance {α : Type} [EqD α] : ToD (α × An) := ⟨fun x => .tuple [EqD.toD x.1, ToD.td x.2], fun h f => by
  obtain ⟨p, v1, v2, rfl, h0, h1, h2⟩ := h
  exact .tup (sqt_mono f h0) (.cons (EqD.dp h1 f) (.cons (ToD.tdp h2 f) .nil))⟩
def eqvD {α : Type} [ToD α] (x y : α) : Bool := PyData.eqv (ToD.td x) (ToD.td y)
def shpD {α : Type} [ToD α] (x : α) : Prop := SeqAt.shaped (ToD.td x) = true
section
variable {α : Type} {X : Cx} {σ : St} {s : S} {a b e : Expr} {pos : Pos}
theorem eb_eqV [ToD α] {x y : α} {j : Nat} (hr : Room j X.A) (ha : Ev X a σ s x) (hb : Ev X b σ s y) (h1 : shpD x) (h2 : shpD y) : EvB X (.Compare a [.Eq] [b] pos) σ s (eqvD x y) :=
  eb_cmp (op_eqD (hu64 hr)) ha hb (fun v u s2 hv hu Q q => ⟨_, _, ToD.tdp hv s2.sub, ToD.tdp hu s2.sub, h1, h2, q⟩) (nomark _)
theorem eb_neV [ToD α] {x y : α} {j : Nat} (hr : Room j X.A) (ha : Ev X a σ s x) (hb : Ev X b σ s y) (h1 : shpD x) (h2 : shpD y) : EvB X (.Compare a [.NotEq] [b] pos) σ s (!eqvD x y) :=
  eb_cmp (op_neD (hu64 hr)) ha hb (fun v u s2 hv hu Q q => ⟨_, _, ToD.tdp hv s2.sub, ToD.tdp hu s2.sub, h1, h2, q⟩) (nomark _)
theorem an_b {x : Bool} (h : Ev X e σ s x) : Ev X e σ s (An.b x) := h
theorem an_i {x : Int} (h : Ev X e σ s x) : Ev X e σ s (An.i x) := h
theorem an_o {x : Option Int} (h : Ev X e σ s x) : Ev X e σ s (An.o x) := h
theorem an_s {x : Str} (h : Ev X e σ s x) : Ev X e σ s (An.s x) := h
theorem an_l {x : List Int} (h : Ev X e σ s x) : Ev X e σ s (An.l x) := h
theorem an_ls {x : List Str} (h : Ev X e σ s x) : Ev X e σ s (An.ls x) := h
theorem an_ts {x : Tu Str} (h : Ev X e σ s x) : Ev X e σ s (An.ts x) := h
def anB : An → Option Bool
  | .b x => some x
  | _ => none
theorem ev_anB {x : An} {y : Bool} (h : Ev X e σ s x) (hy : anB x = some y) : Ev X e σ s y := by
  cases x with
  | b z => cases hy; exact h
  | _ => cases hy
end
end Dy

namespace Dy
open PySem PySem.Spec L2
open PyProof.Rows hiding St
open Enc (rep)
open Flat (toV)
open EncA (repA)

structure OA where
  p : PySem.W.Frag → Hp → Hp → (Addr → Prop) → Prop
  mono : ∀ {K : PySem.W.Frag} {F F' H : Hp} {P : Addr → Prop}, Fle F F' → p K F H P → p K F' H P
  loc : ∀ {K : PySem.W.Frag} {F H H' : Hp} {P : Addr → Prop}, (∀ a, P a → H' a = H a) → p K F H P → p K F H' P
  dom : ∀ {K : PySem.W.Frag} {F H : Hp} {P : Addr → Prop} {a : Addr}, p K F H P → P a → ∃ o, H a = some o
def top : OA := ⟨fun _ _ _ P => ∀ a, ¬ P a, fun _ h => h, fun _ h => h, fun h q => absurd q (h _)⟩
def fz {α : Type} [Enc α] (v : V) (x : α) : OA := ⟨fun K F _ P => rep K F v x ∧ ∀ a, ¬ P a, fun e h => ⟨Enc.mono e h.1, h.2⟩, fun _ h => h, fun h q => absurd q (h.2 _)⟩
def ol {α : Type} [Enc α] (p : Addr) (xs : List α) : OA := ⟨fun K F H P => (∀ a, P a ↔ a = p) ∧ ∃ vs, H p = some (.lst vs) ∧ Reps K F vs xs, fun e ⟨h0, vs, h1, h2⟩ => ⟨h0, vs, h1, h2.mono e⟩,
  fun e ⟨h0, vs, h1, h2⟩ => ⟨h0, vs, by rw [e p ((h0 p).mpr rfl)]; exact h1, h2⟩, fun ⟨h0, vs, h1, h2⟩ q => ⟨_, (congrArg _ ((h0 _).mp q)).trans h1⟩⟩
class DKey (κ : Type) extends Eqs κ where
  dec : DecidableEq κ
  toK : κ → Key
  kv : ∀ k, kV (toK k) = toV k
  kinj : ∀ a b, toK a = toK b ↔ a = b
instance : DKey Int := { dec := inferInstance, toK := Sum.inl, kv := fun _ => rfl, kinj := fun a b => ⟨fun h => Sum.inl.inj h, fun h => by rw [h]⟩ }
instance : DKey Str := { dec := inferInstance, toK := Sum.inr, kv := fun _ => rfl, kinj := fun a b => ⟨fun h => Sum.inr.inj h, fun h => by rw [h]⟩ }
def KReps {κ α : Type} [DKey κ] [Enc α] (K : PySem.W.Frag) (F : Hp) : List (Key × V) → List (κ × α) → Prop
  | [], [] => True
  | (k, v) :: r, (j, x) :: xs => k = DKey.toK j ∧ rep K F v x ∧ KReps K F r xs
  | _, _ => False
theorem KReps.mono {κ α : Type} [DKey κ] [Enc α] {K : PySem.W.Frag} {F F' : Hp} (e : Fle F F') : ∀ {kv : List (Key × V)} {xs : List (κ × α)}, KReps K F kv xs → KReps K F' kv xs
  | [], [], _ => trivial
  | _ :: _, _ :: _, ⟨h1, h2, t⟩ => ⟨h1, Enc.mono e h2, KReps.mono e t⟩
  | [], _ :: _, h => h.elim
  | _ :: _, [], h => h.elim
theorem KReps.len {κ α : Type} [DKey κ] [Enc α] {K : PySem.W.Frag} {F : Hp} : ∀ {kv : List (Key × V)} {xs : List (κ × α)}, KReps K F kv xs → kv.length = xs.length
  | [], [], _ => rfl
  | _ :: _, _ :: _, ⟨_, _, t⟩ => congrArg (· + 1) (KReps.len t)
  | [], _ :: _, h => h.elim
  | _ :: _, [], h => h.elim
def od {κ α : Type} [DKey κ] [Enc α] (p : Addr) (xs : List (κ × α)) : OA := ⟨fun K F H P => (∀ a, P a ↔ a = p) ∧ ∃ kv, H p = some (.dK kv) ∧ KReps K F kv xs, fun e ⟨h0, vs, h1, h2⟩ => ⟨h0, vs, h1, h2.mono e⟩,
  fun e ⟨h0, vs, h1, h2⟩ => ⟨h0, vs, by rw [e p ((h0 p).mpr rfl)]; exact h1, h2⟩, fun ⟨h0, vs, h1, h2⟩ q => ⟨_, (congrArg _ ((h0 _).mp q)).trans h1⟩⟩
def odl {κ α : Type} [DKey κ] [Enc α] (p : Addr) (o : Obj) (kv : List (Key × V)) (xs : List (κ × α)) : OA := ⟨fun K F H P => (∀ a, P a ↔ a = p) ∧ H p = some (.frz o (.dK kv)) ∧ KReps K F kv xs, fun e ⟨h0, h1, h2⟩ => ⟨h0, h1, h2.mono e⟩,
  fun e ⟨h0, h1, h2⟩ => ⟨h0, by rw [e p ((h0 p).mpr rfl)]; exact h1, h2⟩, fun ⟨h0, h1, h2⟩ q => ⟨_, (congrArg _ ((h0 _).mp q)).trans h1⟩⟩
def cell (p : Addr) (c : Str) (fs : List (Str × V)) : OA := ⟨fun K F H P => ∃ dx, (∀ a, P a ↔ (a = p ∨ a = dx)) ∧ H p = some (.ins (He.ga K c) dx fs) ∧ H dx = some (.own p), fun e h => h,
  fun e ⟨dx, h0, h1, h2⟩ => ⟨dx, h0, by rw [e p ((h0 p).mpr (.inl rfl))]; exact h1, by rw [e dx ((h0 dx).mpr (.inr rfl))]; exact h2⟩, fun ⟨dx, h0, h1, h2⟩ q => by
    rcases (h0 _).mp q with rfl | rfl
    · exact ⟨_, h1⟩
    · exact ⟨_, h2⟩⟩

structure Mz (P : Addr → Prop) (s t : S) : Prop where
  f : Fle s.F t.F
  h : ∀ a o, s.H a = some o → ¬ P a → t.H a = some o
  n : ∀ a o, s.H a = some o → ¬ P a → s.F a = none → t.F a = none
  d : ∀ a o, s.H a = some o → ∃ u, t.H a = some u
theorem Mx.z {P : Addr → Prop} {s t : S} (m : Mx P s t) : Mz P s t := ⟨m.f, m.h, fun a o h _ q => m.n a o h q, m.d⟩
theorem Ex.z {P : Addr → Prop} {s t : S} (e : Ex s t) : Mz P s t := e.mx.z
theorem Mz.trans {P : Addr → Prop} {s t u : S} (a : Mz P s t) (b : Mz P t u) : Mz P s u :=
  ⟨fun x o h => b.f x o (a.f x o h), fun x o h n => b.h x o (a.h x o h n) n,
   fun x o h p n => by obtain ⟨v, hv⟩ := a.d x o h; exact b.n x v hv p (a.n x o h p n),
   fun x o h => by obtain ⟨v, hv⟩ := a.d x o h; exact b.d x v hv⟩
theorem Mz.fr_back {P : Addr → Prop} {s t : S} (e : Mz P s t) {p : Addr} (h : t.H p = none) : s.H p = none := by
  cases q : s.H p with
  | none => rfl
  | some o => obtain ⟨u, z⟩ := e.d p o q; rw [z] at h; cases h
structure Iv (K : PySem.W.Frag) (P0 : Addr → Prop) (s0 s : S) (L : List OA) : Prop where
  m : Mz P0 s0 s
  o : ∃ φ : Nat → Addr → Prop, (∀ (i : Nat) (A : OA), L[i]? = some A → A.p K s.F s.H (φ i)) ∧ (∀ (i j : Nat) (a : Addr), φ i a → φ j a → i = j) ∧ (∀ (i : Nat) (a : Addr), φ i a → s.F a = none ∧ (P0 a ∨ s0.H a = none) ∧ i < L.length)
section
variable {α β κ : Type} [Enc α] [Enc β] [DKey κ] {K : PySem.W.Frag} {P0 : Addr → Prop} {s0 s s1 t : S} {L M : List OA}
theorem Iv.fz (h : Iv K P0 s0 s L) (i : Nat) {v : V} {x : α} (e : L[i]? = some (Dy.fz v x) := by rfl) : rep K s.F v x := by
  obtain ⟨φ, h1, _⟩ := h.o
  exact (h1 i _ e).1
theorem Iv.ol (h : Iv K P0 s0 s L) (i : Nat) {p : Addr} {xs : List α} (e : L[i]? = some (Dy.ol p xs) := by rfl) : Own K s p xs := by
  obtain ⟨φ, h1, h2, h3⟩ := h.o
  obtain ⟨q, vs, hp, r⟩ := h1 i _ e
  exact ⟨(h3 i p ((q p).mpr rfl)).1, vs, hp, r⟩
theorem Iv.at (h : Iv K P0 s0 s L) (i : Nat) {A : OA} (e : L[i]? = some A := by rfl) : ∃ P, A.p K s.F s.H P ∧ ∀ a, P a → s.F a = none := by
  obtain ⟨φ, h1, h2, h3⟩ := h.o
  exact ⟨φ i, h1 i A e, fun a q => (h3 i a q).1⟩
theorem Iv.ex (h : Iv K P0 s0 s L) (e : Ex s s1) : Iv K P0 s0 s1 L := by
  obtain ⟨φ, h1, h2, h3⟩ := h.o
  refine ⟨h.m.trans e.z, φ, fun i A hA => ?_, h2, fun i a q => ?_⟩
  · have h4 := h1 i A hA
    exact A.mono e.f (A.loc (fun a q => by
      obtain ⟨o, ho⟩ := A.dom h4 q
      rw [ho]; exact e.h _ _ ho) h4)
  · obtain ⟨h5, h6, h7⟩ := h3 i a q
    obtain ⟨A, hA⟩ : ∃ A, L[i]? = some A := ⟨L[i], List.getElem?_eq_getElem h7⟩
    obtain ⟨o, ho⟩ := A.dom (h1 i A hA) q
    exact ⟨e.n _ _ ho h5, h6, h7⟩
theorem Iv.upd (h : Iv K P0 s0 s L) (i : Nat) {A A' : OA} (hA : L[i]? = some A) (st : ∀ P, A.p K s.F s.H P → (∀ a, P a → s.F a = none) → ∃ P', A'.p K s1.F s1.H P' ∧ (∀ a, P' a → s1.F a = none ∧ (P a ∨ s.H a = none)) ∧ Mz P s s1) : Iv K P0 s0 s1 (L.set i A') := by
  obtain ⟨φ, h1, h2, h3⟩ := h.o
  obtain ⟨P', g1, g2, g3⟩ := st (φ i) (h1 i A hA) fun a q => (h3 i a q).1
  have hi : i < L.length := (List.getElem?_eq_some_iff.mp hA).1
  have old : ∀ j a, φ j a → ∃ o, s.H a = some o := fun j a q => by
    obtain ⟨_, _, h7⟩ := h3 j a q
    exact (L[j]).dom (h1 j _ (List.getElem?_eq_getElem h7)) q
  have m1 : Mz P0 s0 s1 := by
    refine ⟨h.m.f.trans g3.f, fun a o q n => g3.h _ _ (h.m.h a o q n) fun z => ?_, fun a o q np n => ?_, fun a o q => ?_⟩
    · rcases (h3 i a z).2.1 with w | w
      · exact n w
      · rw [w] at q; cases q
    · obtain ⟨u, hu⟩ := h.m.d a o q
      exact g3.n a u hu (fun z => by
        rcases (h3 i a z).2.1 with w | w
        · exact np w
        · rw [w] at q; cases q) (h.m.n a o q np n)
    · obtain ⟨u, hu⟩ := h.m.d a o q
      exact g3.d a u hu
  refine ⟨m1, fun j a => if j = i then P' a else φ j a, fun j B hB => ?_, fun j k a => ?_, fun j a => ?_⟩
  · by_cases e : j = i
    · subst e
      rw [List.getElem?_set_self hi] at hB
      cases hB
      simpa using g1
    · rw [List.getElem?_set_ne (Ne.symm e)] at hB
      simp only [e, if_false]
      have h4 := h1 j B hB
      exact B.mono g3.f (B.loc (fun a q => by
        obtain ⟨o, ho⟩ := B.dom h4 q
        rw [ho]; exact g3.h _ _ ho fun z => e (h2 _ _ _ q z)) h4)
  · intro q r
    by_cases e : j = i <;> by_cases e2 : k = i
    · rw [e, e2]
    · exfalso
      simp only [e, if_true] at q
      simp only [e2, if_false] at r
      rcases (g2 a q).2 with z | z
      · exact e2 (h2 _ _ _ r z)
      · obtain ⟨o, ho⟩ := old k a r
        rw [z] at ho; cases ho
    · exfalso
      simp only [e, if_false] at q
      simp only [e2, if_true] at r
      rcases (g2 a r).2 with z | z
      · exact e (h2 _ _ _ q z)
      · obtain ⟨o, ho⟩ := old j a q
        rw [z] at ho; cases ho
    · simp only [e, if_false] at q
      simp only [e2, if_false] at r
      exact h2 _ _ _ q r
  · intro q
    rw [List.length_set]
    by_cases e : j = i
    · simp only [e, if_true] at q
      obtain ⟨z1, z2⟩ := g2 a q
      refine ⟨z1, ?_, by rw [e]; exact hi⟩
      rcases z2 with z | z
      · exact (h3 i a z).2.1
      · refine .inr ?_
        exact h.m.fr_back z
    · simp only [e, if_false] at q
      obtain ⟨z1, z2, z3⟩ := h3 j a q
      obtain ⟨o, ho⟩ := old j a q
      exact ⟨g3.n _ _ ho (fun z => e (h2 _ _ _ q z)) z1, z2, z3⟩
theorem Iv.put (h : Iv K P0 s0 s L) (i : Nat) {A' : OA} (e : Ex s s1) (st : ∃ P', A'.p K s1.F s1.H P' ∧ ∀ a, P' a → s1.F a = none ∧ s.H a = none) : Iv K P0 s0 s1 (L.set i A') := by
  by_cases hi : i < L.length
  case neg => rw [List.set_eq_of_length_le (by omega)]; exact h.ex e
  refine h.upd i (List.getElem?_eq_getElem hi) fun P _ _ => ?_
  obtain ⟨P', g1, g2⟩ := st
  exact ⟨P', g1, fun a q => ⟨(g2 a q).1, .inr (g2 a q).2⟩, e.z⟩
theorem Iv.sf (h : Iv K P0 s0 s L) (i : Nat) {v : V} {x y : α} (e : Ex s s1) (r : rep K s1.F v x) (q : y = x) : Iv K P0 s0 s1 (L.set i (Dy.fz v y)) := by
  subst q
  exact h.put i e ⟨fun _ => False, ⟨r, fun _ z => z⟩, fun _ z => z.elim⟩
theorem Iv.sl (h : Iv K P0 s0 s L) (i : Nat) {p : Addr} {xs ys : List α} (e : Ex s s1) (n : s.H p = none) (o : Own K s1 p xs) (q : ys = xs) : Iv K P0 s0 s1 (L.set i (Dy.ol p ys)) := by
  subst q
  obtain ⟨o1, vs, o2, o3⟩ := o
  exact h.put i e ⟨fun a => a = p, ⟨fun _ => Iff.rfl, vs, o2, o3⟩, fun a z => by rw [z]; exact ⟨o1, n⟩⟩
theorem Iv.ml (h : Iv K P0 s0 s L) (i : Nat) {p : Addr} {xs : List α} {ys zs : List β} (m : Mx (· = p) s s1) (o : Own K s1 p ys) (q : zs = ys) (hA : L[i]? = some (Dy.ol p xs) := by rfl) : Iv K P0 s0 s1 (L.set i (Dy.ol p zs)) := by
  subst q
  obtain ⟨o1, vs, o2, o3⟩ := o
  refine h.upd i hA fun P hP _ => ⟨P, ?_, ?_, ?_⟩
  · exact ⟨hP.1, vs, o2, o3⟩
  · intro a z
    rw [(hP.1 a).mp z]
    exact ⟨o1, .inl ((hP.1 p).mpr rfl)⟩
  · exact ⟨m.f, fun a o q n => m.h a o q fun z => n ((hP.1 a).mpr z), fun a o q _ z => m.n a o q z, m.d⟩
def pick (L : List OA) (js : List (Option Nat)) : List OA := js.map fun o => match o with | none => top | some i => L.getD i top
theorem Iv.sel (h : Iv K P0 s0 s L) (js : List (Option Nat)) (hn : (js.filterMap id).Nodup) (hM : pick L js = M) : Iv K P0 s0 s M := by
  subst hM
  obtain ⟨φ, h1, h2, h3⟩ := h.o
  refine ⟨h.m, fun k a => ∃ i, js[k]? = some (some i) ∧ φ i a, fun k A hA => ?_, fun k l a ⟨i, e1, q1⟩ ⟨j, e2, q2⟩ => ?_, fun k a ⟨i, e1, q1⟩ => ?_⟩
  · unfold pick at hA
    rw [List.getElem?_map] at hA
    obtain ⟨o, e1, e2⟩ := Option.map_eq_some_iff.mp hA
    cases o with
    | none =>
      subst e2
      intro a ⟨i, e3, _⟩
      rw [e1] at e3; cases e3
    | some i =>
      dsimp only at e2
      have eφ : (fun a => ∃ j, js[k]? = some (some j) ∧ φ j a) = φ i := by
        funext a
        apply propext
        constructor
        · rintro ⟨j, e3, q⟩
          rw [e1] at e3
          cases e3
          exact q
        · exact fun q => ⟨i, e1, q⟩
      show A.p K s.F s.H (fun a => ∃ j, js[k]? = some (some j) ∧ φ j a)
      rw [eφ]
      cases hg : L[i]? with
      | none =>
        rw [List.getD_eq_getElem?_getD, hg] at e2
        subst e2
        intro a q
        have := (h3 i a q).2.2
        rw [List.getElem?_eq_getElem this] at hg
        cases hg
      | some B =>
        rw [List.getD_eq_getElem?_getD, hg] at e2
        subst e2
        exact h1 i B hg
  · have := h2 _ _ _ q1 q2
    subst this
    have key : ∀ (js : List (Option Nat)) (k l : Nat), (js.filterMap id).Nodup → js[k]? = some (some i) → js[l]? = some (some i) → k = l := by
      intro js
      induction js with
      | nil => intro k l _ e; cases e
      | cons x r ih =>
        intro k l hn e1 e2
        cases x with
        | none =>
          cases k with
          | zero => cases e1
          | succ k =>
            cases l with
            | zero => cases e2
            | succ l => exact congrArg (· + 1) (ih k l (by simpa using hn) (by simpa using e1) (by simpa using e2))
        | some y =>
          have hn' : y ∉ r.filterMap id ∧ (r.filterMap id).Nodup := by simpa using hn
          have mem : ∀ k, r[k]? = some (some i) → i ∈ r.filterMap id := fun k e => List.mem_filterMap.mpr ⟨some i, List.mem_of_getElem? e, rfl⟩
          cases k with
          | zero =>
            cases l with
            | zero => rfl
            | succ l =>
              have : y = i := by simpa using e1
              exact absurd (mem l (by simpa using e2)) (this ▸ hn'.1)
          | succ k =>
            cases l with
            | zero =>
              have : y = i := by simpa using e2
              exact absurd (mem k (by simpa using e1)) (this ▸ hn'.1)
            | succ l => exact congrArg (· + 1) (ih k l hn'.2 (by simpa using e1) (by simpa using e2))
    exact key js k l hn e1 e2
  · obtain ⟨z1, z2, z3⟩ := h3 i a q1
    refine ⟨z1, z2, ?_⟩
    unfold pick
    rw [List.length_map]
    exact (List.getElem?_eq_some_iff.mp e1).1
theorem Iv.tops (n : Nat) (s : S) : Iv K P0 s s (List.replicate n top) := by
  refine ⟨(Ex.refl s).z, fun _ _ => False, fun i A hA => ?_, fun _ _ _ z => z.elim, fun _ _ z => z.elim⟩
  have := List.mem_of_getElem? hA
  rw [List.eq_of_mem_replicate this]
  exact fun _ z => z
theorem Iv.exx (h : Iv K (fun _ => False) s0 s L) : Ex s0 s := ⟨h.m.f, fun a o q => h.m.h a o q fun z => z, fun a o q n => h.m.n a o q (fun z => z) n⟩
theorem Iv.frz (h : Iv K P0 s0 s L) (i : Nat) {p : Addr} {xs : List α} (hA : L[i]? = some (Dy.ol p xs) := by rfl) : ∃ s' : S, s'.H = s.H ∧ Fle s.F s'.F ∧ Iv K P0 s0 s' (L.set i (Dy.fz (.ref p) xs)) := by
  obtain ⟨s', h1, h2, h3, h4⟩ := (h.ol i hA).frz
  refine ⟨s', h1, h2, ?_⟩
  obtain ⟨φ, g1, g2, g3⟩ := h.o
  have hi : i < L.length := (List.getElem?_eq_some_iff.mp hA).1
  have hp : φ i p := ((g1 i _ hA).1 p).mpr rfl
  refine ⟨⟨h.m.f.trans h2, fun a o q n => by rw [h1]; exact h.m.h a o q n, fun a o q np n => ?_, fun a o q => by rw [h1]; exact h.m.d a o q⟩, fun j a => if j = i then False else φ j a, fun j B hB => ?_, fun j k a q r => ?_, fun j a q => ?_⟩
  · have ne : a ≠ p := fun z => by
      subst z
      rcases (g3 i a hp).2.1 with w | w
      · exact np w
      · rw [w] at q; cases q
    rw [h3 a ne]
    exact h.m.n a o q np n
  · by_cases e : j = i
    · subst e
      rw [List.getElem?_set_self hi] at hB
      cases hB
      exact ⟨h4, fun a => by simp⟩
    · rw [List.getElem?_set_ne (Ne.symm e)] at hB
      simp only [e, if_false]
      rw [h1]
      exact B.mono h2 (g1 j B hB)
  · by_cases e : j = i
    · simp only [e, if_true] at q
    · by_cases e2 : k = i
      · simp only [e2, if_true] at r
      · simp only [e, if_false] at q
        simp only [e2, if_false] at r
        exact g2 _ _ _ q r
  · by_cases e : j = i
    · simp only [e, if_true] at q
    · simp only [e, if_false] at q
      obtain ⟨z1, z2, z3⟩ := g3 j a q
      have ne : a ≠ p := fun z => e (g2 _ _ _ q (z ▸ hp))
      exact ⟨by rw [h3 a ne]; exact z1, z2, by rw [List.length_set]; exact z3⟩
structure Ro (K : PySem.W.Frag) (P0 : Addr → Prop) (s0 : S) (R : List OA) : Prop where
  o : ∀ (i : Nat) (A : OA), R[i]? = some A → ∃ P, A.p K s0.F s0.H P ∧ ∀ a, P a → ¬ P0 a
theorem OA.stay {A : OA} {P : Addr → Prop} (h : A.p K s.F s.H P) (m : Mz P0 s t) (n : ∀ a, P a → ¬ P0 a) : A.p K t.F t.H P :=
  A.mono m.f (A.loc (fun a q => by
    obtain ⟨o, ho⟩ := A.dom h q
    rw [ho]; exact m.h _ _ ho (n a q)) h)
theorem Iv.ro (h : Iv K P0 s0 s L) {R : List OA} (r : Ro K P0 s0 R) (i : Nat) {A : OA} (e : R[i]? = some A := by rfl) : ∃ P, A.p K s.F s.H P := by
  obtain ⟨P, h1, h2⟩ := r.o i A e
  exact ⟨P, OA.stay h1 h.m h2⟩
def rem (L : List OA) (ks : List Nat) : List OA := L.mapIdx fun i A => if i ∈ ks then top else A
def rsel (L R0 : List OA) (rs : List (Nat ⊕ Nat)) : List OA := rs.map fun z => match z with | .inl i => L.getD i top | .inr j => R0.getD j top
theorem call_in (h : Iv K P0 s0 s L) {R0 : List OA} (ro : Ro K P0 s0 R0) (ks : List Nat) (hn : ks.Nodup) (hk : ∀ k ∈ ks, k < L.length) (Lf : List OA) (hf : ∀ A ∈ Lf, A.p K s.F s.H (fun _ => False)) (rs : List (Nat ⊕ Nat)) (hrs : ∀ i, Sum.inl i ∈ rs → i ∉ ks) :
    ∃ P1, Iv K P1 s s (ks.map (fun k => L.getD k top) ++ Lf) ∧ Ro K P1 s (rsel L R0 rs) ∧ (ks = [] → ∀ a, ¬ P1 a) ∧ ∀ s' L', Iv K P1 s s' L' → Iv K P0 s0 s' (rem L ks ++ L') := by
  obtain ⟨φ, h1, h2, h3⟩ := h.o
  refine ⟨fun a => ∃ k ∈ ks, φ k a, ⟨(Ex.refl s).z, fun i a => ∃ k, ks[i]? = some k ∧ φ k a, fun i A hA => ?_, fun i j a ⟨k, e1, q1⟩ ⟨l, e2, q2⟩ => ?_, fun i a ⟨k, e1, q1⟩ => ?_⟩, ⟨fun i A hA => ?_⟩, fun e a w => (by obtain ⟨k, hk, _⟩ := w; rw [e] at hk; cases hk), fun s' L' iv => ?_⟩
  · by_cases hi : i < ks.length
    · rw [List.getElem?_append_left (by rw [List.length_map]; exact hi), List.getElem?_map, List.getElem?_eq_getElem hi, Option.map_some] at hA
      have hA := Option.some.inj hA
      have hkl := hk ks[i] (List.getElem_mem hi)
      rw [List.getD_eq_getElem?_getD, List.getElem?_eq_getElem hkl, Option.getD_some] at hA
      have eφ : (fun a => ∃ k, ks[i]? = some k ∧ φ k a) = φ ks[i] := by
        funext a
        apply propext
        rw [List.getElem?_eq_getElem hi]
        exact ⟨fun ⟨k, e, q⟩ => by cases e; exact q, fun q => ⟨_, rfl, q⟩⟩
      show A.p K s.F s.H (fun a => ∃ k, ks[i]? = some k ∧ φ k a)
      rw [eφ, ← hA]
      exact h1 _ _ (List.getElem?_eq_getElem hkl)
    · rw [List.getElem?_append_right (by rw [List.length_map]; omega)] at hA
      have eφ : (fun a => ∃ k, ks[i]? = some k ∧ φ k a) = fun _ => False := by
        funext a
        apply propext
        rw [List.getElem?_eq_none (by omega)]
        exact ⟨fun w => (by obtain ⟨k, e, _⟩ := w; cases e), fun z => z.elim⟩
      show A.p K s.F s.H (fun a => ∃ k, ks[i]? = some k ∧ φ k a)
      rw [eφ]
      exact hf A (List.mem_of_getElem? hA)
  · obtain ⟨hi, ei⟩ := List.getElem?_eq_some_iff.mp e1
    obtain ⟨hj, ej⟩ := List.getElem?_eq_some_iff.mp e2
    have e := h2 _ _ _ q1 q2
    rw [← ei, ← ej] at e
    exact (List.getElem_inj hn).mp e
  · exact ⟨(h3 k a q1).1, .inl ⟨k, List.mem_of_getElem? e1, q1⟩, by rw [List.length_append, List.length_map]; have := (List.getElem?_eq_some_iff.mp e1).1; omega⟩
  · unfold rsel at hA
    rw [List.getElem?_map] at hA
    obtain ⟨z, e1, e2⟩ := Option.map_eq_some_iff.mp hA
    have hz := List.mem_of_getElem? e1
    have tp : top.p K s.F s.H (fun _ => False) := fun _ z => z
    cases z with
    | inl i =>
      by_cases hi : i < L.length
      · have e3 : L[i]? = some A := by
          rw [List.getElem?_eq_getElem hi]
          simp only [List.getD_eq_getElem?_getD, List.getElem?_eq_getElem hi, Option.getD_some] at e2
          rw [e2]
        exact ⟨φ i, h1 i A e3, fun a q ⟨k, hk, q2⟩ => hrs i hz (h2 _ _ _ q q2 ▸ hk)⟩
      · simp only [List.getD_eq_getElem?_getD, List.getElem?_eq_none (Nat.le_of_not_lt hi), Option.getD_none] at e2
        rw [← e2]
        exact ⟨_, tp, fun _ z => z.elim⟩
    | inr j =>
      by_cases hj : j < R0.length
      · have e3 : R0[j]? = some A := by
          rw [List.getElem?_eq_getElem hj]
          simp only [List.getD_eq_getElem?_getD, List.getElem?_eq_getElem hj, Option.getD_some] at e2
          rw [e2]
        obtain ⟨P, g1, g2⟩ := ro.o j A e3
        refine ⟨P, OA.stay g1 h.m g2, fun a q ⟨k, hk, q2⟩ => ?_⟩
        rcases (h3 k a q2).2.1 with w | w
        · exact g2 a q w
        · obtain ⟨o, ho⟩ := A.dom g1 q
          rw [w] at ho; cases ho
      · simp only [List.getD_eq_getElem?_getD, List.getElem?_eq_none (Nat.le_of_not_lt hj), Option.getD_none] at e2
        rw [← e2]
        exact ⟨_, tp, fun _ z => z.elim⟩
  · obtain ⟨φ', g1, g2, g3⟩ := iv.o
    have hP : ∀ a o, s0.H a = some o → ¬ P0 a → ¬ ∃ k ∈ ks, φ k a := fun a o q np ⟨k, _, q2⟩ => by
      rcases (h3 k a q2).2.1 with w | w
      · exact np w
      · rw [w] at q; cases q
    have hlen : (rem L ks).length = L.length := by unfold rem; rw [List.length_mapIdx]
    refine ⟨⟨h.m.f.trans iv.m.f, fun a o q n => iv.m.h a o (h.m.h a o q n) (hP a o q n), fun a o q np n => ?_, fun a o q => ?_⟩, fun i a => if i < L.length then (i ∉ ks ∧ φ i a) else φ' (i - L.length) a, fun i A hA => ?_, fun i j a q r => ?_, fun i a q => ?_⟩
    · obtain ⟨u, hu⟩ := h.m.d a o q
      exact iv.m.n a u hu (hP a o q np) (h.m.n a o q np n)
    · obtain ⟨u, hu⟩ := h.m.d a o q
      exact iv.m.d a u hu
    · by_cases hi : i < L.length
      · rw [List.getElem?_append_left (by omega)] at hA
        unfold rem at hA
        rw [List.getElem?_mapIdx, List.getElem?_eq_getElem hi, Option.map_some] at hA
        have hA := Option.some.inj hA
        simp only [hi, if_true]
        by_cases hik : i ∈ ks
        · rw [if_pos hik] at hA
          rw [← hA]
          exact fun a ⟨z, _⟩ => z hik
        · rw [if_neg hik] at hA
          show A.p K s'.F s'.H (fun a => i ∉ ks ∧ φ i a)
          have eφ : (fun a => i ∉ ks ∧ φ i a) = φ i := by
            funext a
            apply propext
            exact ⟨fun z => z.2, fun z => ⟨hik, z⟩⟩
          rw [eφ, ← hA]
          exact OA.stay (h1 i _ (List.getElem?_eq_getElem hi)) iv.m fun a q ⟨k, hk, q2⟩ => hik (h2 _ _ _ q q2 ▸ hk)
      · rw [List.getElem?_append_right (by omega), hlen] at hA
        simp only [hi, if_false]
        exact g1 _ A hA
    · have apart : ∀ i j a, i < L.length → i ∉ ks → φ i a → φ' j a → False := fun i j a hi hik q r => by
        rcases (g3 j a r).2.1 with ⟨k, hk, q2⟩ | w
        · exact hik (h2 _ _ _ q q2 ▸ hk)
        · obtain ⟨o, ho⟩ := (L[i]).dom (h1 i _ (List.getElem?_eq_getElem hi)) q
          rw [w] at ho; cases ho
      by_cases hi : i < L.length <;> by_cases hj : j < L.length
      · simp only [hi, if_true] at q
        simp only [hj, if_true] at r
        exact h2 _ _ _ q.2 r.2
      · simp only [hi, if_true] at q
        simp only [hj, if_false] at r
        exact (apart _ _ _ hi q.1 q.2 r).elim
      · simp only [hi, if_false] at q
        simp only [hj, if_true] at r
        exact (apart _ _ _ hj r.1 r.2 q).elim
      · simp only [hi, if_false] at q
        simp only [hj, if_false] at r
        have := g2 _ _ _ q r
        omega
    · rw [List.length_append, hlen]
      by_cases hi : i < L.length
      · simp only [hi, if_true] at q
        obtain ⟨z1, z2, z3⟩ := h3 i a q.2
        obtain ⟨o, ho⟩ := (L[i]).dom (h1 i _ (List.getElem?_eq_getElem hi)) q.2
        exact ⟨iv.m.n a o ho (fun ⟨k, hk, q2⟩ => q.1 (h2 _ _ _ q.2 q2 ▸ hk)) z1, z2, by omega⟩
      · simp only [hi, if_false] at q
        obtain ⟨z1, z2, z3⟩ := g3 _ a q
        refine ⟨z1, ?_, by omega⟩
        rcases z2 with ⟨k, hk, q2⟩ | w
        · exact (h3 k a q2).2.1
        · exact .inr (h.m.fr_back w)
theorem Iv.fresh (h : Iv K (fun _ => False) s0 s L) (i : Nat) {p : Addr} {xs : List α} (e : L[i]? = some (Dy.ol p xs) := by rfl) : s0.H p = none := by
  obtain ⟨φ, h1, h2, h3⟩ := h.o
  obtain ⟨q, vs, hp, r⟩ := h1 i _ e
  rcases (h3 i p ((q p).mpr rfl)).2.1 with w | w
  · exact w.elim
  · exact w
theorem do_frzI {X : Cx} {σ : L2.St} {D : Ends} {ss : List Stmt} (h : Iv X.K P0 s0 s L) (i : Nat) {p : Addr} {xs : List α} (hA : L[i]? = some (Dy.ol p xs)) (k : ∀ s', Fle s.F s'.F → Iv X.K P0 s0 s' (L.set i (Dy.fz (.ref p) xs)) → WSs X ss D σ s'.H) : WSs X ss D σ s.H := by
  obtain ⟨s', h1, h2, h3⟩ := h.frz i hA
  rw [← h1]
  exact k s' h2 h3
end
end Dy

namespace Dy
open PySem PySem.Spec L2
open PyProof.Rows hiding St
open Enc (rep)
open Flat (toV)
open EncA (repA)

section
variable {κ τ : Type} [DecidableEq κ]
def dval (xs : List (κ × τ)) (k : κ) : Option τ := (xs.find? fun z => decide (z.1 = k)).map (·.2)
def dput (xs : List (κ × τ)) (k : κ) (y : τ) : List (κ × τ) := if (xs.any fun z => decide (z.1 = k)) = true then xs.map fun z => if z.1 = k then (z.1, y) else z else xs ++ [(k, y)]
def ddrop (xs : List (κ × τ)) (k : κ) : List (κ × τ) := xs.filter fun z => decide (z.1 ≠ k)
end
section
variable {κ α : Type} [DKey κ] [DecidableEq κ] [Enc α] {K : PySem.W.Frag} {F F' : Hp}
theorem toK_dec (a b : κ) : decide (DKey.toK a = DKey.toK b) = decide (a = b) := decide_eq_decide.mpr (DKey.kinj a b)
theorem KReps.val {k : κ} : ∀ {kv : List (Key × V)} {xs : List (κ × α)}, KReps K F kv xs → match dval xs k with
    | none => valV kv (DKey.toK k) = none
    | some x => ∃ v, valV kv (DKey.toK k) = some v ∧ rep K F v x
  | [], [], _ => rfl
  | (j, v) :: r, (i, x) :: xs, ⟨e, h, t⟩ => by
    subst e
    unfold dval valV
    rw [List.find?_cons, List.find?_cons]
    dsimp only
    rw [toK_dec i k]
    cases decide (i = k) with
    | true => exact ⟨v, rfl, h⟩
    | false => exact KReps.val (k := k) t
  | [], _ :: _, h => h.elim
  | _ :: _, [], h => h.elim
theorem KReps.any {k : κ} : ∀ {kv : List (Key × V)} {xs : List (κ × α)}, KReps K F kv xs → (kv.any fun z => decide (z.1 = DKey.toK k)) = xs.any fun z => decide (z.1 = k)
  | [], [], _ => rfl
  | (j, v) :: r, (i, x) :: xs, ⟨e, h, t⟩ => by
    subst e
    rw [List.any_cons, List.any_cons, KReps.any (k := k) t, toK_dec i k]
  | [], _ :: _, h => h.elim
  | _ :: _, [], h => h.elim
theorem KReps.app : ∀ {kv kw : List (Key × V)} {xs ys : List (κ × α)}, KReps K F kv xs → KReps K F kw ys → KReps K F (kv ++ kw) (xs ++ ys)
  | [], _, [], _, _, h => h
  | _ :: _, _, _ :: _, _, ⟨e, h, t⟩, w => ⟨e, h, KReps.app t w⟩
  | [], _, _ :: _, _, h, _ => h.elim
  | _ :: _, _, [], _, h, _ => h.elim
theorem KReps.repl {k : κ} {v : V} {y : α} (r : rep K F v y) : ∀ {kv : List (Key × V)} {xs : List (κ × α)}, KReps K F kv xs → KReps K F (kv.map fun z => if z.1 = DKey.toK k then (z.1, v) else z) (xs.map fun z => if z.1 = k then (z.1, y) else z)
  | [], [], _ => trivial
  | (j, u) :: kv, (i, x) :: xs, ⟨e, h, t⟩ => by
    subst e
    rw [List.map_cons, List.map_cons]
    dsimp only
    by_cases hh : i = k
    · rw [if_pos hh, if_pos (by rw [hh])]
      exact ⟨rfl, r, KReps.repl r t⟩
    · rw [if_neg hh, if_neg (fun z => hh ((DKey.kinj i k).mp z))]
      exact ⟨rfl, h, KReps.repl r t⟩
  | [], _ :: _, h => h.elim
  | _ :: _, [], h => h.elim
theorem KReps.put {k : κ} {v : V} {y : α} {kv : List (Key × V)} {xs : List (κ × α)} (h : KReps K F kv xs) (r : rep K F v y) : KReps K F (putK kv (DKey.toK k) v) (dput xs k y) := by
  unfold putK dput
  rw [h.any (k := k)]
  split
  · exact h.repl r
  · exact h.app ⟨rfl, r, trivial⟩
theorem KReps.drop {k : κ} : ∀ {kv : List (Key × V)} {xs : List (κ × α)}, KReps K F kv xs → KReps K F (dropK kv (DKey.toK k)) (ddrop xs k)
  | [], [], _ => trivial
  | (j, v) :: r, (i, x) :: xs, ⟨e, h, t⟩ => by
    subst e
    unfold dropK ddrop
    rw [List.filter_cons, List.filter_cons]
    dsimp only
    by_cases hh : i = k
    · rw [if_neg (by simp [hh]), if_neg (by simp [hh])]
      exact KReps.drop t
    · rw [if_pos (by simpa using fun z => hh ((DKey.kinj i k).mp z)), if_pos (by simpa using hh)]
      exact ⟨rfl, h, KReps.drop t⟩
  | [], _ :: _, h => h.elim
  | _ :: _, [], h => h.elim
theorem KReps.get : ∀ {kv : List (Key × V)} {xs : List (κ × α)} {i : Nat} {z : κ × α}, KReps K F kv xs → xs[i]? = some z → ∃ v, kv[i]? = some (DKey.toK z.1, v) ∧ rep K F v z.2
  | [], [], _, _, _, e => by simp at e
  | (j, v) :: _, (i, x) :: _, 0, z, ⟨e, h, _⟩, e2 => by
    have : (i, x) = z := Option.some.inj e2
    subst this
    exact ⟨v, by rw [e]; rfl, h⟩
  | _ :: kv, _ :: xs, i + 1, z, ⟨_, _, t⟩, e => by
    obtain ⟨v, h1, h2⟩ := KReps.get (i := i) t (by simpa using e)
    exact ⟨v, by simpa using h1, h2⟩
  | [], _ :: _, _, _, h, _ => h.elim
  | _ :: _, [], _, _, h, _ => h.elim
theorem KReps.keys : ∀ {kv : List (Key × V)} {xs : List (κ × α)}, KReps K F kv xs → Reps K F (kv.map fun z => kV z.1) (xs.map (·.1))
  | [], [], _ => trivial
  | (j, v) :: _, (i, x) :: _, ⟨e, _, t⟩ => by
    subst e
    exact ⟨Flat.iff.mpr (DKey.kv i), KReps.keys t⟩
  | [], _ :: _, h => h.elim
  | _ :: _, [], h => h.elim
end
def RepD {κ α : Type} [DKey κ] [Enc α] (K : PySem.W.Frag) (s : S) (p : Addr) (xs : List (κ × α)) : Prop := ∃ kv, Rd s.H p (.dK kv) ∧ KReps K s.F kv xs
def OwnD {κ α : Type} [DKey κ] [Enc α] (K : PySem.W.Frag) (s : S) (p : Addr) (xs : List (κ × α)) : Prop := s.F p = none ∧ ∃ kv, s.H p = some (.dK kv) ∧ KReps K s.F kv xs
def CellAt (s : S) (K : PySem.W.Frag) (p : Addr) (c : Str) (fs : List (Str × V)) : Prop := ∃ dx, s.H p = some (.ins (He.ga K c) dx fs)
section
variable {α β κ : Type} [Enc α] [Enc β] [DKey κ] {K : PySem.W.Frag} {P0 : Addr → Prop} {s0 s s1 t : S} {L M R : List OA}
theorem Rd.ex {p : Addr} {u : HO} (h : Rd s.H p u) (e : Ex s t) : Rd t.H p u := h.elim (fun z => .inl (e.h _ _ z)) fun ⟨o, z⟩ => .inr ⟨o, e.h _ _ z⟩
theorem RepD.ex {p : Addr} {xs : List (κ × α)} (h : RepD K s p xs) (e : Ex s t) : RepD K t p xs := by
  obtain ⟨kv, h1, h2⟩ := h
  exact ⟨kv, Rd.ex h1 e, h2.mono e.f⟩
theorem OwnD.r {p : Addr} {xs : List (κ × α)} (h : OwnD K s p xs) : RepD K s p xs := by
  obtain ⟨_, kv, h1, h2⟩ := h
  exact ⟨kv, .inl h1, h2⟩
theorem CellAt.ex {p : Addr} {c : Str} {fs : List (Str × V)} (h : CellAt s K p c fs) (e : Ex s t) : CellAt t K p c fs := by
  obtain ⟨dx, h1⟩ := h
  exact ⟨dx, e.h _ _ h1⟩
theorem OwnD.ex {p : Addr} {xs : List (κ × α)} (h : OwnD K s p xs) (e : Ex s t) : OwnD K t p xs := by
  obtain ⟨h0, kv, h1, h2⟩ := h
  exact ⟨e.n _ _ h1 h0, kv, e.h _ _ h1, h2.mono e.f⟩
theorem Iv.od (h : Iv K P0 s0 s L) (i : Nat) {p : Addr} {xs : List (κ × α)} (e : L[i]? = some (Dy.od p xs) := by rfl) : OwnD K s p xs := by
  obtain ⟨P, ⟨h0, kv, h1, h2⟩, h3⟩ := h.at i e
  exact ⟨h3 p ((h0 p).mpr rfl), kv, h1, h2⟩
theorem Iv.odl (h : Iv K P0 s0 s L) (i : Nat) {p : Addr} {o : Obj} {kv : List (Key × V)} {xs : List (κ × α)} (e : L[i]? = some (Dy.odl p o kv xs) := by rfl) : s.F p = none ∧ s.H p = some (.frz o (.dK kv)) ∧ KReps K s.F kv xs := by
  obtain ⟨P, ⟨h0, h1, h2⟩, h3⟩ := h.at i e
  exact ⟨h3 p ((h0 p).mpr rfl), h1, h2⟩
theorem Iv.odr (h : Iv K P0 s0 s L) (i : Nat) {p : Addr} {o : Obj} {kv : List (Key × V)} {xs : List (κ × α)} (e : L[i]? = some (Dy.odl p o kv xs) := by rfl) : RepD K s p xs := ⟨kv, .inr ⟨o, (h.odl i e).2.1⟩, (h.odl i e).2.2⟩
theorem Iv.cell (h : Iv K P0 s0 s L) (i : Nat) {p : Addr} {c : Str} {fs : List (Str × V)} (e : L[i]? = some (Dy.cell p c fs) := by rfl) : CellAt s K p c fs := by
  obtain ⟨P, ⟨dx, h0, h1, h2⟩, h3⟩ := h.at i e
  exact ⟨dx, h1⟩
theorem Iv.rol (h : Iv K P0 s0 s L) (r : Ro K P0 s0 R) (i : Nat) {p : Addr} {xs : List α} (e : R[i]? = some (Dy.ol p xs) := by rfl) : RepR K s (.ref p) xs := by
  obtain ⟨P, h0, vs, h1, h2⟩ := h.ro r i e
  exact ⟨p, vs, rfl, .inl (.inl h1), h2⟩
theorem Iv.rod (h : Iv K P0 s0 s L) (r : Ro K P0 s0 R) (i : Nat) {p : Addr} {xs : List (κ × α)} (e : R[i]? = some (Dy.od p xs) := by rfl) : RepD K s p xs := by
  obtain ⟨P, h0, kv, h1, h2⟩ := h.ro r i e
  exact ⟨kv, .inl h1, h2⟩
theorem Iv.rcell (h : Iv K P0 s0 s L) (r : Ro K P0 s0 R) (i : Nat) {p : Addr} {c : Str} {fs : List (Str × V)} (e : R[i]? = some (Dy.cell p c fs) := by rfl) : CellAt s K p c fs := by
  obtain ⟨P, dx, h0, h1, h2⟩ := h.ro r i e
  exact ⟨dx, h1⟩
theorem Iv.rfz (h : Iv K P0 s0 s L) (r : Ro K P0 s0 R) (i : Nat) {v : V} {x : α} (e : R[i]? = some (Dy.fz v x) := by rfl) : rep K s.F v x := by
  obtain ⟨P, h0, h1⟩ := h.ro r i e
  exact h0
theorem Iv.sd (h : Iv K P0 s0 s L) (i : Nat) {p : Addr} {xs ys : List (κ × α)} (e : Ex s s1) (n : s.H p = none) (o : OwnD K s1 p xs) (q : ys = xs) : Iv K P0 s0 s1 (L.set i (Dy.od p ys)) := by
  subst q
  obtain ⟨o1, vs, o2, o3⟩ := o
  exact h.put i e ⟨fun a => a = p, ⟨fun _ => Iff.rfl, vs, o2, o3⟩, fun a z => by rw [z]; exact ⟨o1, n⟩⟩
theorem Iv.md (h : Iv K P0 s0 s L) (i : Nat) {p : Addr} {xs : List (κ × α)} {ys zs : List (κ × β)} (m : Mx (· = p) s s1) (o : OwnD K s1 p ys) (q : zs = ys) (hA : L[i]? = some (Dy.od p xs) := by rfl) : Iv K P0 s0 s1 (L.set i (Dy.od p zs)) := by
  subst q
  obtain ⟨o1, vs, o2, o3⟩ := o
  refine h.upd i hA fun P hP _ => ⟨P, ?_, ?_, ?_⟩
  · exact ⟨hP.1, vs, o2, o3⟩
  · intro a z
    rw [(hP.1 a).mp z]
    exact ⟨o1, .inl ((hP.1 p).mpr rfl)⟩
  · exact ⟨m.f, fun a o q n => m.h a o q fun z => n ((hP.1 a).mpr z), fun a o q _ z => m.n a o q z, m.d⟩
def lockS (s : S) (p : Addr) (u : HO) (h : s.F p = none) : S := s.put p u h
theorem Iv.lock (h : Iv K P0 s0 s L) (i : Nat) {p : Addr} {kv : List (Key × V)} {xs : List (κ × α)} (o : Obj) (hA : L[i]? = some (Dy.od p xs)) (hf : s.F p = none) (h1 : s.H p = some (.dK kv)) (h2 : KReps K s.F kv xs) : Iv K P0 s0 (s.put p (.frz o (.dK kv)) hf) (L.set i (Dy.odl p o kv xs)) :=
  h.upd i hA fun P hP _ => ⟨P, ⟨hP.1, upd_same, h2⟩, fun a z => by rw [(hP.1 a).mp z]; exact ⟨hf, .inl ((hP.1 p).mpr rfl)⟩, by
    have m : Mx (· = p) s (s.put p (.frz o (.dK kv)) hf) := Mx.put hf
    exact ⟨m.f, fun a o q n => m.h a o q fun z => n ((hP.1 a).mpr z), fun a o q _ z => m.n a o q z, m.d⟩⟩
theorem Iv.unlock (h : Iv K P0 s0 s L) (i : Nat) {p : Addr} {o : Obj} {kv : List (Key × V)} {xs : List (κ × α)} (hA : L[i]? = some (Dy.odl p o kv xs)) : ∃ s' : S, s'.H = L2.upd s.H p (.dK kv) ∧ s'.F = s.F ∧ Iv K P0 s0 s' (L.set i (Dy.od p xs)) := by
  obtain ⟨hf, h1, h2⟩ := h.odl i hA
  refine ⟨s.put p (.dK kv) hf, rfl, rfl, h.upd i hA fun P hP _ => ⟨P, ⟨hP.1, kv, upd_same, h2⟩, fun a z => by rw [(hP.1 a).mp z]; exact ⟨hf, .inl ((hP.1 p).mpr rfl)⟩, ?_⟩⟩
  have m : Mx (· = p) s (s.put p (.dK kv) hf) := Mx.put hf
  exact ⟨m.f, fun a o q n => m.h a o q fun z => n ((hP.1 a).mpr z), fun a o q _ z => m.n a o q z, m.d⟩
end
section
variable {α β γ κ : Type} [Enc α] [Enc β] [Enc γ] [DKey κ] [DecidableEq κ] {X : Cx} {σ : L2.St} {P0 : Addr → Prop} {s0 s t : S} {L : List OA} {e a b c o i : Expr} {es : List Expr} {pos p0 p1 p2 p3 : Pos} {D : Ends} {rest : List Stmt} {n : Str} {p : Addr}
theorem ev_raw {v : V} {x : α} (h : Ev X e σ s (Rw.mk v)) (r : rep X.K s.F v x) : Ev X e σ s x := fun s1 k Q q => h s1 k Q fun u s2 k2 e1 => by
  cases (show u = v from e1)
  exact q v s2 k2 (Enc.mono (k.trans k2).f r)
theorem er_raw {p : Addr} {xs : List α} (h : Ev X e σ s (Rw.mk (.ref p))) (r : RepR X.K s (.ref p) xs) : EvR X e σ s xs := fun s1 k Q q => h s1 k Q fun u s2 k2 e1 => by
  cases (show u = V.ref p from e1)
  exact q _ s2 k2 (r.ex (k.trans k2))
theorem raw_var (i : Nat) {v : V} (h : σ[i]? = some (some v)) (hN : X.N[i]? = some n := by rfl) (hv : Vis X.env.scope n := by first | exact Or.inl rfl | exact Or.inr (Or.inl rfl) | exact Or.inr (Or.inr rfl)) (hd : (n == ("__debug__" : Str)) = false := by decide)
    (hcd : (n == ("__classdict__" : Str)) = false := by decide) : Ev X (.Name n pos) σ s (Rw.mk v) := ev_var i h (show rep _ _ v (Rw.mk v) from rfl) hN hv hd hcd
theorem raw_fld {f c : Str} {v : V} {fs : List (Str × V)} (h : Ev X e σ s (Rw.mk (.ref p))) (r : CellAt s X.K p c fs) (hl : fs.lookup f = some v) (hc : Cls X.K (He.ga X.K c)) (hn : NoAttr X.K (He.ga X.K c) f) (hb : attributeBase e f X.env (eval e X.env) = eval e X.env := by rfl) : Ev X (.Attribute e f pos) σ s (Rw.mk v) := fun s1 k Q q =>
  we_of (pe_fld pe_we hb) (h s1 k _ fun u s2 k2 e1 => by
    cases (show u = V.ref p from e1)
    obtain ⟨dx, h1⟩ := r.ex (k.trans k2)
    exact ⟨p, _, dx, fs, v, rfl, h1, hc, hn, hl, q v s2 k2 rfl⟩)
theorem hu1 {j : Nat} (hr : Room j X.A) : X.A.units + 1 < cLine := by have := hu64 hr; omega
theorem dget_of {K : PySem.W.Frag} {k : κ} {xs : List (κ × α)} {w : V} (r : RepD K s p xs) (hw : w = toV k) : ∃ o, DGet s.H p w o ∧ match dval xs k with | none => o = none | some x => ∃ v, o = some v ∧ rep K s.F v x := by
  obtain ⟨kv, h1, h2⟩ := r
  refine ⟨valV kv (DKey.toK k), .inl ⟨kv, DKey.toK k, h1, by rw [hw, DKey.kv], rfl⟩, ?_⟩
  have := h2.val (k := k)
  cases hd : dval xs k with
  | none => rw [hd] at this; exact this
  | some x => rw [hd] at this; exact this
theorem ev_dget {j : Nat} {k : κ} {xs : List (κ × α)} {x : α} (hr : Room j X.A) (ho : Ev X o σ s (Rw.mk (.ref p))) (r : RepD X.K s p xs) (hi : Ev X i σ s k) (h : dval xs k = some x) (hs : NoSl i := by intro _ _; rfl) : Ev X (.Subscript o i pos) σ s x := fun s1 k1 Q q =>
  we_of (pe_dget (hu1 hr) pe_we pe_we hs) (ho s1 k1 _ fun v s2 k2 e2 => hi s2 (k1.trans k2) _ fun u s3 k3 e3 => by
    cases (show v = V.ref p from e2)
    obtain ⟨o', g1, g2⟩ := dget_of (r.ex ((k1.trans k2).trans k3)) (Flat.iff.mp e3)
    rw [h] at g2
    obtain ⟨w, rfl, g3⟩ := g2
    exact ⟨p, w, rfl, g1, q w s3 (k2.trans k3) g3⟩)
theorem dval_some {xs : List (κ × α)} {k : κ} {o : Option V} {K : PySem.W.Frag} {F : Hp} (g : match dval xs k with | none => o = none | some x => ∃ v, o = some v ∧ rep K F v x) : o.isSome = (dval xs k).isSome := by
  cases hd : dval xs k with
  | none => rw [hd] at g; rw [g]; rfl
  | some x => rw [hd] at g; obtain ⟨v, rfl, _⟩ := g; rfl
theorem ev_din {j : Nat} {k : κ} {xs : List (κ × α)} (hr : Room j X.A) (hi : Ev X i σ s k) (ho : Ev X o σ s (Rw.mk (.ref p))) (r : RepD X.K s p xs) (h1 : behindInMarks .In o = false := by rfl) : EvB X (.Compare i [.In] [o] pos) σ s (dval xs k).isSome :=
  ⟨fun s1 k1 Q q => we_of (pe_cmp (pc_din (hu1 hr) pe_we pe_we) h1) (hi s1 k1 _ fun u s2 k2 e2 => ho s2 (k1.trans k2) _ fun v s3 k3 e3 => by
    cases (show v = V.ref p from e3)
    obtain ⟨o', g1, g2⟩ := dget_of (r.ex ((k1.trans k2).trans k3)) ((Flat.iff.mp (e2 : rep _ _ u k)))
    exact ⟨p, o', rfl, g1, by rw [dval_some g2]; exact q _ s3 (k2.trans k3) rfl⟩),
   fun s1 k1 Q q => wt_of (pt_cmp (pc_din (hu1 hr) pe_we pe_we) h1) (hi s1 k1 _ fun u s2 k2 e2 => ho s2 (k1.trans k2) _ fun v s3 k3 e3 => by
    cases (show v = V.ref p from e3)
    obtain ⟨o', g1, g2⟩ := dget_of (r.ex ((k1.trans k2).trans k3)) ((Flat.iff.mp (e2 : rep _ _ u k)))
    exact ⟨p, o', rfl, g1, _, by rw [dval_some g2], q s3 (k2.trans k3)⟩)⟩
theorem ev_dnotIn {j : Nat} {k : κ} {xs : List (κ × α)} (hr : Room j X.A) (hi : Ev X i σ s k) (ho : Ev X o σ s (Rw.mk (.ref p))) (r : RepD X.K s p xs) (h1 : behindInMarks .NotIn o = false := by rfl) : EvB X (.Compare i [.NotIn] [o] pos) σ s (!(dval xs k).isSome) :=
  ⟨fun s1 k1 Q q => we_of (pe_cmp (pc_dnotin (hu1 hr) pe_we pe_we) h1) (hi s1 k1 _ fun u s2 k2 e2 => ho s2 (k1.trans k2) _ fun v s3 k3 e3 => by
    cases (show v = V.ref p from e3)
    obtain ⟨o', g1, g2⟩ := dget_of (r.ex ((k1.trans k2).trans k3)) ((Flat.iff.mp (e2 : rep _ _ u k)))
    exact ⟨p, o', rfl, g1, by rw [dval_some g2]; exact q _ s3 (k2.trans k3) rfl⟩),
   fun s1 k1 Q q => wt_of (pt_cmp (pc_dnotin (hu1 hr) pe_we pe_we) h1) (hi s1 k1 _ fun u s2 k2 e2 => ho s2 (k1.trans k2) _ fun v s3 k3 e3 => by
    cases (show v = V.ref p from e3)
    obtain ⟨o', g1, g2⟩ := dget_of (r.ex ((k1.trans k2).trans k3)) ((Flat.iff.mp (e2 : rep _ _ u k)))
    exact ⟨p, o', rfl, g1, _, by rw [dval_some g2], q s3 (k2.trans k3)⟩)⟩
theorem ev_dget1 {j : Nat} {k : κ} {xs : List (κ × α)} (hr : Room j X.A) (ho : Ev X o σ s (Rw.mk (.ref p))) (r : RepD X.K s p xs) (hi : Ev X i σ s k) (m : M1 X o "get" p1 i pos := by exact ⟨rfl, rfl, rfl, rfl⟩) : Ev X (.Call (.Attribute o "get" p1) [i] [] pos) σ s (dval xs k) := fun s1 k1 Q q =>
  we_of (pe_dget1 (hu1 hr) pe_we pe_we m) (ho s1 k1 _ fun v s2 k2 e2 => by
    cases (show v = V.ref p from e2)
    refine ⟨p, rfl, ?_, hi s2 (k1.trans k2) _ fun u s3 k3 e3 => ?_⟩
    · obtain ⟨kv, h1, _⟩ := r.ex (k1.trans k2)
      exact .inl ⟨kv, h1⟩
    · obtain ⟨o', g1, g2⟩ := dget_of (r.ex ((k1.trans k2).trans k3)) (Flat.iff.mp e3)
      refine ⟨o', g1, q _ s3 (k2.trans k3) ?_⟩
      cases hd : dval xs k with
      | none => rw [hd] at g2; rw [g2]; rfl
      | some x => rw [hd] at g2; obtain ⟨w, rfl, g3⟩ := g2; exact g3)
theorem ev_dlen {xs : List (κ × α)} (hm : X.mg "len" = none) (ho : Ev X o σ s (Rw.mk (.ref p))) (r : OwnD X.K s p xs) (hg : Gl X "len" := by rfl) (he : starEach [o] X.env = (false, eval o X.env) :: starEach [] X.env := by rfl) (hpl : (backTo pos (starEach [] X.env)).any (·.1) = false := by rfl) : Ev X (.Call (.Name "len" p0) [o] [] pos) σ s (xs.length : Int) := fun s1 k1 Q q =>
  we_of (pe_callB call_lenD hg hm boot_len (pa_cons pe_we pa_nil he) (he := he) (hpl := hpl)) (ho s1 k1 _ fun v s2 k2 e2 => by
    cases (show v = V.ref p from e2)
    obtain ⟨_, kv, h1, h2⟩ := r.ex (k1.trans k2)
    exact ⟨p, kv, rfl, h1, q _ s2 k2 (by rw [h2.len]; rfl)⟩)
theorem en_dlist {xs : List (κ × α)} (hm : X.mg "list" = none) (ho : Ev X o σ s (Rw.mk (.ref p))) (r : OwnD X.K s p xs) (hc : X.calm = true := by rfl) (hg : Gl X "list" := by rfl) (he : starEach [o] X.env = (false, eval o X.env) :: starEach [] X.env := by rfl) (hpl : (backTo pos (starEach [] X.env)).any (·.1) = false := by rfl) : EvN X (.Call (.Name "list" p0) [o] [] pos) σ s (xs.map (·.1)) := fun s1 k1 Q q =>
  we_of (pe_callTy (call_list_dK hc) hg hm (by decide +kernel) (pa_cons pe_we pa_nil he) (he := he) (hpl := hpl)) (ho s1 k1 _ fun v s2 k2 e2 => by
    cases (show v = V.ref p from e2)
    obtain ⟨_, kv, h1, h2⟩ := r.ex (k1.trans k2)
    exact ⟨p, kv, rfl, h1, fun l hl => q l (s2.newO l _ hl) (k2.trans (Ex.newO hl)) (fr_back k2 hl) (own_new hl h2.keys)⟩)
def EvND (X : Cx) (e : Expr) (σ : L2.St) (s : S) (xs : List (κ × α)) : Prop := ∀ s1, Ex s s1 → ∀ Q : VK, (∀ p s2, Ex s1 s2 → s1.H p = none → OwnD X.K s2 p xs → Q (.ref p) s2.H) → WE X e σ s1.H Q
theorem en_dnew : EvND X (.Dict [] [] pos) σ s ([] : List (κ × α)) := fun s1 k1 Q q => we_of pe_dnewK fun p hp => q p (s1.newO p (.dK []) hp) (Ex.newO hp) hp ⟨(fF hp : s1.F p = none), [], upd_same, trivial⟩
theorem do_setD (i : Nat) {xs : List (κ × α)} {n : Str} {py : Pos} (h : EvND X e σ s xs) (k : ∀ p s1, Ex s s1 → s.H p = none → OwnD X.K s1 p xs → WSs X rest D (σ.set i (some (.ref p))) s1.H) (hN : X.N.Nodup) (hx : Loc X.env.scope n := by first | exact Or.inl rfl | exact Or.inr rfl) (hi : X.N[i]? = some n := by rfl)
    (hs : swapsWith e (some (.Name n py)) pos.line X.env = pure false := by rfl) (hf : X.fn n = true ∨ X.env.scope.names.lookup n = some .local := by first | exact .inl rfl | exact .inr rfl) : WSs X (.Assign [.Name n py] e pos :: rest) D σ s.H :=
  do_cons (ps_set hN hi hx pe_we hs hf) (h s (Ex.refl _) _ fun v s1 k1 n1 r => k v s1 k1 n1 r)
theorem do_dput {j : Nat} {k : κ} {xs : List (κ × α)} {y : α} (hr : Room j X.A) (ho : Ev X o σ s (Rw.mk (.ref p))) (r : OwnD X.K s p xs) (hv : Ev X e σ s y) (hi : Ev X i σ s k) (hz : xs.length < sizeLine) (kk : ∀ s1, Mx (· = p) s s1 → OwnD X.K s1 p (dput xs k y) → WSs X rest D σ s1.H)
    (hs : swapsWith e (some (.Subscript o i p1)) pos.line X.env = pure false := by rfl) : WSs X (.Assign [.Subscript o i p1] e pos :: rest) D σ s.H :=
  do_cons (ps_dput (hu1 hr) pe_we pe_we pe_we hs) (hv s (Ex.refl _) _ fun v s1 k1 e1 => ho s1 k1 _ fun u s2 k2 e2 => hi s2 (k1.trans k2) _ fun w s3 k3 e3 => by
    cases (show u = V.ref p from e2)
    have kx := (k1.trans k2).trans k3
    obtain ⟨f0, kv, h1, h2⟩ := r.ex kx
    refine ⟨p, _, rfl, .inl ⟨kv, DKey.toK k, h1, by rw [Flat.iff.mp e3, DKey.kv], by rw [h2.len]; exact hz, rfl⟩, ?_⟩
    exact kk (s3.put p (.dK (putK kv (DKey.toK k) v)) f0) (kx.mx.trans (Mx.put f0)) ⟨f0, _, upd_same, h2.put (Enc.mono (k2.trans k3).f e1)⟩)
theorem do_dpop1 {k : κ} {xs : List (κ × α)} {x : α} (ho : Ev X o σ s (Rw.mk (.ref p))) (r : OwnD X.K s p xs) (hi : Ev X i σ s k) (h : dval xs k = some x) (kk : ∀ s1, Mx (· = p) s s1 → OwnD X.K s1 p (ddrop xs k) → WSs X rest D σ s1.H)
    (m : M1 X o "pop" p1 i p2 := by exact ⟨rfl, rfl, rfl, rfl⟩) (hs : swapsWith (.Call (.Attribute o "pop" p1) [i] [] p2) none pos.line X.env = pure false := by rfl) : WSs X (.Expr (.Call (.Attribute o "pop" p1) [i] [] p2) pos :: rest) D σ s.H :=
  do_cons (ps_expr (pe_dpop1 pe_we pe_we m) hs) (ho s (Ex.refl _) _ fun u s1 k1 e1 => by
    cases (show u = V.ref p from e1)
    refine ⟨p, rfl, ?_, hi s1 k1 _ fun w s2 k2 e2 => ?_⟩
    · obtain ⟨_, kv, h1, _⟩ := r.ex k1
      exact .inl ⟨kv, .inl h1⟩
    · have kx := k1.trans k2
      obtain ⟨f0, kv, h1, h2⟩ := r.ex kx
      have := h2.val (k := k)
      rw [h] at this
      obtain ⟨v, hv, _⟩ := this
      exact ⟨kv, DKey.toK k, v, h1, by rw [Flat.iff.mp e2, DKey.kv], hv, kk (s2.put p (.dK (dropK kv (DKey.toK k))) f0) (kx.mx.trans (Mx.put f0)) ⟨f0, _, upd_same, h2.drop⟩⟩)
theorem ddrop_none {xs : List (κ × α)} {k : κ} (h : dval xs k = none) : ddrop xs k = xs := by
  unfold ddrop
  rw [List.filter_eq_self]
  intro z hz
  unfold dval at h
  rw [Option.map_eq_none_iff, List.find?_eq_none] at h
  have := h z hz
  simpa using this
theorem do_dpop2 {k : κ} {xs : List (κ × α)} {z : β} (ho : Ev X o σ s (Rw.mk (.ref p))) (r : OwnD X.K s p xs) (hi : Ev X i σ s k) (he : Ev X e σ s z) (kk : ∀ s1, Mx (· = p) s s1 → OwnD X.K s1 p (ddrop xs k) → WSs X rest D σ s1.H)
    (m : M2 X o "pop" p1 i e p2 := by exact ⟨rfl, rfl, rfl, rfl⟩) (hs : swapsWith (.Call (.Attribute o "pop" p1) [i, e] [] p2) none pos.line X.env = pure false := by rfl) : WSs X (.Expr (.Call (.Attribute o "pop" p1) [i, e] [] p2) pos :: rest) D σ s.H :=
  do_cons (ps_expr (pe_dpop2 pe_we pe_we pe_we m) hs) (ho s (Ex.refl _) _ fun u s1 k1 e1 => by
    cases (show u = V.ref p from e1)
    refine ⟨p, rfl, ?_, hi s1 k1 _ fun w s2 k2 e2 => he s2 (k1.trans k2) _ fun y s3 k3 e3 => ?_⟩
    · obtain ⟨_, kv, h1, _⟩ := r.ex k1
      exact .inl ⟨kv, .inl h1⟩
    · have kx := (k1.trans k2).trans k3
      obtain ⟨f0, kv, h1, h2⟩ := r.ex kx
      have hval := h2.val (k := k)
      refine ⟨kv, DKey.toK k, h1, by rw [Flat.iff.mp (e2 : rep _ _ w k), DKey.kv], fun v hv => ?_, fun hn => ?_⟩
      · exact kk (s3.put p (.dK (dropK kv (DKey.toK k))) f0) (kx.mx.trans (Mx.put f0)) ⟨f0, _, upd_same, h2.drop⟩
      · have hd : dval xs k = none := by
          cases hd : dval xs k with
          | none => rfl
          | some x => rw [hd] at hval; obtain ⟨v, hv, _⟩ := hval; rw [hv] at hn; cases hn
        exact kk s3 kx.mx (by rw [ddrop_none hd]; exact ⟨f0, kv, h1, h2⟩))


end
end Dy

namespace Dy
open PySem PySem.Spec L2
open PyProof.Rows hiding St
open Enc (rep)
open Flat (toV)
open EncA (repA)

section
variable {α β γ κ τ υ ρ : Type} [Enc α] [Enc β] [Enc γ] [Enc τ] [DKey κ] [DecidableEq κ] {X : Cx} {σ : L2.St} {P0 : Addr → Prop} {s0 s t : S} {L : List OA} {e a b c o i tg iter elt : Expr} {ifs : List Expr} {scope : Scope} {own : List (Str × Nat)} {es : List Expr} {pos p0 p1 p2 p3 : Pos} {D : Ends} {rest body : List Stmt} {n : Str} {p : Addr}
structure WalkG (K : PySem.W.Frag) (G : S → Prop) (J : It) (xs : List α) : Prop where
  go : ∀ (i : Nat) (t : S) (x : α), G t → xs[i]? = some x → J.go i t.H ∧ ∀ v H', J.yld i t.H v H' → ∃ t' : S, t'.H = H' ∧ Ex t t' ∧ rep K t'.F v x
  stop : ∀ (i : Nat) (t : S), G t → xs.length ≤ i → J.stop i t.H
def EvIG (X : Cx) (tg e : Expr) (σ : L2.St) (s : S) (G : S → Prop) (xs : List α) : Prop := ∀ s1, Ex s s1 → ∀ R : It → Hp → Prop, (∀ J s2, Ex s1 s2 → WalkG X.K G J xs → R J s2.H) → WI X tg e σ s1.H R
def GL (K : PySem.W.Frag) (p : Addr) (xs : List α) : S → Prop := fun t => RepR K t (.ref p) xs
def GD (K : PySem.W.Frag) (p : Addr) (o : Obj) (kv : List (Key × V)) (xs : List (κ × α)) : S → Prop := fun t => t.H p = some (.frz o (.dK kv)) ∧ KReps K t.F kv xs
theorem GL.ex {K : PySem.W.Frag} {xs : List α} (h : GL K p xs s) (e : Ex s t) : GL K p xs t := RepR.ex h e
theorem GD.ex {K : PySem.W.Frag} {o : Obj} {kv : List (Key × V)} {xs : List (κ × α)} (h : GD K p o kv xs s) (e : Ex s t) : GD K p o kv xs t := ⟨e.h _ _ h.1, h.2.mono e.f⟩
theorem ei_rawL {xs : List α} (h : Ev X e σ s (Rw.mk (.ref p))) (r : RepR X.K s (.ref p) xs) : EvIG X tg e σ s (GL X.K p xs) xs := fun s1 k R q =>
  wi_of (pi_list pe_we) (h s1 k _ fun v s2 k2 e2 => by
    cases (show v = V.ref p from e2)
    have w : WalkG X.K (GL X.K p xs) (Itl X.K p) xs := ⟨fun i t x ⟨a, vs, e, h1, h2⟩ hx => by
      cases e
      obtain ⟨v, h3, h4⟩ := h2.get hx
      refine ⟨⟨vs, v, h1, h3⟩, fun w H' ⟨e1, hy⟩ => ⟨t, e1.symm, Ex.refl _, ?_⟩⟩
      have := hy vs h1
      rw [h3] at this
      cases this
      exact h4, fun i t ⟨a, vs, e, h1, h2⟩ hi => by
      cases e
      exact ⟨vs, h1, by rw [h2.len]; exact hi⟩⟩
    obtain ⟨a, vs, e, h1, h2⟩ := r.ex (k.trans k2)
    cases e
    exact ⟨p, rfl, ⟨vs, h1⟩, q _ s2 k2 w⟩)
theorem ei_keys {ob : Obj} {kv : List (Key × V)} {xs : List (κ × α)} (h : Ev X e σ s (Rw.mk (.ref p))) (r : GD X.K p ob kv xs s) : EvIG X tg e σ s (GD X.K p ob kv xs) (xs.map (·.1)) := fun s1 k R q =>
  wi_of (pi_keys pe_we) (h s1 k _ fun v s2 k2 e2 => by
    cases (show v = V.ref p from e2)
    exact ⟨p, ob, rfl, .inl ⟨kv, (GD.ex r (k.trans k2)).1, q _ s2 k2 ⟨fun i t x g hx => by
      rw [List.getElem?_map] at hx
      obtain ⟨z, h1, h2⟩ := Option.map_eq_some_iff.mp hx
      obtain ⟨w, h3, h4⟩ := g.2.get h1
      refine ⟨⟨g.1, (List.getElem?_eq_some_iff.mp h3).1⟩, fun y H' ⟨e1, k', v', h5, h6⟩ => ⟨t, e1.symm, Ex.refl _, ?_⟩⟩
      rw [h3] at h5
      cases h5
      rw [h6, ← h2]
      exact Flat.iff.mpr (DKey.kv _), fun i t g hi => ⟨g.1, by rw [g.2.len]; rw [List.length_map] at hi; exact hi⟩⟩⟩⟩)
theorem ei_vals {ob : Obj} {kv : List (Key × V)} {xs : List (κ × α)} (h : Ev X e σ s (Rw.mk (.ref p))) (r : GD X.K p ob kv xs s) (hbase : attributeBase e "values" X.env (eval e X.env) = eval e X.env := by rfl) (hline : (p1.endLine == pos.line) = true := by rfl) : EvIG X tg (.Call (.Attribute e "values" p1) [] [] pos) σ s (GD X.K p ob kv xs) (xs.map (·.2)) := fun s1 k R q =>
  wi_of (pi_values pe_we hbase hline) (h s1 k _ fun v s2 k2 e2 => by
    cases (show v = V.ref p from e2)
    exact ⟨p, ob, kv, rfl, (GD.ex r (k.trans k2)).1, q _ s2 k2 ⟨fun i t x g hx => by
      rw [List.getElem?_map] at hx
      obtain ⟨z, h1, h2⟩ := Option.map_eq_some_iff.mp hx
      obtain ⟨w, h3, h4⟩ := g.2.get h1
      refine ⟨⟨g.1, (List.getElem?_eq_some_iff.mp h3).1⟩, fun y H' ⟨e1, k', h5⟩ => ⟨t, e1.symm, Ex.refl _, ?_⟩⟩
      rw [h3] at h5
      cases h5
      rw [← h2]
      exact h4, fun i t g hi => ⟨g.1, by rw [g.2.len]; rw [List.length_map] at hi; exact hi⟩⟩⟩)
theorem ei_items {elts : List Expr} {kk : Nat} {tpos : Pos} {ob : Obj} {kv : List (Key × V)} {xs : List (κ × α)} (h : Ev X e σ s (Rw.mk (.ref p))) (r : GD X.K p ob kv xs s) (hbase : attributeBase e "items" X.env (eval e X.env) = eval e X.env := by rfl) (hline : (p1.endLine == pos.line) = true := by rfl) : EvIG X (.Tuple elts kk tpos) (.Call (.Attribute e "items" p1) [] [] pos) σ s (GD X.K p ob kv xs) xs := fun s1 k R q =>
  wi_of (pi_items pe_we hbase hline) (h s1 k _ fun v s2 k2 e2 => by
    cases (show v = V.ref p from e2)
    exact ⟨p, ob, kv, rfl, (GD.ex r (k.trans k2)).1, q _ s2 k2 ⟨fun i t z g h1 => by
      obtain ⟨w, h3, h4⟩ := g.2.get h1
      refine ⟨⟨g.1, (List.getElem?_eq_some_iff.mp h3).1⟩, fun y H' ⟨T, k', v', h5, h6, h7, h8⟩ => ⟨t.newF T (.tup [kV k', v']) h7, h8.symm, Ex.newF h7, ?_⟩⟩
      rw [h3] at h5
      cases h5
      rw [h6]
      exact ⟨T, _, _, rfl, tup_new h7, Flat.iff.mpr (DKey.kv _), Enc.mono (Ex.newF h7).f h4⟩, fun i t g hi => ⟨g.1, by rw [g.2.len]; exact hi⟩⟩⟩)
theorem for_read {xs : List τ} {g : TG} {B : Hp → τ → St → St → Prop} {G : S → Prop} (hi : EvIG X tg iter σ s G xs) (T : Tgt (α := τ) X.K g B)
    (R : Nat → St → S → Prop) (hG : ∀ i σ' t, R i σ' t → G t) (h0 : ∀ s1, Ex s s1 → R 0 σ s1)
    (hb : ∀ (i : Nat) (x : τ) (σ' σ2 : St) (t t' : S), xs[i]? = some x → R i σ' t → Ex t t' → B t'.F x σ' σ2 → WSs X body (LD D fun σ s => R (i + 1) σ s) σ2 t'.H)
    (hd : ∀ σ' t, R xs.length σ' t → D.nx σ' t.H) : tFor (WI X tg iter) g (WSs X body) D σ s.H :=
  hi s (Ex.refl _) _ fun J s1 k1 W => by
    refine ⟨fun i m σ' H' => ∃ t : S, t.H = H' ∧ m = xs.length - i ∧ i ≤ xs.length ∧ R i σ' t, ⟨xs.length, s1, rfl, rfl, Nat.zero_le _, h0 s1 k1⟩, ?_⟩
    rintro i m σ' H' ⟨t, rfl, rfl, hle, r⟩
    by_cases hlt : i < xs.length
    · right
      obtain ⟨g1, g2⟩ := W.go i t xs[i] (hG i σ' t r) (List.getElem?_eq_getElem hlt)
      refine ⟨g1, fun σ' H' => ∃ u : S, u.H = H' ∧ R (i + 1) σ' u, fun σ' H' ⟨u, e1, r1⟩ => ⟨xs.length - (i + 1), by omega, u, e1, rfl, hlt, r1⟩, fun v H' hy => ?_⟩
      obtain ⟨t', rfl, kt, rv⟩ := g2 v H' hy
      refine T.run t' v xs[i] _ _ rv fun σ2 hB => ?_
      exact (hb i xs[i] σ' σ2 t t' (List.getElem?_eq_getElem hlt) r kt hB).imp (fun σ3 H3 ⟨u, e1, r1⟩ => ⟨u, e1, r1⟩) (fun _ _ q => q) (fun _ _ q => q.elim) (fun _ _ q => q.elim)
    · left
      have e : i = xs.length := by omega
      subst e
      exact ⟨W.stop _ t (hG _ σ' t r) (Nat.le_refl _), hd σ' t r⟩
theorem for_readO {xs : List τ} {f : υ → τ → Option υ} {b0 b1 : υ} {g : TG} {B : Hp → τ → St → St → Prop} {G : S → Prop} (hi : EvIG X tg iter σ s G xs) (T : Tgt (α := τ) X.K g B) (hf : foldO f b0 xs = some b1)
    (R : υ → St → S → Prop) (hG : ∀ b σ' t, R b σ' t → G t) (h0 : ∀ s1, Ex s s1 → R b0 σ s1)
    (hb : ∀ (x : τ) (b b' : υ) (σ' σ2 : St) (t t' : S), x ∈ xs → f b x = some b' → R b σ' t → Ex t t' → B t'.F x σ' σ2 → WSs X body (LD D fun σ s => R b' σ s) σ2 t'.H)
    (hd : ∀ σ' t, R b1 σ' t → D.nx σ' t.H) : tFor (WI X tg iter) g (WSs X body) D σ s.H :=
  for_read hi T (fun i σ' t => ∃ b, foldO f b (xs.drop i) = some b1 ∧ R b σ' t) (fun i σ' t ⟨b, _, r⟩ => hG b σ' t r) (fun s1 k => ⟨b0, hf, h0 s1 k⟩)
    (fun i x σ' σ2 t t' hx ⟨b, h1, h2⟩ kt hB => by
      obtain ⟨hlt, rfl⟩ := List.getElem?_eq_some_iff.mp hx
      obtain ⟨b', h3, h4⟩ := foldO_drop hlt h1
      exact (hb xs[i] b b' σ' σ2 t t' (List.getElem_mem hlt) h3 h2 kt hB).imp (fun σ3 H3 ⟨u, e1, r1⟩ => ⟨u, e1, b', h4, r1⟩) (fun _ _ q => q) (fun _ _ q => q.elim) (fun _ _ q => q.elim))
    (fun σ' t ⟨b, h1, h2⟩ => by
      rw [List.drop_length] at h1
      cases h1
      exact hd σ' t h2)
theorem for_readF {xs : List τ} {f : υ → τ → Option (Fl υ ρ)} {b0 : υ} {o : Fl υ ρ} {g : TG} {B : Hp → τ → St → St → Prop} {G : S → Prop} (hi : EvIG X tg iter σ s G xs) (T : Tgt (α := τ) X.K g B) (hf : foldF f b0 xs = some o)
    (R : υ → St → S → Prop) (hG : ∀ b σ' t, R b σ' t → G t) (h0 : ∀ s1, Ex s s1 → R b0 σ s1)
    (hb : ∀ (x : τ) (b : υ) (q : Fl υ ρ) (σ' σ2 : St) (t t' : S), x ∈ xs → f b x = some q → (∀ r, q = .rt r → o = .rt r) → R b σ' t → Ex t t' → B t'.F x σ' σ2 → WSs X body (LD D fun σ s => ∃ b', q = .nx b' ∧ R b' σ s) σ2 t'.H)
    (hd : ∀ b1 σ' t, o = .nx b1 → R b1 σ' t → D.nx σ' t.H) : tFor (WI X tg iter) g (WSs X body) D σ s.H :=
  for_read hi T (fun i σ' t => ∃ b, foldF f b (xs.drop i) = some o ∧ R b σ' t) (fun i σ' t ⟨b, _, r⟩ => hG b σ' t r) (fun s1 k => ⟨b0, hf, h0 s1 k⟩)
    (fun i x σ' σ2 t t' hx ⟨b, h1, h2⟩ kt hB => by
      obtain ⟨hlt, rfl⟩ := List.getElem?_eq_some_iff.mp hx
      obtain ⟨q, h3, h4, h5⟩ := foldF_drop hlt h1
      exact (hb xs[i] b q σ' σ2 t t' (List.getElem_mem hlt) h3 h5 h2 kt hB).imp (fun σ3 H3 ⟨u, e1, b', e2, r1⟩ => ⟨u, e1, b', h4 b' e2, r1⟩) (fun _ _ q => q) (fun _ _ q => q.elim) (fun _ _ q => q.elim))
    (fun σ' t ⟨b, h1, h2⟩ => by
      rw [List.drop_length] at h1
      cases h1
      exact hd b σ' t rfl h2)
theorem do_forG {g : TG} (hp : PassesOwn (model X.prog X.w) X.A X.env X.xe) (hc : X.calm = true) (hg : PG X tg g) (h : tFor (WI X tg iter) g (WSs X body) { D with nx := fun σ' H' => WSs X rest D σ' H' } σ s.H)
    (hs : ∀ x, foldedSetIterable iter X.env x = pure x := by intro _; rfl) : WSs X (.For tg iter body [] pos :: rest) D σ s.H :=
  do_cons (ps_for hp hc pi_wi hg pss_ws hs) h
abbrev LK (D : Ends) (rest : List Stmt) (X : Cx) (p : Addr) (ob : Obj) (kv : List (Key × V)) : Ends :=
  ⟨fun σ' H' => H' p = some (.frz ob (.dK kv)) ∧ WSs X rest D σ' (upd H' p (.dK kv)), fun v H' => H' p = some (.frz ob (.dK kv)) ∧ D.rt v (upd H' p (.dK kv)), fun σ' H' => H' p = some (.frz ob (.dK kv)) ∧ D.bk σ' (upd H' p (.dK kv)), fun σ' H' => H' p = some (.frz ob (.dK kv)) ∧ D.ct σ' (upd H' p (.dK kv))⟩
theorem do_forD {g : TG} {xs : List (κ × α)} (iv : Iv X.K P0 s0 s L) (i : Nat) (hA : L[i]? = some (Dy.od p xs)) (hp : PassesOwn (model X.prog X.w) X.A X.env X.xe) (hc : X.calm = true) (hg : PG X tg g)
    (h : ∀ (ob : Obj) (kv : List (Key × V)) (s1 : S), Fle s.F s1.F → Iv X.K P0 s0 s1 (L.set i (Dy.odl p ob kv xs)) → tFor (WI X tg iter) g (WSs X body) (LK D rest X p ob kv) σ s1.H)
    (hs : ∀ x, foldedSetIterable iter X.env x = pure x := by intro _; rfl) : WSs X (.For tg iter body [] pos :: rest) D σ s.H :=
  do_cons (ps_lock (ps_for hp hc pi_wi hg pss_ws hs)) (by
    obtain ⟨hf, kv, h1, h2⟩ := iv.od i hA
    exact ⟨p, .dK kv, h1, trivial, fun ob => h ob kv (s.put p (.frz ob (.dK kv)) hf) (Fle.refl _) (iv.lock i ob hA hf h1 h2)⟩)
theorem lk_nx {xs : List (κ × α)} {ob : Obj} {kv : List (Key × V)} (iv : Iv X.K P0 s0 s L) (i : Nat) (hA : L[i]? = some (Dy.odl p ob kv xs)) (k : ∀ s1, s1.F = s.F → Iv X.K P0 s0 s1 (L.set i (Dy.od p xs)) → WSs X rest D σ s1.H) : (LK D rest X p ob kv).nx σ s.H := by
  obtain ⟨s', e1, e2, iv'⟩ := iv.unlock i hA
  have := k s' e2 iv'
  rw [e1] at this
  exact ⟨(iv.odl i hA).2.1, this⟩
theorem lk_rt {xs : List (κ × α)} {ob : Obj} {kv : List (Key × V)} {v : V} (iv : Iv X.K P0 s0 s L) (i : Nat) (hA : L[i]? = some (Dy.odl p ob kv xs)) (k : ∀ s1, s1.F = s.F → Iv X.K P0 s0 s1 (L.set i (Dy.od p xs)) → D.rt v s1.H) : (LK D rest X p ob kv).rt v s.H := by
  obtain ⟨s', e1, e2, iv'⟩ := iv.unlock i hA
  have := k s' e2 iv'
  rw [e1] at this
  exact ⟨(iv.odl i hA).2.1, this⟩
theorem lk_ex {kv : List (Key × V)} {ob : Obj} {s1 : S} (hf : s.F p = none) (h1 : s.H p = some (.dK kv)) (k : Ex s s1) : ∃ (hf1 : s1.F p = none), Ex (s.put p (.frz ob (.dK kv)) hf) (s1.put p (.frz ob (.dK kv)) hf1) := by
  refine ⟨k.n _ _ h1 hf, k.f, fun a o q => ?_, fun a o q n => ?_⟩
  · by_cases e : a = p
    · subst e
      have q : upd s.H a (.frz ob (.dK kv)) a = some o := q
      rw [upd_same] at q
      show upd s1.H a _ a = _
      rw [upd_same]; exact q
    · have q : upd s.H p (.frz ob (.dK kv)) a = some o := q
      rw [upd_ne e] at q
      show upd s1.H p _ a = _
      rw [upd_ne e]; exact k.h _ _ q
  · by_cases e : a = p
    · subst e; exact k.n _ _ h1 hf
    · have q : upd s.H p (.frz ob (.dK kv)) a = some o := q
      rw [upd_ne e] at q
      exact k.n _ _ q n
theorem lk_back {kv : List (Key × V)} {ob : Obj} {s1 s2 : S} (hf : s1.F p = none) (h1 : s1.H p = some (.dK kv)) (k : Ex (s1.put p (.frz ob (.dK kv)) hf) s2) : ∃ (hf2 : s2.F p = none), s2.H p = some (.frz ob (.dK kv)) ∧ Ex s1 (s2.put p (.dK kv) hf2) := by
  have hf2 : s2.F p = none := k.n p _ (show upd s1.H p _ p = _ from upd_same) hf
  refine ⟨hf2, k.h p _ (show upd s1.H p _ p = _ from upd_same), k.f, fun a o q => ?_, fun a o q n => ?_⟩
  · by_cases e : a = p
    · subst e
      rw [h1] at q
      cases q
      exact upd_same
    · show upd s2.H p _ a = _
      rw [upd_ne e]
      exact k.h _ _ (show upd s1.H p _ a = _ by rw [upd_ne e]; exact q)
  · by_cases e : a = p
    · subst e; exact hf2
    · exact k.n a o (show upd s1.H p _ a = _ by rw [upd_ne e]; exact q) n
theorem en_lock {ys : List β} {xs : List (κ × α)} (r : OwnD X.K s p xs) (h : ∀ (ob : Obj) (kv : List (Key × V)) (s1 : S), s1.F = s.F → (∀ a o, s.H a = some o → a ≠ p → s1.H a = some o) → GD X.K p ob kv xs s1 → (∀ hf, s1 = s.put p (.frz ob (.dK kv)) hf → EvN X e σ s1 ys)) : EvN X e σ s ys := fun s1 k Q q => by
  obtain ⟨hf, kv, h1, h2⟩ := r
  refine we_of (pe_lock pe_we) ⟨p, .dK kv, k.h _ _ h1, trivial, fun ob => ?_⟩
  obtain ⟨hf1, kx⟩ := lk_ex (ob := ob) hf h1 k
  have := h ob kv (s.put p (.frz ob (.dK kv)) hf) rfl (fun a o q n => (upd_ne n).trans q) ⟨upd_same, h2⟩ hf rfl
  refine this _ kx _ fun p2 s2 k2 n2 o2 => ?_
  obtain ⟨hf2, g1, k3⟩ := lk_back hf1 (k.h _ _ h1) k2
  refine ⟨g1, ?_⟩
  have ne : p2 ≠ p := fun z => by
    have : upd s1.H p (.frz ob (.dK kv)) p2 = none := n2
    rw [z, upd_same] at this; cases this
  have n2' : s1.H p2 = none := by
    have : upd s1.H p (.frz ob (.dK kv)) p2 = none := n2
    rw [upd_ne ne] at this; exact this
  obtain ⟨o1, vs, o3, o4⟩ := o2
  exact q p2 (s2.put p (.dK kv) hf2) k3 n2' ⟨o1, vs, (upd_ne ne).trans o3, o4⟩
theorem comp_readG {xs : List α} {ys : List β} {t : α → Option Bool} {f : α → Option β} {g : TG} {B : Hp → α → St → St → Prop} {tt : TT} {G : S → Prop} (hGx : ∀ s1 s2, Ex s1 s2 → G s1 → G s2) (hG0 : G s) (hi : EvIG X tg iter σ s G xs)
    (T : Tgt (α := α) X.K g B) (hf : compO t f xs = some ys) (hz : ys.length ≤ sizeLine)
    (hw : ∀ (F : Hp) (x : α) σ2, B F x (wipe σ (own.map (·.2))) σ2 → wipe σ2 (own.map (·.2)) = wipe σ (own.map (·.2)))
    (ht : ∀ (x : α) (b : Bool) (s1 : S) (σ2 : St) (Q : Bool → Hp → Prop), x ∈ xs → Ex s s1 → B s1.F x (wipe σ (own.map (·.2))) σ2 → t x = some b → (∀ s2, Ex s1 s2 → Q b s2.H) → tt σ2 s1.H Q)
    (he : ∀ (x : α) (y : β) (s1 : S) (σ2 : St), x ∈ xs → Ex s s1 → B s1.F x (wipe σ (own.map (·.2))) σ2 → t x = some true → f x = some y → ∀ s0 H0 C cl fp, Ev (Blk X scope s0 H0 C cl fp) elt σ2 s1 y)
    (s1 : S) (k : Ex s s1) (Q : VK) (q : ∀ p s2, Ex s1 s2 → s1.H p = none → Own X.K s2 p ys → Q (.ref p) s2.H) : tLc (WI X tg iter) g tt (fun σ H Q => ∀ s0 H0 C cl fp, WE (Blk X scope s0 H0 C cl fp) elt σ H Q) (own.map (·.2)) σ s1.H Q := by
  refine hi s1 k _ fun J s2 k2 W => ?_
  intro D hD
  have hgG : ∀ u, Ex s2 u → G u := fun u ku => hGx _ _ ((k.trans k2).trans ku) hG0
  refine ⟨fun i m H => ∃ (u : S) (pre : List β) (vs : List V), u.H = H ∧ m = xs.length - i ∧ Ex s2 u ∧ u.F D = none ∧ u.H D = some (.lst vs) ∧ Reps X.K u.F vs pre ∧ (∃ suf, compO t f (xs.drop i) = some suf ∧ pre ++ suf = ys), ⟨xs.length, s2.newO D (.lst []) hD, [], [], rfl, rfl, Ex.newO hD, (fF hD : s2.F D = none), upd_same, trivial, ys, by rw [List.drop_zero]; exact hf, rfl⟩, ?_⟩
  rintro i m H ⟨u, pre, vs, rfl, rfl, ku, n1, n2, n3, suf, h1, h2⟩
  by_cases hi' : i < xs.length
  · right
    have hx : xs[i]? = some xs[i] := List.getElem?_eq_getElem hi'
    obtain ⟨g1, g2⟩ := W.go i u xs[i] (hgG u ku) hx
    refine ⟨g1, fun H' => ∃ m', m' < xs.length - i ∧ ∃ (u : S) (pre : List β) (vs : List V), u.H = H' ∧ m' = xs.length - (i + 1) ∧ Ex s2 u ∧ u.F D = none ∧ u.H D = some (.lst vs) ∧ Reps X.K u.F vs pre ∧ (∃ suf, compO t f (xs.drop (i + 1)) = some suf ∧ pre ++ suf = ys), fun H' z => z, fun v H' hy => ?_⟩
    obtain ⟨u', rfl, ku', rv⟩ := g2 v H' hy
    refine T.run u' v xs[i] _ _ rv fun σ2 hB => ⟨hw _ _ _ hB, ?_⟩
    rw [List.drop_eq_getElem_cons hi'] at h1
    unfold compO at h1
    cases hb : t xs[i] with
    | none => rw [hb] at h1; cases h1
    | some b =>
      rw [hb, Option.bind_some] at h1
      have mem : xs[i] ∈ xs := List.getElem_mem hi'
      have base : Ex s u' := (k.trans k2).trans (ku.trans ku')
      refine ht xs[i] b u' σ2 _ mem base hB hb fun u3 k3 => ?_
      have hlt : xs.length - (i + 1) < xs.length - i := by omega
      have kk : Ex u u3 := ku'.trans k3
      cases b with
      | false =>
        rw [if_neg Bool.false_ne_true] at h1 ⊢
        exact ⟨_, hlt, u3, pre, vs, rfl, rfl, ku.trans kk, kk.n _ _ n2 n1, kk.h _ _ n2, n3.mono kk.f, suf, h1, h2⟩
      | true =>
        rw [if_pos rfl] at h1 ⊢
        cases hfx : f xs[i] with
        | none => rw [hfx] at h1; cases h1
        | some y =>
          rw [hfx, Option.bind_some] at h1
          cases hr : compO t f (xs.drop (i + 1)) with
          | none => rw [hr] at h1; cases h1
          | some suf' =>
            rw [hr] at h1
            cases h1
            intro s0 H0 C cl fp
            refine he xs[i] y u' σ2 mem base hB hb hfx s0 H0 C cl fp u3 k3 _ fun w u4 k4 r4 => ?_
            have k5 : Ex u u4 := kk.trans k4
            have hD4 : u4.H D = some (.lst vs) := k5.h _ _ n2
            have hF4 : u4.F D = none := k5.n _ _ n2 n1
            have hlen : vs.length < sizeLine := by
              have e1 := n3.len
              have e2 : ys.length = pre.length + (suf'.length + 1) := by rw [← h2, List.length_append, List.length_cons]
              omega
            refine ⟨vs, hD4, hlen, _, hlt, u4.put D (.lst (vs ++ [w])) hF4, pre ++ [y], vs ++ [w], rfl, rfl, (ku.trans k5).mu1 (Mx.put hF4) hD, hF4, upd_same, (n3.mono k5.f).snoc r4, suf', rfl, by rw [List.append_assoc]; exact h2⟩
  · left
    have hd : xs.drop i = [] := List.drop_eq_nil_of_le (by omega)
    rw [hd] at h1
    cases h1
    refine ⟨W.stop i u (hgG u ku) (by omega), q D u (k2.trans ku) (fr_back k2 hD) ⟨n1, vs, n2, ?_⟩⟩
    rw [← h2, List.append_nil]
    exact n3
theorem en_comp0G {xs : List α} {ys : List β} {f : α → Option β} {j : Nat} {n : Str} {py : Pos} {G : S → Prop} (hGx : ∀ s1 s2, Ex s1 s2 → G s1 → G s2) (hG0 : G s) (hc : X.calm = true) (hN : X.N.Nodup) (hi : EvIG X (.Name n py) iter σ s G xs) (ok : BlkOk X.N X.env.scope scope own) (hj : X.N[j]? = some n)
    (hjo : j ∈ own.map (·.2)) (hg : ∀ s0 H0 C cl fp, PG (Blk X scope s0 H0 C cl fp) (.Name n py) (gName j)) (hf : mapO f xs = some ys) (hz : ys.length ≤ sizeLine)
    (he : ∀ (x : α) (y : β) (v : V) (s1 : S), x ∈ xs → Ex s s1 → rep X.K s1.F v x → f x = some y → ∀ s0 H0 C cl fp, Ev (Blk X scope s0 H0 C cl fp) elt ((wipe σ (own.map (·.2))).set j (some v)) s1 y)
    (hs : ∀ x, foldedSetIterable iter X.env x = pure x := by intro _; rfl) : EvL X elt (.Name n py) iter [] scope σ s ys :=
  ⟨hc, hN, hs, own, _, _, ok, hg, fun _ _ _ _ _ => pts_nil, fun s1 k Q q => comp_readG (t := fun _ => some true) hGx hG0 hi tg_n hf hz (fun F x σ2 ⟨v, _, e⟩ => by rw [e, wipe_set hjo]; exact wipe_wipe fun _ z => z)
    (fun x b s1 σ2 Q _ _ _ hb q => by cases hb; exact q s1 (Ex.refl _)) (fun x y s1 σ2 hx k ⟨v, r, e⟩ _ hfx => by subst e; exact he x y v s1 hx k r hfx) s1 k Q q⟩
theorem en_comp1G {xs : List α} {ys : List β} {t : α → Option Bool} {f : α → Option β} {j : Nat} {n : Str} {py : Pos} {G : S → Prop} (hGx : ∀ s1 s2, Ex s1 s2 → G s1 → G s2) (hG0 : G s) (hc : X.calm = true) (hN : X.N.Nodup) (hi : EvIG X (.Name n py) iter σ s G xs) (ok : BlkOk X.N X.env.scope scope own) (hj : X.N[j]? = some n)
    (hjo : j ∈ own.map (·.2)) (hg : ∀ s0 H0 C cl fp, PG (Blk X scope s0 H0 C cl fp) (.Name n py) (gName j)) (hf : compO t f xs = some ys) (hz : ys.length ≤ sizeLine)
    (ht : ∀ (x : α) (b : Bool) (v : V) (s1 : S), x ∈ xs → Ex s s1 → rep X.K s1.F v x → t x = some b → ∀ s0 H0 C cl fp, EvT (Blk X scope s0 H0 C cl fp) c ((wipe σ (own.map (·.2))).set j (some v)) s1 b)
    (he : ∀ (x : α) (y : β) (v : V) (s1 : S), x ∈ xs → Ex s s1 → rep X.K s1.F v x → t x = some true → f x = some y → ∀ s0 H0 C cl fp, Ev (Blk X scope s0 H0 C cl fp) elt ((wipe σ (own.map (·.2))).set j (some v)) s1 y)
    (hs : ∀ x, foldedSetIterable iter X.env x = pure x := by intro _; rfl) : EvL X elt (.Name n py) iter [c] scope σ s ys :=
  ⟨hc, hN, hs, own, _, _, ok, hg, fun s0 H0 C cl fp => pts_one ⟨fun pins s _ _ _ I h => h s0 H0 C cl fp pins s I⟩, fun s1 k Q q => comp_readG (tt := fun σ H Q => ∀ s0 H0 C cl fp, WT (Blk X scope s0 H0 C cl fp) c σ H Q) hGx hG0 hi tg_n hf hz (fun F x σ2 ⟨v, _, e⟩ => by rw [e, wipe_set hjo]; exact wipe_wipe fun _ z => z)
    (fun x b s1 σ2 Q hx k ⟨v, r, e⟩ hb q => by subst e; intro s0 H0 C cl fp; exact ht x b v s1 hx k r hb s0 H0 C cl fp s1 (Ex.refl _) Q q) (fun x y s1 σ2 hx k ⟨v, r, e⟩ htx hfx => by subst e; exact he x y v s1 hx k r htx hfx) s1 k Q q⟩
end
end Dy

namespace Dy
open PySem PySem.Spec L2
open PyProof.Rows hiding St
open Enc (rep)
open Flat (toV)
open EncA (repA)

def tc (p : Addr) (vs : List V) : OA := ⟨fun K F H P => (∀ a, P a ↔ a = p) ∧ H p = some (.tup vs), fun e h => h, fun e ⟨h0, h1⟩ => ⟨h0, by rw [e p ((h0 p).mpr rfl)]; exact h1⟩, fun ⟨h0, h1⟩ q => ⟨_, (congrArg _ ((h0 _).mp q)).trans h1⟩⟩
abbrev No : Addr → Prop := fun _ => False
def spI {A O : Type} (K : PySem.W.Frag) (pre : List V → A → List OA → List OA → Prop) (m : A → Option O) (ok : List V → A → O → V → List OA → Prop) (er : List V → A → O → Er → List OA → Prop) : Sp := fun vs H Q E =>
  ∃ (s : S) (P0 : Addr → Prop) (L R : List OA) (x : A) (o : O), s.H = H ∧ pre vs x L R ∧ Iv K P0 s s L ∧ Ro K P0 s R ∧ m x = some o ∧
    (∀ v s' L', ok vs x o v L' → Iv K P0 s s' L' → Q v s'.H) ∧ (∀ e cls d s' L', er vs x o e L' → Iv K P0 s s' L' → ExR K s'.F e cls d → E cls d s'.H)
def noEr {A O : Type} : List V → A → O → Er → List OA → Prop := fun _ _ _ _ _ => False
abbrev FunM (K : PySem.W.Frag) (x q : Str) (st : Stmt) (f : Addr) (fd : FuncData) : Prop := FunD K x q (defArgs st) (defBody st) (defScope st) [] [] f fd
section
variable {P : Program} {w : World} {K : PySem.W.Frag} {mg : Str → Option Value} {base : Heap} {A O : Type} {pre : List V → A → List OA → List OA → Prop} {m : A → Option O} {ok : List V → A → O → V → List OA → Prop} {er : List V → A → O → Er → List OA → Prop}
theorem mk_I {x q : Str} {st : Stmt} {f : Addr} {fd : FuncData} {N ps : List Str} {k : Nat} (F : FunM K x q st f fd) (Sc : FnScope N ps (defScope st)) (hl : ∀ vs a L R, pre vs a L R → vs.length = ps.length)
    (body : ∀ (cdv : Value) (A' : Around) (outer : List Env) (s0 : Shared) (H0 : Hp) (E0 : XK), Room k (A'.deeper (envOfC q (defScope st) s0.heap.objs.size f cdv)) → ∀ (s : S) (P0 : Addr → Prop) (L R : List OA) (vs : List V) (a : A) (o : O) (Q : VK), pre vs a L R → Iv K P0 s s L → Ro K P0 s R → m a = some o →
      (∀ v s' L', ok vs a o v L' → Iv K P0 s s' L' → Q v s'.H) → WSs (cxOf CX0 P w K mg base N q (defScope st) f cdv A' outer s0 H0 E0).nox (defBody st) (RD Q) (start N vs) s.H) : FnOk P w K mg base CX0 (k + 1) f fd ps (spI K pre m ok noEr) :=
  F.ok Sc (fun vs H Q E ⟨s, P0, L, R, a, o, _, h, _⟩ => hl vs a L R h) (fun cdv A' outer s0 H0 vs Q E hr ⟨s, P0, L, R, a, o, e, h1, h2, h3, h4, h5, _⟩ => ⟨_, pss_ws.nox, by
    have := body cdv A' outer s0 H0 E hr s P0 L R vs a o Q h1 h2 h3 h4 h5
    rw [e] at this
    exact this⟩)
theorem mk_IX {x q : Str} {st : Stmt} {f : Addr} {fd : FuncData} {N ps : List Str} {k : Nat} (F : FunM K x q st f fd) (Sc : FnScope N ps (defScope st)) (hl : ∀ vs a L R, pre vs a L R → vs.length = ps.length)
    (body : ∀ (cdv : Value) (A' : Around) (outer : List Env) (s0 : Shared) (H0 : Hp) (E0 : XK), Room k (A'.deeper (envOfC q (defScope st) s0.heap.objs.size f cdv)) → ∀ (s : S) (P0 : Addr → Prop) (L R : List OA) (vs : List V) (a : A) (o : O) (Q : VK), pre vs a L R → Iv K P0 s s L → Ro K P0 s R → m a = some o →
      (∀ v s' L', ok vs a o v L' → Iv K P0 s s' L' → Q v s'.H) → (∀ e cls d s' L', er vs a o e L' → Iv K P0 s s' L' → ExR K s'.F e cls d → E0 cls d s'.H) → WSs (cxOf (L2.CX P w) P w K mg base N q (defScope st) f cdv A' outer s0 H0 E0) (defBody st) (RD Q) (start N vs) s.H) : FnOk P w K mg base (L2.CX P w) (k + 1) f fd ps (spI K pre m ok er) :=
  F.ok Sc (fun vs H Q E ⟨s, P0, L, R, a, o, _, h, _⟩ => hl vs a L R h) (fun cdv A' outer s0 H0 vs Q E hr ⟨s, P0, L, R, a, o, e, h1, h2, h3, h4, h5, h6⟩ => ⟨_, pss_ws, by
    have := body cdv A' outer s0 H0 E hr s P0 L R vs a o Q h1 h2 h3 h4 h5 h6
    rw [e] at this
    exact this⟩)
theorem cal_of {CX : CXT} {q : Sp} {x : Str} {f : Addr} {fd : FuncData} {ps : List Str} {k : Nat} (h : FnOk P w K mg base CX k f fd ps q) (hm : mg x = some (.ref f)) (kp : PySem.W.keepIn K (.ref f) = true) (b : Binds K fd ps []) : Cal P w K mg base CX k x q := ⟨f, fd, ps, h, hm, kp, b⟩
structure CalM (P : Program) (w : World) (K : PySem.W.Frag) (mg : Str → Option Value) (base : Heap) (CX : CXT) (k : Nat) (c m : Str) (q : Sp) : Prop where
  ex : ∃ (f : Addr) (fd : FuncData) (ps : List Str), FnOk P w K mg base CX k f fd ps q ∧ Meth K (He.ga K c) m f ∧ Binds K fd ps []
structure CalC (P : Program) (w : World) (K : PySem.W.Frag) (mg : Str → Option Value) (base : Heap) (CX : CXT) (k : Nat) (c : Str) (q : Sp) : Prop where
  ex : ∃ (f : Addr) (fd : FuncData) (ps : List Str), FnOk P w K mg base CX k f fd ps q ∧ Mk K (He.ga K c) f ∧ mg c = some (.ref (He.ga K c)) ∧ Binds K fd ps []
end
section
variable {X : Cx} {CX : CXT} {k j : Nat} {f C : Addr} {fd : FuncData} {ps : List Str} {sp : Sp} {o e : Expr} {es : List Expr} {ta : TE} {t : TA} {m n : Str} {pos apos p0 : Pos} {σ : L2.St} {s : S}
def tMethS (C : Addr) (m : Str) (sp : Sp) (E : L2.St → XK) (ta : TE) (t : TA) : TE := fun σ H Q => ta σ H fun x H1 => ∃ a dx fs, x = .ref a ∧ H1 a = some (.ins C dx fs) ∧ fs.lookup m = none ∧ t σ H1 fun vs H2 => sp (x :: vs) H2 Q (E σ)
theorem pe_methX {E : L2.St → XK} {pl : Sem Bool} (he : PE X o ta) (c : Cls X.K C) (hm : Meth X.K C m f) (F : FnOk X.prog X.w X.K X.mg X.base CX k f fd ps sp) (hr : Room k X.A) (hb : Binds X.K fd ps []) (hx : ∀ σ, PassesAt CX X σ (E σ)) (ha : PA X (e :: es) t)
    (hst : starEach (e :: es) X.env = (false, eval e X.env) :: starEach es X.env := by rfl) (hpl : (backTo pos (starEach es X.env)).any (·.1) = false := by rfl)
    (ht : eval (.Call (.Attribute o m apos) (e :: es) [] pos) X.env = (do
      let ov ← eval o X.env
      standAt apos.atName
      let (f, first) ← holding [ov] (getMethod ov m pl)
      callWith pos f first (backTo pos (starEach (e :: es) X.env)) (backToKw pos (keywordEach [] X.env))) := by rfl) :
    PE X (.Call (.Attribute o m apos) (e :: es) [] pos) (tMethS C m sp E ta t) := by
  refine ⟨fun pins s σ H Q I h => ?_⟩
  refine PySem.W.methodCall_KW (pl := pl) (thn (he.run pins s σ H _ I h) fun u s1 ⟨x, H1, I1, rx, a, dx, fs, ex, ea, l, q⟩ => ?_) ht
  subst ex
  obtain rfl : u = Value.ref a := rx
  refine getmeth_ok I1 ea c hm l ?_
  refine PySem.W.callWith_K (first := [.ref a]) (h₀ := X.base) I1.ok.mod.kin hm.kp (thn (ha.run pos pins s1 σ H1 _ I1 q) fun us s2 ⟨vs, H2, I2, r, q2⟩ => ⟨I2.kIn, ?_⟩) hst hpl
  exact run_fnS (us := .ref a :: us) (vs := .ref a :: vs) F hr hb (hx σ) I2 (.cons rfl r) q2
theorem pe_methX0 {E : L2.St → XK} {pl : Sem Bool} (he : PE X o ta) (c : Cls X.K C) (hm : Meth X.K C m f) (F : FnOk X.prog X.w X.K X.mg X.base CX k f fd ps sp) (hr : Room k X.A) (hb : Binds X.K fd ps []) (hx : ∀ σ, PassesAt CX X σ (E σ))
    (ht : eval (.Call (.Attribute o m apos) [] [] pos) X.env = (do
      let ov ← eval o X.env
      standAt apos.atName
      let (f, first) ← holding [ov] (getMethod ov m pl)
      callWith pos f first (backTo pos (starEach [] X.env)) (backToKw pos (keywordEach [] X.env))) := by rfl) :
    PE X (.Call (.Attribute o m apos) [] [] pos) (tMethS C m sp E ta tNil) := by
  refine ⟨fun pins s σ H Q I h => ?_⟩
  refine PySem.W.methodCall_KW (pl := pl) (thn (he.run pins s σ H _ I h) fun u s1 ⟨x, H1, I1, rx, a, dx, fs, ex, ea, l, q⟩ => ?_) ht
  subst ex
  obtain rfl : u = Value.ref a := rx
  refine getmeth_ok I1 ea c hm l ?_
  exact PySem.W.callWith_K0 (first := [.ref a]) I1.kIn hm.kp (run_fnS (us := [.ref a]) (vs := [.ref a]) F hr hb (hx σ) I1 (.cons rfl .nil) q)
theorem run_makeS {E : XK} {pins : List (Addr × Obj)} {σ : L2.St} {H : Hp} {s : Shared} {Q : VK} {us : List Value} {vs : List V} (M : Mk X.K C f) (F : FnOk X.prog X.w X.K X.mg X.base CX k f fd ps sp) (hr : Room (k + 1) X.A) (hb : Binds X.K fd ps [])
    (hx : PassesAt CX X σ E) (I : Inv X pins σ H s) (r : Vals vs us)
    (h : ∀ x dx, H x = none → H dx = none → dx ≠ x → sp (.ref x :: vs) (upd (upd H dx (.own x)) x (.ins C dx [])) (fun v H2 => v = .non ∧ Q (.ref x) H2) E) :
    wpAny (model X.prog X.w) X.A (call (.ref C) us) (EP X pins σ Q) X.xe s := by
  have hq := h (s.heap.objs.size + 1) s.heap.objs.size (I.hok.fresh (Nat.le_succ _)) (I.hok.fresh (Nat.le_refl _)) (Nat.ne_of_lt (Nat.lt_succ_self _))
  have I2 := Inv.made (C := C) I
  have r2 : Vals (V.ref (s.heap.objs.size + 1) :: vs) (Value.ref (s.heap.objs.size + 1) :: us) := .cons rfl r
  have hl : (Value.ref (s.heap.objs.size + 1) :: us).length = ps.length := by
    have e := r2.length
    rw [F.len _ _ _ _ hq] at e
    exact e.symm
  refine wpAny_call (make_map (f := f) I.kIn M.makes M.init (beq_iff_eq.mp M.fn) (codeAny_mono (F.run _ X.stack _ _ ⟨Value.ref (s.heap.objs.size + 1) :: us, []⟩ (Value.ref (s.heap.objs.size + 1) :: us) _ _ E (hr.make C us [])
    (I2.env0.make C us []) (by
      have := hb _ (Value.ref (s.heap.objs.size + 1) :: us) I2.kIn (by rw [List.append_nil]; exact hl)
      rw [List.append_nil] at this
      exact this) r2 hq) fun r s' hq' => ?_))
  cases r with
  | error e => exact hx pins _ _ e s' I2 hq'
  | ok fl =>
    cases fl with
    | ret u =>
      obtain ⟨v, H', I3, rv, ev, q3⟩ := I2.after hq'
      subst ev
      exact ⟨rv, ⟨V.ref (s.heap.objs.size + 1), H', I3, rfl, q3⟩⟩
    | next => exact False.elim hq'
    | brk => exact False.elim hq'
    | cont => exact False.elim hq'
def tMakeS (C : Addr) (sp : Sp) (E : L2.St → XK) (t : TA) : TE := fun σ H Q => t σ H fun vs H1 => ∀ x dx, H1 x = none → H1 dx = none → dx ≠ x → sp (.ref x :: vs) (upd (upd H1 dx (.own x)) x (.ins C dx [])) (fun v H2 => v = .non ∧ Q (.ref x) H2) (E σ)
theorem pe_makeX {E : L2.St → XK} (M : Mk X.K C f) (F : FnOk X.prog X.w X.K X.mg X.base CX k f fd ps sp) (hr : Room (k + 1) X.A) (hg : Gl X n) (hm : X.mg n = some (.ref C)) (hb : Binds X.K fd ps []) (hx : ∀ σ, PassesAt CX X σ (E σ))
    (ha : PA X (e :: es) t) (hdb : (n == ("__debug__" : Str)) = false := by decide) (he : starEach (e :: es) X.env = (false, eval e X.env) :: starEach es X.env := by rfl) (hpl : (backTo pos (starEach es X.env)).any (·.1) = false := by rfl) :
    PE X (.Call (.Name n p0) (e :: es) [] pos) (tMakeS C sp E t) := by
  refine ⟨fun pins s σ H Q I h => ?_⟩
  refine wpAny_Call_Name_kw (ld_glob I hg hm ?_ hdb)
  refine PySem.W.callWith_K (h₀ := X.base) I.ok.mod.kin M.kp (thn (ha.run pos pins s σ H _ I h) fun us s1 ⟨vs, H1, I1, r, q⟩ => ⟨I1.kIn, ?_⟩) he hpl
  exact run_makeS M F hr hb (hx σ) I1 r q
theorem pe_makeX0 {E : L2.St → XK} (M : Mk X.K C f) (F : FnOk X.prog X.w X.K X.mg X.base CX k f fd ps sp) (hr : Room (k + 1) X.A) (hg : Gl X n) (hm : X.mg n = some (.ref C)) (hb : Binds X.K fd ps []) (hx : ∀ σ, PassesAt CX X σ (E σ))
    (hdb : (n == ("__debug__" : Str)) = false := by decide) : PE X (.Call (.Name n p0) [] [] pos) (tMakeS C sp E tNil) := by
  refine ⟨fun pins s σ H Q I h => ?_⟩
  refine wpAny_Call_Name_kw (ld_glob I hg hm ?_ hdb)
  exact PySem.W.callWith_K0 I.kIn M.kp (run_makeS (us := []) M F hr hb (hx σ) I .nil h)

def Calls (X : Cx) (e : Expr) (σ : L2.St) (s : S) (sp : Sp) (E : XK) (Φ : List V → S → Prop) : Prop := ∀ s1, Ex s s1 → ∀ Q : VK, (∀ vs s2, Ex s1 s2 → Φ vs s2 → sp vs s2.H Q E) → WE X e σ s1.H Q
theorem ca_fn {A : Type} [EncA A] {a : A} {E : L2.St → XK} (C : Cal X.prog X.w X.K X.mg X.base CX k n sp) (hx : ∀ σ, PassesAt CX X σ (E σ)) (hr : Room j X.A) (hk : k ≤ j) (ha : EvA X (e :: es) σ s a) (hg : Gl X n := by rfl)
    (hdb : (n == ("__debug__" : Str)) = false := by decide) (he : starEach (e :: es) X.env = (false, eval e X.env) :: starEach es X.env := by rfl) (hpl : (backTo pos (starEach es X.env)).any (·.1) = false := by rfl) : Calls X (.Call (.Name n p0) (e :: es) [] pos) σ s sp (E σ) (fun vs s2 => repA X.K s2.F vs a) := fun s1 k1 Q q => by
  obtain ⟨f, fd, ps, F, hm, kp, b⟩ := C.ex
  exact we_of (pe_callS (E := E) F (hr.mono hk) hg hm kp b hx pa_wa hdb he hpl) (ha s1 k1 _ fun vs s2 k2 r2 => q vs s2 k2 r2)
theorem ca_meth {A : Type} [EncA A] {a : A} {E : L2.St → XK} {c : Str} {p : Addr} {fs : List (Str × V)} (C : CalM X.prog X.w X.K X.mg X.base CX k c m sp) (hc : Cls X.K (He.ga X.K c)) (hx : ∀ σ, PassesAt CX X σ (E σ)) (hr : Room j X.A) (hk : k ≤ j) (ho : Ev X o σ s (Rw.mk (.ref p))) (r : CellAt s X.K p c fs) (hl : fs.lookup m = none) (ha : EvA X (e :: es) σ s a)
    {pl : Sem Bool} (hst : starEach (e :: es) X.env = (false, eval e X.env) :: starEach es X.env := by rfl) (hpl : (backTo pos (starEach es X.env)).any (·.1) = false := by rfl)
    (ht : eval (.Call (.Attribute o m apos) (e :: es) [] pos) X.env = (do
      let ov ← eval o X.env
      standAt apos.atName
      let (f, first) ← holding [ov] (getMethod ov m pl)
      callWith pos f first (backTo pos (starEach (e :: es) X.env)) (backToKw pos (keywordEach [] X.env))) := by rfl) : Calls X (.Call (.Attribute o m apos) (e :: es) [] pos) σ s sp (E σ) (fun vs s2 => ∃ ws, vs = .ref p :: ws ∧ repA X.K s2.F ws a) := fun s1 k1 Q q => by
  obtain ⟨f, fd, ps, F, hm, b⟩ := C.ex
  refine we_of (pe_methX (E := E) (pl := pl) pe_we hc hm F (hr.mono hk) b hx pa_wa hst hpl ht) (ho s1 k1 _ fun v s2 k2 e2 => ?_)
  cases (show v = V.ref p from e2)
  obtain ⟨dx, h1⟩ := r.ex (k1.trans k2)
  exact ⟨p, dx, fs, rfl, h1, hl, ha s2 (k1.trans k2) _ fun ws s3 k3 r3 => q _ s3 (k2.trans k3) ⟨ws, rfl, r3⟩⟩
theorem ca_meth0 {E : L2.St → XK} {c : Str} {p : Addr} {fs : List (Str × V)} (C : CalM X.prog X.w X.K X.mg X.base CX k c m sp) (hc : Cls X.K (He.ga X.K c)) (hx : ∀ σ, PassesAt CX X σ (E σ)) (hr : Room j X.A) (hk : k ≤ j) (ho : Ev X o σ s (Rw.mk (.ref p))) (r : CellAt s X.K p c fs) (hl : fs.lookup m = none)
    {pl : Sem Bool} (ht : eval (.Call (.Attribute o m apos) [] [] pos) X.env = (do
      let ov ← eval o X.env
      standAt apos.atName
      let (f, first) ← holding [ov] (getMethod ov m pl)
      callWith pos f first (backTo pos (starEach [] X.env)) (backToKw pos (keywordEach [] X.env))) := by rfl) : Calls X (.Call (.Attribute o m apos) [] [] pos) σ s sp (E σ) (fun vs s2 => ∃ ws, vs = .ref p :: ws ∧ repA X.K s2.F ws ()) := fun s1 k1 Q q => by
  obtain ⟨f, fd, ps, F, hm, b⟩ := C.ex
  refine we_of (pe_methX0 (E := E) (pl := pl) pe_we hc hm F (hr.mono hk) b hx ht) (ho s1 k1 _ fun v s2 k2 e2 => ?_)
  cases (show v = V.ref p from e2)
  obtain ⟨dx, h1⟩ := r.ex (k1.trans k2)
  exact ⟨p, dx, fs, rfl, h1, hl, q _ s2 k2 ⟨[], rfl, rfl⟩⟩
def CallsN (X : Cx) (e : Expr) (σ : L2.St) (s : S) (c : Str) (sp : Sp) (E : XK) (Φ : List V → S → Prop) : Prop := ∀ s1, Ex s s1 → ∀ Q : VK, (∀ vs s2, Ex s1 s2 → Φ vs s2 → ∀ x dx, s2.H x = none → s2.H dx = none → dx ≠ x → sp (.ref x :: vs) (upd (upd s2.H dx (.own x)) x (.ins (He.ga X.K c) dx [])) (fun v H2 => v = .non ∧ Q (.ref x) H2) E) → WE X e σ s1.H Q
theorem ca_make {A : Type} [EncA A] {a : A} {E : L2.St → XK} (C : CalC X.prog X.w X.K X.mg X.base CX k n sp) (hx : ∀ σ, PassesAt CX X σ (E σ)) (hr : Room j X.A) (hk : k + 1 ≤ j) (ha : EvA X (e :: es) σ s a) (hg : Gl X n := by rfl)
    (hdb : (n == ("__debug__" : Str)) = false := by decide) (he : starEach (e :: es) X.env = (false, eval e X.env) :: starEach es X.env := by rfl) (hpl : (backTo pos (starEach es X.env)).any (·.1) = false := by rfl) : CallsN X (.Call (.Name n p0) (e :: es) [] pos) σ s n sp (E σ) (fun vs s2 => repA X.K s2.F vs a) := fun s1 k1 Q q => by
  obtain ⟨f, fd, ps, F, M, hm, b⟩ := C.ex
  exact we_of (pe_makeX (E := E) M F (hr.mono hk) hg hm b hx pa_wa hdb he hpl) (ha s1 k1 _ fun vs s2 k2 r2 => fun x dx h1 h2 h3 => q vs s2 k2 r2 x dx h1 h2 h3)
theorem ca_make0 {E : L2.St → XK} (C : CalC X.prog X.w X.K X.mg X.base CX k n sp) (hx : ∀ σ, PassesAt CX X σ (E σ)) (hr : Room j X.A) (hk : k + 1 ≤ j) (hg : Gl X n := by rfl)
    (hdb : (n == ("__debug__" : Str)) = false := by decide) : CallsN X (.Call (.Name n p0) [] [] pos) σ s n sp (E σ) (fun vs s2 => repA X.K s2.F vs ()) := fun s1 k1 Q q => by
  obtain ⟨f, fd, ps, F, M, hm, b⟩ := C.ex
  exact we_of (pe_makeX0 (E := E) M F (hr.mono hk) hg hm b hx hdb) fun x dx h1 h2 h3 => q [] s1 (Ex.refl _) rfl x dx h1 h2 h3
theorem pass00 {E : L2.St → XK} : ∀ σ, PassesAt CX0 X σ (E σ) := fun σ pins H s e s' I c => c.elim
theorem passF : ∀ σ, PassesAt (L2.CX X.prog X.w) X σ ((fun _ _ _ _ => False : L2.St → XK) σ) := fun σ pins H s e s' I c => by
  obtain ⟨_, _, _, _, _, _, _, _, _, _, _, _, hf⟩ := c
  exact hf.elim
def EvK (X : Cx) (e : Expr) (σ : L2.St) (s : S) (Φ : V → S → Prop) : Prop := ∀ Q : VK, (∀ v s2, Φ v s2 → Q v s2.H) → WE X e σ s.H Q
def EvG (X : Cx) (e : Expr) (σ : L2.St) (s : S) (ok : V → List OA → Prop) : Prop := ∀ s1, Ex s s1 → ∀ Q : VK, (∀ v s2 L', ok v L' → Iv X.K No s1 s2 L' → Q v s2.H) → WE X e σ s1.H Q
end
section
variable {X : Cx} {P0 : Addr → Prop} {s0 s s1 t : S} {L R0 M : List OA} {K : PySem.W.Frag}
theorem Iv.add (h : Iv K P0 s0 s L) (g : Iv K No s s1 M) : Iv K P0 s0 s1 (L ++ M) := by
  obtain ⟨P1, _, _, h3, h4⟩ := call_in h (R0 := []) ⟨fun i A e => by cases e⟩ [] List.nodup_nil (fun k hk => by cases hk) [] (fun A hA => by cases hA) [] (fun i hi => by cases hi)
  have e0 : P1 = No := by
    funext a
    exact propext ⟨fun z => (h3 rfl a z).elim, fun z => z.elim⟩
  have := h4 s1 M (by rw [e0]; exact g)
  have er : rem L [] = L := by
    unfold rem
    apply List.ext_getElem?
    intro i
    rw [List.getElem?_mapIdx]
    cases L[i]? <;> simp
  rw [er] at this
  exact this
theorem Iv.noex (h : Iv K No s0 s L) : Ex s0 s := h.exx
theorem Iv.nil : Iv K P0 s s [] := Iv.tops 0 s
theorem Iv.cons1 {A : OA} (h : Iv K No s s1 [A]) : A :: [] = [A] := rfl
theorem ev_ivf {α : Type} [Enc α] {v : V} {x : α} (e : Ex s s1) (r : rep K s1.F v x) : Iv K No s s1 [Dy.fz v x] := (Iv.sf (Iv.tops (K := K) (P0 := No) 1 s) 0 e r rfl)
theorem ev_ivl {α : Type} [Enc α] {p : Addr} {x : List α} (e : Ex s s1) (n : s.H p = none) (o : Own K s1 p x) : Iv K No s s1 [Dy.ol p x] := (Iv.sl (Iv.tops (K := K) (P0 := No) 1 s) 0 e n o rfl)
theorem ev_ivd {α κ : Type} [DKey κ] [Enc α] {p : Addr} {x : List (κ × α)} (e : Ex s s1) (n : s.H p = none) (o : OwnD K s1 p x) : Iv K No s s1 [Dy.od p x] := (Iv.sd (Iv.tops (K := K) (P0 := No) 1 s) 0 e n o rfl)
end
section
variable {X : Cx} {CX : CXT} {k j : Nat} {e : Expr} {es : List Expr} {pos p0 p1 : Pos} {σ : L2.St} {P0 : Addr → Prop} {s0 s : S} {L R0 : List OA} {A O : Type} {pre : List V → A → List OA → List OA → Prop} {m : A → Option O} {ok : List V → A → O → V → List OA → Prop} {er : List V → A → O → Er → List OA → Prop} {x : A} {o : O} {E : XK} {Φ : List V → S → Prop} {ok' : V → List OA → Prop}
theorem eg_call (c : Calls X e σ s (spI X.K pre m ok er) E Φ) (iv : Iv X.K P0 s0 s L) (ro : Ro X.K P0 s0 R0) (rs : List (Nat ⊕ Nat))
    (hp : ∀ vs s2, Ex s s2 → Φ vs s2 → ∃ Lf, pre vs x Lf (rsel L R0 rs) ∧ (∀ A ∈ Lf, A.p X.K s2.F s2.H No) ∧ (∀ v L', ok vs x o v L' → ok' v L') ∧ (∀ e L', er vs x o e L' → False)) (hm : m x = some o) : EvG X e σ s ok' := fun s1 k1 Q q =>
  c s1 k1 Q fun vs s2 k2 φ => by
    obtain ⟨Lf, h1, h2, h3, h4⟩ := hp vs s2 (k1.trans k2) φ
    obtain ⟨P1, g1, g2, g3, g4⟩ := call_in (iv.ex (k1.trans k2)) ro [] List.nodup_nil (fun k hk => by cases hk) Lf h2 rs (fun i _ z => by cases z)
    have e0 : P1 = No := by
      funext a
      exact propext ⟨fun z => (g3 rfl a z).elim, fun z => z.elim⟩
    subst e0
    exact ⟨s2, No, Lf, _, x, o, rfl, h1, g1, g2, hm, fun v s' L' hok iv' => q v s' L' (h3 v L' hok) ⟨k2.z.trans iv'.m, by
      obtain ⟨φ, f1, f2, f3⟩ := iv'.o
      exact ⟨φ, f1, f2, fun i a z => ⟨(f3 i a z).1, (f3 i a z).2.1.elim (fun z => z.elim) (fun z => .inr (fr_back k2 z)), (f3 i a z).2.2⟩⟩⟩, fun e cls d s' L' z _ _ => (h4 e L' z).elim⟩
theorem ek_call (c : Calls X e σ s (spI X.K pre m ok er) E Φ) (iv : Iv X.K P0 s0 s L) (ro : Ro X.K P0 s0 R0) (ks : List Nat) (hn : ks.Nodup) (hk : ∀ k ∈ ks, k < L.length) (rs : List (Nat ⊕ Nat)) (hrs : ∀ i, Sum.inl i ∈ rs → i ∉ ks)
    (hp : ∀ vs s2, Ex s s2 → Φ vs s2 → ∃ Lf, pre vs x (ks.map (fun k => L.getD k top) ++ Lf) (rsel L R0 rs) ∧ (∀ A ∈ Lf, A.p X.K s2.F s2.H No) ∧ (∀ v L', ok vs x o v L' → ok' v L') ∧ (∀ e L', er vs x o e L' → False)) (hm : m x = some o) :
    EvK X e σ s (fun v s' => ∃ L', ok' v L' ∧ Fle s.F s'.F ∧ Iv X.K P0 s0 s' (rem L ks ++ L')) := fun Q q =>
  c s (Ex.refl _) Q fun vs s2 k2 φ => by
    obtain ⟨Lf, h1, h2, h3, h4⟩ := hp vs s2 k2 φ
    obtain ⟨P1, g1, g2, g3, g4⟩ := call_in (iv.ex k2) ro ks hn hk Lf h2 rs hrs
    exact ⟨s2, P1, _, _, x, o, rfl, h1, g1, g2, hm, fun v s' L' hok iv' => q v s' ⟨L', h3 v L' hok, k2.f.trans iv'.m.f, g4 s' L' iv'⟩, fun e cls d s' L' z _ _ => (h4 e L' z).elim⟩
theorem ex_call {er' : Er → List OA → Prop} {W : WX} (c : Calls X e σ s (spI X.K pre m ok er) (L2.WE W σ) Φ) (iv : Iv X.K P0 s0 s L) (ro : Ro X.K P0 s0 R0) (ks : List Nat) (hn : ks.Nodup) (hk : ∀ k ∈ ks, k < L.length) (rs : List (Nat ⊕ Nat)) (hrs : ∀ i, Sum.inl i ∈ rs → i ∉ ks)
    (hp : ∀ vs s2, Ex s s2 → Φ vs s2 → ∃ Lf, pre vs x (ks.map (fun k => L.getD k top) ++ Lf) (rsel L R0 rs) ∧ (∀ A ∈ Lf, A.p X.K s2.F s2.H No) ∧ (∀ v L', ok vs x o v L' → False) ∧ (∀ e L', er vs x o e L' → er' e L')) (hm : m x = some o)
    (hw : ∀ e cls d s' L', er' e L' → Iv X.K P0 s0 s' (rem L ks ++ L') → ExR X.K s'.F e cls d → W cls d σ s'.H) : EvX X e σ s := fun s1 k1 Q =>
  c s1 k1 Q fun vs s2 k2 φ => by
    obtain ⟨Lf, h1, h2, h3, h4⟩ := hp vs s2 (k1.trans k2) φ
    obtain ⟨P1, g1, g2, g3, g4⟩ := call_in (iv.ex (k1.trans k2)) ro ks hn hk Lf h2 rs hrs
    exact ⟨s2, P1, _, _, x, o, rfl, h1, g1, g2, hm, fun v s' L' hok iv' => (h3 v L' hok).elim, fun e cls d s' L' z iv' r => hw e cls d s' L' (h4 e L' z) (g4 s' L' iv') r⟩
theorem mk_cell {c : Str} {p dx : Addr} (iv : Iv X.K P0 s0 s L) (hx : s.H p = none) (hd : s.H dx = none) (ne : dx ≠ p) : ∃ s1 : S, s1.H = upd (upd s.H dx (.own p)) p (.ins (He.ga X.K c) dx []) ∧ Ex s s1 ∧ Iv X.K P0 s0 s1 (L ++ [Dy.cell p c []]) ∧ Iv X.K No s s1 [Dy.cell p c []] := by
  have e1 : Ex s (s.newO dx (.own p) hd) := Ex.newO hd
  have hx1 : (s.newO dx (.own p) hd).H p = none := by show upd s.H dx _ p = none; rw [upd_ne (Ne.symm ne)]; exact hx
  have e2 := Ex.newO (o := HO.ins (He.ga X.K c) dx []) hx1
  have e3 := e1.trans e2
  have g : Iv X.K No s ((s.newO dx (.own p) hd).newO p (.ins (He.ga X.K c) dx []) hx1) [Dy.cell p c []] := by
    refine Iv.put (L := [top]) (Iv.tops (P0 := No) 1 s) 0 e3 ⟨fun a => a = p ∨ a = dx, ⟨dx, fun _ => Iff.rfl, upd_same, ?_⟩, fun a z => ?_⟩
    · show upd (upd s.H dx (.own p)) p _ dx = _
      rw [upd_ne ne, upd_same]
    · rcases z with rfl | rfl
      · exact ⟨(fF hx : s.F a = none), hx⟩
      · exact ⟨(fF hd : s.F a = none), hd⟩
  exact ⟨_, rfl, e3, iv.add g, g⟩
theorem eg_make {c : Str} (ca : CallsN X e σ s c (spI X.K pre m ok er) E Φ) (iv : Iv X.K P0 s0 s L) (ro : Ro X.K P0 s0 R0) (rs : List (Nat ⊕ Nat))
    (hp : ∀ vs s2 p, Ex s s2 → Φ vs s2 → ∃ Lf, pre (.ref p :: vs) x (Dy.cell p c [] :: Lf) (rsel L R0 rs) ∧ (∀ (A : OA) (s3 : S), Ex s2 s3 → A ∈ Lf → A.p X.K s3.F s3.H No) ∧ (∀ v L', ok (.ref p :: vs) x o v L' → v = .non ∧ ok' (.ref p) L') ∧ (∀ e L', er (.ref p :: vs) x o e L' → False)) (hm : m x = some o) : EvG X e σ s ok' := fun s1 k1 Q q =>
  ca s1 k1 Q fun vs s2 k2 φ p dx n1 n2 ne => by
    obtain ⟨Lf, h1, h2, h3, h4⟩ := hp vs s2 p (k1.trans k2) φ
    obtain ⟨s3, e3, k3, iv3, iv4⟩ := mk_cell (c := c) (iv.ex (k1.trans k2)) n1 n2 ne
    have kk := k2.trans k3
    obtain ⟨P1, g1, g2, g3, g4⟩ := call_in (R0 := rsel L R0 rs) (K := X.K) (s0 := s3) (s := s3) (P0 := fun a => a = p ∨ a = dx) (L := [Dy.cell p c []]) ⟨(Ex.refl s3).z, by
        obtain ⟨φ, f1, f2, f3⟩ := iv4.o
        refine ⟨φ, f1, f2, fun i a z => ⟨(f3 i a z).1, .inl ?_, (f3 i a z).2.2⟩⟩
        have hi : i = 0 := by have := (f3 i a z).2.2; simpa using this
        subst hi
        obtain ⟨dx', w0, w1, w2⟩ := f1 0 _ rfl
        have : dx' = dx := by
          rw [e3, upd_same] at w1
          cases w1; rfl
        subst this
        exact (w0 a).mp z⟩ ⟨fun i A hA => by
        obtain ⟨PP, w1, w2, _, _⟩ := call_in (iv.ex (k1.trans k2)) ro [] List.nodup_nil (fun k hk => by cases hk) [] (fun A hA => by cases hA) rs (fun i _ z => by cases z)
        obtain ⟨Pa, u1, u2⟩ := w2.o i A hA
        refine ⟨Pa, OA.stay (P0 := No) u1 k3.z fun _ _ z => z, fun a ha z => ?_⟩
        obtain ⟨o', ho'⟩ := A.dom u1 ha
        rcases z with rfl | rfl
        · rw [n1] at ho'; cases ho'
        · rw [n2] at ho'; cases ho'⟩ [0] (by decide) (by simp) Lf (fun A hA => h2 A s3 k3 hA) ((List.range rs.length).map Sum.inr) (fun i z => by simp at z)
    refine ⟨s3, P1, _, _, x, o, e3, ?_, g1, g2, hm, fun v s' L' hok iv' => ?_, fun e cls d s' L' z _ _ => (h4 e L' z).elim⟩
    · have er : rsel [Dy.cell p c []] (rsel L R0 rs) ((List.range rs.length).map Sum.inr) = rsel L R0 rs := by
        apply List.ext_getElem?
        intro i
        unfold rsel
        rw [List.map_map, List.getElem?_map]
        by_cases hi : i < rs.length
        · rw [List.getElem?_range hi]
          simp only [Option.map_some, Function.comp]
          rw [List.getD_eq_getElem?_getD, List.getElem?_map, List.getElem?_eq_getElem hi]
          rfl
        · rw [List.getElem?_eq_none (by rw [List.length_range]; omega), List.getElem?_map, List.getElem?_eq_none (by omega)]; rfl
      rw [er]
      exact h1
    · obtain ⟨v0, hok'⟩ := h3 v L' hok
      have := g4 s' L' iv'
      refine ⟨v0, q _ s' L' hok' ?_⟩
      have iv5 : Iv X.K (fun a => a = p ∨ a = dx) s3 s' L' := by
        have := this.sel ((List.range L'.length).map fun i => some (i + 1)) (by
          have : (List.map (fun i => some (i + 1)) (List.range L'.length)).filterMap id = (List.range L'.length).map (· + 1) := by
            rw [List.filterMap_map]
            exact (List.filterMap_eq_map (f := fun i : Nat => i + 1)) ▸ rfl
          rw [this]
          exact List.Pairwise.map _ (fun a b h e => h (Nat.succ.inj e)) List.nodup_range) (M := L') (by
          unfold pick rem
          apply List.ext_getElem?
          intro i
          rw [List.map_map, List.getElem?_map]
          by_cases hi : i < L'.length
          · rw [List.getElem?_range hi]
            simp [List.getD_eq_getElem?_getD, List.getElem?_eq_getElem hi]
          · rw [List.getElem?_eq_none (by rw [List.length_range]; omega), List.getElem?_eq_none (by omega)]; rfl)
        exact this
      refine ⟨⟨kk.f.trans iv5.m.f, fun a o h _ => ?_, fun a o h _ n => ?_, fun a o h => ?_⟩, ?_⟩
      · have : ¬ (a = p ∨ a = dx) := fun z => by
          rcases z with rfl | rfl
          · rw [k2.h _ _ h] at n1; cases n1
          · rw [k2.h _ _ h] at n2; cases n2
        exact iv5.m.h _ _ (kk.h _ _ h) this
      · have : ¬ (a = p ∨ a = dx) := fun z => by
          rcases z with rfl | rfl
          · rw [k2.h _ _ h] at n1; cases n1
          · rw [k2.h _ _ h] at n2; cases n2
        exact iv5.m.n _ _ (kk.h _ _ h) this (kk.n _ _ h n)
      · exact iv5.m.d _ _ (kk.h _ _ h)
      · obtain ⟨φ, f1, f2, f3⟩ := iv5.o
        refine ⟨φ, f1, f2, fun i a z => ⟨(f3 i a z).1, .inr ?_, (f3 i a z).2.2⟩⟩
        rcases (f3 i a z).2.1 with (rfl | rfl) | w
        · exact fr_back k2 n1
        · exact fr_back k2 n2
        · exact fr_back kk w
theorem ex_make {c : Str} {er' : Er → Prop} {W : WX} (ca : CallsN X e σ s c (spI X.K pre m ok er) (L2.WE W σ) Φ) (iv : Iv X.K P0 s0 s L) (ro : Ro X.K P0 s0 R0) (rs : List (Nat ⊕ Nat))
    (hp : ∀ vs s2 p, Ex s s2 → Φ vs s2 → ∃ Lf, pre (.ref p :: vs) x (Dy.cell p c [] :: Lf) (rsel L R0 rs) ∧ (∀ (A : OA) (s3 : S), Ex s2 s3 → A ∈ Lf → A.p X.K s3.F s3.H No) ∧ (∀ v L', ok (.ref p :: vs) x o v L' → False) ∧ (∀ e L', er (.ref p :: vs) x o e L' → er' e)) (hm : m x = some o)
    (hw : ∀ e cls d s', er' e → Ex s s' → ExR X.K s'.F e cls d → W cls d σ s'.H) : EvX X e σ s := fun s1 k1 Q =>
  ca s1 k1 Q fun vs s2 k2 φ p dx n1 n2 ne => by
    obtain ⟨Lf, h1, h2, h3, h4⟩ := hp vs s2 p (k1.trans k2) φ
    obtain ⟨s3, e3, k3, iv3, iv4⟩ := mk_cell (c := c) (iv.ex (k1.trans k2)) n1 n2 ne
    have kk := (k1.trans k2).trans k3
    obtain ⟨P1, g1, g2, g3, g4⟩ := call_in (R0 := rsel L R0 rs) (K := X.K) (s0 := s3) (s := s3) (P0 := fun a => a = p ∨ a = dx) (L := [Dy.cell p c []]) ⟨(Ex.refl s3).z, by
        obtain ⟨φ, f1, f2, f3⟩ := iv4.o
        refine ⟨φ, f1, f2, fun i a z => ⟨(f3 i a z).1, .inl ?_, (f3 i a z).2.2⟩⟩
        have hi : i = 0 := by have := (f3 i a z).2.2; simpa using this
        subst hi
        obtain ⟨dx', w0, w1, w2⟩ := f1 0 _ rfl
        have : dx' = dx := by
          rw [e3, upd_same] at w1
          cases w1; rfl
        subst this
        exact (w0 a).mp z⟩ ⟨fun i A hA => by
        obtain ⟨PP, w1, w2, _, _⟩ := call_in (iv.ex (k1.trans k2)) ro [] List.nodup_nil (fun k hk => by cases hk) [] (fun A hA => by cases hA) rs (fun i _ z => by cases z)
        obtain ⟨Pa, u1, u2⟩ := w2.o i A hA
        refine ⟨Pa, OA.stay (P0 := No) u1 k3.z fun _ _ z => z, fun a ha z => ?_⟩
        obtain ⟨o', ho'⟩ := A.dom u1 ha
        rcases z with rfl | rfl
        · rw [n1] at ho'; cases ho'
        · rw [n2] at ho'; cases ho'⟩ [0] (by decide) (by simp) Lf (fun A hA => h2 A s3 k3 hA) ((List.range rs.length).map Sum.inr) (fun i z => by simp at z)
    refine ⟨s3, P1, _, _, x, o, e3, ?_, g1, g2, hm, fun v s' L' hok iv' => (h3 v L' hok).elim, fun e cls d s' L' z iv' r => hw e cls d s' (h4 e L' z) ?_ r⟩
    · have er : rsel [Dy.cell p c []] (rsel L R0 rs) ((List.range rs.length).map Sum.inr) = rsel L R0 rs := by
        apply List.ext_getElem?
        intro i
        unfold rsel
        rw [List.map_map, List.getElem?_map]
        by_cases hi : i < rs.length
        · rw [List.getElem?_range hi]
          simp only [Option.map_some, Function.comp]
          rw [List.getD_eq_getElem?_getD, List.getElem?_map, List.getElem?_eq_getElem hi]
          rfl
        · rw [List.getElem?_eq_none (by rw [List.length_range]; omega), List.getElem?_map, List.getElem?_eq_none (by omega)]; rfl
      rw [er]
      exact h1
    · have iv5 := g4 s' L' iv'
      have k0 := k1.trans k2
      refine ⟨kk.f.trans iv5.m.f, fun a o h => ?_, fun a o h n => ?_⟩
      · have : ¬ (a = p ∨ a = dx) := fun z => by
          rcases z with rfl | rfl
          · rw [k0.h _ _ h] at n1; cases n1
          · rw [k0.h _ _ h] at n2; cases n2
        exact iv5.m.h _ _ (kk.h _ _ h) this
      · have : ¬ (a = p ∨ a = dx) := fun z => by
          rcases z with rfl | rfl
          · rw [k0.h _ _ h] at n1; cases n1
          · rw [k0.h _ _ h] at n2; cases n2
        exact iv5.m.n _ _ (kk.h _ _ h) this (kk.n _ _ h n)
end
end Dy

namespace Dy
open PySem PySem.Spec L2
open PyProof.Rows hiding St
open Enc (rep)
open Flat (toV)
open EncA (repA)

structure Dc (κ α : Type) where
  l : List (κ × α)
instance {κ α : Type} [DKey κ] [Enc α] : Enc (Dc κ α) := ⟨fun K F v x => ∃ p o kv, v = .ref p ∧ F p = some (.frz o (.dK kv)) ∧ KReps K F kv x.l, fun e ⟨p, o, kv, h1, h2, h3⟩ => ⟨p, o, kv, h1, e _ _ h2, h3.mono e⟩⟩
section
variable {α β γ κ τ υ ρ : Type} [Enc α] [Enc β] [Enc γ] [Enc τ] [DKey κ] [DecidableEq κ] {X : Cx} {σ : L2.St} {P0 : Addr → Prop} {s0 s s1 t : S} {L M : List OA} {e a b c o i tg iter elt : Expr} {es : List Expr} {pos p0 p1 p2 p3 : Pos} {D : Ends} {rest body : List Stmt} {n : Str} {p : Addr} {K : PySem.W.Frag}
theorem Iv.tc (h : Iv K P0 s0 s L) (i : Nat) {p : Addr} {vs : List V} (e : L[i]? = some (Dy.tc p vs) := by rfl) : s.H p = some (.tup vs) := by
  obtain ⟨P, ⟨h0, h1⟩, h3⟩ := h.at i e
  exact h1
theorem eg_ev {x : α} (h : Ev X e σ s x) : EvG X e σ s (fun v L' => L' = [fz v x]) := fun s1 k Q q => h s1 k Q fun v s2 k2 r => q v s2 _ rfl (ev_ivf k2 r)
theorem eg_new {xs : List α} (h : EvN X e σ s xs) : EvG X e σ s (fun v L' => ∃ p, v = .ref p ∧ L' = [ol p xs]) := fun s1 k Q q => h s1 k Q fun p s2 k2 n2 r => q _ s2 _ ⟨p, rfl, rfl⟩ (ev_ivl k2 n2 r)
theorem eg_newD {xs : List (κ × α)} (h : EvND X e σ s xs) : EvG X e σ s (fun v L' => ∃ p, v = .ref p ∧ L' = [od p xs]) := fun s1 k Q q => h s1 k Q fun p s2 k2 n2 r => q _ s2 _ ⟨p, rfl, rfl⟩ (ev_ivd k2 n2 r)
theorem eg_raw {v0 : V} (h : Ev X e σ s (Rw.mk v0)) : EvG X e σ s (fun v L' => v = v0 ∧ L' = []) := fun s1 k Q q => h s1 k Q fun v s2 k2 r => q v s2 [] ⟨r, rfl⟩ ((Iv.tops (P0 := No) 0 s1).ex k2)
theorem EvG.imp {ok ok' : V → List OA → Prop} (h : EvG X e σ s ok) (k : ∀ v L', ok v L' → ok' v L') : EvG X e σ s ok' := fun s1 k1 Q q => h s1 k1 Q fun v s2 L' z => q v s2 L' (k v L' z)
theorem ev_of_eg {x : α} {ok : V → List OA → Prop} (h : EvG X e σ s ok) (k : ∀ v L', ok v L' → ∃ M, L' = fz v x :: M) : Ev X e σ s x := fun s1 k1 Q q => h s1 k1 Q fun v s2 L' z iv => by
  obtain ⟨M, rfl⟩ := k v L' z
  exact q v s2 iv.exx (iv.fz 0)
theorem en_of_eg {xs : List α} {ok : V → List OA → Prop} (h : EvG X e σ s ok) (k : ∀ v L', ok v L' → ∃ p M, v = .ref p ∧ L' = ol p xs :: M) : EvN X e σ s xs := fun s1 k1 Q q => h s1 k1 Q fun v s2 L' z iv => by
  obtain ⟨p, M, rfl, rfl⟩ := k v L' z
  exact q p s2 iv.exx (iv.fresh 0) (iv.ol 0)
def EvGs (X : Cx) (es : List Expr) (σ : L2.St) (s : S) (ok : List V → List OA → Prop) : Prop := ∀ s1, Ex s s1 → ∀ Q : List V → Hp → Prop, (∀ vs s2 L', ok vs L' → Iv X.K No s1 s2 L' → Q vs s2.H) → WA X es σ s1.H Q
theorem egs_nil : EvGs X [] σ s (fun vs L' => vs = [] ∧ L' = []) := fun s1 k Q q => wa_of pa_nil (q [] s1 [] ⟨rfl, rfl⟩ (Iv.tops (P0 := No) 0 s1))
theorem egs_cons {ok : V → List OA → Prop} {ok2 : List V → List OA → Prop} (h : EvG X e σ s ok) (hr : EvGs X es σ s ok2) (hs : starEach (e :: es) X.env = (false, eval e X.env) :: starEach es X.env := by rfl) :
    EvGs X (e :: es) σ s (fun vs L' => ∃ v L1 ws L2, vs = v :: ws ∧ L' = L1 ++ L2 ∧ ok v L1 ∧ ok2 ws L2) := fun s1 k Q q =>
  wa_of (pa_cons pe_we pa_wa hs) (h s1 k _ fun v s2 L1 z1 iv1 => hr s2 (k.trans iv1.exx) _ fun ws s3 L2 z2 iv2 => q _ s3 _ ⟨v, L1, ws, L2, rfl, rfl, z1, z2⟩ (iv1.add iv2))
theorem eg_tup {ok : List V → List OA → Prop} {k} (h : EvGs X es σ s ok) (hz : ∀ vs L', ok vs L' → vs.length ≤ 1000) : EvG X (.Tuple es k pos) σ s (fun v L' => ∃ p vs L1, v = .ref p ∧ ok vs L1 ∧ L' = tc p vs :: L1) := fun s1 k1 Q q =>
  we_of (pe_tup pa_wa) (h s1 k1 _ fun vs s2 L1 z1 iv1 => ⟨by rw [sizeLine_eq]; have := hz vs L1 z1; omega, fun p hp => by
    have iv2 : Iv X.K No s2 (s2.newO p (.tup vs) hp) [tc p vs] := Iv.put (L := [top]) (Iv.tops (P0 := No) 1 s2) 0 (Ex.newO hp) ⟨fun a => a = p, ⟨fun _ => Iff.rfl, upd_same⟩, fun a z => by rw [z]; exact ⟨(fF hp : s2.F p = none), hp⟩⟩
    have := iv1.add iv2
    have iv3 := this.sel (M := tc p vs :: L1) (some L1.length :: (List.range L1.length).map some) (by
      have e1 : (some L1.length :: (List.range L1.length).map some).filterMap id = L1.length :: List.range L1.length := by simp
      rw [e1]
      exact List.nodup_cons.mpr ⟨by simp, List.nodup_range⟩) (by
      unfold pick
      rw [List.map_cons]
      congr 1
      · simp [List.getD_eq_getElem?_getD]
      · apply List.ext_getElem?
        intro i
        rw [List.map_map, List.getElem?_map]
        by_cases hi : i < L1.length
        · rw [List.getElem?_range hi]
          simp [List.getD_eq_getElem?_getD, List.getElem?_append_left hi, List.getElem?_eq_getElem hi]
        · rw [List.getElem?_eq_none (by rw [List.length_range]; omega), List.getElem?_eq_none (by omega)]; rfl)
    exact q _ _ _ ⟨p, vs, L1, rfl, z1, rfl⟩ iv3⟩)
theorem do_setG (i : Nat) {n : Str} {py : Pos} {ok : V → List OA → Prop} (h : EvG X e σ s ok) (k : ∀ v s1 L', ok v L' → Iv X.K No s s1 L' → WSs X rest D (σ.set i (some v)) s1.H) (hN : X.N.Nodup) (hx : Loc X.env.scope n := by first | exact Or.inl rfl | exact Or.inr rfl) (hi : X.N[i]? = some n := by rfl)
    (hs : swapsWith e (some (.Name n py)) pos.line X.env = pure false := by rfl) (hf : X.fn n = true ∨ X.env.scope.names.lookup n = some .local := by first | exact .inl rfl | exact .inr rfl) : WSs X (.Assign [.Name n py] e pos :: rest) D σ s.H :=
  do_cons (ps_set hN hi hx pe_we hs hf) (h s (Ex.refl _) _ fun v s1 L' z iv => k v s1 L' z iv)
theorem do_setK (i : Nat) {n : Str} {py : Pos} {Φ : V → S → Prop} (h : EvK X e σ s Φ) (k : ∀ v s1, Φ v s1 → WSs X rest D (σ.set i (some v)) s1.H) (hN : X.N.Nodup) (hx : Loc X.env.scope n := by first | exact Or.inl rfl | exact Or.inr rfl) (hi : X.N[i]? = some n := by rfl)
    (hs : swapsWith e (some (.Name n py)) pos.line X.env = pure false := by rfl) (hf : X.fn n = true ∨ X.env.scope.names.lookup n = some .local := by first | exact .inl rfl | exact .inr rfl) : WSs X (.Assign [.Name n py] e pos :: rest) D σ s.H :=
  do_cons (ps_set hN hi hx pe_we hs hf) (h _ fun v s1 z => k v s1 z)
theorem do_exprK {Φ : V → S → Prop} (h : EvK X e σ s Φ) (k : ∀ v s1, Φ v s1 → WSs X rest D σ s1.H) (hs : swapsWith e none pos.line X.env = pure false := by rfl) : WSs X (.Expr e pos :: rest) D σ s.H :=
  do_cons (ps_expr pe_we hs) (h _ fun v s1 z => k v s1 z)
theorem do_retK {Φ : V → S → Prop} (h : EvK X e σ s Φ) (k : ∀ v s1, Φ v s1 → D.rt v s1.H) : WSs X (.Return (some e) pos :: rest) D σ s.H :=
  do_cons (ps_ret pe_we) (h _ fun v s1 z => k v s1 z)
theorem do_retE (k : D.rt .non s.H) : WSs X (.Return none pos :: rest) D σ s.H := do_cons ps_retN k
theorem ek_of {ok : V → List OA → Prop} (h : EvG X e σ s ok) (iv : Iv X.K P0 s0 s L) : EvK X e σ s (fun v s' => ∃ L', ok v L' ∧ Fle s.F s'.F ∧ Iv X.K P0 s0 s' (L ++ L')) := fun Q q => h s (Ex.refl _) Q fun v s1 L' z iv' => q v s1 ⟨L', z, iv'.m.f, iv.add iv'⟩
theorem do_exprG {ok : V → List OA → Prop} (h : EvG X e σ s ok) (k : ∀ v s1 L', ok v L' → Iv X.K No s s1 L' → WSs X rest D σ s1.H) (hs : swapsWith e none pos.line X.env = pure false := by rfl) : WSs X (.Expr e pos :: rest) D σ s.H :=
  do_cons (ps_expr pe_we hs) (h s (Ex.refl _) _ fun v s1 L' z iv => k v s1 L' z iv)
theorem do_unpK2 (i j : Nat) {Φ : V → S → Prop} (h : EvK X e σ s Φ) (k : ∀ v s1, Φ v s1 → ∃ p v1 v2, v = .ref p ∧ s1.H p = some (.tup [v1, v2]) ∧ WSs X rest D ((σ.set i (some v1)).set j (some v2)) s1.H)
    (hg : PG X tg (gTup X.K 2 (gCons (gName i) (gCons (gName j) gNil)))) (hs : swapsWithSole [tg] e pos.line X.env = pure false := by rfl) (hw : swappedStores [tg] e X.env = pure none := by rfl)
    (h1 : (assignEach [tg] X.env).map (·.2) = [assign tg X.env] := by rfl) : WSs X (.Assign [tg] e pos :: rest) D σ s.H :=
  do_cons (ps_asg pe_we hg hs hw h1) (h _ fun v s1 z => by
    obtain ⟨p, v1, v2, rfl, h0, kk⟩ := k v s1 z
    exact ⟨p, _, rfl, .inl (.inl h0), rfl, v1, _, rfl, v2, _, rfl, rfl, kk⟩)
theorem do_unpK3 (i j l : Nat) {Φ : V → S → Prop} (h : EvK X e σ s Φ) (k : ∀ v s1, Φ v s1 → ∃ p v1 v2 v3, v = .ref p ∧ s1.H p = some (.tup [v1, v2, v3]) ∧ WSs X rest D (((σ.set i (some v1)).set j (some v2)).set l (some v3)) s1.H)
    (hg : PG X tg (gTup X.K 3 (gCons (gName i) (gCons (gName j) (gCons (gName l) gNil))))) (hs : swapsWithSole [tg] e pos.line X.env = pure false := by rfl) (hw : swappedStores [tg] e X.env = pure none := by rfl)
    (h1 : (assignEach [tg] X.env).map (·.2) = [assign tg X.env] := by rfl) : WSs X (.Assign [tg] e pos :: rest) D σ s.H :=
  do_cons (ps_asg pe_we hg hs hw h1) (h _ fun v s1 z => by
    obtain ⟨p, v1, v2, v3, rfl, h0, kk⟩ := k v s1 z
    exact ⟨p, _, rfl, .inl (.inl h0), rfl, v1, _, rfl, v2, _, rfl, v3, _, rfl, rfl, kk⟩)
theorem do_fldG {f cn : Str} {fs : List (Str × V)} {ok : V → List OA → Prop} (iv : Iv X.K P0 s0 s L) (i : Nat) (hA : L[i]? = some (Dy.cell p cn fs)) (ho : Ev X o σ s (Rw.mk (.ref p))) (h : EvG X e σ s ok) (hc : Cls X.K (He.ga X.K cn)) (hn : NoAttr X.K (He.ga X.K cn) f) (hl : fs.length < 1000)
    (k : ∀ v s1 L', ok v L' → Fle s.F s1.F → Iv X.K P0 s0 s1 (L.set i (Dy.cell p cn (putF f v fs)) ++ L') → WSs X rest D σ s1.H)
    (hs : swapsWith e (some (.Attribute o f p1)) pos.line X.env = pure false := by rfl) : WSs X (.Assign [.Attribute o f p1] e pos :: rest) D σ s.H :=
  do_cons (ps_fld pe_we pe_we hs) (h s (Ex.refl _) _ fun v s1 L' z iv1 => ho s1 iv1.exx _ fun u s2 k2 e2 => by
    cases (show u = V.ref p from e2)
    have ivA := (iv.add iv1).ex k2
    have hA2 : (L ++ L')[i]? = some (Dy.cell p cn fs) := by rw [List.getElem?_append_left (List.getElem?_eq_some_iff.mp hA).1]; exact hA
    obtain ⟨P, ⟨dx, h0, h1, h2⟩, h3⟩ := ivA.at i hA2
    have ne : dx ≠ p := ne_of h2 h1 (by intro z; cases z)
    have hf : s2.F p = none := h3 p ((h0 p).mpr (.inl rfl))
    refine ⟨p, _, dx, fs, rfl, h1, hc, hn, hl, ?_⟩
    have iv3 : Iv X.K P0 s0 (s2.put p (.ins (He.ga X.K cn) dx (putF f v fs)) hf) ((L ++ L').set i (Dy.cell p cn (putF f v fs))) := by
      refine ivA.upd i hA2 fun P hP hPf => ⟨P, ?_, ?_, ?_⟩
      · obtain ⟨dx', g0, g1, g2⟩ := hP
        have : dx' = dx := by rw [h1] at g1; cases g1; rfl
        subst this
        exact ⟨dx', g0, upd_same, (upd_ne ne).trans g2⟩
      · exact fun a z => ⟨hPf a z, .inl z⟩
      · have m : Mx (· = p) s2 (s2.put p (.ins (He.ga X.K cn) dx (putF f v fs)) hf) := Mx.put hf
        obtain ⟨dx', g0, g1, g2⟩ := hP
        exact ⟨m.f, fun a o q n => m.h a o q fun z => n ((g0 a).mpr (.inl z)), fun a o q _ z => m.n a o q z, m.d⟩
    rw [List.set_append_left _ _ (List.getElem?_eq_some_iff.mp hA).1] at iv3
    exact k v (s2.put p (.ins (He.ga X.K cn) dx (putF f v fs)) hf) L' z (iv1.m.f.trans k2.f) iv3)
theorem do_setItemP {xs : List α} {x : α} {z : Int} {j : Nat} (ho : Ev X o σ s (Rw.mk (.ref p))) (r : Own X.K s p xs) (he : Ev X e σ s x) (hi : Ev X a σ s z) (hj : ixN xs.length z = some j)
    (k : ∀ s1, Mx (· = p) s s1 → Own X.K s1 p (xs.set j x) → WSs X rest D σ s1.H)
    (ha : ∀ v, assign (.Subscript o a p1) X.env v = (do
      let ov ← holding [v] (eval o X.env)
      let iv ← holding [v, ov] (eval a X.env)
      standAt p1
      holding [v, ov, iv] (setItem ov iv v)
      release [v, ov, iv] []) := by intro _; rfl)
    (hs : swapsWithSole [.Subscript o a p1] e pos.line X.env = pure false := by rfl) (hw : swappedStores [.Subscript o a p1] e X.env = pure none := by rfl)
    (h1 : (assignEach [.Subscript o a p1] X.env).map (·.2) = [assign (.Subscript o a p1) X.env] := by rfl) :
    WSs X (.Assign [.Subscript o a p1] e pos :: rest) D σ s.H :=
  do_cons (ps_asg pe_we (pg_sub pe_we pe_we set_list ha) hs hw h1) (he s (Ex.refl _) _ fun v s1 k1 r1 => ho s1 k1 _ fun w s2 k2 e2 => by
    cases (show w = V.ref p from e2)
    have k12 := k1.trans k2
    exact hi s2 k12 _ fun u s3 k3 r3 => by
      obtain ⟨f0, vs, h2, h3⟩ := r.ex (k12.trans k3)
      refine ⟨p, vs, z, j, rfl, r3, h2, by rw [h3.len]; exact hj, ?_⟩
      exact k (s3.put p (.lst (vs.set j v)) f0) ((k12.trans k3).mx.trans (Mx.put f0)) ⟨f0, _, upd_same, h3.set j (Enc.mono (k2.trans k3).f r1)⟩)
theorem do_appendP {xs : List α} {x : α} (ho : Ev X o σ s (Rw.mk (.ref p))) (r : Own X.K s p xs) (he : Ev X e σ s x) (hz : xs.length < sizeLine)
    (k : ∀ s1, Mx (· = p) s s1 → Own X.K s1 p (xs ++ [x]) → WSs X rest D σ s1.H)
    (hbase : attributeBase o "append" X.env (eval o X.env) = eval o X.env := by rfl)
    (hfew : ((backTo p2 (starEach [e] X.env)).all (fun x => !x.1) && (backToKw p2 (keywordEach [] X.env)).all (fun x => x.1.isSome) && decide (([e] : List Expr).length + ([] : List Keyword).length + (if ([] : List Keyword).isEmpty then 0 else 1) < 30)) = true := by rfl)
    (hline : (p1.endLine == p2.line) = true := by rfl) (hs : starEach [e] X.env = (false, eval e X.env) :: starEach [] X.env := by rfl) (hplain : (backTo p2 (starEach [] X.env)).any (·.1) = false := by rfl)
    (hsw : swapsWith (.Call (.Attribute o "append" p1) [e] [] p2) none p3.line X.env = pure false := by rfl) :
    WSs X (.Expr (.Call (.Attribute o "append" p1) [e] [] p2) p3 :: rest) D σ s.H :=
  do_cons (ps_expr (pe_bm PySem.F.plainAttrs_list PySem.F.slot_list_append PySem.F.type_list_append mt_append pe_we (pa_cons pe_we pa_nil hs) hbase hfew hline hs hplain) hsw) (ho s (Ex.refl _) _ fun w s1 k1 e1 => by
    cases (show w = V.ref p from e1)
    obtain ⟨f1, vs, h2, h3⟩ := r.ex k1
    refine ⟨.inl ⟨rfl, vs, .inl (.inl h2)⟩, he s1 k1 _ fun v s2 k2 r2 => ?_⟩
    obtain ⟨f2, ws, g2, g3⟩ := r.ex (k1.trans k2)
    exact ⟨p, ws, v, rfl, rfl, g2, by rw [g3.len]; exact hz, k (s2.put p (.lst (ws ++ [v])) f2) ((k1.trans k2).mx.trans (Mx.put f2)) ⟨f2, _, upd_same, g3.snoc r2⟩⟩)
theorem raw_tup {vs : List V} {v : V} {z : Int} (h : Ev X e σ s (Rw.mk (.ref p))) (r : s.H p = some (.tup vs)) (hb : Ev X b σ s z) (hv : atI vs z = some v) (hp : PlainIx b := by intro _ _; rfl) : Ev X (.Subscript e b pos) σ s (Rw.mk v) := fun s1 k Q q =>
  we_of (pe_ix ix_tup pe_we pe_we hp) (h s1 k _ fun u s2 k2 e2 => hb s2 (k.trans k2) _ fun w s3 k3 e3 => by
    cases (show u = V.ref p from e2)
    exact ⟨p, vs, z, v, rfl, e3, .inl (.inl (((k.trans k2).trans k3).h _ _ r)), hv, q v s3 (k2.trans k3) rfl⟩)
theorem ev_lenTc {vs : List V} {z : Int} (hm : X.mg "len" = none) (ha : Ev X e σ s (Rw.mk (.ref p))) (r : s.H p = some (.tup vs)) (hz : (vs.length : Int) = z) (hg : Gl X "len" := by rfl) (he : starEach [e] X.env = (false, eval e X.env) :: starEach [] X.env := by rfl) (hpl : (backTo pos (starEach [] X.env)).any (·.1) = false := by rfl) : Ev X (.Call (.Name "len" p0) [e] [] pos) σ s z := fun s1 k Q q =>
  we_of (pe_callB call_len_seq hg hm boot_len (pa_cons pe_we pa_nil he) (he := he) (hpl := hpl)) (ha s1 k _ fun u s2 k2 e2 => by
    cases (show u = V.ref p from e2)
    subst hz
    exact ⟨p, vs, rfl, .inr (.inl (.inl ((k.trans k2).h _ _ r))), q _ s2 k2 rfl⟩)
theorem own_some {xs : List α} (h : Own K s p xs) : Own K s p (xs.map some) := by
  obtain ⟨h0, vs, h1, h2⟩ := h
  refine ⟨h0, vs, h1, ?_⟩
  have : ∀ {vs : List V} {xs : List α}, Reps K s.F vs xs → Reps K s.F vs (xs.map some) := by
    intro vs
    induction vs with
    | nil => intro xs h; cases xs with | nil => trivial | cons _ _ => exact h.elim
    | cons v vs ih => intro xs h; cases xs with
      | nil => exact h.elim
      | cons x xs => exact ⟨h.1, ih h.2⟩
  exact this h2
theorem en_some {xs : List α} (h : EvN X e σ s xs) : EvN X e σ s (xs.map some) := fun s1 k Q q => h s1 k Q fun p s2 k2 n2 o2 => q p s2 k2 n2 (own_some o2)
def memF {ε : Type} [DecidableEq ε] (x : ε) (xs : List ε) : Bool := decide (x ∈ xs)
theorem memF_iff {ε : Type} [DecidableEq ε] {x : ε} {xs : List ε} : memF x xs = true ↔ x ∈ xs := decide_eq_true_iff
theorem eb_inF {ε : Type} [Flat ε] [DecidableEq ε] {x : ε} {xs : List ε} (ha : Ev X a σ s x) (hb : EvR X b σ s xs) (hm : behindInMarks .In b = false := by rfl) : EvB X (.Compare a [.In] [b] pos) σ s (memF x xs) :=
  eb_cmpR op_in_seq ha hb (fun v u s2 hv hu Q q => by
    obtain ⟨p, vs, rfl, h1, h2⟩ := hu
    rw [Flat.iff.mp hv]
    obtain rfl := h2.flat
    refine ⟨p, _, rfl, .inl h1, Flat.flat x, flat_all xs, ?_⟩
    rw [inV_flat]; exact q) hm
theorem eb_notInF {ε : Type} [Flat ε] [DecidableEq ε] {x : ε} {xs : List ε} (ha : Ev X a σ s x) (hb : EvR X b σ s xs) (hm : behindInMarks .NotIn b = false := by rfl) : EvB X (.Compare a [.NotIn] [b] pos) σ s (!memF x xs) :=
  eb_cmpR op_notIn_seq ha hb (fun v u s2 hv hu Q q => by
    obtain ⟨p, vs, rfl, h1, h2⟩ := hu
    rw [Flat.iff.mp hv]
    obtain rfl := h2.flat
    refine ⟨p, _, rfl, .inl h1, Flat.flat x, flat_all xs, ?_⟩
    rw [inV_flat]; exact q) hm
def S.all (s : S) : S := ⟨s.H, s.H, fun _ _ h => h⟩
def EvV {A : Type} [EncA A] (X : Cx) (es : List Expr) (σ : L2.St) (s : S) (a : A) : Prop := ∀ s1, Ex s s1 → ∀ Q : List V → Hp → Prop, (∀ vs s2, Ex s1 s2 → repA X.K s2.H vs a → Q vs s2.H) → WA X es σ s1.H Q
theorem evv_nil : EvV X [] σ s () := fun s1 k Q q => wa_of pa_nil (q [] s1 (Ex.refl _) rfl)
theorem repA_H {A : Type} [EncA A] {vs : List V} {a : A} (e : Ex s t) (h : repA K s.H vs a) : repA K t.H vs a := EncA.monoA e.h h
theorem evv_cons {A : Type} [EncA A] {x : α} {r : A} (h : Ev X e σ s x) (hr : EvV X es σ s r) (hs : starEach (e :: es) X.env = (false, eval e X.env) :: starEach es X.env := by rfl) : EvV X (e :: es) σ s (x, r) := fun s1 k Q q =>
  wa_of (pa_cons pe_we pa_wa hs) (h s1 k _ fun v s2 k2 r2 => hr s2 (k.trans k2) _ fun vs s3 k3 r3 => q _ s3 (k2.trans k3) ⟨v, vs, rfl, Enc.mono (Fle.trans k3.f s3.sub) r2, r3⟩)
theorem evv_consR {A : Type} [EncA A] {xs : List α} {r : A} (h : EvR X e σ s xs) (hr : EvV X es σ s r) (hs : starEach (e :: es) X.env = (false, eval e X.env) :: starEach es X.env := by rfl) : EvV X (e :: es) σ s (xs, r) := fun s1 k Q q =>
  wa_of (pa_cons pe_we pa_wa hs) (h s1 k _ fun v s2 k2 r2 => hr s2 (k.trans k2) _ fun vs s3 k3 r3 => q _ s3 (k2.trans k3) ⟨v, vs, rfl, by
    obtain ⟨p, vs, e1, h1, h2⟩ := r2.ex k3
    exact ⟨p, vs, e1, h1, h2.mono s3.sub⟩, r3⟩)
def S.backH (s t : S) (h : ∀ a o, s.H a = some o → t.H a = some o) : S := ⟨s.F, t.H, fun a o q => h a o (s.sub a o q)⟩
theorem backH_ex (e : Ex s.all t) : Ex s (s.backH t e.h) := ⟨fun _ _ h => h, e.h, fun _ _ _ h => h⟩
theorem ev_callT {A ε : Type} [EncA A] [Flat ε] {m : A → Option ε} {n : Str} {k j : Nat} {x : A} {r : ε} (C : Cal X.prog X.w X.K X.mg X.base CX0 k n (sp X.K m)) (hr : Room j X.A) (hk : k ≤ j) (ha : EvV X (e :: es) σ s x) (h : m x = some r) (hg : Gl X n := by rfl)
    (hdb : (n == ("__debug__" : Str)) = false := by decide) (he : starEach (e :: es) X.env = (false, eval e X.env) :: starEach es X.env := by rfl) (hpl : (backTo pos (starEach es X.env)).any (·.1) = false := by rfl) : Ev X (.Call (.Name n p0) (e :: es) [] pos) σ s r := fun s1 k1 Q q =>
  we_of (pe_c0 C hr hk hg pa_wa hdb he hpl) (ha s1 k1 _ fun vs s2 k2 r2 => ⟨s2.all, x, r, rfl, by rw [List.append_nil]; exact r2, h, fun v s3 k3 r3 => q v (s2.backH s3 k3.h) (k2.trans (backH_ex k3)) (Flat.iff.mpr (Flat.iff.mp r3))⟩)
theorem en_callT {A ε : Type} [EncA A] [Flat ε] {m : A → Option (List ε)} {n : Str} {k j : Nat} {x : A} {r : List ε} (C : Cal X.prog X.w X.K X.mg X.base CX0 k n (spN X.K m)) (hr : Room j X.A) (hk : k ≤ j) (ha : EvV X (e :: es) σ s x) (h : m x = some r) (hg : Gl X n := by rfl)
    (hdb : (n == ("__debug__" : Str)) = false := by decide) (he : starEach (e :: es) X.env = (false, eval e X.env) :: starEach es X.env := by rfl) (hpl : (backTo pos (starEach es X.env)).any (·.1) = false := by rfl) : EvN X (.Call (.Name n p0) (e :: es) [] pos) σ s r := fun s1 k1 Q q =>
  we_of (pe_c0 C hr hk hg pa_wa hdb he hpl) (ha s1 k1 _ fun vs s2 k2 r2 => ⟨s2.all, x, r, rfl, by rw [List.append_nil]; exact r2, h, fun p s3 k3 n3 ⟨_, vs, o1, o2⟩ => q p (s2.backH s3 k3.h) (k2.trans (backH_ex k3)) (fr_back k2 n3) ⟨(fF (s := s2) n3 : s2.F p = none), vs, o1, by rw [o2.flat]; exact Reps.of_flat _⟩⟩)
theorem do_frzD {ss : List Stmt} {xs : List (κ × α)} (iv : Iv X.K P0 s0 s L) (i : Nat) (hA : L[i]? = some (Dy.od p xs)) (k : ∀ s', Fle s.F s'.F → Iv X.K P0 s0 s' (L.set i (fz (.ref p) (Dc.mk xs))) → WSs X ss D σ s'.H) : WSs X ss D σ s.H := fun pins sh I => by
  obtain ⟨hf, kv, h1, h2⟩ := iv.od i hA
  obtain ⟨ob, I2⟩ := I.lock h1 trivial
  have iv1 := iv.lock i ob hA hf h1 h2
  have f : Fle s.F (upd s.F p (.frz ob (.dK kv))) := fun a o q => by rw [upd_ne (ne_of_none q hf)]; exact q
  let s' : S := ⟨upd s.F p (.frz ob (.dK kv)), upd s.H p (.frz ob (.dK kv)), fun a o q => by
    unfold upd at q ⊢
    split
    · rename_i e; rw [if_pos e] at q; exact q
    · rename_i e; rw [if_neg e] at q; exact s.sub a o q⟩
  refine k s' f ?_ pins sh I2
  obtain ⟨φ, g1, g2, g3⟩ := iv.o
  have hi : i < L.length := (List.getElem?_eq_some_iff.mp hA).1
  have hp : φ i p := ((g1 i _ hA).1 p).mpr rfl
  have hx : P0 p ∨ s0.H p = none := (g3 i p hp).2.1
  refine ⟨⟨iv.m.f.trans f, fun a o q n => ?_, fun a o q np n => ?_, fun a o q => ?_⟩, fun j a => if j = i then False else φ j a, fun j B hB => ?_, fun j k a q r => ?_, fun j a q => ?_⟩
  · have ne : a ≠ p := fun z => by
      subst z
      rcases hx with w | w
      · exact n w
      · rw [w] at q; cases q
    exact (upd_ne ne).trans (iv.m.h a o q n)
  · have ne : a ≠ p := fun z => by
      subst z
      rcases hx with w | w
      · exact np w
      · rw [w] at q; cases q
    exact (upd_ne ne).trans (iv.m.n a o q np n)
  · by_cases e : a = p
    · exact ⟨_, by rw [e]; exact upd_same⟩
    · obtain ⟨u, hu⟩ := iv.m.d a o q
      exact ⟨u, (upd_ne e).trans hu⟩
  · by_cases e : j = i
    · subst e
      rw [List.getElem?_set_self hi] at hB
      cases hB
      exact ⟨⟨p, ob, kv, rfl, upd_same, h2.mono f⟩, fun a => by simp⟩
    · rw [List.getElem?_set_ne (Ne.symm e)] at hB
      simp only [e, if_false]
      exact B.mono f (B.loc (fun a q => upd_ne fun z => e (g2 _ _ _ q (z ▸ hp))) (g1 j B hB))
  · by_cases e : j = i
    · simp only [e, if_true] at q
    · by_cases e2 : k = i
      · simp only [e2, if_true] at r
      · simp only [e, if_false] at q
        simp only [e2, if_false] at r
        exact g2 _ _ _ q r
  · by_cases e : j = i
    · simp only [e, if_true] at q
    · simp only [e, if_false] at q
      obtain ⟨z1, z2, z3⟩ := g3 j a q
      have ne : a ≠ p := fun z => e (g2 _ _ _ q (z ▸ hp))
      exact ⟨(upd_ne ne).trans z1, z2, by rw [List.length_set]; exact z3⟩
theorem ei_itemsF {elts : List Expr} {kk : Nat} {tpos : Pos} {x : Dc κ α} (h : Ev X e σ s x) (hbase : attributeBase e "items" X.env (eval e X.env) = eval e X.env := by rfl) (hline : (p1.endLine == pos.line) = true := by rfl) : EvI X (.Tuple elts kk tpos) (.Call (.Attribute e "items" p1) [] [] pos) σ s x.l := fun s1 k R q =>
  wi_of (pi_items pe_we hbase hline) (h s1 k _ fun v s2 k2 r2 => by
    obtain ⟨p, ob, kv, rfl, h1, h2⟩ := r2
    exact ⟨p, ob, kv, rfl, s2.sub _ _ h1, q _ s2 k2 ⟨fun i t z f hz => by
      obtain ⟨w, h3, h4⟩ := h2.get hz
      refine ⟨⟨t.sub _ _ (f _ _ h1), (List.getElem?_eq_some_iff.mp h3).1⟩, fun y H' ⟨T, k', v', h5, h6, h7, h8⟩ => ⟨t.newF T (.tup [kV k', v']) h7, h8.symm, Ex.newF h7, ?_⟩⟩
      rw [h3] at h5
      cases h5
      rw [h6]
      exact ⟨T, _, _, rfl, tup_new h7, Flat.iff.mpr (DKey.kv _), Enc.mono (Ex.newF h7).f (Enc.mono f h4)⟩, fun i t f hi => ⟨t.sub _ _ (f _ _ h1), by rw [h2.len]; exact hi⟩⟩⟩)
end
section
variable {α β κ ε : Type} [Enc α] [Enc β] [DKey κ] [DecidableEq κ] {X : Cx} {σ : L2.St} {P0 : Addr → Prop} {s0 s : S} {L R : List OA} {e a b : Expr} {pos p0 p1 : Pos} {p : Addr} {K : PySem.W.Frag}
theorem en_lockI {ys : List β} {xs : List (κ × α)} (iv : Iv X.K P0 s0 s L) (i : Nat) (hA : L[i]? = some (Dy.od p xs)) (h : ∀ (ob : Obj) (kv : List (Key × V)) (s1 : S), Iv X.K P0 s0 s1 (L.set i (Dy.odl p ob kv xs)) → EvN X e σ s1 ys) : EvN X e σ s ys := fun s1 k Q q => by
  obtain ⟨hf, kv, h1, h2⟩ := iv.od i hA
  refine we_of (pe_lock pe_we) ⟨p, .dK kv, k.h _ _ h1, trivial, fun ob => ?_⟩
  obtain ⟨hf1, kx⟩ := lk_ex (ob := ob) hf h1 k
  refine h ob kv (s.put p (.frz ob (.dK kv)) hf) (iv.lock i ob hA hf h1 h2) _ kx _ fun p2 s2 k2 n2 o2 => ?_
  obtain ⟨hf2, g1, k3⟩ := lk_back hf1 (k.h _ _ h1) k2
  refine ⟨g1, ?_⟩
  have ne : p2 ≠ p := fun z => by
    have : upd s1.H p (.frz ob (.dK kv)) p2 = none := n2
    rw [z, upd_same] at this; cases this
  have n2' : s1.H p2 = none := by
    have : upd s1.H p (.frz ob (.dK kv)) p2 = none := n2
    rw [upd_ne ne] at this; exact this
  obtain ⟨o1, vs, o3, o4⟩ := o2
  exact q p2 (s2.put p (.dK kv) hf2) k3 n2' ⟨o1, vs, (upd_ne ne).trans o3, o4⟩
theorem Iv.gd (h : Iv K P0 s0 s L) (i : Nat) {o : Obj} {kv : List (Key × V)} {xs : List (κ × α)} (e : L[i]? = some (Dy.odl p o kv xs) := by rfl) : GD K p o kv xs s := (h.odl i e).2
theorem ro0 : Ro K P0 s [] := ⟨fun i A e => by cases e⟩
def AllF (K : PySem.W.Frag) (s : S) (L : List OA) : Prop := ∀ A ∈ L, A.p K s.F s.H No
theorem all_nil : AllF K s [] := fun A h => by cases h
theorem all_cons {v : V} {x : α} (r : rep K s.F v x) (h : AllF K s L) : AllF K s (fz v x :: L) := fun A hA => by
  rcases List.mem_cons.mp hA with rfl | hA
  · exact ⟨r, fun _ z => z⟩
  · exact h A hA
theorem AllF.ex {t : S} (h : AllF K s L) (e : Ex s t) : AllF K t L := fun A hA => OA.stay (P0 := No) (h A hA) e.z fun _ _ z => z
class EqO (ε : Type) extends Flat ε where
  sc : ∀ x y : ε, scal (toV x) (toV y) = true
  ij : ∀ x y : ε, toV x = toV y ↔ x = y
instance : EqO (Option Int) := { sc := fun x y => by cases x <;> cases y <;> rfl, ij := fun x y => by cases x <;> cases y <;> simp [Flat.toV] }
instance : EqO (Option Str) := { sc := fun x y => by cases x <;> cases y <;> rfl, ij := fun x y => by cases x <;> cases y <;> simp [Flat.toV] }
theorem eb_eqF {ε : Type} [EqO ε] [DecidableEq ε] {x y : ε} (ha : Ev X a σ s x) (hb : Ev X b σ s y) : EvB X (.Compare a [.Eq] [b] pos) σ s (decide (x = y)) :=
  eb_cmp op_eq ha hb (fun v u s2 hv hu Q q => by
    rw [Flat.iff.mp hv, Flat.iff.mp hu]
    refine ⟨EqO.sc x y, ?_⟩
    rw [show decide (toV x = toV y) = decide (x = y) from decide_eq_decide.mpr (EqO.ij x y)]
    exact q) (nomark _)
theorem eb_neF {ε : Type} [EqO ε] [DecidableEq ε] {x y : ε} (ha : Ev X a σ s x) (hb : Ev X b σ s y) : EvB X (.Compare a [.NotEq] [b] pos) σ s (!decide (x = y)) :=
  eb_cmp op_ne ha hb (fun v u s2 hv hu Q q => by
    rw [Flat.iff.mp hv, Flat.iff.mp hu]
    refine ⟨EqO.sc x y, ?_⟩
    rw [show decide (toV x = toV y) = decide (x = y) from decide_eq_decide.mpr (EqO.ij x y)]
    exact q) (nomark _)
theorem eb_ch_lt_lt {x y z : Int} {c : Expr} (ha : Ev X a σ s x) (hb : Ev X b σ s y) (hc : Ev X c σ s z) (hm : lastMarks [.Lt, .Lt] [b, c] = false := by with_unfolding_all rfl) : EvB X (.Compare a [.Lt, .Lt] [b, c] pos) σ s (decide (x < y) && decide (y < z)) := eb_chain op_lt rfl op_lt rfl ha hb hc hm
theorem eb_ch_lt_le {x y z : Int} {c : Expr} (ha : Ev X a σ s x) (hb : Ev X b σ s y) (hc : Ev X c σ s z) (hm : lastMarks [.Lt, .LtE] [b, c] = false := by with_unfolding_all rfl) : EvB X (.Compare a [.Lt, .LtE] [b, c] pos) σ s (decide (x < y) && decide (y ≤ z)) := eb_chain op_lt rfl op_le rfl ha hb hc hm
theorem eb_ch_le_lt {x y z : Int} {c : Expr} (ha : Ev X a σ s x) (hb : Ev X b σ s y) (hc : Ev X c σ s z) (hm : lastMarks [.LtE, .Lt] [b, c] = false := by with_unfolding_all rfl) : EvB X (.Compare a [.LtE, .Lt] [b, c] pos) σ s (decide (x ≤ y) && decide (y < z)) := eb_chain op_le rfl op_lt rfl ha hb hc hm
theorem eb_ch_le_le {x y z : Int} {c : Expr} (ha : Ev X a σ s x) (hb : Ev X b σ s y) (hc : Ev X c σ s z) (hm : lastMarks [.LtE, .LtE] [b, c] = false := by with_unfolding_all rfl) : EvB X (.Compare a [.LtE, .LtE] [b, c] pos) σ s (decide (x ≤ y) && decide (y ≤ z)) := eb_chain op_le rfl op_le rfl ha hb hc hm
theorem ev_isiTc {n : Str} {T : String} {r : Bool} {vs : List V} (hm : X.mg "isinstance" = none) (hn : X.mg n = none) (hv : bootBuiltins n = some (.type T)) (ha : Ev X a σ s (Rw.mk (.ref p))) (hc : s.H p = some (.tup vs)) (h : kitB "tuple" T = some r)
    (hg : Gl X "isinstance" := by rfl) (hgn : Gl X n := by rfl) (he : starEach [a, .Name n p1] X.env = (false, eval a X.env) :: starEach [.Name n p1] X.env := by rfl) (he2 : starEach [.Name n p1] X.env = (false, eval (.Name n p1) X.env) :: starEach [] X.env := by rfl) (hpl : (backTo pos (starEach [.Name n p1] X.env)).any (·.1) = false := by rfl)
    (hnn : n ≠ "__name__" := by decide) (hnd : (n == ("__debug__" : Str)) = false := by decide) :
    Ev X (.Call (.Name "isinstance" p0) [a, .Name n p1] [] pos) σ s r := fun s1 k Q q =>
  we_of (pe_callB call_isi hg hm (by decide +kernel) (pa_cons pe_we (pa_cons (pe_bltn (v := .ty T) hgn hn hv rfl hnn hnd) pa_nil he2) he) (he := he) (hpl := hpl)) (ha s1 k _ fun v s2 k2 r2 => by
    cases (show v = V.ref p from r2)
    exact ⟨.ref p, .ty T, .type "tuple", .type T, r, rfl, .ty T, sqt_ty (K := X.K) (.inl (.inl ((k.trans k2).h _ _ hc))), kit_ty h, q _ s2 k2 rfl⟩)
end
def clsB (K : PySem.W.Frag) (c : Str) (fs ms : List Str) : Bool := PySem.W.plainGet K (He.ga K c) Str.empty && (PySem.W.hasDictIn K (He.ga K c) && (PySem.W.plainOver K (He.ga K c) && (He.eqO (PySem.W.findIn K (.ref (He.ga K c)) "__setattr__") (some (some (.builtin "object.__setattr__"))) &&
  (PySem.W.makesIn K (He.ga K c) && (PySem.W.keepIn K (.ref (He.ga K c)) && ((fs.all fun f => He.eqO (PySem.W.findIn K (.ref (He.ga K c)) f) (some none)) && (ms.all fun m => He.eqO (PySem.W.findIn K (.ref (He.ga K c)) m) (some (some (.ref (He.fAd K (c, some m))))) && (PySem.W.isFn K (.ref (He.fAd K (c, some m))) && PySem.W.keepIn K (.ref (He.fAd K (c, some m)))))))))))
structure ClsF (K : PySem.W.Frag) (c : Str) (fs ms : List Str) : Prop where
  cl : Cls K (He.ga K c)
  ma : PySem.W.makesIn K (He.ga K c) = true
  kp : PySem.W.keepIn K (.ref (He.ga K c)) = true
  na : ∀ f ∈ fs, NoAttr K (He.ga K c) f
  me : ∀ m ∈ ms, Meth K (He.ga K c) m (He.fAd K (c, some m))
theorem clsB_ok {K : PySem.W.Frag} {c : Str} {fs ms : List Str} (h : clsB K c fs ms = true) : ClsF K c fs ms := by
  unfold clsB at h
  obtain ⟨h1, h⟩ := He.ba h
  obtain ⟨h2, h⟩ := He.ba h
  obtain ⟨h3, h⟩ := He.ba h
  obtain ⟨h4, h⟩ := He.ba h
  obtain ⟨h5, h⟩ := He.ba h
  obtain ⟨h6, h⟩ := He.ba h
  obtain ⟨h7, h8⟩ := He.ba h
  refine ⟨⟨h1, h2, h3, He.eqO_ok h4⟩, h5, h6, fun f hf => He.eqO_ok (List.all_eq_true.mp h7 f hf), fun m hm => ?_⟩
  obtain ⟨g1, g⟩ := He.ba (List.all_eq_true.mp h8 m hm)
  obtain ⟨g2, g3⟩ := He.ba g
  exact ⟨He.eqO_ok g1, g2, g3⟩
theorem ClsF.mkOf {K : PySem.W.Frag} {c : Str} {fs ms : List Str} (h : ClsF K c fs ms) (hi : ("__init__" : Str) ∈ ms) : Mk K (He.ga K c) (He.fAd K (c, some "__init__")) := ⟨h.ma, (h.me _ hi).at_, (h.me _ hi).fn, h.kp⟩
end Dy

set_option maxHeartbeats 4000000
namespace K32
open PySem PySem.Spec L2 Dy
open PyProof.Rows hiding St
open Enc (rep)
open Flat (toV)
open EncA (repA)
def topS (i : Nat) : Stmt := PySem.Challenge.pw_deskpairs_k32_whole_seated_or_short.main.body.getD i (.Pass ⟨0, 0, 0, 0⟩)
def clsS (i j : Nat) : Stmt := match PySem.Challenge.pw_deskpairs_k32_whole_seated_or_short.main.body.getD i (.Pass ⟨0, 0, 0, 0⟩) with | .ClassDef _ _ _ body _ _ _ _ _ _ _ => body.getD j (.Pass ⟨0, 0, 0, 0⟩) | _ => .Pass ⟨0, 0, 0, 0⟩
abbrev s_l_draws : Stmt := topS 8
abbrev N_l_draws : List Str := ["_law_cell", "_law_sizes", "_law_found", "_law_digits", "_law_k", "_law_mixed"]
theorem sc_l_draws : FnScope N_l_draws ["_law_cell", "_law_sizes"] (defScope s_l_draws) := ⟨rfl, rfl, rfl, by decide +kernel, rfl, by decide +kernel, by decide +kernel⟩
noncomputable def m_l_draws (cell1 : Int) (sizes4 : (List Int)) : Option (List Int) :=
 (lt (([] : List Int) : (List Int)) fun found8 =>
 (lt ((cell1 / (2 : Int)) : Int) fun digits16 =>
 (chk (RgB ((sizes4).length : Int)) (bnd (foldO (fun (b26 : ((List Int) × Int)) (x28 : Int) =>
 (chk (MulOk x28 x28) (lt (((((cell1 % (1000003 : Int)) + (1 : Int)) * ((x28 * x28) + (48271 : Int))) % (65537 : Int)) : Int) fun mixed52 =>
 (lt ((((((mixed52 * mixed52) + ((7919 : Int) * x28)) + (11 : Int)) * (30269 : Int)) % (999983 : Int)) : Int) fun mixed60 =>
 (bnd (if (decide ((cell1 % (2 : Int)) = (0 : Int))) = true then
 (lt (b26.2 : Int) fun mixed97 =>
 (some mixed97))
 else
 (some mixed60) : Option (Int)) fun b88 =>
 (bnd (atI sizes4 x28) fun at131 => (chk (0 < at131) (chk ((b26.1).length < sizeLine) (lt ((b26.1 ++ [(b88 % at131)]) : (List Int)) fun found129 =>
 (bnd (atI sizes4 x28) fun at136 => (chk (DivOk at136) (lt ((b26.2 / at136) : Int) fun digits138 =>
 (some (found129, digits138)))))))))))))) (found8, digits16) (rng 0 ((sizes4).length : Int))) fun o24 =>
 (some o24.1)))))
noncomputable abbrev a_l_draws : Int × (List Int) × Unit → Option (List Int) := fun a => m_l_draws a.1 a.2.1
theorem ok_l_draws {P : Program} {w : World} {K : PySem.W.Frag} {mg : Str → Option Value} {base : Heap} {f : Addr} {fd : FuncData} (F : FunP K "_law_draws" s_l_draws f fd) (hmg : mg "_law_draws" = some (.ref f)) (z_range : mg "range" = none) (z_len : mg "len" = none) : Cal P w K mg base CX0 1 "_law_draws" (spN K a_l_draws) := by
  refine mk_calN (k := 0) F hmg (F.bindsN fun _ _ _ _ _ _ us hl => match us, hl with | [_, _], _ => rfl) sc_l_draws len2 ?_
  rintro cdv A' outer sh0 H0 X0 hr s0 vs ⟨cell1, sizes4, _⟩ r0 Q ⟨v2, _, rfl, r3, v5, _, rfl, r6, rfl⟩ hm hQ
  unfold a_l_draws m_l_draws at hm
  dsimp only at hm
  have iv7 : Iv K (fun _ => False) s0 s0 [fz v2 (cell1 : Int), fz v5 (sizes4 : (List Int)), top, top, top, top] := (Iv.sf (Iv.sf (Iv.tops (K := K) (P0 := (fun _ => False)) 6 s0) 0 (Ex.refl s0) r3 rfl) 1 (Ex.refl s0) r6 rfl)
  refine do_setN 2 (en_list (xs := ([] : List Int)) ee_nil (by simp [sizeLine])) (fun p12 s10 e11 n13 o14 => ?_) sc_l_draws.nd
  obtain ⟨found8, q9, hm⟩ := ltE hm
  have iv15 := Iv.sl iv7 2 e11 n13 o14 q9
  refine do_set 3 (ev_div (ev_var 0 rfl (Iv.fz (x := (cell1 : Int)) iv15 0)) ev_int ⟨by decide, by decide +kernel⟩) (fun v20 s18 e19 r21 => ?_) sc_l_draws.nd
  obtain ⟨digits16, q17, hm⟩ := ltE hm
  have iv22 := Iv.sf iv15 3 e19 r21 q17
  obtain ⟨hc23, hm⟩ := chkE hm
  obtain ⟨o24, ho25, hm⟩ := bndE hm
  refine do_forO (υ := ((List Int) × Int)) PassesOwn.never rfl (ei_range1 z_range (ev_len z_len (Ev.r (ev_var 1 rfl (Iv.fz (x := (sizes4 : (List Int))) iv22 1)))) hc23) (pg_name (i := 4) sc_l_draws.nd rfl (by first | exact Or.inl rfl | exact Or.inr rfl)) tg_n ho25 (fun (b26 : ((List Int) × Int)) (σ' : L2.St) (t' : S) => ∃ (v_digits : V) (y_mixed : Option V) (y_k : Option V), σ' = [some v2, some v5, some (.ref p12), some v_digits, y_k, y_mixed] ∧ Iv K (fun _ => False) s0 t' [fz v2 (cell1 : Int), fz v5 (sizes4 : (List Int)), ol p12 (b26.1 : (List Int)), fz v_digits (b26.2 : Int), top, top]) (fun s152 k153 => by have iv154 := Iv.ex iv22 k153; exact ⟨v20, _, _, rfl, Iv.sel iv154 [some 0, some 1, some 2, some 3, none, none] (by decide) rfl⟩) (fun s29 k30 x28 b26 b27 σ39 σ40 t37 t38 hx31 hm32 fl33 hR34 k35 hB36 => ?_) (fun s146 k147 σ148 t149 fl150 hR151 => ?_)
  · have hf41 := Fle.trans k30.f fl33
    obtain ⟨v42, y43, y44, rfl, iv45⟩ := hR34
    obtain ⟨v46, r47, rfl⟩ := hB36
    have iv48 := Iv.ex iv45 k35
    have iv49 := Iv.sf iv48 4 (Ex.refl t38) r47 rfl
    have fl50 := Fle.trans (Fle.refl t38.F) (Ex.refl t38).f
    obtain ⟨hc51, hm32⟩ := chkE hm32
    refine do_set 5 (ev_mod (ev_mul (ev_add (ev_mod (ev_var 0 rfl (Iv.fz (x := (cell1 : Int)) iv49 0)) ev_int (by decide)) ev_int) (ev_add (ev_mul (ev_var 4 rfl (Iv.fz (x := (x28 : Int)) iv49 4)) (ev_var 4 rfl (Iv.fz (x := (x28 : Int)) iv49 4)) hc51) ev_int) (Or.inl (Or.inl ⟨by omega, by omega⟩))) ev_int (by decide)) (fun v56 s54 e55 r57 => ?_) sc_l_draws.nd
    obtain ⟨mixed52, q53, hm32⟩ := ltE hm32
    have iv58 := Iv.sf iv49 5 e55 r57 q53
    have fl59 := Fle.trans (Fle.refl t38.F) e55.f
    refine do_set 5 (ev_mod (ev_mul (ev_add (ev_add (ev_mul (ev_var 5 rfl (Iv.fz (x := (mixed52 : Int)) iv58 5)) (ev_var 5 rfl (Iv.fz (x := (mixed52 : Int)) iv58 5)) (Or.inl (Or.inl ⟨by omega, by omega⟩))) (ev_mul ev_int (ev_var 4 rfl (Iv.fz (x := (x28 : Int)) iv58 4)) (Or.inl (Or.inl ⟨by omega, by omega⟩)))) ev_int) ev_int (Or.inl (Or.inr ⟨by decide, by decide⟩))) ev_int (by decide)) (fun v64 s62 e63 r65 => ?_) sc_l_draws.nd
    obtain ⟨mixed60, q61, hm32⟩ := ltE hm32
    have iv66 := Iv.sf iv58 5 e63 r65 q61
    have fl67 := Fle.trans fl59 e63.f
    obtain ⟨b88, hj89, hm32⟩ := bndE hm32
    refine do_if (EvB.t (eb_eq (ev_mod (ev_var 0 rfl (Iv.fz (x := (cell1 : Int)) iv66 0)) ev_int (by decide)) ev_int)) (fun (σ' : L2.St) (t' : S) => Fle s62.F t'.F ∧ ∃ (v_mixed : V), σ' = [some v2, some v5, some (.ref p12), some v42, some v46, some v_mixed] ∧ Iv K (fun _ => False) s0 t' [fz v2 (cell1 : Int), fz v5 (sizes4 : (List Int)), ol p12 (b26.1 : (List Int)), fz v42 (b26.2 : Int), fz v46 (x28 : Int), fz v_mixed (b88 : Int)]) (fun hb90 s91 e92 => ?_) (fun hb106 s107 e108 => ?_) (fun σ113 s114 hM115 => ?_)
    · have hm93 := iteE1 hj89 hb90
      have iv94 := Iv.ex iv66 e92
      have fl95 := Fle.trans fl67 e92.f
      have fl96 := Fle.trans (Fle.refl s62.F) e92.f
      refine do_set 5 (ev_var 3 rfl (Iv.fz (x := (b26.2 : Int)) iv94 3)) (fun v101 s99 e100 r102 => ?_) sc_l_draws.nd
      obtain ⟨mixed97, q98, hm93⟩ := ltE hm93
      have iv103 := Iv.sf iv94 5 e100 r102 q98
      have fl104 := Fle.trans fl95 e100.f
      have fl105 := Fle.trans fl96 e100.f
      obtain rfl := Option.some.inj hm93
      exact do_nil ⟨s99, rfl, fl105, ⟨v101, rfl, Iv.sel iv103 [some 0, some 1, some 2, some 3, some 4, some 5] (by decide) rfl⟩⟩
    · have hm109 := iteE2 hj89 hb106
      have iv110 := Iv.ex iv66 e108
      have fl111 := Fle.trans fl67 e108.f
      have fl112 := Fle.trans (Fle.refl s62.F) e108.f
      obtain rfl := Option.some.inj hm109
      exact do_nil ⟨s107, rfl, fl112, ⟨v64, rfl, Iv.sel iv110 [some 0, some 1, some 2, some 3, some 4, some 5] (by decide) rfl⟩⟩
    · obtain ⟨hf116, hR117⟩ := hM115
      obtain ⟨v118, rfl, iv119⟩ := hR117
      have fl120 := Fle.trans fl67 hf116
      obtain ⟨at131, h_at131, hm32⟩ := bndE hm32
      obtain ⟨hc132, hm32⟩ := chkE hm32
      obtain ⟨hc133, hm32⟩ := chkE hm32
      refine do_append 2 rfl (Iv.ol (xs := (b26.1 : (List Int))) iv119 2) (ev_mod (ev_var 5 rfl (Iv.fz (x := (b88 : Int)) iv119 5)) (ev_ix (Ev.r (ev_var 1 rfl (Iv.fz (x := (sizes4 : (List Int))) iv119 1))) (ev_var 4 rfl (Iv.fz (x := (x28 : Int)) iv119 4)) h_at131) hc132) hc133 (fun s126 m127 o128 => ?_)
      obtain ⟨found129, q130, hm32⟩ := ltE hm32
      have iv134 := Iv.ml iv119 2 m127 o128 q130
      have fl135 := Fle.trans fl120 m127.f
      obtain ⟨at136, h_at136, hm32⟩ := bndE hm32
      obtain ⟨hc137, hm32⟩ := chkE hm32
      refine do_set 3 (ev_div (ev_var 3 rfl (Iv.fz (x := (b26.2 : Int)) iv134 3)) (ev_ix (Ev.r (ev_var 1 rfl (Iv.fz (x := (sizes4 : (List Int))) iv134 1))) (ev_var 4 rfl (Iv.fz (x := (x28 : Int)) iv134 4)) h_at136) hc137) (fun v142 s140 e141 r143 => ?_) sc_l_draws.nd
      obtain ⟨digits138, q139, hm32⟩ := ltE hm32
      have iv144 := Iv.sf iv134 3 e141 r143 q139
      have fl145 := Fle.trans fl135 e141.f
      obtain rfl := Option.some.inj hm32
      exact do_nil ⟨s140, rfl, fl145, ⟨v142, _, _, rfl, Iv.sel iv144 [some 0, some 1, some 2, some 3, none, none] (by decide) rfl⟩⟩
  · have hf155 := Fle.trans k147.f fl150
    obtain ⟨v156, y157, y158, rfl, iv159⟩ := hR151
    obtain rfl := Option.some.inj hm
    exact do_retO 2 rfl (hQ _ _ (Iv.exx iv159) (Iv.fresh iv159 2) (Iv.ol (xs := (o24.1 : (List Int))) iv159 2))
abbrev s_l_tools : Stmt := topS 9
abbrev N_l_tools : List Str := ["_law_way"]
theorem sc_l_tools : FnScope N_l_tools ["_law_way"] (defScope s_l_tools) := ⟨rfl, rfl, rfl, by decide +kernel, rfl, by decide +kernel, by decide +kernel⟩
noncomputable def m_l_tools (way160 : Int) : Option (List Str) :=
 (if (decide (way160 = (0 : Int))) = true then
 (some ([("a" : Str), ("ab" : Str), ("abc" : Str), ("b" : Str), ("ba" : Str)] : List Str))
 else
 (if (decide (way160 = (1 : Int))) = true then
 (some ([("viola" : Str), ("v" : Str), ("harp" : Str), ("oboe" : Str), ("violas" : Str)] : List Str))
 else
 (some ([("horn" : Str), ("ho" : Str), ("zink" : Str), ("c" : Str), ("cornetto" : Str)] : List Str))))
noncomputable abbrev a_l_tools : Int × Unit → Option (List Str) := fun a => m_l_tools a.1
theorem ok_l_tools {P : Program} {w : World} {K : PySem.W.Frag} {mg : Str → Option Value} {base : Heap} {f : Addr} {fd : FuncData} (F : FunP K "_law_tools" s_l_tools f fd) (hmg : mg "_law_tools" = some (.ref f))  : Cal P w K mg base CX0 1 "_law_tools" (sp K a_l_tools) := by
  refine mk_cal (k := 0) F hmg (F.bindsN fun _ _ _ _ _ _ us hl => match us, hl with | [_], _ => rfl) sc_l_tools len1 ?_
  rintro cdv A' outer sh0 H0 X0 hr s0 vs ⟨way160, _⟩ r0 Q ⟨v161, _, rfl, r162, rfl⟩ hm hQ
  unfold a_l_tools m_l_tools at hm
  dsimp only at hm
  have iv163 : Iv K (fun _ => False) s0 s0 [fz v161 (way160 : Int)] := (Iv.sf (Iv.tops (K := K) (P0 := (fun _ => False)) 1 s0) 0 (Ex.refl s0) r162 rfl)
  refine do_ifR (EvB.t (eb_eq (ev_var 0 rfl (Iv.fz (x := (way160 : Int)) iv163 0)) ev_int)) (fun hb164 s165 e166 => ?_) (fun hb173 s174 e175 => ?_)
  · have hm167 := iteE1 hm hb164
    have iv168 := Iv.ex iv163 e166
    obtain rfl := Option.some.inj hm167
    exact do_ret (EvN.ev (en_list (xs := ([("a" : Str), ("ab" : Str), ("abc" : Str), ("b" : Str), ("ba" : Str)] : List Str)) (ee_cons ev_str (ee_cons ev_str (ee_cons ev_str (ee_cons ev_str (ee_cons ev_str ee_nil))))) (by simp [sizeLine]))) fun v169 s170 e171 r172 => hQ _ _ (Ex.trans (Iv.exx iv168) e171) r172
  · have hm176 := iteE2 hm hb173
    have iv177 := Iv.ex iv163 e175
    refine do_ifR (EvB.t (eb_eq (ev_var 0 rfl (Iv.fz (x := (way160 : Int)) iv177 0)) ev_int)) (fun hb178 s179 e180 => ?_) (fun hb187 s188 e189 => ?_)
    · have hm181 := iteE1 hm176 hb178
      have iv182 := Iv.ex iv177 e180
      obtain rfl := Option.some.inj hm181
      exact do_ret (EvN.ev (en_list (xs := ([("viola" : Str), ("v" : Str), ("harp" : Str), ("oboe" : Str), ("violas" : Str)] : List Str)) (ee_cons ev_str (ee_cons ev_str (ee_cons ev_str (ee_cons ev_str (ee_cons ev_str ee_nil))))) (by simp [sizeLine]))) fun v183 s184 e185 r186 => hQ _ _ (Ex.trans (Iv.exx iv182) e185) r186
    · have hm190 := iteE2 hm176 hb187
      have iv191 := Iv.ex iv177 e189
      obtain rfl := Option.some.inj hm190
      exact do_ret (EvN.ev (en_list (xs := ([("horn" : Str), ("ho" : Str), ("zink" : Str), ("c" : Str), ("cornetto" : Str)] : List Str)) (ee_cons ev_str (ee_cons ev_str (ee_cons ev_str (ee_cons ev_str (ee_cons ev_str ee_nil))))) (by simp [sizeLine]))) fun v192 s193 e194 r195 => hQ _ _ (Ex.trans (Iv.exx iv191) e194) r195
abbrev s_l_title : Stmt := topS 10
abbrev N_l_title : List Str := ["_law_k", "_law_way", "_law_letters", "_law_word"]
theorem sc_l_title : FnScope N_l_title ["_law_k", "_law_way"] (defScope s_l_title) := ⟨rfl, rfl, rfl, by decide +kernel, rfl, by decide +kernel, by decide +kernel⟩
noncomputable def m_l_title (k196 : Int) (way199 : Int) : Option Str :=
 (lt (("abcdefghijklmnopqrstuvwxyz" : Str) : Str) fun letters203 =>
 (bnd (sgn letters203 (k196 / (2 : Int))) fun at210 => (chk (RepS ("x" : Str) (k196 % (2 : Int))) (chk ((at210).length + ((replS ("x" : Str) (k196 % (2 : Int)))).length ≤ sizeLine) (lt ((at210 ++ (replS ("x" : Str) (k196 % (2 : Int)))) : Str) fun word213 =>
 (if (decide (way199 = (0 : Int))) = true then
 (some word213)
 else
 (bnd (atI ([("" : Str), ("q" : Str), ("zz" : Str)] : List Str) way199) fun at234 => (chk ((at234).length + (word213).length ≤ sizeLine) (bnd (sgn letters203 (k196 % (7 : Int))) fun at236 => (chk (RepS at236 (2 : Int)) (chk (((at234 ++ word213)).length + ((replS at236 (2 : Int))).length ≤ sizeLine) (some ((at234 ++ word213) ++ (replS at236 (2 : Int)))))))))))))))
noncomputable abbrev a_l_title : Int × Int × Unit → Option Str := fun a => m_l_title a.1 a.2.1
theorem ok_l_title {P : Program} {w : World} {K : PySem.W.Frag} {mg : Str → Option Value} {base : Heap} {f : Addr} {fd : FuncData} (F : FunP K "_law_title" s_l_title f fd) (hmg : mg "_law_title" = some (.ref f))  : Cal P w K mg base CX0 1 "_law_title" (sp K a_l_title) := by
  refine mk_cal (k := 0) F hmg (F.bindsN fun _ _ _ _ _ _ us hl => match us, hl with | [_, _], _ => rfl) sc_l_title len2 ?_
  rintro cdv A' outer sh0 H0 X0 hr s0 vs ⟨k196, way199, _⟩ r0 Q ⟨v197, _, rfl, r198, v200, _, rfl, r201, rfl⟩ hm hQ
  unfold a_l_title m_l_title at hm
  dsimp only at hm
  have iv202 : Iv K (fun _ => False) s0 s0 [fz v197 (k196 : Int), fz v200 (way199 : Int), top, top] := (Iv.sf (Iv.sf (Iv.tops (K := K) (P0 := (fun _ => False)) 4 s0) 0 (Ex.refl s0) r198 rfl) 1 (Ex.refl s0) r201 rfl)
  refine do_set 2 ev_str (fun v207 s205 e206 r208 => ?_) sc_l_title.nd
  obtain ⟨letters203, q204, hm⟩ := ltE hm
  have iv209 := Iv.sf iv202 2 e206 r208 q204
  obtain ⟨at210, h_at210, hm⟩ := bndE hm
  obtain ⟨hc211, hm⟩ := chkE hm
  obtain ⟨hc212, hm⟩ := chkE hm
  refine do_set 3 (ev_adds (ev_ixS (ev_var 2 rfl (Iv.fz (x := (letters203 : Str)) iv209 2)) (ev_div (ev_var 0 rfl (Iv.fz (x := (k196 : Int)) iv209 0)) ev_int ⟨by decide, by decide +kernel⟩) h_at210) (ev_repS ev_str (ev_mod (ev_var 0 rfl (Iv.fz (x := (k196 : Int)) iv209 0)) ev_int (by decide)) hc211) hc212) (fun v217 s215 e216 r218 => ?_) sc_l_title.nd
  obtain ⟨word213, q214, hm⟩ := ltE hm
  have iv219 := Iv.sf iv209 3 e216 r218 q214
  refine do_ifR (EvB.t (eb_eq (ev_var 1 rfl (Iv.fz (x := (way199 : Int)) iv219 1)) ev_int)) (fun hb220 s221 e222 => ?_) (fun hb229 s230 e231 => ?_)
  · have hm223 := iteE1 hm hb220
    have iv224 := Iv.ex iv219 e222
    obtain rfl := Option.some.inj hm223
    exact do_ret (ev_var 3 rfl (Iv.fz (x := (word213 : Str)) iv224 3)) fun v225 s226 e227 r228 => hQ _ _ (Ex.trans (Iv.exx iv224) e227) r228
  · have hm232 := iteE2 hm hb229
    have iv233 := Iv.ex iv219 e231
    obtain ⟨at234, h_at234, hm232⟩ := bndE hm232
    obtain ⟨hc235, hm232⟩ := chkE hm232
    obtain ⟨at236, h_at236, hm232⟩ := bndE hm232
    obtain ⟨hc237, hm232⟩ := chkE hm232
    obtain ⟨hc238, hm232⟩ := chkE hm232
    obtain rfl := Option.some.inj hm232
    exact do_ret (ev_adds (ev_adds (ev_ix (EvN.r (en_list (xs := ([("" : Str), ("q" : Str), ("zz" : Str)] : List Str)) (ee_cons ev_str (ee_cons ev_str (ee_cons ev_str ee_nil))) (by simp [sizeLine]))) (ev_var 1 rfl (Iv.fz (x := (way199 : Int)) iv233 1)) h_at234) (ev_var 3 rfl (Iv.fz (x := (word213 : Str)) iv233 3)) hc235) (ev_repS (ev_ixS (ev_var 2 rfl (Iv.fz (x := (letters203 : Str)) iv233 2)) (ev_mod (ev_var 0 rfl (Iv.fz (x := (k196 : Int)) iv233 0)) ev_int (by decide)) h_at236) ev_int hc237) hc238) fun v239 s240 e241 r242 => hQ _ _ (Ex.trans (Iv.exx iv233) e241) r242
abbrev s_l_player : Stmt := topS 13
abbrev N_l_player : List Str := ["_law_k", "_law_mask", "_law_turned", "_law_tools_here", "_law_way", "_law_some", "_law_j"]
theorem sc_l_player : FnScope N_l_player ["_law_k", "_law_mask", "_law_turned", "_law_tools_here", "_law_way"] (defScope s_l_player) := ⟨rfl, rfl, rfl, by decide +kernel, rfl, by decide +kernel, by decide +kernel⟩
noncomputable def m_l_player (k243 : Int) (mask246 : Int) (turned249 : Int) (tools_here252 : (List Str)) (way255 : Int) : Option (Str × (Tu Str)) :=
 (bnd (compO (fun (x259 : Int) => (bnd (atI ([(1 : Int), (2 : Int), (4 : Int), (8 : Int), (16 : Int)] : List Int) x259) fun at275 => (chk (DivOk at275) (some (decide (((mask246 / at275) % (2 : Int)) = (1 : Int))))))) (fun (x259 : Int) => (bnd (atI tools_here252 x259) fun at272 => (some at272))) (rng 0 (5 : Int))) fun ys277 => (chk ((ys277).length ≤ sizeLine) (lt (ys277 : (List Str)) fun some280 =>
 (bnd (if (decide (turned249 = (1 : Int))) = true then
 (lt ((some280).reverse : (List Str)) fun some318 =>
 (some some318))
 else
 (some some280) : Option ((List Str))) fun b310 =>
 (bnd (m_l_title k243 way255) fun title339 => (some (title339, (⟨b310⟩ : Tu Str))))))))
noncomputable abbrev a_l_player : Int × Int × Int × (List Str) × Int × Unit → Option (Str × (Tu Str)) := fun a => m_l_player a.1 a.2.1 a.2.2.1 a.2.2.2.1 a.2.2.2.2.1
theorem ok_l_player {P : Program} {w : World} {K : PySem.W.Frag} {mg : Str → Option Value} {base : Heap} {f : Addr} {fd : FuncData} (F : FunP K "_law_player" s_l_player f fd) (hmg : mg "_law_player" = some (.ref f)) (C_l_title : Cal P w K mg base CX0 1 "_law_title" (sp K a_l_title)) (z_range : mg "range" = none) (z_tuple : mg "tuple" = none) : Cal P w K mg base CX0 2 "_law_player" (sp K a_l_player) := by
  refine mk_cal (k := 1) F hmg (F.bindsN fun _ _ _ _ _ _ us hl => match us, hl with | [_, _, _, _, _], _ => rfl) sc_l_player len5 ?_
  rintro cdv A' outer sh0 H0 X0 hr s0 vs ⟨k243, mask246, turned249, tools_here252, way255, _⟩ r0 Q ⟨v244, _, rfl, r245, v247, _, rfl, r248, v250, _, rfl, r251, v253, _, rfl, r254, v256, _, rfl, r257, rfl⟩ hm hQ
  unfold a_l_player m_l_player at hm
  dsimp only at hm
  have iv258 : Iv K (fun _ => False) s0 s0 [fz v244 (k243 : Int), fz v247 (mask246 : Int), fz v250 (turned249 : Int), fz v253 (tools_here252 : (List Str)), fz v256 (way255 : Int), top, top] := (Iv.sf (Iv.sf (Iv.sf (Iv.sf (Iv.sf (Iv.tops (K := K) (P0 := (fun _ => False)) 7 s0) 0 (Ex.refl s0) r245 rfl) 1 (Ex.refl s0) r248 rfl) 2 (Ex.refl s0) r251 rfl) 3 (Ex.refl s0) r254 rfl) 4 (Ex.refl s0) r257 rfl)
  obtain ⟨ys277, h_ys277, hm⟩ := bndE hm
  obtain ⟨hc278, hm⟩ := chkE hm
  refine do_setL 5 (en_comp1 (own := [("_law_j", 6)]) (j := 6) (t := fun (x259 : Int) => (bnd (atI ([(1 : Int), (2 : Int), (4 : Int), (8 : Int), (16 : Int)] : List Int) x259) fun at275 => (chk (DivOk at275) (some (decide (((mask246 / at275) % (2 : Int)) = (1 : Int))))))) (f := fun (x259 : Int) => (bnd (atI tools_here252 x259) fun at272 => (some at272))) rfl sc_l_player.nd (ei_range1 z_range ev_int ⟨by omega, by omega⟩) (blkOk_by (own := [("_law_j", 6)]) (N := N_l_player) (sc := defScope s_l_player) (by decide +kernel)) rfl (by decide) (fun _ _ _ _ _ => pg_name (i := 6) sc_l_player.nd rfl (by first | exact Or.inl rfl | exact Or.inr rfl)) h_ys277 hc278 (fun x259 y260 v270 s261 hx263 e262 r271 hf264 _ _ _ _ _ => by have z266 := Enc.mono e262.f (Iv.fz (v := v247) (x := (mask246 : Int)) iv258 1); obtain ⟨at275, h_at275, hf264⟩ := bndE hf264; obtain ⟨hc276, hf264⟩ := chkE hf264; obtain rfl := Option.some.inj hf264; exact (EvB.t (eb_eq (ev_mod (ev_div (ev_var 1 rfl z266) (ev_ix (EvN.r (en_list (xs := ([(1 : Int), (2 : Int), (4 : Int), (8 : Int), (16 : Int)] : List Int)) (ee_cons ev_int (ee_cons ev_int (ee_cons ev_int (ee_cons ev_int (ee_cons ev_int ee_nil))))) (by simp [sizeLine]))) (ev_var 6 rfl r271) h_at275) hc276) ev_int (by decide)) ev_int))) (fun x259 y260 v270 s261 hx263 e262 r271 ht279 hf264 _ _ _ _ _ => by have z268 := Enc.mono e262.f (Iv.fz (v := v253) (x := (tools_here252 : (List Str))) iv258 3); obtain ⟨at272, h_at272, hf264⟩ := bndE hf264; obtain rfl := Option.some.inj hf264; exact (ev_ix (Ev.r (ev_var 3 rfl z268)) (ev_var 6 rfl r271) h_at272))) (fun p286 s282 e283 n287 o288 => ?_) rfl rfl
  obtain ⟨s289, hs290, e291, r285⟩ := frz_ex e283 n287 o288
  rw [← hs290]
  obtain ⟨some280, q281, hm⟩ := ltE hm
  have iv292 := Iv.sf iv258 5 e291 r285 q281
  obtain ⟨b310, hj311, hm⟩ := bndE hm
  refine do_if (EvB.t (eb_eq (ev_var 2 rfl (Iv.fz (x := (turned249 : Int)) iv292 2)) ev_int)) (fun (σ' : L2.St) (t' : S) => Fle s289.F t'.F ∧ ∃ (v_some : V), σ' = [some v244, some v247, some v250, some v253, some v256, some v_some, none] ∧ Iv K (fun _ => False) s0 t' [fz v244 (k243 : Int), fz v247 (mask246 : Int), fz v250 (turned249 : Int), fz v253 (tools_here252 : (List Str)), fz v256 (way255 : Int), fz v_some (b310 : (List Str)), top]) (fun hb312 s313 e314 => ?_) (fun hb326 s327 e328 => ?_) (fun σ332 s333 hM334 => ?_)
  · have hm315 := iteE1 hj311 hb312
    have iv316 := Iv.ex iv292 e314
    have fl317 := Fle.trans (Fle.refl s289.F) e314.f
    refine do_set 5 (EvN.ev (en_rev (Ev.r (ev_var 5 rfl (Iv.fz (x := (some280 : (List Str))) iv316 5))))) (fun v322 s320 e321 r323 => ?_) sc_l_player.nd
    obtain ⟨some318, q319, hm315⟩ := ltE hm315
    have iv324 := Iv.sf iv316 5 e321 r323 q319
    have fl325 := Fle.trans fl317 e321.f
    obtain rfl := Option.some.inj hm315
    exact do_nil ⟨s320, rfl, fl325, ⟨v322, rfl, Iv.sel iv324 [some 0, some 1, some 2, some 3, some 4, some 5, none] (by decide) rfl⟩⟩
  · have hm329 := iteE2 hj311 hb326
    have iv330 := Iv.ex iv292 e328
    have fl331 := Fle.trans (Fle.refl s289.F) e328.f
    obtain rfl := Option.some.inj hm329
    exact do_nil ⟨s327, rfl, fl331, ⟨(V.ref p286), rfl, Iv.sel iv330 [some 0, some 1, some 2, some 3, some 4, some 5, none] (by decide) rfl⟩⟩
  · obtain ⟨hf335, hR336⟩ := hM334
    obtain ⟨v337, rfl, iv338⟩ := hR336
    obtain ⟨title339, h_title339, hm⟩ := bndE hm
    obtain rfl := Option.some.inj hm
    exact do_ret (ev_t2 (ea_cons (ev_call C_l_title hr (by decide) (ea_cons (ev_var 0 rfl (Iv.fz (x := (k243 : Int)) iv338 0)) (ea_cons (ev_var 4 rfl (Iv.fz (x := (way255 : Int)) iv338 4)) ea_nil)) h_title339) (ea_cons (ev_tuple z_tuple (Ev.r (ev_var 5 rfl (Iv.fz (x := (b310 : (List Str))) iv338 5)))) ea_nil))) fun v340 s341 e342 r343 => hQ _ _ (Ex.trans (Iv.exx iv338) e342) r343
abbrev s_l_players : Stmt := topS 14
abbrev N_l_players : List Str := ["_law_cell", "_law_most", "_law_tools_here", "_law_way", "_law_ds", "_law_k"]
theorem sc_l_players : FnScope N_l_players ["_law_cell", "_law_most", "_law_tools_here", "_law_way"] (defScope s_l_players) := ⟨rfl, rfl, rfl, by decide +kernel, rfl, by decide +kernel, by decide +kernel⟩
noncomputable def m_l_players (cell344 : Int) (most347 : Int) (tools_here350 : (List Str)) (way353 : Int) : Option (List (Str × (Tu Str))) :=
 (chk (RepOk most347 (([(32 : Int), (2 : Int)] : List Int)).length) (chk ((([(most347 + (1 : Int))] : List Int)).length + ((repl most347 ([(32 : Int), (2 : Int)] : List Int))).length ≤ sizeLine) (bnd (m_l_draws cell344 (([(most347 + (1 : Int))] : List Int) ++ (repl most347 ([(32 : Int), (2 : Int)] : List Int)))) fun draws361 => (lt (draws361 : (List Int)) fun ds362 =>
 (bnd (atI ds362 (0 : Int)) fun at369 => (chk (RgB at369) (bnd (mapO (fun (x371 : Int) => (bnd (atI ds362 ((1 : Int) + ((2 : Int) * x371))) fun at384 => (bnd (atI ds362 ((2 : Int) + ((2 : Int) * x371))) fun at385 => (bnd (m_l_player x371 at384 at385 tools_here350 way353) fun player386 => (some player386))))) (rng 0 at369)) fun ys387 => (chk ((ys387).length ≤ sizeLine) (some ys387)))))))))
noncomputable abbrev a_l_players : Int × Int × (List Str) × Int × Unit → Option (List (Str × (Tu Str))) := fun a => m_l_players a.1 a.2.1 a.2.2.1 a.2.2.2.1
theorem ok_l_players {P : Program} {w : World} {K : PySem.W.Frag} {mg : Str → Option Value} {base : Heap} {f : Addr} {fd : FuncData} (F : FunP K "_law_players" s_l_players f fd) (hmg : mg "_law_players" = some (.ref f)) (C_l_draws : Cal P w K mg base CX0 1 "_law_draws" (spN K a_l_draws)) (C_l_player : Cal P w K mg base CX0 2 "_law_player" (sp K a_l_player)) (z_range : mg "range" = none) : Cal P w K mg base CX0 3 "_law_players" (spN K a_l_players) := by
  refine mk_calN (k := 2) F hmg (F.bindsN fun _ _ _ _ _ _ us hl => match us, hl with | [_, _, _, _], _ => rfl) sc_l_players len4 ?_
  rintro cdv A' outer sh0 H0 X0 hr s0 vs ⟨cell344, most347, tools_here350, way353, _⟩ r0 Q ⟨v345, _, rfl, r346, v348, _, rfl, r349, v351, _, rfl, r352, v354, _, rfl, r355, rfl⟩ hm hQ
  unfold a_l_players m_l_players at hm
  dsimp only at hm
  have iv356 : Iv K (fun _ => False) s0 s0 [fz v345 (cell344 : Int), fz v348 (most347 : Int), fz v351 (tools_here350 : (List Str)), fz v354 (way353 : Int), top, top] := (Iv.sf (Iv.sf (Iv.sf (Iv.sf (Iv.tops (K := K) (P0 := (fun _ => False)) 6 s0) 0 (Ex.refl s0) r346 rfl) 1 (Ex.refl s0) r349 rfl) 2 (Ex.refl s0) r352 rfl) 3 (Ex.refl s0) r355 rfl)
  obtain ⟨hc359, hm⟩ := chkE hm
  obtain ⟨hc360, hm⟩ := chkE hm
  obtain ⟨draws361, h_draws361, hm⟩ := bndE hm
  refine do_set 4 (EvN.ev (en_call C_l_draws hr (by decide) (ea_cons (ev_var 0 rfl (Iv.fz (x := (cell344 : Int)) iv356 0)) (ea_cons (EvN.ev (en_cat (EvN.r (en_list (xs := ([(most347 + (1 : Int))] : List Int)) (ee_cons (ev_add (ev_var 1 rfl (Iv.fz (x := (most347 : Int)) iv356 1)) ev_int) ee_nil) (by simp [sizeLine]))) (EvN.r (en_rep (en_list (xs := ([(32 : Int), (2 : Int)] : List Int)) (ee_cons ev_int (ee_cons ev_int ee_nil)) (by simp [sizeLine])) (fun _ hk => Ev.mono (ev_var 1 rfl (Iv.fz (x := (most347 : Int)) iv356 1)) hk) hc359)) hc360)) ea_nil)) h_draws361)) (fun v366 s364 e365 r367 => ?_) sc_l_players.nd
  obtain ⟨ds362, q363, hm⟩ := ltE hm
  have iv368 := Iv.sf iv356 4 e365 r367 q363
  obtain ⟨at369, h_at369, hm⟩ := bndE hm
  obtain ⟨hc370, hm⟩ := chkE hm
  obtain ⟨ys387, h_ys387, hm⟩ := bndE hm
  obtain ⟨hc388, hm⟩ := chkE hm
  obtain rfl := Option.some.inj hm
  exact do_retN (EvL.n (en_comp0 (own := [("_law_k", 5)]) (j := 5) (f := fun (x371 : Int) => (bnd (atI ds362 ((1 : Int) + ((2 : Int) * x371))) fun at384 => (bnd (atI ds362 ((2 : Int) + ((2 : Int) * x371))) fun at385 => (bnd (m_l_player x371 at384 at385 tools_here350 way353) fun player386 => (some player386))))) rfl sc_l_players.nd (ei_range1 z_range (ev_ix (Ev.r (ev_var 4 rfl (Iv.fz (x := (ds362 : (List Int))) iv368 4))) ev_int h_at369) hc370) (blkOk_by (own := [("_law_k", 5)]) (N := N_l_players) (sc := defScope s_l_players) (by decide +kernel)) rfl (by decide) (fun _ _ _ _ _ => pg_name (i := 5) sc_l_players.nd rfl (by first | exact Or.inl rfl | exact Or.inr rfl)) h_ys387 hc388 (fun x371 y372 v382 s373 hx375 e374 r383 hf376 _ _ _ _ _ => by have z379 := Enc.mono e374.f (Iv.fz (v := v351) (x := (tools_here350 : (List Str))) iv368 2); have z380 := Enc.mono e374.f (Iv.fz (v := v354) (x := (way353 : Int)) iv368 3); have z381 := Enc.mono e374.f (Iv.fz (v := v366) (x := (ds362 : (List Int))) iv368 4); obtain ⟨at384, h_at384, hf376⟩ := bndE hf376; obtain ⟨at385, h_at385, hf376⟩ := bndE hf376; obtain ⟨player386, h_player386, hf376⟩ := bndE hf376; obtain rfl := Option.some.inj hf376; exact (ev_call C_l_player hr (by decide) (ea_cons (ev_var 5 rfl r383) (ea_cons (ev_ix (Ev.r (ev_var 4 rfl z381)) (ev_add ev_int (ev_mul ev_int (ev_var 5 rfl r383) (Or.inl (Or.inl ⟨by omega, by omega⟩)))) h_at384) (ea_cons (ev_ix (Ev.r (ev_var 4 rfl z381)) (ev_add ev_int (ev_mul ev_int (ev_var 5 rfl r383) (Or.inl (Or.inl ⟨by omega, by omega⟩)))) h_at385) (ea_cons (ev_var 2 rfl z379) (ea_cons (ev_var 3 rfl z380) ea_nil))))) h_player386)))) fun p389 s390 e391 n392 o393 => hQ _ _ (Ex.trans (Iv.exx iv368) e391) (fr_back (Iv.exx iv368) n392) o393
abbrev s_l_seat : Stmt := topS 11
abbrev N_l_seat : List Str := ["_law_first", "_law_more", "_law_step", "_law_tools_here", "_law_many", "_law_j"]
theorem sc_l_seat : FnScope N_l_seat ["_law_first", "_law_more", "_law_step", "_law_tools_here"] (defScope s_l_seat) := ⟨rfl, rfl, rfl, by decide +kernel, rfl, by decide +kernel, by decide +kernel⟩
noncomputable def m_l_seat (first394 : Int) (more397 : Int) (step400 : Int) (tools_here403 : (List Str)) : Option (Tu Str) :=
 (bnd (atI ([(1 : Int), (1 : Int), (1 : Int), (1 : Int), (2 : Int), (2 : Int), (3 : Int), (4 : Int)] : List Int) more397) fun at407 => (lt (at407 : Int) fun many408 =>
 (chk (RgB many408) (bnd (mapO (fun (x416 : Int) => (chk (MulOk x416 ((1 : Int) + step400)) (bnd (atI tools_here403 ((first394 + (x416 * ((1 : Int) + step400))) % (5 : Int))) fun at430 => (some at430)))) (rng 0 many408)) fun ys431 => (chk ((ys431).length ≤ sizeLine) (some (⟨ys431⟩ : Tu Str)))))))
noncomputable abbrev a_l_seat : Int × Int × Int × (List Str) × Unit → Option (Tu Str) := fun a => m_l_seat a.1 a.2.1 a.2.2.1 a.2.2.2.1
theorem ok_l_seat {P : Program} {w : World} {K : PySem.W.Frag} {mg : Str → Option Value} {base : Heap} {f : Addr} {fd : FuncData} (F : FunP K "_law_seat" s_l_seat f fd) (hmg : mg "_law_seat" = some (.ref f)) (z_tuple : mg "tuple" = none) (z_range : mg "range" = none) : Cal P w K mg base CX0 1 "_law_seat" (sp K a_l_seat) := by
  refine mk_cal (k := 0) F hmg (F.bindsN fun _ _ _ _ _ _ us hl => match us, hl with | [_, _, _, _], _ => rfl) sc_l_seat len4 ?_
  rintro cdv A' outer sh0 H0 X0 hr s0 vs ⟨first394, more397, step400, tools_here403, _⟩ r0 Q ⟨v395, _, rfl, r396, v398, _, rfl, r399, v401, _, rfl, r402, v404, _, rfl, r405, rfl⟩ hm hQ
  unfold a_l_seat m_l_seat at hm
  dsimp only at hm
  have iv406 : Iv K (fun _ => False) s0 s0 [fz v395 (first394 : Int), fz v398 (more397 : Int), fz v401 (step400 : Int), fz v404 (tools_here403 : (List Str)), top, top] := (Iv.sf (Iv.sf (Iv.sf (Iv.sf (Iv.tops (K := K) (P0 := (fun _ => False)) 6 s0) 0 (Ex.refl s0) r396 rfl) 1 (Ex.refl s0) r399 rfl) 2 (Ex.refl s0) r402 rfl) 3 (Ex.refl s0) r405 rfl)
  obtain ⟨at407, h_at407, hm⟩ := bndE hm
  refine do_set 4 (ev_ix (EvN.r (en_list (xs := ([(1 : Int), (1 : Int), (1 : Int), (1 : Int), (2 : Int), (2 : Int), (3 : Int), (4 : Int)] : List Int)) (ee_cons ev_int (ee_cons ev_int (ee_cons ev_int (ee_cons ev_int (ee_cons ev_int (ee_cons ev_int (ee_cons ev_int (ee_cons ev_int ee_nil)))))))) (by simp [sizeLine]))) (ev_var 1 rfl (Iv.fz (x := (more397 : Int)) iv406 1)) h_at407) (fun v412 s410 e411 r413 => ?_) sc_l_seat.nd
  obtain ⟨many408, q409, hm⟩ := ltE hm
  have iv414 := Iv.sf iv406 4 e411 r413 q409
  obtain ⟨hc415, hm⟩ := chkE hm
  obtain ⟨ys431, h_ys431, hm⟩ := bndE hm
  obtain ⟨hc432, hm⟩ := chkE hm
  obtain rfl := Option.some.inj hm
  exact do_ret (ev_tuple z_tuple (EvN.r (EvL.n (en_comp0 (own := [("_law_j", 5)]) (j := 5) (f := fun (x416 : Int) => (chk (MulOk x416 ((1 : Int) + step400)) (bnd (atI tools_here403 ((first394 + (x416 * ((1 : Int) + step400))) % (5 : Int))) fun at430 => (some at430)))) rfl sc_l_seat.nd (ei_range1 z_range (ev_var 4 rfl (Iv.fz (x := (many408 : Int)) iv414 4)) hc415) (blkOk_by (own := [("_law_j", 5)]) (N := N_l_seat) (sc := defScope s_l_seat) (by decide +kernel)) rfl (by decide) (fun _ _ _ _ _ => pg_name (i := 5) sc_l_seat.nd rfl (by first | exact Or.inl rfl | exact Or.inr rfl)) h_ys431 hc432 (fun x416 y417 v427 s418 hx420 e419 r428 hf421 _ _ _ _ _ => by have z422 := Enc.mono e419.f (Iv.fz (v := v395) (x := (first394 : Int)) iv414 0); have z424 := Enc.mono e419.f (Iv.fz (v := v401) (x := (step400 : Int)) iv414 2); have z425 := Enc.mono e419.f (Iv.fz (v := v404) (x := (tools_here403 : (List Str))) iv414 3); obtain ⟨hc429, hf421⟩ := chkE hf421; obtain ⟨at430, h_at430, hf421⟩ := bndE hf421; obtain rfl := Option.some.inj hf421; exact (ev_ix (Ev.r (ev_var 3 rfl z425)) (ev_mod (ev_add (ev_var 0 rfl z422) (ev_mul (ev_var 5 rfl r428) (ev_add ev_int (ev_var 2 rfl z424)) hc429)) ev_int (by decide)) h_at430)))))) fun v433 s434 e435 r436 => hQ _ _ (Ex.trans (Iv.exx iv414) e435) r436
abbrev s_l_seats : Stmt := topS 12
abbrev N_l_seats : List Str := ["_law_cell", "_law_most", "_law_tools_here", "_law_ds", "_law_k"]
theorem sc_l_seats : FnScope N_l_seats ["_law_cell", "_law_most", "_law_tools_here"] (defScope s_l_seats) := ⟨rfl, rfl, rfl, by decide +kernel, rfl, by decide +kernel, by decide +kernel⟩
noncomputable def m_l_seats (cell437 : Int) (most440 : Int) (tools_here443 : (List Str)) : Option (List (Tu Str)) :=
 (chk (RepOk most440 (([(5 : Int), (8 : Int), (4 : Int)] : List Int)).length) (chk ((([(most440 + (1 : Int))] : List Int)).length + ((repl most440 ([(5 : Int), (8 : Int), (4 : Int)] : List Int))).length ≤ sizeLine) (bnd (m_l_draws cell437 (([(most440 + (1 : Int))] : List Int) ++ (repl most440 ([(5 : Int), (8 : Int), (4 : Int)] : List Int)))) fun draws451 => (lt (draws451 : (List Int)) fun ds452 =>
 (bnd (atI ds452 (0 : Int)) fun at459 => (chk (RgB at459) (bnd (mapO (fun (x461 : Int) => (bnd (atI ds452 ((1 : Int) + ((3 : Int) * x461))) fun at473 => (bnd (atI ds452 ((2 : Int) + ((3 : Int) * x461))) fun at474 => (bnd (atI ds452 ((3 : Int) + ((3 : Int) * x461))) fun at475 => (bnd (m_l_seat at473 at474 at475 tools_here443) fun seat476 => (some seat476)))))) (rng 0 at459)) fun ys477 => (chk ((ys477).length ≤ sizeLine) (some ys477)))))))))
noncomputable abbrev a_l_seats : Int × Int × (List Str) × Unit → Option (List (Tu Str)) := fun a => m_l_seats a.1 a.2.1 a.2.2.1
theorem ok_l_seats {P : Program} {w : World} {K : PySem.W.Frag} {mg : Str → Option Value} {base : Heap} {f : Addr} {fd : FuncData} (F : FunP K "_law_seats" s_l_seats f fd) (hmg : mg "_law_seats" = some (.ref f)) (C_l_draws : Cal P w K mg base CX0 1 "_law_draws" (spN K a_l_draws)) (C_l_seat : Cal P w K mg base CX0 1 "_law_seat" (sp K a_l_seat)) (z_range : mg "range" = none) : Cal P w K mg base CX0 2 "_law_seats" (spN K a_l_seats) := by
  refine mk_calN (k := 1) F hmg (F.bindsN fun _ _ _ _ _ _ us hl => match us, hl with | [_, _, _], _ => rfl) sc_l_seats len3 ?_
  rintro cdv A' outer sh0 H0 X0 hr s0 vs ⟨cell437, most440, tools_here443, _⟩ r0 Q ⟨v438, _, rfl, r439, v441, _, rfl, r442, v444, _, rfl, r445, rfl⟩ hm hQ
  unfold a_l_seats m_l_seats at hm
  dsimp only at hm
  have iv446 : Iv K (fun _ => False) s0 s0 [fz v438 (cell437 : Int), fz v441 (most440 : Int), fz v444 (tools_here443 : (List Str)), top, top] := (Iv.sf (Iv.sf (Iv.sf (Iv.tops (K := K) (P0 := (fun _ => False)) 5 s0) 0 (Ex.refl s0) r439 rfl) 1 (Ex.refl s0) r442 rfl) 2 (Ex.refl s0) r445 rfl)
  obtain ⟨hc449, hm⟩ := chkE hm
  obtain ⟨hc450, hm⟩ := chkE hm
  obtain ⟨draws451, h_draws451, hm⟩ := bndE hm
  refine do_set 3 (EvN.ev (en_call C_l_draws hr (by decide) (ea_cons (ev_var 0 rfl (Iv.fz (x := (cell437 : Int)) iv446 0)) (ea_cons (EvN.ev (en_cat (EvN.r (en_list (xs := ([(most440 + (1 : Int))] : List Int)) (ee_cons (ev_add (ev_var 1 rfl (Iv.fz (x := (most440 : Int)) iv446 1)) ev_int) ee_nil) (by simp [sizeLine]))) (EvN.r (en_rep (en_list (xs := ([(5 : Int), (8 : Int), (4 : Int)] : List Int)) (ee_cons ev_int (ee_cons ev_int (ee_cons ev_int ee_nil))) (by simp [sizeLine])) (fun _ hk => Ev.mono (ev_var 1 rfl (Iv.fz (x := (most440 : Int)) iv446 1)) hk) hc449)) hc450)) ea_nil)) h_draws451)) (fun v456 s454 e455 r457 => ?_) sc_l_seats.nd
  obtain ⟨ds452, q453, hm⟩ := ltE hm
  have iv458 := Iv.sf iv446 3 e455 r457 q453
  obtain ⟨at459, h_at459, hm⟩ := bndE hm
  obtain ⟨hc460, hm⟩ := chkE hm
  obtain ⟨ys477, h_ys477, hm⟩ := bndE hm
  obtain ⟨hc478, hm⟩ := chkE hm
  obtain rfl := Option.some.inj hm
  exact do_retN (EvL.n (en_comp0 (own := [("_law_k", 4)]) (j := 4) (f := fun (x461 : Int) => (bnd (atI ds452 ((1 : Int) + ((3 : Int) * x461))) fun at473 => (bnd (atI ds452 ((2 : Int) + ((3 : Int) * x461))) fun at474 => (bnd (atI ds452 ((3 : Int) + ((3 : Int) * x461))) fun at475 => (bnd (m_l_seat at473 at474 at475 tools_here443) fun seat476 => (some seat476)))))) rfl sc_l_seats.nd (ei_range1 z_range (ev_ix (Ev.r (ev_var 3 rfl (Iv.fz (x := (ds452 : (List Int))) iv458 3))) ev_int h_at459) hc460) (blkOk_by (own := [("_law_k", 4)]) (N := N_l_seats) (sc := defScope s_l_seats) (by decide +kernel)) rfl (by decide) (fun _ _ _ _ _ => pg_name (i := 4) sc_l_seats.nd rfl (by first | exact Or.inl rfl | exact Or.inr rfl)) h_ys477 hc478 (fun x461 y462 v471 s463 hx465 e464 r472 hf466 _ _ _ _ _ => by have z469 := Enc.mono e464.f (Iv.fz (v := v444) (x := (tools_here443 : (List Str))) iv458 2); have z470 := Enc.mono e464.f (Iv.fz (v := v456) (x := (ds452 : (List Int))) iv458 3); obtain ⟨at473, h_at473, hf466⟩ := bndE hf466; obtain ⟨at474, h_at474, hf466⟩ := bndE hf466; obtain ⟨at475, h_at475, hf466⟩ := bndE hf466; obtain ⟨seat476, h_seat476, hf466⟩ := bndE hf466; obtain rfl := Option.some.inj hf466; exact (ev_call C_l_seat hr (by decide) (ea_cons (ev_ix (Ev.r (ev_var 3 rfl z470)) (ev_add ev_int (ev_mul ev_int (ev_var 4 rfl r472) (Or.inl (Or.inl ⟨by omega, by omega⟩)))) h_at473) (ea_cons (ev_ix (Ev.r (ev_var 3 rfl z470)) (ev_add ev_int (ev_mul ev_int (ev_var 4 rfl r472) (Or.inl (Or.inl ⟨by omega, by omega⟩)))) h_at474) (ea_cons (ev_ix (Ev.r (ev_var 3 rfl z470)) (ev_add ev_int (ev_mul ev_int (ev_var 4 rfl r472) (Or.inl (Or.inl ⟨by omega, by omega⟩)))) h_at475) (ea_cons (ev_var 2 rfl z469) ea_nil)))) h_seat476)))) fun p479 s480 e481 n482 o483 => hQ _ _ (Ex.trans (Iv.exx iv458) e481) (fr_back (Iv.exx iv458) n482) o483
abbrev s_l_cell_at : Stmt := topS 7
abbrev N_l_cell_at : List Str := ["_law_script", "_law_k"]
theorem sc_l_cell_at : FnScope N_l_cell_at ["_law_script", "_law_k"] (defScope s_l_cell_at) := ⟨rfl, rfl, rfl, by decide +kernel, rfl, by decide +kernel, by decide +kernel⟩
noncomputable def m_l_cell_at (script484 : (List Int)) (k487 : Int) : Option Int :=
 (if (decide (k487 < ((script484).length : Int))) = true then
 (bnd (atI script484 k487) fun at496 => (some at496))
 else
 (some (0 : Int)))
noncomputable abbrev a_l_cell_at : (List Int) × Int × Unit → Option Int := fun a => m_l_cell_at a.1 a.2.1
theorem ok_l_cell_at {P : Program} {w : World} {K : PySem.W.Frag} {mg : Str → Option Value} {base : Heap} {f : Addr} {fd : FuncData} (F : FunP K "_law_cell_at" s_l_cell_at f fd) (hmg : mg "_law_cell_at" = some (.ref f)) (z_len : mg "len" = none) : Cal P w K mg base CX0 1 "_law_cell_at" (sp K a_l_cell_at) := by
  refine mk_cal (k := 0) F hmg (F.bindsN fun _ _ _ _ _ _ us hl => match us, hl with | [_, _], _ => rfl) sc_l_cell_at len2 ?_
  rintro cdv A' outer sh0 H0 X0 hr s0 vs ⟨script484, k487, _⟩ r0 Q ⟨v485, _, rfl, r486, v488, _, rfl, r489, rfl⟩ hm hQ
  unfold a_l_cell_at m_l_cell_at at hm
  dsimp only at hm
  have iv490 : Iv K (fun _ => False) s0 s0 [fz v485 (script484 : (List Int)), fz v488 (k487 : Int)] := (Iv.sf (Iv.sf (Iv.tops (K := K) (P0 := (fun _ => False)) 2 s0) 0 (Ex.refl s0) r486 rfl) 1 (Ex.refl s0) r489 rfl)
  refine do_ifR (EvB.t (eb_lt (ev_var 1 rfl (Iv.fz (x := (k487 : Int)) iv490 1)) (ev_len z_len (Ev.r (ev_var 0 rfl (Iv.fz (x := (script484 : (List Int))) iv490 0)))))) (fun hb491 s492 e493 => ?_) (fun hb501 s502 e503 => ?_)
  · have hm494 := iteE1 hm hb491
    have iv495 := Iv.ex iv490 e493
    obtain ⟨at496, h_at496, hm494⟩ := bndE hm494
    obtain rfl := Option.some.inj hm494
    exact do_ret (ev_ix (Ev.r (ev_var 0 rfl (Iv.fz (x := (script484 : (List Int))) iv495 0))) (ev_var 1 rfl (Iv.fz (x := (k487 : Int)) iv495 1)) h_at496) fun v497 s498 e499 r500 => hQ _ _ (Ex.trans (Iv.exx iv495) e499) r500
  · have hm504 := iteE2 hm hb501
    have iv505 := Iv.ex iv490 e503
    obtain rfl := Option.some.inj hm504
    exact do_ret ev_int fun v506 s507 e508 r509 => hQ _ _ (Ex.trans (Iv.exx iv505) e508) r509
abbrev s_can_sit : Stmt := topS 1
abbrev N_can_sit : List Str := ["player", "seat", "one"]
theorem sc_can_sit : FnScope N_can_sit ["player", "seat"] (defScope s_can_sit) := ⟨rfl, rfl, rfl, by decide +kernel, rfl, by decide +kernel, by decide +kernel⟩
noncomputable def m_can_sit (player510 : (Str × (Tu Str))) (seat513 : (Tu Str)) : Option Bool :=
 (bnd (foldF (ρ := Bool) (fun (b519 : Unit) (x521 : Str) =>
 (if (!decide (x521 ∈ ((player510).2).l)) = true then
 (some (Fl.rt false))
 else
 (some (Fl.nx ())))) () (seat513).l) fun o517 =>
 (Fl.go o517 (fun b569 => (some true)) (fun rr => (some rr))))
noncomputable abbrev a_can_sit : (Str × (Tu Str)) × (Tu Str) × Unit → Option Bool := fun a => m_can_sit a.1 a.2.1
theorem ok_can_sit {P : Program} {w : World} {K : PySem.W.Frag} {mg : Str → Option Value} {base : Heap} {f : Addr} {fd : FuncData} (F : FunP K "can_sit" s_can_sit f fd) (hmg : mg "can_sit" = some (.ref f))  : Cal P w K mg base CX0 1 "can_sit" (sp K a_can_sit) := by
  refine mk_cal (k := 0) F hmg (F.bindsN fun _ _ _ _ _ _ us hl => match us, hl with | [_, _], _ => rfl) sc_can_sit len2 ?_
  rintro cdv A' outer sh0 H0 X0 hr s0 vs ⟨player510, seat513, _⟩ r0 Q ⟨v511, _, rfl, r512, v514, _, rfl, r515, rfl⟩ hm hQ
  unfold a_can_sit m_can_sit at hm
  dsimp only at hm
  have iv516 : Iv K (fun _ => False) s0 s0 [fz v511 (player510 : (Str × (Tu Str))), fz v514 (seat513 : (Tu Str)), top] := (Iv.sf (Iv.sf (Iv.tops (K := K) (P0 := (fun _ => False)) 3 s0) 0 (Ex.refl s0) r512 rfl) 1 (Ex.refl s0) r515 rfl)
  obtain ⟨o517, ho518, hm⟩ := bndE hm
  refine do_forF (ρ := Bool) (υ := Unit) PassesOwn.never rfl (ei_tup (ev_var 1 rfl (Iv.fz (x := (seat513 : (Tu Str))) iv516 1))) (pg_name (i := 2) sc_can_sit.nd rfl (by first | exact Or.inl rfl | exact Or.inr rfl)) tg_n ho518 (fun (b519 : Unit) (σ' : L2.St) (t' : S) => ∃ (y_one : Option V), σ' = [some v511, some v514, y_one] ∧ Iv K (fun _ => False) s0 t' [fz v511 (player510 : (Str × (Tu Str))), fz v514 (seat513 : (Tu Str)), top]) (fun s566 k567 => by have iv568 := Iv.ex iv516 k567; exact ⟨_, rfl, Iv.sel iv568 [some 0, some 1, none] (by decide) rfl⟩) (fun s522 k523 x521 b519 q542 σ532 σ533 t530 t531 hx524 hm525 hq543 fl526 hR527 k528 hB529 => ?_) (fun s560 k561 b569 σ562 t563 ho570 fl564 hR565 => ?_)
  · have hf534 := Fle.trans k523.f fl526
    obtain ⟨y535, rfl, iv536⟩ := hR527
    obtain ⟨v537, r538, rfl⟩ := hB529
    have iv539 := Iv.ex iv536 k528
    have iv540 := Iv.sf iv539 2 (Ex.refl t531) r538 rfl
    have fl541 := Fle.trans (Fle.refl t531.F) (Ex.refl t531).f
    refine do_ifR (EvB.t (eb_notInT (ev_var 2 rfl (Iv.fz (x := (x521 : Str)) iv540 2)) (ev_ixP (ev_var 0 rfl (Iv.fz (x := (player510 : (Str × (Tu Str)))) iv540 0)) ev_int p2_1))) (fun hb544 s545 e546 => ?_) (fun hb554 s555 e556 => ?_)
    · have hm547 := iteE1 hm525 hb544
      have iv548 := Iv.ex iv540 e546
      have fl549 := Fle.trans (Fle.refl t531.F) e546.f
      obtain rfl := Option.some.inj hm547
      obtain rfl := hq543 _ rfl
      obtain rfl := Option.some.inj hm
      exact do_ret ev_bl fun v550 s551 e552 r553 => hQ _ _ (Ex.trans (Iv.exx iv548) e552) r553
    · have hm557 := iteE2 hm525 hb554
      have iv558 := Iv.ex iv540 e556
      have fl559 := Fle.trans (Fle.refl t531.F) e556.f
      obtain rfl := Option.some.inj hm557
      exact do_nil ⟨s555, rfl, _, rfl, fl559, ⟨_, rfl, Iv.sel iv558 [some 0, some 1, none] (by decide) rfl⟩⟩
  · subst ho570
    replace hm := goN hm
    have hf571 := Fle.trans k561.f fl564
    obtain ⟨y572, rfl, iv573⟩ := hR565
    obtain rfl := Option.some.inj hm
    exact do_ret ev_bl fun v574 s575 e576 r577 => hQ _ _ (Ex.trans (Iv.exx iv573) e576) r577
abbrev s_road_from : Stmt := topS 3
def pre_road_from : List V → (List (Str × (Tu Str))) × (List (Tu Str)) × (List (Int × Int)) × Int × Unit → List OA → List OA → Prop := fun vs x L R => ∃ (aplayers : V) (aseats : V) (aowners : Addr) (afirst : V), vs = [aplayers, aseats, (.ref aowners), afirst] ∧ L = [fz aplayers (x.1 : (List (Str × (Tu Str)))), fz aseats (x.2.1 : (List (Tu Str))), fz afirst (x.2.2.2.1 : Int)] ∧ R = [od aowners (x.2.2.1 : (List (Int × Int)))]
def ok_road_from : List V → (List (Str × (Tu Str))) × (List (Tu Str)) × (List (Int × Int)) × Int × Unit → ((T3 (Option Int) (List (Int × Int)) (List Int))) → V → List OA → Prop := fun vs x r v L' => ∃ (aplayers : V) (aseats : V) (aowners : Addr) (afirst : V), vs = [aplayers, aseats, (.ref aowners), afirst] ∧ ∃ (bres : Addr) (bres_0 : V) (bres_1 : Addr) (bres_2 : Addr), v = (.ref bres) ∧ L' = [tc bres [bres_0, (.ref bres_1), (.ref bres_2)], fz bres_0 (r.a : (Option Int)), od bres_1 (r.b : (List (Int × Int))), ol bres_2 (r.c : (List Int))]
abbrev N_road_from : List Str := ["players", "seats", "owners", "first", "ahead", "reached", "at", "k"]
theorem sc_road_from : FnScope N_road_from ["players", "seats", "owners", "first"] (defScope s_road_from) := ⟨rfl, rfl, rfl, by decide +kernel, rfl, by decide +kernel, by decide +kernel⟩
noncomputable def m_road_from (players578 : (List (Str × (Tu Str)))) (seats579 : (List (Tu Str))) (owners580 : (List (Int × Int))) (first581 : Int) : Option ((T3 (Option Int) (List (Int × Int)) (List Int))) :=
 (lt (([first581] : List Int) : (List Int)) fun reached592 =>
 (lt ((0 : Int) : Int) fun at600 =>
 (bnd (whileF (ρ := ((T3 (Option Int) (List (Int × Int)) (List Int)))) (fun (b609 : ((List (Int × Int)) × (List Int) × Int)) => (some (decide (b609.2.2 < ((b609.2.1).length : Int))))) (fun (b609 : ((List (Int × Int)) × (List Int) × Int)) =>
 (chk (RgB ((players578).length : Int)) (bnd (foldF (ρ := ((T3 (Option Int) (List (Int × Int)) (List Int)))) (fun (b637 : ((List (Int × Int)) × (List Int))) (x639 : Int) =>
 (bnd (andO (!(dval b637.1 x639).isSome) (bnd (atI players578 x639) fun at665 => (bnd (atI b637.2 b609.2.2) fun at666 => (bnd (atI seats579 at666) fun at667 => (bnd (m_can_sit at665 at667) fun can_sit668 => (some can_sit668)))))) fun c669 => (bnd (if c669 = true then
 (bnd (atI b637.2 b609.2.2) fun at734 => (chk ((b637.1).length < sizeLine) (lt ((dput b637.1 x639 at734) : (List (Int × Int))) fun kv732 =>
 (if (!(dval owners580 x639).isSome) = true then
 (some (Fl.rt (⟨(some x639), kv732, b637.2⟩ : (T3 (Option Int) (List (Int × Int)) (List Int)))))
 else
 (bnd (dval owners580 x639) fun got769 => (chk ((b637.2).length < sizeLine) (lt ((b637.2 ++ [got769]) : (List Int)) fun reached767 =>
 (some (Fl.nx (kv732, reached767))))))))))
 else
 (some (Fl.nx (b637.1, b637.2))) : Option (Fl ((List (Int × Int)) × (List Int)) ((T3 (Option Int) (List (Int × Int)) (List Int))))) fun b720 =>
 (Fl.go b720 (fun b787 => (some (Fl.nx (b787.1, b787.2)))) (fun rr => (some (Fl.rt rr))))))) (b609.1, b609.2.1) (rng 0 ((players578).length : Int))) fun o635 =>
 (Fl.go o635 (fun b800 => (lt ((b609.2.2 + (1 : Int)) : Int) fun at806 =>
 (some (Fl.nx (b800.1, b800.2, at806))))) (fun rr => (some (Fl.rt rr))))))) fuel (([] : (List (Int × Int))), reached592, at600)) fun o607 =>
 (Fl.go o607 (fun b821 => (some (⟨none, b821.1, b821.2.1⟩ : (T3 (Option Int) (List (Int × Int)) (List Int))))) (fun rr => (some rr))))))
noncomputable abbrev a_road_from : (List (Str × (Tu Str))) × (List (Tu Str)) × (List (Int × Int)) × Int × Unit → Option ((T3 (Option Int) (List (Int × Int)) (List Int))) := fun x => m_road_from x.1 x.2.1 x.2.2.1 x.2.2.2.1
theorem ok_road_from_fn {P : Program} {w : World} {K : PySem.W.Frag} {mg : Str → Option Value} {base : Heap} {f : Addr} {fd : FuncData} (F : FunM K "road_from" "road_from" s_road_from f fd) (C_can_sit : Cal P w K mg base CX0 1 "can_sit" (sp K a_can_sit)) (z_len : mg "len" = none) (z_range : mg "range" = none) : FnOk P w K mg base CX0 2 f fd ["players", "seats", "owners", "first"] (spI K pre_road_from a_road_from ok_road_from noEr) := by
  refine mk_I (k := 1) F sc_road_from (fun vs a L R h => by obtain ⟨_, _, _, _, rfl, _⟩ := h; rfl) ?_
  rintro cdv A' outer sh0 H0 X0 hr s0 P0 L0 R0 vs ⟨players578, seats579, owners580, first581, _⟩ o0 Q ⟨aplayers, aseats, aowners, afirst, rfl, rfl, rfl⟩ iv582 ro hm hQ
  unfold a_road_from m_road_from at hm
  dsimp only at hm
  have iv583 : Iv K P0 s0 s0 [fz aplayers (players578 : (List (Str × (Tu Str)))), fz aseats (seats579 : (List (Tu Str))), top, fz afirst (first581 : Int), top, top, top, top, top, top, top] := Iv.sel iv582 [some 0, some 1, none, some 2, none, none, none, none, none, none, none] (by decide) rfl
  refine do_setG 4 (eg_newD (xs := ([] : (List (Int × Int)))) en_dnew) (fun v585 s586 L587 z590 iv588 => ?_) sc_road_from.nd
  obtain ⟨p584, rfl, rfl⟩ := z590
  have iv589 := Iv.add iv583 iv588
  have iv591 : Iv K P0 s0 s586 [fz aplayers (players578 : (List (Str × (Tu Str)))), fz aseats (seats579 : (List (Tu Str))), top, fz afirst (first581 : Int), od p584 (([] : (List (Int × Int))) : (List (Int × Int))), top, top, top, top, top, top] := Iv.sel iv589 [some 0, some 1, none, some 3, some 11, none, none, none, none, none, none] (by decide) rfl
  refine do_setN 5 (en_list (xs := ([first581] : List Int)) (ee_cons (ev_var 3 rfl (Iv.fz (x := (first581 : Int)) iv591 3)) ee_nil) (by simp [sizeLine])) (fun p596 s594 e595 n597 o598 => ?_) sc_road_from.nd
  obtain ⟨reached592, q593, hm⟩ := ltE hm
  have iv599 := Iv.sl iv591 5 e595 n597 o598 q593
  refine do_set 6 ev_int (fun v604 s602 e603 r605 => ?_) sc_road_from.nd
  obtain ⟨at600, q601, hm⟩ := ltE hm
  have iv606 := Iv.sf iv599 6 e603 r605 q601
  obtain ⟨o607, ho608, hm⟩ := bndE hm
  refine do_whileF (ρ := ((T3 (Option Int) (List (Int × Int)) (List Int)))) (υ := ((List (Int × Int)) × (List Int) × Int)) PassesOwn.never ho608 (fun (b609 : ((List (Int × Int)) × (List Int) × Int)) (σ' : L2.St) (t' : S) => ∃ (v_at : V) (y_k : Option V), σ' = [some aplayers, some aseats, some (.ref aowners), some afirst, some (.ref p584), some (.ref p596), some v_at, y_k] ∧ Iv K P0 s0 t' [fz aplayers (players578 : (List (Str × (Tu Str)))), fz aseats (seats579 : (List (Tu Str))), top, fz afirst (first581 : Int), od p584 (b609.1 : (List (Int × Int))), ol p596 (b609.2.1 : (List Int)), fz v_at (b609.2.2 : Int), top, top, top, top]) ⟨v604, _, rfl, Iv.sel iv606 [some 0, some 1, none, some 3, some 4, some 5, some 6, none, none, none, none] (by decide) rfl⟩ (fun b609 x615 σ612 t611 hm616 fl613 hR614 => ?_) (fun b609 q632 σ622 t620 t621 hc626 hm627 hq633 fl623 hR624 k625 => ?_) (fun b821 σ814 t815 t816 ho822 hc817 fl818 hR819 k820 => ?_)
  · obtain ⟨v617, y618, rfl, iv619⟩ := hR614
    obtain rfl := Option.some.inj hm616
    exact (EvB.t (eb_lt (ev_var 6 rfl (Iv.fz (x := (b609.2.2 : Int)) iv619 6)) (ev_len z_len (er_raw (xs := (b609.2.1 : (List Int))) (raw_var 5 rfl) (Own.r (Iv.ol (xs := (b609.2.1 : (List Int))) iv619 5))))))
  · obtain ⟨v628, y629, rfl, iv630⟩ := hR624
    have iv631 := Iv.ex iv630 k625
    obtain ⟨hc634, hm627⟩ := chkE hm627
    obtain ⟨o635, ho636, hm627⟩ := bndE hm627
    refine do_forF (ρ := ((T3 (Option Int) (List (Int × Int)) (List Int)))) (υ := ((List (Int × Int)) × (List Int))) PassesOwn.never rfl (ei_range1 z_range (ev_len z_len (Ev.r (ev_var 0 rfl (Iv.fz (x := (players578 : (List (Str × (Tu Str))))) iv631 0)))) hc634) (pg_name (i := 7) sc_road_from.nd rfl (by first | exact Or.inl rfl | exact Or.inr rfl)) tg_n ho636 (fun (b637 : ((List (Int × Int)) × (List Int))) (σ' : L2.St) (t' : S) => ∃ (y_k : Option V), σ' = [some aplayers, some aseats, some (.ref aowners), some afirst, some (.ref p584), some (.ref p596), some v628, y_k] ∧ Iv K P0 s0 t' [fz aplayers (players578 : (List (Str × (Tu Str)))), fz aseats (seats579 : (List (Tu Str))), top, fz afirst (first581 : Int), od p584 (b637.1 : (List (Int × Int))), ol p596 (b637.2 : (List Int)), fz v628 (b609.2.2 : Int), top, top, top, top]) (fun s796 k797 => by have iv798 := Iv.ex iv631 k797; have fl799 := Fle.trans (Fle.refl t621.F) k797.f; exact ⟨_, rfl, Iv.sel iv798 [some 0, some 1, none, some 3, some 4, some 5, some 6, none, none, none, none] (by decide) rfl⟩) (fun s640 k641 x639 b637 q660 σ650 σ651 t648 t649 hx642 hm643 hq661 fl644 hR645 k646 hB647 => ?_) (fun s790 k791 b800 σ792 t793 ho801 fl794 hR795 => ?_)
    · have hf652 := Fle.trans k641.f fl644
      obtain ⟨y653, rfl, iv654⟩ := hR645
      obtain ⟨v655, r656, rfl⟩ := hB647
      have iv657 := Iv.ex iv654 k646
      have iv658 := Iv.sf iv657 7 (Ex.refl t649) r656 rfl
      have fl659 := Fle.trans (Fle.refl t649.F) (Ex.refl t649).f
      obtain ⟨c669, h_c669, hm643⟩ := bndE hm643
      obtain ⟨b720, hj721, hm643⟩ := bndE hm643
      refine do_if (EvW.tt (EvC.w (by skip; exact ec_andO (ev_dnotIn hr (ev_var 7 rfl (Iv.fz (x := (x639 : Int)) iv658 7)) (raw_var 4 rfl) (OwnD.r (Iv.od (xs := (b637.1 : (List (Int × Int)))) iv658 4))) (fun hb670 => (fun hz => (by obtain ⟨at665, h_at665, hz⟩ := bndE hz; obtain ⟨at666, h_at666, hz⟩ := bndE hz; obtain ⟨at667, h_at667, hz⟩ := bndE hz; obtain ⟨can_sit668, h_can_sit668, hz⟩ := bndE hz; obtain rfl := Option.some.inj hz; exact (ec_and1 (eb_v (ev_call C_can_sit hr (by decide) (ea_cons (ev_ix (Ev.r (ev_var 0 rfl (Iv.fz (x := (players578 : (List (Str × (Tu Str))))) iv658 0))) (ev_var 7 rfl (Iv.fz (x := (x639 : Int)) iv658 7)) h_at665) (ea_cons (ev_ix (Ev.r (ev_var 1 rfl (Iv.fz (x := (seats579 : (List (Tu Str)))) iv658 1))) (ev_ix (er_raw (xs := (b637.2 : (List Int))) (raw_var 5 rfl) (Own.r (Iv.ol (xs := (b637.2 : (List Int))) iv658 5))) (ev_var 6 rfl (Iv.fz (x := (b609.2.2 : Int)) iv658 6)) h_at666) h_at667) ea_nil)) h_can_sit668))))) ((andE h_c669).1 hb670)) (andE h_c669).2))) (fun (σ' : L2.St) (t' : S) => ∃ b781 : ((List (Int × Int)) × (List Int)), b720 = Fl.nx b781 ∧ Fle t649.F t'.F ∧ σ' = [some aplayers, some aseats, some (.ref aowners), some afirst, some (.ref p584), some (.ref p596), some v628, some v655] ∧ Iv K P0 s0 t' [fz aplayers (players578 : (List (Str × (Tu Str)))), fz aseats (seats579 : (List (Tu Str))), top, fz afirst (first581 : Int), od p584 (b781.1 : (List (Int × Int))), ol p596 (b781.2 : (List Int)), fz v628 (b609.2.2 : Int), fz v655 (x639 : Int), top, top, top]) (fun hb722 s723 e724 => ?_) (fun hb774 s775 e776 => ?_) (fun σ782 s783 hM784 => ?_)
      · have hm725 := iteE1 hj721 hb722
        have iv726 := Iv.ex iv658 e724
        have fl727 := Fle.trans (Fle.refl t649.F) e724.f
        have fl728 := Fle.trans (Fle.refl t649.F) e724.f
        obtain ⟨at734, h_at734, hm725⟩ := bndE hm725
        obtain ⟨hc735, hm725⟩ := chkE hm725
        refine do_dput hr (raw_var 4 rfl) (Iv.od (xs := (b637.1 : (List (Int × Int)))) iv726 4) (ev_ix (er_raw (xs := (b637.2 : (List Int))) (raw_var 5 rfl) (Own.r (Iv.ol (xs := (b637.2 : (List Int))) iv726 5))) (ev_var 6 rfl (Iv.fz (x := (b609.2.2 : Int)) iv726 6)) h_at734) (ev_var 7 rfl (Iv.fz (x := (x639 : Int)) iv726 7)) hc735 (fun s729 m730 o731 => ?_)
        obtain ⟨kv732, q733, hm725⟩ := ltE hm725
        have iv736 := Iv.md iv726 4 m730 o731 q733
        have fl737 := Fle.trans fl727 m730.f
        have fl738 := Fle.trans fl728 m730.f
        refine do_ifR (EvB.t (ev_dnotIn hr (ev_var 7 rfl (Iv.fz (x := (x639 : Int)) iv736 7)) (raw_var 2 rfl) (Iv.rod (xs := (owners580 : (List (Int × Int)))) iv736 ro 0))) (fun hb739 s740 e741 => ?_) (fun hb752 s753 e754 => ?_)
        · have hm742 := iteE1 hm725 hb739
          have iv743 := Iv.ex iv736 e741
          have fl744 := Fle.trans fl737 e741.f
          have fl745 := Fle.trans fl738 e741.f
          obtain rfl := Option.some.inj hm742
          obtain rfl := Option.some.inj hm643
          obtain rfl := hq661 _ rfl
          obtain rfl := Option.some.inj hm627
          obtain rfl := hq633 _ rfl
          obtain rfl := Option.some.inj hm
          refine do_retK (ek_of (eg_tup (egs_cons (eg_ev (ev_some (ev_var 7 rfl (Iv.fz (x := (x639 : Int)) iv743 7)))) (egs_cons (eg_raw (raw_var 4 rfl)) (egs_cons (eg_raw (raw_var 5 rfl)) egs_nil))) (fun vs L' z => by obtain ⟨_, _, _, _, rfl, rfl, rfl, ⟨_, _, _, _, rfl, rfl, ⟨rfl, rfl⟩, ⟨_, _, _, _, rfl, rfl, ⟨rfl, rfl⟩, ⟨rfl, rfl⟩⟩⟩⟩ := z; simp)) iv743) (fun v751 s749 z => ?_)
          obtain ⟨L750, ⟨p747, _, _, rfl, ⟨v746, _, _, _, rfl, rfl, rfl, ⟨_, _, _, _, rfl, rfl, ⟨rfl, rfl⟩, ⟨_, _, _, _, rfl, rfl, ⟨rfl, rfl⟩, ⟨rfl, rfl⟩⟩⟩⟩, rfl⟩, _, iv748⟩ := z
          exact hQ _ _ _ ⟨_, _, _, _, rfl, p747, v746, p584, p596, rfl, rfl⟩ (Iv.sel iv748 [some 11, some 12, some 4, some 5] (by decide) rfl)
        · have hm755 := iteE2 hm725 hb752
          have iv756 := Iv.ex iv736 e754
          have fl757 := Fle.trans fl737 e754.f
          have fl758 := Fle.trans fl738 e754.f
          obtain ⟨got769, h_got769, hm755⟩ := bndE hm755
          obtain ⟨hc770, hm755⟩ := chkE hm755
          refine do_append 5 rfl (Iv.ol (xs := (b637.2 : (List Int))) iv756 5) (ev_dget hr (raw_var 2 rfl) (Iv.rod (xs := (owners580 : (List (Int × Int)))) iv756 ro 0) (ev_var 7 rfl (Iv.fz (x := (x639 : Int)) iv756 7)) h_got769) hc770 (fun s764 m765 o766 => ?_)
          obtain ⟨reached767, q768, hm755⟩ := ltE hm755
          have iv771 := Iv.ml iv756 5 m765 o766 q768
          have fl772 := Fle.trans fl757 m765.f
          have fl773 := Fle.trans fl758 m765.f
          obtain rfl := Option.some.inj hm755
          exact do_nil ⟨s764, rfl, _, rfl, fl773, ⟨rfl, Iv.sel iv771 [some 0, some 1, none, some 3, some 4, some 5, some 6, some 7, none, none, none] (by decide) rfl⟩⟩
      · have hm777 := iteE2 hj721 hb774
        have iv778 := Iv.ex iv658 e776
        have fl779 := Fle.trans (Fle.refl t649.F) e776.f
        have fl780 := Fle.trans (Fle.refl t649.F) e776.f
        obtain rfl := Option.some.inj hm777
        exact do_nil ⟨s775, rfl, _, rfl, fl780, ⟨rfl, Iv.sel iv778 [some 0, some 1, none, some 3, some 4, some 5, some 6, some 7, none, none, none] (by decide) rfl⟩⟩
      · obtain ⟨b787, rfl, hf785, hR786⟩ := hM784
        replace hm643 := goN hm643
        obtain ⟨rfl, iv788⟩ := hR786
        have fl789 := Fle.trans (Fle.refl t649.F) hf785
        obtain rfl := Option.some.inj hm643
        exact do_nil ⟨s783, rfl, _, rfl, fl789, ⟨_, rfl, Iv.sel iv788 [some 0, some 1, none, some 3, some 4, some 5, some 6, none, none, none, none] (by decide) rfl⟩⟩
    · subst ho801
      replace hm627 := goN hm627
      have hf802 := Fle.trans k791.f fl794
      obtain ⟨y803, rfl, iv804⟩ := hR795
      have fl805 := Fle.trans (Fle.refl t621.F) hf802
      refine do_set 6 (ev_add (ev_var 6 rfl (Iv.fz (x := (b609.2.2 : Int)) iv804 6)) ev_int) (fun v810 s808 e809 r811 => ?_) sc_road_from.nd
      obtain ⟨at806, q807, hm627⟩ := ltE hm627
      have iv812 := Iv.sf iv804 6 e809 r811 q807
      have fl813 := Fle.trans fl805 e809.f
      obtain rfl := Option.some.inj hm627
      exact do_nil ⟨s808, rfl, _, rfl, fl813, ⟨v810, _, rfl, Iv.sel iv812 [some 0, some 1, none, some 3, some 4, some 5, some 6, none, none, none, none] (by decide) rfl⟩⟩
  · subst ho822
    replace hm := goN hm
    obtain ⟨v823, y824, rfl, iv825⟩ := hR819
    have iv826 := Iv.ex iv825 k820
    obtain rfl := Option.some.inj hm
    refine do_retK (ek_of (eg_tup (egs_cons (eg_ev (ev_nonO (α := Int))) (egs_cons (eg_raw (raw_var 4 rfl)) (egs_cons (eg_raw (raw_var 5 rfl)) egs_nil))) (fun vs L' z => by obtain ⟨_, _, _, _, rfl, rfl, rfl, ⟨_, _, _, _, rfl, rfl, ⟨rfl, rfl⟩, ⟨_, _, _, _, rfl, rfl, ⟨rfl, rfl⟩, ⟨rfl, rfl⟩⟩⟩⟩ := z; simp)) iv826) (fun v832 s830 z => ?_)
    obtain ⟨L831, ⟨p828, _, _, rfl, ⟨v827, _, _, _, rfl, rfl, rfl, ⟨_, _, _, _, rfl, rfl, ⟨rfl, rfl⟩, ⟨_, _, _, _, rfl, rfl, ⟨rfl, rfl⟩, ⟨rfl, rfl⟩⟩⟩⟩, rfl⟩, _, iv829⟩ := z
    exact hQ _ _ _ ⟨_, _, _, _, rfl, p828, v827, p584, p596, rfl, rfl⟩ (Iv.sel iv829 [some 11, some 12, some 4, some 5] (by decide) rfl)
abbrev s_shift_along : Stmt := topS 4
def pre_shift_along : List V → (List (Int × Int)) × (List (Option Int)) × (List (Int × Int)) × (Option Int) × Unit → List OA → List OA → Prop := fun vs x L R => ∃ (aowners : Addr) (arow : Addr) (aahead : Addr) (aplayer : V), vs = [(.ref aowners), (.ref arow), (.ref aahead), aplayer] ∧ L = [od aowners (x.1 : (List (Int × Int))), ol arow (x.2.1 : (List (Option Int))), fz aplayer (x.2.2.2.1 : (Option Int))] ∧ R = [od aahead (x.2.2.1 : (List (Int × Int)))]
def ok_shift_along : List V → (List (Int × Int)) × (List (Option Int)) × (List (Int × Int)) × (Option Int) × Unit → ((List (Int × Int)) × (List (Option Int))) → V → List OA → Prop := fun vs x r v L' => ∃ (aowners : Addr) (arow : Addr) (aahead : Addr) (aplayer : V), vs = [(.ref aowners), (.ref arow), (.ref aahead), aplayer] ∧ v = .non ∧ L' = [od aowners (r.1 : (List (Int × Int))), ol arow (r.2 : (List (Option Int)))]
abbrev N_shift_along : List Str := ["owners", "row", "ahead", "player", "seat", "former"]
theorem sc_shift_along : FnScope N_shift_along ["owners", "row", "ahead", "player"] (defScope s_shift_along) := ⟨rfl, rfl, rfl, by decide +kernel, rfl, by decide +kernel, by decide +kernel⟩
noncomputable def m_shift_along (owners833 : (List (Int × Int))) (row834 : (List (Option Int))) (ahead835 : (List (Int × Int))) (player836 : (Option Int)) : Option ((List (Int × Int)) × (List (Option Int))) :=
 (bnd (whileO (fun (b841 : ((List (Option Int)) × (List (Int × Int)) × (Option Int))) => (some (b841.2.2).isSome)) (fun (b841 : ((List (Option Int)) × (List (Int × Int)) × (Option Int))) =>
 (bnd b841.2.2 fun got866 => (bnd (dval ahead835 got866) fun got867 => (lt (got867 : Int) fun seat868 =>
 (bnd (atI b841.1 seat868) fun at876 => (lt (at876 : (Option Int)) fun former877 =>
 (bnd (ixN (b841.1).length seat868) fun j890 => (lt (((b841.1).set j890 b841.2.2) : (List (Option Int))) fun ls888 =>
 (bnd b841.2.2 fun got898 => (chk ((b841.2.1).length < sizeLine) (lt ((dput b841.2.1 got898 seat868) : (List (Int × Int))) fun kv896 =>
 (lt (former877 : (Option Int)) fun player902 =>
 (some (ls888, kv896, player902)))))))))))))) fuel (row834, owners833, player836)) fun o839 =>
 (some (o839.2.1, o839.1)))
noncomputable abbrev a_shift_along : (List (Int × Int)) × (List (Option Int)) × (List (Int × Int)) × (Option Int) × Unit → Option ((List (Int × Int)) × (List (Option Int))) := fun x => m_shift_along x.1 x.2.1 x.2.2.1 x.2.2.2.1
theorem ok_shift_along_fn {P : Program} {w : World} {K : PySem.W.Frag} {mg : Str → Option Value} {base : Heap} {f : Addr} {fd : FuncData} (F : FunM K "shift_along" "shift_along" s_shift_along f fd)  : FnOk P w K mg base CX0 1 f fd ["owners", "row", "ahead", "player"] (spI K pre_shift_along a_shift_along ok_shift_along noEr) := by
  refine mk_I (k := 0) F sc_shift_along (fun vs a L R h => by obtain ⟨_, _, _, _, rfl, _⟩ := h; rfl) ?_
  rintro cdv A' outer sh0 H0 X0 hr s0 P0 L0 R0 vs ⟨owners833, row834, ahead835, player836, _⟩ o0 Q ⟨aowners, arow, aahead, aplayer, rfl, rfl, rfl⟩ iv837 ro hm hQ
  unfold a_shift_along m_shift_along at hm
  dsimp only at hm
  have iv838 : Iv K P0 s0 s0 [od aowners (owners833 : (List (Int × Int))), ol arow (row834 : (List (Option Int))), top, fz aplayer (player836 : (Option Int)), top, top] := Iv.sel iv837 [some 0, some 1, none, some 2, none, none] (by decide) rfl
  obtain ⟨o839, ho840, hm⟩ := bndE hm
  refine do_whileO (υ := ((List (Option Int)) × (List (Int × Int)) × (Option Int))) PassesOwn.never ho840 (fun (b841 : ((List (Option Int)) × (List (Int × Int)) × (Option Int))) (σ' : L2.St) (t' : S) => ∃ (v_player : V) (y_seat : Option V) (y_former : Option V), σ' = [some (.ref aowners), some (.ref arow), some (.ref aahead), some v_player, y_seat, y_former] ∧ Iv K P0 s0 t' [od aowners (b841.2.1 : (List (Int × Int))), ol arow (b841.1 : (List (Option Int))), top, fz v_player (b841.2.2 : (Option Int)), top, top]) ⟨aplayer, _, _, rfl, Iv.sel iv838 [some 0, some 1, none, some 3, none, none] (by decide) rfl⟩ (fun b841 x847 σ844 t843 hm848 fl845 hR846 => ?_) (fun b841 b842 σ855 t853 t854 hc859 hm860 fl856 hR857 k858 => ?_) (fun σ910 t911 t912 hc913 fl914 hR915 k916 => ?_)
  · obtain ⟨v849, y850, y851, rfl, iv852⟩ := hR846
    obtain rfl := Option.some.inj hm848
    exact (EvB.t (eb_notN (ev_var 3 rfl (Iv.fz (x := (b841.2.2 : (Option Int))) iv852 3))))
  · obtain ⟨v861, y862, y863, rfl, iv864⟩ := hR857
    have iv865 := Iv.ex iv864 k858
    obtain ⟨got866, h_got866, hm860⟩ := bndE hm860
    obtain ⟨got867, h_got867, hm860⟩ := bndE hm860
    refine do_set 4 (ev_dget hr (raw_var 2 rfl) (Iv.rod (xs := (ahead835 : (List (Int × Int)))) iv865 ro 0) (ev_some' (ev_var 3 rfl (Iv.fz (x := (b841.2.2 : (Option Int))) iv865 3)) h_got866) h_got867) (fun v872 s870 e871 r873 => ?_) sc_shift_along.nd
    obtain ⟨seat868, q869, hm860⟩ := ltE hm860
    have iv874 := Iv.sf iv865 4 e871 r873 q869
    have fl875 := Fle.trans (Fle.refl t854.F) e871.f
    obtain ⟨at876, h_at876, hm860⟩ := bndE hm860
    refine do_set 5 (ev_ix (er_raw (xs := (b841.1 : (List (Option Int)))) (raw_var 1 rfl) (Own.r (Iv.ol (xs := (b841.1 : (List (Option Int)))) iv874 1))) (ev_var 4 rfl (Iv.fz (x := (seat868 : Int)) iv874 4)) h_at876) (fun v881 s879 e880 r882 => ?_) sc_shift_along.nd
    obtain ⟨former877, q878, hm860⟩ := ltE hm860
    have iv883 := Iv.sf iv874 5 e880 r882 q878
    have fl884 := Fle.trans fl875 e880.f
    obtain ⟨j890, h_j890, hm860⟩ := bndE hm860
    refine do_setItemP (raw_var 1 rfl) (Iv.ol (xs := (b841.1 : (List (Option Int)))) iv883 1) (ev_var 3 rfl (Iv.fz (x := (b841.2.2 : (Option Int))) iv883 3)) (ev_var 4 rfl (Iv.fz (x := (seat868 : Int)) iv883 4)) h_j890 (fun s885 m886 o887 => ?_)
    obtain ⟨ls888, q889, hm860⟩ := ltE hm860
    have iv891 := Iv.ml iv883 1 m886 o887 q889
    have fl892 := Fle.trans fl884 m886.f
    obtain ⟨got898, h_got898, hm860⟩ := bndE hm860
    obtain ⟨hc899, hm860⟩ := chkE hm860
    refine do_dput hr (raw_var 0 rfl) (Iv.od (xs := (b841.2.1 : (List (Int × Int)))) iv891 0) (ev_var 4 rfl (Iv.fz (x := (seat868 : Int)) iv891 4)) (ev_some' (ev_var 3 rfl (Iv.fz (x := (b841.2.2 : (Option Int))) iv891 3)) h_got898) hc899 (fun s893 m894 o895 => ?_)
    obtain ⟨kv896, q897, hm860⟩ := ltE hm860
    have iv900 := Iv.md iv891 0 m894 o895 q897
    have fl901 := Fle.trans fl892 m894.f
    refine do_set 3 (ev_var 5 rfl (Iv.fz (x := (former877 : (Option Int))) iv900 5)) (fun v906 s904 e905 r907 => ?_) sc_shift_along.nd
    obtain ⟨player902, q903, hm860⟩ := ltE hm860
    have iv908 := Iv.sf iv900 3 e905 r907 q903
    have fl909 := Fle.trans fl901 e905.f
    obtain rfl := Option.some.inj hm860
    exact do_nil ⟨s904, rfl, fl909, ⟨v906, _, _, rfl, Iv.sel iv908 [some 0, some 1, none, some 3, none, none] (by decide) rfl⟩⟩
  · obtain ⟨v917, y918, y919, rfl, iv920⟩ := hR915
    have iv921 := Iv.ex iv920 k916
    obtain rfl := Option.some.inj hm
    exact do_nil (hQ _ _ _ ⟨_, _, _, _, rfl, rfl, rfl⟩ (Iv.sel iv921 [some 0, some 1] (by decide) rfl))
abbrev s_seat_all : Stmt := topS 5
def pre_seat_all : List V → (List (Str × (Tu Str))) × (List (Tu Str)) × Unit → List OA → List OA → Prop := fun vs x L R => ∃ (aplayers : V) (aseats : V), vs = [aplayers, aseats] ∧ L = [fz aplayers (x.1 : (List (Str × (Tu Str)))), fz aseats (x.2.1 : (List (Tu Str)))] ∧ R = []
def ok_seat_all : List V → (List (Str × (Tu Str))) × (List (Tu Str)) × Unit → ((Str × (List (Option Int)))) → V → List OA → Prop := fun vs x r v L' => ∃ (aplayers : V) (aseats : V), vs = [aplayers, aseats] ∧ ∃ (bres : Addr) (bres_0 : V) (bres_1 : Addr), v = (.ref bres) ∧ L' = [tc bres [bres_0, (.ref bres_1)], fz bres_0 (r.1 : Str), ol bres_1 (r.2 : (List (Option Int)))]
abbrev N_seat_all : List Str := ["players", "seats", "owners", "row", "first", "player", "ahead", "reached"]
theorem sc_seat_all : FnScope N_seat_all ["players", "seats"] (defScope s_seat_all) := ⟨rfl, rfl, rfl, by decide +kernel, rfl, by decide +kernel, by decide +kernel⟩
noncomputable def m_seat_all (players922 : (List (Str × (Tu Str)))) (seats923 : (List (Tu Str))) : Option ((Str × (List (Option Int)))) :=
 (chk (RepOk ((seats923).length : Int) (([none] : List (Option Int))).length) (lt ((repl ((seats923).length : Int) ([none] : List (Option Int))) : (List (Option Int))) fun row935 =>
 (chk (RgB ((seats923).length : Int)) (bnd (foldF (ρ := ((Str × (List (Option Int))))) (fun (b946 : ((List (Int × Int)) × (List (Option Int)))) (x948 : Int) =>
 (bnd (a_road_from (players922, seats923, b946.1, x948, ())) fun road_from980 => (if (road_from980.a).isNone = true then
 (some (Fl.rt (("short" : Str), (List.map some (sortI road_from980.c)))))
 else
 (bnd (a_shift_along (b946.1, b946.2, road_from980.b, road_from980.a, ())) fun shift_along1014 => (some (Fl.nx (shift_along1014.1, shift_along1014.2))))))) (([] : (List (Int × Int))), row935) (rng 0 ((seats923).length : Int))) fun o944 =>
 (Fl.go o944 (fun b1031 => (some (("seated" : Str), b1031.2))) (fun rr => (some rr)))))))
noncomputable abbrev a_seat_all : (List (Str × (Tu Str))) × (List (Tu Str)) × Unit → Option ((Str × (List (Option Int)))) := fun x => m_seat_all x.1 x.2.1
theorem ok_seat_all_fn {P : Program} {w : World} {K : PySem.W.Frag} {mg : Str → Option Value} {base : Heap} {f : Addr} {fd : FuncData} (F : FunM K "seat_all" "seat_all" s_seat_all f fd) (C_road_from : Cal P w K mg base CX0 2 "road_from" (spI K pre_road_from a_road_from ok_road_from noEr)) (C_shift_along : Cal P w K mg base CX0 1 "shift_along" (spI K pre_shift_along a_shift_along ok_shift_along noEr)) (z_len : mg "len" = none) (z_range : mg "range" = none) (z_sorted : mg "sorted" = none) : FnOk P w K mg base CX0 3 f fd ["players", "seats"] (spI K pre_seat_all a_seat_all ok_seat_all noEr) := by
  refine mk_I (k := 2) F sc_seat_all (fun vs a L R h => by obtain ⟨_, _, rfl, _⟩ := h; rfl) ?_
  rintro cdv A' outer sh0 H0 X0 hr s0 P0 L0 R0 vs ⟨players922, seats923, _⟩ o0 Q ⟨aplayers, aseats, rfl, rfl, rfl⟩ iv924 ro hm hQ
  unfold a_seat_all m_seat_all at hm
  dsimp only at hm
  have iv925 : Iv K P0 s0 s0 [fz aplayers (players922 : (List (Str × (Tu Str)))), fz aseats (seats923 : (List (Tu Str))), top, top, top, top, top, top, top, top] := Iv.sel iv924 [some 0, some 1, none, none, none, none, none, none, none, none] (by decide) rfl
  refine do_setG 2 (eg_newD (xs := ([] : (List (Int × Int)))) en_dnew) (fun v927 s928 L929 z932 iv930 => ?_) sc_seat_all.nd
  obtain ⟨p926, rfl, rfl⟩ := z932
  have iv931 := Iv.add iv925 iv930
  have iv933 : Iv K P0 s0 s928 [fz aplayers (players922 : (List (Str × (Tu Str)))), fz aseats (seats923 : (List (Tu Str))), od p926 (([] : (List (Int × Int))) : (List (Int × Int))), top, top, top, top, top, top, top] := Iv.sel iv931 [some 0, some 1, some 10, none, none, none, none, none, none, none] (by decide) rfl
  obtain ⟨hc934, hm⟩ := chkE hm
  refine do_setN 3 (en_rep (en_list (xs := ([none] : List (Option Int))) (ee_cons (ev_nonO (α := Int)) ee_nil) (by simp [sizeLine])) (fun _ hk => Ev.mono (ev_len z_len (Ev.r (ev_var 1 rfl (Iv.fz (x := (seats923 : (List (Tu Str)))) iv933 1)))) hk) hc934) (fun p939 s937 e938 n940 o941 => ?_) sc_seat_all.nd
  obtain ⟨row935, q936, hm⟩ := ltE hm
  have iv942 := Iv.sl iv933 3 e938 n940 o941 q936
  obtain ⟨hc943, hm⟩ := chkE hm
  obtain ⟨o944, ho945, hm⟩ := bndE hm
  refine do_forF (ρ := ((Str × (List (Option Int))))) (υ := ((List (Int × Int)) × (List (Option Int)))) PassesOwn.never rfl (ei_range1 z_range (ev_len z_len (Ev.r (ev_var 1 rfl (Iv.fz (x := (seats923 : (List (Tu Str)))) iv942 1)))) hc943) (pg_name (i := 4) sc_seat_all.nd rfl (by first | exact Or.inl rfl | exact Or.inr rfl)) tg_n ho945 (fun (b946 : ((List (Int × Int)) × (List (Option Int)))) (σ' : L2.St) (t' : S) => ∃ (y_player : Option V) (y_ahead : Option V) (y_reached : Option V) (y_first : Option V), σ' = [some aplayers, some aseats, some (.ref p926), some (.ref p939), y_first, y_player, y_ahead, y_reached] ∧ Iv K P0 s0 t' [fz aplayers (players922 : (List (Str × (Tu Str)))), fz aseats (seats923 : (List (Tu Str))), od p926 (b946.1 : (List (Int × Int))), ol p939 (b946.2 : (List (Option Int))), top, top, top, top, top, top]) (fun s1028 k1029 => by have iv1030 := Iv.ex iv942 k1029; exact ⟨_, _, _, _, rfl, Iv.sel iv1030 [some 0, some 1, some 2, some 3, none, none, none, none, none, none] (by decide) rfl⟩) (fun s949 k950 x948 b946 q972 σ959 σ960 t957 t958 hx951 hm952 hq973 fl953 hR954 k955 hB956 => ?_) (fun s1022 k1023 b1031 σ1024 t1025 ho1032 fl1026 hR1027 => ?_)
  · have hf961 := Fle.trans k950.f fl953
    obtain ⟨y962, y963, y964, y965, rfl, iv966⟩ := hR954
    obtain ⟨v967, r968, rfl⟩ := hB956
    have iv969 := Iv.ex iv966 k955
    have iv970 := Iv.sf iv969 4 (Ex.refl t958) r968 rfl
    have fl971 := Fle.trans (Fle.refl t958.F) (Ex.refl t958).f
    obtain ⟨road_from980, h_road_from980, hm952⟩ := bndE hm952
    refine do_unpK3 5 6 7 (ek_of (eg_call (ok' := (fun v L' => ∃ (p986 : Addr) (v987 : V) (p988 : Addr) (p989 : Addr), v = (.ref p986) ∧ L' = [tc p986 [v987, (.ref p988), (.ref p989)], fz v987 (road_from980.a : (Option Int)), od p988 (road_from980.b : (List (Int × Int))), ol p989 (road_from980.c : (List Int))])) (ca_fn (E := fun _ _ _ _ => False) C_road_from pass00 hr (by decide) (ea_cons (ev_var 0 rfl (Iv.fz (x := (players922 : (List (Str × (Tu Str))))) iv970 0)) (ea_cons (ev_var 1 rfl (Iv.fz (x := (seats923 : (List (Tu Str)))) iv970 1)) (ea_cons (raw_var 2 rfl) (ea_cons (ev_var 4 rfl (Iv.fz (x := (x948 : Int)) iv970 4)) ea_nil))))) iv970 ro0 [.inl 2] (fun vs s2 k2 r2 => by obtain ⟨v974, _, rfl, r975, v976, _, rfl, r977, _, _, rfl, rfl, v978, _, rfl, r979, rfl⟩ := r2; exact ⟨[fz v974 (players922 : (List (Str × (Tu Str)))), fz v976 (seats923 : (List (Tu Str))), fz v978 (x948 : Int)], ⟨v974, v976, (p926), v978, rfl, rfl, rfl⟩, (all_cons r975 (all_cons r977 (all_cons r979 all_nil))), (fun v L' z => by obtain ⟨_, _, _, _, e, z⟩ := z; cases e; exact z), (fun e L' z => z.elim)⟩) h_road_from980) iv970) (fun v984 s982 z => ?_) (pg_tup rfl (pgs_cons (pg_name (i := 5) sc_seat_all.nd rfl (by first | exact Or.inl rfl | exact Or.inr rfl)) (pgs_cons (pg_name (i := 6) sc_seat_all.nd rfl (by first | exact Or.inl rfl | exact Or.inr rfl)) (pgs_cons (pg_name (i := 7) sc_seat_all.nd rfl (by first | exact Or.inl rfl | exact Or.inr rfl)) pgs_nil))))
    obtain ⟨L983, ⟨p986, v987, p988, p989, rfl, rfl⟩, hf990, iv981⟩ := z
    refine ⟨_, _, _, _, rfl, Iv.tc iv981 10, ?_⟩
    have iv991 : Iv K P0 s0 s982 [fz aplayers (players922 : (List (Str × (Tu Str)))), fz aseats (seats923 : (List (Tu Str))), od p926 (b946.1 : (List (Int × Int))), ol p939 (b946.2 : (List (Option Int))), fz v967 (x948 : Int), fz v987 (road_from980.a : (Option Int)), od p988 (road_from980.b : (List (Int × Int))), ol p989 (road_from980.c : (List Int)), top, top] := Iv.sel iv981 [some 0, some 1, some 2, some 3, some 4, some 11, some 12, some 13, none, none] (by decide) rfl
    have fl992 := Fle.trans (Fle.refl t958.F) hf990
    refine do_ifR (EvB.t (eb_isN (ev_var 5 rfl (Iv.fz (x := (road_from980.a : (Option Int))) iv991 5)))) (fun hb993 s994 e995 => ?_) (fun hb1006 s1007 e1008 => ?_)
    · have hm996 := iteE1 hm952 hb993
      have iv997 := Iv.ex iv991 e995
      have fl998 := Fle.trans fl992 e995.f
      obtain rfl := Option.some.inj hm996
      obtain rfl := hq973 _ rfl
      obtain rfl := Option.some.inj hm
      refine do_retK (ek_of (eg_tup (egs_cons (eg_ev ev_str) (egs_cons (eg_new (en_some (en_sorted z_sorted (er_raw (xs := (road_from980.c : (List Int))) (raw_var 7 rfl) (Own.r (Iv.ol (xs := (road_from980.c : (List Int))) iv997 7)))))) egs_nil)) (fun vs L' z => by obtain ⟨_, _, _, _, rfl, rfl, rfl, ⟨_, _, _, _, rfl, rfl, ⟨_, rfl, rfl⟩, ⟨rfl, rfl⟩⟩⟩ := z; simp)) iv997) (fun v1005 s1003 z => ?_)
      obtain ⟨L1004, ⟨p1001, _, _, rfl, ⟨v999, _, _, _, rfl, rfl, rfl, ⟨_, _, _, _, rfl, rfl, ⟨p1000, rfl, rfl⟩, ⟨rfl, rfl⟩⟩⟩, rfl⟩, _, iv1002⟩ := z
      exact hQ _ _ _ ⟨_, _, rfl, p1001, v999, p1000, rfl, rfl⟩ (Iv.sel iv1002 [some 10, some 11, some 12] (by decide) rfl)
    · have hm1009 := iteE2 hm952 hb1006
      have iv1010 := Iv.ex iv991 e1008
      have fl1011 := Fle.trans fl992 e1008.f
      obtain ⟨shift_along1014, h_shift_along1014, hm1009⟩ := bndE hm1009
      refine do_exprK (ek_call (ok' := (fun v L' => v = .non ∧ L' = [od p926 (shift_along1014.1 : (List (Int × Int))), ol p939 (shift_along1014.2 : (List (Option Int)))])) (ca_fn (E := fun _ _ _ _ => False) C_shift_along pass00 hr (by decide) (ea_cons (raw_var 2 rfl) (ea_cons (raw_var 3 rfl) (ea_cons (raw_var 6 rfl) (ea_cons (ev_var 5 rfl (Iv.fz (x := (road_from980.a : (Option Int))) iv1010 5)) ea_nil))))) iv1010 ro0 [2, 3] (by decide) (by simp) [.inl 6] (by simp) (fun vs s2 k2 r2 => by obtain ⟨_, _, rfl, rfl, _, _, rfl, rfl, _, _, rfl, rfl, v1012, _, rfl, r1013, rfl⟩ := r2; exact ⟨[fz v1012 (road_from980.a : (Option Int))], ⟨(p926), (p939), (p988), v1012, rfl, rfl, rfl⟩, (all_cons r1013 all_nil), (fun v L' z => by obtain ⟨_, _, _, _, e, z⟩ := z; cases e; exact z), (fun e L' z => z.elim)⟩) h_shift_along1014) (fun v1018 s1016 z => ?_)
      obtain ⟨L1017, ⟨rfl, rfl⟩, hf1019, iv1015⟩ := z
      have iv1020 : Iv K P0 s0 s1016 [fz aplayers (players922 : (List (Str × (Tu Str)))), fz aseats (seats923 : (List (Tu Str))), od p926 (shift_along1014.1 : (List (Int × Int))), ol p939 (shift_along1014.2 : (List (Option Int))), fz v967 (x948 : Int), fz v987 (road_from980.a : (Option Int)), od p988 (road_from980.b : (List (Int × Int))), ol p989 (road_from980.c : (List Int)), top, top] := Iv.sel iv1015 [some 0, some 1, some 10, some 11, some 4, some 5, some 6, some 7, none, none] (by decide) rfl
      have fl1021 := Fle.trans fl1011 hf1019
      obtain rfl := Option.some.inj hm1009
      exact do_nil ⟨s1016, rfl, _, rfl, fl1021, ⟨_, _, _, _, rfl, Iv.sel iv1020 [some 0, some 1, some 2, some 3, none, none, none, none, none, none] (by decide) rfl⟩⟩
  · subst ho1032
    replace hm := goN hm
    have hf1033 := Fle.trans k1023.f fl1026
    obtain ⟨y1034, y1035, y1036, y1037, rfl, iv1038⟩ := hR1027
    obtain rfl := Option.some.inj hm
    refine do_retK (ek_of (eg_tup (egs_cons (eg_ev ev_str) (egs_cons (eg_raw (raw_var 3 rfl)) egs_nil)) (fun vs L' z => by obtain ⟨_, _, _, _, rfl, rfl, rfl, ⟨_, _, _, _, rfl, rfl, ⟨rfl, rfl⟩, ⟨rfl, rfl⟩⟩⟩ := z; simp)) iv1038) (fun v1044 s1042 z => ?_)
    obtain ⟨L1043, ⟨p1040, _, _, rfl, ⟨v1039, _, _, _, rfl, rfl, rfl, ⟨_, _, _, _, rfl, rfl, ⟨rfl, rfl⟩, ⟨rfl, rfl⟩⟩⟩, rfl⟩, _, iv1041⟩ := z
    exact hQ _ _ _ ⟨_, _, rfl, p1040, v1039, p939, rfl, rfl⟩ (Iv.sel iv1041 [some 10, some 11, some 3] (by decide) rfl)
abbrev s_l_can : Stmt := topS 16
abbrev N_l_can : List Str := ["_law_player_here", "_law_seat_here", "_law_one"]
theorem sc_l_can : FnScope N_l_can ["_law_player_here", "_law_seat_here"] (defScope s_l_can) := ⟨rfl, rfl, rfl, by decide +kernel, rfl, by decide +kernel, by decide +kernel⟩
noncomputable def m_l_can (player_here1045 : (Str × (Tu Str))) (seat_here1048 : (Tu Str)) : Option Bool :=
 (chk (((List.map (fun (x1064 : Str) => x1064) (List.filter (fun (x1064 : Str) => (!decide (x1064 ∈ ((player_here1045).2).l))) (seat_here1048).l))).length ≤ sizeLine) (chk (shp (List.map (fun (x1064 : Str) => x1064) (List.filter (fun (x1064 : Str) => (!decide (x1064 ∈ ((player_here1045).2).l))) (seat_here1048).l))) (chk (shp ([] : List Str)) (some (decide ((List.map (fun (x1064 : Str) => x1064) (List.filter (fun (x1064 : Str) => (!decide (x1064 ∈ ((player_here1045).2).l))) (seat_here1048).l)) = ([] : List Str)))))))
noncomputable abbrev a_l_can : (Str × (Tu Str)) × (Tu Str) × Unit → Option Bool := fun a => m_l_can a.1 a.2.1
theorem ok_l_can {P : Program} {w : World} {K : PySem.W.Frag} {mg : Str → Option Value} {base : Heap} {f : Addr} {fd : FuncData} (F : FunP K "_law_can" s_l_can f fd) (hmg : mg "_law_can" = some (.ref f))  : Cal P w K mg base CX0 1 "_law_can" (sp K a_l_can) := by
  refine mk_cal (k := 0) F hmg (F.bindsN fun _ _ _ _ _ _ us hl => match us, hl with | [_, _], _ => rfl) sc_l_can len2 ?_
  rintro cdv A' outer sh0 H0 X0 hr s0 vs ⟨player_here1045, seat_here1048, _⟩ r0 Q ⟨v1046, _, rfl, r1047, v1049, _, rfl, r1050, rfl⟩ hm hQ
  unfold a_l_can m_l_can at hm
  dsimp only at hm
  have iv1051 : Iv K (fun _ => False) s0 s0 [fz v1046 (player_here1045 : (Str × (Tu Str))), fz v1049 (seat_here1048 : (Tu Str)), top] := (Iv.sf (Iv.sf (Iv.tops (K := K) (P0 := (fun _ => False)) 3 s0) 0 (Ex.refl s0) r1047 rfl) 1 (Ex.refl s0) r1050 rfl)
  obtain ⟨hc1074, hm⟩ := chkE hm
  obtain ⟨hc1076, hm⟩ := chkE hm
  obtain ⟨hc1077, hm⟩ := chkE hm
  obtain rfl := Option.some.inj hm
  exact do_ret (EvB.v (eb_eqL hr (EvN.r (EvL.n (en_comp1 (own := [("_law_one", 2)]) (j := 2) (t := fun (x1064 : Str) => (some (!decide (x1064 ∈ ((player_here1045).2).l)))) (f := fun (x1064 : Str) => (some x1064)) rfl sc_l_can.nd (ei_tup (ev_var 1 rfl (Iv.fz (x := (seat_here1048 : (Tu Str))) iv1051 1))) (blkOk_by (own := [("_law_one", 2)]) (N := N_l_can) (sc := defScope s_l_can) (by decide +kernel)) rfl (by decide) (fun _ _ _ _ _ => pg_name (i := 2) sc_l_can.nd rfl (by first | exact Or.inl rfl | exact Or.inr rfl)) (compO_pure (fun (x1064 : Str) => (!decide (x1064 ∈ ((player_here1045).2).l))) (fun (x1064 : Str) => x1064) (seat_here1048).l) hc1074 (fun x1064 y1065 v1072 s1066 hx1068 e1067 r1073 hf1069 _ _ _ _ _ => by have z1070 := Enc.mono e1067.f (Iv.fz (v := v1046) (x := (player_here1045 : (Str × (Tu Str)))) iv1051 0); obtain rfl := Option.some.inj hf1069; exact (EvB.t (eb_notInT (ev_var 2 rfl r1073) (ev_ixP (ev_var 0 rfl z1070) ev_int p2_1)))) (fun x1064 y1065 v1072 s1066 hx1068 e1067 r1073 ht1075 hf1069 _ _ _ _ _ => by obtain rfl := Option.some.inj hf1069; exact (ev_var 2 rfl r1073))))) (EvN.r (en_list (xs := ([] : List Str)) ee_nil (by simp [sizeLine]))) hc1076 hc1077)) fun v1078 s1079 e1080 r1081 => hQ _ _ (Ex.trans (Iv.exx iv1051) e1080) r1081
abbrev s_l_whole : Stmt := topS 15
abbrev N_l_whole : List Str := ["_law_found"]
theorem sc_l_whole : FnScope N_l_whole ["_law_found"] (defScope s_l_whole) := ⟨rfl, rfl, rfl, by decide +kernel, rfl, by decide +kernel, by decide +kernel⟩
noncomputable def m_l_whole (found1082 : (Option Int)) : Option Bool :=
 (some ((found1082).isSome && (!false)))
noncomputable abbrev a_l_whole : (Option Int) × Unit → Option Bool := fun a => m_l_whole a.1
theorem ok_l_whole {P : Program} {w : World} {K : PySem.W.Frag} {mg : Str → Option Value} {base : Heap} {f : Addr} {fd : FuncData} (F : FunP K "_law_whole" s_l_whole f fd) (hmg : mg "_law_whole" = some (.ref f)) (z_isinstance : mg "isinstance" = none) (z_int : mg "int" = none) (z_bool : mg "bool" = none) : Cal P w K mg base CX0 1 "_law_whole" (sp K a_l_whole) := by
  refine mk_cal (k := 0) F hmg (F.bindsN fun _ _ _ _ _ _ us hl => match us, hl with | [_], _ => rfl) sc_l_whole len1 ?_
  rintro cdv A' outer sh0 H0 X0 hr s0 vs ⟨found1082, _⟩ r0 Q ⟨v1083, _, rfl, r1084, rfl⟩ hm hQ
  unfold a_l_whole m_l_whole at hm
  dsimp only at hm
  have iv1085 : Iv K (fun _ => False) s0 s0 [fz v1083 (found1082 : (Option Int))] := (Iv.sf (Iv.tops (K := K) (P0 := (fun _ => False)) 1 s0) 0 (Ex.refl s0) r1084 rfl)
  obtain rfl := Option.some.inj hm
  exact do_ret (EvC.v (ec_and (eb_v (ev_isi (T := "int") z_isinstance z_int (by decide +kernel) (ev_var 0 rfl (Iv.fz (x := (found1082 : (Option Int))) iv1085 0)) (isi_optT _ (fun _ => by show kitB "int" "int" = _; decide +kernel) (by decide +kernel)))) fun _ => (ec_and1 (eb_not (eb_v (ev_isi (T := "bool") z_isinstance z_bool (by decide +kernel) (ev_var 0 rfl (Iv.fz (x := (found1082 : (Option Int))) iv1085 0)) (isi_optF _ (fun _ => by show kitB "int" "bool" = _; decide +kernel) (by decide +kernel)))))))) fun v1086 s1087 e1088 r1089 => hQ _ _ (Ex.trans (Iv.exx iv1085) e1088) r1089
abbrev s_l_right : Stmt := topS 17
abbrev N_l_right : List Str := ["_law_players_here", "_law_seats_here", "_law_row", "_law_k"]
theorem sc_l_right : FnScope N_l_right ["_law_players_here", "_law_seats_here", "_law_row"] (defScope s_l_right) := ⟨rfl, rfl, rfl, by decide +kernel, rfl, by decide +kernel, by decide +kernel⟩
noncomputable def m_l_right (players_here1090 : (List (Str × (Tu Str)))) (seats_here1093 : (List (Tu Str))) (row1096 : (List (Option Int))) : Option Bool :=
 (if ((!true) || (!decide (((row1096).length : Int) = ((seats_here1093).length : Int)))) = true then
 (some false)
 else
 (chk (RgB ((row1096).length : Int)) (bnd (foldF (ρ := Bool) (fun (b1117 : Unit) (x1119 : Int) =>
 (bnd (atI row1096 x1119) fun at1143 => (bnd (m_l_whole at1143) fun whole1144 => (bnd (orO (!whole1144) (bnd (atI row1096 x1119) fun at1145 => (bnd at1145 fun got1146 => (orO (!(decide ((0 : Int) ≤ got1146) && decide (got1146 < ((players_here1090).length : Int)))) (bnd (atI row1096 x1119) fun at1147 => (some (memF at1147 (cut row1096 none (some x1119))))))))) fun c1148 => (if c1148 = true then
 (some (Fl.rt false))
 else
 (bnd (atI row1096 x1119) fun at1171 => (bnd at1171 fun got1172 => (bnd (atI players_here1090 got1172) fun at1173 => (bnd (atI seats_here1093 x1119) fun at1174 => (bnd (m_l_can at1173 at1174) fun can1175 => (if (!can1175) = true then
 (some (Fl.rt false))
 else
 (some (Fl.nx ()))))))))))))) () (rng 0 ((row1096).length : Int))) fun o1115 =>
 (Fl.go o1115 (fun b1201 => (some true)) (fun rr => (some rr))))))
noncomputable abbrev a_l_right : (List (Str × (Tu Str))) × (List (Tu Str)) × (List (Option Int)) × Unit → Option Bool := fun a => m_l_right a.1 a.2.1 a.2.2.1
theorem ok_l_right {P : Program} {w : World} {K : PySem.W.Frag} {mg : Str → Option Value} {base : Heap} {f : Addr} {fd : FuncData} (F : FunP K "_law_right" s_l_right f fd) (hmg : mg "_law_right" = some (.ref f)) (C_l_whole : Cal P w K mg base CX0 1 "_law_whole" (sp K a_l_whole)) (C_l_can : Cal P w K mg base CX0 1 "_law_can" (sp K a_l_can)) (z_isinstance : mg "isinstance" = none) (z_list : mg "list" = none) (z_len : mg "len" = none) (z_range : mg "range" = none) : Cal P w K mg base CX0 2 "_law_right" (sp K a_l_right) := by
  refine mk_cal (k := 1) F hmg (F.bindsN fun _ _ _ _ _ _ us hl => match us, hl with | [_, _, _], _ => rfl) sc_l_right len3 ?_
  rintro cdv A' outer sh0 H0 X0 hr s0 vs ⟨players_here1090, seats_here1093, row1096, _⟩ r0 Q ⟨v1091, _, rfl, r1092, v1094, _, rfl, r1095, v1097, _, rfl, r1098, rfl⟩ hm hQ
  unfold a_l_right m_l_right at hm
  dsimp only at hm
  have iv1099 : Iv K (fun _ => False) s0 s0 [fz v1091 (players_here1090 : (List (Str × (Tu Str)))), fz v1094 (seats_here1093 : (List (Tu Str))), fz v1097 (row1096 : (List (Option Int))), top] := (Iv.sf (Iv.sf (Iv.sf (Iv.tops (K := K) (P0 := (fun _ => False)) 4 s0) 0 (Ex.refl s0) r1092 rfl) 1 (Ex.refl s0) r1095 rfl) 2 (Ex.refl s0) r1098 rfl)
  refine do_ifR (EvW.tt (EvC.w (ec_or (eb_not (eb_v (ev_isi (T := "list") (r := true) z_isinstance z_list (by decide +kernel) (ev_var 2 rfl (Iv.fz (x := (row1096 : (List (Option Int)))) iv1099 2)) (by show kitB "list" "list" = _; decide +kernel)))) fun _ => (ec_or1 (eb_ne (ev_len z_len (Ev.r (ev_var 2 rfl (Iv.fz (x := (row1096 : (List (Option Int)))) iv1099 2)))) (ev_len z_len (Ev.r (ev_var 1 rfl (Iv.fz (x := (seats_here1093 : (List (Tu Str)))) iv1099 1))))))))) (fun hb1100 s1101 e1102 => ?_) (fun hb1109 s1110 e1111 => ?_)
  · have hm1103 := iteE1 hm hb1100
    have iv1104 := Iv.ex iv1099 e1102
    obtain rfl := Option.some.inj hm1103
    exact do_ret ev_bl fun v1105 s1106 e1107 r1108 => hQ _ _ (Ex.trans (Iv.exx iv1104) e1107) r1108
  · have hm1112 := iteE2 hm hb1109
    have iv1113 := Iv.ex iv1099 e1111
    obtain ⟨hc1114, hm1112⟩ := chkE hm1112
    obtain ⟨o1115, ho1116, hm1112⟩ := bndE hm1112
    refine do_forF (ρ := Bool) (υ := Unit) PassesOwn.never rfl (ei_range1 z_range (ev_len z_len (Ev.r (ev_var 2 rfl (Iv.fz (x := (row1096 : (List (Option Int)))) iv1113 2)))) hc1114) (pg_name (i := 3) sc_l_right.nd rfl (by first | exact Or.inl rfl | exact Or.inr rfl)) tg_n ho1116 (fun (b1117 : Unit) (σ' : L2.St) (t' : S) => ∃ (y_k : Option V), σ' = [some v1091, some v1094, some v1097, y_k] ∧ Iv K (fun _ => False) s0 t' [fz v1091 (players_here1090 : (List (Str × (Tu Str)))), fz v1094 (seats_here1093 : (List (Tu Str))), fz v1097 (row1096 : (List (Option Int))), top]) (fun s1198 k1199 => by have iv1200 := Iv.ex iv1113 k1199; exact ⟨_, rfl, Iv.sel iv1200 [some 0, some 1, some 2, none] (by decide) rfl⟩) (fun s1120 k1121 x1119 b1117 q1140 σ1130 σ1131 t1128 t1129 hx1122 hm1123 hq1141 fl1124 hR1125 k1126 hB1127 => ?_) (fun s1192 k1193 b1201 σ1194 t1195 ho1202 fl1196 hR1197 => ?_)
    · have hf1132 := Fle.trans k1121.f fl1124
      obtain ⟨y1133, rfl, iv1134⟩ := hR1125
      obtain ⟨v1135, r1136, rfl⟩ := hB1127
      have iv1137 := Iv.ex iv1134 k1126
      have iv1138 := Iv.sf iv1137 3 (Ex.refl t1129) r1136 rfl
      have fl1139 := Fle.trans (Fle.refl t1129.F) (Ex.refl t1129).f
      obtain ⟨at1143, h_at1143, hm1123⟩ := bndE hm1123
      obtain ⟨whole1144, h_whole1144, hm1123⟩ := bndE hm1123
      obtain ⟨c1148, h_c1148, hm1123⟩ := bndE hm1123
      refine do_ifR (EvW.tt (EvC.w (by skip; exact ec_orO (eb_not (eb_v (ev_call C_l_whole hr (by decide) (ea_cons (ev_ix (Ev.r (ev_var 2 rfl (Iv.fz (x := (row1096 : (List (Option Int)))) iv1138 2))) (ev_var 3 rfl (Iv.fz (x := (x1119 : Int)) iv1138 3)) h_at1143) ea_nil) h_whole1144))) (fun hb1149 => (fun hz => (by obtain ⟨at1145, h_at1145, hz⟩ := bndE hz; obtain ⟨got1146, h_got1146, hz⟩ := bndE hz; exact ec_orO (eb_not (eb_ch_le_lt ev_int (ev_some' (ev_ix (Ev.r (ev_var 2 rfl (Iv.fz (x := (row1096 : (List (Option Int)))) iv1138 2))) (ev_var 3 rfl (Iv.fz (x := (x1119 : Int)) iv1138 3)) h_at1145) h_got1146) (ev_len z_len (Ev.r (ev_var 0 rfl (Iv.fz (x := (players_here1090 : (List (Str × (Tu Str))))) iv1138 0)))))) (fun hb1150 => (fun hz => (by obtain ⟨at1147, h_at1147, hz⟩ := bndE hz; obtain rfl := Option.some.inj hz; exact (ec_or1 (eb_inF (ε := (Option Int)) (ev_ix (Ev.r (ev_var 2 rfl (Iv.fz (x := (row1096 : (List (Option Int)))) iv1138 2))) (ev_var 3 rfl (Iv.fz (x := (x1119 : Int)) iv1138 3)) h_at1147) (EvN.r (en_slice (Ev.r (ev_var 2 rfl (Iv.fz (x := (row1096 : (List (Option Int)))) iv1138 2))) eo_none (eo_some (ev_var 3 rfl (Iv.fz (x := (x1119 : Int)) iv1138 3))))))))) ((orE hz).1 hb1150)) (orE hz).2)) ((orE h_c1148).1 hb1149)) (orE h_c1148).2))) (fun hb1151 s1152 e1153 => ?_) (fun hb1161 s1162 e1163 => ?_)
      · have hm1154 := iteE1 hm1123 hb1151
        have iv1155 := Iv.ex iv1138 e1153
        have fl1156 := Fle.trans (Fle.refl t1129.F) e1153.f
        obtain rfl := Option.some.inj hm1154
        obtain rfl := hq1141 _ rfl
        obtain rfl := Option.some.inj hm1112
        exact do_ret ev_bl fun v1157 s1158 e1159 r1160 => hQ _ _ (Ex.trans (Iv.exx iv1155) e1159) r1160
      · have hm1164 := iteE2 hm1123 hb1161
        have iv1165 := Iv.ex iv1138 e1163
        have fl1166 := Fle.trans (Fle.refl t1129.F) e1163.f
        obtain ⟨at1171, h_at1171, hm1164⟩ := bndE hm1164
        obtain ⟨got1172, h_got1172, hm1164⟩ := bndE hm1164
        obtain ⟨at1173, h_at1173, hm1164⟩ := bndE hm1164
        obtain ⟨at1174, h_at1174, hm1164⟩ := bndE hm1164
        obtain ⟨can1175, h_can1175, hm1164⟩ := bndE hm1164
        refine do_ifR (EvB.t (eb_not (eb_v (ev_call C_l_can hr (by decide) (ea_cons (ev_ix (Ev.r (ev_var 0 rfl (Iv.fz (x := (players_here1090 : (List (Str × (Tu Str))))) iv1165 0))) (ev_some' (ev_ix (Ev.r (ev_var 2 rfl (Iv.fz (x := (row1096 : (List (Option Int)))) iv1165 2))) (ev_var 3 rfl (Iv.fz (x := (x1119 : Int)) iv1165 3)) h_at1171) h_got1172) h_at1173) (ea_cons (ev_ix (Ev.r (ev_var 1 rfl (Iv.fz (x := (seats_here1093 : (List (Tu Str)))) iv1165 1))) (ev_var 3 rfl (Iv.fz (x := (x1119 : Int)) iv1165 3)) h_at1174) ea_nil)) h_can1175)))) (fun hb1176 s1177 e1178 => ?_) (fun hb1186 s1187 e1188 => ?_)
        · have hm1179 := iteE1 hm1164 hb1176
          have iv1180 := Iv.ex iv1165 e1178
          have fl1181 := Fle.trans fl1166 e1178.f
          obtain rfl := Option.some.inj hm1179
          obtain rfl := hq1141 _ rfl
          obtain rfl := Option.some.inj hm1112
          exact do_ret ev_bl fun v1182 s1183 e1184 r1185 => hQ _ _ (Ex.trans (Iv.exx iv1180) e1184) r1185
        · have hm1189 := iteE2 hm1164 hb1186
          have iv1190 := Iv.ex iv1165 e1188
          have fl1191 := Fle.trans fl1166 e1188.f
          obtain rfl := Option.some.inj hm1189
          exact do_nil ⟨s1187, rfl, _, rfl, fl1191, ⟨_, rfl, Iv.sel iv1190 [some 0, some 1, some 2, none] (by decide) rfl⟩⟩
    · subst ho1202
      replace hm1112 := goN hm1112
      have hf1203 := Fle.trans k1193.f fl1196
      obtain ⟨y1204, rfl, iv1205⟩ := hR1197
      obtain rfl := Option.some.inj hm1112
      exact do_ret ev_bl fun v1206 s1207 e1208 r1209 => hQ _ _ (Ex.trans (Iv.exx iv1205) e1208) r1209
abbrev s_l_few : Stmt := topS 18
abbrev N_l_few : List Str := ["_law_players_here", "_law_seats_here", "_law_places", "_law_k", "_law_some", "_law_one"]
theorem sc_l_few : FnScope N_l_few ["_law_players_here", "_law_seats_here", "_law_places"] (defScope s_l_few) := ⟨rfl, rfl, rfl, by decide +kernel, rfl, by decide +kernel, by decide +kernel⟩
noncomputable def m_l_few (players_here1210 : (List (Str × (Tu Str)))) (seats_here1213 : (List (Tu Str))) (places1216 : (List (Option Int))) : Option Bool :=
 (if (!true) = true then
 (some false)
 else
 (chk (RgB ((places1216).length : Int)) (bnd (foldF (ρ := Bool) (fun (b1237 : Unit) (x1239 : Int) =>
 (bnd (atI places1216 x1239) fun at1263 => (bnd (m_l_whole at1263) fun whole1264 => (bnd (orO (!whole1264) (bnd (atI places1216 x1239) fun at1265 => (bnd at1265 fun got1266 => (some (!(decide ((0 : Int) ≤ got1266) && decide (got1266 < ((seats_here1213).length : Int)))))))) fun c1267 => (if c1267 = true then
 (some (Fl.rt false))
 else
 (bnd (andO (decide ((0 : Int) < x1239)) (bnd (atI places1216 (x1239 - (1 : Int))) fun at1285 => (bnd at1285 fun got1286 => (bnd (atI places1216 x1239) fun at1287 => (bnd at1287 fun got1288 => (some (decide (got1288 ≤ got1286)))))))) fun c1289 => (if c1289 = true then
 (some (Fl.rt false))
 else
 (some (Fl.nx ()))))))))) () (rng 0 ((places1216).length : Int))) fun o1235 =>
 (Fl.go o1235 (fun b1316 => (bnd (compO (fun (x1321 : (Str × (Tu Str))) => (bnd (compO (fun (x1352 : (Option Int)) => (bnd x1352 fun got1366 => (bnd (atI seats_here1213 got1366) fun at1367 => (bnd (m_l_can x1321 at1367) fun can1368 => (some can1368))))) (fun (x1352 : (Option Int)) => (some x1352)) places1216) fun ys1369 => (chk ((ys1369).length ≤ sizeLine) (some (!decide (ys1369 = ([] : List (Option Int)))))))) (fun (x1321 : (Str × (Tu Str))) => (some x1321)) players_here1210) fun ys1372 => (chk ((ys1372).length ≤ sizeLine) (lt (ys1372 : (List (Str × (Tu Str)))) fun some1375 =>
 (some (decide (((some1375).length : Int) < ((places1216).length : Int)))))))) (fun rr => (some rr))))))
noncomputable abbrev a_l_few : (List (Str × (Tu Str))) × (List (Tu Str)) × (List (Option Int)) × Unit → Option Bool := fun a => m_l_few a.1 a.2.1 a.2.2.1
theorem ok_l_few {P : Program} {w : World} {K : PySem.W.Frag} {mg : Str → Option Value} {base : Heap} {f : Addr} {fd : FuncData} (F : FunP K "_law_few" s_l_few f fd) (hmg : mg "_law_few" = some (.ref f)) (C_l_whole : Cal P w K mg base CX0 1 "_law_whole" (sp K a_l_whole)) (C_l_can : Cal P w K mg base CX0 1 "_law_can" (sp K a_l_can)) (z_isinstance : mg "isinstance" = none) (z_list : mg "list" = none) (z_range : mg "range" = none) (z_len : mg "len" = none) : Cal P w K mg base CX0 2 "_law_few" (sp K a_l_few) := by
  refine mk_cal (k := 1) F hmg (F.bindsN fun _ _ _ _ _ _ us hl => match us, hl with | [_, _, _], _ => rfl) sc_l_few len3 ?_
  rintro cdv A' outer sh0 H0 X0 hr s0 vs ⟨players_here1210, seats_here1213, places1216, _⟩ r0 Q ⟨v1211, _, rfl, r1212, v1214, _, rfl, r1215, v1217, _, rfl, r1218, rfl⟩ hm hQ
  unfold a_l_few m_l_few at hm
  dsimp only at hm
  have iv1219 : Iv K (fun _ => False) s0 s0 [fz v1211 (players_here1210 : (List (Str × (Tu Str)))), fz v1214 (seats_here1213 : (List (Tu Str))), fz v1217 (places1216 : (List (Option Int))), top, top, top] := (Iv.sf (Iv.sf (Iv.sf (Iv.tops (K := K) (P0 := (fun _ => False)) 6 s0) 0 (Ex.refl s0) r1212 rfl) 1 (Ex.refl s0) r1215 rfl) 2 (Ex.refl s0) r1218 rfl)
  refine do_ifR (EvB.t (eb_not (eb_v (ev_isi (T := "list") (r := true) z_isinstance z_list (by decide +kernel) (ev_var 2 rfl (Iv.fz (x := (places1216 : (List (Option Int)))) iv1219 2)) (by show kitB "list" "list" = _; decide +kernel))))) (fun hb1220 s1221 e1222 => ?_) (fun hb1229 s1230 e1231 => ?_)
  · have hm1223 := iteE1 hm hb1220
    have iv1224 := Iv.ex iv1219 e1222
    obtain rfl := Option.some.inj hm1223
    exact do_ret ev_bl fun v1225 s1226 e1227 r1228 => hQ _ _ (Ex.trans (Iv.exx iv1224) e1227) r1228
  · have hm1232 := iteE2 hm hb1229
    have iv1233 := Iv.ex iv1219 e1231
    obtain ⟨hc1234, hm1232⟩ := chkE hm1232
    obtain ⟨o1235, ho1236, hm1232⟩ := bndE hm1232
    refine do_forF (ρ := Bool) (υ := Unit) PassesOwn.never rfl (ei_range1 z_range (ev_len z_len (Ev.r (ev_var 2 rfl (Iv.fz (x := (places1216 : (List (Option Int)))) iv1233 2)))) hc1234) (pg_name (i := 3) sc_l_few.nd rfl (by first | exact Or.inl rfl | exact Or.inr rfl)) tg_n ho1236 (fun (b1237 : Unit) (σ' : L2.St) (t' : S) => ∃ (y_k : Option V), σ' = [some v1211, some v1214, some v1217, y_k, none, none] ∧ Iv K (fun _ => False) s0 t' [fz v1211 (players_here1210 : (List (Str × (Tu Str)))), fz v1214 (seats_here1213 : (List (Tu Str))), fz v1217 (places1216 : (List (Option Int))), top, top, top]) (fun s1313 k1314 => by have iv1315 := Iv.ex iv1233 k1314; exact ⟨_, rfl, Iv.sel iv1315 [some 0, some 1, some 2, none, none, none] (by decide) rfl⟩) (fun s1240 k1241 x1239 b1237 q1260 σ1250 σ1251 t1248 t1249 hx1242 hm1243 hq1261 fl1244 hR1245 k1246 hB1247 => ?_) (fun s1307 k1308 b1316 σ1309 t1310 ho1317 fl1311 hR1312 => ?_)
    · have hf1252 := Fle.trans k1241.f fl1244
      obtain ⟨y1253, rfl, iv1254⟩ := hR1245
      obtain ⟨v1255, r1256, rfl⟩ := hB1247
      have iv1257 := Iv.ex iv1254 k1246
      have iv1258 := Iv.sf iv1257 3 (Ex.refl t1249) r1256 rfl
      have fl1259 := Fle.trans (Fle.refl t1249.F) (Ex.refl t1249).f
      obtain ⟨at1263, h_at1263, hm1243⟩ := bndE hm1243
      obtain ⟨whole1264, h_whole1264, hm1243⟩ := bndE hm1243
      obtain ⟨c1267, h_c1267, hm1243⟩ := bndE hm1243
      refine do_ifR (EvW.tt (EvC.w (by skip; exact ec_orO (eb_not (eb_v (ev_call C_l_whole hr (by decide) (ea_cons (ev_ix (Ev.r (ev_var 2 rfl (Iv.fz (x := (places1216 : (List (Option Int)))) iv1258 2))) (ev_var 3 rfl (Iv.fz (x := (x1239 : Int)) iv1258 3)) h_at1263) ea_nil) h_whole1264))) (fun hb1268 => (fun hz => (by obtain ⟨at1265, h_at1265, hz⟩ := bndE hz; obtain ⟨got1266, h_got1266, hz⟩ := bndE hz; obtain rfl := Option.some.inj hz; exact (ec_or1 (eb_not (eb_ch_le_lt ev_int (ev_some' (ev_ix (Ev.r (ev_var 2 rfl (Iv.fz (x := (places1216 : (List (Option Int)))) iv1258 2))) (ev_var 3 rfl (Iv.fz (x := (x1239 : Int)) iv1258 3)) h_at1265) h_got1266) (ev_len z_len (Ev.r (ev_var 1 rfl (Iv.fz (x := (seats_here1213 : (List (Tu Str)))) iv1258 1))))))))) ((orE h_c1267).1 hb1268)) (orE h_c1267).2))) (fun hb1269 s1270 e1271 => ?_) (fun hb1279 s1280 e1281 => ?_)
      · have hm1272 := iteE1 hm1243 hb1269
        have iv1273 := Iv.ex iv1258 e1271
        have fl1274 := Fle.trans (Fle.refl t1249.F) e1271.f
        obtain rfl := Option.some.inj hm1272
        obtain rfl := hq1261 _ rfl
        obtain rfl := Option.some.inj hm1232
        exact do_ret ev_bl fun v1275 s1276 e1277 r1278 => hQ _ _ (Ex.trans (Iv.exx iv1273) e1277) r1278
      · have hm1282 := iteE2 hm1243 hb1279
        have iv1283 := Iv.ex iv1258 e1281
        have fl1284 := Fle.trans (Fle.refl t1249.F) e1281.f
        obtain ⟨c1289, h_c1289, hm1282⟩ := bndE hm1282
        refine do_ifR (EvW.tt (EvC.w (by skip; exact ec_andO (eb_gt (ev_var 3 rfl (Iv.fz (x := (x1239 : Int)) iv1283 3)) ev_int) (fun hb1290 => (fun hz => (by obtain ⟨at1285, h_at1285, hz⟩ := bndE hz; obtain ⟨got1286, h_got1286, hz⟩ := bndE hz; obtain ⟨at1287, h_at1287, hz⟩ := bndE hz; obtain ⟨got1288, h_got1288, hz⟩ := bndE hz; obtain rfl := Option.some.inj hz; exact (ec_and1 (eb_ge (ev_some' (ev_ix (Ev.r (ev_var 2 rfl (Iv.fz (x := (places1216 : (List (Option Int)))) iv1283 2))) (ev_sub (ev_var 3 rfl (Iv.fz (x := (x1239 : Int)) iv1283 3)) ev_int) h_at1285) h_got1286) (ev_some' (ev_ix (Ev.r (ev_var 2 rfl (Iv.fz (x := (places1216 : (List (Option Int)))) iv1283 2))) (ev_var 3 rfl (Iv.fz (x := (x1239 : Int)) iv1283 3)) h_at1287) h_got1288))))) ((andE h_c1289).1 hb1290)) (andE h_c1289).2))) (fun hb1291 s1292 e1293 => ?_) (fun hb1301 s1302 e1303 => ?_)
        · have hm1294 := iteE1 hm1282 hb1291
          have iv1295 := Iv.ex iv1283 e1293
          have fl1296 := Fle.trans fl1284 e1293.f
          obtain rfl := Option.some.inj hm1294
          obtain rfl := hq1261 _ rfl
          obtain rfl := Option.some.inj hm1232
          exact do_ret ev_bl fun v1297 s1298 e1299 r1300 => hQ _ _ (Ex.trans (Iv.exx iv1295) e1299) r1300
        · have hm1304 := iteE2 hm1282 hb1301
          have iv1305 := Iv.ex iv1283 e1303
          have fl1306 := Fle.trans fl1284 e1303.f
          obtain rfl := Option.some.inj hm1304
          exact do_nil ⟨s1302, rfl, _, rfl, fl1306, ⟨_, rfl, Iv.sel iv1305 [some 0, some 1, some 2, none, none, none] (by decide) rfl⟩⟩
    · subst ho1317
      replace hm1232 := goN hm1232
      have hf1318 := Fle.trans k1308.f fl1311
      obtain ⟨y1319, rfl, iv1320⟩ := hR1312
      obtain ⟨ys1372, h_ys1372, hm1232⟩ := bndE hm1232
      obtain ⟨hc1373, hm1232⟩ := chkE hm1232
      refine do_setL 4 (en_comp1 (own := [("_law_one", 5)]) (j := 5) (t := fun (x1321 : (Str × (Tu Str))) => (bnd (compO (fun (x1352 : (Option Int)) => (bnd x1352 fun got1366 => (bnd (atI seats_here1213 got1366) fun at1367 => (bnd (m_l_can x1321 at1367) fun can1368 => (some can1368))))) (fun (x1352 : (Option Int)) => (some x1352)) places1216) fun ys1369 => (chk ((ys1369).length ≤ sizeLine) (some (!decide (ys1369 = ([] : List (Option Int)))))))) (f := fun (x1321 : (Str × (Tu Str))) => (some x1321)) rfl sc_l_few.nd (ei_list (ev_var 0 rfl (Iv.fz (x := (players_here1210 : (List (Str × (Tu Str))))) iv1320 0))) (blkOk_by (own := [("_law_one", 5)]) (N := N_l_few) (sc := defScope s_l_few) (by decide +kernel)) rfl (by decide) (fun _ _ _ _ _ => pg_name (i := 5) sc_l_few.nd rfl (by first | exact Or.inl rfl | exact Or.inr rfl)) h_ys1372 hc1373 (fun x1321 y1322 v1330 s1323 hx1325 e1324 r1331 hf1326 _ _ _ _ _ => by have z1328 := Enc.mono e1324.f (Iv.fz (v := v1214) (x := (seats_here1213 : (List (Tu Str)))) iv1320 1); have z1329 := Enc.mono e1324.f (Iv.fz (v := v1217) (x := (places1216 : (List (Option Int)))) iv1320 2); obtain ⟨ys1369, h_ys1369, hf1326⟩ := bndE hf1326; obtain ⟨hc1370, hf1326⟩ := chkE hf1326; obtain rfl := Option.some.inj hf1326; exact (EvB.t (eb_neL hr (EvN.r (EvL.n (en_comp1 (own := [("_law_k", 3)]) (j := 3) (t := fun (x1352 : (Option Int)) => (bnd x1352 fun got1366 => (bnd (atI seats_here1213 got1366) fun at1367 => (bnd (m_l_can x1321 at1367) fun can1368 => (some can1368))))) (f := fun (x1352 : (Option Int)) => (some x1352)) rfl sc_l_few.nd (ei_list (ev_var 2 rfl z1329)) (blkOk_n (own := [("_law_k", 3)]) (N := N_l_few) (sc0 := defScope s_l_few) rfl (by decide +kernel)) rfl (by decide) (fun _ _ _ _ _ => pg_name (i := 3) sc_l_few.nd rfl (by first | exact Or.inl rfl | exact Or.inr rfl)) h_ys1369 hc1370 (fun x1352 y1353 v1362 s1354 hx1356 e1355 r1363 hf1357 _ _ _ _ _ => by have z1359 := Enc.mono e1355.f z1328; have z1361 := Enc.mono e1355.f r1331; obtain ⟨got1366, h_got1366, hf1357⟩ := bndE hf1357; obtain ⟨at1367, h_at1367, hf1357⟩ := bndE hf1357; obtain ⟨can1368, h_can1368, hf1357⟩ := bndE hf1357; obtain rfl := Option.some.inj hf1357; exact (et_v (ev_call C_l_can hr (by decide) (ea_cons (ev_var 5 rfl z1361) (ea_cons (ev_ix (Ev.r (ev_var 1 rfl z1359)) (ev_some' (ev_var 3 rfl r1363) h_got1366) h_at1367) ea_nil)) h_can1368))) (fun x1352 y1353 v1362 s1354 hx1356 e1355 r1363 ht1371 hf1357 _ _ _ _ _ => by obtain rfl := Option.some.inj hf1357; exact (ev_var 3 rfl r1363))))) (EvN.r (en_list (xs := ([] : List (Option Int))) ee_nil (by simp [sizeLine]))) (shp_of _) (shp_of _)))) (fun x1321 y1322 v1330 s1323 hx1325 e1324 r1331 ht1374 hf1326 _ _ _ _ _ => by obtain rfl := Option.some.inj hf1326; exact (ev_var 5 rfl r1331))) (fun p1381 s1377 e1378 n1382 o1383 => ?_) rfl rfl
      obtain ⟨s1384, hs1385, e1386, r1380⟩ := frz_ex e1378 n1382 o1383
      rw [← hs1385]
      obtain ⟨some1375, q1376, hm1232⟩ := ltE hm1232
      have iv1387 := Iv.sf iv1320 4 e1386 r1380 q1376
      obtain rfl := Option.some.inj hm1232
      exact do_ret (EvB.v (eb_lt (ev_len z_len (Ev.r (ev_var 4 rfl (Iv.fz (x := (some1375 : (List (Str × (Tu Str))))) iv1387 4)))) (ev_len z_len (Ev.r (ev_var 2 rfl (Iv.fz (x := (places1216 : (List (Option Int)))) iv1387 2)))))) fun v1388 s1389 e1390 r1391 => hQ _ _ (Ex.trans (Iv.exx iv1387) e1390) r1391
abbrev s_l_told_right : Stmt := topS 19
abbrev N_l_told_right : List Str := ["_law_players_here", "_law_seats_here", "_law_kept", "_law_found", "_law_well"]
theorem sc_l_told_right : FnScope N_l_told_right ["_law_players_here", "_law_seats_here"] (defScope s_l_told_right) := ⟨rfl, rfl, rfl, by decide +kernel, rfl, by decide +kernel, by decide +kernel⟩
noncomputable def m_l_told_right (players_here1392 : (List (Str × (Tu Str)))) (seats_here1395 : (List (Tu Str))) : Option Bool :=
 (lt ((⟨players_here1392, seats_here1395⟩ : HL2 (List (Str × (Tu Str))) (List (Tu Str))) : (HL2 (List (Str × (Tu Str))) (List (Tu Str)))) fun kept1399 =>
 (bnd (a_seat_all (players_here1392, seats_here1395, ())) fun seat_all1410 => (chk (shp (⟨players_here1392, seats_here1395⟩ : HL2 (List (Str × (Tu Str))) (List (Tu Str)))) (chk (shp kept1399) (if ((!decide ((⟨players_here1392, seats_here1395⟩ : HL2 (List (Str × (Tu Str))) (List (Tu Str))) = kept1399)) || ((!true) || (!decide ((2 : Int) = (2 : Int))))) = true then
 (some false)
 else
 (bnd (if (decide (seat_all1410.1 = ("seated" : Str))) = true then
 (bnd (m_l_right players_here1392 seats_here1395 seat_all1410.2) fun right1473 => (lt (right1473 : Bool) fun well1474 =>
 (some well1474)))
 else
 (bnd (andO (decide (seat_all1410.1 = ("short" : Str))) (bnd (m_l_few players_here1392 seats_here1395 seat_all1410.2) fun few1488 => (some few1488))) fun c1489 => (lt (c1489 : Bool) fun well1491 =>
 (some well1491))) : Option (Bool)) fun b1465 =>
 (bnd (if b1465 = true then
 (chk ((seat_all1410.2).length < sizeLine) (lt ((seat_all1410.2 ++ [(some (0 : Int))]) : (List (Option Int))) fun ls1534 =>
 (some (seat_all1410.1, ls1534))))
 else
 (some (seat_all1410.1, seat_all1410.2)) : Option ((Str × (List (Option Int))))) fun b1523 =>
 (some b1465))))))))
noncomputable abbrev a_l_told_right : (List (Str × (Tu Str))) × (List (Tu Str)) × Unit → Option Bool := fun a => m_l_told_right a.1 a.2.1
theorem ok_l_told_right {P : Program} {w : World} {K : PySem.W.Frag} {mg : Str → Option Value} {base : Heap} {f : Addr} {fd : FuncData} (F : FunP K "_law_told_right" s_l_told_right f fd) (hmg : mg "_law_told_right" = some (.ref f)) (C_seat_all : Cal P w K mg base CX0 3 "seat_all" (spI K pre_seat_all a_seat_all ok_seat_all noEr)) (C_l_right : Cal P w K mg base CX0 2 "_law_right" (sp K a_l_right)) (C_l_few : Cal P w K mg base CX0 2 "_law_few" (sp K a_l_few)) (z_list : mg "list" = none) (z_isinstance : mg "isinstance" = none) (z_tuple : mg "tuple" = none) (z_len : mg "len" = none) : Cal P w K mg base CX0 4 "_law_told_right" (sp K a_l_told_right) := by
  refine mk_cal (k := 3) F hmg (F.bindsN fun _ _ _ _ _ _ us hl => match us, hl with | [_, _], _ => rfl) sc_l_told_right len2 ?_
  rintro cdv A' outer sh0 H0 X0 hr s0 vs ⟨players_here1392, seats_here1395, _⟩ r0 Q ⟨v1393, _, rfl, r1394, v1396, _, rfl, r1397, rfl⟩ hm hQ
  unfold a_l_told_right m_l_told_right at hm
  dsimp only at hm
  have iv1398 : Iv K (fun _ => False) s0 s0 [fz v1393 (players_here1392 : (List (Str × (Tu Str)))), fz v1396 (seats_here1395 : (List (Tu Str))), top, top, top, top, top] := (Iv.sf (Iv.sf (Iv.tops (K := K) (P0 := (fun _ => False)) 7 s0) 0 (Ex.refl s0) r1394 rfl) 1 (Ex.refl s0) r1397 rfl)
  refine do_set 2 (ev_hl2 (ea_cons (EvN.ev (en_copy z_list (Ev.r (ev_var 0 rfl (Iv.fz (x := (players_here1392 : (List (Str × (Tu Str))))) iv1398 0))))) (ea_cons (EvN.ev (en_copy z_list (Ev.r (ev_var 1 rfl (Iv.fz (x := (seats_here1395 : (List (Tu Str)))) iv1398 1))))) ea_nil))) (fun v1403 s1401 e1402 r1404 => ?_) sc_l_told_right.nd
  obtain ⟨kept1399, q1400, hm⟩ := ltE hm
  have iv1405 := Iv.sf iv1398 2 e1402 r1404 q1400
  obtain ⟨seat_all1410, h_seat_all1410, hm⟩ := bndE hm
  refine do_setG 3 (eg_call (ok' := (fun v L' => ∃ (bres : Addr) (bres_0 : V) (bres_1 : Addr), v = (.ref bres) ∧ L' = [tc bres [bres_0, (.ref bres_1)], fz bres_0 (seat_all1410.1 : Str), ol bres_1 (seat_all1410.2 : (List (Option Int)))])) (ca_fn (E := fun _ _ _ _ => False) C_seat_all pass00 hr (by decide) (ea_cons (ev_var 0 rfl (Iv.fz (x := (players_here1392 : (List (Str × (Tu Str))))) iv1405 0)) (ea_cons (ev_var 1 rfl (Iv.fz (x := (seats_here1395 : (List (Tu Str)))) iv1405 1)) ea_nil))) iv1405 ro0 [] (fun vs s2 k2 r2 => by obtain ⟨v1406, _, rfl, r1407, v1408, _, rfl, r1409, rfl⟩ := r2; exact ⟨[fz v1406 (players_here1392 : (List (Str × (Tu Str)))), fz v1408 (seats_here1395 : (List (Tu Str)))], ⟨v1406, v1408, rfl, rfl, rfl⟩, (all_cons r1407 (all_cons r1409 all_nil)), (fun v L' z => by obtain ⟨_, _, e, z⟩ := z; cases e; exact z), (fun e L' z => z.elim)⟩) h_seat_all1410) (fun v1414 s1415 L1416 z1419 iv1417 => ?_) sc_l_told_right.nd
  obtain ⟨p1411, v1412, p1413, rfl, rfl⟩ := z1419
  have iv1418 := Iv.add iv1405 iv1417
  have iv1420 : Iv K (fun _ => False) s0 s1415 [fz v1393 (players_here1392 : (List (Str × (Tu Str)))), fz v1396 (seats_here1395 : (List (Tu Str))), fz v1403 (kept1399 : (HL2 (List (Str × (Tu Str))) (List (Tu Str)))), tc p1411 [v1412, (.ref p1413)], top, fz v1412 (seat_all1410.1 : Str), ol p1413 (seat_all1410.2 : (List (Option Int)))] := Iv.sel iv1418 [some 0, some 1, some 2, some 7, none, some 8, some 9] (by decide) rfl
  obtain ⟨hc1421, hm⟩ := chkE hm
  obtain ⟨hc1422, hm⟩ := chkE hm
  refine do_ifR (EvW.tt (EvC.w (ec_or (eb_neD hr (ev_hl2 (ea_cons (ev_var 0 rfl (Iv.fz (x := (players_here1392 : (List (Str × (Tu Str))))) iv1420 0)) (ea_cons (ev_var 1 rfl (Iv.fz (x := (seats_here1395 : (List (Tu Str)))) iv1420 1)) ea_nil))) (ev_var 2 rfl (Iv.fz (x := (kept1399 : (HL2 (List (Str × (Tu Str))) (List (Tu Str))))) iv1420 2)) hc1421 hc1422) fun _ => (ec_or (eb_not (eb_v (ev_isiTc (T := "tuple") (r := true) z_isinstance z_tuple (by decide +kernel) (raw_var 3 rfl) (Iv.tc iv1420 3) (by decide +kernel)))) fun _ => (ec_or1 (eb_ne (ev_lenTc (z := (2 : Int)) z_len (raw_var 3 rfl) (Iv.tc iv1420 3) (by rfl)) ev_int)))))) (fun hb1423 s1424 e1425 => ?_) (fun hb1432 s1433 e1434 => ?_)
  · have hm1426 := iteE1 hm hb1423
    have iv1427 := Iv.ex iv1420 e1425
    obtain rfl := Option.some.inj hm1426
    exact do_ret ev_bl fun v1428 s1429 e1430 r1431 => hQ _ _ (Ex.trans (Iv.exx iv1427) e1430) r1431
  · have hm1435 := iteE2 hm hb1432
    have iv1436 := Iv.ex iv1420 e1434
    obtain ⟨b1465, hj1466, hm1435⟩ := bndE hm1435
    refine do_if (EvB.t (eb_eq (ev_raw (x := (seat_all1410.1 : Str)) (raw_tup (raw_var 3 rfl) (Iv.tc iv1436 3) (ev_int (i := 0)) rfl) (Iv.fz (x := (seat_all1410.1 : Str)) iv1436 5)) ev_str)) (fun (σ' : L2.St) (t' : S) => Fle s1433.F t'.F ∧ ∃ (v_well : V), σ' = [some v1393, some v1396, some v1403, some (.ref p1411), some v_well] ∧ Iv K (fun _ => False) s0 t' [fz v1393 (players_here1392 : (List (Str × (Tu Str)))), fz v1396 (seats_here1395 : (List (Tu Str))), fz v1403 (kept1399 : (HL2 (List (Str × (Tu Str))) (List (Tu Str)))), tc p1411 [v1412, (.ref p1413)], fz v_well (b1465 : Bool), fz v1412 (seat_all1410.1 : Str), ol p1413 (seat_all1410.2 : (List (Option Int)))]) (fun hb1467 s1468 e1469 => ?_) (fun hb1482 s1483 e1484 => ?_) (fun σ1499 s1500 hM1501 => ?_)
    · have hm1470 := iteE1 hj1466 hb1467
      have iv1471 := Iv.ex iv1436 e1469
      have fl1472 := Fle.trans (Fle.refl s1433.F) e1469.f
      obtain ⟨right1473, h_right1473, hm1470⟩ := bndE hm1470
      refine do_set 4 (ev_callT C_l_right hr (by decide) (evv_cons (ev_var 0 rfl (Iv.fz (x := (players_here1392 : (List (Str × (Tu Str))))) iv1471 0)) (evv_cons (ev_var 1 rfl (Iv.fz (x := (seats_here1395 : (List (Tu Str)))) iv1471 1)) (evv_consR (er_raw (xs := (seat_all1410.2 : (List (Option Int)))) (raw_tup (raw_var 3 rfl) (Iv.tc iv1471 3) (ev_int (i := 1)) rfl) (Own.r (Iv.ol (xs := (seat_all1410.2 : (List (Option Int)))) iv1471 6))) evv_nil))) h_right1473) (fun v1478 s1476 e1477 r1479 => ?_) sc_l_told_right.nd
      obtain ⟨well1474, q1475, hm1470⟩ := ltE hm1470
      have iv1480 := Iv.sf iv1471 4 e1477 r1479 q1475
      have fl1481 := Fle.trans fl1472 e1477.f
      obtain rfl := Option.some.inj hm1470
      exact do_nil ⟨s1476, rfl, fl1481, ⟨v1478, rfl, Iv.sel iv1480 [some 0, some 1, some 2, some 3, some 4, some 5, some 6] (by decide) rfl⟩⟩
    · have hm1485 := iteE2 hj1466 hb1482
      have iv1486 := Iv.ex iv1436 e1484
      have fl1487 := Fle.trans (Fle.refl s1433.F) e1484.f
      obtain ⟨c1489, h_c1489, hm1485⟩ := bndE hm1485
      refine do_set 4 (EvC.v (by skip; exact ec_andO (eb_eq (ev_raw (x := (seat_all1410.1 : Str)) (raw_tup (raw_var 3 rfl) (Iv.tc iv1486 3) (ev_int (i := 0)) rfl) (Iv.fz (x := (seat_all1410.1 : Str)) iv1486 5)) ev_str) (fun hb1490 => (fun hz => (by obtain ⟨few1488, h_few1488, hz⟩ := bndE hz; obtain rfl := Option.some.inj hz; exact (ec_and1 (eb_v (ev_callT C_l_few hr (by decide) (evv_cons (ev_var 0 rfl (Iv.fz (x := (players_here1392 : (List (Str × (Tu Str))))) iv1486 0)) (evv_cons (ev_var 1 rfl (Iv.fz (x := (seats_here1395 : (List (Tu Str)))) iv1486 1)) (evv_consR (er_raw (xs := (seat_all1410.2 : (List (Option Int)))) (raw_tup (raw_var 3 rfl) (Iv.tc iv1486 3) (ev_int (i := 1)) rfl) (Own.r (Iv.ol (xs := (seat_all1410.2 : (List (Option Int)))) iv1486 6))) evv_nil))) h_few1488))))) ((andE h_c1489).1 hb1490)) (andE h_c1489).2)) (fun v1495 s1493 e1494 r1496 => ?_) sc_l_told_right.nd
      obtain ⟨well1491, q1492, hm1485⟩ := ltE hm1485
      have iv1497 := Iv.sf iv1486 4 e1494 r1496 q1492
      have fl1498 := Fle.trans fl1487 e1494.f
      obtain rfl := Option.some.inj hm1485
      exact do_nil ⟨s1493, rfl, fl1498, ⟨v1495, rfl, Iv.sel iv1497 [some 0, some 1, some 2, some 3, some 4, some 5, some 6] (by decide) rfl⟩⟩
    · obtain ⟨hf1502, hR1503⟩ := hM1501
      obtain ⟨v1504, rfl, iv1505⟩ := hR1503
      obtain ⟨b1523, hj1524, hm1435⟩ := bndE hm1435
      refine do_if (et_v (ev_var 4 rfl (Iv.fz (x := (b1465 : Bool)) iv1505 4))) (fun (σ' : L2.St) (t' : S) => Fle s1500.F t'.F ∧ ∃ (v_found_0 : V) (p_found_1 : Addr), σ' = [some v1393, some v1396, some v1403, some (.ref p1411), some v1504] ∧ Iv K (fun _ => False) s0 t' [fz v1393 (players_here1392 : (List (Str × (Tu Str)))), fz v1396 (seats_here1395 : (List (Tu Str))), fz v1403 (kept1399 : (HL2 (List (Str × (Tu Str))) (List (Tu Str)))), tc p1411 [v_found_0, (.ref p_found_1)], fz v1504 (b1465 : Bool), fz v_found_0 (b1523.1 : Str), ol p_found_1 (b1523.2 : (List (Option Int)))]) (fun hb1525 s1526 e1527 => ?_) (fun hb1539 s1540 e1541 => ?_) (fun σ1545 s1546 hM1547 => ?_)
      · have hm1528 := iteE1 hj1524 hb1525
        have iv1529 := Iv.ex iv1505 e1527
        have fl1530 := Fle.trans (Fle.refl s1500.F) e1527.f
        obtain ⟨hc1536, hm1528⟩ := chkE hm1528
        refine do_appendP (raw_tup (raw_var 3 rfl) (Iv.tc iv1529 3) (ev_int (i := 1)) rfl) (Iv.ol (xs := (seat_all1410.2 : (List (Option Int)))) iv1529 6) (ev_some ev_int) hc1536 (fun s1531 m1532 o1533 => ?_)
        obtain ⟨ls1534, q1535, hm1528⟩ := ltE hm1528
        have iv1537 := Iv.ml iv1529 6 m1532 o1533 q1535
        have fl1538 := Fle.trans fl1530 m1532.f
        obtain rfl := Option.some.inj hm1528
        exact do_nil ⟨s1531, rfl, fl1538, ⟨v1412, p1413, rfl, Iv.sel iv1537 [some 0, some 1, some 2, some 3, some 4, some 5, some 6] (by decide) rfl⟩⟩
      · have hm1542 := iteE2 hj1524 hb1539
        have iv1543 := Iv.ex iv1505 e1541
        have fl1544 := Fle.trans (Fle.refl s1500.F) e1541.f
        obtain rfl := Option.some.inj hm1542
        exact do_nil ⟨s1540, rfl, fl1544, ⟨v1412, p1413, rfl, Iv.sel iv1543 [some 0, some 1, some 2, some 3, some 4, some 5, some 6] (by decide) rfl⟩⟩
      · obtain ⟨hf1548, hR1549⟩ := hM1547
        obtain ⟨v1550, p1551, rfl, iv1552⟩ := hR1549
        obtain rfl := Option.some.inj hm1435
        exact do_ret (ev_var 4 rfl (Iv.fz (x := (b1465 : Bool)) iv1552 4)) fun v1553 s1554 e1555 r1556 => hQ _ _ (Ex.trans (Iv.exx iv1552) e1555) r1556
abbrev s_law : Stmt := topS 20
abbrev N_law : List Str := ["_law_script", "_law_ds", "_law_tools_here", "_law_most", "_law_players_here", "_law_seats_here", "_law_k", "_law_es"]
theorem sc_law : FnScope N_law ["_law_script"] (defScope s_law) := ⟨rfl, rfl, rfl, by decide +kernel, rfl, by decide +kernel, by decide +kernel⟩
noncomputable def m_law (script1557 : (List Int)) : Option Bool :=
 (bnd (m_l_cell_at script1557 (0 : Int)) fun cell_at1562 => (bnd (m_l_draws cell_at1562 ([(3 : Int), (3 : Int), (16 : Int)] : List Int)) fun draws1563 => (lt (draws1563 : (List Int)) fun ds1564 =>
 (bnd (atI ds1564 (0 : Int)) fun at1571 => (bnd (m_l_tools at1571) fun tools1572 => (lt (tools1572 : (List Str)) fun tools_here1573 =>
 (lt (([(12 : Int), (9 : Int)] : List Int) : (List Int)) fun most1580 =>
 (bnd (atI ds1564 (2 : Int)) fun at1588 => (bnd (if (decide (at1588 = (3 : Int))) = true then
 (lt (([(34 : Int), (34 : Int)] : List Int) : (List Int)) fun most1614 =>
 (some most1614))
 else
 (some most1580) : Option ((List Int))) fun b1606 =>
 (bnd (m_l_cell_at script1557 (1 : Int)) fun cell_at1635 => (bnd (atI b1606 (0 : Int)) fun at1636 => (bnd (atI ds1564 (1 : Int)) fun at1637 => (bnd (m_l_players cell_at1635 at1636 tools_here1573 at1637) fun players1638 => (lt (players1638 : (List (Str × (Tu Str)))) fun players_here1639 =>
 (bnd (m_l_cell_at script1557 (2 : Int)) fun cell_at1647 => (bnd (atI b1606 (1 : Int)) fun at1648 => (bnd (m_l_seats cell_at1647 at1648 tools_here1573) fun seats1649 => (lt (seats1649 : (List (Tu Str))) fun seats_here1650 =>
 (bnd (m_l_told_right players_here1639 seats_here1650) fun told_right1658 => (bnd (orO (!told_right1658) (bnd (m_l_told_right players_here1639 seats_here1650) fun told_right1659 => (some (!told_right1659)))) fun c1660 => (if c1660 = true then
 (some false)
 else
 (chk (RgB (((cut script1557 (some (3 : Int)) (some (9 : Int)))).length : Int)) (bnd (foldF (ρ := Bool) (fun (b1679 : ((List (Str × (Tu Str))) × (List (Tu Str)))) (x1681 : Int) =>
 (bnd (atI script1557 ((3 : Int) + x1681)) fun at1707 => (bnd (m_l_draws at1707 ([(3 : Int), (32 : Int), (2 : Int), (5 : Int), (8 : Int), (4 : Int)] : List Int)) fun draws1708 => (lt (draws1708 : (List Int)) fun es1709 =>
 (bnd (atI es1709 (0 : Int)) fun at1718 => (bnd (if (decide (at1718 = (0 : Int))) = true then
 (bnd (atI es1709 (1 : Int)) fun at1863 => (bnd (atI es1709 (2 : Int)) fun at1864 => (bnd (atI ds1564 (1 : Int)) fun at1865 => (bnd (m_l_player ((34 : Int) + x1681) at1863 at1864 tools_here1573 at1865) fun player1866 => (chk ((b1679.1).length < sizeLine) (lt ((b1679.1 ++ [player1866]) : (List (Str × (Tu Str)))) fun players_here1861 =>
 (some (players_here1861, b1679.2))))))))
 else
 (bnd (atI es1709 (0 : Int)) fun at1879 => (bnd (if (decide (at1879 = (1 : Int))) = true then
 (bnd (atI es1709 (3 : Int)) fun at1944 => (chk (0 < (((b1679.2).length : Int) + (1 : Int))) (bnd (atI es1709 (3 : Int)) fun at1946 => (bnd (atI es1709 (4 : Int)) fun at1947 => (bnd (atI es1709 (5 : Int)) fun at1948 => (bnd (m_l_seat at1946 at1947 at1948 tools_here1573) fun seat1949 => (chk (InsOk (at1944 % (((b1679.2).length : Int) + (1 : Int))) (b1679.2).length) (lt ((insI b1679.2 (at1944 % (((b1679.2).length : Int) + (1 : Int))) seat1949) : (List (Tu Str))) fun seats_here1942 =>
 (some (seats_here1942, b1679.1))))))))))
 else
 (lt ((cut b1679.1 (some (1 : Int)) none) : (List (Str × (Tu Str)))) fun players_here1963 =>
 (some (b1679.2, players_here1963))) : Option (((List (Tu Str)) × (List (Str × (Tu Str)))))) fun b1924 =>
 (some (b1924.2, b1924.1)))) : Option (((List (Str × (Tu Str))) × (List (Tu Str))))) fun b1844 =>
 (bnd (m_l_told_right b1844.1 b1844.2) fun told_right1991 => (if (!told_right1991) = true then
 (some (Fl.rt false))
 else
 (some (Fl.nx (b1844.1, b1844.2))))))))))) (players_here1639, seats_here1650) (rng 0 (((cut script1557 (some (3 : Int)) (some (9 : Int)))).length : Int))) fun o1677 =>
 (Fl.go o1677 (fun b2017 => (some true)) (fun rr => (some rr))))))))))))))))))))))))))
noncomputable abbrev a_law : (List Int) × Unit → Option Bool := fun a => m_law a.1
theorem ok_law_fn {P : Program} {w : World} {K : PySem.W.Frag} {mg : Str → Option Value} {base : Heap} {f : Addr} {fd : FuncData} (F : FunP K "law" s_law f fd) (hmg : mg "law" = some (.ref f)) (C_l_cell_at : Cal P w K mg base CX0 1 "_law_cell_at" (sp K a_l_cell_at)) (C_l_draws : Cal P w K mg base CX0 1 "_law_draws" (spN K a_l_draws)) (C_l_tools : Cal P w K mg base CX0 1 "_law_tools" (sp K a_l_tools)) (C_l_players : Cal P w K mg base CX0 3 "_law_players" (spN K a_l_players)) (C_l_seats : Cal P w K mg base CX0 2 "_law_seats" (spN K a_l_seats)) (C_l_told_right : Cal P w K mg base CX0 4 "_law_told_right" (sp K a_l_told_right)) (C_l_player : Cal P w K mg base CX0 2 "_law_player" (sp K a_l_player)) (C_l_seat : Cal P w K mg base CX0 1 "_law_seat" (sp K a_l_seat)) (z_range : mg "range" = none) (z_len : mg "len" = none) : FnOk P w K mg base CX0 5 f fd ["_law_script"] (sp K a_law) := by
  refine mk_fn (k := 4) F sc_law len1 ?_
  rintro cdv A' outer sh0 H0 X0 hr s0 vs ⟨script1557, _⟩ r0 Q ⟨v1558, _, rfl, r1559, rfl⟩ hm hQ
  unfold a_law m_law at hm
  dsimp only at hm
  have iv1560 : Iv K (fun _ => False) s0 s0 [fz v1558 (script1557 : (List Int)), top, top, top, top, top, top, top] := (Iv.sf (Iv.tops (K := K) (P0 := (fun _ => False)) 8 s0) 0 (Ex.refl s0) r1559 rfl)
  obtain ⟨cell_at1562, h_cell_at1562, hm⟩ := bndE hm
  obtain ⟨draws1563, h_draws1563, hm⟩ := bndE hm
  refine do_set 1 (EvN.ev (en_call C_l_draws hr (by decide) (ea_cons (ev_call C_l_cell_at hr (by decide) (ea_cons (ev_var 0 rfl (Iv.fz (x := (script1557 : (List Int))) iv1560 0)) (ea_cons ev_int ea_nil)) h_cell_at1562) (ea_cons (EvN.ev (en_list (xs := ([(3 : Int), (3 : Int), (16 : Int)] : List Int)) (ee_cons ev_int (ee_cons ev_int (ee_cons ev_int ee_nil))) (by simp [sizeLine]))) ea_nil)) h_draws1563)) (fun v1568 s1566 e1567 r1569 => ?_) sc_law.nd
  obtain ⟨ds1564, q1565, hm⟩ := ltE hm
  have iv1570 := Iv.sf iv1560 1 e1567 r1569 q1565
  obtain ⟨at1571, h_at1571, hm⟩ := bndE hm
  obtain ⟨tools1572, h_tools1572, hm⟩ := bndE hm
  refine do_set 2 (ev_call C_l_tools hr (by decide) (ea_cons (ev_ix (Ev.r (ev_var 1 rfl (Iv.fz (x := (ds1564 : (List Int))) iv1570 1))) ev_int h_at1571) ea_nil) h_tools1572) (fun v1577 s1575 e1576 r1578 => ?_) sc_law.nd
  obtain ⟨tools_here1573, q1574, hm⟩ := ltE hm
  have iv1579 := Iv.sf iv1570 2 e1576 r1578 q1574
  refine do_set 3 (EvN.ev (en_list (xs := ([(12 : Int), (9 : Int)] : List Int)) (ee_cons ev_int (ee_cons ev_int ee_nil)) (by simp [sizeLine]))) (fun v1584 s1582 e1583 r1585 => ?_) sc_law.nd
  obtain ⟨most1580, q1581, hm⟩ := ltE hm
  have iv1586 := Iv.sf iv1579 3 e1583 r1585 q1581
  obtain ⟨at1588, h_at1588, hm⟩ := bndE hm
  obtain ⟨b1606, hj1607, hm⟩ := bndE hm
  refine do_if (EvB.t (eb_eq (ev_ix (Ev.r (ev_var 1 rfl (Iv.fz (x := (ds1564 : (List Int))) iv1586 1))) ev_int h_at1588) ev_int)) (fun (σ' : L2.St) (t' : S) => Fle s1582.F t'.F ∧ ∃ (v_most : V), σ' = [some v1558, some v1568, some v1577, some v_most, none, none, none, none] ∧ Iv K (fun _ => False) s0 t' [fz v1558 (script1557 : (List Int)), fz v1568 (ds1564 : (List Int)), fz v1577 (tools_here1573 : (List Str)), fz v_most (b1606 : (List Int)), top, top, top, top]) (fun hb1608 s1609 e1610 => ?_) (fun hb1622 s1623 e1624 => ?_) (fun σ1628 s1629 hM1630 => ?_)
  · have hm1611 := iteE1 hj1607 hb1608
    have iv1612 := Iv.ex iv1586 e1610
    have fl1613 := Fle.trans (Fle.refl s1582.F) e1610.f
    refine do_set 3 (EvN.ev (en_list (xs := ([(34 : Int), (34 : Int)] : List Int)) (ee_cons ev_int (ee_cons ev_int ee_nil)) (by simp [sizeLine]))) (fun v1618 s1616 e1617 r1619 => ?_) sc_law.nd
    obtain ⟨most1614, q1615, hm1611⟩ := ltE hm1611
    have iv1620 := Iv.sf iv1612 3 e1617 r1619 q1615
    have fl1621 := Fle.trans fl1613 e1617.f
    obtain rfl := Option.some.inj hm1611
    exact do_nil ⟨s1616, rfl, fl1621, ⟨v1618, rfl, Iv.sel iv1620 [some 0, some 1, some 2, some 3, none, none, none, none] (by decide) rfl⟩⟩
  · have hm1625 := iteE2 hj1607 hb1622
    have iv1626 := Iv.ex iv1586 e1624
    have fl1627 := Fle.trans (Fle.refl s1582.F) e1624.f
    obtain rfl := Option.some.inj hm1625
    exact do_nil ⟨s1623, rfl, fl1627, ⟨v1584, rfl, Iv.sel iv1626 [some 0, some 1, some 2, some 3, none, none, none, none] (by decide) rfl⟩⟩
  · obtain ⟨hf1631, hR1632⟩ := hM1630
    obtain ⟨v1633, rfl, iv1634⟩ := hR1632
    obtain ⟨cell_at1635, h_cell_at1635, hm⟩ := bndE hm
    obtain ⟨at1636, h_at1636, hm⟩ := bndE hm
    obtain ⟨at1637, h_at1637, hm⟩ := bndE hm
    obtain ⟨players1638, h_players1638, hm⟩ := bndE hm
    refine do_setN 4 (en_call C_l_players hr (by decide) (ea_cons (ev_call C_l_cell_at hr (by decide) (ea_cons (ev_var 0 rfl (Iv.fz (x := (script1557 : (List Int))) iv1634 0)) (ea_cons ev_int ea_nil)) h_cell_at1635) (ea_cons (ev_ix (Ev.r (ev_var 3 rfl (Iv.fz (x := (b1606 : (List Int))) iv1634 3))) ev_int h_at1636) (ea_cons (ev_var 2 rfl (Iv.fz (x := (tools_here1573 : (List Str))) iv1634 2)) (ea_cons (ev_ix (Ev.r (ev_var 1 rfl (Iv.fz (x := (ds1564 : (List Int))) iv1634 1))) ev_int h_at1637) ea_nil)))) h_players1638) (fun p1643 s1641 e1642 n1644 o1645 => ?_) sc_law.nd
    obtain ⟨players_here1639, q1640, hm⟩ := ltE hm
    have iv1646 := Iv.sl iv1634 4 e1642 n1644 o1645 q1640
    obtain ⟨cell_at1647, h_cell_at1647, hm⟩ := bndE hm
    obtain ⟨at1648, h_at1648, hm⟩ := bndE hm
    obtain ⟨seats1649, h_seats1649, hm⟩ := bndE hm
    refine do_setN 5 (en_call C_l_seats hr (by decide) (ea_cons (ev_call C_l_cell_at hr (by decide) (ea_cons (ev_var 0 rfl (Iv.fz (x := (script1557 : (List Int))) iv1646 0)) (ea_cons ev_int ea_nil)) h_cell_at1647) (ea_cons (ev_ix (Ev.r (ev_var 3 rfl (Iv.fz (x := (b1606 : (List Int))) iv1646 3))) ev_int h_at1648) (ea_cons (ev_var 2 rfl (Iv.fz (x := (tools_here1573 : (List Str))) iv1646 2)) ea_nil))) h_seats1649) (fun p1654 s1652 e1653 n1655 o1656 => ?_) sc_law.nd
    obtain ⟨seats_here1650, q1651, hm⟩ := ltE hm
    have iv1657 := Iv.sl iv1646 5 e1653 n1655 o1656 q1651
    obtain ⟨told_right1658, h_told_right1658, hm⟩ := bndE hm
    obtain ⟨c1660, h_c1660, hm⟩ := bndE hm
    refine do_ifR (EvW.tt (EvC.w (by skip; exact ec_orO (eb_not (eb_v (ev_callT C_l_told_right hr (by decide) (evv_consR (er_raw (xs := (players_here1639 : (List (Str × (Tu Str))))) (raw_var 4 rfl) (Own.r (Iv.ol (xs := (players_here1639 : (List (Str × (Tu Str))))) iv1657 4))) (evv_consR (er_raw (xs := (seats_here1650 : (List (Tu Str)))) (raw_var 5 rfl) (Own.r (Iv.ol (xs := (seats_here1650 : (List (Tu Str)))) iv1657 5))) evv_nil)) h_told_right1658))) (fun hb1661 => (fun hz => (by obtain ⟨told_right1659, h_told_right1659, hz⟩ := bndE hz; obtain rfl := Option.some.inj hz; exact (ec_or1 (eb_not (eb_v (ev_callT C_l_told_right hr (by decide) (evv_consR (er_raw (xs := (players_here1639 : (List (Str × (Tu Str))))) (raw_var 4 rfl) (Own.r (Iv.ol (xs := (players_here1639 : (List (Str × (Tu Str))))) iv1657 4))) (evv_consR (er_raw (xs := (seats_here1650 : (List (Tu Str)))) (raw_var 5 rfl) (Own.r (Iv.ol (xs := (seats_here1650 : (List (Tu Str)))) iv1657 5))) evv_nil)) h_told_right1659)))))) ((orE h_c1660).1 hb1661)) (orE h_c1660).2))) (fun hb1662 s1663 e1664 => ?_) (fun hb1671 s1672 e1673 => ?_)
    · have hm1665 := iteE1 hm hb1662
      have iv1666 := Iv.ex iv1657 e1664
      obtain rfl := Option.some.inj hm1665
      exact do_ret ev_bl fun v1667 s1668 e1669 r1670 => hQ _ _ (Ex.trans (Iv.exx iv1666) e1669) r1670
    · have hm1674 := iteE2 hm hb1671
      have iv1675 := Iv.ex iv1657 e1673
      obtain ⟨hc1676, hm1674⟩ := chkE hm1674
      obtain ⟨o1677, ho1678, hm1674⟩ := bndE hm1674
      refine do_forF (ρ := Bool) (υ := ((List (Str × (Tu Str))) × (List (Tu Str)))) PassesOwn.never rfl (ei_range1 z_range (ev_len z_len (EvN.r (en_slice (Ev.r (ev_var 0 rfl (Iv.fz (x := (script1557 : (List Int))) iv1675 0))) (eo_some ev_int) (eo_some ev_int)))) hc1676) (pg_name (i := 6) sc_law.nd rfl (by first | exact Or.inl rfl | exact Or.inr rfl)) tg_n ho1678 (fun (b1679 : ((List (Str × (Tu Str))) × (List (Tu Str)))) (σ' : L2.St) (t' : S) => ∃ (p_players_here : Addr) (y_es : Option V) (y_k : Option V), σ' = [some v1558, some v1568, some v1577, some v1633, some (.ref p_players_here), some (.ref p1654), y_k, y_es] ∧ Iv K (fun _ => False) s0 t' [fz v1558 (script1557 : (List Int)), fz v1568 (ds1564 : (List Int)), fz v1577 (tools_here1573 : (List Str)), fz v1633 (b1606 : (List Int)), ol p_players_here (b1679.1 : (List (Str × (Tu Str)))), ol p1654 (b1679.2 : (List (Tu Str))), top, top]) (fun s2014 k2015 => by have iv2016 := Iv.ex iv1675 k2015; exact ⟨p1643, _, _, rfl, Iv.sel iv2016 [some 0, some 1, some 2, some 3, some 4, some 5, none, none] (by decide) rfl⟩) (fun s1682 k1683 x1681 b1679 q1704 σ1692 σ1693 t1690 t1691 hx1684 hm1685 hq1705 fl1686 hR1687 k1688 hB1689 => ?_) (fun s2008 k2009 b2017 σ2010 t2011 ho2018 fl2012 hR2013 => ?_)
      · have hf1694 := Fle.trans k1683.f fl1686
        obtain ⟨p1695, y1696, y1697, rfl, iv1698⟩ := hR1687
        obtain ⟨v1699, r1700, rfl⟩ := hB1689
        have iv1701 := Iv.ex iv1698 k1688
        have iv1702 := Iv.sf iv1701 6 (Ex.refl t1691) r1700 rfl
        have fl1703 := Fle.trans (Fle.refl t1691.F) (Ex.refl t1691).f
        obtain ⟨at1707, h_at1707, hm1685⟩ := bndE hm1685
        obtain ⟨draws1708, h_draws1708, hm1685⟩ := bndE hm1685
        refine do_set 7 (EvN.ev (en_call C_l_draws hr (by decide) (ea_cons (ev_ix (Ev.r (ev_var 0 rfl (Iv.fz (x := (script1557 : (List Int))) iv1702 0))) (ev_add ev_int (ev_var 6 rfl (Iv.fz (x := (x1681 : Int)) iv1702 6))) h_at1707) (ea_cons (EvN.ev (en_list (xs := ([(3 : Int), (32 : Int), (2 : Int), (5 : Int), (8 : Int), (4 : Int)] : List Int)) (ee_cons ev_int (ee_cons ev_int (ee_cons ev_int (ee_cons ev_int (ee_cons ev_int (ee_cons ev_int ee_nil)))))) (by simp [sizeLine]))) ea_nil)) h_draws1708)) (fun v1713 s1711 e1712 r1714 => ?_) sc_law.nd
        obtain ⟨es1709, q1710, hm1685⟩ := ltE hm1685
        have iv1715 := Iv.sf iv1702 7 e1712 r1714 q1710
        have fl1716 := Fle.trans (Fle.refl t1691.F) e1712.f
        obtain ⟨at1718, h_at1718, hm1685⟩ := bndE hm1685
        obtain ⟨b1844, hj1845, hm1685⟩ := bndE hm1685
        refine do_if (EvB.t (eb_eq (ev_ix (Ev.r (ev_var 7 rfl (Iv.fz (x := (es1709 : (List Int))) iv1715 7))) ev_int h_at1718) ev_int)) (fun (σ' : L2.St) (t' : S) => Fle s1711.F t'.F ∧ ∃ (p_players_here : Addr), σ' = [some v1558, some v1568, some v1577, some v1633, some (.ref p_players_here), some (.ref p1654), some v1699, some v1713] ∧ Iv K (fun _ => False) s0 t' [fz v1558 (script1557 : (List Int)), fz v1568 (ds1564 : (List Int)), fz v1577 (tools_here1573 : (List Str)), fz v1633 (b1606 : (List Int)), ol p_players_here (b1844.1 : (List (Str × (Tu Str)))), ol p1654 (b1844.2 : (List (Tu Str))), fz v1699 (x1681 : Int), fz v1713 (es1709 : (List Int))]) (fun hb1846 s1847 e1848 => ?_) (fun hb1871 s1872 e1873 => ?_) (fun σ1983 s1984 hM1985 => ?_)
        · have hm1849 := iteE1 hj1845 hb1846
          have iv1850 := Iv.ex iv1715 e1848
          have fl1851 := Fle.trans fl1716 e1848.f
          have fl1852 := Fle.trans (Fle.refl s1711.F) e1848.f
          obtain ⟨at1863, h_at1863, hm1849⟩ := bndE hm1849
          obtain ⟨at1864, h_at1864, hm1849⟩ := bndE hm1849
          obtain ⟨at1865, h_at1865, hm1849⟩ := bndE hm1849
          obtain ⟨player1866, h_player1866, hm1849⟩ := bndE hm1849
          obtain ⟨hc1867, hm1849⟩ := chkE hm1849
          refine do_append 4 rfl (Iv.ol (xs := (b1679.1 : (List (Str × (Tu Str))))) iv1850 4) (ev_call C_l_player hr (by decide) (ea_cons (ev_add ev_int (ev_var 6 rfl (Iv.fz (x := (x1681 : Int)) iv1850 6))) (ea_cons (ev_ix (Ev.r (ev_var 7 rfl (Iv.fz (x := (es1709 : (List Int))) iv1850 7))) ev_int h_at1863) (ea_cons (ev_ix (Ev.r (ev_var 7 rfl (Iv.fz (x := (es1709 : (List Int))) iv1850 7))) ev_int h_at1864) (ea_cons (ev_var 2 rfl (Iv.fz (x := (tools_here1573 : (List Str))) iv1850 2)) (ea_cons (ev_ix (Ev.r (ev_var 1 rfl (Iv.fz (x := (ds1564 : (List Int))) iv1850 1))) ev_int h_at1865) ea_nil))))) h_player1866) hc1867 (fun s1858 m1859 o1860 => ?_)
          obtain ⟨players_here1861, q1862, hm1849⟩ := ltE hm1849
          have iv1868 := Iv.ml iv1850 4 m1859 o1860 q1862
          have fl1869 := Fle.trans fl1851 m1859.f
          have fl1870 := Fle.trans fl1852 m1859.f
          obtain rfl := Option.some.inj hm1849
          exact do_nil ⟨s1858, rfl, fl1870, ⟨p1695, rfl, Iv.sel iv1868 [some 0, some 1, some 2, some 3, some 4, some 5, some 6, some 7] (by decide) rfl⟩⟩
        · have hm1874 := iteE2 hj1845 hb1871
          have iv1875 := Iv.ex iv1715 e1873
          have fl1876 := Fle.trans fl1716 e1873.f
          have fl1877 := Fle.trans (Fle.refl s1711.F) e1873.f
          obtain ⟨at1879, h_at1879, hm1874⟩ := bndE hm1874
          obtain ⟨b1924, hj1925, hm1874⟩ := bndE hm1874
          refine do_if (EvB.t (eb_eq (ev_ix (Ev.r (ev_var 7 rfl (Iv.fz (x := (es1709 : (List Int))) iv1875 7))) ev_int h_at1879) ev_int)) (fun (σ' : L2.St) (t' : S) => Fle s1872.F t'.F ∧ ∃ (p_players_here : Addr), σ' = [some v1558, some v1568, some v1577, some v1633, some (.ref p_players_here), some (.ref p1654), some v1699, some v1713] ∧ Iv K (fun _ => False) s0 t' [fz v1558 (script1557 : (List Int)), fz v1568 (ds1564 : (List Int)), fz v1577 (tools_here1573 : (List Str)), fz v1633 (b1606 : (List Int)), ol p_players_here (b1924.2 : (List (Str × (Tu Str)))), ol p1654 (b1924.1 : (List (Tu Str))), fz v1699 (x1681 : Int), fz v1713 (es1709 : (List Int))]) (fun hb1926 s1927 e1928 => ?_) (fun hb1955 s1956 e1957 => ?_) (fun σ1974 s1975 hM1976 => ?_)
          · have hm1929 := iteE1 hj1925 hb1926
            have iv1930 := Iv.ex iv1875 e1928
            have fl1931 := Fle.trans fl1876 e1928.f
            have fl1932 := Fle.trans fl1877 e1928.f
            have fl1933 := Fle.trans (Fle.refl s1872.F) e1928.f
            obtain ⟨at1944, h_at1944, hm1929⟩ := bndE hm1929
            obtain ⟨hc1945, hm1929⟩ := chkE hm1929
            obtain ⟨at1946, h_at1946, hm1929⟩ := bndE hm1929
            obtain ⟨at1947, h_at1947, hm1929⟩ := bndE hm1929
            obtain ⟨at1948, h_at1948, hm1929⟩ := bndE hm1929
            obtain ⟨seat1949, h_seat1949, hm1929⟩ := bndE hm1929
            obtain ⟨hc1950, hm1929⟩ := chkE hm1929
            refine do_insert 5 rfl (Iv.ol (xs := (b1679.2 : (List (Tu Str)))) iv1930 5) (ev_mod (ev_ix (Ev.r (ev_var 7 rfl (Iv.fz (x := (es1709 : (List Int))) iv1930 7))) ev_int h_at1944) (ev_add (ev_len z_len (er_raw (xs := (b1679.2 : (List (Tu Str)))) (raw_var 5 rfl) (Own.r (Iv.ol (xs := (b1679.2 : (List (Tu Str)))) iv1930 5)))) ev_int) hc1945) (ev_call C_l_seat hr (by decide) (ea_cons (ev_ix (Ev.r (ev_var 7 rfl (Iv.fz (x := (es1709 : (List Int))) iv1930 7))) ev_int h_at1946) (ea_cons (ev_ix (Ev.r (ev_var 7 rfl (Iv.fz (x := (es1709 : (List Int))) iv1930 7))) ev_int h_at1947) (ea_cons (ev_ix (Ev.r (ev_var 7 rfl (Iv.fz (x := (es1709 : (List Int))) iv1930 7))) ev_int h_at1948) (ea_cons (ev_var 2 rfl (Iv.fz (x := (tools_here1573 : (List Str))) iv1930 2)) ea_nil)))) h_seat1949) hc1950 (fun s1939 m1940 o1941 => ?_)
            obtain ⟨seats_here1942, q1943, hm1929⟩ := ltE hm1929
            have iv1951 := Iv.ml iv1930 5 m1940 o1941 q1943
            have fl1952 := Fle.trans fl1931 m1940.f
            have fl1953 := Fle.trans fl1932 m1940.f
            have fl1954 := Fle.trans fl1933 m1940.f
            obtain rfl := Option.some.inj hm1929
            exact do_nil ⟨s1939, rfl, fl1954, ⟨p1695, rfl, Iv.sel iv1951 [some 0, some 1, some 2, some 3, some 4, some 5, some 6, some 7] (by decide) rfl⟩⟩
          · have hm1958 := iteE2 hj1925 hb1955
            have iv1959 := Iv.ex iv1875 e1957
            have fl1960 := Fle.trans fl1876 e1957.f
            have fl1961 := Fle.trans fl1877 e1957.f
            have fl1962 := Fle.trans (Fle.refl s1872.F) e1957.f
            refine do_setN 4 (en_slice (er_raw (xs := (b1679.1 : (List (Str × (Tu Str))))) (raw_var 4 rfl) (Own.r (Iv.ol (xs := (b1679.1 : (List (Str × (Tu Str))))) iv1959 4))) (eo_some ev_int) eo_none) (fun p1967 s1965 e1966 n1968 o1969 => ?_) sc_law.nd
            obtain ⟨players_here1963, q1964, hm1958⟩ := ltE hm1958
            have iv1970 := Iv.sl iv1959 4 e1966 n1968 o1969 q1964
            have fl1971 := Fle.trans fl1960 e1966.f
            have fl1972 := Fle.trans fl1961 e1966.f
            have fl1973 := Fle.trans fl1962 e1966.f
            obtain rfl := Option.some.inj hm1958
            exact do_nil ⟨s1965, rfl, fl1973, ⟨p1967, rfl, Iv.sel iv1970 [some 0, some 1, some 2, some 3, some 4, some 5, some 6, some 7] (by decide) rfl⟩⟩
          · obtain ⟨hf1977, hR1978⟩ := hM1976
            obtain ⟨p1979, rfl, iv1980⟩ := hR1978
            have fl1981 := Fle.trans fl1876 hf1977
            have fl1982 := Fle.trans fl1877 hf1977
            obtain rfl := Option.some.inj hm1874
            exact do_nil ⟨s1975, rfl, fl1982, ⟨p1979, rfl, Iv.sel iv1980 [some 0, some 1, some 2, some 3, some 4, some 5, some 6, some 7] (by decide) rfl⟩⟩
        · obtain ⟨hf1986, hR1987⟩ := hM1985
          obtain ⟨p1988, rfl, iv1989⟩ := hR1987
          have fl1990 := Fle.trans fl1716 hf1986
          obtain ⟨told_right1991, h_told_right1991, hm1685⟩ := bndE hm1685
          refine do_ifR (EvB.t (eb_not (eb_v (ev_callT C_l_told_right hr (by decide) (evv_consR (er_raw (xs := (b1844.1 : (List (Str × (Tu Str))))) (raw_var 4 rfl) (Own.r (Iv.ol (xs := (b1844.1 : (List (Str × (Tu Str))))) iv1989 4))) (evv_consR (er_raw (xs := (b1844.2 : (List (Tu Str)))) (raw_var 5 rfl) (Own.r (Iv.ol (xs := (b1844.2 : (List (Tu Str)))) iv1989 5))) evv_nil)) h_told_right1991)))) (fun hb1992 s1993 e1994 => ?_) (fun hb2002 s2003 e2004 => ?_)
          · have hm1995 := iteE1 hm1685 hb1992
            have iv1996 := Iv.ex iv1989 e1994
            have fl1997 := Fle.trans fl1990 e1994.f
            obtain rfl := Option.some.inj hm1995
            obtain rfl := hq1705 _ rfl
            obtain rfl := Option.some.inj hm1674
            exact do_ret ev_bl fun v1998 s1999 e2000 r2001 => hQ _ _ (Ex.trans (Iv.exx iv1996) e2000) r2001
          · have hm2005 := iteE2 hm1685 hb2002
            have iv2006 := Iv.ex iv1989 e2004
            have fl2007 := Fle.trans fl1990 e2004.f
            obtain rfl := Option.some.inj hm2005
            exact do_nil ⟨s2003, rfl, _, rfl, fl2007, ⟨p1988, _, _, rfl, Iv.sel iv2006 [some 0, some 1, some 2, some 3, some 4, some 5, none, none] (by decide) rfl⟩⟩
      · subst ho2018
        replace hm1674 := goN hm1674
        have hf2019 := Fle.trans k2009.f fl2012
        obtain ⟨p2020, y2021, y2022, rfl, iv2023⟩ := hR2013
        obtain rfl := Option.some.inj hm1674
        exact do_ret ev_bl fun v2024 s2025 e2026 r2027 => hQ _ _ (Ex.trans (Iv.exx iv2023) e2026) r2027
def d_l_draws : He.DefD := ⟨("_law_draws", none), "_law_draws", "_law_draws", defArgs s_l_draws, defBody s_l_draws, defScope s_l_draws, [], []⟩
def d_l_tools : He.DefD := ⟨("_law_tools", none), "_law_tools", "_law_tools", defArgs s_l_tools, defBody s_l_tools, defScope s_l_tools, [], []⟩
def d_l_title : He.DefD := ⟨("_law_title", none), "_law_title", "_law_title", defArgs s_l_title, defBody s_l_title, defScope s_l_title, [], []⟩
def d_l_player : He.DefD := ⟨("_law_player", none), "_law_player", "_law_player", defArgs s_l_player, defBody s_l_player, defScope s_l_player, [], []⟩
def d_l_players : He.DefD := ⟨("_law_players", none), "_law_players", "_law_players", defArgs s_l_players, defBody s_l_players, defScope s_l_players, [], []⟩
def d_l_seat : He.DefD := ⟨("_law_seat", none), "_law_seat", "_law_seat", defArgs s_l_seat, defBody s_l_seat, defScope s_l_seat, [], []⟩
def d_l_seats : He.DefD := ⟨("_law_seats", none), "_law_seats", "_law_seats", defArgs s_l_seats, defBody s_l_seats, defScope s_l_seats, [], []⟩
def d_l_cell_at : He.DefD := ⟨("_law_cell_at", none), "_law_cell_at", "_law_cell_at", defArgs s_l_cell_at, defBody s_l_cell_at, defScope s_l_cell_at, [], []⟩
def d_can_sit : He.DefD := ⟨("can_sit", none), "can_sit", "can_sit", defArgs s_can_sit, defBody s_can_sit, defScope s_can_sit, [], []⟩
def d_road_from : He.DefD := ⟨("road_from", none), "road_from", "road_from", defArgs s_road_from, defBody s_road_from, defScope s_road_from, [], []⟩
def d_shift_along : He.DefD := ⟨("shift_along", none), "shift_along", "shift_along", defArgs s_shift_along, defBody s_shift_along, defScope s_shift_along, [], []⟩
def d_seat_all : He.DefD := ⟨("seat_all", none), "seat_all", "seat_all", defArgs s_seat_all, defBody s_seat_all, defScope s_seat_all, [], []⟩
def d_l_can : He.DefD := ⟨("_law_can", none), "_law_can", "_law_can", defArgs s_l_can, defBody s_l_can, defScope s_l_can, [], []⟩
def d_l_whole : He.DefD := ⟨("_law_whole", none), "_law_whole", "_law_whole", defArgs s_l_whole, defBody s_l_whole, defScope s_l_whole, [], []⟩
def d_l_right : He.DefD := ⟨("_law_right", none), "_law_right", "_law_right", defArgs s_l_right, defBody s_l_right, defScope s_l_right, [], []⟩
def d_l_few : He.DefD := ⟨("_law_few", none), "_law_few", "_law_few", defArgs s_l_few, defBody s_l_few, defScope s_l_few, [], []⟩
def d_l_told_right : He.DefD := ⟨("_law_told_right", none), "_law_told_right", "_law_told_right", defArgs s_l_told_right, defBody s_l_told_right, defScope s_l_told_right, [], []⟩
def d_law : He.DefD := ⟨("law", none), "law", "law", defArgs s_law, defBody s_law, defScope s_law, [], []⟩
def fn : List He.DefD := [d_l_draws, d_l_tools, d_l_title, d_l_player, d_l_players, d_l_seat, d_l_seats, d_l_cell_at, d_can_sit, d_road_from, d_shift_along, d_seat_all, d_l_can, d_l_whole, d_l_right, d_l_few, d_l_told_right, d_law]
def fa : List He.Fa := [.glo "_law_draws", .glo "_law_tools", .glo "_law_title", .glo "_law_player", .glo "_law_players", .glo "_law_seat", .glo "_law_seats", .glo "_law_cell_at", .glo "can_sit", .glo "road_from", .glo "shift_along", .glo "seat_all", .glo "_law_can", .glo "_law_whole", .glo "_law_right", .glo "_law_few", .glo "_law_told_right", .glo "law", .free "range", .free "len", .free "tuple", .free "sorted", .free "isinstance", .free "int", .free "bool", .free "list"]
abbrev R : PySem.W.OpenRow := PySem.W.OpenLaw.row PySem.Challenge.rw_deskpairs_k32_whole_seated_or_short
abbrev hk : PySem.W.Hook := He.hookD 4 fa fn
def ob (s : PySem.W.SharedT) : He.AlD := He.obsDG 4 fa fn (HandSHeadRun.getT s)
theorem ob_eq (s : PySem.W.SharedT) : ob s = hk.obs s.abs := He.obsDG_eq (HandSHeadRun.getT_eq s)
def loose0 : List Str := ["can_sit", "road_from", "shift_along", "seat_all", "_law_cell_at", "_law_draws", "_law_tools", "_law_title", "_law_seat", "_law_seats", "_law_player", "_law_players", "_law_whole", "_law_can", "_law_right", "_law_few", "_law_told_right"]
def loose : List Str := loose0
theorem run (w : World) : HandSHeadRun.RunEq R (PySem.W.view R.prog [20]) hk ob 1240 loose w := by
  intro os
  kernel_rfl
theorem facts {P : Program} {w : World} {K : PySem.W.Frag} {h : Heap} {mg : Str → Option Value} {f : Addr} (X : K.In h) (G : h.Ns mainGlobals mg) (hfa : mg ("law" : Str) = some (.ref f)) (c : He.SaysD fa fn K) :
    ∃ fd : FuncData, (∀ (s : Shared) (v : Value), BindsTo s fd ⟨[v], []⟩ [("_law_script", v)]) ∧ ∀ base : Heap, K.In base → base.Ns mainGlobals mg → FnOk P w K mg base CX0 5 f fd ["_law_script"] (sp K a_law) := by
  obtain ⟨fd_l_draws, F_l_draws⟩ := c.def_ 0 (d := d_l_draws) rfl
  obtain ⟨fd_l_tools, F_l_tools⟩ := c.def_ 1 (d := d_l_tools) rfl
  obtain ⟨fd_l_title, F_l_title⟩ := c.def_ 2 (d := d_l_title) rfl
  obtain ⟨fd_l_player, F_l_player⟩ := c.def_ 3 (d := d_l_player) rfl
  obtain ⟨fd_l_players, F_l_players⟩ := c.def_ 4 (d := d_l_players) rfl
  obtain ⟨fd_l_seat, F_l_seat⟩ := c.def_ 5 (d := d_l_seat) rfl
  obtain ⟨fd_l_seats, F_l_seats⟩ := c.def_ 6 (d := d_l_seats) rfl
  obtain ⟨fd_l_cell_at, F_l_cell_at⟩ := c.def_ 7 (d := d_l_cell_at) rfl
  obtain ⟨fd_can_sit, F_can_sit⟩ := c.def_ 8 (d := d_can_sit) rfl
  obtain ⟨fd_road_from, F_road_from⟩ := c.def_ 9 (d := d_road_from) rfl
  obtain ⟨fd_shift_along, F_shift_along⟩ := c.def_ 10 (d := d_shift_along) rfl
  obtain ⟨fd_seat_all, F_seat_all⟩ := c.def_ 11 (d := d_seat_all) rfl
  obtain ⟨fd_l_can, F_l_can⟩ := c.def_ 12 (d := d_l_can) rfl
  obtain ⟨fd_l_whole, F_l_whole⟩ := c.def_ 13 (d := d_l_whole) rfl
  obtain ⟨fd_l_right, F_l_right⟩ := c.def_ 14 (d := d_l_right) rfl
  obtain ⟨fd_l_few, F_l_few⟩ := c.def_ 15 (d := d_l_few) rfl
  obtain ⟨fd_l_told_right, F_l_told_right⟩ := c.def_ 16 (d := d_l_told_right) rfl
  obtain ⟨fd_law, F_law⟩ := c.def_ 17 (d := d_law) rfl
  have g_l_draws : mg "_law_draws" = some (.ref (He.fAd K ("_law_draws", none))) := He.glo_ok X G (c.fact 0 (f := .glo "_law_draws") rfl)
  have g_l_tools : mg "_law_tools" = some (.ref (He.fAd K ("_law_tools", none))) := He.glo_ok X G (c.fact 1 (f := .glo "_law_tools") rfl)
  have g_l_title : mg "_law_title" = some (.ref (He.fAd K ("_law_title", none))) := He.glo_ok X G (c.fact 2 (f := .glo "_law_title") rfl)
  have g_l_player : mg "_law_player" = some (.ref (He.fAd K ("_law_player", none))) := He.glo_ok X G (c.fact 3 (f := .glo "_law_player") rfl)
  have g_l_players : mg "_law_players" = some (.ref (He.fAd K ("_law_players", none))) := He.glo_ok X G (c.fact 4 (f := .glo "_law_players") rfl)
  have g_l_seat : mg "_law_seat" = some (.ref (He.fAd K ("_law_seat", none))) := He.glo_ok X G (c.fact 5 (f := .glo "_law_seat") rfl)
  have g_l_seats : mg "_law_seats" = some (.ref (He.fAd K ("_law_seats", none))) := He.glo_ok X G (c.fact 6 (f := .glo "_law_seats") rfl)
  have g_l_cell_at : mg "_law_cell_at" = some (.ref (He.fAd K ("_law_cell_at", none))) := He.glo_ok X G (c.fact 7 (f := .glo "_law_cell_at") rfl)
  have g_can_sit : mg "can_sit" = some (.ref (He.fAd K ("can_sit", none))) := He.glo_ok X G (c.fact 8 (f := .glo "can_sit") rfl)
  have g_road_from : mg "road_from" = some (.ref (He.fAd K ("road_from", none))) := He.glo_ok X G (c.fact 9 (f := .glo "road_from") rfl)
  have g_shift_along : mg "shift_along" = some (.ref (He.fAd K ("shift_along", none))) := He.glo_ok X G (c.fact 10 (f := .glo "shift_along") rfl)
  have g_seat_all : mg "seat_all" = some (.ref (He.fAd K ("seat_all", none))) := He.glo_ok X G (c.fact 11 (f := .glo "seat_all") rfl)
  have g_l_can : mg "_law_can" = some (.ref (He.fAd K ("_law_can", none))) := He.glo_ok X G (c.fact 12 (f := .glo "_law_can") rfl)
  have g_l_whole : mg "_law_whole" = some (.ref (He.fAd K ("_law_whole", none))) := He.glo_ok X G (c.fact 13 (f := .glo "_law_whole") rfl)
  have g_l_right : mg "_law_right" = some (.ref (He.fAd K ("_law_right", none))) := He.glo_ok X G (c.fact 14 (f := .glo "_law_right") rfl)
  have g_l_few : mg "_law_few" = some (.ref (He.fAd K ("_law_few", none))) := He.glo_ok X G (c.fact 15 (f := .glo "_law_few") rfl)
  have g_l_told_right : mg "_law_told_right" = some (.ref (He.fAd K ("_law_told_right", none))) := He.glo_ok X G (c.fact 16 (f := .glo "_law_told_right") rfl)
  have g_law : mg "law" = some (.ref (He.fAd K ("law", none))) := He.glo_ok X G (c.fact 17 (f := .glo "law") rfl)
  have z_range : mg "range" = none := He.free_ok X G (c.fact 18 (f := .free "range") rfl)
  have z_len : mg "len" = none := He.free_ok X G (c.fact 19 (f := .free "len") rfl)
  have z_tuple : mg "tuple" = none := He.free_ok X G (c.fact 20 (f := .free "tuple") rfl)
  have z_sorted : mg "sorted" = none := He.free_ok X G (c.fact 21 (f := .free "sorted") rfl)
  have z_isinstance : mg "isinstance" = none := He.free_ok X G (c.fact 22 (f := .free "isinstance") rfl)
  have z_int : mg "int" = none := He.free_ok X G (c.fact 23 (f := .free "int") rfl)
  have z_bool : mg "bool" = none := He.free_ok X G (c.fact 24 (f := .free "bool") rfl)
  have z_list : mg "list" = none := He.free_ok X G (c.fact 25 (f := .free "list") rfl)
  have e := hfa.symm.trans g_law
  cases e
  have b := FunD.bindsA (ps := ["_law_script"]) F_law fun _ _ _ _ _ _ us hl => match us, hl with | [_], _ => rfl
  refine ⟨fd_law, fun s v => b s [v] rfl, fun base _ _ => ?_⟩
  have C_l_draws := ok_l_draws (P := P) (w := w) (base := base) F_l_draws g_l_draws z_range z_len
  have C_l_tools := ok_l_tools (P := P) (w := w) (base := base) F_l_tools g_l_tools 
  have C_l_title := ok_l_title (P := P) (w := w) (base := base) F_l_title g_l_title 
  have C_l_player := ok_l_player (P := P) (w := w) (base := base) F_l_player g_l_player C_l_title z_range z_tuple
  have C_l_players := ok_l_players (P := P) (w := w) (base := base) F_l_players g_l_players C_l_draws C_l_player z_range
  have C_l_seat := ok_l_seat (P := P) (w := w) (base := base) F_l_seat g_l_seat z_tuple z_range
  have C_l_seats := ok_l_seats (P := P) (w := w) (base := base) F_l_seats g_l_seats C_l_draws C_l_seat z_range
  have C_l_cell_at := ok_l_cell_at (P := P) (w := w) (base := base) F_l_cell_at g_l_cell_at z_len
  have C_can_sit := ok_can_sit (P := P) (w := w) (base := base) F_can_sit g_can_sit 
  have C_road_from := cal_of (ok_road_from_fn (P := P) (w := w) (mg := mg) (base := base) F_road_from C_can_sit z_len z_range) g_road_from F_road_from.kp (F_road_from.bindsN fun _ _ _ _ _ _ us hl => match us, hl with | [_, _, _, _], _ => rfl)
  have C_shift_along := cal_of (ok_shift_along_fn (P := P) (w := w) (mg := mg) (base := base) F_shift_along ) g_shift_along F_shift_along.kp (F_shift_along.bindsN fun _ _ _ _ _ _ us hl => match us, hl with | [_, _, _, _], _ => rfl)
  have C_seat_all := cal_of (ok_seat_all_fn (P := P) (w := w) (mg := mg) (base := base) F_seat_all C_road_from C_shift_along z_len z_range z_sorted) g_seat_all F_seat_all.kp (F_seat_all.bindsN fun _ _ _ _ _ _ us hl => match us, hl with | [_, _], _ => rfl)
  have C_l_can := ok_l_can (P := P) (w := w) (base := base) F_l_can g_l_can 
  have C_l_whole := ok_l_whole (P := P) (w := w) (base := base) F_l_whole g_l_whole z_isinstance z_int z_bool
  have C_l_right := ok_l_right (P := P) (w := w) (base := base) F_l_right g_l_right C_l_whole C_l_can z_isinstance z_list z_len z_range
  have C_l_few := ok_l_few (P := P) (w := w) (base := base) F_l_few g_l_few C_l_whole C_l_can z_isinstance z_list z_range z_len
  have C_l_told_right := ok_l_told_right (P := P) (w := w) (base := base) F_l_told_right g_l_told_right C_seat_all C_l_right C_l_few z_list z_isinstance z_tuple z_len
  exact ok_law_fn (P := P) (w := w) (base := base) F_law g_law C_l_cell_at C_l_draws C_l_tools C_l_players C_l_seats C_l_told_right C_l_player C_l_seat z_range z_len
theorem lt_eq {α β : Type} {x : α} {f : α → Option β} : lt x f = f x := rfl
theorem go_nx {β ρ γ : Type} {b : β} {k : β → γ} {e : ρ → γ} : Fl.go (Fl.nx b) k e = k b := rfl
theorem cell_ok (sc : List Int) {k : Int} (h : 0 ≤ k) : Ok (m_l_cell_at sc k) (fun _ => True) := by
  unfold m_l_cell_at
  exact ok_ite (fun h2 => ok_ret (ok_atI h (of_decide_eq_true h2) fun _ _ => trivial)) (fun _ => ok_some trivial)
theorem draws_ok {cell : Int} {sizes : List Int} (h1 : ∀ n ∈ sizes, 0 < n ∧ n < 100000000) (h2 : sizes.length ≤ 1000) : Ok (m_l_draws cell sizes) (Drawn sizes) := by
  unfold m_l_draws
  have hz := szl
  refine ok_lt fun f hf => ok_lt fun n _ => ok_chk ⟨by omega, by omega⟩ (ok_bnd (P := fun b => Drawn sizes b.1) (ok_foldO (fun i b => b.1.length = i ∧ ∀ (j : Nat) (d n : Int), b.1[j]? = some d → sizes[j]? = some n → 0 ≤ d ∧ d < n) ⟨by rw [hf]; rfl, by rw [hf]; simp⟩ ?_ ?_) ?_)
  · rintro i ⟨b1, b2⟩ x hx ⟨hl, hm⟩
    obtain ⟨e1, e2⟩ := rng_at hx
    dsimp only at hl hm ⊢
    have hi : i < sizes.length := by omega
    have hs : sizes[i]? = some sizes[i] := List.getElem?_eq_getElem hi
    obtain ⟨p1, p2⟩ := h1 sizes[i] (List.getElem_mem hi)
    have hat : atI sizes x = some sizes[i] := by
      rw [e1, Int.zero_add, atI_nat hs]
    refine ok_chk (mul_l (by omega) (by omega)) (ok_lt fun m1 _ => ok_lt fun m2 _ => ?_)
    refine ok_bnd (P := fun _ => True) (ok_ite (fun _ => ok_lt fun _ _ => ok_some trivial) (fun _ => ok_some trivial)) fun v _ => ?_
    refine ok_bnd (P := fun s => s = sizes[i]) (ok_eq hat rfl) fun s hs1 => ?_
    subst hs1
    refine ok_chk p1 (ok_chk (by omega) (ok_lt fun y hy => ok_bnd (P := fun s => s = sizes[i]) (ok_eq hat rfl) fun s hs1 => ?_))
    subst hs1
    refine ok_chk (div_small p1 (by omega)) (ok_lt fun w _ => ok_some ?_)
    subst hy
    refine ⟨by rw [List.length_append, hl]; rfl, fun j d n hd hn => ?_⟩
    by_cases hj : j < i
    · rw [List.getElem?_append_left (by omega)] at hd
      exact hm j d n hd hn
    · by_cases hji : j = i
      · subst hji
        rw [List.getElem?_append_right (by omega), hl, Nat.sub_self] at hd
        rw [hs] at hn
        cases hn
        have e : v % sizes[j] = d := Option.some.inj hd
        rw [← e]
        exact ⟨Int.emod_nonneg _ (by omega), Int.emod_lt_of_pos _ p1⟩
      · rw [List.getElem?_eq_none (by rw [List.length_append, hl, List.length_singleton]; omega)] at hd
        cases hd
  · rintro b ⟨hl, hm⟩
    exact ⟨by rw [hl, rng_len_nn (by omega)]; omega, hm⟩
  · exact fun b hb => ok_some hb
theorem txt_app {a b : Str} (ha : txt a) (hb : txt b) : txt (a ++ b) := by
  unfold txt PyData.strOk at *
  show (a.cps ++ b.cps).all _ = true
  rw [Array.all_append, ha, hb]; rfl
theorem txt_rep {x : Str} (h : txt x) (n : Int) : txt (replS x n) := by
  unfold replS Txt.mul
  split
  · show PyData.strOk _ = true; decide +kernel
  · split
    · first | exact h | (show PyData.strOk _ = true; decide +kernel)
    · have : ∀ (k : Nat) (a : Array Nat), a.all (· < 0x110000) = true → ((List.replicate k x.cps).foldl (· ++ ·) a).all (· < 0x110000) = true := by
        intro k
        induction k with
        | zero => intro a ha; exact ha
        | succ k ih =>
          intro a ha
          rw [List.replicate_succ, List.foldl_cons]
          refine ih _ ?_
          rw [Array.all_append, ha]
          exact h
      exact this _ _ (by simp)
theorem txt_one {x : Str} {c : Nat} (h : txt x) (hc : c ∈ x.cps.toList) : txt ⟨#[c]⟩ := by
  unfold txt PyData.strOk at *
  rw [Array.all_eq_true_iff_forall_mem] at h
  have := h c (Array.mem_toList_iff.mp hc)
  simpa using this
def Good (x : Str) : Prop := txt x ∧ x.length ≤ 20
theorem tools_ok (w : Int) : Ok (m_l_tools w) (fun t => t.length = 5 ∧ ∀ x ∈ t, Good x) := by
  unfold m_l_tools
  have key : ∀ t ∈ [([("a" : Str), ("ab" : Str), ("abc" : Str), ("b" : Str), ("ba" : Str)] : List Str), [("viola" : Str), ("v" : Str), ("harp" : Str), ("oboe" : Str), ("violas" : Str)], [("horn" : Str), ("ho" : Str), ("zink" : Str), ("c" : Str), ("cornetto" : Str)]], t.length = 5 ∧ ∀ x ∈ t, Good x := by
    unfold Good txt
    decide +kernel
  refine ok_ite (fun _ => ok_some (key _ (by simp))) (fun _ => ok_ite (fun _ => ok_some (key _ (by simp))) (fun _ => ok_some (key _ (by simp))))
theorem repl_len {x : Str} {n : Int} (h0 : 0 ≤ n) : (replS x n).length ≤ x.length * n.toNat := by
  unfold replS Txt.mul
  split
  · exact Nat.zero_le _
  · split
    · rename_i h1 h2
      simp only [Bool.or_eq_true, beq_iff_eq] at h2
      rcases h2 with h2 | h2
      · subst h2; simp
      · rw [h2]; simp
    · have : ∀ (k : Nat) (a : Array Nat), ((List.replicate k x.cps).foldl (· ++ ·) a).size = a.size + x.cps.size * k := by
        intro k
        induction k with
        | zero => intro a; simp
        | succ k ih => intro a; rw [List.replicate_succ, List.foldl_cons, ih, Array.size_append, Nat.mul_succ]; omega
      show Array.size _ ≤ _
      rw [this]
      show 0 + x.cps.size * n.toNat ≤ x.cps.size * n.toNat
      omega
theorem title_ok {k w : Int} (h0 : 0 ≤ k) (h1 : k < 52) (w0 : 0 ≤ w) (w1 : w < 3) : Ok (m_l_title k w) txt := by
  unfold m_l_title
  have hz := szl
  refine ok_lt fun ls hls => ?_
  have hl : ls.length = 26 := by rw [hls]; decide
  have e1 := @repl_len ("x" : Str) (k % 2) (by omega)
  have e0 : ("x" : Str).length = 1 := by decide
  rw [e0] at e1
  have tl : txt ls := by rw [hls]; unfold txt; decide +kernel
  have tx : txt ("x" : Str) := by unfold txt; decide +kernel
  refine ok_bnd (P := fun y => y.length = 1 ∧ txt y) (ok_sgn (by omega) (by omega) (by omega) fun c hc => ⟨rfl, txt_one tl (List.mem_of_getElem? hc)⟩) fun y ⟨hy, ty⟩ => ?_
  refine ok_chk (repS_small (by rw [e0]; omega) (by omega) (by omega)) (ok_chk (by omega) (ok_lt fun wd hwd => ?_))
  have lw : wd.length ≤ 2 := by
    rw [hwd]
    show (Str.append _ _).length ≤ 2
    show (y.cps ++ (replS ("x" : Str) (k % 2)).cps).size ≤ 2
    rw [Array.size_append]
    show y.length + (replS ("x" : Str) (k % 2)).length ≤ 2
    omega
  have tw : txt wd := by rw [hwd]; exact txt_app ty (txt_rep tx _)
  refine ok_ite (fun _ => ok_some tw) (fun _ => ?_)
  refine ok_bnd (P := fun z => z.length ≤ 2 ∧ txt z) (ok_atI (by omega) (by simp; omega) fun z hz => ?_) fun z ⟨hz2, tz⟩ => ?_
  · have : z ∈ [("" : Str), ("q" : Str), ("zz" : Str)] := List.mem_of_getElem? hz
    simp only [List.mem_cons, List.not_mem_nil, or_false] at this
    rcases this with rfl | rfl | rfl <;> exact ⟨by decide, by unfold txt; decide +kernel⟩
  · refine ok_chk (by omega) (ok_bnd (P := fun y => y.length = 1 ∧ txt y) (ok_sgn (by omega) (by omega) (by omega) fun c hc => ⟨rfl, txt_one tl (List.mem_of_getElem? hc)⟩) fun u ⟨hu, tu⟩ => ?_)
    refine ok_chk (repS_small (by omega) (by omega) (by omega)) (ok_chk ?_ (ok_some (txt_app (txt_app tz tw) (txt_rep tu _))))
    have e2 := @repl_len u 2 (by omega)
    rw [hu] at e2
    have e3 : (z ++ wd).length = z.length + wd.length := by
      show (z.cps ++ wd.cps).size = _
      rw [Array.size_append]; rfl
    have : (1 * (2 : Int).toNat) = 2 := by decide
    omega
theorem player_ok {k m t w : Int} {ts : List Str} (h0 : 0 ≤ k) (h1 : k < 52) (w0 : 0 ≤ w) (w1 : w < 3) (ht : ts.length = 5) (hg : ∀ x ∈ ts, Good x) : Ok (m_l_player k m t ts w) (fun p => p.2.l.length ≤ 5 ∧ txt p.1 ∧ ∀ x ∈ p.2.l, txt x) := by
  unfold m_l_player
  have hz := szl
  refine ok_bnd (ok_compO (T := fun x => decide ((m / (2 ^ x.toNat : Int)) % 2 = 1)) (P := fun _ y => txt y) (fun x hx => ?_) (fun x hx _ => ?_)) fun ys ⟨y1, y2⟩ => ?_
  · obtain ⟨a, b⟩ := rng_mem hx
    have : x = 0 ∨ x = 1 ∨ x = 2 ∨ x = 3 ∨ x = 4 := by omega
    rcases this with rfl | rfl | rfl | rfl | rfl <;> exact ok_bnd (P := fun z => z = _) (ok_eq rfl rfl) fun z hz => ok_chk (div_small (by rw [hz]; decide) (by rw [hz]; decide)) (ok_some (by rw [hz]; rfl))
  · obtain ⟨a, b⟩ := rng_mem hx
    exact ok_ret (ok_atI a (by omega) fun y hy => (hg y (List.mem_of_getElem? hy)).1)
  · have hy : ys.length ≤ 5 := by
      rw [y1]
      exact Nat.le_trans (List.length_filter_le _ _) (by rw [rng_len]; decide)
    have hall : ∀ y ∈ ys, txt y := fun y hy2 => by
      obtain ⟨i, hi⟩ := List.mem_iff_getElem?.mp hy2
      obtain ⟨_, _, h⟩ := y2 i y hi
      exact h
    refine ok_chk (by omega) (ok_lt fun sm hs => ok_bnd (P := fun b => b.length ≤ 5 ∧ ∀ y ∈ b, txt y) (ok_ite (fun _ => ok_lt fun z hz => ok_some ?_) (fun _ => ok_some ?_)) fun b hb => ok_bnd (title_ok h0 h1 w0 w1) fun ti hti => ok_some ⟨hb.1, hti, hb.2⟩)
    · rw [hz, hs]; exact ⟨by rw [List.length_reverse]; exact hy, fun y h => hall y (List.mem_reverse.mp h)⟩
    · rw [hs]; exact ⟨hy, hall⟩
theorem seat_ok {a b c : Int} {ts : List Str} (b0 : 0 ≤ b) (b1 : b < 8) (c0 : 0 ≤ c) (c1 : c < 4) (ht : ts.length = 5) (hg : ∀ x ∈ ts, Good x) : Ok (m_l_seat a b c ts) (fun s => s.l.length ≤ 4 ∧ ∀ x ∈ s.l, Good x) := by
  unfold m_l_seat
  have hz := szl
  refine ok_bnd (P := fun n => 1 ≤ n ∧ n ≤ 4) (ok_atI b0 (by simp; omega) fun n hn => ?_) fun n hn => ok_lt fun many hm => ?_
  · have : n ∈ ([1, 1, 1, 1, 2, 2, 3, 4] : List Int) := List.mem_of_getElem? hn
    simp only [List.mem_cons, List.not_mem_nil, or_false] at this
    omega
  · subst hm
    refine ok_chk ⟨by omega, by omega⟩ (ok_bnd (ok_mapO (P := fun _ y => Good y) fun x hx => ?_) fun ys ⟨y1, y2⟩ => ?_)
    · obtain ⟨u, v⟩ := rng_mem hx
      refine ok_chk (mul_l (by omega) (by omega)) (ok_ret (ok_atI (by omega) (by omega) fun y hy => hg y (List.mem_of_getElem? hy)))
    · rw [rng_len_nn (by omega)] at y1
      refine ok_chk (by omega) (ok_some ⟨by show ys.length ≤ 4; omega, fun y hy => ?_⟩)
      obtain ⟨i, hi⟩ := List.mem_iff_getElem?.mp hy
      obtain ⟨_, _, h⟩ := y2 i y hi
      exact h
def can (p : Str × Tu Str) (s : Tu Str) : Bool := !s.l.any fun x => !decide (x ∈ p.2.l)
theorem can_eq (p : Str × Tu Str) (s : Tu Str) : m_can_sit p s = some (can p s) := by
  unfold m_can_sit can
  rw [foldF_any (p := fun x => !decide (x ∈ p.2.l)) (r := false) (fun x => rfl)]
  cases s.l.any (fun x => !decide (x ∈ p.2.l)) <;> rfl
theorem foldF_anyM {α ρ : Type} {p : α → Bool} {f : Unit → α → Option (Fl Unit ρ)} {r : ρ} : ∀ {xs : List α}, (∀ x ∈ xs, f () x = if p x = true then some (.rt r) else some (.nx ())) → foldF f () xs = some (if xs.any p = true then .rt r else .nx ())
  | [], _ => rfl
  | x :: xs, h => by
    unfold foldF
    rw [h x List.mem_cons_self, List.any_cons]
    cases hp : p x with
    | true => rfl
    | false => exact foldF_anyM fun y hy => h y (List.mem_cons_of_mem _ hy)
theorem at_in {α : Type} {xs : List α} {k : Int} (h0 : 0 ≤ k) (h1 : k < xs.length) : ∃ x, atI xs k = some x ∧ x ∈ xs ∧ xs[k.toNat]? = some x := by
  have h2 : k.toNat < xs.length := by omega
  exact ⟨xs[k.toNat], by rw [atI_get h0 h1, List.getElem?_eq_getElem h2], List.getElem_mem h2, List.getElem?_eq_getElem h2⟩
theorem lay_strs {xs : List Str} (h : ∀ x ∈ xs, txt x) : PyData.canLayAll0 (xs.map PyData.str) = true ∧ PyData.depthAll (xs.map PyData.str) = 0 := by
  induction xs with
  | nil => simp [PyData.canLayAll0, PyData.depthAll]
  | cons x r ih =>
    obtain ⟨i1, i2⟩ := ih fun y hy => h y (List.mem_cons_of_mem _ hy)
    rw [List.map_cons]
    have hx : PyData.strOk x = true := h x List.mem_cons_self
    refine ⟨?_, ?_⟩
    · unfold PyData.canLayAll0 PyData.canLay0
      rw [i1, hx]; rfl
    · unfold PyData.depthAll
      rw [i2]; simp [PyData.depth]
theorem lay_all {α : Type} [EqD α] {n : Nat} : ∀ {xs : List α}, (∀ x ∈ xs, PyData.canLay0 (EqD.toD x) = true ∧ PyData.depth (EqD.toD x) ≤ n) → PyData.canLayAll0 (xs.map EqD.toD) = true ∧ PyData.depthAll (xs.map EqD.toD) ≤ n
  | [], _ => by simp [PyData.canLayAll0, PyData.depthAll]
  | x :: r, h => by
    obtain ⟨i1, i2⟩ := lay_all fun y hy => h y (List.mem_cons_of_mem _ hy)
    obtain ⟨j1, j2⟩ := h x List.mem_cons_self
    rw [List.map_cons]
    refine ⟨?_, ?_⟩
    · unfold PyData.canLayAll0
      rw [i1, j1]; rfl
    · unfold PyData.depthAll
      omega
section
variable {κ τ : Type} [DecidableEq κ]
theorem dval_nil (j : κ) : dval ([] : List (κ × τ)) j = none := rfl
theorem dval_cons (i : κ) (x : τ) (xs : List (κ × τ)) (j : κ) : dval ((i, x) :: xs) j = if i = j then some x else dval xs j := by
  unfold dval
  rw [List.find?_cons]
  dsimp only
  by_cases h : i = j
  · rw [decide_eq_true h, if_pos h]; rfl
  · rw [decide_eq_false h, if_neg h]
theorem dval_app (xs ys : List (κ × τ)) (j : κ) : dval (xs ++ ys) j = (dval xs j).or (dval ys j) := by
  induction xs with
  | nil => rw [List.nil_append, dval_nil, Option.none_or]
  | cons z r ih =>
    obtain ⟨i, x⟩ := z
    rw [List.cons_append, dval_cons, dval_cons, ih]
    by_cases h : i = j
    · rw [if_pos h, if_pos h]; rfl
    · rw [if_neg h, if_neg h]
theorem dval_any (xs : List (κ × τ)) (k : κ) : (xs.any fun z => decide (z.1 = k)) = (dval xs k).isSome := by
  induction xs with
  | nil => rfl
  | cons z r ih =>
    obtain ⟨i, x⟩ := z
    rw [List.any_cons, dval_cons, ih]
    dsimp only
    by_cases h : i = k
    · rw [if_pos h, decide_eq_true h]; rfl
    · rw [if_neg h, decide_eq_false h, Bool.false_or]
theorem dput_new {xs : List (κ × τ)} {k : κ} {y : τ} (h : dval xs k = none) : dput xs k y = xs ++ [(k, y)] := by
  unfold dput
  rw [dval_any, h]
  rfl
theorem dval_put (xs : List (κ × τ)) (k j : κ) (y : τ) : dval (dput xs k y) j = if j = k then some y else dval xs j := by
  by_cases h : (dval xs k).isSome = true
  · unfold dput
    rw [dval_any, if_pos h]
    have key : ∀ xs : List (κ × τ), dval (xs.map fun z => if z.1 = k then (z.1, y) else z) j = if j = k then (dval xs k).map (fun _ => y) else dval xs j := by
      intro xs
      induction xs with
      | nil => rw [List.map_nil, dval_nil, dval_nil]; split <;> rfl
      | cons z r ih =>
        obtain ⟨i, x⟩ := z
        rw [List.map_cons]
        dsimp only
        by_cases hi : i = k
        · subst hi
          rw [if_pos rfl, dval_cons, dval_cons, dval_cons, ih, if_pos rfl]
          by_cases hj : j = i
          · subst hj; rw [if_pos rfl, if_pos rfl]; rfl
          · rw [if_neg hj, if_neg hj, if_neg (fun z => hj z.symm), if_neg (fun z => hj z.symm)]
        · rw [if_neg hi, dval_cons, dval_cons, dval_cons, ih, if_neg hi]
          by_cases hj : j = k
          · subst hj; rw [if_pos rfl, if_pos rfl, if_neg hi]
          · rw [if_neg hj, if_neg hj]
    rw [key]
    obtain ⟨w, hw⟩ := Option.isSome_iff_exists.mp h
    rw [hw]; rfl
  · have h0 : dval xs k = none := by
      cases hh : dval xs k with
      | none => rfl
      | some w => rw [hh] at h; exact absurd rfl h
    rw [dput_new h0, dval_app, dval_cons, dval_nil]
    by_cases hj : j = k
    · subst hj; rw [if_pos rfl, if_pos rfl, h0]; rfl
    · rw [if_neg hj, if_neg (fun z => hj z.symm), Option.or_none]
theorem dput_len (xs : List (κ × τ)) (k : κ) (y : τ) : (dput xs k y).length ≤ xs.length + 1 := by
  unfold dput
  split
  · rw [List.length_map]; omega
  · rw [List.length_append]; exact Nat.le_refl _
theorem dval_idx {xs : List (κ × τ)} {k : κ} {y : τ} (h : dval xs k = some y) : ∃ i : Nat, xs[i]? = some (k, y) := by
  induction xs with
  | nil => cases h
  | cons z r ih =>
    obtain ⟨i, x⟩ := z
    rw [dval_cons] at h
    split at h
    · rename_i e; subst e; cases h; exact ⟨0, rfl⟩
    · obtain ⟨n, hn⟩ := ih h; exact ⟨n + 1, by simpa using hn⟩
theorem dval_none_of {xs : List (κ × τ)} {k : κ} (h : ∀ z ∈ xs, z.1 ≠ k) : dval xs k = none := by
  cases hh : dval xs k with
  | none => rfl
  | some y =>
    obtain ⟨i, hi⟩ := dval_idx hh
    exact absurd rfl (h _ (List.mem_of_getElem? hi))
theorem dval_get {xs : List (κ × τ)} (hn : (xs.map (·.1)).Nodup) {i : Nat} {e : κ × τ} (h : xs[i]? = some e) : dval xs e.1 = some e.2 := by
  induction xs generalizing i with
  | nil => simp at h
  | cons z r ih =>
    obtain ⟨j, x⟩ := z
    rw [dval_cons]
    rw [List.map_cons, List.nodup_cons] at hn
    cases i with
    | zero => simp at h; subst h; rw [if_pos rfl]
    | succ i =>
      have h2 : r[i]? = some e := by simpa using h
      rw [if_neg, ih hn.2 h2]
      intro ee
      exact hn.1 (List.mem_map.mpr ⟨e, List.mem_of_getElem? h2, ee.symm⟩)
theorem dval_some_key {xs : List (κ × τ)} {k : κ} : (dval xs k).isSome = true ↔ k ∈ xs.map (·.1) := by
  rw [← dval_any, List.any_eq_true, List.mem_map]
  constructor
  · rintro ⟨z, hz, e⟩; exact ⟨z, hz, of_decide_eq_true e⟩
  · rintro ⟨z, hz, e⟩; exact ⟨z, hz, decide_eq_true e⟩
end
theorem nd_sub_len {α : Type} [DecidableEq α] : ∀ {l m : List α}, l.Nodup → (∀ x ∈ l, x ∈ m) → l.length ≤ m.length
  | [], _, _, _ => Nat.zero_le _
  | x :: r, m, hn, h => by
    rw [List.nodup_cons] at hn
    have h1 := h x List.mem_cons_self
    have h2 := nd_sub_len (l := r) (m := m.erase x) hn.2 (fun y hy => (List.mem_erase_of_ne (fun e => hn.1 (by rw [← e]; exact hy))).mpr (h y (List.mem_cons_of_mem _ hy)))
    rw [List.length_erase_of_mem h1] at h2
    have := List.length_pos_of_mem h1
    rw [List.length_cons]
    omega
theorem ok_whileN {β : Type} {c : β → Option Bool} {f : β → Option β} (I : Nat → β → Prop) {Q : β → Prop} (hc : ∀ m b, I m b → Ok (c b) (fun t => if t = true then Ok (f b) (fun b' => ∃ m', m' < m ∧ I m' b') else Q b)) : ∀ (n m : Nat) (b : β), I m b → m < n → Ok (whileO c f n b) Q
  | 0, m, b, _, h => absurd h (Nat.not_lt_zero _)
  | n + 1, m, b, hI, h => by
    unfold whileO
    refine ok_bnd (hc m b hI) fun t ht => ?_
    cases t with
    | true =>
      rw [if_pos rfl] at ht ⊢
      exact ok_bnd ht fun b' ⟨m', h1, h2⟩ => ok_whileN I hc n m' b' h2 (by omega)
    | false =>
      rw [if_neg Bool.false_ne_true] at ht ⊢
      exact ok_some ht
def Cn (ps : List (Str × Tu Str)) (ss : List (Tu Str)) (k s : Int) : Prop := 0 ≤ k ∧ k < ps.length ∧ 0 ≤ s ∧ s < ss.length ∧ ∀ p t, atI ps k = some p → atI ss s = some t → can p t = true
structure Sd (ps : List (Str × Tu Str)) (ss : List (Tu Str)) (n : Nat) (own : List (Int × Int)) (row : List (Option Int)) : Prop where
  len : row.length = ss.length
  fil : ∀ k : Nat, k < n → ∃ p : Int, row[k]? = some (some p) ∧ Cn ps ss p k
  emp : ∀ k : Nat, n ≤ k → k < ss.length → row[k]? = some none
  iff : ∀ p s : Int, dval own p = some s ↔ (0 ≤ s ∧ row[s.toNat]? = some (some p))
structure Rd0 (ps : List (Str × Tu Str)) (ss : List (Tu Str)) (own : List (Int × Int)) (first : Int) (ahead : List (Int × Int)) (reached : List Int) : Prop where
  nd : (ahead.map (·.1)).Nodup
  l0 : reached[0]? = some first
  len : reached.length = ahead.length + 1
  own : ∀ (i : Nat) (e : Int × Int), ahead[i]? = some e → ∃ s, dval own e.1 = some s ∧ reached[i + 1]? = some s
  par : ∀ (i : Nat) (e : Int × Int), ahead[i]? = some e → Cn ps ss e.1 e.2 ∧ ∃ j : Nat, j ≤ i ∧ reached[j]? = some e.2
theorem Rd0.big {ps : List (Str × Tu Str)} {ss : List (Tu Str)} {own : List (Int × Int)} {first : Int} {ahead : List (Int × Int)} {reached : List Int} (h : Rd0 ps ss own first ahead reached) : ahead.length ≤ ps.length := by
  have h1 := nd_sub_len (m := rng 0 (ps.length : Int)) h.nd (fun x hx => by
    obtain ⟨e, he, rfl⟩ := List.mem_map.mp hx
    obtain ⟨i, hi⟩ := List.mem_iff_getElem?.mp he
    have := (h.par i e hi).1
    exact mem_rng.mpr ⟨this.1, this.2.1⟩)
  rw [List.length_map, rng_len] at h1
  omega
theorem Rd0.seat {ps : List (Str × Tu Str)} {ss : List (Tu Str)} {own : List (Int × Int)} {ahead : List (Int × Int)} {reached : List Int} {n : Nat} {row : List (Option Int)} (h : Rd0 ps ss own n ahead reached) (sd : Sd ps ss n own row) (hn : n < ss.length) {s : Int} (hs : s ∈ reached) : 0 ≤ s ∧ s < ss.length := by
  obtain ⟨j, hj⟩ := List.mem_iff_getElem?.mp hs
  cases j with
  | zero => rw [h.l0] at hj; cases hj; omega
  | succ j =>
    have hl := (List.getElem?_eq_some_iff.mp hj).1
    have hl2 : j < ahead.length := by have := h.len; omega
    obtain ⟨s', h1, h2⟩ := h.own j _ (List.getElem?_eq_getElem hl2)
    rw [hj] at h2
    cases h2
    obtain ⟨a, b⟩ := (sd.iff _ _).mp h1
    have := (List.getElem?_eq_some_iff.mp b).1
    have := sd.len
    omega
theorem Rd0.ndr {ps : List (Str × Tu Str)} {ss : List (Tu Str)} {own : List (Int × Int)} {ahead : List (Int × Int)} {reached : List Int} {n : Nat} {row : List (Option Int)} (h : Rd0 ps ss own n ahead reached) (sd : Sd ps ss n own row) (hn : n < ss.length) : ∀ (i j : Nat) (s : Int), reached[i]? = some s → reached[j]? = some s → i = j := by
  have hl := h.len
  have hemp := sd.emp n (Nat.le_refl _) hn
  have key : ∀ (j : Nat) (s : Int), reached[j + 1]? = some s → ∃ e, ahead[j]? = some e ∧ dval own e.1 = some s := fun j s hj => by
    have hl1 := (List.getElem?_eq_some_iff.mp hj).1
    have hl2 : j < ahead.length := by omega
    obtain ⟨s', h1, h2⟩ := h.own j _ (List.getElem?_eq_getElem hl2)
    rw [hj] at h2
    cases h2
    exact ⟨_, List.getElem?_eq_getElem hl2, h1⟩
  intro i j s hi hj
  cases i with
  | zero =>
    cases j with
    | zero => rfl
    | succ j =>
      rw [h.l0] at hi
      cases hi
      obtain ⟨e, h1, h2⟩ := key j _ hj
      have := ((sd.iff _ _).mp h2).2
      rw [Int.toNat_natCast, hemp] at this
      cases this
  | succ i =>
    cases j with
    | zero =>
      rw [h.l0] at hj
      cases hj
      obtain ⟨e, h1, h2⟩ := key i _ hi
      have := ((sd.iff _ _).mp h2).2
      rw [Int.toNat_natCast, hemp] at this
      cases this
    | succ j =>
      obtain ⟨e, h1, h2⟩ := key i _ hi
      obtain ⟨f, g1, g2⟩ := key j _ hj
      have a1 := ((sd.iff _ _).mp h2).2
      have a2 := ((sd.iff _ _).mp g2).2
      rw [a1] at a2
      have e1 : e.1 = f.1 := Option.some.inj (Option.some.inj a2)
      have m1 : (ahead.map (·.1))[i]? = some e.1 := by rw [List.getElem?_map, h1]; rfl
      have m2 : (ahead.map (·.1))[j]? = some e.1 := by rw [List.getElem?_map, g1, e1]; rfl
      obtain ⟨b1, c1⟩ := List.getElem?_eq_some_iff.mp m1
      obtain ⟨b2, c2⟩ := List.getElem?_eq_some_iff.mp m2
      have := (List.getElem_inj h.nd (h₀ := b1) (h₁ := b2)).mp (c1.trans c2.symm)
      omega
theorem Rd0.snoc {ps : List (Str × Tu Str)} {ss : List (Tu Str)} {own : List (Int × Int)} {first : Int} {ahead : List (Int × Int)} {reached : List Int} (h : Rd0 ps ss own first ahead reached) {k s t : Int} (hk : dval ahead k = none) (hs : s ∈ reached) (hc : Cn ps ss k s) (ht : dval own k = some t) : Rd0 ps ss own first (ahead ++ [(k, s)]) (reached ++ [t]) := by
  have hl := h.len
  have key : k ∉ ahead.map (·.1) := fun hm => by
    have := dval_some_key.mpr hm
    rw [hk] at this
    cases this
  refine ⟨?_, ?_, by rw [List.length_append, List.length_append, hl]; rfl, fun i e hi => ?_, fun i e hi => ?_⟩
  · rw [List.map_append, List.nodup_append]
    refine ⟨h.nd, by simp, fun a ha b hb e => ?_⟩
    simp at hb
    exact key (by rw [← hb, ← e]; exact ha)
  · rw [List.getElem?_append_left (by omega)]; exact h.l0
  · by_cases hlt : i < ahead.length
    · rw [List.getElem?_append_left hlt] at hi
      obtain ⟨s', a, b⟩ := h.own i e hi
      exact ⟨s', a, by rw [List.getElem?_append_left (by omega)]; exact b⟩
    · have : i = ahead.length := by
        have := (List.getElem?_eq_some_iff.mp hi).1
        rw [List.length_append, List.length_singleton] at this
        omega
      subst this
      rw [List.getElem?_append_right (Nat.le_refl _), Nat.sub_self] at hi
      cases hi
      exact ⟨t, ht, by rw [← hl, List.getElem?_append_right (Nat.le_refl _), Nat.sub_self]; rfl⟩
  · by_cases hlt : i < ahead.length
    · rw [List.getElem?_append_left hlt] at hi
      obtain ⟨a, j, b, c⟩ := h.par i e hi
      exact ⟨a, j, b, by rw [List.getElem?_append_left (by omega)]; exact c⟩
    · have : i = ahead.length := by
        have := (List.getElem?_eq_some_iff.mp hi).1
        rw [List.length_append, List.length_singleton] at this
        omega
      subst this
      rw [List.getElem?_append_right (Nat.le_refl _), Nat.sub_self] at hi
      cases hi
      obtain ⟨j, hj⟩ := List.mem_iff_getElem?.mp hs
      have := (List.getElem?_eq_some_iff.mp hj).1
      exact ⟨hc, j, by omega, by rw [List.getElem?_append_left this]; exact hj⟩
def Road (ps : List (Str × Tu Str)) (ss : List (Tu Str)) (own : List (Int × Int)) (first : Int) (r : T3 (Option Int) (List (Int × Int)) (List Int)) : Prop :=
  match r.a with
  | none => Rd0 ps ss own first r.b r.c ∧ ∀ s ∈ r.c, ∀ k, Cn ps ss k s → k ∈ r.b.map (·.1)
  | some k => ∃ (ahead : List (Int × Int)) (s : Int), Rd0 ps ss own first ahead r.c ∧ dval ahead k = none ∧ s ∈ r.c ∧ Cn ps ss k s ∧ dval own k = none ∧ r.b = ahead ++ [(k, s)]
theorem road_ok {ps : List (Str × Tu Str)} {ss : List (Tu Str)} {own : List (Int × Int)} {row : List (Option Int)} {n : Nat} (hp : ps.length ≤ 1000) (hs : ss.length ≤ 1000) (sd : Sd ps ss n own row) (hn : n < ss.length) : Ok (m_road_from ps ss own n) (Road ps ss own n) := by
  unfold m_road_from
  have hz := szl
  refine ok_lt fun r0 hr0 => ok_lt fun at0 hat0 => ?_
  refine ok_bnd (P := fun o => match o with
    | .nx b => Road ps ss own n ⟨none, b.1, b.2.1⟩
    | .rt r => Road ps ss own n r) (ok_whileF (fun b => Rd0 ps ss own n b.1 b.2.1 ∧ 0 ≤ b.2.2 ∧ b.2.2 ≤ b.2.1.length ∧ ∀ (j : Nat) (s : Int), (j : Int) < b.2.2 → b.2.1[j]? = some s → ∀ k, Cn ps ss k s → k ∈ b.1.map (·.1)) (fun b => 1002 - b.2.2.toNat) ?_ _ _ ?_ (by rw [fuel_eq]; omega)) ?_
  · rintro ⟨ahead, reached, a⟩ ⟨hr, a0, a1, hx⟩
    dsimp only at hr a0 a1 hx ⊢
    have hrl := hr.len
    have hbg := hr.big
    refine ok_some ?_
    split
    · rename_i hlt
      have hlt := of_decide_eq_true hlt
      obtain ⟨s, hs1, hs2, hs3⟩ := at_in a0 hlt
      obtain ⟨sq0, sq1⟩ := hr.seat sd hn hs2
      obtain ⟨st, hst, hst2, _⟩ := at_in sq0 sq1
      refine ok_chk ⟨by omega, by omega⟩ (ok_bnd (P := fun o => match o with
        | .nx b => Rd0 ps ss own n b.1 b.2 ∧ (∃ e, ahead ++ e = b.1) ∧ (∃ e, reached ++ e = b.2) ∧ ∀ k, Cn ps ss k s → k ∈ b.1.map (·.1)
        | .rt r => Road ps ss own n r) (ok_foldF (fun i b => Rd0 ps ss own n b.1 b.2 ∧ (∃ e, ahead ++ e = b.1) ∧ (∃ e, reached ++ e = b.2) ∧ ∀ k, k < (i : Int) → Cn ps ss k s → k ∈ b.1.map (·.1)) (Road ps ss own n) ?_ ?_ ?_ ?_) ?_)
      · exact ⟨hr, ⟨[], List.append_nil _⟩, ⟨[], List.append_nil _⟩, fun k hk hc => by have := hc.1; omega⟩
      · rintro i ⟨ah, re⟩ k hk ⟨j1, ⟨e1, he1⟩, ⟨e2, he2⟩, j4⟩
        dsimp only at j1 he1 he2 j4 ⊢
        obtain ⟨ek, ekl⟩ := rng_at hk
        have k0 : 0 ≤ k := by omega
        have k1 : k < ps.length := by omega
        have hbg1 := j1.big
        have hrl1 := j1.len
        have hsr : s ∈ re := by rw [← he2]; exact List.mem_append_left _ hs2
        have hat : atI re a = some s := by
          rw [atI_get a0 (by rw [← he2, List.length_append]; omega), ← he2, List.getElem?_append_left (by omega)]
          exact hs3
        obtain ⟨p, hpk, hp2, _⟩ := at_in k0 k1
        rw [hpk, hat]
        refine ok_bnd (P := fun c => c = (!(dval ah k).isSome && can p st)) (ok_andO (fun h => ?_) (fun h => by rw [h]; rfl)) fun c hc => ?_
        · rw [h, Bool.true_and]
          show Ok (bnd (atI ss s) _) _
          rw [hst]
          show Ok (bnd (m_can_sit p st) _) _
          rw [can_eq]
          exact ok_some rfl
        · subst hc
          refine ok_bnd (P := fun o => match o with
            | .nx b => Rd0 ps ss own n b.1 b.2 ∧ (∃ e, ahead ++ e = b.1) ∧ (∃ e, reached ++ e = b.2) ∧ ∀ k', k' < ((i + 1 : Nat) : Int) → Cn ps ss k' s → k' ∈ b.1.map (·.1)
            | .rt r => Road ps ss own n r) (ok_ite (fun h => ?_) (fun h => ?_)) fun o ho => ?_
          · rw [Bool.and_eq_true, Bool.not_eq_true'] at h
            have hnone : dval ah k = none := Option.not_isSome_iff_eq_none.mp (by rw [h.1]; exact Bool.false_ne_true)
            have hcn : Cn ps ss k s := ⟨k0, k1, sq0, sq1, fun p' t' h1 h2 => by rw [hpk] at h1; rw [hst] at h2; cases h1; cases h2; exact h.2⟩
            show Ok (bnd (some s) _) _
            refine ok_bnd (P := fun z => z = s) (ok_some rfl) fun z hz1 => ?_
            subst hz1
            refine ok_chk (by omega) (ok_lt fun kv hkv => ok_ite (fun ho => ok_some ?_) (fun ho => ?_))
            · rw [Bool.not_eq_true'] at ho
              have hno : dval own k = none := Option.not_isSome_iff_eq_none.mp (by rw [ho]; exact Bool.false_ne_true)
              exact ⟨ah, z, j1, hnone, hsr, hcn, hno, by rw [hkv, dput_new hnone]⟩
            · rw [Bool.not_eq_false'] at ho
              obtain ⟨t, ht⟩ := Option.isSome_iff_exists.mp ho
              rw [ht]
              refine ok_bnd (P := fun y => y = t) (ok_some rfl) fun y hy => ?_
              subst hy
              refine ok_chk (by omega) (ok_lt fun re' hre => ok_some ?_)
              rw [hkv, hre, dput_new hnone]
              refine ⟨j1.snoc hnone hsr hcn ht, ⟨e1 ++ [(k, z)], by rw [← he1, List.append_assoc]⟩, ⟨e2 ++ [y], by rw [← he2, List.append_assoc]⟩, fun k' hk' hc' => ?_⟩
              rw [List.map_append]
              by_cases hkk : k' = k
              · exact List.mem_append_right _ (by rw [hkk]; exact List.mem_singleton.mpr rfl)
              · exact List.mem_append_left _ (j4 k' (by omega) hc')
          · refine ok_some ⟨j1, ⟨e1, he1⟩, ⟨e2, he2⟩, fun k' hk' hc' => ?_⟩
            by_cases hkk : k' = k
            · subst hkk
              rw [Bool.and_eq_false_iff, hc'.2.2.2.2 p st hpk hst, Bool.not_eq_false'] at h
              rcases h with h | h
              · exact dval_some_key.mp h
              · cases h
            · exact j4 k' (by omega) hc'
          · refine ok_go (fun b hb => ?_) (fun r hb => ?_)
            · subst hb; exact ok_some ho
            · subst hb; exact ok_some ho
      · rintro b ⟨j1, j2, j3, j4⟩
        refine ⟨j1, j2, j3, fun k hc => j4 k ?_ hc⟩
        rw [rng_len_nn (by omega)]
        have := hc.2.1
        omega
      · exact fun r h => h
      · intro o ho
        refine ok_go (fun b hb => ?_) (fun r hb => ?_)
        · subst hb
          obtain ⟨j1, ⟨e1, he1⟩, ⟨e2, he2⟩, j4⟩ := ho
          have hl2 : reached.length ≤ b.2.length := by rw [← he2, List.length_append]; omega
          have hbg1 := j1.big
          have hrl1 := j1.len
          refine ok_lt fun a' ha' => ok_some ⟨⟨j1, by dsimp only; omega, by dsimp only; omega, fun j s' hj hs' k hc => ?_⟩, by dsimp only; omega⟩
          dsimp only at hj hs' ⊢
          have hjr : j < reached.length := by omega
          rw [← he2, List.getElem?_append_left hjr] at hs'
          by_cases hja : (j : Int) < a
          · rw [← he1, List.map_append]
            exact List.mem_append_left _ (hx j s' hja hs' k hc)
          · have : j = a.toNat := by omega
            rw [this, hs3] at hs'
            cases hs'
            exact j4 k hc
        · subst hb; exact ok_some ho
    · rename_i hlt
      have hlt : ¬ a < (reached.length : Int) := by simpa using hlt
      refine ⟨hr, fun s hs k hc => ?_⟩
      obtain ⟨j, hj⟩ := List.mem_iff_getElem?.mp hs
      have := (List.getElem?_eq_some_iff.mp hj).1
      dsimp only at this
      exact hx j s (by omega) hj k hc
  · refine ⟨⟨by simp, by rw [hr0]; rfl, by rw [hr0]; rfl, fun i e h => by simp at h, fun i e h => by simp at h⟩, by dsimp only; omega, by dsimp only; omega, fun j s hj => by dsimp only at hj; omega⟩
  · intro o ho
    refine ok_go (fun b hb => ?_) (fun r hb => ?_)
    · subst hb; exact ok_some ho
    · subst hb; exact ok_some ho
theorem ixN_get {n : Nat} {i : Int} (h0 : 0 ≤ i) (h1 : i < n) : ixN n i = some i.toNat := by
  unfold ixN
  rw [if_pos h0, if_pos (by omega)]
structure Sh (ps : List (Str × Tu Str)) (ss : List (Tu Str)) (n : Nat) (own : List (Int × Int)) (row : List (Option Int)) (q : Int) : Prop where
  len : row.length = ss.length
  fil : ∀ k : Nat, k < n → ∃ p : Int, row[k]? = some (some p) ∧ Cn ps ss p k
  emp : ∀ k : Nat, n ≤ k → k < ss.length → row[k]? = some none
  iff : ∀ p s : Int, p ≠ q → (dval own p = some s ↔ (0 ≤ s ∧ row[s.toNat]? = some (some p)))
  no : ∀ k : Nat, row[k]? ≠ some (some q)
theorem getset {α : Type} {xs : List α} {i j : Nat} {x : α} (h : i < xs.length) : (xs.set i x)[j]? = if j = i then some x else xs[j]? := by
  rw [List.getElem?_set]
  by_cases e : i = j
  · subst e
    rw [if_pos rfl, if_pos h, if_pos rfl]
  · rw [if_neg e, if_neg (fun z => e z.symm)]
theorem Sh.turn {ps : List (Str × Tu Str)} {ss : List (Tu Str)} {n : Nat} {own : List (Int × Int)} {row : List (Option Int)} {q f : Int} {s : Nat} (h : Sh ps ss n own row q) (hs : row[s]? = some (some f)) (hc : Cn ps ss q s) : Sh ps ss n (dput own q s) (row.set s (some q)) f := by
  have hl := (List.getElem?_eq_some_iff.mp hs).1
  have hqf : q ≠ f := fun e => h.no s (by rw [hs, e])
  have hsn : s < n := by
    by_cases z : s < n
    · exact z
    · have := h.emp s (by omega) (by have := h.len; omega)
      rw [hs] at this
      cases this
  refine ⟨by rw [List.length_set]; exact h.len, fun k hk => ?_, fun k hk hk2 => ?_, fun p t hp => ?_, fun k hk => ?_⟩
  · rw [getset hl]
    by_cases e : k = s
    · subst e; exact ⟨q, if_pos rfl, hc⟩
    · rw [if_neg e]; exact h.fil k hk
  · rw [getset hl, if_neg (by omega)]
    exact h.emp k hk hk2
  · rw [dval_put, getset hl]
    by_cases e : p = q
    · subst e
      rw [if_pos rfl]
      constructor
      · intro z
        cases z
        rw [Int.toNat_natCast, if_pos rfl]
        exact ⟨by omega, rfl⟩
      · rintro ⟨t0, z⟩
        split at z
        · rename_i e2; rw [← e2, Int.toNat_of_nonneg t0]
        · exact absurd z (h.no _)
    · rw [if_neg e, h.iff p t e]
      by_cases e2 : t.toNat = s
      · rw [if_pos e2, e2, hs]
        constructor
        · rintro ⟨_, z⟩; exact absurd (Option.some.inj (Option.some.inj z)).symm hp
        · rintro ⟨_, z⟩; exact absurd (Option.some.inj (Option.some.inj z)).symm e
      · rw [if_neg e2]
  · rw [getset hl] at hk
    split at hk
    · exact hqf (Option.some.inj (Option.some.inj hk))
    · rename_i e
      have a1 := (h.iff f s (fun z => hqf z.symm)).mpr ⟨by omega, by rw [Int.toNat_natCast]; exact hs⟩
      have a2 := (h.iff f k (fun z => hqf z.symm)).mpr ⟨by omega, by rw [Int.toNat_natCast]; exact hk⟩
      rw [a1] at a2
      have := Option.some.inj a2
      omega
theorem Sh.last {ps : List (Str × Tu Str)} {ss : List (Tu Str)} {n : Nat} {own : List (Int × Int)} {row : List (Option Int)} {q : Int} (h : Sh ps ss n own row q) (hn : n < ss.length) (hc : Cn ps ss q n) : Sd ps ss (n + 1) (dput own q n) (row.set n (some q)) := by
  have hl : n < row.length := by rw [h.len]; exact hn
  have hem := h.emp n (Nat.le_refl _) hn
  refine ⟨by rw [List.length_set]; exact h.len, fun k hk => ?_, fun k hk hk2 => ?_, fun p t => ?_⟩
  · rw [getset hl]
    by_cases e : k = n
    · subst e; exact ⟨q, if_pos rfl, hc⟩
    · rw [if_neg e]; exact h.fil k (by omega)
  · rw [getset hl, if_neg (by omega)]
    exact h.emp k (by omega) hk2
  · rw [dval_put, getset hl]
    by_cases e : p = q
    · subst e
      rw [if_pos rfl]
      constructor
      · intro z
        cases z
        rw [Int.toNat_natCast, if_pos rfl]
        exact ⟨by omega, rfl⟩
      · rintro ⟨t0, z⟩
        split at z
        · rename_i e2; rw [← e2, Int.toNat_of_nonneg t0]
        · exact absurd z (h.no _)
    · rw [if_neg e, h.iff p t e]
      by_cases e2 : t.toNat = n
      · rw [if_pos e2, e2, hem]
        constructor
        · rintro ⟨_, z⟩; cases z
        · rintro ⟨_, z⟩; exact absurd (Option.some.inj (Option.some.inj z)).symm e
      · rw [if_neg e2]
theorem shift_ok {ps : List (Str × Tu Str)} {ss : List (Tu Str)} {own : List (Int × Int)} {row : List (Option Int)} {n : Nat} {ahead : List (Int × Int)} {reached : List Int} {k s : Int} (hp : ps.length ≤ 1000) (hs : ss.length ≤ 1000) (sd : Sd ps ss n own row) (hn : n < ss.length) (hr : Rd0 ps ss own n ahead reached) (hk : dval ahead k = none) (hsr : s ∈ reached) (hc : Cn ps ss k s) (ho : dval own k = none) (hol : own.length ≤ 1001 * n) : Ok (m_shift_along own row (ahead ++ [(k, s)]) (some k)) (fun r => Sd ps ss (n + 1) r.1 r.2 ∧ r.1.length ≤ 1001 * (n + 1)) := by
  unfold m_shift_along
  have hz := szl
  have hbg := hr.big
  have hrl := hr.len
  have knot : k ∉ ahead.map (·.1) := fun hm => by
    have := dval_some_key.mpr hm
    rw [hk] at this
    cases this
  have hnd : ((ahead ++ [(k, s)]).map (·.1)).Nodup := by
    rw [List.map_append, List.nodup_append]
    refine ⟨hr.nd, by simp, fun a ha b hb e => ?_⟩
    simp at hb
    exact knot (by rw [← hb, ← e]; exact ha)
  have hpar : ∀ (i : Nat) (e : Int × Int), (ahead ++ [(k, s)])[i]? = some e → Cn ps ss e.1 e.2 ∧ ∃ j : Nat, j ≤ i ∧ reached[j]? = some e.2 := fun i e hi => by
    by_cases hlt : i < ahead.length
    · rw [List.getElem?_append_left hlt] at hi
      exact hr.par i e hi
    · have : i = ahead.length := by
        have := (List.getElem?_eq_some_iff.mp hi).1
        rw [List.length_append, List.length_singleton] at this
        omega
      subst this
      rw [List.getElem?_append_right (Nat.le_refl _), Nat.sub_self] at hi
      cases hi
      obtain ⟨j, hj⟩ := List.mem_iff_getElem?.mp hsr
      have := (List.getElem?_eq_some_iff.mp hj).1
      exact ⟨hc, j, by omega, hj⟩
  refine ok_bnd (P := fun b => Sd ps ss (n + 1) b.2.1 b.1 ∧ b.2.1.length ≤ 1001 * (n + 1)) (ok_whileN (fun m b => m + b.2.1.length ≤ 1001 * (n + 1) ∧ m ≤ 1001 ∧ match b.2.2 with
    | none => Sd ps ss (n + 1) b.2.1 b.1
    | some q => ∃ (i : Nat) (e : Int × Int), m = i + 1 ∧ (ahead ++ [(k, s)])[i]? = some e ∧ e.1 = q ∧ Sh ps ss n b.2.1 b.1 q ∧ ∀ (j : Nat) (t : Int), j ≤ i → reached[j]? = some t → b.1[t.toNat]? = row[t.toNat]?) ?_ _ (ahead.length + 1) _ ?_ (by rw [fuel_eq]; omega)) ?_
  · rintro m ⟨row1, own1, q1⟩ ⟨hm, hm2, hI⟩
    dsimp only at hm hI ⊢
    refine ok_some ?_
    cases q1 with
    | none =>
      rw [if_neg (show ¬ (none : Option Int).isSome = true by decide)]
      exact ⟨hI, by omega⟩
    | some q =>
      obtain ⟨i, e, rfl, hi, rfl, sh, un⟩ := hI
      obtain ⟨hcn, j, hji, hj⟩ := hpar i e hi
      have hdv := dval_get hnd hi
      rw [if_pos (show (some e.1).isSome = true from rfl)]
      refine ok_bnd (P := fun z => z = e.1) (ok_some rfl) fun z hz1 => ?_
      subst hz1
      refine ok_bnd (P := fun z => z = e.2) (ok_eq hdv rfl) fun z hz1 => ok_lt fun z2 hz2 => ?_
      subst hz1
      subst hz2
      obtain ⟨c1, c2, c3, c4, c5⟩ := hcn
      have hlen := sh.len
      obtain ⟨f, hf, _, hf2⟩ := at_in (xs := row1) c3 (by omega)
      refine ok_bnd (P := fun z => z = f) (ok_eq hf rfl) fun z hz1 => ok_lt fun z2 hz2 => ?_
      subst hz1
      subst hz2
      refine ok_bnd (P := fun z => z = e.2.toNat) (ok_eq (ixN_get c3 (by omega)) rfl) fun z hz1 => ok_lt fun ls hls => ?_
      subst hz1
      subst hls
      refine ok_bnd (P := fun z => z = e.1) (ok_some rfl) fun z hz1 => ?_
      subst hz1
      refine ok_chk (by omega) (ok_lt fun kv hkv => ok_lt fun pl hpl => ok_some ?_)
      subst hkv
      subst hpl
      have hkl := dput_len own1 e.1 e.2
      have hse : ((e.2.toNat : Nat) : Int) = e.2 := Int.toNat_of_nonneg c3
      have hcn' : Cn ps ss e.1 ((e.2.toNat : Nat) : Int) := by rw [hse]; exact ⟨c1, c2, c3, c4, c5⟩
      have hun := un j e.2 hji hj
      rw [hf2] at hun
      cases j with
      | zero =>
        rw [hr.l0] at hj
        have hj := Option.some.inj hj
        have hjn : e.2.toNat = n := by omega
        rw [hjn, sd.emp n (Nat.le_refl _) hn] at hun
        have hun := Option.some.inj hun
        subst hun
        refine ⟨0, by omega, by dsimp only; omega, by omega, ?_⟩
        dsimp only
        have := sh.last hn (by rw [hjn] at hcn'; exact hcn')
        rw [hjn, ← hj]
        exact this
      | succ j =>
        have hjl := (List.getElem?_eq_some_iff.mp hj).1
        have hja : j < ahead.length := by omega
        obtain ⟨t, o1, o2⟩ := hr.own j _ (List.getElem?_eq_getElem hja)
        rw [hj] at o2
        have o2 := Option.some.inj o2
        subst o2
        have o3 := ((sd.iff _ _).mp o1).2
        rw [o3] at hun
        have hun := Option.some.inj hun
        subst hun
        refine ⟨j + 1, by omega, by dsimp only; omega, by omega, ?_⟩
        dsimp only
        refine ⟨j, ahead[j], rfl, by rw [List.getElem?_append_left hja, List.getElem?_eq_getElem hja], rfl, ?_, fun j' t' hj' ht' => ?_⟩
        · have := sh.turn hf2 hcn'
          rw [hse] at this
          exact this
        · have hts : t' ≠ e.2 := fun z => by
            have := hr.ndr sd hn j' (j + 1) e.2 (by rw [← z]; exact ht') hj
            omega
          obtain ⟨t0, _⟩ := hr.seat sd hn (List.mem_of_getElem? ht')
          rw [getset (by omega), if_neg (by omega)]
          exact un j' t' (by omega) ht'
  · dsimp only
    refine ⟨by omega, by omega, ahead.length, (k, s), rfl, by rw [List.getElem?_append_right (Nat.le_refl _), Nat.sub_self]; rfl, rfl, ⟨sd.len, sd.fil, sd.emp, fun p t _ => sd.iff p t, fun i hi => ?_⟩, fun _ _ _ _ => rfl⟩
    have := (sd.iff k i).mpr ⟨by omega, by rw [Int.toNat_natCast]; exact hi⟩
    rw [ho] at this
    cases this
  · exact fun b hb => ok_some hb
def Told (ps : List (Str × Tu Str)) (ss : List (Tu Str)) (r : Str × List (Option Int)) : Prop :=
  (r.1 = ("seated" : Str) ∧ ∃ own, Sd ps ss ss.length own r.2) ∨ (r.1 = ("short" : Str) ∧ ∃ (n : Nat) (own : List (Int × Int)) (row : List (Option Int)) (ahead : List (Int × Int)) (reached : List Int), n < ss.length ∧ Sd ps ss n own row ∧ Rd0 ps ss own n ahead reached ∧ (∀ s ∈ reached, ∀ k, Cn ps ss k s → k ∈ ahead.map (·.1)) ∧ r.2 = (sortI reached).map some)
theorem seat_all_ok {ps : List (Str × Tu Str)} {ss : List (Tu Str)} (hp : ps.length ≤ 1000) (hs : ss.length ≤ 1000) : Ok (m_seat_all ps ss) (Told ps ss) := by
  unfold m_seat_all
  have hz := szl
  have er : repl (ss.length : Int) [(none : Option Int)] = List.replicate ss.length none := by
    rw [repl_one]; rfl
  rw [er]
  refine ok_chk ⟨by omega, by omega, by show 1 * _ ≤ _; omega⟩ (ok_lt fun r0 hr0 => ok_chk ⟨by omega, by omega⟩ (ok_bnd (P := fun o => match o with
    | .nx b => Sd ps ss ss.length b.1 b.2
    | .rt r => Told ps ss r) (ok_foldF (fun i b => Sd ps ss i b.1 b.2 ∧ b.1.length ≤ 1001 * i) (Told ps ss) ?_ ?_ ?_ ?_) ?_))
  · subst hr0
    refine ⟨⟨List.length_replicate, fun k hk => absurd hk (Nat.not_lt_zero _), fun k _ hk => by rw [List.getElem?_replicate, if_pos hk], fun p s => ⟨fun h => (by cases h), fun ⟨_, h⟩ => ?_⟩⟩, Nat.zero_le _⟩
    dsimp only at h
    rw [List.getElem?_replicate] at h
    split at h <;> cases h
  · rintro i ⟨own, row⟩ x hx ⟨sd, hl⟩
    dsimp only at sd hl ⊢
    obtain ⟨e1, e2⟩ := rng_at hx
    have hi : i < ss.length := by omega
    rw [show x = (i : Int) by omega]
    refine ok_bnd (P := Road ps ss own i) (road_ok hp hs sd hi) fun r hr => ?_
    obtain ⟨a, b, c⟩ := r
    cases a with
    | none => exact ok_some (.inr ⟨rfl, i, own, row, b, c, hi, sd, hr.1, hr.2, rfl⟩)
    | some k =>
      obtain ⟨ahead, s, h1, h2, h3, h4, h5, h6⟩ := hr
      dsimp only at h1 h2 h3 h4 h5 h6 ⊢
      rw [h6]
      show Ok (bnd (m_shift_along own row (ahead ++ [(k, s)]) (some k)) _) _
      exact ok_bnd (shift_ok hp hs sd hi h1 h2 h3 h4 h5 hl) fun r hr => ok_some hr
  · rintro b ⟨h1, h2⟩
    rw [rng_len_nn (by omega), Int.toNat_natCast] at h1
    exact h1
  · exact fun r h => h
  · intro o ho
    refine ok_go (fun b hb => ?_) (fun r hb => ?_)
    · subst hb; exact ok_some (.inl ⟨rfl, _, ho⟩)
    · subst hb; exact ok_some ho
theorem cut_39 (xs : List Int) : (cut xs (some 3) (some 9)).length ≤ 6 ∧ (cut xs (some 3) (some 9)).length ≤ xs.length - 3 := by
  unfold cut
  have h1 : HT.sIx xs.length 0 (some 3) = min 3 xs.length := HT.sIx_nat xs.length 0 3
  have h2 : HT.sIx xs.length xs.length (some 9) = min 9 xs.length := HT.sIx_nat xs.length xs.length 9
  rw [List.length_take, List.length_drop, h1, h2]
  omega
theorem lcan_eq {p : Str × Tu Str} {s : Tu Str} (hg : s.l.length ≤ 4 ∧ ∀ x ∈ s.l, txt x) : m_l_can p s = some (can p s) := by
  unfold m_l_can
  have hz := szl
  have hfl := List.length_filter_le (fun x => !decide (x ∈ p.2.l)) s.l
  rw [List.map_id', chk_pos (by omega), chk_pos (shp_strs fun x hx => hg.2 x (List.mem_filter.mp hx).1), chk_pos (shp_strs fun x hx => by simp at hx)]
  congr 1
  unfold can
  rw [Bool.eq_iff_iff, decide_eq_true_iff, List.filter_eq_nil_iff, Bool.not_eq_true', List.any_eq_false]
theorem right_ok {ps : List (Str × Tu Str)} {ss : List (Tu Str)} {own : List (Int × Int)} {row : List (Option Int)} (hs : ss.length ≤ 1000) (hg : ∀ s ∈ ss, s.l.length ≤ 4 ∧ ∀ x ∈ s.l, txt x) (sd : Sd ps ss ss.length own row) : Ok (m_l_right ps ss row) (· = true) := by
  unfold m_l_right
  have hz := szl
  have hl := sd.len
  rw [hl, decide_eq_true (show (ss.length : Int) = (ss.length : Int) from rfl)]
  show Ok (chk _ (bnd (foldF _ _ _) _)) _
  refine ok_chk ⟨by omega, by omega⟩ (ok_bnd (P := fun o => o = .nx ()) (foldF_ok (fun x hx => ?_) rfl) fun o ho => by subst ho; exact ok_some rfl)
  obtain ⟨x0, x1⟩ := mem_rng.mp hx
  obtain ⟨p, hp, hc⟩ := sd.fil x.toNat (by omega)
  have hat : atI row x = some (some p) := by rw [atI_get x0 (by omega)]; exact hp
  obtain ⟨c0, c1, _, _, c4⟩ := hc
  obtain ⟨pl, hpl, _, _⟩ := at_in c0 c1
  obtain ⟨t, ht, htm, _⟩ := at_in (xs := ss) x0 (by omega)
  have hcan := c4 pl t hpl (by rw [Int.toNat_of_nonneg x0]; exact ht)
  have hcut : cut row none (some x) = row.take x.toNat := by
    have := cut_hi row x.toNat
    rw [Int.toNat_of_nonneg x0] at this
    exact this
  have hmem : memF (some p) (row.take x.toNat) = false := by
    rw [Bool.eq_false_iff]
    intro h
    have h := memF_iff.mp h
    obtain ⟨i, hi⟩ := List.mem_iff_getElem?.mp h
    rw [List.getElem?_take] at hi
    split at hi
    · rename_i hik
      have a1 := (sd.iff p i).mpr ⟨by omega, by rw [Int.toNat_natCast]; exact hi⟩
      have a2 := (sd.iff p x).mpr ⟨x0, hp⟩
      rw [a1] at a2
      have := Option.some.inj a2
      omega
    · cases hi
  rw [hat, ht, hcut]
  refine ok_bnd (P := fun z => z = some p) (ok_some rfl) fun z hz1 => ?_
  subst hz1
  refine ok_bnd (P := fun z => z = true) (ok_some rfl) fun z hz1 => ?_
  subst hz1
  refine ok_bnd (P := fun c => c = false) (ok_orO (fun _ => ok_bnd (P := fun z => z = some p) (ok_some rfl) fun z hz1 => ?_) (fun h => by cases h)) fun c hc2 => ?_
  · subst hz1
    refine ok_bnd (P := fun z => z = p) (ok_some rfl) fun z hz1 => ?_
    subst hz1
    refine ok_orO (fun _ => ok_bnd (P := fun y => y = some z) (ok_some rfl) fun y hy => ok_some (by rw [hy]; exact hmem)) (fun h => ?_)
    rw [decide_eq_true c0, decide_eq_true c1] at h
    cases h
  · subst hc2
    show Ok (bnd (atI ps p) _) _
    rw [hpl]
    show Ok (bnd (m_l_can pl t) _) _
    rw [lcan_eq (hg t htm), hcan]
    exact ok_some rfl
def seenB {α : Type} (T : α → Bool) (o : Option α) : Bool := match o with
  | some p => T p
  | none => false
theorem filter_idx {α : Type} {T : α → Bool} (xs : List α) : (xs.filter T).length = ((rng 0 (xs.length : Int)).filter (fun k => seenB T (atI xs k))).length := by
  have e1 : (rng 0 (xs.length : Int)).map (atI xs) = xs.map some := by
    refine List.ext_getElem? fun i => ?_
    rw [List.getElem?_map, List.getElem?_map]
    by_cases hi : i < xs.length
    · rw [rng_getE (by omega)]
      show some (atI xs (0 + (i : Int))) = _
      rw [Int.zero_add, atI_get (by omega) (by omega), Int.toNat_natCast, List.getElem?_eq_getElem hi]; rfl
    · rw [List.getElem?_eq_none (by rw [rng_len]; omega), List.getElem?_eq_none (by omega)]; rfl
  have e2 : (((rng 0 (xs.length : Int)).map (atI xs)).filter (seenB T)).length = ((xs.map some).filter (seenB T)).length := by rw [e1]
  rw [List.filter_map, List.filter_map, List.length_map, List.length_map] at e2
  exact e2.symm
theorem few_ok {ps : List (Str × Tu Str)} {ss : List (Tu Str)} {own : List (Int × Int)} {row : List (Option Int)} {n : Nat} {ahead : List (Int × Int)} {reached : List Int} (hp : ps.length ≤ 1000) (hs : ss.length ≤ 1000) (hg : ∀ s ∈ ss, s.l.length ≤ 4 ∧ ∀ x ∈ s.l, txt x) (hn : n < ss.length) (sd : Sd ps ss n own row) (hr : Rd0 ps ss own n ahead reached) (hx : ∀ s ∈ reached, ∀ k, Cn ps ss k s → k ∈ ahead.map (·.1)) : Ok (m_l_few ps ss ((sortI reached).map some)) (· = true) := by
  unfold m_l_few
  have hz := szl
  have hbg := hr.big
  have hrl := hr.len
  have hpm := sort_perm reached
  have hlen : ((sortI reached).map some).length = reached.length := by rw [List.length_map, hpm.length_eq]
  have hndr : reached.Nodup := by
    refine List.pairwise_iff_getElem.mpr fun i j hi hj hij e => ?_
    have := hr.ndr sd hn i j _ (List.getElem?_eq_getElem hi) (by rw [List.getElem?_eq_getElem hj, e])
    omega
  have hnd : (sortI reached).Nodup := hpm.nodup_iff.mpr hndr
  have hle : (sortI reached).Pairwise (· ≤ ·) := by
    have := List.pairwise_mergeSort (le := fun x y : Int => decide (x ≤ y)) (fun a b c h1 h2 => by simp at *; omega) (fun a b => by simp; omega) reached
    exact this.imp (by simp)
  rw [hlen]
  show Ok (chk _ (bnd (foldF _ _ _) _)) _
  have hget : ∀ x : Int, 0 ≤ x → x < reached.length → ∃ s, atI ((sortI reached).map some) x = some (some s) ∧ (sortI reached)[x.toNat]? = some s ∧ s ∈ reached ∧ 0 ≤ s ∧ s < ss.length := fun x x0 x1 => by
    have hl2 : x.toNat < (sortI reached).length := by rw [hpm.length_eq]; omega
    have hm := hpm.mem_iff.mp (List.getElem_mem hl2)
    refine ⟨(sortI reached)[x.toNat], ?_, List.getElem?_eq_getElem hl2, hm, hr.seat sd hn hm⟩
    rw [atI_get x0 (by rw [hlen]; exact x1), List.getElem?_map, List.getElem?_eq_getElem hl2]; rfl
  refine ok_chk ⟨by omega, by omega⟩ (ok_bnd (P := fun o => o = .nx ()) (foldF_ok (fun x hx2 => ?_) rfl) fun o ho => ?_)
  · obtain ⟨x0, x1⟩ := mem_rng.mp hx2
    obtain ⟨s, h1, h2, h3, h4, h5⟩ := hget x x0 x1
    rw [h1]
    refine ok_bnd (P := fun z => z = some s) (ok_some rfl) fun z hz1 => ?_
    subst hz1
    refine ok_bnd (P := fun z => z = true) (ok_some rfl) fun z hz1 => ?_
    subst hz1
    refine ok_bnd (P := fun c => c = false) (ok_orO (fun _ => ok_bnd (P := fun z => z = some s) (ok_some rfl) fun z hz1 => ?_) (fun h => by cases h)) fun c hc2 => ?_
    · subst hz1
      refine ok_bnd (P := fun z => z = s) (ok_some rfl) fun z hz1 => ok_some ?_
      subst hz1
      rw [decide_eq_true h4, decide_eq_true h5]; rfl
    · subst hc2
      refine ok_bnd (P := fun c => c = false) (ok_andO (fun h => ?_) (fun _ => rfl)) fun c hc2 => ?_
      · have hx0 : 0 < x := of_decide_eq_true h
        obtain ⟨s', g1, g2, g3, g4, g5⟩ := hget (x - 1) (by omega) (by omega)
        rw [g1]
        refine ok_bnd (P := fun z => z = some s') (ok_some rfl) fun z hz1 => ?_
        subst hz1
        refine ok_bnd (P := fun z => z = s') (ok_some rfl) fun z hz1 => ?_
        subst hz1
        refine ok_bnd (P := fun y => y = some s) (ok_some rfl) fun y hy => ?_
        subst hy
        refine ok_bnd (P := fun y => y = s) (ok_some rfl) fun y hy => ok_some ?_
        subst hy
        refine decide_eq_false fun hle2 => ?_
        obtain ⟨b1, c1⟩ := List.getElem?_eq_some_iff.mp g2
        obtain ⟨b2, c2⟩ := List.getElem?_eq_some_iff.mp h2
        have l1 := List.pairwise_iff_getElem.mp hle _ _ b1 b2 (by omega)
        have l2 := List.pairwise_iff_getElem.mp hnd _ _ b1 b2 (by omega)
        rw [c1, c2] at l1 l2
        omega
      · subst hc2
        exact ok_some rfl
  · subst ho
    rw [go_nx]
    let T : Str × Tu Str → Option Int → Bool := fun p x => match x with
      | some s => (match atI ss s with
        | some t => can p t
        | none => false)
      | none => false
    have hin : ∀ p : Str × Tu Str, compO (fun (x1352 : (Option Int)) => (bnd x1352 fun got1366 => (bnd (atI ss got1366) fun at1367 => (bnd (m_l_can p at1367) fun can1368 => (some can1368))))) (fun (x1352 : (Option Int)) => (some x1352)) ((sortI reached).map some) = some ((((sortI reached).map some).filter (T p)).map fun x => x) := fun p => by
      refine compO_eq (fun x hx3 => ?_) (fun x _ _ => rfl)
      obtain ⟨s, hs1, rfl⟩ := List.mem_map.mp hx3
      obtain ⟨s0, s1⟩ := hr.seat sd hn (hpm.mem_iff.mp hs1)
      obtain ⟨t, ht, htm, _⟩ := at_in s0 s1
      show bnd (atI ss s) _ = some (match atI ss s with
        | some t => can p t
        | none => false)
      rw [ht]
      show bnd (m_l_can p t) _ = _
      rw [lcan_eq (hg t htm)]
      rfl
    have hout := compO_eq (xs := ps) (t := fun (x1321 : (Str × (Tu Str))) => (bnd (compO (fun (x1352 : (Option Int)) => (bnd x1352 fun got1366 => (bnd (atI ss got1366) fun at1367 => (bnd (m_l_can x1321 at1367) fun can1368 => (some can1368))))) (fun (x1352 : (Option Int)) => (some x1352)) ((sortI reached).map some)) fun ys1369 => (chk ((ys1369).length ≤ sizeLine) (some (!decide (ys1369 = ([] : List (Option Int)))))))) (f := fun (x1321 : (Str × (Tu Str))) => (some x1321)) (T := fun p => !decide (((sortI reached).map some).filter (T p) = [])) (g := fun x => x) (fun p _ => by
      rw [hin p, List.map_id']
      have := List.length_filter_le (T p) ((sortI reached).map some)
      show chk _ _ = _
      rw [chk_pos (by omega)]) (fun x _ _ => rfl)
    rw [hout, List.map_id']
    have hfl := List.length_filter_le (fun p => !decide (((sortI reached).map some).filter (T p) = [])) ps
    refine ok_bnd (P := fun z => z = _) (ok_some rfl) fun z hz1 => ok_chk (by rw [hz1]; omega) (ok_lt fun z2 hz2 => ok_some (decide_eq_true ?_))
    subst hz1
    subst hz2
    rw [filter_idx]
    have := nd_sub_len (l := (rng 0 (ps.length : Int)).filter (fun k => seenB (fun p => !decide (((sortI reached).map some).filter (T p) = [])) (atI ps k))) (m := ahead.map (·.1)) ((rng_nodup _ _).filter _) (fun k hk => by
      obtain ⟨k1, k2⟩ := List.mem_filter.mp hk
      obtain ⟨k3, k4⟩ := mem_rng.mp k1
      obtain ⟨p, hpk, _, _⟩ := at_in k3 k4
      rw [hpk] at k2
      have k2 : (!decide (((sortI reached).map some).filter (T p) = [])) = true := k2
      rw [Bool.not_eq_true', decide_eq_false_iff_not] at k2
      obtain ⟨o, ho⟩ := List.exists_mem_of_ne_nil _ k2
      obtain ⟨o1, o2⟩ := List.mem_filter.mp ho
      obtain ⟨s, hs1, rfl⟩ := List.mem_map.mp o1
      have hs1 := hpm.mem_iff.mp hs1
      obtain ⟨s0, s1⟩ := hr.seat sd hn hs1
      obtain ⟨t, ht, htm, _⟩ := at_in s0 s1
      refine hx s hs1 k ⟨k3, k4, s0, s1, fun p' t' e1 e2 => ?_⟩
      rw [hpk] at e1
      rw [ht] at e2
      cases e1
      cases e2
      have o3 : (match atI ss s with
        | some t => can p t
        | none => false) = true := o2
      rw [ht] at o3
      exact o3)
    rw [List.length_map] at this
    omega
def Ps (ps : List (Str × Tu Str)) : Prop := ∀ p ∈ ps, p.2.l.length ≤ 5 ∧ txt p.1 ∧ ∀ x ∈ p.2.l, txt x
def Ss (ss : List (Tu Str)) : Prop := ∀ s ∈ ss, s.l.length ≤ 4 ∧ ∀ x ∈ s.l, txt x
theorem shp_ps {ps : List (Str × Tu Str)} {ss : List (Tu Str)} (hp2 : Ps ps) (hs2 : Ss ss) : shp (⟨ps, ss⟩ : HL2 (List (Str × Tu Str)) (List (Tu Str))) := by
  have hp3 : ∀ p ∈ ps, PyData.canLay0 (EqD.toD p) = true ∧ PyData.depth (EqD.toD p) ≤ 2 := fun p hp => by
    obtain ⟨_, t1, t2⟩ := hp2 p hp
    obtain ⟨l1, l2⟩ := lay_strs t2
    show PyData.canLay0 (.tuple [.str p.1, .tuple (p.2.l.map PyData.str)]) = true ∧ PyData.depth (.tuple [.str p.1, .tuple (p.2.l.map PyData.str)]) ≤ 2
    have t1 : PyData.strOk p.1 = true := t1
    refine ⟨by simp [PyData.canLay0, PyData.canLayAll0, l1, t1], by simp [PyData.depth, PyData.depthAll, l2]⟩
  have hs3 : ∀ s ∈ ss, PyData.canLay0 (EqD.toD s) = true ∧ PyData.depth (EqD.toD s) ≤ 2 := fun s hs => by
    obtain ⟨l1, l2⟩ := lay_strs (hs2 s hs).2
    show PyData.canLay0 (.tuple (s.l.map PyData.str)) = true ∧ PyData.depth (.tuple (s.l.map PyData.str)) ≤ 2
    refine ⟨by simp [PyData.canLay0, l1], by simp [PyData.depth, l2]⟩
  obtain ⟨p1, p2⟩ := lay_all hp3
  obtain ⟨s1, s2⟩ := lay_all hs3
  unfold shp SeqAt.shaped
  show (PyData.canLay0 (.list [.list (ps.map EqD.toD), .list (ss.map EqD.toD)]) && decide (PyData.depth (.list [.list (ps.map EqD.toD), .list (ss.map EqD.toD)]) ≤ 64)) = true
  rw [Bool.and_eq_true, decide_eq_true_iff]
  refine ⟨by simp [PyData.canLay0, PyData.canLayAll0, p1, s1], by simp only [PyData.depth, PyData.depthAll]; omega⟩
theorem told_ok {ps : List (Str × Tu Str)} {ss : List (Tu Str)} (hp : ps.length ≤ 1000) (hs : ss.length ≤ 1000) (hp2 : Ps ps) (hs2 : Ss ss) : Ok (m_l_told_right ps ss) (· = true) := by
  unfold m_l_told_right
  have hz := szl
  refine ok_lt fun kept hk => ok_bnd (P := Told ps ss) (seat_all_ok hp hs) fun r hr => ?_
  subst hk
  refine ok_chk (shp_ps hp2 hs2) (ok_chk (shp_ps hp2 hs2) ?_)
  rw [decide_eq_true (show (⟨ps, ss⟩ : HL2 (List (Str × Tu Str)) (List (Tu Str))) = ⟨ps, ss⟩ from rfl)]
  show Ok (bnd (ite _ _ _) _) _
  have hrl : r.2.length ≤ 1001 := by
    rcases hr with ⟨_, own, sd⟩ | ⟨_, n, own, row, ahead, reached, hn, sd, hr, _, e⟩
    · rw [sd.len]; omega
    · rw [e, List.length_map, (sort_perm reached).length_eq, hr.len]
      have := hr.big
      omega
  refine ok_bnd (P := fun b => b = true) ?_ fun b hb => ?_
  · rcases hr with ⟨e, own, sd⟩ | ⟨e, n, own, row, ahead, reached, hn, sd, hr, hx, e2⟩
    · rw [e, decide_eq_true rfl]
      exact ok_bnd (right_ok hs hs2 sd) fun y hy => ok_lt fun y2 hy2 => ok_some (by rw [hy2, hy])
    · rw [e, e2, decide_eq_false (by decide), if_neg Bool.false_ne_true, decide_eq_true rfl]
      exact ok_bnd (P := fun y => y = true) (ok_andO (fun _ => ok_ret (few_ok hp hs hs2 hn sd hr hx)) (fun h => by cases h)) fun y hy => ok_lt fun y2 hy2 => ok_some (by rw [hy2, hy])
  · subst hb
    refine ok_bnd (P := fun _ => True) (ok_ite (fun _ => ok_chk (by omega) (ok_lt fun _ _ => ok_some trivial)) (fun _ => ok_some trivial)) fun _ _ => ok_some rfl
theorem players_ok (cell : Int) {most : Int} {w : Int} {ts : List Str} (m0 : 0 ≤ most) (m1 : most ≤ 34) (hR : RepOk most ([32, 2] : List Int).length) (hL : (([(most + (1 : Int))] : List Int)).length + ((repl most ([(32 : Int), (2 : Int)] : List Int))).length ≤ 1000) (hD : ∀ n ∈ (([(most + 1 : Int)] : List Int) ++ repl most [32, 2]), 0 < n ∧ n < 100000000)
    (k1 : ∀ k : Nat, (k : Int) < most → (([(most + 1 : Int)] : List Int) ++ repl most [32, 2])[1 + 2 * k]? = some 32) (k2 : ∀ k : Nat, (k : Int) < most → (([(most + 1 : Int)] : List Int) ++ repl most [32, 2])[2 + 2 * k]? = some 2) (w0 : 0 ≤ w) (w1 : w < 3) (ht : ts.length = 5) (hg : ∀ x ∈ ts, Good x) : Ok (m_l_players cell most ts w) (fun ps => ps.length ≤ 34 ∧ Ps ps) := by
  unfold m_l_players
  have hz := szl
  refine ok_chk hR (ok_chk (by omega) (ok_bnd (draws_ok hD (by rw [List.length_append]; exact hL)) fun ds hds => ok_lt fun ds' h => ?_))
  subst h
  refine ok_bnd (ok_draw hds 0 rfl (Q := fun d => 0 ≤ d ∧ d < most + 1) fun d a b => ⟨a, b⟩) fun d ⟨d0, d1⟩ => ok_chk ⟨by omega, by omega⟩ (ok_bnd (ok_mapO (P := fun _ p => p.2.l.length ≤ 5 ∧ txt p.1 ∧ ∀ x ∈ p.2.l, txt x) fun x hx => ?_) fun ys ⟨y1, y2⟩ => ?_)
  · obtain ⟨x0, x1⟩ := mem_rng.mp hx
    obtain ⟨k, rfl⟩ : ∃ k : Nat, x = (k : Int) := ⟨x.toNat, by omega⟩
    have a1 := ok_draw hds (1 + 2 * k) (k1 k (by omega)) (Q := fun d => 0 ≤ d ∧ d < 32) fun d a b => ⟨a, b⟩
    have a2 := ok_draw hds (2 + 2 * k) (k2 k (by omega)) (Q := fun d => 0 ≤ d ∧ d < 2) fun d a b => ⟨a, b⟩
    rw [show ((1 + 2 * k : Nat) : Int) = 1 + 2 * (k : Int) by omega] at a1
    rw [show ((2 + 2 * k : Nat) : Int) = 2 + 2 * (k : Int) by omega] at a2
    exact ok_bnd a1 fun m hm => ok_bnd a2 fun t ht2 => ok_ret (player_ok (by omega) (by omega) w0 w1 ht hg)
  · rw [rng_len_nn d0] at y1
    refine ok_chk (by omega) (ok_some ⟨by omega, fun p hp => ?_⟩)
    obtain ⟨i, hi⟩ := List.mem_iff_getElem?.mp hp
    obtain ⟨_, _, h⟩ := y2 i p hi
    exact h
theorem seats_ok (cell : Int) {most : Int} {ts : List Str} (m0 : 0 ≤ most) (m1 : most ≤ 34) (hR : RepOk most ([5, 8, 4] : List Int).length) (hL : (([(most + (1 : Int))] : List Int)).length + ((repl most ([(5 : Int), (8 : Int), (4 : Int)] : List Int))).length ≤ 1000) (hD : ∀ n ∈ (([(most + 1 : Int)] : List Int) ++ repl most [5, 8, 4]), 0 < n ∧ n < 100000000)
    (k1 : ∀ k : Nat, (k : Int) < most → (([(most + 1 : Int)] : List Int) ++ repl most [5, 8, 4])[1 + 3 * k]? = some 5) (k2 : ∀ k : Nat, (k : Int) < most → (([(most + 1 : Int)] : List Int) ++ repl most [5, 8, 4])[2 + 3 * k]? = some 8) (k3 : ∀ k : Nat, (k : Int) < most → (([(most + 1 : Int)] : List Int) ++ repl most [5, 8, 4])[3 + 3 * k]? = some 4) (ht : ts.length = 5) (hg : ∀ x ∈ ts, Good x) : Ok (m_l_seats cell most ts) (fun ss => ss.length ≤ 34 ∧ Ss ss) := by
  unfold m_l_seats
  have hz := szl
  refine ok_chk hR (ok_chk (by omega) (ok_bnd (draws_ok hD (by rw [List.length_append]; exact hL)) fun ds hds => ok_lt fun ds' h => ?_))
  subst h
  refine ok_bnd (ok_draw hds 0 rfl (Q := fun d => 0 ≤ d ∧ d < most + 1) fun d a b => ⟨a, b⟩) fun d ⟨d0, d1⟩ => ok_chk ⟨by omega, by omega⟩ (ok_bnd (ok_mapO (P := fun _ s => s.l.length ≤ 4 ∧ ∀ x ∈ s.l, txt x) fun x hx => ?_) fun ys ⟨y1, y2⟩ => ?_)
  · obtain ⟨x0, x1⟩ := mem_rng.mp hx
    obtain ⟨k, rfl⟩ : ∃ k : Nat, x = (k : Int) := ⟨x.toNat, by omega⟩
    have a1 := ok_draw hds (1 + 3 * k) (k1 k (by omega)) (Q := fun d => 0 ≤ d ∧ d < 5) fun d a b => ⟨a, b⟩
    have a2 := ok_draw hds (2 + 3 * k) (k2 k (by omega)) (Q := fun d => 0 ≤ d ∧ d < 8) fun d a b => ⟨a, b⟩
    have a3 := ok_draw hds (3 + 3 * k) (k3 k (by omega)) (Q := fun d => 0 ≤ d ∧ d < 4) fun d a b => ⟨a, b⟩
    rw [show ((1 + 3 * k : Nat) : Int) = 1 + 3 * (k : Int) by omega] at a1
    rw [show ((2 + 3 * k : Nat) : Int) = 2 + 3 * (k : Int) by omega] at a2
    rw [show ((3 + 3 * k : Nat) : Int) = 3 + 3 * (k : Int) by omega] at a3
    exact ok_bnd a1 fun a ha => ok_bnd a2 fun b hb => ok_bnd a3 fun c hc => ok_ret ((seat_ok hb.1 hb.2 hc.1 hc.2 ht hg).imp fun s ⟨h1, h2⟩ => ⟨h1, fun x hx => (h2 x hx).1⟩)
  · rw [rng_len_nn d0] at y1
    refine ok_chk (by omega) (ok_some ⟨by omega, fun p hp => ?_⟩)
    obtain ⟨i, hi⟩ := List.mem_iff_getElem?.mp hp
    obtain ⟨_, _, h⟩ := y2 i p hi
    exact h
theorem all_lt {P : Nat → Prop} {m : Int} (n : Nat) (hm : m = n) (h : ∀ k, k < n → P k) : ∀ k : Nat, (k : Int) < m → P k := fun k hk => h k (by omega)
theorem law_true : ∀ ns : List Int, ns.length ≤ 63 → a_law (ns, ()) = some true := by
  intro ns hn
  refine Ok.eq ?_
  show Ok (m_law ns) _
  unfold m_law
  have hz := szl
  obtain ⟨hcl, hcl2⟩ := cut_39 ns
  refine ok_bnd (cell_ok ns (by decide)) fun c0 _ => ok_bnd (draws_ok (by decide) (by decide)) fun ds hds => ok_lt fun ds' h => ?_
  subst h
  refine ok_bnd (ok_draw hds 0 rfl (Q := fun d => 0 ≤ d ∧ d < 3) fun d a b => ⟨a, b⟩) fun d0 _ => ok_bnd (tools_ok d0) fun ts ⟨ht1, ht2⟩ => ok_lt fun ts' h => ok_lt fun mo hmo => ?_
  subst h
  refine ok_bnd (ok_draw hds 2 rfl (Q := fun _ => True) fun _ _ _ => trivial) fun d2 _ => ok_bnd (P := fun l => l = [12, 9] ∨ l = [34, 34]) (ok_ite (fun _ => ok_lt fun z hz2 => ok_some (.inr hz2)) (fun _ => ok_some (.inl hmo))) fun mo2 hm2 => ?_
  refine ok_bnd (cell_ok ns (by decide)) fun c1 _ => ok_bnd (P := fun m => m = 12 ∨ m = 34) (hm2.elim (fun e => by subst e; exact ok_some (.inl rfl)) (fun e => by subst e; exact ok_some (.inr rfl))) fun m hm => ?_
  refine ok_bnd (ok_draw hds 1 rfl (Q := fun d => 0 ≤ d ∧ d < 3) fun d a b => ⟨a, b⟩) fun d1 hd1 => ok_bnd (P := fun ps => ps.length ≤ 34 ∧ Ps ps) ?_ fun ps ⟨hp1, hp2⟩ => ok_lt fun ps' h => ?_
  · rcases hm with rfl | rfl
    · exact players_ok c1 (by decide) (by decide) ⟨by decide, by decide, by decide⟩ (by decide) (by decide) (all_lt 12 rfl (by decide)) (all_lt 12 rfl (by decide)) hd1.1 hd1.2 ht1 ht2
    · exact players_ok c1 (by decide) (by decide) ⟨by decide, by decide, by decide⟩ (by decide) (by decide) (all_lt 34 rfl (by decide)) (all_lt 34 rfl (by decide)) hd1.1 hd1.2 ht1 ht2
  subst h
  refine ok_bnd (cell_ok ns (by decide)) fun c2 _ => ok_bnd (P := fun m => m = 9 ∨ m = 34) (hm2.elim (fun e => by subst e; exact ok_some (.inl rfl)) (fun e => by subst e; exact ok_some (.inr rfl))) fun m' hm' => ok_bnd (P := fun ss => ss.length ≤ 34 ∧ Ss ss) ?_ fun ss ⟨hs1, hs2⟩ => ok_lt fun ss' h => ?_
  · rcases hm' with rfl | rfl
    · exact seats_ok c2 (by decide) (by decide) ⟨by decide, by decide, by decide⟩ (by decide) (by decide) (all_lt 9 rfl (by decide)) (all_lt 9 rfl (by decide)) (all_lt 9 rfl (by decide)) ht1 ht2
    · exact seats_ok c2 (by decide) (by decide) ⟨by decide, by decide, by decide⟩ (by decide) (by decide) (all_lt 34 rfl (by decide)) (all_lt 34 rfl (by decide)) (all_lt 34 rfl (by decide)) ht1 ht2
  subst h
  refine ok_bnd (told_ok (by omega) (by omega) hp2 hs2) fun b hb => ?_
  subst hb
  refine ok_bnd (P := fun c => c = false) (ok_orO (fun _ => ok_bnd (told_ok (by omega) (by omega) hp2 hs2) fun b hb => ok_some (by rw [hb]; rfl)) (fun h => by cases h)) fun c hc => ?_
  subst hc
  rw [if_neg Bool.false_ne_true]
  refine ok_chk ⟨by omega, by omega⟩ (ok_bnd (P := fun o => match o with
    | .nx _ => True
    | .rt _ => False) (ok_foldF (fun i b => b.1.length ≤ 34 + i ∧ b.2.length ≤ 34 + i ∧ Ps b.1 ∧ Ss b.2) (fun _ => False) ⟨hp1, hs1, hp2, hs2⟩ ?_ (fun _ _ => trivial) (fun _ h => h)) ?_)
  · rintro i ⟨pp, sp⟩ x hx ⟨i1, i2, i3, i4⟩
    dsimp only at i1 i2 i3 i4 ⊢
    obtain ⟨e1, e2⟩ := rng_at hx
    refine ok_bnd (P := fun _ => True) (ok_atI (by omega) (by omega) fun _ _ => trivial) fun cc _ => ok_bnd (draws_ok (by decide) (by decide)) fun es hes => ok_lt fun es' h => ?_
    subst h
    refine ok_bnd (ok_draw hes 0 rfl (Q := fun _ => True) fun _ _ _ => trivial) fun k0 _ => ok_bnd (P := fun b => b.1.length ≤ 34 + (i + 1) ∧ b.2.length ≤ 34 + (i + 1) ∧ Ps b.1 ∧ Ss b.2) (ok_ite (fun _ => ?_) (fun _ => ?_)) fun b ⟨j1, j2, j3, j4⟩ => ?_
    · refine ok_bnd (ok_draw hes 1 rfl (Q := fun _ => True) fun _ _ _ => trivial) fun a1 _ => ok_bnd (ok_draw hes 2 rfl (Q := fun _ => True) fun _ _ _ => trivial) fun a2 _ => ok_bnd (ok_draw hds 1 rfl (Q := fun d => 0 ≤ d ∧ d < 3) fun d a b => ⟨a, b⟩) fun dd hdd => ok_bnd (player_ok (by omega) (by omega) hdd.1 hdd.2 ht1 ht2) fun p hp => ok_chk (by omega) (ok_lt fun np hnp => ok_some ?_)
      subst hnp
      refine ⟨by rw [List.length_append]; exact Nat.succ_le_succ i1, by dsimp only; omega, fun q hq => ?_, i4⟩
      rcases List.mem_append.mp hq with h | h
      · exact i3 q h
      · rw [List.mem_singleton.mp h]; exact hp
    · refine ok_bnd (ok_draw hes 0 rfl (Q := fun _ => True) fun _ _ _ => trivial) fun k1 _ => ok_bnd (P := fun b => b.2.length ≤ 34 + (i + 1) ∧ b.1.length ≤ 34 + (i + 1) ∧ Ps b.2 ∧ Ss b.1) (ok_ite (fun _ => ?_) (fun _ => ?_)) fun b hb => ok_some hb
      · refine ok_bnd (ok_draw hes 3 rfl (Q := fun d => 0 ≤ d ∧ d < 5) fun d a b => ⟨a, b⟩) fun a3 h3 => ok_chk (by omega) (ok_bnd (ok_draw hes 3 rfl (Q := fun _ => True) fun _ _ _ => trivial) fun a3' _ => ok_bnd (ok_draw hes 4 rfl (Q := fun d => 0 ≤ d ∧ d < 8) fun d a b => ⟨a, b⟩) fun a4 h4 => ok_bnd (ok_draw hes 5 rfl (Q := fun d => 0 ≤ d ∧ d < 4) fun d a b => ⟨a, b⟩) fun a5 h5 => ok_bnd (seat_ok h4.1 h4.2 h5.1 h5.2 ht1 ht2) fun s hs => ok_chk ?_ (ok_lt fun ns2 hns2 => ok_some ?_))
        · have hpos : (0 : Int) < (sp.length : Int) + 1 := by omega
          have m0 := Int.emod_nonneg a3 (show ((sp.length : Int) + 1) ≠ 0 by omega)
          have m1 := Int.emod_lt_of_pos a3 hpos
          exact ⟨m0, by omega, by omega⟩
        · subst hns2
          unfold insI
          refine ⟨by dsimp only; omega, by simp only [List.length_append, List.length_take, List.length_drop, List.length_singleton]; omega, i3, fun q hq => ?_⟩
          rcases List.mem_append.mp hq with h | h
          · rcases List.mem_append.mp h with h | h
            · exact i4 q (List.mem_of_mem_take h)
            · rw [List.mem_singleton.mp h]; exact ⟨hs.1, fun x hx => (hs.2 x hx).1⟩
          · exact i4 q (List.mem_of_mem_drop h)
      · have hcl2 := cut_len_le pp (some 1) none
        refine ok_lt fun np hnp => ok_some ⟨by dsimp only; rw [hnp]; omega, by dsimp only; omega, fun q hq => ?_, i4⟩
        dsimp only at hq
        rw [hnp] at hq
        unfold cut at hq
        exact i3 q (List.mem_of_mem_drop (List.mem_of_mem_take hq))
    · refine ok_bnd (told_ok (by omega) (by omega) j3 j4) fun t ht => ?_
      subst ht
      exact ok_some ⟨j1, j2, j3, j4⟩
  · intro o ho
    refine ok_go (fun b hb => ok_some rfl) (fun r hb => ?_)
    subst hb
    exact ho.elim

end K32

open PySem PySem.W PySem.Calls PyProof.Rows
set_option maxHeartbeats 0 in
theorem PySem.Challenge.cw_deskpairs_k32_whole_seated_or_short_holds : PySem.Challenge.rw_deskpairs_k32_whole_seated_or_short.Holds := by
  w_on; o_law
  refine HandSHeadRun.head_any (r := OpenLaw.row PySem.Challenge.rw_deskpairs_k32_whole_seated_or_short) (q := view (OpenLaw.row PySem.Challenge.rw_deskpairs_k32_whole_seated_or_short).prog [20]) (H := K32.hk) (ob := K32.ob) (M := 1240) (loose := K32.loose) (d := HandSHeadRun.topDef (OpenLaw.row PySem.Challenge.rw_deskpairs_k32_whole_seated_or_short).prog 20) (kwd := []) K32.ob_eq
    (by kernel_rfl) (fun s => by kernel_rfl) K32.run (by kernel_rfl) (by kernel_rfl) (by kernel_rfl) (by rfl) (by first | assumption | decide +kernel) (by decide +kernel) ⟨rfl, rfl, rfl, rfl, rfl, by decide +kernel⟩ ?hw ?hc
  case hw => w_witness2
  case hc =>
    refine L2.walk_ofE (l := PySem.Challenge.rw_deskpairs_k32_whole_seated_or_short) (n := 63) (k := 5) (x := "_law_script") (CX := L2.CX0) rfl (by decide) (by kernel_rfl) ⟨rfl, by decide, by decide⟩ ?F (fun _ _ _ _ z => z)
    intro w mg fa h Y G hmg0
    obtain ⟨K, KX, c⟩ := Y
    have hmg : mg ("law" : PySem.Str) = some (.ref fa) := by
      have e : (HandSHeadRun.topDef (OpenLaw.row PySem.Challenge.rw_deskpairs_k32_whole_seated_or_short).prog 20).name = ("law" : PySem.Str) := by kernel_rfl
      rw [← e]
      exact hmg0
    obtain ⟨fd, hb, hF⟩ := K32.facts (P := (PySem.Challenge.rw_deskpairs_k32_whole_seated_or_short).prog) (w := w) KX G hmg c
    exact ⟨K, fd, Dy.spLaw K, KX, hb, fun H a ns hl _ hS => ⟨a, ns, rfl, hS, hl, fun _ => rfl⟩, fun base h1 h2 => Dy.law_of (hF base h1 h2) K32.law_true⟩

