import PyProof.Rows.All
import Wide.All
import OpenK.AllK
import Wide.FinOn
import HandS.ForMost
import HandS.Codes
import HandS.Wide
import HandS.SortInts
import HandS.Conv
import HandS.IsInst
import HandS.Defaults
import HandS.Head0
import HandS.Head1
import HandS.Head2
import HandS.HeadEnd
import HandS.HeadHook1
import HandS.HeadHook2
import HandS.Zip
import HandS.Exc
import HandS.TryOnly
import HandS.ExcOwn
import HandS.WordsExc
import HandS.ExcInit
import HandS.ExcIs
import HandS.ExcField
import HandS.Style
import HandS.TupAny
import HandS.More
import HandS.Replace
import HandS.Dict
import HandS.Iter
import HandS.WordsDict
import HandS.Rev
import KE.KDictList
import PySem.Challenge.RW_deskpairs_k33_moves_refused
set_option Elab.async false
set_option linter.all false
set_option maxRecDepth 100000
namespace Dy
open PySem PySem.Spec PyProof.Rows L2

structure S where
  F : Hp
  H : Hp
  sub : ∀ a o, F a = some o → H a = some o
abbrev Fle (F F' : Hp) : Prop := ∀ a o, F a = some o → F' a = some o
theorem Fle.refl (F : Hp) : Fle F F := fun _ _ h => h
theorem Fle.trans {F G I : Hp} (a : Fle F G) (b : Fle G I) : Fle F I := fun x o h => b x o (a x o h)
structure Ex (s t : S) : Prop where
  f : Fle s.F t.F
  h : ∀ a o, s.H a = some o → t.H a = some o
  n : ∀ a o, s.H a = some o → s.F a = none → t.F a = none
theorem Ex.refl (s : S) : Ex s s := ⟨fun _ _ h => h, fun _ _ h => h, fun _ _ _ h => h⟩
theorem Ex.trans {s t u : S} (a : Ex s t) (b : Ex t u) : Ex s u :=
  ⟨fun x o h => b.f x o (a.f x o h), fun x o h => b.h x o (a.h x o h), fun x o h n => b.n x o (a.h x o h) (a.n x o h n)⟩
theorem fr_back {s t : S} (e : Ex s t) {p : Addr} (h : t.H p = none) : s.H p = none := by
  cases q : s.H p with
  | none => rfl
  | some o => rw [e.h p o q] at h; cases h
theorem fF {s : S} {p : Addr} (h : s.H p = none) : s.F p = none := by
  cases q : s.F p with
  | none => rfl
  | some o => rw [s.sub p o q] at h; cases h
def S.newF (s : S) (p : Addr) (o : HO) (h : s.H p = none) : S := ⟨upd s.F p o, upd s.H p o, fun a u q => by
  unfold upd at q ⊢
  split
  · rename_i e; rw [if_pos e] at q; exact q
  · rename_i e; rw [if_neg e] at q; exact s.sub a u q⟩
def S.newO (s : S) (p : Addr) (o : HO) (h : s.H p = none) : S := ⟨s.F, upd s.H p o, fun a u q => by
  rw [upd_ne (ne_of_none (s.sub a u q) h)]; exact s.sub a u q⟩
def S.put (s : S) (p : Addr) (o : HO) (h : s.F p = none) : S := ⟨s.F, upd s.H p o, fun a u q => by
  rw [upd_ne (ne_of_none q h)]; exact s.sub a u q⟩
theorem Ex.newF {s : S} {p : Addr} {o : HO} (h : s.H p = none) : Ex s (s.newF p o h) :=
  ⟨fun a u q => by show upd s.F p o a = some u; rw [upd_ne (ne_of_none (s.sub a u q) h)]; exact q,
   fun a u q => by show upd s.H p o a = some u; rw [upd_ne (ne_of_none q h)]; exact q,
   fun a u q n => by show upd s.F p o a = none; rw [upd_ne (ne_of_none q h)]; exact n⟩
theorem Ex.newO {s : S} {p : Addr} {o : HO} (h : s.H p = none) : Ex s (s.newO p o h) :=
  ⟨fun a u q => q, fun a u q => by show upd s.H p o a = some u; rw [upd_ne (ne_of_none q h)]; exact q, fun a u q n => n⟩
structure Mx (P : Addr → Prop) (s t : S) : Prop where
  f : Fle s.F t.F
  h : ∀ a o, s.H a = some o → ¬ P a → t.H a = some o
  n : ∀ a o, s.H a = some o → s.F a = none → t.F a = none
  d : ∀ a o, s.H a = some o → ∃ u, t.H a = some u
theorem Ex.mx {P : Addr → Prop} {s t : S} (e : Ex s t) : Mx P s t := ⟨e.f, fun a o h _ => e.h a o h, e.n, fun a o h => ⟨o, e.h a o h⟩⟩
theorem Mx.trans {P : Addr → Prop} {s t u : S} (a : Mx P s t) (b : Mx P t u) : Mx P s u :=
  ⟨fun x o h => b.f x o (a.f x o h), fun x o h n => b.h x o (a.h x o h n) n,
   fun x o h n => by obtain ⟨v, hv⟩ := a.d x o h; exact b.n x v hv (a.n x o h n),
   fun x o h => by obtain ⟨v, hv⟩ := a.d x o h; exact b.d x v hv⟩
theorem Mx.put {s : S} {p : Addr} {o : HO} (h : s.F p = none) : Mx (· = p) s (s.put p o h) :=
  ⟨fun a u q => q, fun a u q n => by show upd s.H p o a = some u; rw [upd_ne n]; exact q, fun a u q n => n,
   fun a u q => by
    by_cases e : a = p
    · exact ⟨o, by rw [e]; exact upd_same⟩
    · exact ⟨u, by show upd s.H p o a = some u; rw [upd_ne e]; exact q⟩⟩
theorem Mx.fr_back {P : Addr → Prop} {s t : S} (e : Mx P s t) {p : Addr} (h : t.H p = none) : s.H p = none := by
  cases q : s.H p with
  | none => rfl
  | some o => obtain ⟨u, z⟩ := e.d p o q; rw [z] at h; cases h
theorem Ex.mu {s t u : S} {P : Addr → Prop} (a : Ex s t) (b : Mx P t u) (h : ∀ p, P p → s.H p = none) : Ex s u :=
  ⟨fun x o q => b.f x o (a.f x o q), fun x o q => b.h x o (a.h x o q) fun z => (by rw [h x z] at q; cases q), fun x o q n => b.n x o (a.h x o q) (a.n x o q n)⟩
theorem Ex.mu1 {s t u : S} {p : Addr} (a : Ex s t) (b : Mx (· = p) t u) (h : s.H p = none) : Ex s u := a.mu b fun _ e => e ▸ h

class Enc (α : Type) where
  rep : PySem.W.Frag → Hp → V → α → Prop
  mono : ∀ {K : PySem.W.Frag} {F F' : Hp} {v : V} {x : α}, Fle F F' → rep K F v x → rep K F' v x
open Enc (rep)
def Reps {α : Type} [Enc α] (K : PySem.W.Frag) (F : Hp) : List V → List α → Prop
  | [], [] => True
  | v :: vs, x :: xs => rep K F v x ∧ Reps K F vs xs
  | _, _ => False
section
variable {α β : Type} [Enc α] [Enc β] {K : PySem.W.Frag} {F F' : Hp}
theorem Reps.mono (e : Fle F F') : ∀ {vs : List V} {xs : List α}, Reps K F vs xs → Reps K F' vs xs
  | [], [], _ => trivial
  | _ :: _, _ :: _, ⟨h, t⟩ => ⟨Enc.mono e h, Reps.mono e t⟩
  | [], _ :: _, h => h.elim
  | _ :: _, [], h => h.elim
theorem Reps.len : ∀ {vs : List V} {xs : List α}, Reps K F vs xs → vs.length = xs.length
  | [], [], _ => rfl
  | _ :: _, _ :: _, ⟨_, t⟩ => congrArg (· + 1) (Reps.len t)
  | [], _ :: _, h => h.elim
  | _ :: _, [], h => h.elim
theorem Reps.get : ∀ {vs : List V} {xs : List α} {i : Nat} {x : α}, Reps K F vs xs → xs[i]? = some x → ∃ v, vs[i]? = some v ∧ rep K F v x
  | [], [], _, _, _, e => by simp at e
  | v :: _, y :: _, 0, x, ⟨h, _⟩, e => by
    have : y = x := Option.some.inj e
    subst this
    exact ⟨v, rfl, h⟩
  | _ :: vs, _ :: xs, i + 1, x, ⟨_, t⟩, e => by
    obtain ⟨v, h1, h2⟩ := Reps.get (i := i) t (by simpa using e)
    exact ⟨v, by simpa using h1, h2⟩
  | [], _ :: _, _, _, h, _ => h.elim
  | _ :: _, [], _, _, h, _ => h.elim
theorem Reps.get' : ∀ {vs : List V} {xs : List α} {i : Nat} {v : V}, Reps K F vs xs → vs[i]? = some v → ∃ x, xs[i]? = some x ∧ rep K F v x
  | [], [], _, _, _, e => by simp at e
  | v :: _, y :: _, 0, w, ⟨h, _⟩, e => by
    have : v = w := Option.some.inj e
    subst this
    exact ⟨y, rfl, h⟩
  | _ :: vs, _ :: xs, i + 1, w, ⟨_, t⟩, e => by
    obtain ⟨x, h1, h2⟩ := Reps.get' (i := i) t (by simpa using e)
    exact ⟨x, by simpa using h1, h2⟩
  | [], _ :: _, _, _, h, _ => h.elim
  | _ :: _, [], _, _, h, _ => h.elim
theorem Reps.app : ∀ {vs ws : List V} {xs ys : List α}, Reps K F vs xs → Reps K F ws ys → Reps K F (vs ++ ws) (xs ++ ys)
  | [], _, [], _, _, t => t
  | _ :: _, _, _ :: _, _, ⟨h, t⟩, u => ⟨h, Reps.app t u⟩
  | [], _, _ :: _, _, h, _ => h.elim
  | _ :: _, _, [], _, h, _ => h.elim
theorem Reps.snoc {vs : List V} {xs : List α} {v : V} {x : α} (h : Reps K F vs xs) (r : rep K F v x) : Reps K F (vs ++ [v]) (xs ++ [x]) := h.app ⟨r, trivial⟩
theorem Reps.take : ∀ {vs : List V} {xs : List α} (n : Nat), Reps K F vs xs → Reps K F (vs.take n) (xs.take n)
  | _, _, 0, _ => by rw [List.take_zero, List.take_zero]; trivial
  | [], [], _ + 1, _ => trivial
  | _ :: _, _ :: _, n + 1, ⟨h, t⟩ => ⟨h, Reps.take n t⟩
  | [], _ :: _, _ + 1, h => h.elim
  | _ :: _, [], _ + 1, h => h.elim
theorem Reps.drop : ∀ {vs : List V} {xs : List α} (n : Nat), Reps K F vs xs → Reps K F (vs.drop n) (xs.drop n)
  | _, _, 0, h => h
  | [], [], _ + 1, _ => trivial
  | _ :: _, _ :: _, n + 1, ⟨_, t⟩ => Reps.drop n t
  | [], _ :: _, _ + 1, h => h.elim
  | _ :: _, [], _ + 1, h => h.elim
theorem Reps.set : ∀ {vs : List V} {xs : List α} {v : V} {x : α} (i : Nat), Reps K F vs xs → rep K F v x → Reps K F (vs.set i v) (xs.set i x)
  | [], [], _, _, _, _, _ => trivial
  | _ :: _, _ :: _, _, _, 0, ⟨_, t⟩, r => ⟨r, t⟩
  | _ :: _, _ :: _, _, _, i + 1, ⟨h, t⟩, r => ⟨h, Reps.set i t r⟩
  | [], _ :: _, _, _, _, h, _ => h.elim
  | _ :: _, [], _, _, _, h, _ => h.elim
theorem Reps.erase : ∀ {vs : List V} {xs : List α} (i : Nat), Reps K F vs xs → Reps K F (vs.eraseIdx i) (xs.eraseIdx i)
  | [], [], _, _ => trivial
  | _ :: _, _ :: _, 0, ⟨_, t⟩ => t
  | _ :: _, _ :: _, i + 1, ⟨h, t⟩ => ⟨h, Reps.erase i t⟩
  | [], _ :: _, _, h => h.elim
  | _ :: _, [], _, h => h.elim
theorem Reps.rev : ∀ {vs : List V} {xs : List α}, Reps K F vs xs → Reps K F vs.reverse xs.reverse
  | [], [], _ => trivial
  | _ :: _, _ :: _, ⟨h, t⟩ => by rw [List.reverse_cons, List.reverse_cons]; exact (Reps.rev t).snoc h
  | [], _ :: _, h => h.elim
  | _ :: _, [], h => h.elim
theorem Reps.mem : ∀ {vs : List V} {xs : List α} {x : α}, Reps K F vs xs → x ∈ xs → ∃ v, v ∈ vs ∧ rep K F v x
  | v :: _, y :: _, x, ⟨h, t⟩, e => by
    rcases List.mem_cons.mp e with rfl | e
    · exact ⟨v, List.mem_cons_self, h⟩
    · obtain ⟨w, a, b⟩ := Reps.mem t e
      exact ⟨w, List.mem_cons_of_mem _ a, b⟩
  | [], _ :: _, _, h, _ => h.elim
theorem Reps.repl {v : V} {x : α} (r : rep K F v x) : ∀ n : Nat, Reps K F (List.replicate n v) (List.replicate n x)
  | 0 => trivial
  | n + 1 => ⟨r, Reps.repl r n⟩
end
instance : Enc Int := ⟨fun _ _ v x => v = .int x, fun _ h => h⟩
instance : Enc Bool := ⟨fun _ _ v x => v = .bl x, fun _ h => h⟩
instance : Enc Str := ⟨fun _ _ v x => v = .str x, fun _ h => h⟩
instance : Enc Unit := ⟨fun _ _ v _ => v = .non, fun _ h => h⟩
class Opn (α : Type) extends Enc α where
  notNon : ∀ {K : PySem.W.Frag} {F : Hp} {x : α}, ¬ rep K F .non x
instance : Opn Int := ⟨fun {K F x} h => nomatch (show V.non = V.int x from h)⟩
instance : Opn Str := ⟨fun {K F x} h => nomatch (show V.non = V.str x from h)⟩
instance : Opn Bool := ⟨fun {K F x} h => nomatch (show V.non = V.bl x from h)⟩
instance {α : Type} [Enc α] : Enc (Option α) := ⟨fun K F v x => match x with | none => v = .non | some y => rep K F v y, fun {K F F' v x} e h => by
  cases x with
  | none => exact h
  | some y => exact Enc.mono (α := α) e h⟩
theorem sql_mono {K : PySem.W.Frag} {F F' : Hp} {a : Addr} {vs : List V} (e : Fle F F') (h : SqL K F a vs) : SqL K F' a vs := by
  rcases h with (h | ⟨o, h⟩) | h
  · exact .inl (.inl (e _ _ h))
  · exact .inl (.inr ⟨o, e _ _ h⟩)
  · exact .inr h
theorem sqt_mono {K : PySem.W.Frag} {F F' : Hp} {a : Addr} {vs : List V} (e : Fle F F') (h : SqT K F a vs) : SqT K F' a vs := by
  rcases h with (h | ⟨o, h⟩) | h
  · exact .inl (.inl (e _ _ h))
  · exact .inl (.inr ⟨o, e _ _ h⟩)
  · exact .inr h
def RepL {α : Type} [Enc α] (K : PySem.W.Frag) (F : Hp) (v : V) (xs : List α) : Prop := ∃ a vs, v = .ref a ∧ SqL K F a vs ∧ Reps K F vs xs
instance {α : Type} [Enc α] : Enc (List α) := ⟨RepL, fun e h => by
  obtain ⟨a, vs, rfl, h1, h2⟩ := h
  exact ⟨a, vs, rfl, sql_mono e h1, h2.mono e⟩⟩
structure T1 (α : Type) where
  a : α
deriving DecidableEq
structure T3 (α β γ : Type) where
  a : α
  b : β
  c : γ
deriving DecidableEq
structure T4 (α β γ δ : Type) where
  a : α
  b : β
  c : γ
  d : δ
deriving DecidableEq
structure T5 (α β γ δ ε : Type) where
  a : α
  b : β
  c : γ
  d : δ
  e : ε
deriving DecidableEq
structure Tu (α : Type) where
  l : List α
deriving DecidableEq
instance {α β : Type} [Enc α] [Enc β] : Enc (α × β) := ⟨fun K F v x => ∃ p v1 v2, v = .ref p ∧ SqT K F p [v1, v2] ∧ rep K F v1 x.1 ∧ rep K F v2 x.2, fun e h => by
  obtain ⟨p, v1, v2, rfl, h0, h1, h2⟩ := h
  exact ⟨p, v1, v2, rfl, sqt_mono e h0, Enc.mono e h1, Enc.mono e h2⟩⟩
instance {α : Type} [Enc α] : Enc (T1 α) := ⟨fun K F v x => ∃ p v1, v = .ref p ∧ SqT K F p [v1] ∧ rep K F v1 x.a, fun e h => by
  obtain ⟨p, v1, rfl, h0, h1⟩ := h
  exact ⟨p, v1, rfl, sqt_mono e h0, Enc.mono e h1⟩⟩
instance {α β γ : Type} [Enc α] [Enc β] [Enc γ] : Enc (T3 α β γ) := ⟨fun K F v x => ∃ p v1 v2 v3, v = .ref p ∧ SqT K F p [v1, v2, v3] ∧ rep K F v1 x.a ∧ rep K F v2 x.b ∧ rep K F v3 x.c, fun e h => by
  obtain ⟨p, v1, v2, v3, rfl, h0, h1, h2, h3⟩ := h
  exact ⟨p, v1, v2, v3, rfl, sqt_mono e h0, Enc.mono e h1, Enc.mono e h2, Enc.mono e h3⟩⟩
instance {α β γ δ : Type} [Enc α] [Enc β] [Enc γ] [Enc δ] : Enc (T4 α β γ δ) := ⟨fun K F v x => ∃ p v1 v2 v3 v4, v = .ref p ∧ SqT K F p [v1, v2, v3, v4] ∧ rep K F v1 x.a ∧ rep K F v2 x.b ∧ rep K F v3 x.c ∧ rep K F v4 x.d, fun e h => by
  obtain ⟨p, v1, v2, v3, v4, rfl, h0, h1, h2, h3, h4⟩ := h
  exact ⟨p, v1, v2, v3, v4, rfl, sqt_mono e h0, Enc.mono e h1, Enc.mono e h2, Enc.mono e h3, Enc.mono e h4⟩⟩
instance {α β γ δ ε : Type} [Enc α] [Enc β] [Enc γ] [Enc δ] [Enc ε] : Enc (T5 α β γ δ ε) := ⟨fun K F v x => ∃ p v1 v2 v3 v4 v5, v = .ref p ∧ SqT K F p [v1, v2, v3, v4, v5] ∧ rep K F v1 x.a ∧ rep K F v2 x.b ∧ rep K F v3 x.c ∧ rep K F v4 x.d ∧ rep K F v5 x.e, fun e h => by
  obtain ⟨p, v1, v2, v3, v4, v5, rfl, h0, h1, h2, h3, h4, h5⟩ := h
  exact ⟨p, v1, v2, v3, v4, v5, rfl, sqt_mono e h0, Enc.mono e h1, Enc.mono e h2, Enc.mono e h3, Enc.mono e h4, Enc.mono e h5⟩⟩
def RepT {α : Type} [Enc α] (K : PySem.W.Frag) (F : Hp) (v : V) (xs : List α) : Prop := ∃ a vs, v = .ref a ∧ SqT K F a vs ∧ Reps K F vs xs
instance {α : Type} [Enc α] : Enc (Tu α) := ⟨fun K F v x => RepT K F v x.l, fun e h => by
  obtain ⟨a, vs, rfl, h1, h2⟩ := h
  exact ⟨a, vs, rfl, sqt_mono e h1, h2.mono e⟩⟩
instance {α : Type} [Enc α] : Opn (List α) := ⟨fun h => by obtain ⟨_, _, e, _⟩ := h; cases e⟩
instance {α : Type} [Enc α] : Opn (Tu α) := ⟨fun h => by obtain ⟨_, _, e, _⟩ := h; cases e⟩
class Flat (α : Type) extends Enc α where
  toV : α → V
  iff : ∀ {K : PySem.W.Frag} {F : Hp} {v : V} {x : α}, rep K F v x ↔ v = toV x
  flat : ∀ x, flatV (toV x) = true
  inj : ∀ x y, eqV (toV x) (toV y) = true ↔ x = y
open Flat (toV)
instance : Flat Int := ⟨V.int, Iff.rfl, fun _ => rfl, fun x y => by show (x == y) = true ↔ _; simp⟩
instance : Flat Bool := ⟨V.bl, Iff.rfl, fun _ => rfl, fun x y => by show (x == y) = true ↔ _; simp⟩
instance : Flat Str := ⟨V.str, Iff.rfl, fun _ => rfl, fun x y => by show (x == y) = true ↔ _; simp⟩
instance : Flat (Option Int) := ⟨fun x => match x with | none => .non | some i => .int i, fun {K F v x} => by cases x <;> exact Iff.rfl, fun x => by cases x <;> rfl, fun x y => by
  cases x <;> cases y <;> simp [eqV]⟩
instance : Flat (Option Str) := ⟨fun x => match x with | none => .non | some i => .str i, fun {K F v x} => by cases x <;> exact Iff.rfl, fun x => by cases x <;> rfl, fun x y => by
  cases x <;> cases y <;> simp [eqV]⟩
section
variable {α : Type} [Flat α] {K : PySem.W.Frag} {F : Hp}
theorem Reps.flat : ∀ {vs : List V} {xs : List α}, Reps K F vs xs → vs = xs.map toV
  | [], [], _ => rfl
  | _ :: _, _ :: _, ⟨h, t⟩ => by rw [List.map_cons, ← Flat.iff.mp h, ← Reps.flat t]
  | [], _ :: _, h => h.elim
  | _ :: _, [], h => h.elim
theorem Reps.of_flat : ∀ (xs : List α), Reps K F (xs.map toV) xs
  | [] => trivial
  | _ :: xs => ⟨Flat.iff.mpr rfl, Reps.of_flat xs⟩
theorem flat_all (xs : List α) : (xs.map toV).all flatV = true := by
  rw [List.all_eq_true]
  intro v hv
  obtain ⟨x, _, rfl⟩ := List.mem_map.mp hv
  exact Flat.flat x
theorem inV_flat [DecidableEq α] (x : α) (xs : List α) : inV (toV x) (xs.map toV) = decide (x ∈ xs) := by
  rw [Bool.eq_iff_iff, decide_eq_true_eq]
  unfold inV
  rw [List.any_eq_true]
  constructor
  · rintro ⟨v, hv, e⟩
    obtain ⟨y, hy, rfl⟩ := List.mem_map.mp hv
    rw [Flat.inj] at e
    rw [← e]; exact hy
  · intro h
    exact ⟨_, List.mem_map.mpr ⟨x, h, rfl⟩, (Flat.inj x x).mpr rfl⟩
end
end Dy

namespace Dy
open PySem PySem.Spec L2
open PyProof.Rows hiding St
open Enc (rep)
open Flat (toV)

def WE (X : Cx) (e : Expr) : TE := fun σ H Q => ∀ (pins : List (Addr × Obj)) (s : Shared), Inv X pins σ H s → wpAny (model X.prog X.w) X.A (eval e X.env) (EP X pins σ Q) X.xe s
def WT (X : Cx) (e : Expr) : TT := fun σ H Q => ∀ (pins : List (Addr × Obj)) (s : Shared), Inv X pins σ H s → wpAny (model X.prog X.w) X.A (isTrue e X.env (eval e X.env)) (TP X pins σ Q) X.xe s
def WW (X : Cx) (e : Expr) : TT := fun σ H Q => ∀ (whole : Sem Value) (pins : List (Addr × Obj)) (s : Shared), Inv X pins σ H s → wpAny (model X.prog X.w) X.A (isTrue e X.env whole) (TP X pins σ Q) X.xe s
def WA (X : Cx) (es : List Expr) : TA := fun σ H Q => ∀ (pos : Pos) (pins : List (Addr × Obj)) (s : Shared), Inv X pins σ H s → wpAny (model X.prog X.w) X.A (spliced (backTo pos (starEach es X.env))) (AP X pins σ Q) X.xe s
def WSs (X : Cx) (ss : List Stmt) : TS := fun D σ H => ∀ (pins : List (Addr × Obj)) (s : Shared), Inv X pins σ H s → wpAny (model X.prog X.w) X.A (execs ss X.env) (SP X pins D) X.xe s
theorem pe_we {X : Cx} {e : Expr} : PE X e (WE X e) := ⟨fun pins s _ _ _ I h => h pins s I⟩
theorem pt_wt {X : Cx} {e : Expr} : PT X e (WT X e) := ⟨fun pins s _ _ _ I h => h pins s I⟩
theorem pw_ww {X : Cx} {e : Expr} : PW X e (WW X e) := ⟨fun whole pins s _ _ _ I h => h whole pins s I⟩
theorem pa_wa {X : Cx} {es : List Expr} : PA X es (WA X es) := ⟨fun pos pins s _ _ _ I h => h pos pins s I⟩
theorem pss_ws {X : Cx} {ss : List Stmt} : PSs X ss (WSs X ss) := ⟨fun pins s _ _ _ I h => h pins s I⟩
theorem we_of {X : Cx} {e : Expr} {t : TE} {σ : St} {H : Hp} {Q : VK} (h : PE X e t) (q : t σ H Q) : WE X e σ H Q := fun pins s I => h.run pins s σ H Q I q
theorem wt_of {X : Cx} {e : Expr} {t : TT} {σ : St} {H : Hp} {Q : Bool → Hp → Prop} (h : PT X e t) (q : t σ H Q) : WT X e σ H Q := fun pins s I => h.run pins s σ H Q I q
theorem ww_of {X : Cx} {e : Expr} {t : TT} {σ : St} {H : Hp} {Q : Bool → Hp → Prop} (h : PW X e t) (q : t σ H Q) : WW X e σ H Q := fun w pins s I => h.run w pins s σ H Q I q
theorem wa_of {X : Cx} {es : List Expr} {t : TA} {σ : St} {H : Hp} {Q : List V → Hp → Prop} (h : PA X es t) (q : t σ H Q) : WA X es σ H Q := fun pos pins s I => h.run pos pins s σ H Q I q
theorem ws_of {X : Cx} {ss : List Stmt} {t : TS} {D : Ends} {σ : St} {H : Hp} (h : PSs X ss t) (q : t D σ H) : WSs X ss D σ H := fun pins s I => h.run pins s σ H D I q
theorem WSs.imp {X : Cx} {ss : List Stmt} {D D' : Ends} {σ : St} {H : Hp} (h : WSs X ss D σ H) (h1 : ∀ σ H, D.nx σ H → D'.nx σ H) (h2 : ∀ v H, D.rt v H → D'.rt v H) (h3 : ∀ σ H, D.bk σ H → D'.bk σ H) (h4 : ∀ σ H, D.ct σ H → D'.ct σ H) : WSs X ss D' σ H := fun pins s I => thn (h pins s I) fun f s1 q => by
  cases f with
  | next => obtain ⟨a, b, c, d⟩ := q; exact ⟨a, b, c, h1 _ _ d⟩
  | brk => obtain ⟨a, b, c, d⟩ := q; exact ⟨a, b, c, h3 _ _ d⟩
  | cont => obtain ⟨a, b, c, d⟩ := q; exact ⟨a, b, c, h4 _ _ d⟩
  | ret u => obtain ⟨a, b, c, d, e, f⟩ := q; exact ⟨a, b, c, d, e, h2 _ _ f⟩

section
variable {α β γ δ : Type} [Enc α] [Enc β] [Enc γ] [Enc δ]
def Ev (X : Cx) (e : Expr) (σ : St) (s : S) (x : α) : Prop := ∀ s1, Ex s s1 → ∀ Q : VK, (∀ v s2, Ex s1 s2 → rep X.K s2.F v x → Q v s2.H) → WE X e σ s1.H Q
def RepR (K : PySem.W.Frag) (s : S) (v : V) (xs : List α) : Prop := ∃ a vs, v = .ref a ∧ SqL K s.H a vs ∧ Reps K s.F vs xs
def EvR (X : Cx) (e : Expr) (σ : St) (s : S) (xs : List α) : Prop := ∀ s1, Ex s s1 → ∀ Q : VK, (∀ v s2, Ex s1 s2 → RepR X.K s2 v xs → Q v s2.H) → WE X e σ s1.H Q
def Own (K : PySem.W.Frag) (s : S) (p : Addr) (xs : List α) : Prop := s.F p = none ∧ ∃ vs, s.H p = some (.lst vs) ∧ Reps K s.F vs xs
def EvN (X : Cx) (e : Expr) (σ : St) (s : S) (xs : List α) : Prop := ∀ s1, Ex s s1 → ∀ Q : VK, (∀ p s2, Ex s1 s2 → s1.H p = none → Own X.K s2 p xs → Q (.ref p) s2.H) → WE X e σ s1.H Q
def EvT (X : Cx) (e : Expr) (σ : St) (s : S) (b : Bool) : Prop := ∀ s1, Ex s s1 → ∀ Q : Bool → Hp → Prop, (∀ s2, Ex s1 s2 → Q b s2.H) → WT X e σ s1.H Q
def EvW (X : Cx) (e : Expr) (σ : St) (s : S) (b : Bool) : Prop := ∀ s1, Ex s s1 → ∀ Q : Bool → Hp → Prop, (∀ s2, Ex s1 s2 → Q b s2.H) → WW X e σ s1.H Q
structure EvB (X : Cx) (e : Expr) (σ : St) (s : S) (b : Bool) : Prop where
  v : Ev X e σ s b
  t : EvT X e σ s b
structure EvC (X : Cx) (e : Expr) (σ : St) (s : S) (b : Bool) : Prop where
  v : Ev X e σ s b
  w : EvW X e σ s b
end
class EncA (A : Type) where
  repA : PySem.W.Frag → Hp → List V → A → Prop
  monoA : ∀ {K : PySem.W.Frag} {F F' : Hp} {vs : List V} {x : A}, Fle F F' → repA K F vs x → repA K F' vs x
open EncA (repA)
instance : EncA Unit := ⟨fun _ _ vs _ => vs = [], fun _ h => h⟩
instance {α A : Type} [Enc α] [EncA A] : EncA (α × A) := ⟨fun K F vs x => ∃ v r, vs = v :: r ∧ rep K F v x.1 ∧ repA K F r x.2, fun e h => by
  obtain ⟨v, r, rfl, h1, h2⟩ := h
  exact ⟨v, r, rfl, Enc.mono e h1, EncA.monoA e h2⟩⟩
def EvA {A : Type} [EncA A] (X : Cx) (es : List Expr) (σ : St) (s : S) (a : A) : Prop := ∀ s1, Ex s s1 → ∀ Q : List V → Hp → Prop, (∀ vs s2, Ex s1 s2 → repA X.K s2.F vs a → Q vs s2.H) → WA X es σ s1.H Q

section
variable {α β γ δ : Type} [Enc α] [Enc β] [Enc γ] [Enc δ] {X : Cx} {σ : St} {s t : S} {e a b c : Expr} {es : List Expr} {pos p0 p1 p2 p3 : Pos}
theorem Own.frz {K : PySem.W.Frag} {p : Addr} {xs : List α} (h : Own K s p xs) : ∃ s' : S, s'.H = s.H ∧ Fle s.F s'.F ∧ (∀ q, q ≠ p → s'.F q = s.F q) ∧ rep K s'.F (.ref p) xs := by
  obtain ⟨hn, vs, hp, r⟩ := h
  have f : Fle s.F (upd s.F p (.lst vs)) := fun a o q => by rw [upd_ne (ne_of_none q hn)]; exact q
  refine ⟨⟨upd s.F p (.lst vs), s.H, fun a o q => ?_⟩, rfl, f, fun q hq => upd_ne hq, p, vs, rfl, .inl (.inl upd_same), r.mono f⟩
  unfold upd at q
  split at q
  · rename_i e; cases q; rw [e]; exact hp
  · exact s.sub a o q
theorem Own.ex {K : PySem.W.Frag} {p : Addr} {xs : List α} (h : Own K s p xs) (e : Ex s t) : Own K t p xs := by
  obtain ⟨hn, vs, hp, r⟩ := h
  exact ⟨e.n _ _ hp hn, vs, e.h _ _ hp, r.mono e.f⟩
theorem Own.mx {K : PySem.W.Frag} {p : Addr} {P : Addr → Prop} {xs : List α} (h : Own K s p xs) (e : Mx P s t) (n : ¬ P p) : Own K t p xs := by
  obtain ⟨hn, vs, hp, r⟩ := h
  exact ⟨e.n _ _ hp hn, vs, e.h _ _ hp n, r.mono e.f⟩
theorem Own.ne {K : PySem.W.Frag} {p q : Addr} {xs : List α} (h : Own K s p xs) (n : s.H q = none) : p ≠ q := by
  obtain ⟨_, vs, hp, _⟩ := h
  exact ne_of_none hp n
theorem Own.r {K : PySem.W.Frag} {p : Addr} {xs : List α} (h : Own K s p xs) : RepR K s (.ref p) xs := by
  obtain ⟨hn, vs, hp, r⟩ := h
  exact ⟨p, vs, rfl, .inl (.inl hp), r⟩
theorem RepR.ex {K : PySem.W.Frag} {v : V} {xs : List α} (h : RepR K s v xs) (e : Ex s t) : RepR K t v xs := by
  obtain ⟨p, vs, rfl, h1, h2⟩ := h
  exact ⟨p, vs, rfl, sql_mono e.h h1, h2.mono e.f⟩
theorem rep_r {K : PySem.W.Frag} {v : V} {xs : List α} (h : rep K s.F v xs) : RepR K s v xs := by
  obtain ⟨p, vs, rfl, h1, h2⟩ := h
  exact ⟨p, vs, rfl, sql_mono s.sub h1, h2⟩
theorem Ev.mono {x : α} (h : Ev X e σ s x) (k : Ex s t) : Ev X e σ t x := fun s1 k1 Q q => h s1 (k.trans k1) Q q
theorem EvT.mono {x : Bool} (h : EvT X e σ s x) (k : Ex s t) : EvT X e σ t x := fun s1 k1 Q q => h s1 (k.trans k1) Q q
theorem Ev.r {xs : List α} (h : Ev X e σ s xs) : EvR X e σ s xs := fun s1 k Q q => h s1 k Q fun v s2 k2 r => q v s2 k2 (rep_r r)
theorem EvN.r {xs : List α} (h : EvN X e σ s xs) : EvR X e σ s xs := fun s1 k Q q => h s1 k Q fun p s2 k2 _ o => q (.ref p) s2 k2 o.r
theorem frz_ex {K : PySem.W.Frag} {p : Addr} {xs : List α} (k : Ex s t) (n : s.H p = none) (o : Own K t p xs) : ∃ t' : S, t'.H = t.H ∧ Ex s t' ∧ rep K t'.F (.ref p) xs := by
  obtain ⟨t', h1, h2, h3, h4⟩ := o.frz
  refine ⟨t', h1, ⟨k.f.trans h2, fun a u q => by rw [h1]; exact k.h a u q, fun a u q m => ?_⟩, h4⟩
  have : a ≠ p := ne_of_none q n
  rw [h3 a this]
  exact k.n a u q m
theorem EvN.ev {xs : List α} (h : EvN X e σ s xs) : Ev X e σ s xs := fun s1 k Q q => h s1 k Q fun p s2 k2 n o => by
  obtain ⟨t', h1, h2, h3⟩ := frz_ex k2 n o
  rw [← h1]
  exact q _ t' h2 h3
theorem Ev.cast {x y : α} (h : Ev X e σ s x) (k : x = y) : Ev X e σ s y := k ▸ h

theorem ev_var (i : Nat) {v : V} {x : α} {n : Str} (h : σ[i]? = some (some v)) (r : rep X.K s.F v x) (hN : X.N[i]? = some n := by rfl) (hv : Vis X.env.scope n := by first | exact Or.inl rfl | exact Or.inr (Or.inl rfl) | exact Or.inr (Or.inr rfl)) (hd : (n == ("__debug__" : Str)) = false := by decide)
    (hcd : (n == ("__classdict__" : Str)) = false := by decide) : Ev X (.Name n pos) σ s x := fun s1 k Q q => we_of (pe_var hN hv hd hcd) ⟨v, h, q v s1 (Ex.refl _) (Enc.mono k.f r)⟩
theorem ev_varR (i : Nat) {p : Addr} {xs : List α} {n : Str} (h : σ[i]? = some (some (.ref p))) (r : Own X.K s p xs) (hN : X.N[i]? = some n := by rfl) (hv : Vis X.env.scope n := by first | exact Or.inl rfl | exact Or.inr (Or.inl rfl) | exact Or.inr (Or.inr rfl)) (hd : (n == ("__debug__" : Str)) = false := by decide)
    (hcd : (n == ("__classdict__" : Str)) = false := by decide) : EvR X (.Name n pos) σ s xs := fun s1 k Q q => we_of (pe_var hN hv hd hcd) ⟨_, h, q _ s1 (Ex.refl _) (r.ex k).r⟩
theorem ev_int {i : Int} {j} : Ev X (.Constant (.int i) j pos) σ s i := fun s1 k Q q => we_of pe_int (q _ s1 (Ex.refl _) rfl)
theorem ev_bl {i : Bool} {j} : Ev X (.Constant (.bool i) j pos) σ s i := fun s1 k Q q => we_of pe_bl (q _ s1 (Ex.refl _) rfl)
theorem ev_str {i : Str} {j} : Ev X (.Constant (.str i) j pos) σ s i := fun s1 k Q q => we_of pe_str (q _ s1 (Ex.refl _) rfl)
theorem ev_non {j} : Ev X (.Constant .none j pos) σ s () := fun s1 k Q q => we_of pe_non (q _ s1 (Ex.refl _) rfl)
theorem ev_nonO {j} : Ev X (.Constant .none j pos) σ s (none : Option α) := fun s1 k Q q => we_of pe_non (q _ s1 (Ex.refl _) rfl)
theorem ev_some {x : α} (h : Ev X e σ s x) : Ev X e σ s (some x) := h
theorem ev_glob {n : Str} {x : α} (h : ∃ v u, X.mg n = some u ∧ RelV v u ∧ ∀ F, rep X.K F v x) (hg : Gl X n := by rfl) (hd : (n == ("__debug__" : Str)) = false := by decide) : Ev X (.Name n pos) σ s x := fun s1 k Q q => by
  obtain ⟨v, u, h1, h2, h3⟩ := h
  exact we_of (pe_glob hg h1 h2 hd) (q v s1 (Ex.refl _) (h3 _))

theorem ev_op {op : Operator} {r : R2} {x : α} {y : β} {z : γ} (ho : OpR X (binaryOp op) r) (ha : Ev X a σ s x) (hb : Ev X b σ s y)
    (hr : ∀ v u s2, rep X.K s2.F v x → rep X.K s2.F u y → ∀ Q : VK, (∀ v' s3, Ex s2 s3 → rep X.K s3.F v' z → Q v' s3.H) → r v u s2.H Q) : Ev X (.BinOp a op b pos) σ s z := fun s1 k Q q =>
  we_of (pe_op ho pe_we pe_we) (ha s1 k _ fun v s2 k2 r2 => hb s2 (k.trans k2) _ fun u s3 k3 r3 => hr v u s3 (Enc.mono k3.f r2) r3 Q fun w s4 k4 r4 => q w s4 ((k2.trans k3).trans k4) r4)
theorem ev_I0 {op : Operator} {g : Int → Int → V} {x y : Int} {z : γ} (ho : OpR X (binaryOp op) (rI0 g)) (ha : Ev X a σ s x) (hb : Ev X b σ s y) (hz : ∀ K F, rep K F (g x y) z) : Ev X (.BinOp a op b pos) σ s z :=
  ev_op ho ha hb fun v u s2 hv hu Q q => ⟨x, y, hv, hu, q _ s2 (Ex.refl _) (hz _ _)⟩
theorem ev_I {op : Operator} {C : Int → Int → Prop} {g : Int → Int → V} {x y : Int} {z : γ} (ho : OpR X (binaryOp op) (rI C g)) (ha : Ev X a σ s x) (hb : Ev X b σ s y) (hc : C x y) (hz : ∀ K F, rep K F (g x y) z) : Ev X (.BinOp a op b pos) σ s z :=
  ev_op ho ha hb fun v u s2 hv hu Q q => ⟨x, y, hv, hu, hc, q _ s2 (Ex.refl _) (hz _ _)⟩
theorem ev_add {x y : Int} (ha : Ev X a σ s x) (hb : Ev X b σ s y) : Ev X (.BinOp a .Add b pos) σ s (x + y) := ev_I0 op_add ha hb fun _ _ => rfl
theorem ev_sub {x y : Int} (ha : Ev X a σ s x) (hb : Ev X b σ s y) : Ev X (.BinOp a .Sub b pos) σ s (x - y) := ev_I0 op_sub ha hb fun _ _ => rfl
def MulOk (x y : Int) : Prop := CMul x y ∨ CMulW x y
theorem ev_mul {x y : Int} (ha : Ev X a σ s x) (hb : Ev X b σ s y) (hc : MulOk x y) : Ev X (.BinOp a .Mult b pos) σ s (x * y) := by
  rcases hc with hc | hc
  · exact ev_I op_mul ha hb hc fun _ _ => rfl
  · exact ev_I op_mulW ha hb hc fun _ _ => rfl
theorem ev_mod {x y : Int} (ha : Ev X a σ s x) (hb : Ev X b σ s y) (hc : 0 < y) : Ev X (.BinOp a .Mod b pos) σ s (x % y) := ev_I op_mod ha hb hc fun _ _ => rfl
def DivOk (y : Int) : Prop := 0 < y ∧ y.natAbs.log2 < 9000
theorem ev_div {x y : Int} (ha : Ev X a σ s x) (hb : Ev X b σ s y) (hc : DivOk y) : Ev X (.BinOp a .FloorDiv b pos) σ s (x / y) := ev_I op_fdivW ha hb hc fun _ _ => rfl
theorem ev_pow {x y : Int} (ha : Ev X a σ s x) (hb : Ev X b σ s y) (hc : CPow x y) : Ev X (.BinOp a .Pow b pos) σ s (x ^ y.toNat) := ev_I op_pow ha hb hc fun _ _ => rfl
theorem ev_adds {x y : Str} (ha : Ev X a σ s x) (hb : Ev X b σ s y) (hc : x.length + y.length ≤ sizeLine) : Ev X (.BinOp a .Add b pos) σ s (x ++ y) :=
  ev_op op_add_str ha hb fun v u s2 hv hu Q q => ⟨x, y, hv, hu, hc, q _ s2 (Ex.refl _) rfl⟩
theorem ev_neg {x : Int} (ha : Ev X a σ s x) : Ev X (.UnaryOp .USub a pos) σ s (-x) := fun s1 k Q q =>
  we_of (pe_un un_neg pe_we) (ha s1 k _ fun v s2 k2 r2 => ⟨x, r2, q _ s2 k2 rfl⟩)

theorem atI_rep {K : PySem.W.Frag} {F : Hp} {vs : List V} {xs : List α} {i : Int} {x : α} (r : Reps K F vs xs) (h : atI xs i = some x) : ∃ v, atI vs i = some v ∧ rep K F v x := by
  unfold atI at h ⊢
  rw [r.len]
  cases hj : ixN xs.length i with
  | none => rw [hj] at h; cases h
  | some j =>
    rw [hj] at h
    obtain ⟨v, h1, h2⟩ := r.get (i := j) h
    exact ⟨v, h1, h2⟩
theorem ev_ix {xs : List α} {i : Int} {x : α} (ha : EvR X a σ s xs) (hb : Ev X b σ s i) (h : atI xs i = some x) (hp : PlainIx b := by intro _ _; rfl) : Ev X (.Subscript a b pos) σ s x := fun s1 k Q q =>
  we_of (pe_ix ix_list pe_we pe_we hp) (ha s1 k _ fun v s2 k2 r2 => hb s2 (k.trans k2) _ fun u s3 k3 r3 => by
    obtain ⟨p, vs, rfl, h1, h2⟩ := r2.ex k3
    obtain ⟨w, h3, h4⟩ := atI_rep h2 h
    exact ⟨p, vs, i, w, rfl, r3, h1, h3, q w s3 (k2.trans k3) h4⟩)
theorem ev_ixT {xs : Tu α} {i : Int} {x : α} (ha : Ev X a σ s xs) (hb : Ev X b σ s i) (h : atI xs.l i = some x) (hp : PlainIx b := by intro _ _; rfl) : Ev X (.Subscript a b pos) σ s x := fun s1 k Q q =>
  we_of (pe_ix ix_tup pe_we pe_we hp) (ha s1 k _ fun v s2 k2 r2 => hb s2 (k.trans k2) _ fun u s3 k3 r3 => by
    obtain ⟨p, vs, rfl, h1, h2⟩ := Enc.mono (α := Tu α) k3.f r2
    obtain ⟨w, h3, h4⟩ := atI_rep h2 h
    exact ⟨p, vs, i, w, rfl, r3, sqt_mono s3.sub h1, h3, q w s3 (k2.trans k3) h4⟩)
theorem ev_ixP {x : β} {i : Int} {y : α} (ha : Ev X a σ s x) (hb : Ev X b σ s i) (h : ∀ {F : Hp} {v : V}, rep X.K F v x → ∃ p vs w, v = .ref p ∧ SqT X.K F p vs ∧ atI vs i = some w ∧ rep X.K F w y) (hp : PlainIx b := by intro _ _; rfl) : Ev X (.Subscript a b pos) σ s y := fun s1 k Q q =>
  we_of (pe_ix ix_tup pe_we pe_we hp) (ha s1 k _ fun v s2 k2 r2 => hb s2 (k.trans k2) _ fun u s3 k3 r3 => by
    obtain ⟨p, vs, w, rfl, h1, h2, h3⟩ := h (Enc.mono k3.f r2)
    exact ⟨p, vs, i, w, rfl, r3, sqt_mono s3.sub h1, h2, q w s3 (k2.trans k3) h3⟩)
theorem p2_0 {K : PySem.W.Frag} {x : α × β} {F : Hp} {v : V} (h : rep K F v x) : ∃ p vs w, v = .ref p ∧ SqT K F p vs ∧ atI vs 0 = some w ∧ rep K F w x.1 := by
  obtain ⟨p, v1, v2, rfl, h0, h1, h2⟩ := h
  exact ⟨p, _, v1, rfl, h0, rfl, h1⟩
theorem p2_1 {K : PySem.W.Frag} {x : α × β} {F : Hp} {v : V} (h : rep K F v x) : ∃ p vs w, v = .ref p ∧ SqT K F p vs ∧ atI vs 1 = some w ∧ rep K F w x.2 := by
  obtain ⟨p, v1, v2, rfl, h0, h1, h2⟩ := h
  exact ⟨p, _, v2, rfl, h0, rfl, h2⟩
theorem p3_0 {K : PySem.W.Frag} {x : T3 α β γ} {F : Hp} {v : V} (h : rep K F v x) : ∃ p vs w, v = .ref p ∧ SqT K F p vs ∧ atI vs 0 = some w ∧ rep K F w x.a := by
  obtain ⟨p, v1, v2, v3, rfl, h0, h1, h2, h3⟩ := h
  exact ⟨p, _, v1, rfl, h0, rfl, h1⟩
theorem p3_1 {K : PySem.W.Frag} {x : T3 α β γ} {F : Hp} {v : V} (h : rep K F v x) : ∃ p vs w, v = .ref p ∧ SqT K F p vs ∧ atI vs 1 = some w ∧ rep K F w x.b := by
  obtain ⟨p, v1, v2, v3, rfl, h0, h1, h2, h3⟩ := h
  exact ⟨p, _, v2, rfl, h0, rfl, h2⟩
theorem p3_2 {K : PySem.W.Frag} {x : T3 α β γ} {F : Hp} {v : V} (h : rep K F v x) : ∃ p vs w, v = .ref p ∧ SqT K F p vs ∧ atI vs 2 = some w ∧ rep K F w x.c := by
  obtain ⟨p, v1, v2, v3, rfl, h0, h1, h2, h3⟩ := h
  exact ⟨p, _, v3, rfl, h0, rfl, h3⟩
def sgn (x : Str) (i : Int) : Option Str := if x.length ≤ sizeLine then (atI x.cps.toList i).map fun c => ⟨#[c]⟩ else none
theorem ev_ixS {x : Str} {i : Int} {y : Str} (ha : Ev X a σ s x) (hb : Ev X b σ s i) (h : sgn x i = some y) (hp : PlainIx b := by intro _ _; rfl) : Ev X (.Subscript a b pos) σ s y := fun s1 k Q q =>
  we_of (pe_ix ix_str pe_we pe_we hp) (ha s1 k _ fun v s2 k2 r2 => hb s2 (k.trans k2) _ fun u s3 k3 r3 => by
    unfold sgn at h
    split at h
    · rename_i hz
      obtain ⟨c, h1, h2⟩ := Option.map_eq_some_iff.mp h
      exact ⟨x, i, c, r2, r3, hz, h1, q _ s3 (k2.trans k3) (by rw [h2]; rfl)⟩
    · cases h)
end
end Dy

namespace Dy
open PySem PySem.Spec L2
open PyProof.Rows hiding St
open Enc (rep)
open Flat (toV)
open EncA (repA)

section
variable {α β γ δ : Type} [Enc α] [Enc β] [Enc γ] [Enc δ] {X : Cx} {σ : St} {s t : S} {e a b c : Expr} {es : List Expr} {pos p0 p1 p2 p3 : Pos}

theorem et_v {x : Bool} (h : Ev X e σ s x) (he : ∀ whole, isTrue e X.env whole = (do let v ← whole; standAt e.pos; holding [v] (truthy v)) := by intro _; rfl) : EvT X e σ s x := fun s1 k Q q =>
  wt_of (pt_val pe_we he) (h s1 k _ fun v s2 k2 r => ⟨x, r, q s2 k2⟩)
theorem eb_v {x : Bool} (h : Ev X e σ s x) (he : ∀ whole, isTrue e X.env whole = (do let v ← whole; standAt e.pos; holding [v] (truthy v)) := by intro _; rfl) : EvB X e σ s x := ⟨h, et_v h he⟩
theorem EvW.tt {x : Bool} (h : EvW X e σ s x) : EvT X e σ s x := fun s1 k Q q => wt_of pw_ww.pt (h s1 k Q q)
theorem EvC.bb {x : Bool} (h : EvC X e σ s x) : EvB X e σ s x := ⟨h.v, h.w.tt⟩
theorem EvB.cast {x y : Bool} (h : EvB X e σ s x) (k : x = y) : EvB X e σ s y := k ▸ h
theorem ec_and1 {x : Bool} (h : EvB X a σ s x) : EvC X (.BoolOp .And [a] pos) σ s x :=
  ⟨fun s1 k Q q => we_of (pe_one pe_we) (h.v s1 k Q q), fun s1 k Q q => ww_of (pw_and1 pt_wt) (h.t s1 k Q q)⟩
theorem ec_or1 {x : Bool} (h : EvB X a σ s x) : EvC X (.BoolOp .Or [a] pos) σ s x :=
  ⟨fun s1 k Q q => we_of (pe_one pe_we) (h.v s1 k Q q), fun s1 k Q q => ww_of (pw_or1 pt_wt) (h.t s1 k Q q)⟩
theorem ec_and {x y : Bool} (h : EvB X a σ s x) (h2 : x = true → EvC X (.BoolOp .And (b :: es) pos) σ s y) : EvC X (.BoolOp .And (a :: b :: es) pos) σ s (x && y) :=
  ⟨fun s1 k Q q => we_of (pe_and pe_we pe_we) (h.v s1 k _ fun v s2 k2 r => ⟨x, r, by
    cases x with
    | true => exact iteT ((h2 rfl).v s2 (k.trans k2) Q fun v s3 k3 r3 => q v s3 (k2.trans k3) r3)
    | false => exact iteF (q _ s2 k2 rfl)⟩),
   fun s1 k Q q => ww_of (pw_and pt_wt pw_ww) (h.t s1 k _ fun s2 k2 => by
    cases x with
    | true => exact iteT ((h2 rfl).w s2 (k.trans k2) Q fun s3 k3 => q s3 (k2.trans k3))
    | false => exact iteF (q s2 k2))⟩
theorem ec_or {x y : Bool} (h : EvB X a σ s x) (h2 : x = false → EvC X (.BoolOp .Or (b :: es) pos) σ s y) : EvC X (.BoolOp .Or (a :: b :: es) pos) σ s (x || y) :=
  ⟨fun s1 k Q q => we_of (pe_or pe_we pe_we) (h.v s1 k _ fun v s2 k2 r => ⟨x, r, by
    cases x with
    | true => exact iteT (q _ s2 k2 rfl)
    | false => exact iteF ((h2 rfl).v s2 (k.trans k2) Q fun v s3 k3 r3 => q v s3 (k2.trans k3) r3)⟩),
   fun s1 k Q q => ww_of (pw_or pt_wt pw_ww) (h.t s1 k _ fun s2 k2 => by
    cases x with
    | true => exact iteT (q s2 k2)
    | false => exact iteF ((h2 rfl).w s2 (k.trans k2) Q fun s3 k3 => q s3 (k2.trans k3)))⟩
theorem eb_not {x : Bool} (h : EvB X a σ s x) : EvB X (.UnaryOp .Not a pos) σ s (!x) :=
  ⟨fun s1 k Q q => we_of (pe_not pe_we) (h.v s1 k _ fun v s2 k2 r => ⟨x, r, q _ s2 k2 rfl⟩), fun s1 k Q q => wt_of (pt_not pt_wt) (h.t s1 k _ fun s2 k2 => q s2 k2)⟩
theorem ev_ifE {x : Bool} {y z : α} (h : EvT X c σ s x) (h1 : x = true → Ev X a σ s y) (h2 : x = false → Ev X b σ s z) : Ev X (.IfExp c a b pos) σ s (if x = true then y else z) := fun s1 k Q q =>
  we_of (pe_ifExp pt_wt pe_we pe_we) (h s1 k _ fun s2 k2 => by
    cases x with
    | true => exact iteT (h1 rfl s2 (k.trans k2) Q fun v s3 k3 r => q v s3 (k2.trans k3) r)
    | false => exact iteF (h2 rfl s2 (k.trans k2) Q fun v s3 k3 r => q v s3 (k2.trans k3) r))

theorem eb_cmp {op : CmpOp} {r : R2} {x : α} {y : β} {z : Bool} (ho : OpR X (compareOp op) r) (ha : Ev X a σ s x) (hb : Ev X b σ s y)
    (hr : ∀ (v u : V) (s2 : S), rep X.K s2.F v x → rep X.K s2.F u y → ∀ Q : VK, Q (.bl z) s2.H → r v u s2.H Q) (hm : behindInMarks op b = false) : EvB X (.Compare a [op] [b] pos) σ s z :=
  ⟨fun s1 k Q q => we_of (pe_cmpR ho pe_we pe_we hm) (ha s1 k _ fun v s2 k2 r2 => hb s2 (k.trans k2) _ fun u s3 k3 r3 => hr v u s3 (Enc.mono k3.f r2) r3 Q (q _ s3 (k2.trans k3) rfl)),
   fun s1 k Q q => wt_of (pt_cmpR ho pe_we pe_we hm) (ha s1 k _ fun v s2 k2 r2 => hb s2 (k.trans k2) _ fun u s3 k3 r3 => hr v u s3 (Enc.mono k3.f r2) r3 _ ⟨z, rfl, q s3 (k2.trans k3)⟩)⟩
theorem eb_cmpR {op : CmpOp} {r : R2} {x : α} {ys : List β} {z : Bool} (ho : OpR X (compareOp op) r) (ha : Ev X a σ s x) (hb : EvR X b σ s ys)
    (hr : ∀ (v u : V) (s2 : S), rep X.K s2.F v x → RepR X.K s2 u ys → ∀ Q : VK, Q (.bl z) s2.H → r v u s2.H Q) (hm : behindInMarks op b = false) : EvB X (.Compare a [op] [b] pos) σ s z :=
  ⟨fun s1 k Q q => we_of (pe_cmpR ho pe_we pe_we hm) (ha s1 k _ fun v s2 k2 r2 => hb s2 (k.trans k2) _ fun u s3 k3 r3 => hr v u s3 (Enc.mono k3.f r2) r3 Q (q _ s3 (k2.trans k3) rfl)),
   fun s1 k Q q => wt_of (pt_cmpR ho pe_we pe_we hm) (ha s1 k _ fun v s2 k2 r2 => hb s2 (k.trans k2) _ fun u s3 k3 r3 => hr v u s3 (Enc.mono k3.f r2) r3 _ ⟨z, rfl, q s3 (k2.trans k3)⟩)⟩
theorem eb_cmpRR {op : CmpOp} {r : R2} {xs : List α} {ys : List β} {z : Bool} (ho : OpR X (compareOp op) r) (ha : EvR X a σ s xs) (hb : EvR X b σ s ys)
    (hr : ∀ (v u : V) (s2 : S), RepR X.K s2 v xs → RepR X.K s2 u ys → ∀ Q : VK, Q (.bl z) s2.H → r v u s2.H Q) (hm : behindInMarks op b = false) : EvB X (.Compare a [op] [b] pos) σ s z :=
  ⟨fun s1 k Q q => we_of (pe_cmpR ho pe_we pe_we hm) (ha s1 k _ fun v s2 k2 r2 => hb s2 (k.trans k2) _ fun u s3 k3 r3 => hr v u s3 (r2.ex k3) r3 Q (q _ s3 (k2.trans k3) rfl)),
   fun s1 k Q q => wt_of (pt_cmpR ho pe_we pe_we hm) (ha s1 k _ fun v s2 k2 r2 => hb s2 (k.trans k2) _ fun u s3 k3 r3 => hr v u s3 (r2.ex k3) r3 _ ⟨z, rfl, q s3 (k2.trans k3)⟩)⟩
theorem eb_I0 {op : CmpOp} {g : Int → Int → V} {x y : Int} {z : Bool} (ho : OpR X (compareOp op) (rI0 g)) (hg : g x y = .bl z) (hm : behindInMarks op b = false) (ha : Ev X a σ s x) (hb : Ev X b σ s y) : EvB X (.Compare a [op] [b] pos) σ s z :=
  eb_cmp ho ha hb (fun v u s2 hv hu Q q => ⟨x, y, hv, hu, by rw [hg]; exact q⟩) hm
theorem eb_lt {x y : Int} (ha : Ev X a σ s x) (hb : Ev X b σ s y) : EvB X (.Compare a [.Lt] [b] pos) σ s (decide (x < y)) := eb_I0 op_lt rfl (nomark _) ha hb
theorem eb_le {x y : Int} (ha : Ev X a σ s x) (hb : Ev X b σ s y) : EvB X (.Compare a [.LtE] [b] pos) σ s (decide (x ≤ y)) := eb_I0 op_le rfl (nomark _) ha hb
theorem eb_gt {x y : Int} (ha : Ev X a σ s x) (hb : Ev X b σ s y) : EvB X (.Compare a [.Gt] [b] pos) σ s (decide (y < x)) := eb_I0 op_gt rfl (nomark _) ha hb
theorem eb_ge {x y : Int} (ha : Ev X a σ s x) (hb : Ev X b σ s y) : EvB X (.Compare a [.GtE] [b] pos) σ s (decide (y ≤ x)) := eb_I0 op_ge rfl (nomark _) ha hb
class Eqs (α : Type) extends Flat α where
  sc : ∀ x y : α, scal (toV x) (toV y) = true
  ij : ∀ x y : α, toV x = toV y ↔ x = y
instance : Eqs Int := { sc := fun _ _ => rfl, ij := fun x y => by show V.int x = V.int y ↔ _; simp }
instance : Eqs Bool := { sc := fun _ _ => rfl, ij := fun x y => by show V.bl x = V.bl y ↔ _; simp }
instance : Eqs Str := { sc := fun _ _ => rfl, ij := fun x y => by show V.str x = V.str y ↔ _; simp }
theorem eb_eq {ε : Type} [Eqs ε] [DecidableEq ε] {x y : ε} (ha : Ev X a σ s x) (hb : Ev X b σ s y) : EvB X (.Compare a [.Eq] [b] pos) σ s (decide (x = y)) :=
  eb_cmp op_eq ha hb (fun v u s2 hv hu Q q => by
    rw [Flat.iff.mp hv, Flat.iff.mp hu]
    refine ⟨Eqs.sc x y, ?_⟩
    rw [show decide (toV x = toV y) = decide (x = y) from decide_eq_decide.mpr (Eqs.ij x y)]
    exact q) (nomark _)
theorem eb_ne {ε : Type} [Eqs ε] [DecidableEq ε] {x y : ε} (ha : Ev X a σ s x) (hb : Ev X b σ s y) : EvB X (.Compare a [.NotEq] [b] pos) σ s (!decide (x = y)) :=
  eb_cmp op_ne ha hb (fun v u s2 hv hu Q q => by
    rw [Flat.iff.mp hv, Flat.iff.mp hu]
    refine ⟨Eqs.sc x y, ?_⟩
    rw [show decide (toV x = toV y) = decide (x = y) from decide_eq_decide.mpr (Eqs.ij x y)]
    exact q) (nomark _)
theorem eb_isN {o : Type} [Opn o] {x : Option o} {j} (ha : Ev X a σ s x) : EvB X (.Compare a [.Is] [.Constant .none j p1] pos) σ s x.isNone :=
  eb_cmp op_isN ha ev_non (fun v u s2 hv hu Q q => by
    refine ⟨hu, ?_⟩
    have : decide (v = V.non) = x.isNone := by
      cases x with
      | none => cases (show v = V.non from hv); rfl
      | some y => exact decide_eq_false fun z => Opn.notNon (z ▸ (show rep X.K s2.F v y from hv))
    rw [this]; exact q) (nomark _)
theorem eb_notN {o : Type} [Opn o] {x : Option o} {j} (ha : Ev X a σ s x) : EvB X (.Compare a [.IsNot] [.Constant .none j p1] pos) σ s x.isSome :=
  eb_cmp op_notN ha ev_non (fun v u s2 hv hu Q q => by
    refine ⟨hu, ?_⟩
    have : (!decide (v = V.non)) = x.isSome := by
      cases x with
      | none => cases (show v = V.non from hv); rfl
      | some y => rw [decide_eq_false fun z => Opn.notNon (z ▸ (show rep X.K s2.F v y from hv))]; rfl
    rw [this]; exact q) (nomark _)
theorem eb_in {ε : Type} [Eqs ε] [DecidableEq ε] {x : ε} {xs : List ε} (ha : Ev X a σ s x) (hb : EvR X b σ s xs) (hm : behindInMarks .In b = false := by rfl) : EvB X (.Compare a [.In] [b] pos) σ s (decide (x ∈ xs)) :=
  eb_cmpR op_in_seq ha hb (fun v u s2 hv hu Q q => by
    obtain ⟨p, vs, rfl, h1, h2⟩ := hu
    rw [Flat.iff.mp hv]
    obtain rfl := h2.flat
    refine ⟨p, _, rfl, .inl h1, Flat.flat x, flat_all xs, ?_⟩
    rw [inV_flat]; exact q) hm
theorem eb_notIn {ε : Type} [Eqs ε] [DecidableEq ε] {x : ε} {xs : List ε} (ha : Ev X a σ s x) (hb : EvR X b σ s xs) (hm : behindInMarks .NotIn b = false := by rfl) : EvB X (.Compare a [.NotIn] [b] pos) σ s (!decide (x ∈ xs)) :=
  eb_cmpR op_notIn_seq ha hb (fun v u s2 hv hu Q q => by
    obtain ⟨p, vs, rfl, h1, h2⟩ := hu
    rw [Flat.iff.mp hv]
    obtain rfl := h2.flat
    refine ⟨p, _, rfl, .inl h1, Flat.flat x, flat_all xs, ?_⟩
    rw [inV_flat]; exact q) hm
theorem eb_inT {ε : Type} [Eqs ε] [DecidableEq ε] {x : ε} {xs : Tu ε} (ha : Ev X a σ s x) (hb : Ev X b σ s xs) (hm : behindInMarks .In b = false := by rfl) : EvB X (.Compare a [.In] [b] pos) σ s (decide (x ∈ xs.l)) :=
  eb_cmp op_in_seq ha hb (fun v u s2 hv hu Q q => by
    obtain ⟨p, vs, rfl, h1, h2⟩ := hu
    rw [Flat.iff.mp hv]
    obtain rfl := h2.flat
    refine ⟨p, _, rfl, .inr (sqt_mono s2.sub h1), Flat.flat x, flat_all xs.l, ?_⟩
    rw [inV_flat]; exact q) hm
theorem eb_notInT {ε : Type} [Eqs ε] [DecidableEq ε] {x : ε} {xs : Tu ε} (ha : Ev X a σ s x) (hb : Ev X b σ s xs) (hm : behindInMarks .NotIn b = false := by rfl) : EvB X (.Compare a [.NotIn] [b] pos) σ s (!decide (x ∈ xs.l)) :=
  eb_cmp op_notIn_seq ha hb (fun v u s2 hv hu Q q => by
    obtain ⟨p, vs, rfl, h1, h2⟩ := hu
    rw [Flat.iff.mp hv]
    obtain rfl := h2.flat
    refine ⟨p, _, rfl, .inr (sqt_mono s2.sub h1), Flat.flat x, flat_all xs.l, ?_⟩
    rw [inV_flat]; exact q) hm
def inS (x y : Str) : Bool := !(Builtin.Str.occurrences y x 0 y.length 1).isEmpty
theorem eb_inS {x y : Str} (ha : Ev X a σ s x) (hb : Ev X b σ s y) (hm : behindInMarks .In b = false := by rfl) : EvB X (.Compare a [.In] [b] pos) σ s (inS x y) :=
  eb_cmp op_in_str ha hb (fun v u s2 hv hu Q q => ⟨x, y, hv, hu, q⟩) hm
theorem eb_notInS {x y : Str} (ha : Ev X a σ s x) (hb : Ev X b σ s y) (hm : behindInMarks .NotIn b = false := by rfl) : EvB X (.Compare a [.NotIn] [b] pos) σ s (!inS x y) :=
  eb_cmp op_notIn_str ha hb (fun v u s2 hv hu Q q => ⟨x, y, hv, hu, q⟩) hm
theorem eb_chain {op op' : CmpOp} {g g' : Int → Int → V} {x y z : Int} {k1 k2 : Bool} (ho : OpR X (compareOp op) (rI0 g)) (hg : g x y = .bl k1) (ho' : OpR X (compareOp op') (rI0 g')) (hg' : g' y z = .bl k2) (ha : Ev X a σ s x) (hb : Ev X b σ s y) (hc : Ev X c σ s z)
    (hm : lastMarks [op, op'] [b, c] = false := by with_unfolding_all rfl) : EvB X (.Compare a [op, op'] [b, c] pos) σ s (k1 && k2) :=
  ⟨fun s1 k Q q => we_of (pe_chain ho ho' pe_we pe_we pe_we hm) (ha s1 k _ fun v s2 j2 r2 => hb s2 (k.trans j2) _ fun u s3 j3 r3 => ⟨x, y, r2, r3, k1, hg, by
    cases k1 with
    | true => exact iteT (hc s3 ((k.trans j2).trans j3) _ fun w s4 j4 r4 => ⟨y, z, r3, r4, by rw [hg']; exact q _ s4 ((j2.trans j3).trans j4) rfl⟩)
    | false => exact iteF (q _ s3 (j2.trans j3) rfl)⟩),
   fun s1 k Q q => wt_of (pt_chain ho ho' pe_we pe_we pe_we hm) (ha s1 k _ fun v s2 j2 r2 => hb s2 (k.trans j2) _ fun u s3 j3 r3 => ⟨x, y, r2, r3, k1, hg, by
    cases k1 with
    | true => exact iteT (hc s3 ((k.trans j2).trans j3) _ fun w s4 j4 r4 => ⟨y, z, r3, r4, by rw [hg']; exact ⟨_, rfl, q s4 ((j2.trans j3).trans j4)⟩⟩)
    | false => exact iteF ⟨_, rfl, q s3 (j2.trans j3)⟩⟩)⟩

theorem ea_nil : EvA X [] σ s () := fun s1 k Q q => wa_of pa_nil (q [] s1 (Ex.refl _) rfl)
theorem ea_cons {A : Type} [EncA A] {x : α} {r : A} (h : Ev X e σ s x) (hr : EvA X es σ s r) (hs : starEach (e :: es) X.env = (false, eval e X.env) :: starEach es X.env := by rfl) : EvA X (e :: es) σ s (x, r) := fun s1 k Q q =>
  wa_of (pa_cons pe_we pa_wa hs) (h s1 k _ fun v s2 k2 r2 => hr s2 (k.trans k2) _ fun vs s3 k3 r3 => q _ s3 (k2.trans k3) ⟨v, vs, rfl, Enc.mono k3.f r2, r3⟩)
theorem ev_B1 {id : String} {n : Str} {r : List V → Hp → VK → Prop} {x : β} {y : α} (hc : CallR X (.builtin id) r) (hg : Gl X n) (hm : X.mg n = none) (hv : bootBuiltins n = some (.builtin id)) (ha : Ev X e σ s x)
    (hr : ∀ (v : V) (s2 : S), rep X.K s2.F v x → ∀ Q : VK, (∀ w s3, Ex s2 s3 → rep X.K s3.F w y → Q w s3.H) → r [v] s2.H Q) (hn : n ≠ "__name__" := by decide) (hdb : (n == ("__debug__" : Str)) = false := by decide)
    (he : starEach [e] X.env = (false, eval e X.env) :: starEach [] X.env := by rfl) (hpl : (backTo pos (starEach [] X.env)).any (·.1) = false := by rfl) : Ev X (.Call (.Name n p0) [e] [] pos) σ s y := fun s1 k Q q =>
  we_of (pe_callB hc hg hm hv (pa_cons pe_we pa_nil he) hn hdb he hpl) (ha s1 k _ fun v s2 k2 r2 => hr v s2 r2 Q fun w s3 k3 r3 => q w s3 (k2.trans k3) r3)
theorem ev_BR {id : String} {n : Str} {r : List V → Hp → VK → Prop} {xs : List β} {y : α} (hc : CallR X (.builtin id) r) (hg : Gl X n) (hm : X.mg n = none) (hv : bootBuiltins n = some (.builtin id)) (ha : EvR X e σ s xs)
    (hr : ∀ (v : V) (s2 : S), RepR X.K s2 v xs → ∀ Q : VK, (∀ w s3, Ex s2 s3 → rep X.K s3.F w y → Q w s3.H) → r [v] s2.H Q) (hn : n ≠ "__name__" := by decide) (hdb : (n == ("__debug__" : Str)) = false := by decide)
    (he : starEach [e] X.env = (false, eval e X.env) :: starEach [] X.env := by rfl) (hpl : (backTo pos (starEach [] X.env)).any (·.1) = false := by rfl) : Ev X (.Call (.Name n p0) [e] [] pos) σ s y := fun s1 k Q q =>
  we_of (pe_callB hc hg hm hv (pa_cons pe_we pa_nil he) hn hdb he hpl) (ha s1 k _ fun v s2 k2 r2 => hr v s2 r2 Q fun w s3 k3 r3 => q w s3 (k2.trans k3) r3)
theorem ev_len {xs : List β} (hm : X.mg "len" = none) (ha : EvR X e σ s xs) (hg : Gl X "len" := by rfl) (he : starEach [e] X.env = (false, eval e X.env) :: starEach [] X.env := by rfl) (hpl : (backTo pos (starEach [] X.env)).any (·.1) = false := by rfl) : Ev X (.Call (.Name "len" p0) [e] [] pos) σ s (xs.length : Int) :=
  ev_BR call_len_seq hg hm boot_len ha (fun v s2 r2 Q q => by
    obtain ⟨p, vs, rfl, h1, h2⟩ := r2
    exact ⟨p, vs, rfl, .inl h1, q _ s2 (Ex.refl _) (by rw [h2.len]; rfl)⟩) (he := he) (hpl := hpl)
theorem ev_lenT {xs : Tu β} (hm : X.mg "len" = none) (ha : Ev X e σ s xs) (hg : Gl X "len" := by rfl) (he : starEach [e] X.env = (false, eval e X.env) :: starEach [] X.env := by rfl) (hpl : (backTo pos (starEach [] X.env)).any (·.1) = false := by rfl) : Ev X (.Call (.Name "len" p0) [e] [] pos) σ s (xs.l.length : Int) :=
  ev_B1 call_len_seq hg hm boot_len ha (fun v s2 r2 Q q => by
    obtain ⟨p, vs, rfl, h1, h2⟩ := r2
    exact ⟨p, vs, rfl, .inr (sqt_mono s2.sub h1), q _ s2 (Ex.refl _) (by rw [h2.len]; rfl)⟩) (he := he) (hpl := hpl)
theorem ev_lenS {x : Str} (hm : X.mg "len" = none) (hz : x.length ≤ sizeLine) (ha : Ev X e σ s x) (hg : Gl X "len" := by rfl) (he : starEach [e] X.env = (false, eval e X.env) :: starEach [] X.env := by rfl) (hpl : (backTo pos (starEach [] X.env)).any (·.1) = false := by rfl) : Ev X (.Call (.Name "len" p0) [e] [] pos) σ s (x.length : Int) :=
  ev_B1 call_len_str hg hm boot_len ha (fun v s2 r2 Q q => ⟨x, by rw [show v = V.str x from r2], hz, q _ s2 (Ex.refl _) rfl⟩) (he := he) (hpl := hpl)
theorem ev_sum {xs : List Int} (hm : X.mg "sum" = none) (ha : EvR X e σ s xs) (hc : X.calm = true := by rfl) (hg : Gl X "sum" := by rfl) (he : starEach [e] X.env = (false, eval e X.env) :: starEach [] X.env := by rfl) (hpl : (backTo pos (starEach [] X.env)).any (·.1) = false := by rfl) : Ev X (.Call (.Name "sum" p0) [e] [] pos) σ s xs.sum :=
  ev_BR (cr_sum hc) hg hm (by decide +kernel) ha (fun v s2 r2 Q q => by
    obtain ⟨p, vs, rfl, h1, h2⟩ := r2
    rw [h2.flat] at h1
    exact ⟨p, xs, rfl, h1, q _ s2 (Ex.refl _) rfl⟩) (he := he) (hpl := hpl)
theorem ev_all {xs : List Bool} (hm : X.mg "all" = none) (ha : EvR X e σ s xs) (hc : X.calm = true := by rfl) (hg : Gl X "all" := by rfl) (he : starEach [e] X.env = (false, eval e X.env) :: starEach [] X.env := by rfl) (hpl : (backTo pos (starEach [] X.env)).any (·.1) = false := by rfl) : Ev X (.Call (.Name "all" p0) [e] [] pos) σ s (xs.all id) :=
  ev_BR (cr_all hc) hg hm (by decide +kernel) ha (fun v s2 r2 Q q => by
    obtain ⟨p, vs, rfl, h1, h2⟩ := r2
    rw [h2.flat] at h1
    exact ⟨p, xs, rfl, h1, q _ s2 (Ex.refl _) rfl⟩) (he := he) (hpl := hpl)
theorem ev_any {xs : List Bool} (hm : X.mg "any" = none) (ha : EvR X e σ s xs) (hc : X.calm = true := by rfl) (hg : Gl X "any" := by rfl) (he : starEach [e] X.env = (false, eval e X.env) :: starEach [] X.env := by rfl) (hpl : (backTo pos (starEach [] X.env)).any (·.1) = false := by rfl) : Ev X (.Call (.Name "any" p0) [e] [] pos) σ s (xs.any id) :=
  ev_BR (cr_any hc) hg hm (by decide +kernel) ha (fun v s2 r2 Q q => by
    obtain ⟨p, vs, rfl, h1, h2⟩ := r2
    rw [h2.flat] at h1
    exact ⟨p, xs, rfl, h1, q _ s2 (Ex.refl _) rfl⟩) (he := he) (hpl := hpl)
def minL : List Int → Option Int
  | [] => none
  | x :: xs => some (xs.foldl min x)
def maxL : List Int → Option Int
  | [] => none
  | x :: xs => some (xs.foldl max x)
theorem foldl_min (xs : List Int) : ∀ x : Int, (xs.foldl min x ∈ x :: xs) ∧ ∀ y ∈ x :: xs, xs.foldl min x ≤ y := by
  induction xs with
  | nil => intro x; exact ⟨by simp, fun y hy => by simp at hy; simp [hy]⟩
  | cons a r ih =>
    intro x
    obtain ⟨h1, h2⟩ := ih (min x a)
    refine ⟨?_, fun y hy => ?_⟩
    · rw [List.foldl_cons]
      rcases List.mem_cons.mp h1 with h | h
      · rw [h]
        by_cases hx : x ≤ a
        · rw [Int.min_eq_left hx]; exact List.mem_cons_self
        · rw [Int.min_eq_right (by omega)]; exact List.mem_cons_of_mem _ List.mem_cons_self
      · exact List.mem_cons_of_mem _ (List.mem_cons_of_mem _ h)
    · rw [List.foldl_cons]
      have h3 := h2 (min x a) List.mem_cons_self
      rcases List.mem_cons.mp hy with rfl | hy
      · exact Int.le_trans h3 (Int.min_le_left _ _)
      · rcases List.mem_cons.mp hy with rfl | hy
        · exact Int.le_trans h3 (Int.min_le_right _ _)
        · exact h2 y (List.mem_cons_of_mem _ hy)
theorem foldl_max (xs : List Int) : ∀ x : Int, (xs.foldl max x ∈ x :: xs) ∧ ∀ y ∈ x :: xs, y ≤ xs.foldl max x := by
  induction xs with
  | nil => intro x; exact ⟨by simp, fun y hy => by simp at hy; simp [hy]⟩
  | cons a r ih =>
    intro x
    obtain ⟨h1, h2⟩ := ih (max x a)
    refine ⟨?_, fun y hy => ?_⟩
    · rw [List.foldl_cons]
      rcases List.mem_cons.mp h1 with h | h
      · rw [h]
        by_cases hx : a ≤ x
        · rw [Int.max_eq_left hx]; exact List.mem_cons_self
        · rw [Int.max_eq_right (by omega)]; exact List.mem_cons_of_mem _ List.mem_cons_self
      · exact List.mem_cons_of_mem _ (List.mem_cons_of_mem _ h)
    · rw [List.foldl_cons]
      have h3 := h2 (max x a) List.mem_cons_self
      rcases List.mem_cons.mp hy with rfl | hy
      · exact Int.le_trans (Int.le_max_left _ _) h3
      · rcases List.mem_cons.mp hy with rfl | hy
        · exact Int.le_trans (Int.le_max_right _ _) h3
        · exact h2 y (List.mem_cons_of_mem _ hy)
theorem minL_of {xs : List Int} {m : Int} (h1 : m ∈ xs) (h2 : ∀ y ∈ xs, m ≤ y) : minL xs = some m := by
  cases xs with
  | nil => simp at h1
  | cons x r =>
    obtain ⟨h3, h4⟩ := foldl_min r x
    exact congrArg some (Int.le_antisymm (h4 m h1) (h2 _ h3))
theorem maxL_of {xs : List Int} {m : Int} (h1 : m ∈ xs) (h2 : ∀ y ∈ xs, y ≤ m) : maxL xs = some m := by
  cases xs with
  | nil => simp at h1
  | cons x r =>
    obtain ⟨h3, h4⟩ := foldl_max r x
    exact congrArg some (Int.le_antisymm (h2 _ h3) (h4 m h1))
theorem ev_min {xs : List Int} {m : Int} (hm : X.mg "min" = none) (ha : EvR X e σ s xs) (h : minL xs = some m) (hc : X.calm = true := by rfl) (hg : Gl X "min" := by rfl) (he : starEach [e] X.env = (false, eval e X.env) :: starEach [] X.env := by rfl) (hpl : (backTo pos (starEach [] X.env)).any (·.1) = false := by rfl) : Ev X (.Call (.Name "min" p0) [e] [] pos) σ s m :=
  ev_BR (cr_min hc) hg hm (by decide +kernel) ha (fun v s2 r2 Q q => by
    obtain ⟨p, vs, rfl, h1, h2⟩ := r2
    rw [h2.flat] at h1
    refine ⟨p, xs, rfl, h1, ?_, fun z hz1 hz2 => ?_⟩
    · cases xs with
      | nil => cases h
      | cons _ _ => exact Nat.succ_pos _
    · rw [minL_of hz1 hz2] at h
      cases h
      exact q _ s2 (Ex.refl _) rfl) (he := he) (hpl := hpl)
theorem ev_max {xs : List Int} {m : Int} (hm : X.mg "max" = none) (ha : EvR X e σ s xs) (h : maxL xs = some m) (hc : X.calm = true := by rfl) (hg : Gl X "max" := by rfl) (he : starEach [e] X.env = (false, eval e X.env) :: starEach [] X.env := by rfl) (hpl : (backTo pos (starEach [] X.env)).any (·.1) = false := by rfl) : Ev X (.Call (.Name "max" p0) [e] [] pos) σ s m :=
  ev_BR (cr_max hc) hg hm (by decide +kernel) ha (fun v s2 r2 Q q => by
    obtain ⟨p, vs, rfl, h1, h2⟩ := r2
    rw [h2.flat] at h1
    refine ⟨p, xs, rfl, h1, ?_, fun z hz1 hz2 => ?_⟩
    · cases xs with
      | nil => cases h
      | cons _ _ => exact Nat.succ_pos _
    · rw [maxL_of hz1 hz2] at h
      cases h
      exact q _ s2 (Ex.refl _) rfl) (he := he) (hpl := hpl)
theorem ev_min2 {x y : Int} (hm : X.mg "min" = none) (ha : Ev X a σ s x) (hb : Ev X b σ s y) (hc : X.calm = true := by rfl) (hg : Gl X "min" := by rfl) (he : starEach [a, b] X.env = (false, eval a X.env) :: starEach [b] X.env := by rfl) (he2 : starEach [b] X.env = (false, eval b X.env) :: starEach [] X.env := by rfl) (hpl : (backTo pos (starEach [b] X.env)).any (·.1) = false := by rfl) : Ev X (.Call (.Name "min" p0) [a, b] [] pos) σ s (min x y) := fun s1 k Q q =>
  we_of (pe_callB (call_min2 hc) hg hm (by decide +kernel) (pa_cons pe_we (pa_cons pe_we pa_nil he2) he) (he := he) (hpl := hpl)) (ha s1 k _ fun v s2 k2 r2 => hb s2 (k.trans k2) _ fun u s3 k3 r3 =>
    ⟨x, y, by rw [show v = V.int x from r2, show u = V.int y from r3], q _ s3 (k2.trans k3) (by
      show V.int _ = V.int _
      by_cases h : y < x
      · rw [if_pos h, Int.min_eq_right (by omega)]
      · rw [if_neg h, Int.min_eq_left (by omega)])⟩)
theorem ev_max2 {x y : Int} (hm : X.mg "max" = none) (ha : Ev X a σ s x) (hb : Ev X b σ s y) (hc : X.calm = true := by rfl) (hg : Gl X "max" := by rfl) (he : starEach [a, b] X.env = (false, eval a X.env) :: starEach [b] X.env := by rfl) (he2 : starEach [b] X.env = (false, eval b X.env) :: starEach [] X.env := by rfl) (hpl : (backTo pos (starEach [b] X.env)).any (·.1) = false := by rfl) : Ev X (.Call (.Name "max" p0) [a, b] [] pos) σ s (max x y) := fun s1 k Q q =>
  we_of (pe_callB (call_max2 hc) hg hm (by decide +kernel) (pa_cons pe_we (pa_cons pe_we pa_nil he2) he) (he := he) (hpl := hpl)) (ha s1 k _ fun v s2 k2 r2 => hb s2 (k.trans k2) _ fun u s3 k3 r3 =>
    ⟨x, y, by rw [show v = V.int x from r2, show u = V.int y from r3], q _ s3 (k2.trans k3) (by
      show V.int _ = V.int _
      by_cases h : y > x
      · rw [if_pos h, Int.max_eq_right (by omega)]
      · rw [if_neg h, Int.max_eq_left (by omega)])⟩)
theorem ev_T1 {T : String} {n : Str} {r : List V → Hp → VK → Prop} {x : β} {y : α} (hc : CallR X (.type T) r) (hg : Gl X n) (hm : X.mg n = none) (hv : bootBuiltins n = some (.type T)) (ha : Ev X e σ s x)
    (hr : ∀ (v : V) (s2 : S), rep X.K s2.F v x → ∀ Q : VK, (∀ w s3, Ex s2 s3 → rep X.K s3.F w y → Q w s3.H) → r [v] s2.H Q) (hn : n ≠ "__name__" := by decide) (hdb : (n == ("__debug__" : Str)) = false := by decide)
    (he : starEach [e] X.env = (false, eval e X.env) :: starEach [] X.env := by rfl) (hpl : (backTo pos (starEach [] X.env)).any (·.1) = false := by rfl) : Ev X (.Call (.Name n p0) [e] [] pos) σ s y := fun s1 k Q q =>
  we_of (pe_callTy hc hg hm hv (pa_cons pe_we pa_nil he) hn hdb he hpl) (ha s1 k _ fun v s2 k2 r2 => hr v s2 r2 Q fun w s3 k3 r3 => q w s3 (k2.trans k3) r3)
theorem ev_intB {x : Bool} (hm : X.mg "int" = none) (ha : Ev X e σ s x) (hg : Gl X "int" := by rfl) (he : starEach [e] X.env = (false, eval e X.env) :: starEach [] X.env := by rfl) (hpl : (backTo pos (starEach [] X.env)).any (·.1) = false := by rfl) : Ev X (.Call (.Name "int" p0) [e] [] pos) σ s (if x = true then (1 : Int) else 0) :=
  ev_T1 call_int1 hg hm (by decide +kernel) ha (fun v s2 r2 Q q => .inr ⟨x, by rw [show v = V.bl x from r2], q _ s2 (Ex.refl _) rfl⟩) (he := he) (hpl := hpl)
theorem ev_intS {x : Str} {n : Int} (hm : X.mg "int" = none) (ha : Ev X e σ s x) (h : PySem.intText? x = some n) (hl : x.length ≤ 640) (hg : Gl X "int" := by rfl) (he : starEach [e] X.env = (false, eval e X.env) :: starEach [] X.env := by rfl) (hpl : (backTo pos (starEach [] X.env)).any (·.1) = false := by rfl) : Ev X (.Call (.Name "int" p0) [e] [] pos) σ s n :=
  ev_T1 call_int_str hg hm (by decide +kernel) ha (fun v s2 r2 Q q => ⟨x, n, by rw [show v = V.str x from r2], h, hl, q _ s2 (Ex.refl _) rfl⟩) (he := he) (hpl := hpl)
theorem ev_strI {x : Int} (hm : X.mg "str" = none) (h : x.natAbs.log2 < 1920) (ha : Ev X e σ s x) (hg : Gl X "str" := by rfl) (he : starEach [e] X.env = (false, eval e X.env) :: starEach [] X.env := by rfl) (hpl : (backTo pos (starEach [] X.env)).any (·.1) = false := by rfl) : Ev X (.Call (.Name "str" p0) [e] [] pos) σ s (toString x : Str) :=
  ev_T1 call_str_int hg hm (by decide +kernel) ha (fun v s2 r2 Q q => ⟨x, by rw [show v = V.int x from r2], h, q _ s2 (Ex.refl _) rfl⟩) (he := he) (hpl := hpl)
end
end Dy

namespace Dy
open PySem PySem.Spec L2
open PyProof.Rows hiding St
open Enc (rep)
open Flat (toV)
open EncA (repA)

section
variable {α β γ δ ζ : Type} [Enc α] [Enc β] [Enc γ] [Enc δ] [Enc ζ] {X : Cx} {σ : St} {s t : S} {e a b c : Expr} {es : List Expr} {pos p0 p1 p2 p3 : Pos}

def EvE (X : Cx) (es : List Expr) (σ : St) (s : S) (xs : List α) : Prop := ∀ s1, Ex s s1 → ∀ Q : List V → Hp → Prop, (∀ vs s2, Ex s1 s2 → Reps X.K s2.F vs xs → Q vs s2.H) → WA X es σ s1.H Q
theorem ee_nil : EvE X [] σ s ([] : List α) := fun s1 k Q q => wa_of pa_nil (q [] s1 (Ex.refl _) trivial)
theorem ee_cons {x : α} {xs : List α} (h : Ev X e σ s x) (hr : EvE X es σ s xs) (hs : starEach (e :: es) X.env = (false, eval e X.env) :: starEach es X.env := by rfl) : EvE X (e :: es) σ s (x :: xs) := fun s1 k Q q =>
  wa_of (pa_cons pe_we pa_wa hs) (h s1 k _ fun v s2 k2 r2 => hr s2 (k.trans k2) _ fun vs s3 k3 r3 => q _ s3 (k2.trans k3) ⟨Enc.mono k3.f r2, r3⟩)
theorem own_new {K : PySem.W.Frag} {p : Addr} {vs : List V} {xs : List α} (h : s.H p = none) (r : Reps K s.F vs xs) : Own K (s.newO p (.lst vs) h) p xs := ⟨(fF h : s.F p = none), vs, upd_same, r⟩
theorem en_list {xs : List α} (h : EvE X es σ s xs) (hz : xs.length ≤ sizeLine := by decide) : EvN X (.List es pos) σ s xs := fun s1 k Q q =>
  we_of (pe_lst pa_wa) (h s1 k _ fun vs s2 k2 r2 => ⟨by rw [r2.len]; exact hz, fun p hp => q p (s2.newO p (.lst vs) hp) (k2.trans (Ex.newO hp)) (fr_back k2 hp) (own_new hp r2)⟩)
theorem tup_new {K : PySem.W.Frag} {p : Addr} {vs : List V} (h : s.H p = none) : SqT K (s.newF p (.tup vs) h).F p vs := .inl (.inl upd_same)
theorem ev_tu {xs : List α} (h : EvE X es σ s xs) (hz : xs.length ≤ sizeLine := by decide) {n} : Ev X (.Tuple es n pos) σ s (⟨xs⟩ : Tu α) := fun s1 k Q q =>
  we_of (pe_tup pa_wa) (h s1 k _ fun vs s2 k2 r2 => ⟨by rw [r2.len]; exact hz, fun p hp => q _ (s2.newF p (.tup vs) hp) (k2.trans (Ex.newF hp)) ⟨p, vs, rfl, tup_new hp, r2.mono (Ex.newF hp).f⟩⟩)
theorem ev_t1 {x : α} {n} (h : EvA X es σ s (x, ())) : Ev X (.Tuple es n pos) σ s (⟨x⟩ : T1 α) := fun s1 k Q q =>
  we_of (pe_tup pa_wa) (h s1 k _ fun vs s2 k2 r2 => by
    obtain ⟨v1, _, rfl, r1, rfl⟩ := r2
    refine ⟨show _ ≤ 2 ^ 24 by simp, fun p hp => q _ (s2.newF p _ hp) (k2.trans (Ex.newF hp)) ⟨p, v1, rfl, tup_new hp, Enc.mono (Ex.newF hp).f r1⟩⟩)
theorem ev_t2 {x : α} {y : β} {n} (h : EvA X es σ s (x, y, ())) : Ev X (.Tuple es n pos) σ s (x, y) := fun s1 k Q q =>
  we_of (pe_tup pa_wa) (h s1 k _ fun vs s2 k2 r2 => by
    obtain ⟨v1, _, rfl, r1, v2, _, rfl, r2, rfl⟩ := r2
    refine ⟨show _ ≤ 2 ^ 24 by simp, fun p hp => q _ (s2.newF p _ hp) (k2.trans (Ex.newF hp)) ⟨p, v1, v2, rfl, tup_new hp, Enc.mono (Ex.newF hp).f r1, Enc.mono (Ex.newF hp).f r2⟩⟩)
theorem ev_t3 {x : α} {y : β} {z : γ} {n} (h : EvA X es σ s (x, y, z, ())) : Ev X (.Tuple es n pos) σ s (⟨x, y, z⟩ : T3 α β γ) := fun s1 k Q q =>
  we_of (pe_tup pa_wa) (h s1 k _ fun vs s2 k2 r2 => by
    obtain ⟨v1, _, rfl, r1, v2, _, rfl, r2, v3, _, rfl, r3, rfl⟩ := r2
    refine ⟨show _ ≤ 2 ^ 24 by simp, fun p hp => q _ (s2.newF p _ hp) (k2.trans (Ex.newF hp)) ⟨p, v1, v2, v3, rfl, tup_new hp, Enc.mono (Ex.newF hp).f r1, Enc.mono (Ex.newF hp).f r2, Enc.mono (Ex.newF hp).f r3⟩⟩)
theorem ev_t4 {x : α} {y : β} {z : γ} {u : δ} {n} (h : EvA X es σ s (x, y, z, u, ())) : Ev X (.Tuple es n pos) σ s (⟨x, y, z, u⟩ : T4 α β γ δ) := fun s1 k Q q =>
  we_of (pe_tup pa_wa) (h s1 k _ fun vs s2 k2 r2 => by
    obtain ⟨v1, _, rfl, r1, v2, _, rfl, r2, v3, _, rfl, r3, v4, _, rfl, r4, rfl⟩ := r2
    refine ⟨show _ ≤ 2 ^ 24 by simp, fun p hp => q _ (s2.newF p _ hp) (k2.trans (Ex.newF hp)) ⟨p, v1, v2, v3, v4, rfl, tup_new hp, Enc.mono (Ex.newF hp).f r1, Enc.mono (Ex.newF hp).f r2, Enc.mono (Ex.newF hp).f r3, Enc.mono (Ex.newF hp).f r4⟩⟩)
theorem ev_t5 {x : α} {y : β} {z : γ} {u : δ} {w : ζ} {n} (h : EvA X es σ s (x, y, z, u, w, ())) : Ev X (.Tuple es n pos) σ s (⟨x, y, z, u, w⟩ : T5 α β γ δ ζ) := fun s1 k Q q =>
  we_of (pe_tup pa_wa) (h s1 k _ fun vs s2 k2 r2 => by
    obtain ⟨v1, _, rfl, r1, v2, _, rfl, r2, v3, _, rfl, r3, v4, _, rfl, r4, v5, _, rfl, r5, rfl⟩ := r2
    refine ⟨show _ ≤ 2 ^ 24 by simp, fun p hp => q _ (s2.newF p _ hp) (k2.trans (Ex.newF hp)) ⟨p, v1, v2, v3, v4, v5, rfl, tup_new hp, Enc.mono (Ex.newF hp).f r1, Enc.mono (Ex.newF hp).f r2, Enc.mono (Ex.newF hp).f r3, Enc.mono (Ex.newF hp).f r4, Enc.mono (Ex.newF hp).f r5⟩⟩)

theorem en_T1 {n : Str} {T : String} {r : List V → Hp → VK → Prop} {xs : List β} {ys : List α} (hc : CallR X (.type T) r) (hg : Gl X n) (hm : X.mg n = none) (hv : bootBuiltins n = some (.type T)) (ha : EvR X e σ s xs)
    (hr : ∀ (v : V) (s2 : S), RepR X.K s2 v xs → ∀ Q : VK, (∀ p s3, Ex s2 s3 → s2.H p = none → Own X.K s3 p ys → Q (.ref p) s3.H) → r [v] s2.H Q) (hn : n ≠ "__name__" := by decide) (hdb : (n == ("__debug__" : Str)) = false := by decide)
    (he : starEach [e] X.env = (false, eval e X.env) :: starEach [] X.env := by rfl) (hpl : (backTo pos (starEach [] X.env)).any (·.1) = false := by rfl) : EvN X (.Call (.Name n p0) [e] [] pos) σ s ys := fun s1 k Q q =>
  we_of (pe_callTy hc hg hm hv (pa_cons pe_we pa_nil he) hn hdb he hpl) (ha s1 k _ fun v s2 k2 r2 => hr v s2 r2 Q fun w s3 k3 n3 r3 => q w s3 (k2.trans k3) (fr_back k2 n3) r3)
theorem en_copy {xs : List α} (hm : X.mg "list" = none) (ha : EvR X e σ s xs) (hg : Gl X "list" := by rfl) (he : starEach [e] X.env = (false, eval e X.env) :: starEach [] X.env := by rfl) (hpl : (backTo pos (starEach [] X.env)).any (·.1) = false := by rfl) : EvN X (.Call (.Name "list" p0) [e] [] pos) σ s xs :=
  en_T1 call_list_of hg hm (by decide +kernel) ha (fun v s2 r2 Q q => by
    obtain ⟨p, vs, rfl, h1, h2⟩ := r2
    exact ⟨p, vs, rfl, .inl h1, fun l hl => q l (s2.newO l _ hl) (Ex.newO hl) hl (own_new hl h2)⟩) (he := he) (hpl := hpl)
theorem en_copyT {xs : Tu α} (hm : X.mg "list" = none) (ha : Ev X e σ s xs) (hg : Gl X "list" := by rfl) (he : starEach [e] X.env = (false, eval e X.env) :: starEach [] X.env := by rfl) (hpl : (backTo pos (starEach [] X.env)).any (·.1) = false := by rfl) : EvN X (.Call (.Name "list" p0) [e] [] pos) σ s xs.l := fun s1 k Q q =>
  we_of (pe_callTy call_list_of hg hm (by decide +kernel) (pa_cons pe_we pa_nil he) (he := he) (hpl := hpl)) (ha s1 k _ fun v s2 k2 r2 => by
    obtain ⟨p, vs, rfl, h1, h2⟩ := r2
    exact ⟨p, vs, rfl, .inr (sqt_mono s2.sub h1), fun l hl => q l (s2.newO l _ hl) (k2.trans (Ex.newO hl)) (fr_back k2 hl) (own_new hl h2)⟩)
theorem ev_tuple {xs : List α} (hm : X.mg "tuple" = none) (ha : EvR X e σ s xs) (hg : Gl X "tuple" := by rfl) (he : starEach [e] X.env = (false, eval e X.env) :: starEach [] X.env := by rfl) (hpl : (backTo pos (starEach [] X.env)).any (·.1) = false := by rfl) : Ev X (.Call (.Name "tuple" p0) [e] [] pos) σ s (⟨xs⟩ : Tu α) := fun s1 k Q q =>
  we_of (pe_callTy call_tuple_of hg hm (by decide +kernel) (pa_cons pe_we pa_nil he) (he := he) (hpl := hpl)) (ha s1 k _ fun v s2 k2 r2 => by
    obtain ⟨p, vs, rfl, h1, h2⟩ := r2
    exact ⟨p, vs, rfl, .inl ⟨h1, fun l hl => q _ (s2.newF l _ hl) (k2.trans (Ex.newF hl)) ⟨l, vs, rfl, tup_new hl, h2.mono (Ex.newF hl).f⟩⟩⟩)
theorem ev_tupleT {xs : Tu α} (hm : X.mg "tuple" = none) (ha : Ev X e σ s xs) (hg : Gl X "tuple" := by rfl) (he : starEach [e] X.env = (false, eval e X.env) :: starEach [] X.env := by rfl) (hpl : (backTo pos (starEach [] X.env)).any (·.1) = false := by rfl) : Ev X (.Call (.Name "tuple" p0) [e] [] pos) σ s xs := fun s1 k Q q =>
  we_of (pe_callTy call_tuple_of hg hm (by decide +kernel) (pa_cons pe_we pa_nil he) (he := he) (hpl := hpl)) (ha s1 k _ fun v s2 k2 r2 => by
    obtain ⟨p, vs, rfl, h1, h2⟩ := r2
    exact ⟨p, vs, rfl, .inr ⟨sqt_mono s2.sub h1, q _ s2 k2 ⟨p, vs, rfl, h1, h2⟩⟩⟩)
def rng (a b : Int) : List Int := (List.range (b - a).toNat).map fun i : Nat => a + (i : Int)
theorem rgV_rng (a b : Int) : rgV a b = (rng a b).map V.int := by
  unfold rgV rng
  rw [List.map_map]; rfl
theorem en_listRg1 {n : Int} (hm : X.mg "list" = none) (hr : X.mg "range" = none) (ha : Ev X e σ s n) (hz : RgOk 0 n) (hc : X.calm = true := by rfl) (hg : Gl X "list" := by rfl) (hgr : Gl X "range" := by rfl)
    (he : starEach [e] X.env = (false, eval e X.env) :: starEach [] X.env := by rfl) (he2 : starEach [.Call (.Name "range" p1) [e] [] p2] X.env = (false, eval (.Call (.Name "range" p1) [e] [] p2) X.env) :: starEach [] X.env := by rfl) :
    EvN X (.Call (.Name "list" p0) [.Call (.Name "range" p1) [e] [] p2] [] pos) σ s (rng 0 n) := fun s1 k Q q =>
  we_of (pe_listRg hc hg hm (prg_1 hgr hr pe_we he) he2) (ha s1 k _ fun v s2 k2 r2 => ⟨n, r2, hz, fun l hl => q l (s2.newO l _ hl) (k2.trans (Ex.newO hl)) (fr_back k2 hl) (own_new hl (by rw [rgV_rng]; exact Reps.of_flat _))⟩)
theorem en_listRg2 {m n : Int} (hm : X.mg "list" = none) (hr : X.mg "range" = none) (ha : Ev X a σ s m) (hb : Ev X b σ s n) (hz : RgOk m n) (hc : X.calm = true := by rfl) (hg : Gl X "list" := by rfl) (hgr : Gl X "range" := by rfl)
    (he : starEach [a, b] X.env = (false, eval a X.env) :: starEach [b] X.env := by rfl) (heb : starEach [b] X.env = (false, eval b X.env) :: starEach [] X.env := by rfl) (hpl : (backTo p2 (starEach [b] X.env)).any (·.1) = false := by rfl)
    (he2 : starEach [.Call (.Name "range" p1) [a, b] [] p2] X.env = (false, eval (.Call (.Name "range" p1) [a, b] [] p2) X.env) :: starEach [] X.env := by rfl) :
    EvN X (.Call (.Name "list" p0) [.Call (.Name "range" p1) [a, b] [] p2] [] pos) σ s (rng m n) := fun s1 k Q q =>
  we_of (pe_listRg hc hg hm (prg_2 hgr hr pe_we pe_we he heb hpl) he2) (ha s1 k _ fun v s2 k2 r2 => hb s2 (k.trans k2) _ fun u s3 k3 r3 => ⟨m, n, r2, r3, hz, fun l hl => q l (s3.newO l _ hl) ((k2.trans k3).trans (Ex.newO hl)) (fr_back (k2.trans k3) hl) (own_new hl (by rw [rgV_rng]; exact Reps.of_flat _))⟩)
def cut {τ : Type} (xs : List τ) (lo hi : Option Int) : List τ := (xs.drop (HT.sIx xs.length 0 lo)).take (HT.sIx xs.length xs.length hi - HT.sIx xs.length 0 lo)
theorem Reps.cut {K : PySem.W.Frag} {F : Hp} {vs : List V} {xs : List α} (r : Reps K F vs xs) (lo hi : Option Int) : Reps K F (cutV vs lo hi) (Dy.cut xs lo hi) := by
  unfold cutV Dy.cut
  rw [r.len]
  exact (r.drop _).take _
def EvO (X : Cx) (o : Option Expr) (σ : St) (s : S) (x : Option Int) : Prop := match o, x with
  | none, none => True
  | some e, some i => Ev X e σ s i
  | _, _ => False
theorem po_evo {o : Option Expr} {x : Option Int} (h : EvO X o σ s x) : ∃ t, PO X o t ∧ ∀ s1, Ex s s1 → ∀ Q : Option Int → Hp → Prop, (∀ s2, Ex s1 s2 → Q x s2.H) → t σ s1.H Q := by
  cases o with
  | none =>
    cases x with
    | none => exact ⟨_, po_none, fun s1 k Q q => q s1 (Ex.refl _)⟩
    | some i => exact h.elim
  | some e =>
    cases x with
    | none => exact h.elim
    | some i => exact ⟨_, po_some pe_we, fun s1 k Q q => (show Ev X e σ s i from h) s1 k _ fun v s2 k2 r2 => ⟨i, r2, q s2 k2⟩⟩
theorem eo_none : EvO X none σ s none := trivial
theorem eo_some {i : Int} (h : Ev X e σ s i) : EvO X (some e) σ s (some i) := h
theorem en_slice {xs : List α} {lo hi : Option Expr} {l h : Option Int} (ha : EvR X a σ s xs) (hl : EvO X lo σ s l) (hh : EvO X hi σ s h) : EvN X (.Subscript a (.Slice lo hi none p2) pos) σ s (cut xs l h) := fun s1 k Q q => by
  obtain ⟨tl, pl, ql⟩ := po_evo hl
  obtain ⟨th, ph, qh⟩ := po_evo hh
  refine we_of (pe_slice sl_list pe_we pl ph) (ha s1 k _ fun v s2 k2 r2 => ql s2 (k.trans k2) _ fun s3 k3 => qh s3 ((k.trans k2).trans k3) _ fun s4 k4 => ?_)
  obtain ⟨p, vs, rfl, h1, h2⟩ := (r2.ex k3).ex k4
  exact ⟨p, vs, rfl, h1, fun l hl => q l (s4.newO l _ hl) (((k2.trans k3).trans k4).trans (Ex.newO hl)) (fr_back ((k2.trans k3).trans k4) hl) (own_new hl (h2.cut _ _))⟩
theorem ev_sliceS {x : Str} {lo hi : Option Expr} {l h : Option Int} (hz : x.length ≤ sizeLine) (ha : Ev X a σ s x) (hl : EvO X lo σ s l) (hh : EvO X hi σ s h) : Ev X (.Subscript a (.Slice lo hi none p2) pos) σ s (cutS x l h) := fun s1 k Q q => by
  obtain ⟨tl, pl, ql⟩ := po_evo hl
  obtain ⟨th, ph, qh⟩ := po_evo hh
  exact we_of (pe_slice sl_str pe_we pl ph) (ha s1 k _ fun v s2 k2 r2 => ql s2 (k.trans k2) _ fun s3 k3 => qh s3 ((k.trans k2).trans k3) _ fun s4 k4 => ⟨x, r2, hz, q _ s4 ((k2.trans k3).trans k4) rfl⟩)
theorem op_catS : OpR X (binaryOp .Add) (fun x y H Q => ∃ l b xs zs, x = .ref l ∧ y = .ref b ∧ SqL X.K H l xs ∧ SqL X.K H b zs ∧ xs.length + zs.length ≤ sizeLine ∧ ∀ p, H p = none → Q (.ref p) (upd H p (.lst (xs ++ zs)))) := by
  intro pins s σ H x y v u Q I rx ry h
  obtain ⟨l, b, xs, zs, rfl, rfl, hH, hB, hz, q⟩ := h
  cases rx
  cases ry
  obtain ⟨its, r, ⟨⟨cls, dd, data, sl⟩, n, ho, hc, hd0, hd⟩, z1⟩ := I.list hH
  obtain ⟨its2, r2, ⟨⟨cls2, dd2, data2, sl2⟩, n2, ho2, hc2, hd02, hd2⟩, z2⟩ := I.list hB
  simp only at hc hd hc2 hd2 hd0 hd02
  subst hc hd hc2 hd2 hd0 hd02
  have e : its.toArray ++ its2.toArray = (its ++ its2).toArray := by simp
  have h1 := r.length
  have h2 := r2.length
  refine concat_meets ⟨_, ho, rfl⟩ ⟨_, ho2, rfl⟩ noFill_list_add seq_list_add PySem.F.slot_list_add PySem.F.entry_list_add (PySem.F.args_list_add_2 _ _) (list_addW l b its.toArray its2.toArray n n2 none none sl sl2 (by rw [List.size_toArray, List.size_toArray]; omega)) ⟨ho, ho2, ?_⟩
  rw [e]
  exact ⟨.ref _, _, I.lnew (t' := s.toks) (r.append r2) (by rw [List.length_append]; omega), rfl, q _ I.fresh⟩
theorem en_cat {xs ys : List α} (ha : EvR X a σ s xs) (hb : EvR X b σ s ys) (hz : xs.length + ys.length ≤ sizeLine) : EvN X (.BinOp a .Add b pos) σ s (xs ++ ys) := fun s1 k Q q =>
  we_of (pe_op op_catS pe_we pe_we) (ha s1 k _ fun v s2 k2 r2 => hb s2 (k.trans k2) _ fun u s3 k3 r3 => by
    obtain ⟨p, vs, rfl, h1, h2⟩ := r2.ex k3
    obtain ⟨p', ws, rfl, h3, h4⟩ := r3
    exact ⟨p, p', vs, ws, rfl, rfl, h1, h3, by rw [h2.len, h4.len]; exact hz, fun l hl => q l (s3.newO l _ hl) ((k2.trans k3).trans (Ex.newO hl)) (fr_back (k2.trans k3) hl) (own_new hl (h2.app h4))⟩)
def repl {τ : Type} (n : Int) (xs : List τ) : List τ := (List.replicate n.toNat xs).flatten
theorem Reps.repF {K : PySem.W.Frag} {F : Hp} {vs : List V} {xs : List α} (r : Reps K F vs xs) (n : Nat) : Reps K F (List.replicate n vs).flatten (List.replicate n xs).flatten := by
  induction n with
  | zero => exact trivial
  | succ n ih => rw [List.replicate_succ, List.replicate_succ, List.flatten_cons, List.flatten_cons]; exact r.app ih
def RepOk (n : Int) (l : Nat) : Prop := -(2 ^ 63) ≤ n ∧ n < 2 ^ 63 ∧ l * n.toNat ≤ sizeLine
theorem en_rep {xs : List α} {n : Int} (ha : EvN X a σ s xs) (hb : ∀ t, Ex s t → Ev X b σ t n) (hz : RepOk n xs.length) : EvN X (.BinOp a .Mult b pos) σ s (repl n xs) := fun s1 k Q q =>
  we_of (pe_op op_rep pe_we pe_we) (ha s1 k _ fun p s2 k2 n2 o2 => hb s2 (k.trans k2) s2 (Ex.refl _) _ fun u s3 k3 r3 => by
    obtain ⟨_, vs, h1, h2⟩ := o2.ex k3
    exact ⟨p, n, vs, rfl, r3, h1, hz.1, hz.2.1, by rw [h2.len]; exact hz.2.2, fun l hl => q l (s3.newO l _ hl) ((k2.trans k3).trans (Ex.newO hl)) (fr_back (k2.trans k3) hl) (own_new hl (h2.repF _))⟩)
theorem en_sorted {xs : List Int} (hm : X.mg "sorted" = none) (ha : EvR X e σ s xs) (hg : Gl X "sorted" := by rfl) (he : starEach [e] X.env = (false, eval e X.env) :: starEach [] X.env := by rfl) (hpl : (backTo pos (starEach [] X.env)).any (·.1) = false := by rfl) :
    EvN X (.Call (.Name "sorted" p0) [e] [] pos) σ s (xs.mergeSort (fun x y => decide (x ≤ y))) := fun s1 k Q q =>
  we_of (pe_callB cr_sortedI hg hm (by decide +kernel) (pa_cons pe_we pa_nil he) (he := he) (hpl := hpl)) (ha s1 k _ fun v s2 k2 r2 => by
    obtain ⟨p, vs, rfl, h1, h2⟩ := r2
    rw [h2.flat] at h1
    refine ⟨p, xs, rfl, h1, fun ys l hp hs hl => ?_⟩
    have e1 : ys = xs.mergeSort (fun x y => decide (x ≤ y)) := by
      refine List.Perm.eq_of_pairwise (le := fun x y : Int => x ≤ y) (fun a b _ _ h h' => Int.le_antisymm h h') hs ?_ (hp.trans (List.mergeSort_perm _ _).symm)
      have := List.pairwise_mergeSort (le := fun x y : Int => decide (x ≤ y)) (fun a b c h1 h2 => by simp at *; omega) (fun a b => by simp; omega) xs
      exact this.imp (by simp)
    subst e1
    exact q l (s2.newO l _ hl) (k2.trans (Ex.newO hl)) (fr_back k2 hl) (own_new hl (Reps.of_flat _)))
theorem en_split {x y : Str} (ha : Ev X a σ s x) (hb : Ev X b σ s y) (h1 : (y.length == 0) = false) (h2 : x.length + 2 ≤ sizeLine) (hs : starEach [b] X.env = [(false, eval b X.env)] := by rfl) (hbase : attributeBase a "split" X.env (eval a X.env) = eval a X.env := by rfl) (hline : (p1.endLine == pos.line) = true := by rfl) :
    EvN X (.Call (.Attribute a "split" p1) [b] [] pos) σ s (Txt.split x y) := fun s1 k Q q =>
  we_of (pe_split pe_we pe_we hs hbase hline) (ha s1 k _ fun v s2 k2 r2 => ⟨⟨x, r2⟩, hb s2 (k.trans k2) _ fun u s3 k3 r3 => ⟨x, y, r2, by rw [show u = V.str y from r3], h1, h2, fun l hl =>
    q l (s3.newO l _ hl) ((k2.trans k3).trans (Ex.newO hl)) (fr_back (k2.trans k3) hl) (own_new hl (Reps.of_flat _))⟩⟩)
def JnOk (x : Str) (ys : List Str) : Prop := (ys.map (·.length)).sum + ys.length * x.length ≤ 16777216
theorem ev_join {x : Str} {ys : List Str} (ha : Ev X a σ s x) (hb : EvR X b σ s ys) (h : JnOk x ys) (hs : starEach [b] X.env = [(false, eval b X.env)] := by rfl) (hbase : attributeBase a "join" X.env (eval a X.env) = eval a X.env := by rfl) (hline : (p1.endLine == pos.line) = true := by rfl) :
    Ev X (.Call (.Attribute a "join" p1) [b] [] pos) σ s (Txt.join x ys) := fun s1 k Q q =>
  we_of (pe_join pe_we pe_we hs hbase hline) (ha s1 k _ fun v s2 k2 r2 => ⟨⟨x, r2⟩, hb s2 (k.trans k2) _ fun u s3 k3 r3 => by
    obtain ⟨p, vs, rfl, h1, h2⟩ := r3
    obtain rfl := h2.flat
    exact ⟨x, p, ys, r2, rfl, .inl h1, h, q _ s3 (k2.trans k3) rfl⟩⟩)
def ixOf {τ : Type} [DecidableEq τ] (x : τ) : List τ → Option Nat
  | [] => none
  | y :: ys => if y = x then some 0 else (ixOf x ys).map (· + 1)
theorem ixOf_some {τ : Type} [DecidableEq τ] {x : τ} : ∀ {ys : List τ} {j : Nat}, ixOf x ys = some j → ys[j]? = some x ∧ ∀ m z, m < j → ys[m]? = some z → z ≠ x
  | [], _, h => by cases h
  | y :: ys, j, h => by
    unfold ixOf at h
    split at h
    · rename_i e; cases h; exact ⟨by simp [e], fun m z hm => absurd hm (Nat.not_lt_zero _)⟩
    · rename_i e
      obtain ⟨i, h1, rfl⟩ := Option.map_eq_some_iff.mp h
      obtain ⟨h2, h3⟩ := ixOf_some h1
      refine ⟨by simpa using h2, fun m z hm hz => ?_⟩
      cases m with
      | zero => simp at hz; subst hz; exact e
      | succ m => exact h3 m z (by omega) (by simpa using hz)
theorem ev_index {ε : Type} [Eqs ε] [DecidableEq ε] {x : ε} {xs : List ε} {j : Nat} (ha : EvR X a σ s xs) (hb : Ev X b σ s x) (h : ixOf x xs = some j)
    (hbase : attributeBase a "index" X.env (eval a X.env) = eval a X.env := by rfl)
    (hfew : ((backTo pos (starEach [b] X.env)).all (fun x => !x.1) && (backToKw pos (keywordEach [] X.env)).all (fun x => x.1.isSome) && decide (([b] : List Expr).length + ([] : List Keyword).length + (if ([] : List Keyword).isEmpty then 0 else 1) < 30)) = true := by rfl)
    (hline : (p1.endLine == pos.line) = true := by rfl) (hs : starEach [b] X.env = (false, eval b X.env) :: starEach [] X.env := by rfl) (hplain : (backTo pos (starEach [] X.env)).any (·.1) = false := by rfl) :
    Ev X (.Call (.Attribute a "index" p1) [b] [] pos) σ s (j : Int) := fun s1 k Q q =>
  we_of (pe_bm PySem.F.plainAttrs_list PySem.F.slot_list_index PySem.F.type_list_index mt_index pe_we (pa_cons pe_we pa_nil hs) hbase hfew hline hs hplain) (ha s1 k _ fun v s2 k2 r2 => by
    obtain ⟨p, vs, rfl, h1, h2⟩ := r2
    obtain rfl := h2.flat
    refine ⟨.inl ⟨rfl, _, h1⟩, hb s2 (k.trans k2) _ fun u s3 k3 r3 => ?_⟩
    rw [Flat.iff.mp r3]
    obtain ⟨h3, h4⟩ := ixOf_some h
    refine ⟨p, _, toV x, j, toV x, rfl, rfl, sql_mono k3.h h1, Flat.flat x, flat_all xs, by rw [List.getElem?_map, h3]; rfl, (Flat.inj x x).mpr rfl, fun m z hm hz => ?_, q _ s3 (k2.trans k3) rfl⟩
    rw [List.getElem?_map] at hz
    obtain ⟨y, h5, rfl⟩ := Option.map_eq_some_iff.mp hz
    exact Bool.eq_false_iff.mpr fun z => h4 m y hm h5 ((Flat.inj y x).mp z))

structure Cal (P : Program) (w : World) (K : PySem.W.Frag) (mg : Str → Option Value) (base : Heap) (CX : CXT) (k : Nat) (x : Str) (q : Sp) : Prop where
  ex : ∃ (f : Addr) (fd : FuncData) (ps : List Str), FnOk P w K mg base CX k f fd ps q ∧ mg x = some (.ref f) ∧ PySem.W.keepIn K (.ref f) = true ∧ Binds K fd ps []
theorem pe_c0 {n : Str} {k j : Nat} {q : Sp} {ta : TA} (C : Cal X.prog X.w X.K X.mg X.base CX0 k n q) (hr : Room j X.A) (hk : k ≤ j) (hg : Gl X n) (ha : PA X (e :: es) ta) (hdb : (n == ("__debug__" : Str)) = false := by decide)
    (he : starEach (e :: es) X.env = (false, eval e X.env) :: starEach es X.env := by rfl) (hpl : (backTo pos (starEach es X.env)).any (·.1) = false := by rfl) : PE X (.Call (.Name n p0) (e :: es) [] pos) (tCall q [] E0 ta) := by
  obtain ⟨f, fd, ps, F, hm, kp, b⟩ := C.ex
  exact pe_call F (hr.mono hk) hg hm kp b .nil pass0 ha hdb he hpl
def sp {A : Type} [EncA A] {ρ : Type} [Enc ρ] (K : PySem.W.Frag) (m : A → Option ρ) : Sp := fun vs H Q _ => ∃ (s : S) (x : A) (r : ρ), s.H = H ∧ repA K s.F vs x ∧ m x = some r ∧ ∀ v s', Ex s s' → rep K s'.F v r → Q v s'.H
def spN {A : Type} [EncA A] {ρ : Type} [Enc ρ] (K : PySem.W.Frag) (m : A → Option (List ρ)) : Sp := fun vs H Q _ => ∃ (s : S) (x : A) (r : List ρ), s.H = H ∧ repA K s.F vs x ∧ m x = some r ∧ ∀ p s', Ex s s' → s.H p = none → Own K s' p r → Q (.ref p) s'.H
theorem ev_call {A : Type} [EncA A] {m : A → Option α} {n : Str} {k j : Nat} {x : A} {r : α} (C : Cal X.prog X.w X.K X.mg X.base CX0 k n (sp X.K m)) (hr : Room j X.A) (hk : k ≤ j) (ha : EvA X (e :: es) σ s x) (h : m x = some r) (hg : Gl X n := by rfl)
    (hdb : (n == ("__debug__" : Str)) = false := by decide) (he : starEach (e :: es) X.env = (false, eval e X.env) :: starEach es X.env := by rfl) (hpl : (backTo pos (starEach es X.env)).any (·.1) = false := by rfl) : Ev X (.Call (.Name n p0) (e :: es) [] pos) σ s r := fun s1 k1 Q q =>
  we_of (pe_c0 C hr hk hg pa_wa hdb he hpl) (ha s1 k1 _ fun vs s2 k2 r2 => ⟨s2, x, r, rfl, by rw [List.append_nil]; exact r2, h, fun v s3 k3 r3 => q v s3 (k2.trans k3) r3⟩)
theorem en_call {A : Type} [EncA A] {m : A → Option (List α)} {n : Str} {k j : Nat} {x : A} {r : List α} (C : Cal X.prog X.w X.K X.mg X.base CX0 k n (spN X.K m)) (hr : Room j X.A) (hk : k ≤ j) (ha : EvA X (e :: es) σ s x) (h : m x = some r) (hg : Gl X n := by rfl)
    (hdb : (n == ("__debug__" : Str)) = false := by decide) (he : starEach (e :: es) X.env = (false, eval e X.env) :: starEach es X.env := by rfl) (hpl : (backTo pos (starEach es X.env)).any (·.1) = false := by rfl) : EvN X (.Call (.Name n p0) (e :: es) [] pos) σ s r := fun s1 k1 Q q =>
  we_of (pe_c0 C hr hk hg pa_wa hdb he hpl) (ha s1 k1 _ fun vs s2 k2 r2 => ⟨s2, x, r, rfl, by rw [List.append_nil]; exact r2, h, fun v s3 k3 n3 r3 => q v s3 (k2.trans k3) (fr_back k2 n3) r3⟩)
end
end Dy

namespace Dy
open PySem PySem.Spec L2
open PyProof.Rows hiding St
open Enc (rep)
open Flat (toV)
open EncA (repA)

noncomputable def chk {α : Type} (c : Prop) (m : Option α) : Option α := open Classical in if c then m else none
theorem chk_pos {α : Type} {c : Prop} {m : Option α} (h : c) : chk c m = m := by unfold chk; exact if_pos h
theorem chkE {α : Type} {c : Prop} {m : Option α} {r : α} (h : chk c m = some r) : c ∧ m = some r := by
  unfold chk at h
  split at h
  · rename_i hc; exact ⟨hc, h⟩
  · cases h
def lt {α β : Type} (x : α) (f : α → Option β) : Option β := f x
theorem ltE {α β : Type} {x : α} {f : α → Option β} {r : β} (h : lt x f = some r) : ∃ y, y = x ∧ f y = some r := ⟨x, rfl, h⟩
abbrev bnd {α β : Type} (m : Option α) (f : α → Option β) : Option β := m.bind f
theorem bndE {α β : Type} {m : Option α} {f : α → Option β} {r : β} (h : bnd m f = some r) : ∃ y, m = some y ∧ f y = some r := by
  cases m with
  | none => cases h
  | some y => exact ⟨y, rfl, h⟩
theorem iteE1 {α : Type} {b : Bool} {m k : Option α} {r : α} (h : (if b = true then m else k) = some r) (e : b = true) : m = some r := by rw [if_pos e] at h; exact h
theorem iteE2 {α : Type} {b : Bool} {m k : Option α} {r : α} (h : (if b = true then m else k) = some r) (e : b = false) : k = some r := by rw [if_neg (by rw [e]; exact Bool.false_ne_true)] at h; exact h
def andO (a : Bool) (m : Option Bool) : Option Bool := if a = true then m else some false
def orO (a : Bool) (m : Option Bool) : Option Bool := if a = true then some true else m
theorem andE {a r : Bool} {m : Option Bool} (h : andO a m = some r) : (a = true → m = some r) ∧ (a = false → r = false) := by
  unfold andO at h
  cases a with
  | true => exact ⟨fun _ => h, fun z => Bool.noConfusion z⟩
  | false => exact ⟨fun z => Bool.noConfusion z, fun _ => (Option.some.inj h).symm⟩
theorem orE {a r : Bool} {m : Option Bool} (h : orO a m = some r) : (a = false → m = some r) ∧ (a = true → r = true) := by
  unfold orO at h
  cases a with
  | false => exact ⟨fun _ => h, fun z => Bool.noConfusion z⟩
  | true => exact ⟨fun z => Bool.noConfusion z, fun _ => (Option.some.inj h).symm⟩
inductive Fl (β ρ : Type) where
  | nx (b : β)
  | rt (r : ρ)
def foldO {α β : Type} (f : β → α → Option β) : β → List α → Option β
  | b, [] => some b
  | b, x :: r => (f b x).bind fun b' => foldO f b' r
def foldF {α β ρ : Type} (f : β → α → Option (Fl β ρ)) : β → List α → Option (Fl β ρ)
  | b, [] => some (.nx b)
  | b, x :: r => (f b x).bind fun o => match o with
    | .nx b' => foldF f b' r
    | .rt v => some (.rt v)
def whileO {β : Type} (c : β → Option Bool) (f : β → Option β) : Nat → β → Option β
  | 0, _ => none
  | n + 1, b => (c b).bind fun t => if t = true then (f b).bind fun b' => whileO c f n b' else some b
def whileF {β ρ : Type} (c : β → Option Bool) (f : β → Option (Fl β ρ)) : Nat → β → Option (Fl β ρ)
  | 0, _ => none
  | n + 1, b => (c b).bind fun t => if t = true then (f b).bind fun o => (match o with
    | .nx b' => whileF c f n b'
    | .rt v => some (.rt v)) else some (.nx b)
def compO {α β : Type} (t : α → Option Bool) (f : α → Option β) : List α → Option (List β)
  | [] => some []
  | x :: r => (t x).bind fun b => if b = true then (f x).bind fun y => (compO t f r).bind fun ys => some (y :: ys) else compO t f r
theorem compO_pure {α β : Type} (t : α → Bool) (f : α → β) : ∀ xs : List α, compO (fun x => some (t x)) (fun x => some (f x)) xs = some ((xs.filter t).map f)
  | [] => rfl
  | x :: r => by
    unfold compO
    rw [Option.bind_some, compO_pure t f r, List.filter_cons]
    split
    · rfl
    · rfl
theorem compO_map {α β : Type} (f : α → β) : ∀ xs : List α, compO (fun _ => some true) (fun x => some (f x)) xs = some (xs.map f)
  | [] => rfl
  | x :: r => by
    unfold compO
    rw [Option.bind_some, compO_map f r]
    rfl
def mapO {α β : Type} (f : α → Option β) (xs : List α) : Option (List β) := compO (fun _ => some true) f xs

def WI (X : Cx) (tg iter : Expr) : TI := fun σ H R => ∀ (pins : List (Addr × Obj)) (s : Shared), Inv X pins σ H s →
  wpAny (model X.prog X.w) X.A (eval iter X.env) (fun v s1 => wpAny (model X.prog X.w) X.A (pyIter v) (PIE X pins σ tg R) X.xe s1) X.xe s
theorem pi_wi {X : Cx} {tg iter : Expr} : PI X tg iter (WI X tg iter) := ⟨fun pins s _ _ _ I h => h pins s I⟩
theorem wi_of {X : Cx} {tg iter : Expr} {t : TI} {σ : St} {H : Hp} {R : It → Hp → Prop} (h : PI X tg iter t) (q : t σ H R) : WI X tg iter σ H R := fun pins s I => h.run pins s σ H R I q
section
variable {α β γ δ : Type} [Enc α] [Enc β] [Enc γ] [Enc δ] {X : Cx} {σ : St} {s t : S} {e a b c tg : Expr} {es : List Expr} {pos p0 p1 p2 p3 : Pos}
structure Walk (K : PySem.W.Frag) (F : Hp) (J : It) (xs : List α) : Prop where
  go : ∀ (i : Nat) (t : S) (x : α), Fle F t.F → xs[i]? = some x → J.go i t.H ∧ ∀ v H', J.yld i t.H v H' → ∃ t' : S, t'.H = H' ∧ Ex t t' ∧ rep K t'.F v x
  stop : ∀ (i : Nat) (t : S), Fle F t.F → xs.length ≤ i → J.stop i t.H
def EvI (X : Cx) (tg e : Expr) (σ : St) (s : S) (xs : List α) : Prop := ∀ s1, Ex s s1 → ∀ R : It → Hp → Prop, (∀ J s2, Ex s1 s2 → Walk X.K s2.F J xs → R J s2.H) → WI X tg e σ s1.H R
theorem ei_list {xs : List α} (h : Ev X e σ s xs) : EvI X tg e σ s xs := fun s1 k R q =>
  wi_of (pi_list pe_we) (h s1 k _ fun v s2 k2 r2 => by
    obtain ⟨p, vs, rfl, h1, h2⟩ := r2
    refine ⟨p, rfl, ⟨vs, sql_mono s2.sub h1⟩, q _ s2 k2 ⟨fun i t x f hx => ?_, fun i t f hi => ⟨vs, sql_mono t.sub (sql_mono f h1), by rw [h2.len]; exact hi⟩⟩⟩
    obtain ⟨v, h3, h4⟩ := h2.get hx
    refine ⟨⟨vs, v, sql_mono t.sub (sql_mono f h1), h3⟩, fun w H' ⟨e1, hy⟩ => ⟨t, e1.symm, Ex.refl _, ?_⟩⟩
    have := hy vs (sql_mono t.sub (sql_mono f h1))
    rw [h3] at this
    cases this
    exact Enc.mono f h4)
theorem ei_tup {xs : Tu α} (h : Ev X e σ s xs) : EvI X tg e σ s xs.l := fun s1 k R q =>
  wi_of (pi_tup pe_we) (h s1 k _ fun v s2 k2 r2 => by
    obtain ⟨p, vs, rfl, h1, h2⟩ := r2
    refine ⟨p, rfl, ⟨vs, sqt_mono s2.sub h1⟩, q _ s2 k2 ⟨fun i t x f hx => ?_, fun i t f hi => ⟨vs, sqt_mono t.sub (sqt_mono f h1), by rw [h2.len]; exact hi⟩⟩⟩
    obtain ⟨v, h3, h4⟩ := h2.get hx
    refine ⟨⟨vs, v, sqt_mono t.sub (sqt_mono f h1), h3⟩, fun w H' ⟨e1, hy⟩ => ⟨t, e1.symm, Ex.refl _, ?_⟩⟩
    have := hy vs (sqt_mono t.sub (sqt_mono f h1))
    rw [h3] at this
    cases this
    exact Enc.mono f h4)
theorem rng_get {a b : Int} {i : Nat} {x : Int} (h : (rng a b)[i]? = some x) : i < (b - a).toNat ∧ x = a + (i : Int) := by
  unfold rng at h
  rw [List.getElem?_map] at h
  obtain ⟨j, h1, rfl⟩ := Option.map_eq_some_iff.mp h
  obtain ⟨h2, h3⟩ := List.getElem?_eq_some_iff.mp h1
  rw [List.length_range] at h2
  rw [List.getElem_range] at h3
  subst h3
  exact ⟨h2, rfl⟩
theorem rng_len (a b : Int) : (rng a b).length = (b - a).toNat := by unfold rng; rw [List.length_map, List.length_range]
theorem walk_rng {K : PySem.W.Frag} {F : Hp} {a b : Int} : Walk K F (Itr a (b - a).toNat) (rng a b) :=
  ⟨fun i t x f hx => ⟨(rng_get hx).1, fun v H' ⟨e1, e2⟩ => ⟨t, e1.symm, Ex.refl _, by rw [e2, (rng_get hx).2]; rfl⟩⟩, fun i t f hi => by rw [rng_len] at hi; exact hi⟩
def RgB (x : Int) : Prop := -(2 ^ 62) ≤ x ∧ x < 2 ^ 62
theorem ei_range1 {n : Int} (hm : X.mg "range" = none) (h : Ev X e σ s n) (hb : RgB n) (hg : Gl X "range" := by rfl) (hs : starEach [e] X.env = [(false, eval e X.env)] := by rfl) (hs2 : starEach [e] X.env = (false, eval e X.env) :: starEach [] X.env := by rfl) :
    EvI X tg (.Call (.Name "range" p0) [e] [] pos) σ s (rng 0 n) := fun s1 k R q =>
  wi_of (pi_range1 hg hm (pa_cons pe_we pa_nil hs2) hs) (h s1 k _ fun v s2 k2 r2 => ⟨n, by rw [show v = V.int n from r2], hb.1, hb.2, q _ s2 k2 (by
    have := walk_rng (K := X.K) (F := s2.F) (a := 0) (b := n)
    rw [Int.sub_zero] at this
    exact this)⟩)
theorem ei_range2 {m n : Int} (hm : X.mg "range" = none) (ha : Ev X a σ s m) (hb : Ev X b σ s n) (h1 : RgB m) (h2 : RgB n) (hg : Gl X "range" := by rfl) (hs : starEach [a, b] X.env = [(false, eval a X.env), (false, eval b X.env)] := by rfl) (hs2 : starEach [b] X.env = [(false, eval b X.env)] := by rfl)
    (hs3 : starEach [a, b] X.env = (false, eval a X.env) :: starEach [b] X.env := by rfl) (hs4 : starEach [b] X.env = (false, eval b X.env) :: starEach [] X.env := by rfl) :
    EvI X tg (.Call (.Name "range" p0) [a, b] [] pos) σ s (rng m n) := fun s1 k R q =>
  wi_of (pi_range2 hg hm (pa_cons pe_we (pa_cons pe_we pa_nil hs4) hs3) hs hs2) (ha s1 k _ fun v s2 k2 r2 => hb s2 (k.trans k2) _ fun u s3 k3 r3 => ⟨m, n, by rw [show v = V.int m from r2, show u = V.int n from r3], ⟨h1.1, h1.2, h2.1, h2.2⟩, q _ s3 (k2.trans k3) walk_rng⟩)
def chars (x : Str) : List Str := x.cps.toList.map fun c => ⟨#[c]⟩
theorem ei_str {x : Str} (h : Ev X e σ s x) : EvI X tg e σ s (chars x) := fun s1 k R q =>
  wi_of (pi_str pe_we) (h s1 k _ fun v s2 k2 r2 => ⟨x, r2, q _ s2 k2 ⟨fun i t y f hy => by
    unfold chars at hy
    rw [List.getElem?_map] at hy
    obtain ⟨c, h1, rfl⟩ := Option.map_eq_some_iff.mp hy
    have h1' : x.cps[i]? = some c := by simpa using h1
    refine ⟨?_, fun v H' ⟨e1, d, h2, h3⟩ => ⟨t, e1.symm, Ex.refl _, ?_⟩⟩
    · obtain ⟨z, _⟩ := Array.getElem?_eq_some_iff.mp h1'
      exact z
    · rw [h1'] at h2
      cases h2
      exact h3, fun i t f hi => by
    unfold chars at hi
    rw [List.length_map, Array.length_toList] at hi
    exact hi⟩⟩)
end

structure Tgt {α : Type} [Enc α] (K : PySem.W.Frag) (g : TG) (B : Hp → α → St → St → Prop) : Prop where
  run : ∀ (t : S) (v : V) (x : α) (σ : St) (Q : St → Hp → Prop), rep K t.F v x → (∀ σ2, B t.F x σ σ2 → Q σ2 t.H) → g v σ t.H Q
def BN {α : Type} [Enc α] (K : PySem.W.Frag) (j : Nat) : Hp → α → St → St → Prop := fun F x σ σ2 => ∃ v, rep K F v x ∧ σ2 = σ.set j (some v)
def B2 {α β : Type} [Enc α] [Enc β] (K : PySem.W.Frag) (i j : Nat) : Hp → α × β → St → St → Prop := fun F x σ σ2 => ∃ v w, rep K F v x.1 ∧ rep K F w x.2 ∧ σ2 = (σ.set i (some v)).set j (some w)
def B3 {α β γ : Type} [Enc α] [Enc β] [Enc γ] (K : PySem.W.Frag) (i j k : Nat) : Hp → T3 α β γ → St → St → Prop := fun F x σ σ2 => ∃ v w u, rep K F v x.a ∧ rep K F w x.b ∧ rep K F u x.c ∧ σ2 = ((σ.set i (some v)).set j (some w)).set k (some u)
theorem tg_n {α : Type} [Enc α] {K : PySem.W.Frag} {j : Nat} : Tgt (α := α) K (gName j) (BN K j) := ⟨fun t v x σ Q r h => h _ ⟨v, r, rfl⟩⟩
theorem tg_2 {α β : Type} [Enc α] [Enc β] {K : PySem.W.Frag} {i j : Nat} : Tgt (α := α × β) K (gTup K 2 (gCons (gName i) (gCons (gName j) gNil))) (B2 K i j) := ⟨fun t v x σ Q r h => by
  obtain ⟨p, v1, v2, rfl, h0, h1, h2⟩ := r
  exact ⟨p, _, rfl, sqt_mono t.sub h0, rfl, v1, _, rfl, v2, _, rfl, rfl, h _ ⟨v1, v2, h1, h2, rfl⟩⟩⟩
theorem tg_3 {α β γ : Type} [Enc α] [Enc β] [Enc γ] {K : PySem.W.Frag} {i j k : Nat} : Tgt (α := T3 α β γ) K (gTup K 3 (gCons (gName i) (gCons (gName j) (gCons (gName k) gNil)))) (B3 K i j k) := ⟨fun t v x σ Q r h => by
  obtain ⟨p, v1, v2, v3, rfl, h0, h1, h2, h3⟩ := r
  exact ⟨p, _, rfl, sqt_mono t.sub h0, rfl, v1, _, rfl, v2, _, rfl, v3, _, rfl, rfl, h _ ⟨v1, v2, v3, h1, h2, h3, rfl⟩⟩⟩

section
variable {α β : Type} [Enc α] [Enc β] {X : Cx} {σ : St} {s : S} {elt tg iter c : Expr} {ifs : List Expr} {scope : Scope} {own : List (Str × Nat)} {pos : Pos}
abbrev Blk (X : Cx) (scope : Scope) (s0 : Shared) (H0 : Hp) (C : Addr) (cl : List (Str × Addr)) (fp : List Addr) : Cx := X.blk s0 H0 scope (compEnvC scope cl C X.env) fp
theorem comp_read {xs : List α} {ys : List β} {t : α → Option Bool} {f : α → Option β} {g : TG} {B : Hp → α → St → St → Prop} {tt : TT} (hc : X.calm = true) (hN : X.N.Nodup) (hi : EvI X tg iter σ s xs) (ok : BlkOk X.N X.env.scope scope own)
    (hg : ∀ s0 H0 C cl fp, PG (Blk X scope s0 H0 C cl fp) tg g) (T : Tgt (α := α) X.K g B) (htt : ∀ s0 H0 C cl fp, PTs (Blk X scope s0 H0 C cl fp) ifs tt) (hf : compO t f xs = some ys) (hz : ys.length ≤ sizeLine)
    (hw : ∀ (F : Hp) (x : α) σ2, B F x (wipe σ (own.map (·.2))) σ2 → wipe σ2 (own.map (·.2)) = wipe σ (own.map (·.2)))
    (ht : ∀ (x : α) (b : Bool) (s1 : S) (σ2 : St) (Q : Bool → Hp → Prop), x ∈ xs → Ex s s1 → B s1.F x (wipe σ (own.map (·.2))) σ2 → t x = some b → (∀ s2, Ex s1 s2 → Q b s2.H) → tt σ2 s1.H Q)
    (he : ∀ (x : α) (y : β) (s1 : S) (σ2 : St), x ∈ xs → Ex s s1 → B s1.F x (wipe σ (own.map (·.2))) σ2 → t x = some true → f x = some y → ∀ s0 H0 C cl fp, Ev (Blk X scope s0 H0 C cl fp) elt σ2 s1 y)
    (s1 : S) (k : Ex s s1) (Q : VK) (q : ∀ p s2, Ex s1 s2 → s1.H p = none → Own X.K s2 p ys → Q (.ref p) s2.H) : tLc (WI X tg iter) g tt (fun σ H Q => ∀ s0 H0 C cl fp, WE (Blk X scope s0 H0 C cl fp) elt σ H Q) (own.map (·.2)) σ s1.H Q := by
  refine hi s1 k _ fun J s2 k2 W => ?_
  intro D hD
  refine ⟨fun i m H => ∃ (u : S) (pre : List β) (vs : List V), u.H = H ∧ m = xs.length - i ∧ Ex s2 u ∧ u.F D = none ∧ u.H D = some (.lst vs) ∧ Reps X.K u.F vs pre ∧ (∃ suf, compO t f (xs.drop i) = some suf ∧ pre ++ suf = ys), ⟨xs.length, s2.newO D (.lst []) hD, [], [], rfl, rfl, Ex.newO hD, (fF hD : s2.F D = none), upd_same, trivial, ys, hf, rfl⟩, ?_⟩
  rintro i m H ⟨u, pre, vs, rfl, rfl, ku, n1, n2, n3, suf, h1, h2⟩
  by_cases hi' : i < xs.length
  · right
    have hx : xs[i]? = some xs[i] := List.getElem?_eq_getElem hi'
    obtain ⟨g1, g2⟩ := W.go i u xs[i] ku.f hx
    refine ⟨g1, fun H' => ∃ m', m' < xs.length - i ∧ ∃ (u : S) (pre : List β) (vs : List V), u.H = H' ∧ m' = xs.length - (i + 1) ∧ Ex s2 u ∧ u.F D = none ∧ u.H D = some (.lst vs) ∧ Reps X.K u.F vs pre ∧ (∃ suf, compO t f (xs.drop (i + 1)) = some suf ∧ pre ++ suf = ys), fun H' z => z, fun v H' hy => ?_⟩
    obtain ⟨u', rfl, ku', rv⟩ := g2 v H' hy
    refine T.run u' v xs[i] _ _ rv fun σ2 hB => ⟨hw _ _ _ hB, ?_⟩
    rw [List.drop_eq_getElem_cons hi'] at h1
    unfold compO at h1
    cases hb : t xs[i] with
    | none => rw [hb] at h1; cases h1
    | some b =>
      rw [hb, Option.bind_some] at h1
      have mem : xs[i] ∈ xs := List.getElem_mem hi'
      have base : Ex s u' := (k.trans k2).trans (ku.trans ku')
      refine ht xs[i] b u' σ2 _ mem base hB hb fun u3 k3 => ?_
      have hlt : xs.length - (i + 1) < xs.length - i := by omega
      have kk : Ex u u3 := ku'.trans k3
      cases b with
      | false =>
        rw [if_neg Bool.false_ne_true] at h1 ⊢
        exact ⟨_, hlt, u3, pre, vs, rfl, rfl, ku.trans kk, kk.n _ _ n2 n1, kk.h _ _ n2, n3.mono kk.f, suf, h1, h2⟩
      | true =>
        rw [if_pos rfl] at h1 ⊢
        cases hfx : f xs[i] with
        | none => rw [hfx] at h1; cases h1
        | some y =>
          rw [hfx, Option.bind_some] at h1
          cases hr : compO t f (xs.drop (i + 1)) with
          | none => rw [hr] at h1; cases h1
          | some suf' =>
            rw [hr] at h1
            cases h1
            intro s0 H0 C cl fp
            refine he xs[i] y u' σ2 mem base hB hb hfx s0 H0 C cl fp u3 k3 _ fun w u4 k4 r4 => ?_
            have k5 : Ex u u4 := kk.trans k4
            have hD4 : u4.H D = some (.lst vs) := k5.h _ _ n2
            have hF4 : u4.F D = none := k5.n _ _ n2 n1
            have hlen : vs.length < sizeLine := by
              have e1 := n3.len
              have e2 : ys.length = pre.length + (suf'.length + 1) := by rw [← h2, List.length_append, List.length_cons]
              omega
            refine ⟨vs, hD4, hlen, _, hlt, u4.put D (.lst (vs ++ [w])) hF4, pre ++ [y], vs ++ [w], rfl, rfl, (ku.trans k5).mu1 (Mx.put hF4) hD, hF4, upd_same, (n3.mono k5.f).snoc r4, suf', rfl, by rw [List.append_assoc]; exact h2⟩
  · left
    have hd : xs.drop i = [] := List.drop_eq_nil_of_le (by omega)
    rw [hd] at h1
    cases h1
    refine ⟨W.stop i u ku.f (by omega), q D u (k2.trans ku) (fr_back k2 hD) ⟨n1, vs, n2, ?_⟩⟩
    rw [← h2, List.append_nil]
    exact n3
structure EvL (X : Cx) (elt tg iter : Expr) (ifs : List Expr) (scope : Scope) (σ : St) (s : S) (ys : List β) : Prop where
  calm : X.calm = true
  nd : X.N.Nodup
  fs : ∀ x, foldedSetIterable iter X.env x = pure x
  ex : ∃ (own : List (Str × Nat)) (g : TG) (tt : TT), BlkOk X.N X.env.scope scope own ∧ (∀ s0 H0 C cl fp, PG (Blk X scope s0 H0 C cl fp) tg g) ∧ (∀ s0 H0 C cl fp, PTs (Blk X scope s0 H0 C cl fp) ifs tt) ∧
    ∀ s1, Ex s s1 → ∀ Q : VK, (∀ p s2, Ex s1 s2 → s1.H p = none → Own X.K s2 p ys → Q (.ref p) s2.H) → tLc (WI X tg iter) g tt (fun σ H Q => ∀ s0 H0 C cl fp, WE (Blk X scope s0 H0 C cl fp) elt σ H Q) (own.map (·.2)) σ s1.H Q
theorem EvL.n {ys : List β} (h : EvL X elt tg iter ifs scope σ s ys) : EvN X (.ListComp elt [⟨tg, iter, ifs, 0⟩] scope pos) σ s ys := fun s1 k Q q => by
  obtain ⟨own, g, tt, h1, h2, h3, h4⟩ := h.ex
  exact we_of (pe_lc h.calm h.nd pi_wi h1 h2 h3 (fun s0 H0 C cl fp => ⟨fun pins s _ _ _ I h => h s0 H0 C cl fp pins s I⟩) h.fs) (h4 s1 k Q q)
theorem do_setL (i : Nat) {ys : List β} {n : Str} {py : Pos} {rest : List Stmt} {D : Ends} {spos : Pos} (h : EvL X elt tg iter ifs scope σ s ys) (k : ∀ p s1, Ex s s1 → s.H p = none → Own X.K s1 p ys → WSs X rest D (σ.set i (some (.ref p))) s1.H) (hk : X.env.scope.kind = .function) (hy : X.env.scope.names.lookup n = some .local)
    (hl : (py.line == pos.line) = true := by rfl) (ha : (scope.names.any fun (m, k) => m == n && (k == .local || k == .cell)) = false := by decide +kernel) (hi : X.N[i]? = some n := by rfl) :
    WSs X (.Assign [.Name n py] (.ListComp elt [⟨tg, iter, ifs, 0⟩] scope pos) spos :: rest) D σ s.H := by
  obtain ⟨own, g, tt, h1, h2, h3, h4⟩ := h.ex
  exact ws_of (pss_cons (ps_setLc (te := fun σ H Q => ∀ s0 H0 C cl fp, WE (Blk X scope s0 H0 C cl fp) elt σ H Q) h.calm h.nd hi hy (sw_true hk hy hl ha) pi_wi h1 h2 h3 (fun s0 H0 C cl fp => ⟨fun pins s _ _ _ I h => h s0 H0 C cl fp pins s I⟩) h.fs) pss_ws) (h4 s (Ex.refl _) (fun x H1 => WSs X rest D (σ.set i (some x)) H1) fun p s2 k2 n2 o2 => k p s2 k2 n2 o2)
theorem wipe_set {τ : St} {j : Nat} {o : Option V} : ∀ {vs : List Nat}, j ∈ vs → wipe (τ.set j o) vs = wipe τ vs
  | v :: vs, h => by
    show (wipe (τ.set j o) vs).set v none = (wipe τ vs).set v none
    by_cases e : j ∈ vs
    · rw [wipe_set e]
    · have : j = v := by
        rcases List.mem_cons.mp h with z | z
        · exact z
        · exact absurd z e
      subst this
      have : ∀ {ws : List Nat} {τ : St}, j ∉ ws → wipe (τ.set j o) ws = (wipe τ ws).set j o := by
        intro ws
        induction ws with
        | nil => intro τ _; rfl
        | cons a r ih =>
          intro τ h
          show (wipe (τ.set j o) r).set a none = ((wipe τ r).set a none).set j o
          rw [ih fun z => h (List.mem_cons_of_mem _ z), List.set_comm _ _ (fun z => h (by rw [z]; exact List.mem_cons_self))]
      rw [this e, List.set_set]
theorem wipe_wipe {τ : St} : ∀ {vs ws : List Nat}, (∀ v ∈ vs, v ∈ ws) → wipe (wipe τ vs) ws = wipe τ ws
  | [], _, _ => rfl
  | v :: vs, ws, h => by
    show wipe ((wipe τ vs).set v none) ws = wipe τ ws
    rw [wipe_set (h v List.mem_cons_self)]
    exact wipe_wipe fun u hu => h u (List.mem_cons_of_mem _ hu)
theorem en_comp0 {xs : List α} {ys : List β} {f : α → Option β} {j : Nat} {n : Str} {py : Pos} (hc : X.calm = true) (hN : X.N.Nodup) (hi : EvI X (.Name n py) iter σ s xs) (ok : BlkOk X.N X.env.scope scope own) (hj : X.N[j]? = some n)
    (hjo : j ∈ own.map (·.2)) (hg : ∀ s0 H0 C cl fp, PG (Blk X scope s0 H0 C cl fp) (.Name n py) (gName j)) (hf : mapO f xs = some ys) (hz : ys.length ≤ sizeLine)
    (he : ∀ (x : α) (y : β) (v : V) (s1 : S), x ∈ xs → Ex s s1 → rep X.K s1.F v x → f x = some y → ∀ s0 H0 C cl fp, Ev (Blk X scope s0 H0 C cl fp) elt ((wipe σ (own.map (·.2))).set j (some v)) s1 y)
    (hs : ∀ x, foldedSetIterable iter X.env x = pure x := by intro _; rfl) : EvL X elt (.Name n py) iter [] scope σ s ys :=
  ⟨hc, hN, hs, own, _, _, ok, hg, fun _ _ _ _ _ => pts_nil, fun s1 k Q q => comp_read (t := fun _ => some true) hc hN hi ok hg tg_n (fun _ _ _ _ _ => pts_nil) hf hz (fun F x σ2 ⟨v, _, e⟩ => by rw [e, wipe_set hjo]; exact wipe_wipe fun _ z => z)
    (fun x b s1 σ2 Q _ _ _ hb q => by cases hb; exact q s1 (Ex.refl _)) (fun x y s1 σ2 hx k ⟨v, r, e⟩ _ hfx => by subst e; exact he x y v s1 hx k r hfx) s1 k Q q⟩
theorem en_comp1 {xs : List α} {ys : List β} {t : α → Option Bool} {f : α → Option β} {j : Nat} {n : Str} {py : Pos} (hc : X.calm = true) (hN : X.N.Nodup) (hi : EvI X (.Name n py) iter σ s xs) (ok : BlkOk X.N X.env.scope scope own) (hj : X.N[j]? = some n)
    (hjo : j ∈ own.map (·.2)) (hg : ∀ s0 H0 C cl fp, PG (Blk X scope s0 H0 C cl fp) (.Name n py) (gName j)) (hf : compO t f xs = some ys) (hz : ys.length ≤ sizeLine)
    (ht : ∀ (x : α) (b : Bool) (v : V) (s1 : S), x ∈ xs → Ex s s1 → rep X.K s1.F v x → t x = some b → ∀ s0 H0 C cl fp, EvT (Blk X scope s0 H0 C cl fp) c ((wipe σ (own.map (·.2))).set j (some v)) s1 b)
    (he : ∀ (x : α) (y : β) (v : V) (s1 : S), x ∈ xs → Ex s s1 → rep X.K s1.F v x → t x = some true → f x = some y → ∀ s0 H0 C cl fp, Ev (Blk X scope s0 H0 C cl fp) elt ((wipe σ (own.map (·.2))).set j (some v)) s1 y)
    (hs : ∀ x, foldedSetIterable iter X.env x = pure x := by intro _; rfl) : EvL X elt (.Name n py) iter [c] scope σ s ys :=
  ⟨hc, hN, hs, own, _, _, ok, hg, fun s0 H0 C cl fp => pts_one ⟨fun pins s _ _ _ I h => h s0 H0 C cl fp pins s I⟩, fun s1 k Q q => comp_read (tt := fun σ H Q => ∀ s0 H0 C cl fp, WT (Blk X scope s0 H0 C cl fp) c σ H Q) hc hN hi ok hg tg_n (fun s0 H0 C cl fp => pts_one ⟨fun pins s _ _ _ I h => h s0 H0 C cl fp pins s I⟩) hf hz (fun F x σ2 ⟨v, _, e⟩ => by rw [e, wipe_set hjo]; exact wipe_wipe fun _ z => z)
    (fun x b s1 σ2 Q hx k ⟨v, r, e⟩ hb q => by subst e; intro s0 H0 C cl fp; exact ht x b v s1 hx k r hb s0 H0 C cl fp s1 (Ex.refl _) Q q) (fun x y s1 σ2 hx k ⟨v, r, e⟩ htx hfx => by subst e; exact he x y v s1 hx k r htx hfx) s1 k Q q⟩
end
end Dy

namespace Dy
open PySem PySem.Spec L2
open PyProof.Rows hiding St
open Enc (rep)
open Flat (toV)
open EncA (repA)

abbrev MD (D : Ends) (M : St → S → Prop) : Ends := { D with nx := fun σ H => ∃ s : S, s.H = H ∧ M σ s }
abbrev ND (D : Ends) : Ends := { D with nx := fun _ _ => False }
abbrev LD (D : Ends) (M : St → S → Prop) : Ends := { nx := fun σ H => ∃ s : S, s.H = H ∧ M σ s, rt := D.rt }
abbrev RD (Q : VK) : Ends := { nx := fun _ H' => Q .non H', rt := Q }
section
variable {α β γ δ : Type} [Enc α] [Enc β] [Enc γ] [Enc δ] {X : Cx} {σ : St} {s t : S} {e a b c tg iter : Expr} {es : List Expr} {pos p0 p1 p2 p3 : Pos} {D : Ends} {rest A B : List Stmt}
theorem do_nil (h : D.nx σ s.H) : WSs X [] D σ s.H := ws_of pss_nil h
theorem do_cons {st : Stmt} {ts : TS} (h : PS X st ts) (q : ts { D with nx := fun σ' H' => WSs X rest D σ' H' } σ s.H) : WSs X (st :: rest) D σ s.H := ws_of (pss_cons h pss_ws) q
theorem do_set (i : Nat) {x : α} {n : Str} {py : Pos} (h : Ev X e σ s x) (k : ∀ v s1, Ex s s1 → rep X.K s1.F v x → WSs X rest D (σ.set i (some v)) s1.H) (hN : X.N.Nodup) (hx : Loc X.env.scope n := by first | exact Or.inl rfl | exact Or.inr rfl) (hi : X.N[i]? = some n := by rfl)
    (hs : swapsWith e (some (.Name n py)) pos.line X.env = pure false := by rfl) (hf : X.fn n = true ∨ X.env.scope.names.lookup n = some .local := by first | exact .inl rfl | exact .inr rfl) : WSs X (.Assign [.Name n py] e pos :: rest) D σ s.H :=
  do_cons (ps_set hN hi hx pe_we hs hf) (h s (Ex.refl _) _ fun v s1 k1 r => k v s1 k1 r)
theorem do_setN (i : Nat) {xs : List α} {n : Str} {py : Pos} (h : EvN X e σ s xs) (k : ∀ p s1, Ex s s1 → s.H p = none → Own X.K s1 p xs → WSs X rest D (σ.set i (some (.ref p))) s1.H) (hN : X.N.Nodup) (hx : Loc X.env.scope n := by first | exact Or.inl rfl | exact Or.inr rfl) (hi : X.N[i]? = some n := by rfl)
    (hs : swapsWith e (some (.Name n py)) pos.line X.env = pure false := by rfl) (hf : X.fn n = true ∨ X.env.scope.names.lookup n = some .local := by first | exact .inl rfl | exact .inr rfl) : WSs X (.Assign [.Name n py] e pos :: rest) D σ s.H :=
  do_cons (ps_set hN hi hx pe_we hs hf) (h s (Ex.refl _) _ fun v s1 k1 n1 r => k v s1 k1 n1 r)
theorem do_ret {x : α} (h : Ev X e σ s x) (k : ∀ v s1, Ex s s1 → rep X.K s1.F v x → D.rt v s1.H) : WSs X (.Return (some e) pos :: rest) D σ s.H :=
  do_cons (ps_ret pe_we) (h s (Ex.refl _) _ fun v s1 k1 r => k v s1 k1 r)
theorem do_retN {xs : List α} (h : EvN X e σ s xs) (k : ∀ p s1, Ex s s1 → s.H p = none → Own X.K s1 p xs → D.rt (.ref p) s1.H) : WSs X (.Return (some e) pos :: rest) D σ s.H :=
  do_cons (ps_ret pe_we) (h s (Ex.refl _) _ fun v s1 k1 n1 r => k v s1 k1 n1 r)
theorem do_retO (i : Nat) {p : Addr} {n : Str} (h : σ[i]? = some (some (.ref p))) (k : D.rt (.ref p) s.H) (hN : X.N[i]? = some n := by rfl) (hv : Vis X.env.scope n := by first | exact Or.inl rfl | exact Or.inr (Or.inl rfl) | exact Or.inr (Or.inr rfl)) (hd : (n == ("__debug__" : Str)) = false := by decide)
    (hcd : (n == ("__classdict__" : Str)) = false := by decide) : WSs X (.Return (some (.Name n p0)) pos :: rest) D σ s.H :=
  do_cons (ps_ret (pe_var hN hv hd hcd)) ⟨_, h, k⟩
theorem do_if {x : Bool} (hc : EvT X c σ s x) (M : St → S → Prop) (h1 : x = true → ∀ s1, Ex s s1 → WSs X A (MD D M) σ s1.H) (h2 : x = false → ∀ s1, Ex s s1 → WSs X B (MD D M) σ s1.H)
    (h3 : ∀ σ' s', M σ' s' → WSs X rest D σ' s'.H) : WSs X (.If c A B pos :: rest) D σ s.H :=
  do_cons (ps_if pt_wt pss_ws pss_ws) (hc s (Ex.refl _) _ fun s1 k => by
    cases x with
    | true => exact iteT ((h1 rfl s1 k).imp (fun σ' H' ⟨s', e, m⟩ => e ▸ h3 σ' s' m) (fun _ _ q => q) (fun _ _ q => q) fun _ _ q => q)
    | false => exact iteF ((h2 rfl s1 k).imp (fun σ' H' ⟨s', e, m⟩ => e ▸ h3 σ' s' m) (fun _ _ q => q) (fun _ _ q => q) fun _ _ q => q))
theorem do_ifR {x : Bool} (hc : EvT X c σ s x) (h1 : x = true → ∀ s1, Ex s s1 → WSs X A (ND D) σ s1.H) (h2 : x = false → ∀ s1, Ex s s1 → WSs X rest D σ s1.H) : WSs X (.If c A [] pos :: rest) D σ s.H :=
  do_cons (ps_if pt_wt pss_ws pss_nil) (hc s (Ex.refl _) _ fun s1 k => by
    cases x with
    | true => exact iteT ((h1 rfl s1 k).imp (fun _ _ z => z.elim) (fun _ _ q => q) (fun _ _ q => q) fun _ _ q => q)
    | false => exact iteF (h2 rfl s1 k))
theorem do_ifRR {x : Bool} (hc : EvT X c σ s x) (h1 : x = true → ∀ s1, Ex s s1 → WSs X A (ND D) σ s1.H) (h2 : x = false → ∀ s1, Ex s s1 → WSs X B (ND D) σ s1.H) : WSs X (.If c A B pos :: rest) D σ s.H :=
  do_cons (ps_if pt_wt pss_ws pss_ws) (hc s (Ex.refl _) _ fun s1 k => by
    cases x with
    | true => exact iteT ((h1 rfl s1 k).imp (fun _ _ z => z.elim) (fun _ _ q => q) (fun _ _ q => q) fun _ _ q => q)
    | false => exact iteF ((h2 rfl s1 k).imp (fun _ _ z => z.elim) (fun _ _ q => q) (fun _ _ q => q) fun _ _ q => q))

theorem st_set {l : St} {i : Nat} {v : V} (h : l[i]? = some (some v)) : l[i]? = some (some v) := h
theorem do_append (i : Nat) {p : Addr} {n : Str} {xs : List α} {x : α} (hσ : σ[i]? = some (some (.ref p))) (o : Own X.K s p xs) (he : Ev X e σ s x) (hz : xs.length < sizeLine)
    (k : ∀ s1, Mx (· = p) s s1 → Own X.K s1 p (xs ++ [x]) → WSs X rest D σ s1.H)
    (hN : X.N[i]? = some n := by rfl) (hv : Vis X.env.scope n := by first | exact Or.inl rfl | exact Or.inr (Or.inl rfl) | exact Or.inr (Or.inr rfl)) (hd : (n == ("__debug__" : Str)) = false := by decide) (hcd : (n == ("__classdict__" : Str)) = false := by decide)
    (hbase : attributeBase (.Name n p0) "append" X.env (eval (.Name n p0) X.env) = eval (.Name n p0) X.env := by rfl)
    (hfew : ((backTo p2 (starEach [e] X.env)).all (fun x => !x.1) && (backToKw p2 (keywordEach [] X.env)).all (fun x => x.1.isSome) && decide (([e] : List Expr).length + ([] : List Keyword).length + (if ([] : List Keyword).isEmpty then 0 else 1) < 30)) = true := by rfl)
    (hline : (p1.endLine == p2.line) = true := by rfl) (hs : starEach [e] X.env = (false, eval e X.env) :: starEach [] X.env := by rfl) (hplain : (backTo p2 (starEach [] X.env)).any (·.1) = false := by rfl)
    (hsw : swapsWith (.Call (.Attribute (.Name n p0) "append" p1) [e] [] p2) none p3.line X.env = pure false := by rfl) :
    WSs X (.Expr (.Call (.Attribute (.Name n p0) "append" p1) [e] [] p2) p3 :: rest) D σ s.H :=
  do_cons (ps_expr (pe_bm PySem.F.plainAttrs_list PySem.F.slot_list_append PySem.F.type_list_append mt_append (pe_var hN hv hd hcd) (pa_cons pe_we pa_nil hs) hbase hfew hline hs hplain) hsw) (by
    obtain ⟨h1, vs, h2, h3⟩ := id o
    refine ⟨_, hσ, .inl ⟨rfl, vs, .inl (.inl h2)⟩, he s (Ex.refl _) _ fun v s1 k1 r1 => ?_⟩
    have f1 := k1.n _ _ h2 h1
    have g1 := k1.h _ _ h2
    refine ⟨p, vs, v, rfl, rfl, g1, by rw [h3.len]; exact hz, ?_⟩
    exact k (s1.put p (.lst (vs ++ [v])) f1) (k1.mx.trans (Mx.put f1)) ⟨f1, _, upd_same, (h3.mono k1.f).snoc r1⟩)
theorem do_extend (i : Nat) {p : Addr} {n : Str} {xs ys : List α} (hσ : σ[i]? = some (some (.ref p))) (o : Own X.K s p xs) (he : EvN X e σ s ys) (hz : xs.length + ys.length ≤ sizeLine)
    (k : ∀ s1, Mx (· = p) s s1 → Own X.K s1 p (xs ++ ys) → WSs X rest D σ s1.H)
    (hN : X.N[i]? = some n := by rfl) (hv : Vis X.env.scope n := by first | exact Or.inl rfl | exact Or.inr (Or.inl rfl) | exact Or.inr (Or.inr rfl)) (hd : (n == ("__debug__" : Str)) = false := by decide) (hcd : (n == ("__classdict__" : Str)) = false := by decide)
    (hbase : attributeBase (.Name n p0) "extend" X.env (eval (.Name n p0) X.env) = eval (.Name n p0) X.env := by rfl)
    (hfew : ((backTo p2 (starEach [e] X.env)).all (fun x => !x.1) && (backToKw p2 (keywordEach [] X.env)).all (fun x => x.1.isSome) && decide (([e] : List Expr).length + ([] : List Keyword).length + (if ([] : List Keyword).isEmpty then 0 else 1) < 30)) = true := by rfl)
    (hline : (p1.endLine == p2.line) = true := by rfl) (hs : starEach [e] X.env = (false, eval e X.env) :: starEach [] X.env := by rfl) (hplain : (backTo p2 (starEach [] X.env)).any (·.1) = false := by rfl)
    (hsw : swapsWith (.Call (.Attribute (.Name n p0) "extend" p1) [e] [] p2) none p3.line X.env = pure false := by rfl) :
    WSs X (.Expr (.Call (.Attribute (.Name n p0) "extend" p1) [e] [] p2) p3 :: rest) D σ s.H :=
  do_cons (ps_expr (pe_bm PySem.F.plainAttrs_list PySem.F.slot_list_extend PySem.F.type_list_extend mt_extend (pe_var hN hv hd hcd) (pa_cons pe_we pa_nil hs) hbase hfew hline hs hplain) hsw) (by
    obtain ⟨h1, vs, h2, h3⟩ := id o
    refine ⟨_, hσ, .inl ⟨rfl, vs, .inl (.inl h2)⟩, he s (Ex.refl _) _ fun q s1 k1 n1 o1 => ?_⟩
    obtain ⟨_, ws, h4, h5⟩ := o1
    have f1 := k1.n _ _ h2 h1
    have g1 := k1.h _ _ h2
    refine ⟨p, q, vs, ws, rfl, rfl, g1, h4, by rw [h3.len, h5.len]; exact hz, ?_⟩
    exact k (s1.put p (.lst (vs ++ ws)) f1) (k1.mx.trans (Mx.put f1)) ⟨f1, _, upd_same, (h3.mono k1.f).app h5⟩)
theorem do_setItem (i : Nat) {p : Addr} {n : Str} {xs : List α} {x : α} {z : Int} {j : Nat} (hσ : σ[i]? = some (some (.ref p))) (o : Own X.K s p xs) (he : Ev X e σ s x) (hi : Ev X a σ s z) (hj : ixN xs.length z = some j)
    (k : ∀ s1, Mx (· = p) s s1 → Own X.K s1 p (xs.set j x) → WSs X rest D σ s1.H)
    (hN : X.N[i]? = some n := by rfl) (hv : Vis X.env.scope n := by first | exact Or.inl rfl | exact Or.inr (Or.inl rfl) | exact Or.inr (Or.inr rfl)) (hd : (n == ("__debug__" : Str)) = false := by decide) (hcd : (n == ("__classdict__" : Str)) = false := by decide)
    (ha : ∀ v, assign (.Subscript (.Name n p0) a p1) X.env v = (do
      let ov ← holding [v] (eval (.Name n p0) X.env)
      let iv ← holding [v, ov] (eval a X.env)
      standAt p1
      holding [v, ov, iv] (setItem ov iv v)
      release [v, ov, iv] []) := by intro _; rfl)
    (hs : swapsWithSole [.Subscript (.Name n p0) a p1] e pos.line X.env = pure false := by rfl) (hw : swappedStores [.Subscript (.Name n p0) a p1] e X.env = pure none := by rfl)
    (h1 : (assignEach [.Subscript (.Name n p0) a p1] X.env).map (·.2) = [assign (.Subscript (.Name n p0) a p1) X.env] := by rfl) :
    WSs X (.Assign [.Subscript (.Name n p0) a p1] e pos :: rest) D σ s.H :=
  do_cons (ps_asg pe_we (pg_sub (pe_var hN hv hd hcd) pe_we set_list ha) hs hw h1) (by
    obtain ⟨f0, vs, h2, h3⟩ := id o
    refine he s (Ex.refl _) _ fun v s1 k1 r1 => ⟨_, hσ, hi s1 k1 _ fun u s2 k2 r2 => ?_⟩
    have k3 := k1.trans k2
    have f1 := k3.n _ _ h2 f0
    have g1 := k3.h _ _ h2
    refine ⟨p, vs, z, j, rfl, r2, g1, by rw [h3.len]; exact hj, ?_⟩
    exact k (s2.put p (.lst (vs.set j v)) f1) (k3.mx.trans (Mx.put f1)) ⟨f1, _, upd_same, (h3.mono k3.f).set j (Enc.mono k2.f r1)⟩)
theorem do_frz {p : Addr} {xs : List α} {ss : List Stmt} (o : Own X.K s p xs) (k : ∀ s' : S, s'.H = s.H → Fle s.F s'.F → (∀ q, q ≠ p → s'.F q = s.F q) → rep X.K s'.F (.ref p) xs → WSs X ss D σ s'.H) : WSs X ss D σ s.H := by
  obtain ⟨s', h1, h2, h3, h4⟩ := o.frz
  have := k s' h1 h2 h3 h4
  rw [h1] at this
  exact this

theorem foldO_drop {τ υ : Type} {f : υ → τ → Option υ} {b b1 : υ} {xs : List τ} {i : Nat} (hi : i < xs.length) (h : foldO f b (xs.drop i) = some b1) : ∃ b', f b xs[i] = some b' ∧ foldO f b' (xs.drop (i + 1)) = some b1 := by
  rw [List.drop_eq_getElem_cons hi] at h
  exact bndE h
theorem do_for_core {τ : Type} [Enc τ] {xs : List τ} {body : List Stmt} {g : TG} {B : Hp → τ → St → St → Prop} (hp : PassesOwn (model X.prog X.w) X.A X.env X.xe) (hc : X.calm = true) (hi : EvI X tg iter σ s xs) (hg : PG X tg g) (T : Tgt (α := τ) X.K g B)
    (R : Nat → St → S → Prop) (h0 : ∀ s1, Ex s s1 → R 0 σ s1)
    (hb : ∀ s1, Ex s s1 → ∀ (i : Nat) (x : τ) (σ' σ2 : St) (t t' : S), xs[i]? = some x → Fle s1.F t.F → R i σ' t → Ex t t' → B t'.F x σ' σ2 → WSs X body (LD D fun σ s => Fle t'.F s.F ∧ R (i + 1) σ s) σ2 t'.H)
    (hd : ∀ s1, Ex s s1 → ∀ σ' t, Fle s1.F t.F → R xs.length σ' t → WSs X rest D σ' t.H)
    (hs : ∀ x, foldedSetIterable iter X.env x = pure x := by intro _; rfl) : WSs X (.For tg iter body [] pos :: rest) D σ s.H :=
  do_cons (ps_for hp hc pi_wi hg pss_ws hs) (hi s (Ex.refl _) _ fun J s1 k1 W => by
    refine ⟨fun i m σ' H' => ∃ t : S, t.H = H' ∧ m = xs.length - i ∧ i ≤ xs.length ∧ Fle s1.F t.F ∧ R i σ' t, ⟨xs.length, s1, rfl, rfl, Nat.zero_le _, Fle.refl _, h0 s1 k1⟩, ?_⟩
    rintro i m σ' H' ⟨t, rfl, rfl, hle, f, r⟩
    by_cases hlt : i < xs.length
    · right
      obtain ⟨g1, g2⟩ := W.go i t xs[i] f (List.getElem?_eq_getElem hlt)
      refine ⟨g1, fun σ' H' => ∃ u : S, u.H = H' ∧ Fle s1.F u.F ∧ R (i + 1) σ' u, fun σ' H' ⟨u, e1, f1, r1⟩ => ⟨xs.length - (i + 1), by omega, u, e1, rfl, hlt, f1, r1⟩, fun v H' hy => ?_⟩
      obtain ⟨t', rfl, kt, rv⟩ := g2 v H' hy
      refine T.run t' v xs[i] _ _ rv fun σ2 hB => ?_
      have := hb s1 k1 i xs[i] σ' σ2 t t' (List.getElem?_eq_getElem hlt) f r kt hB
      exact this.imp (fun σ3 H3 ⟨u, e1, f1, r1⟩ => ⟨u, e1, (f.trans kt.f).trans f1, r1⟩) (fun _ _ q => q) (fun _ _ q => q.elim) (fun _ _ q => q.elim)
    · left
      have e : i = xs.length := by omega
      subst e
      exact ⟨W.stop _ t f (Nat.le_refl _), hd s1 k1 σ' t f r⟩)
theorem do_forO {τ υ : Type} [Enc τ] {xs : List τ} {f : υ → τ → Option υ} {b0 b1 : υ} {body : List Stmt} {g : TG} {B : Hp → τ → St → St → Prop} (hp : PassesOwn (model X.prog X.w) X.A X.env X.xe) (hc : X.calm = true) (hi : EvI X tg iter σ s xs) (hg : PG X tg g) (T : Tgt (α := τ) X.K g B)
    (hf : foldO f b0 xs = some b1) (R : υ → St → S → Prop) (h0 : ∀ s1, Ex s s1 → R b0 σ s1)
    (hb : ∀ s1, Ex s s1 → ∀ (x : τ) (b b' : υ) (σ' σ2 : St) (t t' : S), x ∈ xs → f b x = some b' → Fle s1.F t.F → R b σ' t → Ex t t' → B t'.F x σ' σ2 → WSs X body (LD D fun σ s => Fle t'.F s.F ∧ R b' σ s) σ2 t'.H)
    (hd : ∀ s1, Ex s s1 → ∀ σ' t, Fle s1.F t.F → R b1 σ' t → WSs X rest D σ' t.H)
    (hs : ∀ x, foldedSetIterable iter X.env x = pure x := by intro _; rfl) : WSs X (.For tg iter body [] pos :: rest) D σ s.H :=
  do_for_core hp hc hi hg T (fun i σ' t => ∃ b, foldO f b (xs.drop i) = some b1 ∧ R b σ' t) (fun s1 k => ⟨b0, hf, h0 s1 k⟩)
    (fun s1 k i x σ' σ2 t t' hx fl ⟨b, h1, h2⟩ kt hB => by
      obtain ⟨hlt, rfl⟩ := List.getElem?_eq_some_iff.mp hx
      obtain ⟨b', h3, h4⟩ := foldO_drop hlt h1
      exact (hb s1 k xs[i] b b' σ' σ2 t t' (List.getElem_mem hlt) h3 fl h2 kt hB).imp (fun σ3 H3 ⟨u, e1, f1, r1⟩ => ⟨u, e1, f1, b', h4, r1⟩) (fun _ _ q => q) (fun _ _ q => q.elim) (fun _ _ q => q.elim))
    (fun s1 k σ' t fl ⟨b, h1, h2⟩ => by
      rw [List.drop_length] at h1
      cases h1
      exact hd s1 k σ' t fl h2) hs
theorem foldF_drop {τ υ ρ : Type} {f : υ → τ → Option (Fl υ ρ)} {b : υ} {o : Fl υ ρ} {xs : List τ} {i : Nat} (hi : i < xs.length) (h : foldF f b (xs.drop i) = some o) : ∃ q, f b xs[i] = some q ∧ (∀ b', q = .nx b' → foldF f b' (xs.drop (i + 1)) = some o) ∧ ∀ r, q = .rt r → o = .rt r := by
  rw [List.drop_eq_getElem_cons hi] at h
  obtain ⟨q, h1, h2⟩ := bndE h
  refine ⟨q, h1, fun b' e => by subst e; exact h2, fun r e => by subst e; exact (Option.some.inj h2).symm⟩
theorem do_forF {τ υ ρ : Type} [Enc τ] {xs : List τ} {f : υ → τ → Option (Fl υ ρ)} {b0 : υ} {o : Fl υ ρ} {body : List Stmt} {g : TG} {B : Hp → τ → St → St → Prop} (hp : PassesOwn (model X.prog X.w) X.A X.env X.xe) (hc : X.calm = true) (hi : EvI X tg iter σ s xs) (hg : PG X tg g) (T : Tgt (α := τ) X.K g B)
    (hf : foldF f b0 xs = some o) (R : υ → St → S → Prop) (h0 : ∀ s1, Ex s s1 → R b0 σ s1)
    (hb : ∀ s1, Ex s s1 → ∀ (x : τ) (b : υ) (q : Fl υ ρ) (σ' σ2 : St) (t t' : S), x ∈ xs → f b x = some q → (∀ r, q = .rt r → o = .rt r) → Fle s1.F t.F → R b σ' t → Ex t t' → B t'.F x σ' σ2 → WSs X body (LD D fun σ s => ∃ b', q = .nx b' ∧ Fle t'.F s.F ∧ R b' σ s) σ2 t'.H)
    (hd : ∀ s1, Ex s s1 → ∀ b1 σ' t, o = .nx b1 → Fle s1.F t.F → R b1 σ' t → WSs X rest D σ' t.H)
    (hs : ∀ x, foldedSetIterable iter X.env x = pure x := by intro _; rfl) : WSs X (.For tg iter body [] pos :: rest) D σ s.H :=
  do_for_core hp hc hi hg T (fun i σ' t => ∃ b, foldF f b (xs.drop i) = some o ∧ R b σ' t) (fun s1 k => ⟨b0, hf, h0 s1 k⟩)
    (fun s1 k i x σ' σ2 t t' hx fl ⟨b, h1, h2⟩ kt hB => by
      obtain ⟨hlt, rfl⟩ := List.getElem?_eq_some_iff.mp hx
      obtain ⟨q, h3, h4, h5⟩ := foldF_drop hlt h1
      exact (hb s1 k xs[i] b q σ' σ2 t t' (List.getElem_mem hlt) h3 h5 fl h2 kt hB).imp (fun σ3 H3 ⟨u, e1, b', e2, f1, r1⟩ => ⟨u, e1, f1, b', h4 b' e2, r1⟩) (fun _ _ q => q) (fun _ _ q => q.elim) (fun _ _ q => q.elim))
    (fun s1 k σ' t fl ⟨b, h1, h2⟩ => by
      rw [List.drop_length] at h1
      cases h1
      exact hd s1 k b σ' t rfl fl h2) hs
theorem do_whileO {υ : Type} {cf : υ → Option Bool} {f : υ → Option υ} {n : Nat} {b0 b1 : υ} {body : List Stmt} (hp : PassesOwn (model X.prog X.w) X.A X.env X.xe) (hf : whileO cf f n b0 = some b1) (R : υ → St → S → Prop) (h0 : R b0 σ s)
    (hc : ∀ (b : υ) (x : Bool) (σ' : St) (t : S), cf b = some x → Fle s.F t.F → R b σ' t → EvT X c σ' t x)
    (hb : ∀ (b b' : υ) (σ' : St) (t t' : S), cf b = some true → f b = some b' → Fle s.F t.F → R b σ' t → Ex t t' → WSs X body (LD D fun σ s => Fle t'.F s.F ∧ R b' σ s) σ' t'.H)
    (hd : ∀ σ' t t', cf b1 = some false → Fle s.F t.F → R b1 σ' t → Ex t t' → WSs X rest D σ' t'.H) : WSs X (.While c body [] pos :: rest) D σ s.H :=
  do_cons (ps_while hp pt_wt pss_ws) (by
    refine ⟨fun m σ' H' => ∃ (t : S) (b : υ), t.H = H' ∧ Fle s.F t.F ∧ whileO cf f m b = some b1 ∧ R b σ' t, ⟨n, s, b0, rfl, Fle.refl _, hf, h0⟩, ?_⟩
    rintro m σ' H' ⟨t, b, rfl, fl, h1, h2⟩
    cases m with
    | zero => cases h1
    | succ m =>
      obtain ⟨x, h3, h4⟩ := bndE h1
      refine hc b x σ' t h3 fl h2 t (Ex.refl _) _ fun t' kt => ?_
      cases x with
      | true =>
        refine iteT ?_
        rw [if_pos rfl] at h4
        obtain ⟨b', h5, h6⟩ := bndE h4
        refine ⟨fun σ3 H3 => ∃ u : S, u.H = H3 ∧ Fle s.F u.F ∧ R b' σ3 u, fun σ3 H3 ⟨u, e1, f1, r1⟩ => ⟨m, Nat.lt_succ_self _, u, b', e1, f1, h6, r1⟩, ?_⟩
        exact (hb b b' σ' t t' h3 h5 fl h2 kt).imp (fun σ3 H3 ⟨u, e1, f1, r1⟩ => ⟨u, e1, (fl.trans kt.f).trans f1, r1⟩) (fun _ _ q => q) (fun _ _ q => q.elim) (fun _ _ q => q.elim)
      | false =>
        refine iteF ?_
        rw [if_neg Bool.false_ne_true] at h4
        cases h4
        exact hd σ' t t' h3 fl h2 kt)
end
end Dy

namespace Dy
open PySem PySem.Spec L2
open PyProof.Rows hiding St
open Enc (rep)
open Flat (toV)
open EncA (repA)

section
variable {P : Program} {w : World} {K : PySem.W.Frag} {mg : Str → Option Value} {base : Heap}
abbrev FunP (K : PySem.W.Frag) (x : Str) (st : Stmt) (f : Addr) (fd : FuncData) : Prop := FunD K x x (defArgs st) (defBody st) (defScope st) [] [] f fd
theorem mk_fn {A ρ : Type} [EncA A] [Enc ρ] {m : A → Option ρ} {x : Str} {st : Stmt} {f : Addr} {fd : FuncData} {N ps : List Str} {k : Nat} (F : FunP K x st f fd) (Sc : FnScope N ps (defScope st))
    (hl : ∀ (F : Hp) (vs : List V) (a : A), repA K F vs a → vs.length = ps.length)
    (body : ∀ (cdv : Value) (A' : Around) (outer : List Env) (s0 : Shared) (H0 : Hp) (E0 : XK), Room k (A'.deeper (envOfC x (defScope st) s0.heap.objs.size f cdv)) → ∀ (s : S) (vs : List V) (a : A) (r : ρ) (Q : VK), repA K s.F vs a → m a = some r →
      (∀ v s', Ex s s' → rep K s'.F v r → Q v s'.H) → WSs (cxOf CX0 P w K mg base N x (defScope st) f cdv A' outer s0 H0 E0).nox (defBody st) (RD Q) (start N vs) s.H) : FnOk P w K mg base CX0 (k + 1) f fd ps (sp K m) :=
  F.ok Sc (fun vs H Q E ⟨s, a, r, _, h, _⟩ => hl s.F vs a h) (fun cdv A' outer s0 H0 vs Q E hr ⟨s, a, r, e, h1, h2, h3⟩ => ⟨_, pss_ws.nox, by
    have := body cdv A' outer s0 H0 E hr s vs a r Q h1 h2 h3
    rw [e] at this
    exact this⟩)
theorem mk_cal {A ρ : Type} [EncA A] [Enc ρ] {m : A → Option ρ} {x : Str} {st : Stmt} {f : Addr} {fd : FuncData} {N ps : List Str} {k : Nat} (F : FunP K x st f fd) (hm : mg x = some (.ref f)) (b : Binds K fd ps []) (Sc : FnScope N ps (defScope st))
    (hl : ∀ (F : Hp) (vs : List V) (a : A), repA K F vs a → vs.length = ps.length)
    (body : ∀ (cdv : Value) (A' : Around) (outer : List Env) (s0 : Shared) (H0 : Hp) (E0 : XK), Room k (A'.deeper (envOfC x (defScope st) s0.heap.objs.size f cdv)) → ∀ (s : S) (vs : List V) (a : A) (r : ρ) (Q : VK), repA K s.F vs a → m a = some r →
      (∀ v s', Ex s s' → rep K s'.F v r → Q v s'.H) → WSs (cxOf CX0 P w K mg base N x (defScope st) f cdv A' outer s0 H0 E0).nox (defBody st) (RD Q) (start N vs) s.H) : Cal P w K mg base CX0 (k + 1) x (sp K m) :=
  ⟨f, fd, ps, F.ok Sc (fun vs H Q E ⟨s, a, r, _, h, _⟩ => hl s.F vs a h) (fun cdv A' outer s0 H0 vs Q E hr ⟨s, a, r, e, h1, h2, h3⟩ => ⟨_, pss_ws.nox, by
    have := body cdv A' outer s0 H0 E hr s vs a r Q h1 h2 h3
    rw [e] at this
    exact this⟩), hm, F.kp, b⟩
theorem mk_calN {A ρ : Type} [EncA A] [Enc ρ] {m : A → Option (List ρ)} {x : Str} {st : Stmt} {f : Addr} {fd : FuncData} {N ps : List Str} {k : Nat} (F : FunP K x st f fd) (hm : mg x = some (.ref f)) (b : Binds K fd ps []) (Sc : FnScope N ps (defScope st))
    (hl : ∀ (F : Hp) (vs : List V) (a : A), repA K F vs a → vs.length = ps.length)
    (body : ∀ (cdv : Value) (A' : Around) (outer : List Env) (s0 : Shared) (H0 : Hp) (E0 : XK), Room k (A'.deeper (envOfC x (defScope st) s0.heap.objs.size f cdv)) → ∀ (s : S) (vs : List V) (a : A) (r : List ρ) (Q : VK), repA K s.F vs a → m a = some r →
      (∀ p s', Ex s s' → s.H p = none → Own K s' p r → Q (.ref p) s'.H) → WSs (cxOf CX0 P w K mg base N x (defScope st) f cdv A' outer s0 H0 E0).nox (defBody st) (RD Q) (start N vs) s.H) : Cal P w K mg base CX0 (k + 1) x (spN K m) :=
  ⟨f, fd, ps, F.ok Sc (fun vs H Q E ⟨s, a, r, _, h, _⟩ => hl s.F vs a h) (fun cdv A' outer s0 H0 vs Q E hr ⟨s, a, r, e, h1, h2, h3⟩ => ⟨_, pss_ws.nox, by
    have := body cdv A' outer s0 H0 E hr s vs a r Q h1 h2 h3
    rw [e] at this
    exact this⟩), hm, F.kp, b⟩
theorem len1 {α : Type} [Enc α] (F : Hp) (vs : List V) (a : α × Unit) (h : repA K F vs a) : vs.length = 1 := by obtain ⟨_, _, rfl, _, rfl⟩ := h; rfl
theorem len2 {α β : Type} [Enc α] [Enc β] (F : Hp) (vs : List V) (a : α × β × Unit) (h : repA K F vs a) : vs.length = 2 := by obtain ⟨_, _, rfl, _, _, _, rfl, _, rfl⟩ := h; rfl
theorem len3 {α β γ : Type} [Enc α] [Enc β] [Enc γ] (F : Hp) (vs : List V) (a : α × β × γ × Unit) (h : repA K F vs a) : vs.length = 3 := by obtain ⟨_, _, rfl, _, _, _, rfl, _, _, _, rfl, _, rfl⟩ := h; rfl
theorem len4 {α β γ δ : Type} [Enc α] [Enc β] [Enc γ] [Enc δ] (F : Hp) (vs : List V) (a : α × β × γ × δ × Unit) (h : repA K F vs a) : vs.length = 4 := by obtain ⟨_, _, rfl, _, _, _, rfl, _, _, _, rfl, _, _, _, rfl, _, rfl⟩ := h; rfl
theorem len5 {α β γ δ ε : Type} [Enc α] [Enc β] [Enc γ] [Enc δ] [Enc ε] (F : Hp) (vs : List V) (a : α × β × γ × δ × ε × Unit) (h : repA K F vs a) : vs.length = 5 := by obtain ⟨_, _, rfl, _, _, _, rfl, _, _, _, rfl, _, _, _, rfl, _, _, _, rfl, _, rfl⟩ := h; rfl
theorem len6 {α β γ δ ε ζ : Type} [Enc α] [Enc β] [Enc γ] [Enc δ] [Enc ε] [Enc ζ] (F : Hp) (vs : List V) (a : α × β × γ × δ × ε × ζ × Unit) (h : repA K F vs a) : vs.length = 6 := by obtain ⟨_, _, rfl, _, _, _, rfl, _, _, _, rfl, _, _, _, rfl, _, _, _, rfl, _, _, _, rfl, _, rfl⟩ := h; rfl
end

class Ty (α : Type) extends Enc α where
  ty : α → String
  is : ∀ {K : PySem.W.Frag} {F H : Hp} {v : V} {x : α}, rep K F v x → Fle F H → TyX K H v (.type (ty x))
theorem sql_ty {K : PySem.W.Frag} {H : Hp} {p : Addr} {vs : List V} (h : SqL K H p vs) : TyX K H (.ref p) (.type "list") := by
  rcases h with (h | ⟨o, h⟩) | ⟨o, its, n, h, hc, _⟩
  · exact .base (.lst h)
  · exact .base (.frz h)
  · exact .kList h hc
theorem sqt_ty {K : PySem.W.Frag} {H : Hp} {p : Addr} {vs : List V} (h : SqT K H p vs) : TyX K H (.ref p) (.type "tuple") := by
  rcases h with (h | ⟨o, h⟩) | ⟨o, its, n, h, hc, _⟩
  · exact .base (.tup h)
  · exact .fTuple h
  · exact .kTuple h hc
instance : Ty Int := ⟨fun _ => "int", fun {K F H v x} h _ => by rw [show v = V.int x from h]; exact .base (.int _)⟩
instance : Ty Bool := ⟨fun _ => "bool", fun {K F H v x} h _ => by rw [show v = V.bl x from h]; exact .base (.bl _)⟩
instance : Ty Str := ⟨fun _ => "str", fun {K F H v x} h _ => by rw [show v = V.str x from h]; exact .base (.str _)⟩
instance {α : Type} [Ty α] : Ty (Option α) := ⟨fun x => match x with | none => "NoneType" | some y => Ty.ty y, fun {K F H v x} h f => by
  cases x with
  | none => rw [show v = V.non from h]; exact .base .non
  | some y => exact Ty.is (α := α) h f⟩
instance {α : Type} [Enc α] : Ty (List α) := ⟨fun _ => "list", fun h f => by
  obtain ⟨p, vs, rfl, h1, _⟩ := h
  exact sql_ty (sql_mono f h1)⟩
instance {α : Type} [Enc α] : Ty (Tu α) := ⟨fun _ => "tuple", fun h f => by
  obtain ⟨p, vs, rfl, h1, _⟩ := h
  exact sqt_ty (sqt_mono f h1)⟩
instance {α β : Type} [Enc α] [Enc β] : Ty (α × β) := ⟨fun _ => "tuple", fun h f => by
  obtain ⟨p, v1, v2, rfl, h1, _⟩ := h
  exact sqt_ty (sqt_mono f h1)⟩
instance {α : Type} [Enc α] : Ty (T1 α) := ⟨fun _ => "tuple", fun h f => by
  obtain ⟨p, v1, rfl, h1, _⟩ := h
  exact sqt_ty (sqt_mono f h1)⟩
instance {α β γ : Type} [Enc α] [Enc β] [Enc γ] : Ty (T3 α β γ) := ⟨fun _ => "tuple", fun h f => by
  obtain ⟨p, v1, v2, v3, rfl, h1, _⟩ := h
  exact sqt_ty (sqt_mono f h1)⟩
instance {α β γ δ : Type} [Enc α] [Enc β] [Enc γ] [Enc δ] : Ty (T4 α β γ δ) := ⟨fun _ => "tuple", fun h f => by
  obtain ⟨p, v1, v2, v3, v4, rfl, h1, _⟩ := h
  exact sqt_ty (sqt_mono f h1)⟩
instance {α β γ δ ε : Type} [Enc α] [Enc β] [Enc γ] [Enc δ] [Enc ε] : Ty (T5 α β γ δ ε) := ⟨fun _ => "tuple", fun h f => by
  obtain ⟨p, v1, v2, v3, v4, v5, rfl, h1, _⟩ := h
  exact sqt_ty (sqt_mono f h1)⟩
section
variable {α β : Type} {X : Cx} {σ : St} {s : S} {a b : Expr} {pos p0 p1 p2 p3 : Pos}
theorem ev_isi [Ty α] {x : α} {n : Str} {T : String} {r : Bool} (hm : X.mg "isinstance" = none) (hn : X.mg n = none) (hv : bootBuiltins n = some (.type T)) (ha : Ev X a σ s x) (h : kitB (Ty.ty x) T = some r)
    (hg : Gl X "isinstance" := by rfl) (hgn : Gl X n := by rfl) (he : starEach [a, .Name n p1] X.env = (false, eval a X.env) :: starEach [.Name n p1] X.env := by rfl) (he2 : starEach [.Name n p1] X.env = (false, eval (.Name n p1) X.env) :: starEach [] X.env := by rfl) (hpl : (backTo pos (starEach [.Name n p1] X.env)).any (·.1) = false := by rfl)
    (hnn : n ≠ "__name__" := by decide) (hnd : (n == ("__debug__" : Str)) = false := by decide) :
    Ev X (.Call (.Name "isinstance" p0) [a, .Name n p1] [] pos) σ s r := fun s1 k Q q =>
  we_of (pe_callB call_isi hg hm (by decide +kernel) (pa_cons pe_we (pa_cons (pe_bltn (v := .ty T) hgn hn hv rfl hnn hnd) pa_nil he2) he) (he := he) (hpl := hpl)) (ha s1 k _ fun v s2 k2 r2 =>
    ⟨v, .ty T, .type (Ty.ty x), .type T, r, rfl, .ty T, Ty.is r2 s2.sub, kit_ty h, q _ s2 k2 rfl⟩)

class EqD (α : Type) extends Enc α where
  toD : α → PyData
  dp : ∀ {K : PySem.W.Frag} {F H : Hp} {v : V} {x : α}, rep K F v x → Fle F H → Dp K H v (toD x)
  eqv : ∀ x y : α, PyData.eqv (toD x) (toD y) = true ↔ x = y
def DpR {α : Type} [EqD α] {K : PySem.W.Frag} {F H : Hp} (f : Fle F H) : ∀ {vs : List V} {xs : List α}, Reps K F vs xs → DpAll K H vs (xs.map EqD.toD)
  | [], [], _ => .nil
  | _ :: _, _ :: _, ⟨h, t⟩ => .cons (EqD.dp h f) (DpR f t)
  | [], _ :: _, h => h.elim
  | _ :: _, [], h => h.elim
theorem eqv_all {α : Type} [EqD α] : ∀ xs ys : List α, PyData.eqvAll (xs.map EqD.toD) (ys.map EqD.toD) = true ↔ xs = ys
  | [], [] => by simp [PyData.eqvAll]
  | [], _ :: _ => by simp [PyData.eqvAll]
  | _ :: _, [] => by simp [PyData.eqvAll]
  | x :: xs, y :: ys => by
    show (PyData.eqv (EqD.toD x) (EqD.toD y) && PyData.eqvAll (xs.map EqD.toD) (ys.map EqD.toD)) = true ↔ _
    rw [Bool.and_eq_true, EqD.eqv, eqv_all xs ys]
    simp
instance : EqD Int := ⟨PyData.int, fun {K F H v x} h _ => by rw [show v = V.int x from h]; exact .int _, fun x y => by show (x == y) = true ↔ _; simp⟩
instance : EqD Bool := ⟨PyData.bool, fun {K F H v x} h _ => by rw [show v = V.bl x from h]; exact .bl _, fun x y => by show (x == y) = true ↔ _; simp⟩
instance : EqD Str := ⟨PyData.str, fun {K F H v x} h _ => by rw [show v = V.str x from h]; exact .str _, fun x y => by show (x == y) = true ↔ _; simp⟩
instance : EqD (Option Int) := ⟨fun x => match x with | none => .none | some i => .int i, fun {K F H v x} h _ => by
  cases x with
  | none => rw [show v = V.non from h]; exact .non
  | some i => rw [show v = V.int i from h]; exact .int _, fun x y => by cases x <;> cases y <;> simp [PyData.eqv]⟩
instance : EqD (Option Str) := ⟨fun x => match x with | none => .none | some i => .str i, fun {K F H v x} h _ => by
  cases x with
  | none => rw [show v = V.non from h]; exact .non
  | some i => rw [show v = V.str i from h]; exact .str _, fun x y => by cases x <;> cases y <;> simp [PyData.eqv]⟩
instance {α : Type} [EqD α] : EqD (List α) := ⟨fun xs => .list (xs.map EqD.toD), fun h f => by
  obtain ⟨p, vs, rfl, h1, h2⟩ := h
  exact .lst (sql_mono f h1) (DpR f h2), fun x y => eqv_all x y⟩
instance {α : Type} [EqD α] : EqD (Tu α) := ⟨fun xs => .tuple (xs.l.map EqD.toD), fun h f => by
  obtain ⟨p, vs, rfl, h1, h2⟩ := h
  exact .tup (sqt_mono f h1) (DpR f h2), fun x y => by
    obtain ⟨x⟩ := x
    obtain ⟨y⟩ := y
    show PyData.eqvAll _ _ = true ↔ _
    rw [eqv_all]; simp⟩
instance {α β : Type} [EqD α] [EqD β] : EqD (α × β) := ⟨fun x => .tuple [EqD.toD x.1, EqD.toD x.2], fun h f => by
  obtain ⟨p, v1, v2, rfl, h0, h1, h2⟩ := h
  exact .tup (sqt_mono f h0) (.cons (EqD.dp h1 f) (.cons (EqD.dp h2 f) .nil)), fun x y => by
    obtain ⟨x1, x2⟩ := x
    obtain ⟨y1, y2⟩ := y
    show (PyData.eqv _ _ && (PyData.eqv _ _ && true)) = true ↔ _
    rw [Bool.and_eq_true, Bool.and_eq_true, EqD.eqv, EqD.eqv]; simp⟩
instance {α β γ : Type} [EqD α] [EqD β] [EqD γ] : EqD (T3 α β γ) := ⟨fun x => .tuple [EqD.toD x.a, EqD.toD x.b, EqD.toD x.c], fun h f => by
  obtain ⟨p, v1, v2, v3, rfl, h0, h1, h2, h3⟩ := h
  exact .tup (sqt_mono f h0) (.cons (EqD.dp h1 f) (.cons (EqD.dp h2 f) (.cons (EqD.dp h3 f) .nil))), fun x y => by
    obtain ⟨x1, x2, x3⟩ := x
    obtain ⟨y1, y2, y3⟩ := y
    show (PyData.eqv _ _ && (PyData.eqv _ _ && (PyData.eqv _ _ && true))) = true ↔ _
    rw [Bool.and_eq_true, Bool.and_eq_true, Bool.and_eq_true, EqD.eqv, EqD.eqv, EqD.eqv]; simp⟩
instance {α : Type} [EqD α] : EqD (T1 α) := ⟨fun x => .tuple [EqD.toD x.a], fun h f => by
  obtain ⟨p, v1, rfl, h0, h1⟩ := h
  exact .tup (sqt_mono f h0) (.cons (EqD.dp h1 f) .nil), fun x y => by
    obtain ⟨x1⟩ := x
    obtain ⟨y1⟩ := y
    show (PyData.eqv _ _ && true) = true ↔ _
    rw [Bool.and_eq_true, EqD.eqv]; simp⟩
def shp {α : Type} [EqD α] (x : α) : Prop := SeqAt.shaped (EqD.toD x) = true
theorem eqv_dec {α : Type} [EqD α] [DecidableEq α] (x y : α) : PyData.eqv (EqD.toD x) (EqD.toD y) = decide (x = y) := by
  rw [Bool.eq_iff_iff, EqD.eqv, decide_eq_true_eq]
theorem repR_d {α : Type} [EqD α] {K : PySem.W.Frag} {v : V} {xs : List α} (h : RepR K s v xs) : Dp K s.H v (EqD.toD xs) := by
  obtain ⟨p, vs, rfl, h1, h2⟩ := h
  exact .lst h1 (DpR s.sub h2)
theorem hu64 {j : Nat} (hr : Room j X.A) : X.A.units + 64 < cLine := by
  have := hr.un
  omega
theorem eb_eqD [EqD α] [DecidableEq α] {x y : α} {j : Nat} (hr : Room j X.A) (ha : Ev X a σ s x) (hb : Ev X b σ s y) (h1 : shp x) (h2 : shp y) : EvB X (.Compare a [.Eq] [b] pos) σ s (decide (x = y)) :=
  eb_cmp (op_eqD (hu64 hr)) ha hb (fun v u s2 hv hu Q q => ⟨_, _, EqD.dp hv s2.sub, EqD.dp hu s2.sub, h1, h2, by rw [eqv_dec]; exact q⟩) (nomark _)
theorem eb_neD [EqD α] [DecidableEq α] {x y : α} {j : Nat} (hr : Room j X.A) (ha : Ev X a σ s x) (hb : Ev X b σ s y) (h1 : shp x) (h2 : shp y) : EvB X (.Compare a [.NotEq] [b] pos) σ s (!decide (x = y)) :=
  eb_cmp (op_neD (hu64 hr)) ha hb (fun v u s2 hv hu Q q => ⟨_, _, EqD.dp hv s2.sub, EqD.dp hu s2.sub, h1, h2, by rw [eqv_dec]; exact q⟩) (nomark _)
theorem eb_eqL [EqD α] [DecidableEq α] {x y : List α} {j : Nat} (hr : Room j X.A) (ha : EvR X a σ s x) (hb : EvR X b σ s y) (h1 : shp x) (h2 : shp y) : EvB X (.Compare a [.Eq] [b] pos) σ s (decide (x = y)) :=
  eb_cmpRR (op_eqD (hu64 hr)) ha hb (fun v u s2 hv hu Q q => ⟨_, _, repR_d hv, repR_d hu, h1, h2, by rw [eqv_dec]; exact q⟩) (nomark _)
theorem eb_neL [EqD α] [DecidableEq α] {x y : List α} {j : Nat} (hr : Room j X.A) (ha : EvR X a σ s x) (hb : EvR X b σ s y) (h1 : shp x) (h2 : shp y) : EvB X (.Compare a [.NotEq] [b] pos) σ s (!decide (x = y)) :=
  eb_cmpRR (op_neD (hu64 hr)) ha hb (fun v u s2 hv hu Q q => ⟨_, _, repR_d hv, repR_d hu, h1, h2, by rw [eqv_dec]; exact q⟩) (nomark _)
end

class Shp (α : Type) (n : outParam Nat) extends EqD α where
  ok : ∀ x : α, PyData.canLay0 (EqD.toD x) = true ∧ PyData.depth (EqD.toD x) ≤ n
theorem shp_all {α : Type} {n : Nat} [Shp α n] : ∀ xs : List α, PyData.canLayAll0 (xs.map EqD.toD) = true ∧ PyData.depthAll (xs.map EqD.toD) ≤ n
  | [] => ⟨by simp [PyData.canLayAll0], by simp [PyData.depthAll]⟩
  | x :: xs => by
    obtain ⟨h1, h2⟩ := shp_all xs
    obtain ⟨h3, h4⟩ := Shp.ok x
    refine ⟨?_, ?_⟩
    · show PyData.canLayAll0 (EqD.toD x :: xs.map EqD.toD) = true
      unfold PyData.canLayAll0
      rw [h3, h1]; rfl
    · show PyData.depthAll (EqD.toD x :: xs.map EqD.toD) ≤ n
      unfold PyData.depthAll
      omega
instance : Shp Int 0 := ⟨fun x => ⟨by show PyData.canLay0 (.int x) = true; unfold PyData.canLay0; rfl, by show PyData.depth (.int x) ≤ 0; unfold PyData.depth; omega⟩⟩
instance : Shp Bool 0 := ⟨fun x => ⟨by show PyData.canLay0 (.bool x) = true; unfold PyData.canLay0; rfl, by show PyData.depth (.bool x) ≤ 0; unfold PyData.depth; omega⟩⟩
instance : Shp (Option Int) 0 := ⟨fun x => by
  cases x with
  | none => exact ⟨by show PyData.canLay0 .none = true; unfold PyData.canLay0; rfl, by show PyData.depth .none ≤ 0; unfold PyData.depth; omega⟩
  | some i => exact ⟨by show PyData.canLay0 (.int i) = true; unfold PyData.canLay0; rfl, by show PyData.depth (.int i) ≤ 0; unfold PyData.depth; omega⟩⟩
instance {α : Type} {n : Nat} [Shp α n] : Shp (List α) (n + 1) := ⟨fun x => by
  obtain ⟨h1, h2⟩ := shp_all x
  refine ⟨?_, ?_⟩
  · show PyData.canLay0 (.list (x.map EqD.toD)) = true
    unfold PyData.canLay0; exact h1
  · show PyData.depth (.list (x.map EqD.toD)) ≤ n + 1
    unfold PyData.depth; omega⟩
instance {α : Type} {n : Nat} [Shp α n] : Shp (Tu α) (n + 1) := ⟨fun x => by
  obtain ⟨h1, h2⟩ := shp_all x.l
  refine ⟨?_, ?_⟩
  · show PyData.canLay0 (.tuple (x.l.map EqD.toD)) = true
    unfold PyData.canLay0; exact h1
  · show PyData.depth (.tuple (x.l.map EqD.toD)) ≤ n + 1
    unfold PyData.depth; omega⟩
instance {α β : Type} {n m : Nat} [Shp α n] [Shp β m] : Shp (α × β) (n + m + 1) := ⟨fun x => by
  obtain ⟨h1, h2⟩ := Shp.ok x.1
  obtain ⟨h3, h4⟩ := Shp.ok x.2
  refine ⟨?_, ?_⟩
  · show PyData.canLay0 (.tuple [EqD.toD x.1, EqD.toD x.2]) = true
    simp [PyData.canLay0, PyData.canLayAll0, h1, h3]
  · show PyData.depth (.tuple [EqD.toD x.1, EqD.toD x.2]) ≤ n + m + 1
    simp [PyData.depth, PyData.depthAll]
    omega⟩
instance {α : Type} {n : Nat} [Shp α n] : Shp (T1 α) (n + 1) := ⟨fun x => by
  obtain ⟨h1, h2⟩ := Shp.ok x.a
  refine ⟨?_, ?_⟩
  · show PyData.canLay0 (.tuple [EqD.toD x.a]) = true
    simp [PyData.canLay0, PyData.canLayAll0, h1]
  · show PyData.depth (.tuple [EqD.toD x.a]) ≤ n + 1
    simp [PyData.depth, PyData.depthAll]
    omega⟩
theorem shp_of {α : Type} {n : Nat} [Shp α n] (x : α) (h : n ≤ 64 := by decide) : shp x := by
  obtain ⟨h1, h2⟩ := Shp.ok x
  unfold shp SeqAt.shaped
  rw [h1, decide_eq_true (Nat.le_trans h2 h)]; rfl

def spLaw (K : PySem.W.Frag) : Sp := fun vs H Q _ => ∃ (a : Addr) (ns : List Int), vs = [.ref a] ∧ SqL K H a (ns.map V.int) ∧ ns.length ≤ 63 ∧ ∀ H', Q (.bl true) H'
theorem law_of {P : Program} {w : World} {K : PySem.W.Frag} {mg : Str → Option Value} {base : Heap} {CX : CXT} {k : Nat} {f : Addr} {fd : FuncData} {ps : List Str} {m : List Int × Unit → Option Bool} (F : FnOk P w K mg base CX k f fd ps (sp K m)) (h : ∀ ns : List Int, ns.length ≤ 63 → m (ns, ()) = some true) : FnOk P w K mg base CX k f fd ps (spLaw K) :=
  F.imp fun vs H Q E ⟨a, ns, e, hs, hl, q⟩ => by
    subst e
    exact ⟨⟨H, H, fun _ _ h => h⟩, (ns, ()), true, rfl, ⟨.ref a, [], rfl, ⟨a, ns.map V.int, rfl, hs, Reps.of_flat ns⟩, rfl⟩, h ns hl, fun v s' _ r => by rw [show v = V.bl true from r]; exact q _⟩
end Dy

namespace Dy
open PySem PySem.Spec L2
open PyProof.Rows hiding St
open Enc (rep)
open Flat (toV)
open EncA (repA)

def strI (x : Int) : Str := toString x
noncomputable def sortI (xs : List Int) : List Int := xs.mergeSort (fun x y => decide (x ≤ y))
def Fl.go {β ρ γ : Type} (o : Fl β ρ) (k : β → γ) (e : ρ → γ) : γ := match o with
  | .nx b => k b
  | .rt r => e r
@[irreducible] def fuel : Nat := 1000000
theorem rng_mem {a b x : Int} (h : x ∈ rng a b) : a ≤ x ∧ x < b := by
  obtain ⟨i, hi⟩ := List.mem_iff_getElem?.mp h
  obtain ⟨h1, h2⟩ := rng_get hi
  omega
theorem frzE {s0 s s' : S} {p : Addr} (E : Ex s0 s) (n : s0.H p = none) (h1 : s'.H = s.H) (h2 : Fle s.F s'.F) (h3 : ∀ q, q ≠ p → s'.F q = s.F q) : Ex s0 s' :=
  ⟨E.f.trans h2, fun a o h => by rw [h1]; exact E.h a o h, fun a o h m => by rw [h3 a (ne_of_none h n)]; exact E.n a o h m⟩
theorem ownFrz {α : Type} [Enc α] {K : PySem.W.Frag} {s s' : S} {p q : Addr} {xs : List α} (o : Own K s q xs) (hne : q ≠ p) (h1 : s'.H = s.H) (h2 : Fle s.F s'.F) (h3 : ∀ q, q ≠ p → s'.F q = s.F q) : Own K s' q xs := by
  obtain ⟨hn, vs, hp, r⟩ := o
  exact ⟨by rw [h3 q hne]; exact hn, vs, by rw [h1]; exact hp, r.mono h2⟩
section
variable {α β γ δ ε : Type} [Enc α] [Enc β] [Enc γ] [Enc δ] [Enc ε] {X : Cx} {σ : St} {s t : S} {e a b c tg iter : Expr} {es : List Expr} {pos p0 p1 p2 p3 : Pos} {D : Ends} {rest A B body : List Stmt}
theorem ec_andO {x r : Bool} (h : EvB X a σ s x) (h2 : x = true → EvC X (.BoolOp .And (b :: es) pos) σ s r) (h3 : x = false → r = false) : EvC X (.BoolOp .And (a :: b :: es) pos) σ s r := by
  cases x with
  | true => exact (ec_and h h2 : EvC X _ σ s (true && r))
  | false =>
    have := ec_and (y := false) (es := es) (b := b) (pos := pos) h (fun z => Bool.noConfusion z)
    rw [h3 rfl]
    exact this
theorem ec_orO {x r : Bool} (h : EvB X a σ s x) (h2 : x = false → EvC X (.BoolOp .Or (b :: es) pos) σ s r) (h3 : x = true → r = true) : EvC X (.BoolOp .Or (a :: b :: es) pos) σ s r := by
  cases x with
  | false => exact (ec_or h h2 : EvC X _ σ s (false || r))
  | true =>
    have := ec_or (y := true) (es := es) (b := b) (pos := pos) h (fun z => Bool.noConfusion z)
    rw [h3 rfl]
    exact this
theorem et_tru {xs : List α} (h : EvR X e σ s xs) (he : ∀ whole, isTrue e X.env whole = (do let v ← whole; standAt e.pos; holding [v] (truthy v)) := by intro _; rfl) : EvT X e σ s (!xs.isEmpty) := fun s1 k Q q =>
  wt_of (pt_truth pe_we he) (h s1 k _ fun v s2 k2 r => by
    obtain ⟨p, vs, rfl, h1, h2⟩ := r
    refine ⟨_, .inl ⟨vs, h1, ?_⟩, q s2 k2⟩
    have := h2.len
    cases vs <;> cases xs <;> simp at this ⊢)
theorem isi_optT {τ : Type} [Ty τ] (x : Option τ) {T : String} (h1 : ∀ y : τ, kitB (Ty.ty y) T = some true) (h2 : kitB "NoneType" T = some false) : kitB (Ty.ty x) T = some x.isSome := by
  cases x with
  | none => exact h2
  | some y => exact h1 y
theorem isi_optF {τ : Type} [Ty τ] (x : Option τ) {T : String} (h1 : ∀ y : τ, kitB (Ty.ty y) T = some false) (h2 : kitB "NoneType" T = some false) : kitB (Ty.ty x) T = some false := by
  cases x with
  | none => exact h2
  | some y => exact h1 y
theorem en_rev {xs : List α} {k q1 q2 q3} (ha : EvR X e σ s xs) : EvN X (.Subscript e (.Slice none none (some (.UnaryOp .USub (.Constant (.int 1) k q1) q2)) q3) pos) σ s xs.reverse := fun s1 k1 Q q =>
  we_of (pe_revL pe_we) (ha s1 k1 _ fun v s2 k2 r2 => by
    obtain ⟨p, vs, rfl, h1, h2⟩ := r2
    exact ⟨p, vs, rfl, h1, fun l hl => q l (s2.newO l _ hl) (k2.trans (Ex.newO hl)) (fr_back k2 hl) (own_new hl h2.rev)⟩)
theorem do_drop {x : α} (h : Ev X e σ s x) (k : ∀ s1, Ex s s1 → WSs X rest D σ s1.H) (hs : swapsWith e none pos.line X.env = pure false := by rfl) : WSs X (.Expr e pos :: rest) D σ s.H :=
  do_cons (ps_expr pe_we hs) (h s (Ex.refl _) _ fun v s1 k1 r => k s1 k1)
theorem do_unp2 (i j : Nat) {x : α × β} (h : Ev X e σ s x) (k : ∀ v w s1, Ex s s1 → rep X.K s1.F v x.1 → rep X.K s1.F w x.2 → WSs X rest D ((σ.set i (some v)).set j (some w)) s1.H)
    (hg : PG X tg (gTup X.K 2 (gCons (gName i) (gCons (gName j) gNil)))) (hs : swapsWithSole [tg] e pos.line X.env = pure false := by rfl) (hw : swappedStores [tg] e X.env = pure none := by rfl)
    (h1 : (assignEach [tg] X.env).map (·.2) = [assign tg X.env] := by rfl) : WSs X (.Assign [tg] e pos :: rest) D σ s.H :=
  do_cons (ps_asg pe_we hg hs hw h1) (h s (Ex.refl _) _ fun v s1 k1 r => by
    obtain ⟨p, v1, v2, rfl, h0, h1, h2⟩ := r
    exact ⟨p, _, rfl, sqt_mono s1.sub h0, rfl, v1, _, rfl, v2, _, rfl, rfl, k v1 v2 s1 k1 h1 h2⟩)
theorem do_unp3 (i j l : Nat) {x : T3 α β γ} (h : Ev X e σ s x) (k : ∀ v w u s1, Ex s s1 → rep X.K s1.F v x.a → rep X.K s1.F w x.b → rep X.K s1.F u x.c → WSs X rest D (((σ.set i (some v)).set j (some w)).set l (some u)) s1.H)
    (hg : PG X tg (gTup X.K 3 (gCons (gName i) (gCons (gName j) (gCons (gName l) gNil))))) (hs : swapsWithSole [tg] e pos.line X.env = pure false := by rfl) (hw : swappedStores [tg] e X.env = pure none := by rfl)
    (h1 : (assignEach [tg] X.env).map (·.2) = [assign tg X.env] := by rfl) : WSs X (.Assign [tg] e pos :: rest) D σ s.H :=
  do_cons (ps_asg pe_we hg hs hw h1) (h s (Ex.refl _) _ fun v s1 k1 r => by
    obtain ⟨p, v1, v2, v3, rfl, h0, h1, h2, h3⟩ := r
    exact ⟨p, _, rfl, sqt_mono s1.sub h0, rfl, v1, _, rfl, v2, _, rfl, v3, _, rfl, rfl, k v1 v2 v3 s1 k1 h1 h2 h3⟩)
theorem do_whileF {υ ρ : Type} {cf : υ → Option Bool} {f : υ → Option (Fl υ ρ)} {n : Nat} {b0 : υ} {o : Fl υ ρ} (hp : PassesOwn (model X.prog X.w) X.A X.env X.xe) (hf : whileF cf f n b0 = some o) (R : υ → St → S → Prop) (h0 : R b0 σ s)
    (hc : ∀ (b : υ) (x : Bool) (σ' : St) (t : S), cf b = some x → Fle s.F t.F → R b σ' t → EvT X c σ' t x)
    (hb : ∀ (b : υ) (q : Fl υ ρ) (σ' : St) (t t' : S), cf b = some true → f b = some q → (∀ r, q = .rt r → o = .rt r) → Fle s.F t.F → R b σ' t → Ex t t' → WSs X body (LD D fun σ s => ∃ b', q = .nx b' ∧ Fle t'.F s.F ∧ R b' σ s) σ' t'.H)
    (hd : ∀ b1 σ' t t', o = .nx b1 → cf b1 = some false → Fle s.F t.F → R b1 σ' t → Ex t t' → WSs X rest D σ' t'.H) : WSs X (.While c body [] pos :: rest) D σ s.H :=
  do_cons (ps_while hp pt_wt pss_ws) (by
    refine ⟨fun m σ' H' => ∃ (t : S) (b : υ), t.H = H' ∧ Fle s.F t.F ∧ whileF cf f m b = some o ∧ R b σ' t, ⟨n, s, b0, rfl, Fle.refl _, hf, h0⟩, ?_⟩
    rintro m σ' H' ⟨t, b, rfl, fl, h1, h2⟩
    cases m with
    | zero => cases h1
    | succ m =>
      obtain ⟨x, h3, h4⟩ := bndE h1
      refine hc b x σ' t h3 fl h2 t (Ex.refl _) _ fun t' kt => ?_
      cases x with
      | true =>
        refine iteT ?_
        rw [if_pos rfl] at h4
        obtain ⟨q, h5, h6⟩ := bndE h4
        refine ⟨fun σ3 H3 => ∃ b', q = .nx b' ∧ ∃ u : S, u.H = H3 ∧ Fle s.F u.F ∧ R b' σ3 u, fun σ3 H3 ⟨b', e0, u, e1, f1, r1⟩ => ⟨m, Nat.lt_succ_self _, u, b', e1, f1, by subst e0; exact h6, r1⟩, ?_⟩
        exact (hb b q σ' t t' h3 h5 (fun r e0 => by subst e0; exact (Option.some.inj h6).symm) fl h2 kt).imp (fun σ3 H3 ⟨u, e1, b', e2, f1, r1⟩ => ⟨b', e2, u, e1, (fl.trans kt.f).trans f1, r1⟩) (fun _ _ q => q) (fun _ _ q => q.elim) (fun _ _ q => q.elim)
      | false =>
        refine iteF ?_
        rw [if_neg Bool.false_ne_true] at h4
        cases h4
        exact hd b σ' t t' rfl h3 fl h2 kt)
end
end Dy

namespace Dy
open PySem PySem.Spec L2
open PyProof.Rows hiding St

def Ok {α : Type} (m : Option α) (P : α → Prop) : Prop := ∃ r, m = some r ∧ P r
section
variable {α β γ ρ : Type}
theorem Ok.imp {m : Option α} {P Q : α → Prop} (h : Ok m P) (k : ∀ r, P r → Q r) : Ok m Q := let ⟨r, e, p⟩ := h; ⟨r, e, k r p⟩
theorem Ok.eq {m : Option α} {x : α} (h : Ok m (· = x)) : m = some x := by obtain ⟨r, e, rfl⟩ := h; exact e
theorem ok_eq {m : Option α} {x : α} {P : α → Prop} (h : m = some x) (p : P x) : Ok m P := ⟨x, h, p⟩
theorem ok_some {x : α} {P : α → Prop} (p : P x) : Ok (some x) P := ⟨x, rfl, p⟩
theorem ok_bnd {m : Option α} {f : α → Option β} {P : α → Prop} {Q : β → Prop} (h : Ok m P) (k : ∀ r, P r → Ok (f r) Q) : Ok (bnd m f) Q := by
  obtain ⟨r, e, p⟩ := h
  subst e
  exact k r p
theorem ok_chk {c : Prop} {m : Option α} {Q : α → Prop} (h : c) (k : Ok m Q) : Ok (chk c m) Q := by rw [chk_pos h]; exact k
theorem ok_lt {x : α} {f : α → Option β} {Q : β → Prop} (k : ∀ y, y = x → Ok (f y) Q) : Ok (lt x f) Q := k x rfl
theorem ok_ite {b : Bool} {m k : Option α} {Q : α → Prop} (h1 : b = true → Ok m Q) (h2 : b = false → Ok k Q) : Ok (if b = true then m else k) Q := by
  cases b with
  | true => exact h1 rfl
  | false => exact h2 rfl
theorem ok_andO {a : Bool} {m : Option Bool} {Q : Bool → Prop} (h1 : a = true → Ok m Q) (h2 : a = false → Q false) : Ok (andO a m) Q := by
  cases a with
  | true => exact h1 rfl
  | false => exact ⟨false, rfl, h2 rfl⟩
theorem ok_orO {a : Bool} {m : Option Bool} {Q : Bool → Prop} (h1 : a = false → Ok m Q) (h2 : a = true → Q true) : Ok (orO a m) Q := by
  cases a with
  | false => exact h1 rfl
  | true => exact ⟨true, rfl, h2 rfl⟩
theorem ok_foldO {f : β → α → Option β} (I : Nat → β → Prop) : ∀ {xs : List α} {b : β} {Q : β → Prop}, I 0 b → (∀ i b x, xs[i]? = some x → I i b → Ok (f b x) (I (i + 1))) → (∀ b, I xs.length b → Q b) → Ok (foldO f b xs) Q := by
  have key : ∀ (xs : List α) (b : β) (k : Nat), I k b → (∀ i b x, xs[i]? = some x → I (k + i) b → Ok (f b x) (I (k + i + 1))) → Ok (foldO f b xs) (I (k + xs.length)) := by
    intro xs
    induction xs with
    | nil => intro b k h _; exact ⟨b, rfl, h⟩
    | cons x r ih =>
      intro b k h hs
      refine ok_bnd (hs 0 b x rfl h) fun b' h' => ?_
      have := ih b' (k + 1) h' (fun i b y hy hI => by
        have := hs (i + 1) b y (by simpa using hy) (by rw [show k + (i + 1) = k + 1 + i by omega]; exact hI)
        rw [show k + (i + 1) + 1 = k + 1 + i + 1 by omega] at this
        exact this)
      rw [List.length_cons, show k + (r.length + 1) = k + 1 + r.length by omega]
      exact this
  intro xs b Q h0 hs hd
  have := key xs b 0 h0 (fun i b x hx hI => by
    have := hs i b x hx (by rw [Nat.zero_add] at hI; exact hI)
    rw [Nat.zero_add]; exact this)
  rw [Nat.zero_add] at this
  exact this.imp hd
theorem ok_foldF {f : β → α → Option (Fl β ρ)} (I : Nat → β → Prop) (Rr : ρ → Prop) : ∀ {xs : List α} {b : β} {Q : Fl β ρ → Prop}, I 0 b → (∀ i b x, xs[i]? = some x → I i b → Ok (f b x) (fun o => match o with | .nx b' => I (i + 1) b' | .rt r => Rr r)) →
    (∀ b, I xs.length b → Q (.nx b)) → (∀ r, Rr r → Q (.rt r)) → Ok (foldF f b xs) Q := by
  have key : ∀ (xs : List α) (b : β) (k : Nat), I k b → (∀ i b x, xs[i]? = some x → I (k + i) b → Ok (f b x) (fun o => match o with | .nx b' => I (k + i + 1) b' | .rt r => Rr r)) → Ok (foldF f b xs) (fun o => match o with | .nx b' => I (k + xs.length) b' | .rt r => Rr r) := by
    intro xs
    induction xs with
    | nil => intro b k h _; exact ⟨.nx b, rfl, h⟩
    | cons x r ih =>
      intro b k h hs
      refine ok_bnd (hs 0 b x rfl h) fun o h' => ?_
      cases o with
      | rt r => exact ⟨.rt r, rfl, h'⟩
      | nx b' =>
        have := ih b' (k + 1) h' (fun i b y hy hI => by
          have := hs (i + 1) b y (by simpa using hy) (by rw [show k + (i + 1) = k + 1 + i by omega]; exact hI)
          rw [show k + (i + 1) + 1 = k + 1 + i + 1 by omega] at this
          exact this)
        rw [List.length_cons, show k + (r.length + 1) = k + 1 + r.length by omega]
        exact this
  intro xs b Q h0 hs hd hr
  have := key xs b 0 h0 (fun i b x hx hI => by
    have := hs i b x hx (by rw [Nat.zero_add] at hI; exact hI)
    rw [Nat.zero_add]; exact this)
  rw [Nat.zero_add] at this
  refine this.imp fun o h => ?_
  cases o with
  | nx b => exact hd b h
  | rt r => exact hr r h
theorem ok_go {o : Fl β ρ} {k : β → Option γ} {e : ρ → Option γ} {Q : γ → Prop} (h1 : ∀ b, o = .nx b → Ok (k b) Q) (h2 : ∀ r, o = .rt r → Ok (e r) Q) : Ok (o.go k e) Q := by
  cases o with
  | nx b => exact h1 b rfl
  | rt r => exact h2 r rfl
theorem ok_compO {t : α → Option Bool} {f : α → Option β} {P : α → β → Prop} {T : α → Bool} : ∀ {xs : List α}, (∀ x ∈ xs, Ok (t x) (· = T x)) → (∀ x ∈ xs, T x = true → Ok (f x) (P x)) → Ok (compO t f xs) (fun ys => ys.length = (xs.filter T).length ∧ ∀ (i : Nat) (y : β), ys[i]? = some y → ∃ x, (xs.filter T)[i]? = some x ∧ P x y)
  | [], _, _ => ⟨[], rfl, rfl, fun i y h => by simp at h⟩
  | x :: r, h1, h2 => by
    unfold compO
    refine ok_bnd (h1 x List.mem_cons_self) fun b hb => ?_
    subst hb
    have ih := ok_compO (xs := r) (fun z hz => h1 z (List.mem_cons_of_mem _ hz)) (fun z hz => h2 z (List.mem_cons_of_mem _ hz))
    refine ok_ite (fun hb => ?_) (fun hb => ?_)
    · refine ok_bnd (h2 x List.mem_cons_self hb) fun y hy => ?_
      refine ok_bnd ih fun ys ⟨e1, e2⟩ => ok_some ?_
      rw [List.filter_cons, if_pos hb]
      refine ⟨by simp [e1], fun i z hz => ?_⟩
      cases i with
      | zero => simp at hz; subst hz; exact ⟨x, rfl, hy⟩
      | succ i => exact e2 i z (by simpa using hz)
    · rw [List.filter_cons, if_neg (by rw [hb]; exact Bool.false_ne_true)]
      exact ih
theorem ok_mapO {f : α → Option β} {P : α → β → Prop} {xs : List α} (h : ∀ x ∈ xs, Ok (f x) (P x)) : Ok (mapO f xs) (fun ys => ys.length = xs.length ∧ ∀ (i : Nat) (y : β), ys[i]? = some y → ∃ x, xs[i]? = some x ∧ P x y) := by
  have := ok_compO (t := fun _ => some true) (T := fun _ => true) (xs := xs) (fun x _ => ok_some rfl) (fun x hx _ => h x hx)
  rw [show xs.filter (fun _ => true) = xs from List.filter_eq_self.mpr (fun _ _ => rfl)] at this
  exact this
theorem mapO_eq {f : α → Option β} {g : α → β} : ∀ {xs : List α}, (∀ x ∈ xs, f x = some (g x)) → mapO f xs = some (xs.map g)
  | [], _ => rfl
  | x :: r, h => by
    have ih := mapO_eq (xs := r) (fun z hz => h z (List.mem_cons_of_mem _ hz))
    unfold mapO at ih ⊢
    unfold compO
    rw [Option.bind_some, if_pos rfl, h x List.mem_cons_self, Option.bind_some, ih]
    rfl
theorem compO_eq {t : α → Option Bool} {T : α → Bool} {f : α → Option β} {g : α → β} : ∀ {xs : List α}, (∀ x ∈ xs, t x = some (T x)) → (∀ x ∈ xs, T x = true → f x = some (g x)) → compO t f xs = some ((xs.filter T).map g)
  | [], _, _ => rfl
  | x :: r, h1, h2 => by
    have ih := compO_eq (xs := r) (fun z hz => h1 z (List.mem_cons_of_mem _ hz)) (fun z hz => h2 z (List.mem_cons_of_mem _ hz))
    unfold compO
    rw [h1 x List.mem_cons_self, Option.bind_some, List.filter_cons]
    cases hT : T x with
    | true => rw [if_pos rfl, if_pos rfl, h2 x List.mem_cons_self hT, Option.bind_some, ih]; rfl
    | false => rw [if_neg Bool.false_ne_true, if_neg Bool.false_ne_true, ih]
theorem foldO_eq {f : β → α → Option β} {g : β → α → β} : ∀ {xs : List α} {b : β}, (∀ b, ∀ x ∈ xs, f b x = some (g b x)) → foldO f b xs = some (xs.foldl g b)
  | [], _, _ => rfl
  | x :: r, b, h => by
    unfold foldO
    rw [h b x List.mem_cons_self, Option.bind_some, foldO_eq (xs := r) (fun b z hz => h b z (List.mem_cons_of_mem _ hz))]
    rfl
theorem ok_whileO {c : β → Option Bool} {f : β → Option β} (I : β → Prop) (μ : β → Nat) {Q : β → Prop} (hc : ∀ b, I b → Ok (c b) (fun t => if t = true then Ok (f b) (fun b' => I b' ∧ μ b' < μ b) else Q b)) : ∀ (n : Nat) (b : β), I b → μ b < n → Ok (whileO c f n b) Q
  | 0, b, _, h => absurd h (Nat.not_lt_zero _)
  | n + 1, b, hI, h => by
    unfold whileO
    refine ok_bnd (hc b hI) fun t ht => ?_
    cases t with
    | true =>
      rw [if_pos rfl] at ht ⊢
      exact ok_bnd ht fun b' ⟨h1, h2⟩ => ok_whileO I μ hc n b' h1 (by omega)
    | false =>
      rw [if_neg Bool.false_ne_true] at ht ⊢
      exact ok_some ht
theorem ok_whileF {c : β → Option Bool} {f : β → Option (Fl β ρ)} (I : β → Prop) (μ : β → Nat) {Q : Fl β ρ → Prop} (hc : ∀ b, I b → Ok (c b) (fun t => if t = true then Ok (f b) (fun o => match o with | .nx b' => I b' ∧ μ b' < μ b | .rt r => Q (.rt r)) else Q (.nx b))) : ∀ (n : Nat) (b : β), I b → μ b < n → Ok (whileF c f n b) Q
  | 0, b, _, h => absurd h (Nat.not_lt_zero _)
  | n + 1, b, hI, h => by
    unfold whileF
    refine ok_bnd (hc b hI) fun t ht => ?_
    cases t with
    | true =>
      rw [if_pos rfl] at ht ⊢
      refine ok_bnd ht fun o ho => ?_
      cases o with
      | nx b' => exact ok_whileF I μ hc n b' ho.1 (by have := ho.2; omega)
      | rt r => exact ok_some ho
    | false =>
      rw [if_neg Bool.false_ne_true] at ht ⊢
      exact ok_some ht
theorem fuel_eq : fuel = 1000000 := by unfold fuel; rfl
theorem mul_l {x y : Int} (h1 : -1000000000000000000 < x) (h2 : x < 1000000000000000000) : MulOk x y := .inl (.inl ⟨by omega, by omega⟩)
theorem mul_r {x y : Int} (h1 : -1000000000000000000 < y) (h2 : y < 1000000000000000000) : MulOk x y := .inl (.inr ⟨by omega, by omega⟩)
set_option exponentiation.threshold 10000 in
theorem div_small {y : Int} (h1 : 0 < y) (h2 : y < 1000000000000000000) : DivOk y := ⟨h1, PySem.Flt.log2_lt_of (by decide) (show y.natAbs < 2 ^ 9000 from Nat.lt_of_lt_of_le (show y.natAbs < 2 ^ 64 by omega) (Nat.pow_le_pow_right (by decide) (by decide)))⟩
theorem szl : sizeLine = 16777216 := rfl
theorem atI_get {xs : List α} {i : Int} (h0 : 0 ≤ i) (h1 : i < xs.length) : atI xs i = xs[i.toNat]? := by
  unfold atI ixN
  rw [if_pos h0, if_pos h1]; rfl
theorem ok_atI {xs : List α} {i : Int} {Q : α → Prop} (h0 : 0 ≤ i) (h1 : i < xs.length) (h : ∀ x, xs[i.toNat]? = some x → Q x) : Ok (atI xs i) Q := by
  rw [atI_get h0 h1]
  have hl : i.toNat < xs.length := by omega
  exact ⟨xs[i.toNat], List.getElem?_eq_getElem hl, h _ (List.getElem?_eq_getElem hl)⟩
theorem cut_len_le (xs : List α) (lo hi : Option Int) : (cut xs lo hi).length ≤ xs.length := by
  unfold cut
  rw [List.length_take, List.length_drop]
  omega
theorem cut_hi (xs : List α) (n : Nat) : cut xs none (some (n : Int)) = xs.take n := by
  unfold cut
  rw [HT.sIx_none, show HT.sIx xs.length xs.length (some (n : Int)) = min n xs.length from HT.sIx_nat xs.length xs.length n]
  simp only [List.drop_zero, Nat.sub_zero]
  by_cases h : n ≤ xs.length
  · rw [Nat.min_eq_left h]
  · rw [Nat.min_eq_right (by omega), List.take_of_length_le (Nat.le_refl _), List.take_of_length_le (by omega)]
theorem rng_len_nn {n : Int} (h : 0 ≤ n) : (rng 0 n).length = n.toNat := by rw [rng_len]; congr 1; omega
theorem rng_at {a b : Int} {i : Nat} {x : Int} (h : (rng a b)[i]? = some x) : x = a + (i : Int) ∧ a + (i : Int) < b := by
  obtain ⟨h1, h2⟩ := rng_get h
  omega
end
theorem chars_len (x : Str) : (chars x).length = x.length := by
  unfold chars
  rw [List.length_map, Array.length_toList]; rfl
theorem join_len0 (ys : List Str) : (Txt.join ("" : Str) ys).length = (ys.map (·.length)).sum := by
  have h : ∀ z : Str, z.length = (TL.tl z).length := fun z => by show z.cps.size = z.cps.toList.length; rw [Array.length_toList]
  have key : ∀ ps : List (List Nat), (TL.joinL [] ps).length = (ps.map List.length).sum := by
    intro ps
    induction ps with
    | nil => rfl
    | cons p r ih =>
      cases r with
      | nil => simp [TL.joinL]
      | cons q r =>
        have e : TL.joinL [] (p :: q :: r) = p ++ ([] ++ TL.joinL [] (q :: r)) := by simp [TL.joinL]
        rw [e, List.nil_append, List.length_append, ih]; rfl
  rw [h, TL.join_eq, TL.tl_join, show TL.tl ("" : Str) = [] from rfl, key, List.map_map]
  exact congrArg List.sum (List.map_congr_left fun z _ => (h z).symm)
theorem sum_ones {ys : List Str} (h : ∀ y ∈ ys, y.length = 1) : (ys.map (·.length)).sum = ys.length := by
  induction ys with
  | nil => rfl
  | cons y r ih =>
    rw [List.map_cons, List.sum_cons, ih fun z hz => h z (List.mem_cons_of_mem _ hz), h y List.mem_cons_self, List.length_cons]
    omega
theorem foldF_any {α ρ : Type} {p : α → Bool} {f : Unit → α → Option (Fl Unit ρ)} {r : ρ} (h : ∀ x, f () x = if p x = true then some (.rt r) else some (.nx ())) : ∀ xs : List α, foldF f () xs = some (if xs.any p = true then .rt r else .nx ())
  | [] => rfl
  | x :: xs => by
    unfold foldF
    rw [h x, List.any_cons]
    cases hp : p x with
    | true => rfl
    | false =>
      rw [if_neg Bool.false_ne_true]
      show foldF f () xs = _
      rw [foldF_any h xs, Bool.false_or]
end Dy

namespace Dy
open PySem PySem.Spec L2
open PyProof.Rows hiding St
open Enc (rep)
open Flat (toV)
open EncA (repA)

section
variable {α β γ δ : Type} [Enc α] [Enc β] [Enc γ] [Enc δ] {X : Cx} {σ : St} {s t : S} {e a b c tg iter : Expr} {es : List Expr} {pos p0 p1 p2 p3 : Pos} {D : Ends} {rest A B body : List Stmt}
def RepS (x : Str) (n : Int) : Prop := PySem.MulOk x n
def replS (x : Str) (n : Int) : Str := Txt.mul x n
theorem op_repStr : OpR X (binaryOp .Mult) (fun x y H Q => ∃ z n, x = .str z ∧ y = .int n ∧ RepS z n ∧ Q (.str (replS z n)) H) := by
  intro pins s σ H x y v u Q I rx ry h
  obtain ⟨z, n, rfl, rfl, hok, q⟩ := h
  obtain ⟨t, rfl⟩ := rx
  obtain ⟨t', rfl⟩ := ry
  exact PySem.SB.mul hok fun t' k => ⟨.str _, H, I.tok _, ⟨_, rfl⟩, q⟩
theorem ev_repS {x : Str} {n : Int} (ha : Ev X a σ s x) (hb : Ev X b σ s n) (h : RepS x n) : Ev X (.BinOp a .Mult b pos) σ s (replS x n) :=
  ev_op op_repStr ha hb fun v u s2 hv hu Q q => ⟨x, n, hv, hu, h, q _ s2 (Ex.refl _) rfl⟩
theorem repS_small {x : Str} {n : Int} (h0 : x.length ≤ 1000) (h1 : n ≤ 1000) (h2 : -1000 ≤ n) : RepS x n := by
  refine ⟨by rw [Bool.or_eq_false_iff]; exact ⟨decide_eq_false (by omega), decide_eq_false (by omega)⟩, fun h3 _ => ?_, fun h3 _ => ?_⟩
  · intro h
    have : (2 ^ 63 - 1) / n ≥ 1000 := by
      refine (Int.le_ediv_iff_mul_le (by omega)).mpr ?_
      omega
    omega
  · unfold Builtin.Str.tooLong
    have : x.length * n.toNat ≤ 1000 * 1000 := Nat.mul_le_mul h0 (by omega)
    refine decide_eq_false ?_
    have := szl
    omega
def stepN (a b c : Int) : Nat := if a < b then ((b - a - 1) / c + 1).toNat else 0
def rngS (a b c : Int) : List Int := (List.range (stepN a b c)).map fun i : Nat => a + (i : Int) * c
def RgS (a b c : Int) : Prop := (-(2 ^ 61) ≤ a ∧ a < 2 ^ 61) ∧ (-(2 ^ 61) ≤ b ∧ b < 2 ^ 61) ∧ 0 < c ∧ c < 1000000
theorem rgC_of {a b c : Int} (h : RgS a b c) : RgC a b c (stepN a b c) := by
  obtain ⟨⟨h1, h2⟩, ⟨h3, h4⟩, h5, h6⟩ := h
  have hs : Builtin.Range.rangeSize a b c = (stepN a b c : Nat) := by
    unfold Builtin.Range.rangeSize stepN
    rw [if_pos h5]
    split
    · have : 0 ≤ (b - a - 1) / c := Int.ediv_nonneg (by omega) (by omega)
      omega
    · rfl
  refine ⟨by omega, by omega, ?_, hs⟩
  have e1 : a < b → c * ((b - a - 1) / c) ≤ b - a - 1 := fun _ => Int.mul_ediv_self_le (by omega)
  have e2 : a < b → 0 ≤ (b - a - 1) / c := fun _ => Int.ediv_nonneg (by omega) (by omega)
  have e3 : a < b → (b - a - 1) / c ≤ b - a - 1 := fun _ => by
    refine Int.ediv_le_self _ (by omega)
  unfold Builtin.Range.small
  unfold Builtin.Range.rangeSize
  simp only [Builtin.Range.rangeFitsLong, Bool.and_eq_true, Bool.or_eq_true, decide_eq_true_eq, beq_iff_eq, if_pos h5]
  split
  · rename_i hlt
    have e1 := e1 hlt
    have e2 := e2 hlt
    have e3 := e3 hlt
    generalize hq : (b - a - 1) / c = q at *
    have e4 : c * q = q * c := Int.mul_comm _ _
    have e5 : (q + 1) * c = q * c + c := by rw [Int.add_mul]; omega
    have e6 : 0 ≤ c * q := Int.mul_nonneg (by omega) e2
    refine ⟨?_, ?_⟩ <;> omega
  · omega
theorem rngS_get {a b c : Int} {i : Nat} {x : Int} (h : (rngS a b c)[i]? = some x) : i < stepN a b c ∧ x = a + (i : Int) * c := by
  unfold rngS at h
  rw [List.getElem?_map] at h
  obtain ⟨j, h1, rfl⟩ := Option.map_eq_some_iff.mp h
  obtain ⟨h2, h3⟩ := List.getElem?_eq_some_iff.mp h1
  rw [List.length_range] at h2
  rw [List.getElem_range] at h3
  subst h3
  exact ⟨h2, rfl⟩
theorem rngS_len (a b c : Int) : (rngS a b c).length = stepN a b c := by unfold rngS; rw [List.length_map, List.length_range]
theorem ei_range3 {x y z : Int} (hm : X.mg "range" = none) (ha : Ev X a σ s x) (hb : Ev X b σ s y) (hc : Ev X c σ s z) (h : RgS x y z) (hg : Gl X "range" := by rfl)
    (hs : starEach [a, b, c] X.env = (false, eval a X.env) :: starEach [b, c] X.env := by rfl) (hs2 : starEach [b, c] X.env = (false, eval b X.env) :: starEach [c] X.env := by rfl) (hs3 : starEach [c] X.env = (false, eval c X.env) :: starEach [] X.env := by rfl) (hpl : (backTo pos (starEach [b, c] X.env)).any (·.1) = false := by rfl) :
    EvI X tg (.Call (.Name "range" p0) [a, b, c] [] pos) σ s (rngS x y z) := fun s1 k R q =>
  wi_of (pi_range3 hg hm (pa_cons pe_we (pa_cons pe_we (pa_cons pe_we pa_nil hs3) hs2) hs) hs hpl) (ha s1 k _ fun v s2 k2 r2 => hb s2 (k.trans k2) _ fun u s3 k3 r3 => hc s3 ((k.trans k2).trans k3) _ fun w s4 k4 r4 =>
    ⟨x, y, z, stepN x y z, by rw [show v = V.int x from r2, show u = V.int y from r3, show w = V.int z from r4], rgC_of h, q _ s4 ((k2.trans k3).trans k4) ⟨fun i t w f hw => ⟨(rngS_get hw).1, fun v' H' ⟨e1, e2⟩ => ⟨t, e1.symm, Ex.refl _, by rw [e2, (rngS_get hw).2]; rfl⟩⟩, fun i t f hi => by rw [rngS_len] at hi; exact hi⟩⟩)
theorem ev_isiR {xs : List α} {n : Str} {T : String} {r : Bool} (hm : X.mg "isinstance" = none) (hn : X.mg n = none) (hv : bootBuiltins n = some (.type T)) (ha : EvR X a σ s xs) (h : kitB "list" T = some r)
    (hg : Gl X "isinstance" := by rfl) (hgn : Gl X n := by rfl) (he : starEach [a, .Name n p1] X.env = (false, eval a X.env) :: starEach [.Name n p1] X.env := by rfl) (he2 : starEach [.Name n p1] X.env = (false, eval (.Name n p1) X.env) :: starEach [] X.env := by rfl) (hpl : (backTo pos (starEach [.Name n p1] X.env)).any (·.1) = false := by rfl)
    (hnn : n ≠ "__name__" := by decide) (hnd : (n == ("__debug__" : Str)) = false := by decide) :
    Ev X (.Call (.Name "isinstance" p0) [a, .Name n p1] [] pos) σ s r := fun s1 k Q q =>
  we_of (pe_callB call_isi hg hm (by decide +kernel) (pa_cons pe_we (pa_cons (pe_bltn (v := .ty T) hgn hn hv rfl hnn hnd) pa_nil he2) he) (he := he) (hpl := hpl)) (ha s1 k _ fun v s2 k2 r2 => by
    obtain ⟨p, vs, rfl, h1, _⟩ := r2
    exact ⟨.ref p, .ty T, .type "list", .type T, r, rfl, .ty T, sql_ty h1, kit_ty h, q _ s2 k2 rfl⟩)
theorem eb_isB {x y : Bool} (ha : Ev X a σ s x) (hb : Ev X b σ s y) : EvB X (.Compare a [.Is] [b] pos) σ s (decide (x = y)) :=
  eb_cmp op_isBl ha hb (fun v u s2 hv hu Q q => ⟨x, y, hv, hu, q⟩) (nomark _)
theorem eb_isnotB {x y : Bool} (ha : Ev X a σ s x) (hb : Ev X b σ s y) : EvB X (.Compare a [.IsNot] [b] pos) σ s (!decide (x = y)) :=
  eb_cmp op_notBl ha hb (fun v u s2 hv hu Q q => ⟨x, y, hv, hu, q⟩) (nomark _)
theorem ev_sliceT {x : Tu α} {lo hi : Option Expr} {l h : Option Int} (ha : Ev X a σ s x) (hl : EvO X lo σ s l) (hh : EvO X hi σ s h) : Ev X (.Subscript a (.Slice lo hi none p2) pos) σ s (Tu.mk (cut x.l l h)) := fun s1 k Q q => by
  obtain ⟨tl, pl, ql⟩ := po_evo hl
  obtain ⟨th, ph, qh⟩ := po_evo hh
  refine we_of (pe_slice sl_tupA pe_we pl ph) (ha s1 k _ fun v s2 k2 r2 => ql s2 (k.trans k2) _ fun s3 k3 => qh s3 ((k.trans k2).trans k3) _ fun s4 k4 => ?_)
  obtain ⟨p, vs, rfl, h1, h2⟩ := Enc.mono (α := Tu α) (k3.trans k4).f r2
  have kk := (k2.trans k3).trans k4
  refine ⟨p, vs, rfl, sqt_mono s4.sub h1, fun hw => ?_, fun _ l hl => q _ (s4.newF l _ hl) (kk.trans (Ex.newF hl)) ⟨l, _, rfl, tup_new hl, (h2.cut _ _).mono (Ex.newF hl).f⟩⟩
  refine q _ s4 kk ⟨p, vs, rfl, h1, ?_⟩
  have e : cut x.l l h = x.l := by
    unfold cut
    rw [← h2.len, hw.1, hw.2, List.drop_zero, Nat.sub_zero, h2.len, List.take_length]
  show Reps _ _ vs (cut x.l l h)
  rw [e]; exact h2
def popN (n : Nat) (i : Int) : Option Nat := if -(2 ^ 63) ≤ i ∧ i < 2 ^ 63 then seqIndex? i n else none
theorem seqIx_lt {n : Nat} {i : Int} {k : Nat} (h : seqIndex? i n = some k) : k < n := by
  unfold seqIndex? at h
  dsimp only at h
  split at h <;> split at h
  all_goals first | (rename_i h2; simp only [Bool.and_eq_true, decide_eq_true_eq] at h2; cases h; omega) | cases h
theorem do_popAt (i : Nat) {p : Addr} {n : Str} {xs : List α} {z : Int} {j : Nat} (hσ : σ[i]? = some (some (.ref p))) (o : Own X.K s p xs) (he : Ev X e σ s z) (hj : popN xs.length z = some j)
    (k : ∀ s1, Mx (· = p) s s1 → Own X.K s1 p (xs.eraseIdx j) → WSs X rest D σ s1.H)
    (hN : X.N[i]? = some n := by rfl) (hv : Vis X.env.scope n := by first | exact Or.inl rfl | exact Or.inr (Or.inl rfl) | exact Or.inr (Or.inr rfl)) (hd : (n == ("__debug__" : Str)) = false := by decide) (hcd : (n == ("__classdict__" : Str)) = false := by decide)
    (hbase : attributeBase (.Name n p0) "pop" X.env (eval (.Name n p0) X.env) = eval (.Name n p0) X.env := by rfl)
    (hfew : ((backTo p2 (starEach [e] X.env)).all (fun x => !x.1) && (backToKw p2 (keywordEach [] X.env)).all (fun x => x.1.isSome) && decide (([e] : List Expr).length + ([] : List Keyword).length + (if ([] : List Keyword).isEmpty then 0 else 1) < 30)) = true := by rfl)
    (hline : (p1.endLine == p2.line) = true := by rfl) (hs : starEach [e] X.env = (false, eval e X.env) :: starEach [] X.env := by rfl) (hplain : (backTo p2 (starEach [] X.env)).any (·.1) = false := by rfl)
    (hsw : swapsWith (.Call (.Attribute (.Name n p0) "pop" p1) [e] [] p2) none p3.line X.env = pure false := by rfl) :
    WSs X (.Expr (.Call (.Attribute (.Name n p0) "pop" p1) [e] [] p2) p3 :: rest) D σ s.H :=
  do_cons (ps_expr (pe_bm PySem.F.plainAttrs_list PySem.F.slot_list_pop PySem.F.type_list_pop mt_popAt (pe_var hN hv hd hcd) (pa_cons pe_we pa_nil hs) hbase hfew hline hs hplain) hsw) (by
    obtain ⟨h1, vs, h2, h3⟩ := id o
    refine ⟨_, hσ, .inl ⟨rfl, vs, .inl (.inl h2)⟩, he s (Ex.refl _) _ fun v s1 k1 r1 => ?_⟩
    have f1 := k1.n _ _ h2 h1
    have g1 := k1.h _ _ h2
    unfold popN at hj
    split at hj
    · rename_i hb
      have hlt : j < vs.length := by rw [h3.len]; exact seqIx_lt hj
      refine ⟨p, vs, z, j, vs[j], rfl, by rw [show v = V.int z from r1], g1, hb.1, hb.2, by rw [h3.len]; exact hj, List.getElem?_eq_getElem hlt, ?_⟩
      exact k (s1.put p (.lst (vs.eraseIdx j)) f1) (k1.mx.trans (Mx.put f1)) ⟨f1, _, upd_same, (h3.mono k1.f).erase j⟩
    · cases hj)
def InsOk (i : Int) (n : Nat) : Prop := 0 ≤ i ∧ i < 2 ^ 63 ∧ n < sizeLine
def insI {τ : Type} (xs : List τ) (i : Int) (x : τ) : List τ := xs.take i.toNat ++ [x] ++ xs.drop i.toNat
theorem do_insert (i : Nat) {p : Addr} {n : Str} {xs : List α} {z : Int} {x : α} (hσ : σ[i]? = some (some (.ref p))) (o : Own X.K s p xs) (ha : Ev X a σ s z) (hb : Ev X b σ s x) (hj : InsOk z xs.length)
    (k : ∀ s1, Mx (· = p) s s1 → Own X.K s1 p (insI xs z x) → WSs X rest D σ s1.H)
    (hN : X.N[i]? = some n := by rfl) (hv : Vis X.env.scope n := by first | exact Or.inl rfl | exact Or.inr (Or.inl rfl) | exact Or.inr (Or.inr rfl)) (hd : (n == ("__debug__" : Str)) = false := by decide) (hcd : (n == ("__classdict__" : Str)) = false := by decide)
    (hbase : attributeBase (.Name n p0) "insert" X.env (eval (.Name n p0) X.env) = eval (.Name n p0) X.env := by rfl)
    (hfew : ((backTo p2 (starEach [a, b] X.env)).all (fun x => !x.1) && (backToKw p2 (keywordEach [] X.env)).all (fun x => x.1.isSome) && decide (([a, b] : List Expr).length + ([] : List Keyword).length + (if ([] : List Keyword).isEmpty then 0 else 1) < 30)) = true := by rfl)
    (hline : (p1.endLine == p2.line) = true := by rfl) (hs : starEach [a, b] X.env = (false, eval a X.env) :: starEach [b] X.env := by rfl) (hs2 : starEach [b] X.env = (false, eval b X.env) :: starEach [] X.env := by rfl) (hplain : (backTo p2 (starEach [b] X.env)).any (·.1) = false := by rfl)
    (hsw : swapsWith (.Call (.Attribute (.Name n p0) "insert" p1) [a, b] [] p2) none p3.line X.env = pure false := by rfl) :
    WSs X (.Expr (.Call (.Attribute (.Name n p0) "insert" p1) [a, b] [] p2) p3 :: rest) D σ s.H :=
  do_cons (ps_expr (pe_bm PySem.F.plainAttrs_list PySem.F.slot_list_insert PySem.F.type_list_insert mt_insert (pe_var hN hv hd hcd) (pa_cons pe_we (pa_cons pe_we pa_nil hs2) hs) hbase hfew hline hs hplain) hsw) (by
    obtain ⟨h1, vs, h2, h3⟩ := id o
    refine ⟨_, hσ, .inl ⟨rfl, vs, .inl (.inl h2)⟩, ha s (Ex.refl _) _ fun u s1 k1 r1 => hb s1 k1 _ fun v s2 k2 r2 => ?_⟩
    have kk := k1.trans k2
    have f1 := kk.n _ _ h2 h1
    have g1 := kk.h _ _ h2
    refine ⟨p, vs, z, v, rfl, by rw [show u = V.int z from r1], g1, by rw [h3.len]; exact hj.2.2, hj.1, hj.2.1, ?_⟩
    exact k (s2.put p (.lst (vs.take z.toNat ++ [v] ++ vs.drop z.toNat)) f1) (kk.mx.trans (Mx.put f1)) ⟨f1, _, upd_same, (((h3.mono kk.f).take _).snoc r2).app ((h3.mono kk.f).drop _)⟩)
theorem do_reverse (i : Nat) {p : Addr} {n : Str} {xs : List α} (hσ : σ[i]? = some (some (.ref p))) (o : Own X.K s p xs)
    (k : ∀ s1, Mx (· = p) s s1 → Own X.K s1 p xs.reverse → WSs X rest D σ s1.H)
    (hN : X.N[i]? = some n := by rfl) (hv : Vis X.env.scope n := by first | exact Or.inl rfl | exact Or.inr (Or.inl rfl) | exact Or.inr (Or.inr rfl)) (hd : (n == ("__debug__" : Str)) = false := by decide) (hcd : (n == ("__classdict__" : Str)) = false := by decide)
    (hbase : attributeBase (.Name n p0) "reverse" X.env (eval (.Name n p0) X.env) = eval (.Name n p0) X.env := by rfl) (hline : (p1.endLine == p2.line) = true := by rfl)
    (hsw : swapsWith (.Call (.Attribute (.Name n p0) "reverse" p1) [] [] p2) none p3.line X.env = pure false := by rfl) :
    WSs X (.Expr (.Call (.Attribute (.Name n p0) "reverse" p1) [] [] p2) p3 :: rest) D σ s.H :=
  do_cons (ps_expr (pe_bm0 PySem.F.plainAttrs_list PySem.F.slot_list_reverse PySem.F.type_list_reverse mt_reverse (pe_var hN hv hd hcd) hbase hline) hsw) (by
    obtain ⟨h1, vs, h2, h3⟩ := id o
    refine ⟨_, hσ, .inl ⟨rfl, vs, .inl (.inl h2)⟩, p, vs, rfl, rfl, h2, ?_⟩
    exact k (s.put p (.lst vs.reverse) h1) (Mx.put h1) ⟨h1, _, upd_same, h3.rev⟩)
theorem do_clear (i : Nat) {p : Addr} {n : Str} {xs : List α} (hσ : σ[i]? = some (some (.ref p))) (o : Own X.K s p xs)
    (k : ∀ s1, Mx (· = p) s s1 → Own X.K s1 p ([] : List α) → WSs X rest D σ s1.H)
    (hN : X.N[i]? = some n := by rfl) (hv : Vis X.env.scope n := by first | exact Or.inl rfl | exact Or.inr (Or.inl rfl) | exact Or.inr (Or.inr rfl)) (hd : (n == ("__debug__" : Str)) = false := by decide) (hcd : (n == ("__classdict__" : Str)) = false := by decide)
    (hbase : attributeBase (.Name n p0) "clear" X.env (eval (.Name n p0) X.env) = eval (.Name n p0) X.env := by rfl) (hline : (p1.endLine == p2.line) = true := by rfl)
    (hsw : swapsWith (.Call (.Attribute (.Name n p0) "clear" p1) [] [] p2) none p3.line X.env = pure false := by rfl) :
    WSs X (.Expr (.Call (.Attribute (.Name n p0) "clear" p1) [] [] p2) p3 :: rest) D σ s.H :=
  do_cons (ps_expr (pe_bm0 PySem.F.plainAttrs_list PySem.F.slot_list_clear PySem.F.type_list_clear mt_clear (pe_var hN hv hd hcd) hbase hline) hsw) (by
    obtain ⟨h1, vs, h2, h3⟩ := id o
    refine ⟨_, hσ, .inl ⟨rfl, vs, .inl (.inl h2)⟩, p, vs, rfl, rfl, h2, ?_⟩
    exact k (s.put p (.lst []) h1) (Mx.put h1) ⟨h1, _, upd_same, trivial⟩)
theorem ev_catT {x y : Tu α} (ha : Ev X a σ s x) (hb : Ev X b σ s y) (hz : x.l.length + y.l.length ≤ sizeLine) : Ev X (.BinOp a .Add b pos) σ s (Tu.mk (x.l ++ y.l)) := fun s1 k Q q =>
  we_of (pe_op op_catA pe_we pe_we) (ha s1 k _ fun v s2 k2 r2 => hb s2 (k.trans k2) _ fun u s3 k3 r3 => by
    obtain ⟨p, vs, rfl, h1, h2⟩ := Enc.mono (α := Tu α) k3.f r2
    obtain ⟨p', ws, rfl, h3, h4⟩ := r3
    have kk := k2.trans k3
    refine ⟨p, p', vs, ws, rfl, rfl, sqt_mono s3.sub h1, sqt_mono s3.sub h3, by rw [h2.len, h4.len]; exact hz, fun e => ?_, fun _ e => ?_, fun _ _ l hl => q _ (s3.newF l _ hl) (kk.trans (Ex.newF hl)) ⟨l, _, rfl, tup_new hl, (h2.app h4).mono (Ex.newF hl).f⟩⟩
    · refine q _ s3 kk ⟨p', ws, rfl, h3, ?_⟩
      subst e
      have e2 : x.l = [] := List.length_eq_zero_iff.mp h2.len.symm
      show Reps _ _ ws (x.l ++ y.l)
      rw [e2]; exact h4
    · refine q _ s3 kk ⟨p, vs, rfl, h1, ?_⟩
      subst e
      have e2 : y.l = [] := List.length_eq_zero_iff.mp h4.len.symm
      show Reps _ _ vs (x.l ++ y.l)
      rw [e2, List.append_nil]; exact h2)
end
theorem foldO_app {α β : Type} {N : Nat} {f : List β → α → Option (List β)} {g : α → β} : ∀ {xs : List α} {b : List β}, (∀ b x, b.length < N → x ∈ xs → f b x = some (b ++ [g x])) → b.length + xs.length ≤ N → foldO f b xs = some (b ++ xs.map g)
  | [], b, _, _ => by simp [foldO]
  | x :: r, b, h, hl => by
    rw [List.length_cons] at hl
    unfold foldO
    rw [h b x (by omega) List.mem_cons_self, Option.bind_some, foldO_app (xs := r) (b := b ++ [g x]) (fun b y hb hy => h b y hb (List.mem_cons_of_mem _ hy)) (by rw [List.length_append, List.length_singleton]; omega)]
    simp
theorem atI_map {α β : Type} {f : α → β} {xs : List α} {i : Int} {x : α} (h : atI xs i = some x) : atI (xs.map f) i = some (f x) := by
  unfold atI at h ⊢
  rw [List.length_map]
  cases hj : ixN xs.length i with
  | none => rw [hj] at h; cases h
  | some j =>
    rw [hj] at h
    show (xs.map f)[j]? = _
    rw [List.getElem?_map]
    have : xs[j]? = some x := h
    rw [this]; rfl
theorem foldF_none {α ρ : Type} {f : Unit → α → Option (Fl Unit ρ)} : ∀ {xs : List α}, (∀ x ∈ xs, f () x = some (.nx ())) → foldF f () xs = some (.nx ())
  | [], _ => rfl
  | x :: r, h => by
    unfold foldF
    rw [h x List.mem_cons_self]
    exact foldF_none fun y hy => h y (List.mem_cons_of_mem _ hy)
theorem foldF_ok {α ρ : Type} {f : Unit → α → Option (Fl Unit ρ)} {xs : List α} {Q : Fl Unit ρ → Prop} (h : ∀ x ∈ xs, Ok (f () x) (· = .nx ())) (q : Q (.nx ())) : Ok (foldF f () xs) Q :=
  ⟨_, foldF_none fun x hx => (h x hx).eq, q⟩
def Drawn (sizes ds : List Int) : Prop := ds.length = sizes.length ∧ ∀ (j : Nat) (d n : Int), ds[j]? = some d → sizes[j]? = some n → 0 ≤ d ∧ d < n
theorem ok_draw {sizes ds : List Int} (h : Drawn sizes ds) (k : Nat) {n : Int} (hk : sizes[k]? = some n) {Q : Int → Prop} (q : ∀ d, 0 ≤ d → d < n → Q d) : Ok (atI ds (k : Int)) Q := by
  obtain ⟨h1, h2⟩ := h
  have hlt : k < ds.length := by rw [h1]; exact (List.getElem?_eq_some_iff.mp hk).1
  refine ok_atI (by omega) (by omega) fun d hd => ?_
  rw [show (k : Int).toNat = k by omega] at hd
  obtain ⟨a, b⟩ := h2 k d n hd hk
  exact q d a b
theorem ok_sgn {x : Str} {i : Int} {Q : Str → Prop} (hz : x.length ≤ sizeLine) (h0 : 0 ≤ i) (h1 : i < x.length) (h : ∀ c, x.cps.toList[i.toNat]? = some c → Q ⟨#[c]⟩) : Ok (sgn x i) Q := by
  unfold sgn
  rw [if_pos hz]
  have hl : i.toNat < x.cps.toList.length := by
    rw [Array.length_toList]
    show i.toNat < x.length
    omega
  rw [atI_get h0 (by rw [Array.length_toList]; show i < (x.length : Int); exact h1), List.getElem?_eq_getElem hl]
  exact ok_some (h _ (List.getElem?_eq_getElem hl))
theorem bnd_some {α : Type} (m : Option α) : (bnd m fun x => some x) = m := by cases m <;> rfl
theorem ok_ret {α : Type} {m : Option α} {P : α → Prop} (h : Ok m P) : Ok (bnd m fun x => some x) P := by rw [bnd_some]; exact h
def txt (x : Str) : Prop := PyData.strOk x = true
theorem shp_strs {xs : List Str} (h : ∀ x ∈ xs, txt x) : shp xs := by
  unfold shp SeqAt.shaped
  have h1 : PyData.canLay0 (EqD.toD xs) = true := by
    show PyData.canLay0 (.list (xs.map PyData.str)) = true
    unfold PyData.canLay0
    induction xs with
    | nil => simp [PyData.canLayAll0]
    | cons x r ih =>
      rw [List.map_cons]
      unfold PyData.canLayAll0
      rw [ih fun y hy => h y (List.mem_cons_of_mem _ hy)]
      show (PyData.canLay0 (.str x) && true) = true
      unfold PyData.canLay0
      rw [show PyData.strOk x = true from h x List.mem_cons_self]; rfl
  have h2 : PyData.depth (EqD.toD xs) ≤ 64 := by
    show PyData.depth (.list (xs.map PyData.str)) ≤ 64
    unfold PyData.depth
    have : PyData.depthAll (xs.map PyData.str) = 0 := by
      clear h h1
      induction xs with
      | nil => simp [PyData.depthAll]
      | cons x r ih => rw [List.map_cons]; unfold PyData.depthAll; rw [ih]; simp [PyData.depth]
    omega
  rw [h1, decide_eq_true h2]; rfl
end Dy

namespace Dy
open PySem PySem.Spec L2
open PyProof.Rows hiding St
open Enc (rep)
open Flat (toV)
open EncA (repA)

def S.back (s t : S) (h : Fle s.F t.F) : S := ⟨s.F, t.H, fun a o q => t.sub a o (h a o q)⟩
theorem backE {s0 s t : S} (h : Fle s.F t.F) (E : Ex s0 s) (E' : Ex s0 t) : Ex s0 (s.back t h) := ⟨E.f, E'.h, E.n⟩
theorem backOwn {α : Type} [Enc α] {K : PySem.W.Frag} {s s1 t : S} {p : Addr} {xs : List α} (h : Fle s.F t.F) (o : Own K s p xs) (h1 : s1.F p = s.H p) (h2 : Fle s1.F t.F) : Own K (s.back t h) p xs := by
  obtain ⟨n, vs, e, r⟩ := o
  exact ⟨n, vs, t.sub _ _ (h2 _ _ (h1.trans e)), r⟩
theorem backOwn2 {α : Type} [Flat α] {K : PySem.W.Frag} {s t : S} {q : Addr} {xs : List α} (h : Fle s.F t.F) (o : Own K t q xs) : Own K (s.back t h) q xs := by
  obtain ⟨n, vs, e, r⟩ := o
  refine ⟨?_, vs, e, ?_⟩
  · show s.F q = none
    cases z : s.F q with
    | none => rfl
    | some u => rw [h _ _ z] at n; cases n
  · rw [r.flat]; exact Reps.of_flat xs
theorem backFlat {α : Type} [Flat α] {K : PySem.W.Frag} {s t : S} {v : V} {x : α} (h : Fle s.F t.F) (r : rep K t.F v x) : rep K (s.back t h).F v x := Flat.iff.mpr (Flat.iff.mp r)
section
variable {α β γ δ : Type} [Enc α] [Enc β] [Enc γ] [Enc δ] {X : Cx} {σ : St} {s t : S} {e a b c tg iter : Expr} {es : List Expr} {pos p0 p1 p2 p3 p4 p5 : Pos} {D : Ends} {rest A B body : List Stmt}
theorem do_frz2 {p : Addr} {xs : List α} {ss : List Stmt} (o : Own X.K s p xs) (k : ∀ s' : S, s'.H = s.H → Fle s.F s'.F → (∀ q, q ≠ p → s'.F q = s.F q) → rep X.K s'.F (.ref p) xs → s'.F p = s.H p → WSs X ss D σ s'.H) : WSs X ss D σ s.H := by
  obtain ⟨hn, vs, hp, r⟩ := o
  have f : Fle s.F (upd s.F p (.lst vs)) := fun a o q => by rw [upd_ne (ne_of_none q hn)]; exact q
  exact k ⟨upd s.F p (.lst vs), s.H, fun a o q => by
    unfold upd at q
    split at q
    · rename_i e; cases q; rw [e]; exact hp
    · exact s.sub a o q⟩ rfl f (fun q hq => upd_ne hq) ⟨p, vs, rfl, .inl (.inl upd_same), r.mono f⟩ (by show upd s.F p (.lst vs) p = _; rw [upd_same, hp])
theorem do_back {ss : List Stmt} (s : S) {t : S} (h : Fle s.F t.F) (k : WSs X ss D σ (s.back t h).H) : WSs X ss D σ t.H := k

section
variable {p : Addr} {n : Str} {xs : List α}
theorem we_pop (i : Nat) {z : Int} {j : Nat} {y : α} {Q : VK} (hσ : σ[i]? = some (some (.ref p))) (o : Own X.K s p xs) (he : Ev X e σ s z) (hj : popN xs.length z = some j) (hy : xs[j]? = some y)
    (k : ∀ v s1, Mx (· = p) s s1 → Own X.K s1 p (xs.eraseIdx j) → rep X.K s1.F v y → Q v s1.H)
    (hN : X.N[i]? = some n := by rfl) (hv : Vis X.env.scope n := by first | exact Or.inl rfl | exact Or.inr (Or.inl rfl) | exact Or.inr (Or.inr rfl)) (hd : (n == ("__debug__" : Str)) = false := by decide) (hcd : (n == ("__classdict__" : Str)) = false := by decide)
    (hbase : attributeBase (.Name n p0) "pop" X.env (eval (.Name n p0) X.env) = eval (.Name n p0) X.env := by rfl)
    (hfew : ((backTo p2 (starEach [e] X.env)).all (fun x => !x.1) && (backToKw p2 (keywordEach [] X.env)).all (fun x => x.1.isSome) && decide (([e] : List Expr).length + ([] : List Keyword).length + (if ([] : List Keyword).isEmpty then 0 else 1) < 30)) = true := by rfl)
    (hline : (p1.endLine == p2.line) = true := by rfl) (hs : starEach [e] X.env = (false, eval e X.env) :: starEach [] X.env := by rfl) (hplain : (backTo p2 (starEach [] X.env)).any (·.1) = false := by rfl) :
    WE X (.Call (.Attribute (.Name n p0) "pop" p1) [e] [] p2) σ s.H Q :=
  we_of (pe_bm PySem.F.plainAttrs_list PySem.F.slot_list_pop PySem.F.type_list_pop mt_popAt (pe_var hN hv hd hcd) (pa_cons pe_we pa_nil hs) hbase hfew hline hs hplain) (by
    obtain ⟨h1, vs, h2, h3⟩ := id o
    refine ⟨_, hσ, .inl ⟨rfl, vs, .inl (.inl h2)⟩, he s (Ex.refl _) _ fun v s1 k1 r1 => ?_⟩
    have f1 := k1.n _ _ h2 h1
    have g1 := k1.h _ _ h2
    unfold popN at hj
    split at hj
    · rename_i hb
      obtain ⟨w, hw, rw'⟩ := (h3.mono k1.f).get hy
      refine ⟨p, vs, z, j, w, rfl, by rw [show v = V.int z from r1], g1, hb.1, hb.2, by rw [h3.len]; exact hj, hw, ?_⟩
      exact k w (s1.put p (.lst (vs.eraseIdx j)) f1) (k1.mx.trans (Mx.put f1)) ⟨f1, _, upd_same, (h3.mono k1.f).erase j⟩ rw'
    · cases hj)
end
def popAt {τ : Type} (xs : List τ) (z : Int) : Option (τ × List τ) := (popN xs.length z).bind fun j => (xs[j]?).map fun y => (y, xs.eraseIdx j)
theorem popAt_some {τ : Type} {xs ys : List τ} {z : Int} {y : τ} (h : popAt xs z = some (y, ys)) : ∃ j, popN xs.length z = some j ∧ xs[j]? = some y ∧ ys = xs.eraseIdx j := by
  unfold popAt at h
  obtain ⟨j, h1, h2⟩ := bndE h
  obtain ⟨w, h3, h4⟩ := Option.map_eq_some_iff.mp h2
  cases h4
  exact ⟨j, h1, h3, rfl⟩
theorem do_setPop (i l : Nat) {p : Addr} {n m : Str} {xs ys : List α} {z : Int} {y : α} {py : Pos} (hσ : σ[i]? = some (some (.ref p))) (o : Own X.K s p xs) (he : Ev X e σ s z) (hj : popAt xs z = some (y, ys))
    (k : ∀ v s1, Mx (· = p) s s1 → Own X.K s1 p ys → rep X.K s1.F v y → WSs X rest D (σ.set l (some v)) s1.H)
    (hnd : X.N.Nodup) (hN : X.N[i]? = some n := by rfl) (hv : Vis X.env.scope n := by first | exact Or.inl rfl | exact Or.inr (Or.inl rfl) | exact Or.inr (Or.inr rfl)) (hd : (n == ("__debug__" : Str)) = false := by decide) (hcd : (n == ("__classdict__" : Str)) = false := by decide)
    (hbase : attributeBase (.Name n p0) "pop" X.env (eval (.Name n p0) X.env) = eval (.Name n p0) X.env := by rfl)
    (hfew : ((backTo p2 (starEach [e] X.env)).all (fun x => !x.1) && (backToKw p2 (keywordEach [] X.env)).all (fun x => x.1.isSome) && decide (([e] : List Expr).length + ([] : List Keyword).length + (if ([] : List Keyword).isEmpty then 0 else 1) < 30)) = true := by rfl)
    (hline : (p1.endLine == p2.line) = true := by rfl) (hs : starEach [e] X.env = (false, eval e X.env) :: starEach [] X.env := by rfl) (hplain : (backTo p2 (starEach [] X.env)).any (·.1) = false := by rfl)
    (hx : Loc X.env.scope m := by first | exact Or.inl rfl | exact Or.inr rfl) (hi : X.N[l]? = some m := by rfl)
    (hsw : swapsWith (.Call (.Attribute (.Name n p0) "pop" p1) [e] [] p2) (some (.Name m py)) pos.line X.env = pure false := by rfl) (hf : X.fn m = true ∨ X.env.scope.names.lookup m = some .local := by first | exact .inl rfl | exact .inr rfl) :
    WSs X (.Assign [.Name m py] (.Call (.Attribute (.Name n p0) "pop" p1) [e] [] p2) pos :: rest) D σ s.H := by
  obtain ⟨j, h1, h2, rfl⟩ := popAt_some hj
  exact do_cons (ps_set hnd hi hx pe_we hsw hf) (we_pop i hσ o he h1 h2 (fun v s1 m1 o1 r1 => k v s1 m1 o1 r1) hN hv hd hcd hbase hfew hline hs hplain)
theorem do_appPop (i l : Nat) {p q : Addr} {n m : Str} {xs ys zs : List α} {z : Int} {y : α} {py : Pos} (hσ : σ[i]? = some (some (.ref p))) (hσ2 : σ[l]? = some (some (.ref q))) (hpq : q ≠ p) (o : Own X.K s p xs) (o2 : Own X.K s q zs) (hz : zs.length < sizeLine) (he : Ev X e σ s z) (hj : popAt xs z = some (y, ys))
    (k : ∀ s1, Mx (fun a => a = p ∨ a = q) s s1 → Own X.K s1 p ys → Own X.K s1 q (zs ++ [y]) → WSs X rest D σ s1.H)
    (hN : X.N[i]? = some n := by rfl) (hv : Vis X.env.scope n := by first | exact Or.inl rfl | exact Or.inr (Or.inl rfl) | exact Or.inr (Or.inr rfl)) (hd : (n == ("__debug__" : Str)) = false := by decide) (hcd : (n == ("__classdict__" : Str)) = false := by decide)
    (hbase : attributeBase (.Name n p0) "pop" X.env (eval (.Name n p0) X.env) = eval (.Name n p0) X.env := by rfl)
    (hfew : ((backTo p2 (starEach [e] X.env)).all (fun x => !x.1) && (backToKw p2 (keywordEach [] X.env)).all (fun x => x.1.isSome) && decide (([e] : List Expr).length + ([] : List Keyword).length + (if ([] : List Keyword).isEmpty then 0 else 1) < 30)) = true := by rfl)
    (hline : (p1.endLine == p2.line) = true := by rfl) (hs : starEach [e] X.env = (false, eval e X.env) :: starEach [] X.env := by rfl) (hplain : (backTo p2 (starEach [] X.env)).any (·.1) = false := by rfl)
    (hN2 : X.N[l]? = some m := by rfl) (hv2 : Vis X.env.scope m := by first | exact Or.inl rfl | exact Or.inr (Or.inl rfl) | exact Or.inr (Or.inr rfl)) (hd2 : (m == ("__debug__" : Str)) = false := by decide) (hcd2 : (m == ("__classdict__" : Str)) = false := by decide)
    (hbase2 : attributeBase (.Name m py) "append" X.env (eval (.Name m py) X.env) = eval (.Name m py) X.env := by rfl)
    (hfew2 : ((backTo p4 (starEach [.Call (.Attribute (.Name n p0) "pop" p1) [e] [] p2] X.env)).all (fun x => !x.1) && (backToKw p4 (keywordEach [] X.env)).all (fun x => x.1.isSome) && decide (([.Call (.Attribute (.Name n p0) "pop" p1) [e] [] p2] : List Expr).length + ([] : List Keyword).length + (if ([] : List Keyword).isEmpty then 0 else 1) < 30)) = true := by rfl)
    (hline2 : (p3.endLine == p4.line) = true := by rfl) (hs2 : starEach [.Call (.Attribute (.Name n p0) "pop" p1) [e] [] p2] X.env = (false, eval (.Call (.Attribute (.Name n p0) "pop" p1) [e] [] p2) X.env) :: starEach [] X.env := by rfl) (hplain2 : (backTo p4 (starEach [] X.env)).any (·.1) = false := by rfl)
    (hsw : swapsWith (.Call (.Attribute (.Name m py) "append" p3) [.Call (.Attribute (.Name n p0) "pop" p1) [e] [] p2] [] p4) none p5.line X.env = pure false := by rfl) :
    WSs X (.Expr (.Call (.Attribute (.Name m py) "append" p3) [.Call (.Attribute (.Name n p0) "pop" p1) [e] [] p2] [] p4) p5 :: rest) D σ s.H := by
  obtain ⟨j, h1, h2, rfl⟩ := popAt_some hj
  refine do_cons (ps_expr (pe_bm PySem.F.plainAttrs_list PySem.F.slot_list_append PySem.F.type_list_append mt_append (pe_var hN2 hv2 hd2 hcd2) (pa_cons pe_we pa_nil hs2) hbase2 hfew2 hline2 hs2 hplain2) hsw) ?_
  obtain ⟨g1, vs, g2, g3⟩ := id o2
  refine ⟨_, hσ2, .inl ⟨rfl, vs, .inl (.inl g2)⟩, we_pop i hσ o he h1 h2 (fun v s1 m1 o1 r1 => ?_) hN hv hd hcd hbase hfew hline hs hplain⟩
  obtain ⟨f1, ws, f2, f3⟩ := o2.mx m1 hpq
  refine ⟨q, ws, v, rfl, rfl, f2, by rw [f3.len]; exact hz, ?_⟩
  have m2 : Mx (fun a => a = p ∨ a = q) s1 (s1.put q (.lst (ws ++ [v])) f1) := ⟨(Mx.put f1).f, fun a u h nn => (Mx.put f1).h a u h fun z => nn (.inr z), (Mx.put f1).n, (Mx.put f1).d⟩
  have m0 : Mx (fun a => a = p ∨ a = q) s s1 := ⟨m1.f, fun a u h nn => m1.h a u h fun z => nn (.inl z), m1.n, m1.d⟩
  refine k (s1.put q (.lst (ws ++ [v])) f1) (m0.trans m2) (o1.mx (Mx.put f1) fun z => hpq z.symm) ⟨f1, _, upd_same, f3.snoc r1⟩
theorem Ex.mu2 {s t u : S} {p q : Addr} (a : Ex s t) (b : Mx (fun a => a = p ∨ a = q) t u) (h : s.H p = none) (h2 : s.H q = none) : Ex s u := a.mu b fun _ e => e.elim (fun z => z ▸ h) fun z => z ▸ h2
def popAll {σ τ : Type} (f : List τ → σ → Option Int) : List τ → List σ → Option (List τ)
  | _, [] => some []
  | l, x :: r => (f l x).bind fun z => (popAt l z).bind fun y => (popAll f y.2 r).bind fun ys => some (y.1 :: ys)
theorem do_retPop (i j : Nat) {τ : Type} [Enc τ] {zs : List τ} {xs ys : List α} {f : List α → τ → Option Int} {p : Addr} {n x : Str} {px : Pos} {ie : Expr} {scope : Scope} {own : List (Str × Nat)} (hc : X.calm = true) (hN : X.N.Nodup) (hi : EvI X (.Name x px) iter σ s zs) (o : Own X.K s p xs) (ok : BlkOk X.N X.env.scope scope own)
    (hj : X.N[j]? = some x) (hjo : j ∈ own.map (·.2)) (hg : ∀ s0 H0 C cl fp, PG (Blk X scope s0 H0 C cl fp) (.Name x px) (gName j)) (hσ : ∀ v, ((wipe σ (own.map (·.2))).set j (some v))[i]? = some (some (.ref p))) (hf : popAll f xs zs = some ys) (hz : ys.length ≤ sizeLine)
    (he : ∀ (l : List α) (y : τ) (z : Int) (v : V) (s1 : S), y ∈ zs → Mx (· = p) s s1 → Own X.K s1 p l → rep X.K s1.F v y → f l y = some z → ∀ s0 H0 C cl fp, Ev (Blk X scope s0 H0 C cl fp) ie ((wipe σ (own.map (·.2))).set j (some v)) s1 z)
    (k : ∀ q s1, Mx (· = p) s s1 → s.H q = none → Own X.K s1 q ys → D.rt (.ref q) s1.H)
    (hNi : X.N[i]? = some n := by rfl)
    (hv : ∀ s0 H0 C cl fp, Vis (Blk X scope s0 H0 C cl fp).env.scope n := by intros; first | exact Or.inl rfl | exact Or.inr (Or.inl rfl) | exact Or.inr (Or.inr rfl)) (hd : (n == ("__debug__" : Str)) = false := by decide) (hcd : (n == ("__classdict__" : Str)) = false := by decide)
    (hbase : ∀ s0 H0 C cl fp, attributeBase (.Name n p0) "pop" (Blk X scope s0 H0 C cl fp).env (eval (.Name n p0) (Blk X scope s0 H0 C cl fp).env) = eval (.Name n p0) (Blk X scope s0 H0 C cl fp).env := by intros; rfl)
    (hfew : ∀ s0 H0 C cl fp, ((backTo p2 (starEach [ie] (Blk X scope s0 H0 C cl fp).env)).all (fun x => !x.1) && (backToKw p2 (keywordEach [] (Blk X scope s0 H0 C cl fp).env)).all (fun x => x.1.isSome) && decide (([ie] : List Expr).length + ([] : List Keyword).length + (if ([] : List Keyword).isEmpty then 0 else 1) < 30)) = true := by intros; rfl)
    (hline : (p1.endLine == p2.line) = true := by rfl) (hs1 : ∀ s0 H0 C cl fp, starEach [ie] (Blk X scope s0 H0 C cl fp).env = (false, eval ie (Blk X scope s0 H0 C cl fp).env) :: starEach [] (Blk X scope s0 H0 C cl fp).env := by intros; rfl) (hplain : ∀ s0 H0 C cl fp, (backTo p2 (starEach [] (Blk X scope s0 H0 C cl fp).env)).any (·.1) = false := by intros; rfl)
    (hs : ∀ x, foldedSetIterable iter X.env x = pure x := by intro _; rfl) : WSs X (.Return (some (.ListComp (.Call (.Attribute (.Name n p0) "pop" p1) [ie] [] p2) [⟨.Name x px, iter, [], 0⟩] scope p3)) pos :: rest) D σ s.H := by
  have hpe : PE X (.ListComp (.Call (.Attribute (.Name n p0) "pop" p1) [ie] [] p2) [⟨.Name x px, iter, [], 0⟩] scope p3) (tLc (WI X (.Name x px) iter) (gName j) tYes (fun σ H Q => ∀ s0 H0 C cl fp, WE (Blk X scope s0 H0 C cl fp) (.Call (.Attribute (.Name n p0) "pop" p1) [ie] [] p2) σ H Q) (own.map (·.2))) :=
    pe_lc hc hN pi_wi ok hg (fun s0 H0 C cl fp => pts_nil) (fun s0 H0 C cl fp => ⟨fun pins s _ _ _ I h => h s0 H0 C cl fp pins s I⟩) hs
  refine do_cons (ps_ret hpe) ?_
  refine (show EvI X (.Name x px) iter σ s zs from hi) s (Ex.refl _) _ fun J s2 k2 W => ?_
  intro Dd hD
  have o2 : Own X.K s2 p xs := o.ex k2
  have hne : p ≠ Dd := Own.ne o2 hD
  refine ⟨fun i m H => ∃ (u : S) (pre l : List α) (vs : List V), u.H = H ∧ m = zs.length - i ∧ Mx (· = p) s2 u ∧ Own X.K u p l ∧ u.F Dd = none ∧ u.H Dd = some (.lst vs) ∧ Reps X.K u.F vs pre ∧ (∃ suf, popAll f l (zs.drop i) = some suf ∧ pre ++ suf = ys), ⟨zs.length, s2.newO Dd (.lst []) hD, [], xs, [], rfl, rfl, (Ex.newO hD).mx, o2.ex (Ex.newO hD), (fF hD : s2.F Dd = none), upd_same, trivial, ys, hf, rfl⟩, ?_⟩
  rintro i' m H ⟨u, pre, l, vs, rfl, rfl, ku, ol, n1, n2, n3, suf, h1, h2⟩
  by_cases hi' : i' < zs.length
  · right
    obtain ⟨g1, g2⟩ := W.go i' u zs[i'] ku.f (List.getElem?_eq_getElem hi')
    refine ⟨g1, fun H' => ∃ m', m' < zs.length - i' ∧ ∃ (u : S) (pre l : List α) (vs : List V), u.H = H' ∧ m' = zs.length - (i' + 1) ∧ Mx (· = p) s2 u ∧ Own X.K u p l ∧ u.F Dd = none ∧ u.H Dd = some (.lst vs) ∧ Reps X.K u.F vs pre ∧ (∃ suf, popAll f l (zs.drop (i' + 1)) = some suf ∧ pre ++ suf = ys), fun H' z => z, fun v H' hy => ?_⟩
    obtain ⟨u', rfl, ku', rv⟩ := g2 v H' hy
    refine ⟨by show wipe ((wipe σ (own.map (·.2))).set j (some v)) (own.map (·.2)) = _; rw [wipe_set hjo]; exact wipe_wipe fun _ z => z, ?_⟩
    unfold tYes
    dsimp only
    rw [if_pos rfl]
    rw [List.drop_eq_getElem_cons hi'] at h1
    unfold popAll at h1
    obtain ⟨z, hz1, h1⟩ := bndE h1
    obtain ⟨⟨y, l'⟩, hz2, h1⟩ := bndE h1
    obtain ⟨suf', hz3, h1⟩ := bndE h1
    cases h1
    obtain ⟨jj, e1, e2, e3⟩ := popAt_some hz2
    subst e3
    have kk : Mx (· = p) s u' := (k2.mx.trans ku).trans ku'.mx
    intro s0 H0 C cl fp
    refine we_pop (X := Blk X scope s0 H0 C cl fp) (e := ie) i (hσ v) (ol.ex ku') (he l zs[i'] z v u' (List.getElem_mem hi') kk (ol.ex ku') rv hz1 s0 H0 C cl fp) e1 e2 (fun w u4 m4 o4 r4 => ?_) hNi (hv s0 H0 C cl fp) hd hcd (hbase s0 H0 C cl fp) (hfew s0 H0 C cl fp) hline (hs1 s0 H0 C cl fp) (hplain s0 H0 C cl fp)
    have k5 : Mx (· = p) u u4 := ku'.mx.trans m4
    have hD4 : u4.H Dd = some (.lst vs) := k5.h _ _ n2 fun z => hne z.symm
    have hF4 : u4.F Dd = none := k5.n _ _ n2 n1
    have hlen : vs.length < sizeLine := by
      have e1 := n3.len
      have e2 : ys.length = pre.length + (suf'.length + 1) := by rw [← h2, List.length_append, List.length_cons]
      omega
    have hlt : zs.length - (i' + 1) < zs.length - i' := by omega
    have md : Mx (· = p) s2 (u4.put Dd (.lst (vs ++ [w])) hF4) := ⟨(ku.trans k5).f, fun a ob h nn => by
      show upd u4.H Dd _ a = some ob
      rw [upd_ne (ne_of_none h hD)]; exact (ku.trans k5).h a ob h nn, (ku.trans k5).n, fun a ob h => by
      obtain ⟨ob', h'⟩ := (ku.trans k5).d a ob h
      exact ⟨ob', by show upd u4.H Dd _ a = some ob'; rw [upd_ne (ne_of_none h hD)]; exact h'⟩⟩
    exact ⟨vs, hD4, hlen, _, hlt, u4.put Dd (.lst (vs ++ [w])) hF4, pre ++ [y], _, vs ++ [w], rfl, rfl, md, o4.mx (Mx.put hF4) hne, hF4, upd_same, (n3.mono k5.f).snoc r4, suf', hz3, by rw [List.append_assoc]; exact h2⟩
  · left
    have hd : zs.drop i' = [] := List.drop_eq_nil_of_le (by omega)
    rw [hd] at h1
    cases h1
    refine ⟨W.stop i' u ku.f (by omega), k Dd u (k2.mx.trans ku) (fr_back k2 hD) ⟨n1, vs, n2, ?_⟩⟩
    rw [← h2, List.append_nil]
    exact n3
end
end Dy

namespace Dy
open PySem PySem.Spec L2
open PyProof.Rows hiding St

theorem php : ∀ (n : Nat) (l : List Nat), l.Nodup → (∀ x ∈ l, x < n) → l.length ≤ n
  | 0, [], _, _ => Nat.le_refl _
  | 0, x :: _, _, h => absurd (h x List.mem_cons_self) (Nat.not_lt_zero _)
  | n + 1, l, hn, h => by
    by_cases hm : n ∈ l
    · have h1 := php n (l.erase n) (hn.erase n) (fun x hx => by
        have h2 := h x (List.mem_of_mem_erase hx)
        have h3 : x ≠ n := (hn.mem_erase_iff.mp hx).1
        omega)
      rw [List.length_erase_of_mem hm] at h1
      omega
    · have := php n l hn (fun x hx => by
        have h2 := h x hx
        have h3 : x ≠ n := fun e => hm (e ▸ hx)
        omega)
      omega
theorem mem_rng {a b x : Int} : x ∈ rng a b ↔ a ≤ x ∧ x < b := by
  constructor
  · exact rng_mem
  · intro ⟨h1, h2⟩
    unfold rng
    refine List.mem_map.mpr ⟨(x - a).toNat, List.mem_range.mpr (by omega), by omega⟩
theorem rng_nodup (a b : Int) : (rng a b).Nodup := by
  unfold rng
  refine List.Pairwise.map _ (fun x y h e => h (by omega)) List.nodup_range
theorem rng_sorted (a b : Int) : (rng a b).Pairwise (· ≤ ·) := by
  unfold rng
  refine List.Pairwise.map _ (fun x y h => ?_) List.pairwise_lt_range
  omega
theorem sort_perm (xs : List Int) : (sortI xs).Perm xs := List.mergeSort_perm _ _
theorem sort_of_perm {xs ys : List Int} (h : xs.Perm ys) (hs : ys.Pairwise (· ≤ ·)) : sortI xs = ys := by
  refine List.Perm.eq_of_pairwise (le := fun x y : Int => x ≤ y) (fun a b _ _ h h' => Int.le_antisymm h h') ?_ hs ((sort_perm xs).trans h)
  have := List.pairwise_mergeSort (le := fun x y : Int => decide (x ≤ y)) (fun a b c h1 h2 => by simp at *; omega) (fun a b => by simp; omega) xs
  exact this.imp (by simp)
theorem perm_rng {l : List Int} {n : Nat} (h1 : l.Nodup) (h2 : l.length = n) (h3 : ∀ x ∈ l, 0 ≤ x ∧ x < n) : l.Perm (rng 0 n) := by
  refine (List.perm_ext_iff_of_nodup h1 (rng_nodup 0 n)).mpr fun a => ⟨fun h => mem_rng.mpr (h3 a h), fun h => ?_⟩
  obtain ⟨a0, a1⟩ := mem_rng.mp h
  refine Classical.byContradiction fun hn => ?_
  have h4 : ((a :: l).map Int.toNat).Nodup := by
    refine List.Pairwise.map (R := fun x y => x ≠ y ∧ 0 ≤ x ∧ 0 ≤ y) _ (fun x y ⟨h, p, q⟩ e => h (by omega)) ?_
    refine List.pairwise_cons.mpr ⟨fun x hx => ⟨fun e => hn (e ▸ hx), a0, (h3 x hx).1⟩, ?_⟩
    refine List.Pairwise.imp_of_mem (fun {x y} hx hy h => ⟨h, (h3 x hx).1, (h3 y hy).1⟩) h1
  have h5 := php n _ h4 (fun x hx => by
    obtain ⟨y, hy, rfl⟩ := List.mem_map.mp hx
    rcases List.mem_cons.mp hy with rfl | hy
    · omega
    · have := h3 y hy; omega)
  simp at h5
  omega
def nxt (o : List Int) (x : Int) : Int := o.getD x.toNat 0
def it (o : List Int) : Nat → Int → Int
  | 0, x => x
  | k + 1, x => nxt o (it o k x)
theorem it_add (o : List Int) (a b : Nat) (x : Int) : it o (a + b) x = it o a (it o b x) := by
  induction a with
  | zero => rw [Nat.zero_add]; rfl
  | succ a ih => rw [Nat.succ_add]; show nxt o _ = nxt o _; rw [ih]
theorem it_one (o : List Int) (x : Int) : it o 1 x = nxt o x := rfl
theorem it_comm (o : List Int) (a b : Nat) (x : Int) : it o a (it o b x) = it o b (it o a x) := by rw [← it_add, ← it_add, Nat.add_comm]
structure IsOrd (o : List Int) : Prop where
  l1 : 1 ≤ o.length
  l2 : o.length ≤ 40
  pm : o.Perm (rng 0 o.length)
theorem isOrd_sort {o : List Int} (h1 : 1 ≤ o.length) (h2 : o.length ≤ 40) (h3 : sortI o = rng 0 o.length) : IsOrd o := ⟨h1, h2, by rw [← h3]; exact (sort_perm o).symm⟩
section
variable {o : List Int}
theorem IsOrd.sort (h : IsOrd o) : sortI o = rng 0 o.length := sort_of_perm h.pm (rng_sorted _ _)
theorem IsOrd.nd (h : IsOrd o) : o.Nodup := h.pm.nodup_iff.mpr (rng_nodup _ _)
theorem IsOrd.mem (h : IsOrd o) {x : Int} : x ∈ o ↔ 0 ≤ x ∧ x < o.length := h.pm.mem_iff.trans mem_rng
theorem nxt_get {x : Int} (h0 : 0 ≤ x) (h1 : x < o.length) : o[x.toNat]? = some (nxt o x) := by
  unfold nxt
  have : x.toNat < o.length := by omega
  rw [List.getElem?_eq_getElem this, List.getD_eq_getElem?_getD, List.getElem?_eq_getElem this]; rfl
theorem nxt_at {x : Int} (h0 : 0 ≤ x) (h1 : x < o.length) : atI o x = some (nxt o x) := by rw [atI_get h0 h1, nxt_get h0 h1]
theorem IsOrd.nxt (h : IsOrd o) {x : Int} (h0 : 0 ≤ x) (h1 : x < o.length) : 0 ≤ Dy.nxt o x ∧ Dy.nxt o x < o.length := h.mem.mp (List.mem_of_getElem? (nxt_get h0 h1))
theorem IsOrd.it (h : IsOrd o) {x : Int} (h0 : 0 ≤ x) (h1 : x < o.length) : ∀ k, 0 ≤ Dy.it o k x ∧ Dy.it o k x < o.length
  | 0 => ⟨h0, h1⟩
  | k + 1 => h.nxt (h.it h0 h1 k).1 (h.it h0 h1 k).2
theorem IsOrd.inj (h : IsOrd o) {x y : Int} (x0 : 0 ≤ x) (x1 : x < o.length) (y0 : 0 ≤ y) (y1 : y < o.length) (e : Dy.nxt o x = Dy.nxt o y) : x = y := by
  have h1 := nxt_get x0 x1
  have h2 := nxt_get y0 y1
  rw [← e] at h2
  obtain ⟨a1, b1⟩ := List.getElem?_eq_some_iff.mp h1
  obtain ⟨a2, b2⟩ := List.getElem?_eq_some_iff.mp h2
  have := (List.getElem_inj h.nd (i := x.toNat) (j := y.toNat) (h₀ := a1) (h₁ := a2)).mp (b1.trans b2.symm)
  omega
theorem IsOrd.itInj (h : IsOrd o) : ∀ (k : Nat) {x y : Int}, 0 ≤ x → x < o.length → 0 ≤ y → y < o.length → Dy.it o k x = Dy.it o k y → x = y
  | 0, _, _, _, _, _, _, e => e
  | k + 1, _, _, x0, x1, y0, y1, e => h.itInj k x0 x1 y0 y1 (h.inj (h.it x0 x1 k).1 (h.it x0 x1 k).2 (h.it y0 y1 k).1 (h.it y0 y1 k).2 e)
theorem least {p : Nat → Prop} : ∀ n, p n → ∃ m, m ≤ n ∧ p m ∧ ∀ k, k < m → ¬ p k := by
  intro n
  induction n using Nat.strongRecOn with
  | _ n ih =>
    intro h
    by_cases hk : ∃ k, k < n ∧ p k
    · obtain ⟨k, h1, h2⟩ := hk
      obtain ⟨m, h3, h4, h5⟩ := ih k h1 h2
      exact ⟨m, by omega, h4, h5⟩
    · exact ⟨n, Nat.le_refl _, h, fun k hk' hp => hk ⟨k, hk', hp⟩⟩
theorem IsOrd.cycle (h : IsOrd o) {x : Int} (h0 : 0 ≤ x) (h1 : x < o.length) : ∃ L, 1 ≤ L ∧ L ≤ o.length ∧ Dy.it o L x = x ∧ ∀ k, 0 < k → k < L → Dy.it o k x ≠ x := by
  have ex : ∃ L, 1 ≤ L ∧ L ≤ o.length ∧ Dy.it o L x = x := by
    refine Classical.byContradiction fun hn => ?_
    have hne : ∀ i j, i < j → j ≤ o.length → Dy.it o i x ≠ Dy.it o j x := fun i j hij hj e => by
      refine hn ⟨j - i, by omega, by omega, ?_⟩
      have e2 : Dy.it o i x = Dy.it o i (Dy.it o (j - i) x) := by rw [← it_add, show i + (j - i) = j by omega]; exact e
      have := h.it h0 h1 (j - i)
      exact (h.itInj i h0 h1 this.1 this.2 e2).symm
    have h2 : ((List.range (o.length + 1)).map fun k => (Dy.it o k x).toNat).Nodup := by
      refine List.Pairwise.map (R := fun a b => a < b ∧ b ≤ o.length) _ (fun a b ⟨p, q⟩ e => ?_) ?_
      · have e1 := h.it h0 h1 a
        have e2 := h.it h0 h1 b
        exact hne a b p q (by omega)
      · refine List.Pairwise.imp_of_mem (fun {a b} ha hb hlt => ⟨hlt, by have := List.mem_range.mp hb; omega⟩) List.pairwise_lt_range
    have h3 := php o.length _ h2 (fun y hy => by
      obtain ⟨k, _, rfl⟩ := List.mem_map.mp hy
      have := h.it h0 h1 k
      omega)
    rw [List.length_map, List.length_range] at h3
    omega
  obtain ⟨L, a, b, c⟩ := ex
  obtain ⟨m, m1, ⟨m2, m3, m4⟩, m5⟩ := least (p := fun L => 1 ≤ L ∧ L ≤ o.length ∧ Dy.it o L x = x) L ⟨a, b, c⟩
  exact ⟨m, m2, m3, m4, fun k k0 k1 e => m5 k k1 ⟨by omega, by omega, e⟩⟩
theorem it_mul {L : Nat} {x : Int} (h : Dy.it o L x = x) : ∀ q, Dy.it o (L * q) x = x
  | 0 => rfl
  | q + 1 => by rw [Nat.mul_succ, it_add, h, it_mul h q]
theorem it_mod {L : Nat} {x : Int} (h : Dy.it o L x = x) (m : Nat) : Dy.it o (m % L) x = Dy.it o m x := by
  conv => rhs; rw [← Nat.mod_add_div m L, it_add, it_mul h]
def srv (o : List Int) (m : Nat) : List Int := (rng 0 o.length).map (Dy.it o m)
theorem srv_len (o : List Int) (m : Nat) : (srv o m).length = o.length := by unfold srv; rw [List.length_map, rng_len]; omega
theorem rng_getE {a b : Int} {i : Nat} (h : i < (b - a).toNat) : (rng a b)[i]? = some (a + (i : Int)) := by
  unfold rng
  rw [List.getElem?_map, List.getElem?_range h]; rfl
theorem srv_at {m : Nat} {x : Int} (h0 : 0 ≤ x) (h1 : x < o.length) : atI (srv o m) x = some (Dy.it o m x) := by
  rw [atI_get h0 (by rw [srv_len]; exact h1)]
  unfold srv
  rw [List.getElem?_map, rng_getE (by omega)]
  show some (Dy.it o m (0 + (x.toNat : Int))) = _
  rw [show (0 : Int) + (x.toNat : Int) = x by omega]
theorem srv_perm (h : IsOrd o) (m : Nat) : (srv o m).Perm (rng 0 o.length) := by
  refine perm_rng ?_ (srv_len o m) (fun x hx => ?_)
  · refine List.Pairwise.map (R := fun (a b : Int) => a ≠ b ∧ (0 ≤ a ∧ a < (o.length : Int)) ∧ 0 ≤ b ∧ b < (o.length : Int)) _ (fun a b ⟨p, q, r⟩ e => p (h.itInj m q.1 q.2 r.1 r.2 e)) ?_
    exact List.Pairwise.imp_of_mem (fun {a b} ha hb hne => ⟨hne, mem_rng.mp ha, mem_rng.mp hb⟩) (rng_nodup _ _)
  · obtain ⟨y, hy, rfl⟩ := List.mem_map.mp hx
    obtain ⟨a, b⟩ := mem_rng.mp hy
    exact h.it a b m
theorem srv_mem (h : IsOrd o) {m : Nat} {x : Int} (hx : x ∈ srv o m) : 0 ≤ x ∧ x < o.length := mem_rng.mp ((srv_perm h m).mem_iff.mp hx)
theorem srv_zero (o : List Int) : srv o 0 = rng 0 o.length := by
  unfold srv
  have : (Dy.it o 0 : Int → Int) = id := by funext x; rfl
  rw [this, List.map_id]
theorem srv_one (o : List Int) : srv o 1 = o := by
  refine List.ext_getElem? fun i => ?_
  unfold srv
  rw [List.getElem?_map]
  by_cases h : i < o.length
  · rw [rng_getE (by omega)]
    show some (Dy.nxt o (0 + (i : Int))) = _
    have := nxt_get (o := o) (x := (i : Int)) (by omega) (by omega)
    rw [show (0 : Int) + (i : Int) = (i : Int) by omega, ← this]
    congr 1
  · rw [List.getElem?_eq_none (by rw [rng_len]; omega), List.getElem?_eq_none (by omega)]; rfl
theorem srv_add (a b : Nat) : (srv o a).map (Dy.it o b) = srv o (b + a) := by
  unfold srv
  rw [List.map_map]
  exact List.map_congr_left fun x _ => (it_add o b a x).symm
end
theorem erase_perm {τ : Type} : ∀ (l : List τ) (i : Nat) (h : i < l.length), (l[i] :: l.eraseIdx i).Perm l
  | [], i, h => absurd h (Nat.not_lt_zero _)
  | x :: xs, 0, _ => List.Perm.refl _
  | x :: xs, i + 1, h => (List.Perm.swap x _ _).trans (List.Perm.cons x (erase_perm xs i (Nat.lt_of_succ_lt_succ h)))
theorem popAt_ok {τ : Type} {l : List τ} {z : Int} (h0 : 0 ≤ z) (h1 : z < l.length) (h2 : l.length < 1000000) : Ok (popAt l z) (fun r => (r.1 :: r.2).Perm l) := by
  unfold popAt popN seqIndex?
  have hl : z.toNat < l.length := by omega
  rw [if_pos ⟨by omega, by omega⟩]
  simp only
  rw [show (if z < 0 then z + (l.length : Int) else z) = z from if_neg (by omega), if_pos (by rw [Bool.and_eq_true]; exact ⟨decide_eq_true h0, decide_eq_true h1⟩), Option.bind_some, List.getElem?_eq_getElem hl]
  exact ok_some (erase_perm l _ hl)
theorem ok_popAll {σ τ : Type} {f : List τ → σ → Option Int} : ∀ {xs : List σ} {l : List τ}, (∀ l' x, l' ≠ [] → l'.length ≤ l.length → x ∈ xs → Ok (f l' x) (fun z => 0 ≤ z ∧ z < l'.length)) → xs.length ≤ l.length → l.length < 1000000 → Ok (popAll f l xs) (fun ys => ys.length = xs.length ∧ ∃ r, (ys ++ r).Perm l)
  | [], l, _, _, _ => ⟨[], rfl, rfl, l, List.Perm.refl _⟩
  | x :: xs, l, h, hl, hz => by
    rw [List.length_cons] at hl
    have hne : l ≠ [] := fun e => by subst e; simp at hl
    unfold popAll
    refine ok_bnd (h l x hne (Nat.le_refl _) List.mem_cons_self) fun z ⟨z0, z1⟩ => ok_bnd (popAt_ok z0 z1 hz) fun r hr => ?_
    have hlen : r.2.length + 1 = l.length := by have := hr.length_eq; rw [List.length_cons] at this; exact this
    refine ok_bnd (ok_popAll (fun l' y hn hl' hy => h l' y hn (by omega) (List.mem_cons_of_mem _ hy)) (by omega) (by omega)) fun ys ⟨e1, r', e2⟩ => ok_some ⟨by rw [List.length_cons, List.length_cons, e1], r', ?_⟩
    exact (List.Perm.cons r.1 e2).trans hr
theorem repl_one {τ : Type} (n : Int) (x : τ) : repl n [x] = List.replicate n.toNat x := by
  unfold repl
  exact List.flatten_replicate_singleton
end Dy

namespace Dy
open PySem PySem.Spec L2
open PyProof.Rows hiding St
instance {α β : Type} [Enc α] [Enc β] : Opn (α × β) := ⟨fun h => by obtain ⟨_, _, _, e, _⟩ := h; cases e⟩
instance {α β γ : Type} [Enc α] [Enc β] [Enc γ] : Opn (T3 α β γ) := ⟨fun h => by obtain ⟨_, _, _, _, e, _⟩ := h; cases e⟩
instance {α β γ : Type} {n m k : Nat} [Shp α n] [Shp β m] [Shp γ k] : Shp (T3 α β γ) (n + m + k + 1) := ⟨fun x => by
  obtain ⟨h1, h2⟩ := Shp.ok x.a
  obtain ⟨h3, h4⟩ := Shp.ok x.b
  obtain ⟨h5, h6⟩ := Shp.ok x.c
  refine ⟨?_, ?_⟩
  · show PyData.canLay0 (.tuple [EqD.toD x.a, EqD.toD x.b, EqD.toD x.c]) = true
    simp [PyData.canLay0, PyData.canLayAll0, h1, h3, h5]
  · show PyData.depth (.tuple [EqD.toD x.a, EqD.toD x.b, EqD.toD x.c]) ≤ n + m + k + 1
    simp [PyData.depth, PyData.depthAll]
    omega⟩
section
variable {X : Cx} {K : PySem.W.Frag} {a b e : Expr} {σ : St} {s : S} {p0 p1 p2 pos : Pos} {α β : Type} [Enc α] [Enc β]
def ixS (x y : Str) : Option Nat := (Builtin.Str.occurrences y x 0 y.length 1).head?
theorem ev_indexS {x y : Str} {j : Nat} (ha : Ev X a σ s y) (hb : Ev X b σ s x) (h : ixS x y = some j)
    (hs : starEach [b] X.env = [(false, eval b X.env)] := by rfl) (hbase : attributeBase a "index" X.env (eval a X.env) = eval a X.env := by rfl) (hline : (p1.endLine == pos.line) = true := by rfl) :
    Ev X (.Call (.Attribute a "index" p1) [b] [] pos) σ s (j : Int) := fun s1 k Q q =>
  we_of (pe_m1 PySem.F.slot_str_index PySem.F.type_str_index mt_sindex pe_we pe_we hs hbase hline) (ha s1 k _ fun v s2 k2 r2 => ⟨⟨y, r2⟩, hb s2 (k.trans k2) _ fun u s3 k3 r3 => by
    unfold ixS at h
    obtain ⟨rest, hr⟩ : ∃ rest, Builtin.Str.occurrences y x 0 y.length 1 = j :: rest := by
      cases ho : Builtin.Str.occurrences y x 0 y.length 1 with
      | nil => rw [ho] at h; cases h
      | cons i rest => rw [ho] at h; cases h; exact ⟨rest, rfl⟩
    exact ⟨y, x, j, rest, r2, by rw [show u = V.str x from r3], hr, q _ s3 (k2.trans k3) rfl⟩⟩)
end
section
variable {α α' α'' β : Type} [Enc α] [Enc α'] [Enc α''] [Enc β] {X : Cx} {σ : St} {s : S} {elt tg iter c : Expr} {ifs : List Expr} {scope : Scope} {own : List (Str × Nat)} {pos : Pos}
theorem ev_some' {e : Expr} {x : Option α} {y : α} (ha : Ev X e σ s x) (h : x = some y) : Ev X e σ s y := fun s1 k Q q => by
  subst h
  exact ha s1 k Q fun v s2 k2 r2 => q v s2 k2 r2
theorem en_comp0P {xs : List (α × α')} {ys : List β} {f : α × α' → Option β} {i j : Nat} (hc : X.calm = true) (hN : X.N.Nodup) (hi : EvI X tg iter σ s xs) (ok : BlkOk X.N X.env.scope scope own)
    (hio : i ∈ own.map (·.2)) (hjo : j ∈ own.map (·.2)) (hg : ∀ s0 H0 C cl fp, PG (Blk X scope s0 H0 C cl fp) tg (gTup X.K 2 (gCons (gName i) (gCons (gName j) gNil)))) (hf : mapO f xs = some ys) (hz : ys.length ≤ sizeLine)
    (he : ∀ (x : α × α') (y : β) (v u : V) (s1 : S), x ∈ xs → Ex s s1 → Enc.rep X.K s1.F v x.1 → Enc.rep X.K s1.F u x.2 → f x = some y → ∀ s0 H0 C cl fp, Ev (Blk X scope s0 H0 C cl fp) elt (((wipe σ (own.map (·.2))).set i (some v)).set j (some u)) s1 y)
    (hs : ∀ x, foldedSetIterable iter X.env x = pure x := by intro _; rfl) : EvL X elt tg iter [] scope σ s ys :=
  ⟨hc, hN, hs, own, _, _, ok, hg, fun _ _ _ _ _ => pts_nil, fun s1 k Q q => comp_read (t := fun _ => some true) hc hN hi ok hg tg_2 (fun _ _ _ _ _ => pts_nil) hf hz (fun F x σ2 ⟨v, u, _, _, e⟩ => by rw [e, wipe_set hjo, wipe_set hio]; exact wipe_wipe fun _ z => z)
    (fun x b s1 σ2 Q _ _ _ hb q => by cases hb; exact q s1 (Ex.refl _)) (fun x y s1 σ2 hx k ⟨v, u, r, r', e⟩ _ hfx => by subst e; exact he x y v u s1 hx k r r' hfx) s1 k Q q⟩
theorem en_comp1P {xs : List (α × α')} {ys : List β} {t : α × α' → Option Bool} {f : α × α' → Option β} {i j : Nat} (hc : X.calm = true) (hN : X.N.Nodup) (hi : EvI X tg iter σ s xs) (ok : BlkOk X.N X.env.scope scope own)
    (hio : i ∈ own.map (·.2)) (hjo : j ∈ own.map (·.2)) (hg : ∀ s0 H0 C cl fp, PG (Blk X scope s0 H0 C cl fp) tg (gTup X.K 2 (gCons (gName i) (gCons (gName j) gNil)))) (hf : compO t f xs = some ys) (hz : ys.length ≤ sizeLine)
    (ht : ∀ (x : α × α') (b : Bool) (v u : V) (s1 : S), x ∈ xs → Ex s s1 → Enc.rep X.K s1.F v x.1 → Enc.rep X.K s1.F u x.2 → t x = some b → ∀ s0 H0 C cl fp, EvT (Blk X scope s0 H0 C cl fp) c (((wipe σ (own.map (·.2))).set i (some v)).set j (some u)) s1 b)
    (he : ∀ (x : α × α') (y : β) (v u : V) (s1 : S), x ∈ xs → Ex s s1 → Enc.rep X.K s1.F v x.1 → Enc.rep X.K s1.F u x.2 → t x = some true → f x = some y → ∀ s0 H0 C cl fp, Ev (Blk X scope s0 H0 C cl fp) elt (((wipe σ (own.map (·.2))).set i (some v)).set j (some u)) s1 y)
    (hs : ∀ x, foldedSetIterable iter X.env x = pure x := by intro _; rfl) : EvL X elt tg iter [c] scope σ s ys :=
  ⟨hc, hN, hs, own, _, _, ok, hg, fun s0 H0 C cl fp => pts_one ⟨fun pins s _ _ _ I h => h s0 H0 C cl fp pins s I⟩, fun s1 k Q q => comp_read (tt := fun σ H Q => ∀ s0 H0 C cl fp, WT (Blk X scope s0 H0 C cl fp) c σ H Q) hc hN hi ok hg tg_2 (fun s0 H0 C cl fp => pts_one ⟨fun pins s _ _ _ I h => h s0 H0 C cl fp pins s I⟩) hf hz (fun F x σ2 ⟨v, u, _, _, e⟩ => by rw [e, wipe_set hjo, wipe_set hio]; exact wipe_wipe fun _ z => z)
    (fun x b s1 σ2 Q hx k ⟨v, u, r, r', e⟩ hb q => by subst e; intro s0 H0 C cl fp; exact ht x b v u s1 hx k r r' hb s0 H0 C cl fp s1 (Ex.refl _) Q q) (fun x y s1 σ2 hx k ⟨v, u, r, r', e⟩ htx hfx => by subst e; exact he x y v u s1 hx k r r' htx hfx) s1 k Q q⟩
end
end Dy

namespace Dy
open PySem PySem.Spec L2
open PyProof.Rows hiding St
open Enc (rep)
open EncA (repA)

inductive Er where
  | pl (c : Str)
  | pi (c f : Str) (i : Int)
  | ps (c f x : Str)
def Er.c : Er → Str
  | .pl c => c
  | .pi c _ _ => c
  | .ps c _ _ => c
inductive Rz (ρ : Type) where
  | ok (r : ρ)
  | er (e : Er)
def tb {α β : Type} (m : Option (Rz α)) (h : Er → Option β) (k : α → Option β) : Option β := match m with
  | none => none
  | some (.ok r) => k r
  | some (.er e) => h e
theorem tbE {α β : Type} {m : Option (Rz α)} {h : Er → Option β} {k : α → Option β} {o : β} (hm : tb m h k = some o) : (∃ e, m = some (.er e) ∧ h e = some o) ∨ ∃ r, m = some (.ok r) ∧ k r = some o := by
  cases m with
  | none => cases hm
  | some x => cases x with
    | ok r => exact .inr ⟨r, rfl, hm⟩
    | er e => exact .inl ⟨e, rfl, hm⟩
def ExR (K : PySem.W.Frag) (F : Hp) (e : Er) (cls : Value) (d : Option Addr) : Prop := match e with
  | .pl c => cls = .ref (He.ga K c) ∧ d = none
  | .pi c f i => cls = .ref (He.ga K c) ∧ ∃ dd, d = some dd ∧ F dd = some (.xd [(f, V.int i)])
  | .ps c f x => cls = .ref (He.ga K c) ∧ ∃ dd, d = some dd ∧ F dd = some (.xd [(f, V.str x)])
theorem exR_cls {K : PySem.W.Frag} {F : Hp} {e : Er} {cls : Value} {d : Option Addr} (h : ExR K F e cls d) : cls = .ref (He.ga K e.c) := by
  cases e with
  | pl c => exact h.1
  | pi c f i => exact h.1
  | ps c f x => exact h.1
theorem ExR.mono {K : PySem.W.Frag} {F F' : Hp} {e : Er} {cls : Value} {d : Option Addr} (k : Fle F F') (h : ExR K F e cls d) : ExR K F' e cls d := by
  cases e with
  | pl c => exact h
  | pi c f i => obtain ⟨h1, dd, h2, h3⟩ := h; exact ⟨h1, dd, h2, k _ _ h3⟩
  | ps c f x => obtain ⟨h1, dd, h2, h3⟩ := h; exact ⟨h1, dd, h2, k _ _ h3⟩
def RzQ {ρ : Type} [Enc ρ] (K : PySem.W.Frag) (s : S) (o : Rz ρ) (Q : VK) (E : XK) : Prop := match o with
  | .ok r => ∀ v s', Ex s s' → rep K s'.F v r → Q v s'.H
  | .er e => ∀ cls d s', Ex s s' → ExR K s'.F e cls d → E cls d s'.H
def spR {A : Type} [EncA A] {ρ : Type} [Enc ρ] (K : PySem.W.Frag) (m : A → Option (Rz ρ)) : Sp := fun vs H Q E => ∃ (s : S) (x : A) (o : Rz ρ), s.H = H ∧ repA K s.F vs x ∧ m x = some o ∧ RzQ K s o Q E
section
variable {X : Cx} {σ : St} {s : S} {e : Expr} {es : List Expr} {p0 p1 p2 pos : Pos} {α : Type} [Enc α]
theorem ev_callR {A : Type} [EncA A] {m : A → Option (Rz α)} {n : Str} {k j : Nat} {x : A} {r : α} (C : Cal X.prog X.w X.K X.mg X.base (L2.CX X.prog X.w) k n (spR X.K m)) (hr : Room j X.A) (hk : k ≤ j) (ha : EvA X (e :: es) σ s x) (h : m x = some (.ok r)) (hg : Gl X n := by rfl)
    (hdb : (n == ("__debug__" : Str)) = false := by decide) (he : starEach (e :: es) X.env = (false, eval e X.env) :: starEach es X.env := by rfl) (hpl : (backTo pos (starEach es X.env)).any (·.1) = false := by rfl) : Ev X (.Call (.Name n p0) (e :: es) [] pos) σ s r := fun s1 k1 Q q => by
  obtain ⟨f, fd, ps, F, hm, kp, b⟩ := C.ex
  refine we_of (pe_callS (E := fun _ _ _ _ => False) F (hr.mono hk) hg hm kp b (fun σ' pins H sh ev s' I c => ?_) pa_wa hdb he hpl) (ha s1 k1 _ fun vs s2 k2 r2 => ⟨s2, x, .ok r, rfl, r2, h, fun v s3 k3 r3 => q v s3 (k2.trans k3) r3⟩)
  obtain ⟨_, _, _, _, _, _, _, _, _, _, _, _, hf⟩ := c
  exact hf.elim
def EvX (X : Cx) (e : Expr) (σ : St) (s : S) : Prop := ∀ s1, Ex s s1 → ∀ Q, WE X e σ s1.H Q
theorem EvX.ev (h : EvX X e σ s) (x : α) : Ev X e σ s x := fun s1 k Q _ => h s1 k Q
theorem evX_call {A : Type} [EncA A] {ρ : Type} [Enc ρ] {m : A → Option (Rz ρ)} {n : Str} {k j : Nat} {x : A} {er : Er} {W : WX} (C : Cal X.prog X.w X.K X.mg X.base (L2.CX X.prog X.w) k n (spR X.K m)) (tk : Takes X W) (hr : Room j X.A) (hk : k ≤ j) (ha : EvA X (e :: es) σ s x) (h : m x = some (.er er))
    (hw : ∀ cls d s2, Ex s s2 → ExR X.K s2.F er cls d → W cls d σ s2.H) (hg : Gl X n := by rfl)
    (hdb : (n == ("__debug__" : Str)) = false := by decide) (he : starEach (e :: es) X.env = (false, eval e X.env) :: starEach es X.env := by rfl) (hpl : (backTo pos (starEach es X.env)).any (·.1) = false := by rfl) : EvX X (.Call (.Name n p0) (e :: es) [] pos) σ s := fun s1 k1 Q => by
  obtain ⟨f, fd, ps, F, hm, kp, b⟩ := C.ex
  exact we_of (pe_callS (E := L2.WE W) F (hr.mono hk) hg hm kp b (fun σ' => passAt tk σ') pa_wa hdb he hpl) (ha s1 k1 _ fun vs s2 k2 r2 => ⟨s2, x, .er er, rfl, r2, h, fun cls d s3 k3 r3 => hw cls d s3 ((k1.trans k2).trans k3) r3⟩)
inductive Nv where
  | nv
instance : Enc Nv := ⟨fun _ _ _ _ => False, fun _ h => h⟩
theorem nv_elim {K : PySem.W.Frag} {F : Hp} {v : V} {x : Nv} {p : Prop} (h : rep K F v x) : p := (show False from h).elim
theorem nv2_elim {β : Type} [Enc β] {K : PySem.W.Frag} {F : Hp} {v : V} {x : β × Nv} {p : Prop} (h : rep K F v x) : p := by
  obtain ⟨_, _, _, _, _, _, h⟩ := h
  exact (show False from h).elim
end
section
variable {P : Program} {w : World} {K : PySem.W.Frag} {mg : Str → Option Value} {base : Heap}
theorem mk_calR {A ρ : Type} [EncA A] [Enc ρ] {m : A → Option (Rz ρ)} {x : Str} {st : Stmt} {f : Addr} {fd : FuncData} {N ps : List Str} {k : Nat} (F : FunP K x st f fd) (hm : mg x = some (.ref f)) (b : Binds K fd ps []) (Sc : FnScope N ps (defScope st))
    (hl : ∀ (F : Hp) (vs : List V) (a : A), repA K F vs a → vs.length = ps.length)
    (body : ∀ (cdv : Value) (A' : Around) (outer : List Env) (s0 : Shared) (H0 : Hp) (E0 : XK), Room k (A'.deeper (envOfC x (defScope st) s0.heap.objs.size f cdv)) → ∀ (s : S) (vs : List V) (a : A) (o : Rz ρ) (Q : VK), repA K s.F vs a → m a = some o →
      RzQ K s o Q E0 → WSs (cxOf (L2.CX P w) P w K mg base N x (defScope st) f cdv A' outer s0 H0 E0) (defBody st) (RD Q) (start N vs) s.H) : Cal P w K mg base (L2.CX P w) (k + 1) x (spR K m) :=
  ⟨f, fd, ps, F.ok Sc (fun vs H Q E ⟨s, a, r, _, h, _⟩ => hl s.F vs a h) (fun cdv A' outer s0 H0 vs Q E hr ⟨s, a, o, e, h1, h2, h3⟩ => ⟨_, pss_ws, by
    have := body cdv A' outer s0 H0 E hr s vs a o Q h1 h2 h3
    rw [e] at this
    exact this⟩), hm, F.kp, b⟩
end
structure ExcF (K : PySem.W.Frag) (mg : Str → Option Value) (c : Str) : Prop where
  q : PySem.W.excIn K (He.ga K c) He.veBase "ValueError.__new__" = true
  kp : PySem.W.keepIn K (.ref (He.ga K c)) = true
  sb : PySem.W.subIn K (.ref (He.ga K c)) (.type "BaseException") = some true
  ty : PySem.W.typeIn K (.ref (He.ga K c)) = some (.type "type")
  gl : mg c = some (.ref (He.ga K c))
section
variable {X : Cx} {σ : St} {s : S} {D : Ends} {rest : List Stmt} {W : WX}
theorem do_raise0 {c m : Str} {j : Nat} {p p2 pos pos' : Pos} (T : ExcF X.K X.mg c) (tk : Takes X W) (h : W (.ref (He.ga X.K c)) none σ s.H) (hc : X.calm = true := by rfl) (hg : Gl X c := by rfl) (hdb : (c == ("__debug__" : Str)) = false := by decide) :
    WSs X (.Raise (some (.Call (.Name c p) [.Constant (.str m) j p2] [] pos)) none pos' :: rest) D σ s.H :=
  do_cons (ps_raise hc tk (pmk_own F.excBase_ValueError T.q T.gl T.kp (raises_own T.sb T.ty) hg hdb)) h
theorem do_tryAs (i : Nat) {x n : Str} {c : Value} {body suite : List Stmt} {b₀ : Stmt} {np pos pos' : Pos} {Wout : WX} (hN : X.N.Nodup) (hcN : Names X x c) (tk : Takes X Wout)
    (h : ∀ pn xe, Takes (X.tr pn xe) (wAs X.K c i (fun a cls d D σ H => ∀ (oe : Obj) (pn : List (Addr × Obj)), Zc cls d oe → (∃ vs, oe.data = .fields vs) → WSs (X.suite a ((a, oe) :: pn)) (b₀ :: suite) D σ H) Wout { D with nx := fun σ' H' => WSs X rest D σ' H' }) → PassesOwn (model X.prog X.w) X.A X.env xe →
      WSs (X.tr pn xe) body { D with nx := fun σ' H' => WSs X rest D σ' H' } σ s.H)
    (hs : X.stack = X.env :: X.outer := by rfl) (hf : X.env.frame = some X.env.locals := by rfl) (hi : X.N[i]? = some n := by rfl) (hln : X.env.kindOf n = some .local := by rfl) :
    WSs X (.Try body [.ExceptHandler (some (.Name x np)) (some n) (b₀ :: suite) pos'] [] [] pos :: rest) D σ s.H :=
  do_cons (ps_try_as (tb := fun W D σ H => ∀ pn xe, Takes (X.tr pn xe) W → PassesOwn (model X.prog X.w) X.A X.env xe → WSs (X.tr pn xe) body D σ H) (ts := fun a cls d D σ H => ∀ (oe : Obj) (pn : List (Addr × Obj)), Zc cls d oe → (∃ vs, oe.data = .fields vs) → WSs (X.suite a ((a, oe) :: pn)) (b₀ :: suite) D σ H)
    hs hf hN hi hln hcN tk (fun W pn xe t po => ⟨fun pins sh σ H D I hh => hh pn xe t po pins sh I⟩) (fun a oe cls d pn hz hv => ⟨fun pins sh σ H D I hh => hh oe pn hz hv pins sh I⟩)) h
end
end Dy

namespace Dy
open PySem PySem.Spec L2
open PyProof.Rows hiding St
open Enc (rep)
open EncA (repA)

section
open PySem.W PySem.Calls
variable {prog : Program} {w : World} {A : Around} {E : Value → Shared → Prop} {K : Frag} {x D : Addr} {ox : Obj} {od : Option Obj}
theorem cls_bind (T : ExcC K D) : findObj K D od "__class__" = some (.bind (.builtin "getset_descriptor.__get__") (.builtin "object.__class__")) := by
  obtain ⟨cd, hc⟩ := Option.isSome_iff_exists.mp (show (clsIn K D).isSome = true by obtain ⟨cd, hc, _⟩ := any_some T.hd; rw [hc]; rfl)
  unfold findObj
  rw [hc, Option.bind_some, T.ha, Option.bind_some]
  simp [T.hn, T.ht]
theorem asks_cls {s : Shared} {Q : Option Value → Shared → Prop} (T : ExcC K D) (X : K.In s.heap) (I : PySem.W.InstAt s.heap x ox D od) (h : Q (some (.ref D)) { s with toks := s.toks + 1 }) : wpAny (model prog w) A (getAttr? (.ref x) "__class__") Q E s := by
  obtain ⟨hp, g, d, t, os⟩ := s
  have l0 := I.type (M := model prog w)
  have l1 := looks_findIn (M := model prog w) X T.hg
  have l2 := looks_findIn (M := model prog w) X T.hk
  have l3 := looks_find (M := model prog w) X I (cls_bind T)
  have sub : Looks (model prog w) hp (isInstance (.ref x) (.type "BaseException")) true := l0.andThen (looks_subIn X T.hs)
  unfold getAttr? getAttrBy? getAttrBy
  refine wpAny_bind (wpAny_mkText (wpAny_bind (wpAny_attempt (wpAny_holding (wpAny_bind (l0.at (wpAny_bind (l1.at ?_))))))))
  have no : (onTheHeap (Value.ref D) && Value.builtin "BaseException.__getattribute__" == Value.builtin "object.__getattribute__") = false := by
    rw [show (Value.builtin "BaseException.__getattribute__" == Value.builtin "object.__getattribute__") = false by decide +kernel]; rfl
  show wpAny _ _ (if (onTheHeap (Value.ref D) && Value.builtin "BaseException.__getattribute__" == Value.builtin "object.__getattribute__") = true then _ else _) _ _ _
  rw [no, if_neg Bool.false_ne_true]
  unfold getAttrByItsOwn hookBefore
  refine wpAny_bind ?_
  rw [if_pos (show onTheHeap (Value.ref D) = true from rfl)]
  refine l2.at (wpAny_bind (wpAny_attempt (wpAny_holding ?_)))
  unfold callGetattribute
  rw [show (false && onTheHeap (Value.builtin "BaseException.__getattribute__")) = false from rfl, if_neg Bool.false_ne_true]
  unfold boundAndCalled
  rw [PySem.F.excAttr_ValueError.ga.bind (.ref x)]
  refine wpAny_bind (wpAny_pure ?_)
  show wpAny _ _ (call (.builtin "BaseException.__getattribute__") [.ref x, .str "__class__" t]) _ _ _
  refine wpAny_call (codeAny_call_builtin PySem.F.excAttr_ValueError.ga.plain PySem.F.entry_bexc_ga ?_)
  refine @check_slot (model prog w) _ _ ⟨hp, g, d, t + 1, os⟩ "BaseException.__getattribute__" "BaseException" "__getattribute__" (.ref x) [.str "__class__" t] [] _ (by decide +kernel) (by decide +kernel) sub (PySem.F.args_bexc_ga (.ref x) (.str "__class__" t)) ?_
  unfold Builtin.«object.__getattribute__»
  refine wpAny_bind (wpAny_of_eq (a := ((Value.ref x : Value), [Value.str "__class__" t])) (by first | rfl | (simp only [slotArgs]; rfl)) ?_)
  refine wpAny_bind (wpAny_pure (wpAny_bind (l0.at (wpAny_bind (l3.at ?_)))))
  show wpAny _ _ (holding [Value.builtin "object.__class__"] (call (.builtin "getset_descriptor.__get__") [.builtin "object.__class__", .ref x, .ref D]) >>= ret) _ _ _
  refine wpAny_bind (wpAny_holding (wpAny_call (class_get (s := ⟨hp, g, d, t + 1, os⟩) (ox := ox) (od := od) X I T.hm (wpAny_pure ?_))))
  show wpAny _ _ (handedOut (.ref D)) _ _ _
  rw [handedOut_of (v := .ref D) rfl]
  first
    | exact wpAny_pure (wpAny_pure h)
    | exact wpAny_pure h
    | exact wpAny_pure (wpAny_bind (wpAny_pure (wpAny_pure h)))
theorem cls_at (T : ExcC K D) : ∃ c' d' cd' sl', K.lookup D = some ⟨c', d', .cls cd', sl'⟩ := by
  obtain ⟨cd, hc, _⟩ := any_some T.hd
  unfold clsIn at hc
  split at hc
  · rename_i c' d' cd' sl' ho
    exact ⟨c', d', cd', sl', ho⟩
  · cases hc
def InstE (a D : Addr) (oe : Obj) : Heap → Prop := fun h => ∃ od, PySem.W.InstAt h a oe D od
theorem kit_exc (T : ExcC K D) : KitX K (.ref x) (.ref D) (InstE x D ox) where
  ty := fun _ _ _ ⟨_, I⟩ => I.type
  it := fun _ _ X _ => by
    obtain ⟨_, _, _, _, ho⟩ := cls_at T
    intro A' Q' E' s' k q
    unfold isType loadHead
    exact wpAny_bind (wpAny_loadPart (k _ _ (X _ _ ho)) (wpAny_pure q))
  ne := fun h tp dd its n sl X htp => by
    obtain ⟨_, _, _, _, ho⟩ := cls_at T
    refine Bool.eq_false_iff.mpr fun q => ?_
    obtain rfl : D = tp := Value.ref.inj (beq_iff_eq.mp q)
    cases (X _ _ ho).symm.trans htp
  ca := fun X ⟨_, I⟩ k => asks_cls T X I k
end

structure Rw where
  v : V
instance : Enc Rw := ⟨fun _ _ v x => v = x.v, fun _ h => h⟩
theorem rw_reps {K : PySem.W.Frag} {F : Hp} : ∀ {vs : List V} {xs : List Rw}, Reps K F vs xs → vs = xs.map (·.v)
  | [], [], _ => rfl
  | _ :: _, _ :: _, ⟨h, t⟩ => by rw [List.map_cons, ← rw_reps t, show _ = _ from h]
  | [], _ :: _, h => h.elim
  | _ :: _, [], h => h.elim
def clsR (K : PySem.W.Frag) (c : Str) : V := if c = ("ValueError" : Str) then .ty "ValueError" else .ref (He.ga K c)
def clsV (K : PySem.W.Frag) (c : Str) : Value := if c = ("ValueError" : Str) then .type "ValueError" else .ref (He.ga K c)
theorem cls_cv (K : PySem.W.Frag) (c : Str) : ClsV (clsR K c) (clsV K c) := by
  unfold clsR clsV
  split
  · exact .ty _
  · exact .own _
theorem cls_all (K : PySem.W.Frag) : ∀ cs : List Str, Paired ClsV (cs.map (clsR K)) (cs.map (clsV K))
  | [] => .nil
  | c :: cs => .cons (cls_cv K c) (cls_all K cs)
def excCB (K : PySem.W.Frag) (D : Addr) : Bool := xfB K D && (He.eqO (PySem.W.findIn K (.ref D) "__class__") (some (some (.builtin "object.__class__"))) && (He.eqO (PySem.W.specialIn K (.builtin "object.__class__") "__get__") (some (some (.builtin "getset_descriptor.__get__"))) &&
  (decide (PySem.W.takesIn K (.builtin "object.__class__") = some true) && decide (PySem.W.mroIn K D (.type "object") = some true))))
theorem excCB_ok {K : PySem.W.Frag} {D : Addr} (h : excCB K D = true) : ExcC K D := by
  unfold excCB at h
  obtain ⟨h0, h⟩ := He.ba h
  obtain ⟨h5, h⟩ := He.ba h
  obtain ⟨h6, h⟩ := He.ba h
  obtain ⟨h7, h8⟩ := He.ba h
  unfold xfB at h0
  obtain ⟨h1, h0⟩ := He.ba h0
  obtain ⟨h2, h0⟩ := He.ba h0
  obtain ⟨h3, h4⟩ := He.ba h0
  exact ⟨of_decide_eq_true h1, of_decide_eq_true h2, of_decide_eq_true h3, h4, He.eqO_ok h5, He.eqO_ok h6, of_decide_eq_true h7, of_decide_eq_true h8⟩
structure ETab where
  ds : List Str
  fl : List (Str × Str)
  is : List ((Str × Str) × Bool)
  ex : List ((Str × Str) × Bool)
def lk (d c : Str) : List ((Str × Str) × Bool) → Option Bool
  | [] => none
  | q :: r => if q.1 = (d, c) then some q.2 else lk d c r
theorem lk_mem {d c : Str} {b : Bool} : ∀ {l : List ((Str × Str) × Bool)}, lk d c l = some b → ((d, c), b) ∈ l
  | [], h => by cases h
  | q :: r, h => by
    unfold lk at h
    split at h
    · rename_i e
      cases h
      rw [← e]
      exact List.mem_cons_self
    · exact List.mem_cons_of_mem _ (lk_mem h)
def ETab.ok (t : ETab) (K : PySem.W.Frag) : Bool := ((t.ds.all fun d => excCB K (He.ga K d)) && t.fl.all fun q => He.eqO (PySem.W.findIn K (.ref (He.ga K q.1)) q.2) (some none)) && ((t.is.all fun q => decide (PySem.W.kitOne K (.ref (He.ga K q.1.1)) (clsV K q.1.2) = some q.2)) && t.ex.all fun q => decide (PySem.W.exmOne K (.ref (He.ga K q.1.1)) (clsV K q.1.2) = some q.2))
def isE (t : ETab) (e : Er) (c : Str) : Option Bool := if e.c ∈ t.ds then lk e.c c t.is else none
def isEs (t : ETab) (e : Er) : List Str → Option Bool
  | [] => some false
  | c :: r => (isE t e c).bind fun b => if b = true then some true else isEs t e r
def exE (t : ETab) (e : Er) (c : Str) : Option Bool := lk e.c c t.ex
def erI (t : ETab) (e : Er) (f : Str) : Option Int := match e with
  | .pi c g i => if g = f ∧ (c, g) ∈ t.fl ∧ c ∈ t.ds then some i else none
  | _ => none
def erS (t : ETab) (e : Er) (f : Str) : Option Str := match e with
  | .ps c g x => if g = f ∧ (c, g) ∈ t.fl ∧ c ∈ t.ds then some x else none
  | _ => none
section
variable {K : PySem.W.Frag} {t : ETab}
theorem ETab.ds_ok (h : t.ok K = true) {d : Str} (hd : d ∈ t.ds) : ExcC K (He.ga K d) := by
  unfold ETab.ok at h
  exact excCB_ok (List.all_eq_true.mp (He.ba (He.ba h).1).1 d hd)
theorem ETab.xf_ok (h : t.ok K = true) {d : Str} (hd : d ∈ t.ds) : XfC K (He.ga K d) := by
  unfold ETab.ok at h
  have := List.all_eq_true.mp (He.ba (He.ba h).1).1 d hd
  unfold excCB at this
  exact xfB_ok (He.ba this).1
theorem ETab.fl_ok (h : t.ok K = true) {d f : Str} (hd : (d, f) ∈ t.fl) : PySem.W.findIn K (.ref (He.ga K d)) f = some none := by
  unfold ETab.ok at h
  exact He.eqO_ok (List.all_eq_true.mp (He.ba (He.ba h).1).2 _ hd)
theorem ETab.is_ok (h : t.ok K = true) {d c : Str} {b : Bool} (hl : lk d c t.is = some b) : PySem.W.kitOne K (.ref (He.ga K d)) (clsV K c) = some b := by
  unfold ETab.ok at h
  exact of_decide_eq_true (List.all_eq_true.mp (He.ba (He.ba h).2).1 _ (lk_mem hl))
theorem ETab.ex_ok (h : t.ok K = true) {d c : Str} {b : Bool} (hl : lk d c t.ex = some b) : PySem.W.exmOne K (.ref (He.ga K d)) (clsV K c) = some b := by
  unfold ETab.ok at h
  exact of_decide_eq_true (List.all_eq_true.mp (He.ba (He.ba h).2).2 _ (lk_mem hl))
theorem exE_ok (h : t.ok K = true) {e : Er} {c : Str} {b : Bool} {cls : Value} {d : Option Addr} {F : Hp} (he : ExR K F e cls d) (hl : exE t e c = some b) : PySem.W.exmOne K cls (clsV K c) = some b := by
  rw [exR_cls he]
  exact ETab.ex_ok h hl
end
section
variable {X : Cx} {σ : St} {s : S} {e : Expr} {es : List Expr} {p0 p1 p2 p3 pos : Pos} {a : Addr} {oe : Obj} {pn : List (Addr × Obj)}
theorem exc_inst {D : Addr} {d : Option Addr} {pins : List (Addr × Obj)} {σ : St} {H : Hp} {sh : Shared} (hz : Zc (.ref D) d oe) (hf : ∃ vs, oe.data = .fields vs) (hd : ∀ dd, d = some dd → ∃ fs, H dd = some (.xd fs)) (I : Inv (X.suite a ((a, oe) :: pn)) pins σ H sh) : InstE a D oe sh.heap := by
  obtain ⟨hget, _⟩ := I.pin (a, oe) (List.mem_append.mpr (.inl List.mem_cons_self))
  obtain ⟨vs, hv⟩ := hf
  cases d with
  | none =>
    exact ⟨none, hget, hz.1, by unfold PySem.W.notCls; rw [hv], by rw [hz.2]; trivial⟩
  | some dd =>
    obtain ⟨fs, he⟩ := hd dd rfl
    obtain ⟨mA, hns, _⟩ := (show ObjOk X.prog X.w H sh.heap dd (.xd fs) from I.hok dd _ he)
    obtain ⟨od, ho, _⟩ := lookIn_ns hns
    exact ⟨some od, hget, hz.1, by unfold PySem.W.notCls; rw [hv], by rw [hz.2]; exact ho⟩
theorem call_isE1 {D : Addr} {d : Option Addr} (C : ExcC X.K D) (hz : Zc (.ref D) d oe) (hf : ∃ vs, oe.data = .fields vs) : CallR (X.suite a ((a, oe) :: pn)) (.builtin "isinstance") (fun xs H Q => (∀ dd, d = some dd → ∃ fs, H dd = some (.xd fs)) ∧ ∃ (c : V) (cv : Value) (b : Bool), xs = [.ref a, c] ∧ ClsV c cv ∧ PySem.W.kitOne X.K (.ref D) cv = some b ∧ Q (.bl b) H) := by
  intro pins s σ H xs us Q I r h
  obtain ⟨hd, c, cv, b, rfl, k, e, q⟩ := h
  obtain ⟨u1, u2, rfl, r1, r2⟩ := vals2 r
  cases (show u1 = Value.ref a from r1)
  have e2 := k.eq r2
  subst e2
  exact PySem.W.kia_one (kit_exc C) I.kIn (exc_inst hz hf hd I) e (fun z => nomatch z) fun tk => ⟨.bl b, H, I.kept (t' := tk) fun _ _ z => z, rfl, q⟩
theorem call_isET {D : Addr} {d : Option Addr} (C : ExcC X.K D) (hz : Zc (.ref D) d oe) (hf : ∃ vs, oe.data = .fields vs) : CallR (X.suite a ((a, oe) :: pn)) (.builtin "isinstance") (fun xs H Q => (∀ dd, d = some dd → ∃ fs, H dd = some (.xd fs)) ∧ ∃ (tp : Addr) (cs : List V) (us : List Value) (b : Bool), xs = [.ref a, .ref tp] ∧ H tp = some (.tup cs) ∧ Paired ClsV cs us ∧ PySem.W.kitAny X.K (.ref D) us = some b ∧ Q (.bl b) H) := by
  intro pins s σ H xs us Q I r h
  obtain ⟨hd, tp, cs, ws, b, rfl, hT, k, e, q⟩ := h
  obtain ⟨u1, u2, rfl, r1, r2⟩ := vals2 r
  cases (show u1 = Value.ref a from r1)
  cases (show u2 = Value.ref tp from r2)
  obtain ⟨_, its, rv, o, h1, h2, n, h3⟩ := (show ObjOk X.prog X.w H s.heap tp (.tup cs) from I.hok tp _ hT)
  have e3 := ClsV.all k rv
  subst e3
  obtain ⟨oc, od, dt, sl⟩ := o
  simp only at h2 h3
  subst h2 h3
  exact PySem.W.kia_tup (kit_exc C) I.kIn (exc_inst hz hf hd I) h1 e (fun z => nomatch z) fun tk => ⟨.bl b, H, I.kept (t' := tk) fun _ _ z => z, rfl, q⟩
theorem exR_xd {K : PySem.W.Frag} {F : Hp} {e : Er} {cls : Value} {d : Option Addr} (h : ExR K F e cls d) : ∀ dd, d = some dd → ∃ fs, F dd = some (.xd fs) := fun dd e1 => by
  cases e with
  | pl c => rw [h.2] at e1; cases e1
  | pi c f i => obtain ⟨_, d2, h2, h3⟩ := h; rw [h2] at e1; cases e1; exact ⟨_, h3⟩
  | ps c f x => obtain ⟨_, d2, h2, h3⟩ := h; rw [h2] at e1; cases e1; exact ⟨_, h3⟩
theorem kit_any {K : PySem.W.Frag} {t : ETab} (h : t.ok K = true) {er : Er} : ∀ {cs : List Str} {b : Bool}, isEs t er cs = some b → PySem.W.kitAny K (.ref (He.ga K er.c)) (cs.map (clsV K)) = some b
  | [], b, e => e
  | c :: r, b, e => by
    unfold isEs isE at e
    by_cases hd : er.c ∈ t.ds
    · rw [if_pos hd] at e
      cases hl : lk er.c c t.is with
      | none => rw [hl] at e; cases e
      | some b1 =>
        rw [hl] at e
        have k1 := ETab.is_ok h hl
        rw [List.map_cons]
        unfold PySem.W.kitAny
        rw [k1]
        cases b1 with
        | true => exact e
        | false => exact kit_any h e
    · rw [if_neg hd] at e; cases e
theorem ev_cls {c : Str} (h : (c ≠ ("ValueError" : Str) ∧ X.mg c = some (.ref (He.ga X.K c))) ∨ (c = ("ValueError" : Str) ∧ X.mg c = none)) (hg : Gl X c := by rfl) (hd : (c == ("__debug__" : Str)) = false := by decide) : Ev X (.Name c pos) σ s (Rw.mk (clsR X.K c)) := by
  rcases h with ⟨h1, h2⟩ | ⟨h1, h2⟩
  · have : clsR X.K c = .ref (He.ga X.K c) := if_neg h1
    rw [this]
    exact ev_glob ⟨.ref (He.ga X.K c), _, h2, rfl, fun _ => rfl⟩ hg hd
  · subst h1
    exact fun s1 k Q q => we_of (pe_bltn (v := .ty "ValueError") hg h2 PyProof.Rows.Boot.«ValueError» rfl (by decide) (by decide)) (q _ s1 (Ex.refl _) rfl)
theorem ev_isE {c : Str} {er : Er} {d : Option Addr} {b : Bool} {t : ETab} (h : t.ok X.K = true) (hl : isE t er c = some b) (hz : Zc (.ref (He.ga X.K er.c)) d oe) (hf : ∃ vs, oe.data = .fields vs) (hx : ExR X.K s.F er (.ref (He.ga X.K er.c)) d) (hm : X.mg "isinstance" = none)
    (ha : Ev (X.suite a ((a, oe) :: pn)) e σ s (Rw.mk (.ref a))) (hb : Ev (X.suite a ((a, oe) :: pn)) (.Name c p1) σ s (Rw.mk (clsR X.K c))) (hg : Gl (X.suite a ((a, oe) :: pn)) "isinstance" := by rfl)
    (he : starEach [e, .Name c p1] X.env = (false, eval e X.env) :: starEach [.Name c p1] X.env := by rfl) (he2 : starEach [.Name c p1] X.env = (false, eval (.Name c p1) X.env) :: starEach [] X.env := by rfl) (hpl : (backTo pos (starEach [.Name c p1] X.env)).any (·.1) = false := by rfl) :
    Ev (X.suite a ((a, oe) :: pn)) (.Call (.Name "isinstance" p0) [e, .Name c p1] [] pos) σ s b := fun s1 k Q q => by
  unfold isE at hl
  by_cases hd : er.c ∈ t.ds
  · rw [if_pos hd] at hl
    refine we_of (pe_callB (call_isE1 (d := d) (ETab.ds_ok h hd) hz hf) hg hm (by decide +kernel) (pa_cons pe_we (pa_cons pe_we pa_nil he2) he) (he := he) (hpl := hpl)) (ha s1 k _ fun v s2 k2 r2 => hb s2 (k.trans k2) _ fun u s3 k3 r3 => ?_)
    cases (show v = .ref a from r2)
    cases (show u = clsR X.K c from r3)
    exact ⟨fun dd e1 => by
      obtain ⟨fs, z⟩ := exR_xd hx dd e1
      exact ⟨fs, s3.sub _ _ (((k.trans k2).trans k3).f _ _ z)⟩, clsR X.K c, clsV X.K c, b, rfl, cls_cv X.K c, ETab.is_ok h hl, q _ s3 (k2.trans k3) rfl⟩
  · rw [if_neg hd] at hl; cases hl
theorem ev_xfI {f : Str} {er : Er} {d : Option Addr} {i : Int} {t : ETab} (h : t.ok X.K = true) (hl : erI t er f = some i) (hz : Zc (.ref (He.ga X.K er.c)) d oe) (hf : ∃ vs, oe.data = .fields vs) (hx : ExR X.K s.F er (.ref (He.ga X.K er.c)) d)
    (ha : Ev (X.suite a ((a, oe) :: pn)) e σ s (Rw.mk (.ref a))) (hb : attributeBase e f X.env (eval e X.env) = eval e X.env := by rfl) : Ev (X.suite a ((a, oe) :: pn)) (.Attribute e f pos) σ s i := fun s1 k Q q => by
  cases er with
  | pl c => cases hl
  | ps c g x => cases hl
  | pi c g j =>
    unfold erI at hl
    dsimp only at hl
    split at hl
    · rename_i hh
      obtain ⟨rfl, h2, h3⟩ := hh
      cases hl
      obtain ⟨_, dd, rfl, h5⟩ := hx
      refine we_of (pe_xf (ETab.xf_ok h h3) (ETab.fl_ok h h2) hz hf pe_we hb) (ha s1 k _ fun v s2 k2 r2 => ?_)
      cases (show v = .ref a from r2)
      exact ⟨rfl, rfl, dd, _, _, rfl, s2.sub _ _ ((k.trans k2).f _ _ h5), by simp, q _ s2 k2 rfl⟩
    · cases hl
theorem ev_xfS {f : Str} {er : Er} {d : Option Addr} {x : Str} {t : ETab} (h : t.ok X.K = true) (hl : erS t er f = some x) (hz : Zc (.ref (He.ga X.K er.c)) d oe) (hf : ∃ vs, oe.data = .fields vs) (hx : ExR X.K s.F er (.ref (He.ga X.K er.c)) d)
    (ha : Ev (X.suite a ((a, oe) :: pn)) e σ s (Rw.mk (.ref a))) (hb : attributeBase e f X.env (eval e X.env) = eval e X.env := by rfl) : Ev (X.suite a ((a, oe) :: pn)) (.Attribute e f pos) σ s x := fun s1 k Q q => by
  cases er with
  | pl c => cases hl
  | pi c g x => cases hl
  | ps c g j =>
    unfold erS at hl
    dsimp only at hl
    split at hl
    · rename_i hh
      obtain ⟨rfl, h2, h3⟩ := hh
      cases hl
      obtain ⟨_, dd, rfl, h5⟩ := hx
      refine we_of (pe_xf (ETab.xf_ok h h3) (ETab.fl_ok h h2) hz hf pe_we hb) (ha s1 k _ fun v s2 k2 r2 => ?_)
      cases (show v = .ref a from r2)
      exact ⟨rfl, rfl, dd, _, _, rfl, s2.sub _ _ ((k.trans k2).f _ _ h5), by simp, q _ s2 k2 rfl⟩
    · cases hl
theorem isEs_ds {t : ETab} {er : Er} {c : Str} {r : List Str} {b : Bool} (h : isEs t er (c :: r) = some b) : er.c ∈ t.ds := by
  unfold isEs isE at h
  by_cases hd : er.c ∈ t.ds
  · exact hd
  · rw [if_neg hd] at h; cases h
theorem names_of {c : Str} (h : X.mg c = some (.ref (He.ga X.K c))) (hg : Gl X c := by rfl) (hd : (c == ("__debug__" : Str)) = false := by decide) (hv : c ≠ ("ValueError" : Str) := by decide) : Names X c (clsV X.K c) := ⟨hg, hd, .inl (by rw [h]; exact congrArg some (if_neg hv).symm)⟩
theorem takes_false : Takes X (fun _ _ _ _ => False) := fun u s' ⟨_, _, _, _, _, _, _, _, _, _, _, _, _, _, _, _, h⟩ => h.elim
theorem ev_isEs {c0 : Str} {cr : List Str} {er : Er} {d : Option Addr} {cs : List Str} {b : Bool} {t : ETab} {n} (h : t.ok X.K = true) (hl : isEs t er cs = some b) (hz : Zc (.ref (He.ga X.K er.c)) d oe) (hf : ∃ vs, oe.data = .fields vs) (hx : ExR X.K s.F er (.ref (He.ga X.K er.c)) d) (hm : X.mg "isinstance" = none)
    (ha : Ev (X.suite a ((a, oe) :: pn)) e σ s (Rw.mk (.ref a))) (hb : EvE (X.suite a ((a, oe) :: pn)) es σ s (cs.map fun c => Rw.mk (clsR X.K c))) (hc : cs.length ≤ 1000) (e0 : cs = c0 :: cr := by rfl) (hg : Gl (X.suite a ((a, oe) :: pn)) "isinstance" := by rfl)
    (he : starEach [e, .Tuple es n p1] X.env = (false, eval e X.env) :: starEach [.Tuple es n p1] X.env := by rfl) (he2 : starEach [.Tuple es n p1] X.env = (false, eval (.Tuple es n p1) X.env) :: starEach [] X.env := by rfl) (hpl : (backTo pos (starEach [.Tuple es n p1] X.env)).any (·.1) = false := by rfl) :
    Ev (X.suite a ((a, oe) :: pn)) (.Call (.Name "isinstance" p0) [e, .Tuple es n p1] [] pos) σ s b := fun s1 k Q q =>
  we_of (pe_callB (call_isET (d := d) (ETab.ds_ok h (isEs_ds (by rw [e0] at hl; exact hl))) hz hf) hg hm (by decide +kernel) (pa_cons pe_we (pa_cons (pe_tup pa_wa) pa_nil he2) he) (he := he) (hpl := hpl)) (ha s1 k _ fun v s2 k2 r2 => hb s2 (k.trans k2) _ fun us s3 k3 r3 => by
    cases (show v = .ref a from r2)
    have e := rw_reps r3
    have e2 : us = cs.map (clsR X.K) := by rw [e, List.map_map]; rfl
    subst e2
    refine ⟨by rw [List.length_map, sizeLine_eq]; omega, fun p hp => ⟨fun dd e1 => ?_, p, _, cs.map (clsV X.K), b, rfl, upd_same, cls_all X.K cs, kit_any h hl, q _ (s3.newF p (.tup (cs.map (clsR X.K))) hp) ((k2.trans k3).trans (Ex.newF hp)) rfl⟩⟩
    obtain ⟨fs, z⟩ := exR_xd hx dd e1
    exact ⟨fs, (s3.newF p _ hp).sub _ _ ((((k.trans k2).trans k3).trans (Ex.newF hp)).f _ _ z)⟩)
end
section
variable {X : Cx} {σ : St} {s : S} {D : Ends} {rest : List Stmt} {e : Expr} {pos : Pos}
theorem do_dropX (h : EvX X e σ s) (hs : swapsWith e none pos.line X.env = pure false := by rfl) : WSs X (.Expr e pos :: rest) D σ s.H :=
  do_cons (ps_expr pe_we hs) (h s (Ex.refl _) _)
theorem do_retX (h : EvX X e σ s) : WSs X (.Return (some e) pos :: rest) D σ s.H := do_cons (ps_ret pe_we) (h s (Ex.refl _) _)
theorem do_setX (i : Nat) {n : Str} {py : Pos} (h : EvX X e σ s) (hN : X.N.Nodup) (hx : Loc X.env.scope n := by first | exact Or.inl rfl | exact Or.inr rfl) (hi : X.N[i]? = some n := by rfl)
    (hs : swapsWith e (some (.Name n py)) pos.line X.env = pure false := by rfl) (hf : X.fn n = true ∨ X.env.scope.names.lookup n = some .local := by first | exact .inl rfl | exact .inr rfl) : WSs X (.Assign [.Name n py] e pos :: rest) D σ s.H :=
  do_cons (ps_set hN hi hx pe_we hs hf) (h s (Ex.refl _) _)
theorem do_unpX (i j : Nat) {tg : Expr} (h : EvX X e σ s) (hg : PG X tg (gTup X.K 2 (gCons (gName i) (gCons (gName j) gNil)))) (hs : swapsWithSole [tg] e pos.line X.env = pure false := by rfl) (hw : swappedStores [tg] e X.env = pure none := by rfl)
    (h1 : (assignEach [tg] X.env).map (·.2) = [assign tg X.env] := by rfl) : WSs X (.Assign [tg] e pos :: rest) D σ s.H :=
  do_cons (ps_asg pe_we hg hs hw h1) (h s (Ex.refl _) _)
theorem was_of {K : PySem.W.Frag} {c : Value} {i : Nat} {ts : Addr → Value → Option Addr → TS} {Wout : WX} {cls : Value} {d : Option Addr} {σ : St} {H : Hp} (h1 : PySem.W.exmOne K cls c = some true)
    (h2 : ∀ a, H a = none → ts a cls d { nx := fun σ' H' => D.nx (σ'.set i none) H', rt := D.rt, bk := fun σ' H' => D.bk (σ'.set i none) H', ct := fun σ' H' => D.ct (σ'.set i none) H' } (σ.set i (some (.ref a))) H) : wAs K c i ts Wout D cls d σ H := ⟨true, h1, fun _ => h2, fun z => nomatch z⟩
theorem do_ifC {c : Expr} {A B : List Stmt} {x : Bool} (hc : EvT X c σ s x) (h1 : x = true → ∀ s1, Ex s s1 → WSs X A { D with nx := fun σ' H' => WSs X rest D σ' H' } σ s1.H) (h2 : x = false → ∀ s1, Ex s s1 → WSs X B { D with nx := fun σ' H' => WSs X rest D σ' H' } σ s1.H) : WSs X (.If c A B pos :: rest) D σ s.H :=
  do_cons (ps_if pt_wt pss_ws pss_ws) (hc s (Ex.refl _) _ fun s1 k => by
    cases x with
    | true => exact iteT (h1 rfl s1 k)
    | false => exact iteF (h2 rfl s1 k))
end

section
variable {α : Type} [Enc α] {X : Cx} {σ : St} {s : S} {a b : Expr} {pos : Pos}
theorem en_repO {p : Addr} {xs : List α} {n : Int} (ha : Ev X a σ s (Rw.mk (.ref p))) (o : Own X.K s p xs) (hb : ∀ t, Ex s t → Ev X b σ t n) (hz : RepOk n xs.length) : EvN X (.BinOp a .Mult b pos) σ s (repl n xs) := fun s1 k Q q =>
  we_of (pe_op op_rep pe_we pe_we) (ha s1 k _ fun v s2 k2 r2 => by
    cases (show v = V.ref p from r2)
    exact hb s2 (k.trans k2) s2 (Ex.refl _) _ fun u s3 k3 r3 => by
      obtain ⟨_, vs, h1, h2⟩ := o.ex ((k.trans k2).trans k3)
      exact ⟨p, n, vs, rfl, r3, h1, hz.1, hz.2.1, by rw [h2.len]; exact hz.2.2, fun l hl => q l (s3.newO l _ hl) ((k2.trans k3).trans (Ex.newO hl)) (fr_back (k2.trans k3) hl) (own_new hl (h2.repF _))⟩)
end
theorem goN {β ρ γ : Type} {b : β} {k : β → γ} {e : ρ → γ} {r : γ} (h : Fl.go (Fl.nx b) k e = r) : k b = r := h
def obsX (n : Nat) (fa : List He.Fa) (fn : List He.DefD) (gs : PySem.W.Frag → Bool) (g : Addr → Option Obj) : Bool × He.AlD := (gs (He.frG g (He.asD g n)), He.obsDG n fa fn g)
def hookX (n : Nat) (fa : List He.Fa) (fn : List He.DefD) (gs : PySem.W.Frag → Bool) : PySem.W.Hook where
  α := Bool × He.AlD
  obs := fun s => obsX n fa fn gs s.heap.get?
  val := fun _ => (true, He.valD fn)
  says := fun _ h => ∃ K : PySem.W.Frag, K.In h ∧ He.SaysD fa fn K ∧ gs K = true
  of := fun _ _ e => ⟨_, He.frG_in, congrArg (fun z : Bool × He.AlD => z.2) e, congrArg (fun z : Bool × He.AlD => z.1) e⟩
  keeps := fun _ _ _ ⟨K, hK, c, d⟩ k => ⟨K, PySem.W.Frag.In.keeps hK k, c, d⟩
theorem obsX_eq {n : Nat} {fa : List He.Fa} {fn : List He.DefD} {gs : PySem.W.Frag → Bool} {g : Addr → Option Obj} {s : Shared} (h : ∀ a, g a = s.heap.get? a) : obsX n fa fn gs g = (hookX n fa fn gs).obs s := by
  have e : g = s.heap.get? := funext h
  rw [e] <;> rfl
end Dy

namespace Dy
open PySem PySem.Spec L2
open PyProof.Rows hiding St
open Enc (rep)
open EncA (repA)

def oexB (K : PySem.W.Frag) (C : Addr) : Bool := match K.lookup C with
  | some ⟨.type "type", _, .cls cd, sl⟩ => (match cd.mro, sl.toList with
    | .ref C' :: bm, [_, _, _, _, some (.builtin n), _] => C' == C && (n == "ValueError.__new__" && (!cd.hasDel && (cd.hasDict && PySem.HandSPX.refsVE bm)))
    | _, _ => false)
  | _ => false
theorem oexB_ok {K : PySem.W.Frag} {C : Addr} (h : oexB K C = true) : ∃ nm q N bs bm sn sub ab col dd k0 k1 k2 k3 k5, K.lookup C = some (excClassObj nm q C N bs bm true sn sub ab col dd k0 k1 k2 k3 k5 "ValueError.__new__") ∧ PySem.HandSPX.refsVE bm = true := by
  unfold oexB at h
  split at h
  · rename_i dd cd sl ho
    split at h
    · rename_i C' bm k0 k1 k2 k3 n k5 hm hs
      simp only [Bool.and_eq_true, beq_iff_eq, Bool.not_eq_true'] at h
      obtain ⟨rfl, rfl, h1, h2, h3⟩ := h
      obtain ⟨nm, bs, mro, ns, qn, hd, sn, sub, ab, col, del⟩ := cd
      dsimp only at hm h1 h2
      subst hm h1 h2
      obtain ⟨l⟩ := sl
      simp only at hs
      subst hs
      exact ⟨nm, qn, ns, bs, bm, sn, sub, ab, col, dd, k0, k1, k2, k3, k5, ho, h3⟩
    · cases h
  · cases h
def payB (K : PySem.W.Frag) (c f : Str) : Bool := oexB K (He.ga K c) && (He.eqO (PySem.W.findIn K (.ref (He.ga K c)) "__setattr__") (some (some (.builtin "object.__setattr__"))) && (decide (PySem.W.subIn K (.ref (He.ga K c)) (.type "BaseException") = some true) && (decide (PySem.W.typeIn K (.ref (He.ga K c)) = some (.type "type")) &&
  (PySem.W.keepIn K (.ref (He.ga K c)) && (He.eqO (PySem.W.findIn K (.ref (He.ga K c)) "__init__") (some (some (.ref (He.fAd K (c, some "__init__"))))) && (decide (PySem.W.typeIn K (.ref (He.fAd K (c, some "__init__"))) = some (.type "function")) && He.eqO (PySem.W.findIn K (.ref (He.ga K c)) f) (some none)))))))
structure PayF (K : PySem.W.Frag) (c f : Str) : Prop where
  o : OexC K (He.ga K c)
  i : PySem.W.findIn K (.ref (He.ga K c)) "__init__" = some (some (.ref (He.fAd K (c, some "__init__"))))
  t : PySem.W.typeIn K (.ref (He.fAd K (c, some "__init__"))) = some (.type "function")
  n : PySem.W.findIn K (.ref (He.ga K c)) f = some none
theorem payB_ok {K : PySem.W.Frag} {c f : Str} (h : payB K c f = true) : PayF K c f := by
  unfold payB at h
  obtain ⟨h1, h⟩ := He.ba h
  obtain ⟨h2, h⟩ := He.ba h
  obtain ⟨h3, h⟩ := He.ba h
  obtain ⟨h4, h⟩ := He.ba h
  obtain ⟨h5, h⟩ := He.ba h
  obtain ⟨h6, h⟩ := He.ba h
  obtain ⟨h7, h8⟩ := He.ba h
  exact ⟨⟨oexB_ok h1, He.eqO_ok h2, of_decide_eq_true h3, of_decide_eq_true h4, h5⟩, He.eqO_ok h6, of_decide_eq_true h7, He.eqO_ok h8⟩
def spInit (K : PySem.W.Frag) (f : Str) : Sp := fun vs H Q _ => ∃ (a C : Addr) (v : V), vs = [.ref a, v] ∧ H a = some (exo a C none) ∧ OexC K C ∧ PySem.W.findIn K (.ref C) f = some none ∧ ∀ dx, H dx = none → dx ≠ a → Q .non (upd (upd H dx (exd dx [(f, v)])) a (exo a C (some dx)))
section
variable {P : Program} {w : World} {K : PySem.W.Frag} {mg : Str → Option Value} {base : Heap}
theorem mk_init {f x : Str} {ar : Arguments} {sc : Scope} {q : Str} {fI : Addr} {fd : FuncData} {k : Nat} {p1 p2 p3 p4 : Pos} (F : FunD K "__init__" q ar [.Assign [.Attribute (.Name "self" p1) f p2] (.Name x p3) p4] sc [] [] fI fd) (Sc : FnScope ["self", x] ["self", x] sc)
    (hv : ∀ (cdv : Value) (A' : Around) (outer : List Env) (s0 : Shared) (H0 : Hp) (E0 : XK), Vis (cxOf CX0 P w K mg base ["self", x] q sc fI cdv A' outer s0 H0 E0).nox.env.scope "self" ∧ Vis (cxOf CX0 P w K mg base ["self", x] q sc fI cdv A' outer s0 H0 E0).nox.env.scope x ∧
      swapsWith (.Name x p3) (some (.Attribute (.Name "self" p1) f p2)) p4.line (cxOf CX0 P w K mg base ["self", x] q sc fI cdv A' outer s0 H0 E0).nox.env = pure false)
    (hx : (x == ("__debug__" : Str)) = false := by decide) (hx2 : (x == ("__classdict__" : Str)) = false := by decide) : FnOk P w K mg base CX0 (k + 1) fI fd ["self", x] (spInit K f) :=
  F.ok Sc (fun vs H Q E ⟨a, C, v, e, _⟩ => by rw [e]; rfl) (fun cdv A' outer s0 H0 vs Q E hr ⟨a, C, v, e, h1, h2, h3, h4⟩ => by
    obtain ⟨v1, v2, v3⟩ := hv cdv A' outer s0 H0 E
    subst e
    exact ⟨_, PSs.nox (pss_cons (ps_ost (pe_var (i := 0) rfl v1 (by decide) (by decide)) (pe_var (i := 1) rfl v2 hx hx2) v3) pss_nil), v, rfl, .ref a, rfl, a, C, rfl, h2, h3, .inl ⟨h1, fun dx n ne => h4 dx n ne⟩⟩)
end
section
variable {X : Cx} {σ : St} {s : S} {D : Ends} {rest : List Stmt} {W : WX} {e : Expr}
theorem do_raiseI {c f : Str} {fd : FuncData} {ps : List Str} {k j : Nat} {i : Int} {p pos pos' : Pos} (T : PayF X.K c f) (gC : X.mg c = some (.ref (He.ga X.K c))) (F1 : FnOk X.prog X.w X.K X.mg X.base CX0 k (He.fAd X.K (c, some "__init__")) fd ps (spInit X.K f)) (hb : Binds X.K fd ps [])
    (tk : Takes X W) (hr : Room j X.A) (hk : k + 1 ≤ j) (ha : Ev X e σ s i) (h : ∀ d s1, Ex s s1 → s1.F d = some (.xd [(f, V.int i)]) → W (.ref (He.ga X.K c)) (some d) σ s1.H)
    (hc : X.calm = true := by rfl) (hg : Gl X c := by rfl) (hdb : (c == ("__debug__" : Str)) = false := by decide) (he : starEach [e] X.env = (false, eval e X.env) :: starEach [] X.env := by rfl) (hpl : (backTo pos (starEach [] X.env)).any (·.1) = false := by rfl) :
    WSs X (.Raise (some (.Call (.Name c p) [e] [] pos)) none pos' :: rest) D σ s.H :=
  do_cons (ps_raise hc tk (pmk_oex T.o T.i T.t F1 (hr.mono hk) hb .nil pass0 hg gC (pa_cons pe_we pa_nil he) hdb he hpl)) (ha s (Ex.refl _) _ fun v s2 k2 r2 => by
    obtain rfl : v = V.int i := r2
    refine ⟨by simp, fun a hna => ⟨a, He.ga X.K c, V.int i, rfl, upd_same, T.o, T.n, fun dx h1 h2 => ?_⟩⟩
    have hdx : s2.H dx = none := by rw [upd_ne h2] at h1; exact h1
    refine ⟨rfl, dx, _, upd_same, by rw [upd_ne h2, upd_same], hdx, ?_⟩
    have eH : upd (del (upd (upd (upd s2.H a (exo a (He.ga X.K c) none)) dx (exd dx [(f, V.int i)])) a (exo a (He.ga X.K c) (some dx))) a) dx (.xd [(f, V.int i)]) = (s2.newF dx (.xd [(f, V.int i)]) hdx).H := by
      funext b
      show _ = upd s2.H dx (.xd [(f, V.int i)]) b
      by_cases hb1 : b = dx
      · subst hb1; rw [upd_same, upd_same]
      · rw [upd_ne hb1, upd_ne hb1]
        by_cases hb2 : b = a
        · subst hb2; rw [del_same, hna]
        · rw [del_ne hb2, upd_ne hb2, upd_ne hb1, upd_ne hb2]
    rw [eH]
    exact h dx _ (k2.trans (Ex.newF hdx)) upd_same)
end
def InitOk (P : Program) (w : World) (K : PySem.W.Frag) (mg : Str → Option Value) (base : Heap) (c f : Str) : Prop := ∃ (fd : FuncData) (ps : List Str), FnOk P w K mg base CX0 1 (He.fAd K (c, some "__init__")) fd ps (spInit K f) ∧ Binds K fd ps []
section
variable {α : Type} [Enc α] {X : Cx} {σ : St} {s : S} {e : Expr}
theorem ev_t2u {x : α × α} (h : Ev X e σ s x) : Ev X e σ s (⟨[x.1, x.2]⟩ : Tu α) := fun s1 k Q q => h s1 k Q fun v s2 k2 r => q v s2 k2 (by
  obtain ⟨p, v1, v2, rfl, h0, h1, h2⟩ := r
  exact ⟨p, [v1, v2], rfl, h0, h1, h2, trivial⟩)
end
class Arity (α : Type) (n : outParam Nat) extends Enc α where
  ar : ∀ {K : PySem.W.Frag} {F : Hp} {v : V} {x : α}, rep K F v x → ∃ p vs, v = .ref p ∧ SqT K F p vs ∧ vs.length = n
instance {α β : Type} [Enc α] [Enc β] : Arity (α × β) 2 := ⟨fun h => by
  obtain ⟨p, v1, v2, e, h, _⟩ := h
  exact ⟨p, _, e, h, rfl⟩⟩
instance {α β γ : Type} [Enc α] [Enc β] [Enc γ] : Arity (T3 α β γ) 3 := ⟨fun h => by
  obtain ⟨p, v1, v2, v3, e, h, _⟩ := h
  exact ⟨p, _, e, h, rfl⟩⟩
section
variable {α : Type} {X : Cx} {σ : St} {s : S} {e : Expr} {p0 pos : Pos}
theorem ev_lenA {n : Nat} [Arity α n] {x : α} (hm : X.mg "len" = none) (ha : Ev X e σ s x) (hg : Gl X "len" := by rfl) (he : starEach [e] X.env = (false, eval e X.env) :: starEach [] X.env := by rfl) (hpl : (backTo pos (starEach [] X.env)).any (·.1) = false := by rfl) : Ev X (.Call (.Name "len" p0) [e] [] pos) σ s (n : Int) :=
  ev_B1 call_len_seq hg hm boot_len ha (fun v s2 r2 Q q => by
    obtain ⟨p, vs, rfl, h1, h2⟩ := Arity.ar r2
    exact ⟨p, vs, rfl, .inr (sqt_mono s2.sub h1), q _ s2 (Ex.refl _) (by rw [h2]; rfl)⟩) (he := he) (hpl := hpl)
end
end Dy

namespace Dy
open PySem PySem.Spec L2
open PyProof.Rows hiding St
open Enc (rep)

def dsz (ns : List Int) : Nat := (PyProof.Rows.firstMet (fun i => ns.getD i 0) ns.length).length
section
variable {X : Cx} {a : Expr} {ta : TE} {p p2 q pos : Pos}
def tDsz (K : PySem.W.Frag) (ta : TE) : TE := fun σ H Q => ta σ H fun x H1 => ∃ (l : Addr) (ns : List Int), x = .ref l ∧ SqL K H1 l (ns.map V.int) ∧ ns.length ≤ 4000 ∧ dsz ns ≤ ns.length ∧ Q (.int (dsz ns : Nat)) H1
theorem pe_dsz (hg : Gl X "len") (hm : X.mg "len" = none) (hg2 : Gl X "set") (hm2 : X.mg "set" = none) (ha : PE X a ta) (hc : X.calm = true := by rfl)
    (na : starEach [a] X.env = (false, eval a X.env) :: starEach [] X.env := by rfl) : PE X (.Call (.Name "len" p) [.Call (.Name "set" p2) [a] [] q] [] pos) (tDsz X.K ta) := by
  refine ⟨fun pins s σ H Q I h => ?_⟩
  refine Call_ (ld_blt I hg hm boot_len (PyProof.Rows.callWith_builtin1 (PyProof.Rows.args_cons (Call_ (ld_blt I hg2 hm2 boot_set (PyProof.Rows.callWith_type1 (PyProof.Rows.args_cons (thn (ha.run pins s σ H _ I h) fun v s1 ⟨x, H1, I1, r1, l, ns, e, hq, hl, hd0, q1⟩ => PyProof.Rows.args_nil ?_) na) na rfl))) rfl) rfl rfl))
  subst e
  cases r1
  obtain ⟨its, r, pl, hz⟩ := I1.list hq
  have hlen : its.toArray.size = ns.length := by rw [List.size_toArray, ← r.length, List.length_map]
  refine call_set_list (I1.ok.hd hc) pl.isList (by simpa using RZ.intsAre_vals r) (by rw [hlen]; unfold scanBound; omega) fun h' tk hS hk => PyProof.Rows.args_nil ?_
  rw [hlen] at hS
  obtain ⟨o, es, ep, t, ho, hex, hd, _, _, _, hf, hn⟩ := hS
  have I2 : Inv X pins σ H1 { s1 with heap := h', toks := tk } := I1.kept fun b o e => hk b o (Heap.lt_size e) e
  unfold dsz at hd0 q1
  exact call_len_set ho hex hd hf (by rw [hn] <;> omega) ⟨.int (dsz ns : Nat), H1, I2.tok _, ⟨_, by rw [hn]; rfl⟩, q1⟩
theorem dsz_le (ns : List Int) : dsz ns ≤ ns.length := PyProof.Rows.firstMet_length_le _ _
variable {σ : St} {s : S}
theorem ev_dsz {xs : List Int} (hm : X.mg "len" = none) (hm2 : X.mg "set" = none) (ha : EvR X a σ s xs) (hz : xs.length ≤ 4000) (hc : X.calm = true := by rfl) (hg : Gl X "len" := by rfl) (hg2 : Gl X "set" := by rfl) (na : starEach [a] X.env = (false, eval a X.env) :: starEach [] X.env := by rfl) :
    Ev X (.Call (.Name "len" p) [.Call (.Name "set" p2) [a] [] q] [] pos) σ s ((dsz xs : Nat) : Int) := fun s1 k Q qq =>
  we_of (pe_dsz hg hm hg2 hm2 pe_we hc na) (ha s1 k _ fun v s2 k2 r2 => by
    obtain ⟨p, vs, rfl, h1, h2⟩ := r2
    obtain rfl := h2.flat
    exact ⟨p, xs, rfl, h1, hz, dsz_le xs, qq _ s2 k2 rfl⟩)
end
theorem fm_inv (ns : List Int) : ∀ i, i ≤ ns.length → (∀ x, x ∈ PyProof.Rows.firstMet (fun i => ns.getD i 0) i ↔ x ∈ ns.take i) ∧ ((PyProof.Rows.firstMet (fun i => ns.getD i 0) i).length = i ↔ (ns.take i).Nodup)
  | 0, _ => by
    rw [PyProof.Rows.firstMet_zero]
    simp
  | i + 1, h => by
    obtain ⟨h1, h2⟩ := fm_inv ns i (by omega)
    have h3 := PyProof.Rows.firstMet_length_le (fun i => ns.getD i 0) i
    have e1 : ns.getD i 0 = ns[i] := by rw [List.getD_eq_getElem?_getD, List.getElem?_eq_getElem (by omega)]; rfl
    have e2 : ns.take (i + 1) = ns.take i ++ [ns[i]] := by rw [List.take_add_one, List.getElem?_eq_getElem (by omega)]; rfl
    rw [PyProof.Rows.firstMet_succ, e2]
    generalize PyProof.Rows.firstMet (fun i => ns.getD i 0) i = m at *
    have e3 : PyProof.Rows.step_dedup m (ns.getD i 0) = if ns[i] ∈ m then m else m ++ [ns[i]] := by
      unfold PyProof.Rows.step_dedup
      rw [e1]
      have e4 : (m.any fun x => x == ns[i]) = true ↔ ns[i] ∈ m := by
        rw [List.any_eq_true]
        exact ⟨fun ⟨y, hy, ey⟩ => eq_of_beq ey ▸ hy, fun hm => ⟨_, hm, beq_self_eq_true _⟩⟩
      by_cases hm : ns[i] ∈ m
      · rw [if_pos hm, if_pos (e4.mpr hm)]
      · rw [if_neg hm, if_neg (fun z => hm (e4.mp z))]
    show (∀ x, x ∈ PyProof.Rows.step_dedup m (ns.getD i 0) ↔ _) ∧ ((PyProof.Rows.step_dedup m (ns.getD i 0)).length = i + 1 ↔ _)
    rw [e3]
    by_cases hm : ns[i] ∈ m
    · rw [if_pos hm]
      have hm2 := (h1 _).mp hm
      refine ⟨fun x => ?_, fun e => by omega, fun hn => ?_⟩
      · rw [List.mem_append, h1, List.mem_singleton]
        exact ⟨.inl, fun z => z.elim id fun z => z ▸ hm2⟩
      · exact absurd rfl ((List.nodup_append.mp hn).2.2 _ hm2 _ (List.mem_singleton.mpr rfl))
    · rw [if_neg hm]
      have hm2 : ns[i] ∉ ns.take i := fun z => hm ((h1 _).mpr z)
      refine ⟨fun x => by rw [List.mem_append, List.mem_append, h1], fun e => ?_, fun hn => ?_⟩
      · rw [List.length_append, List.length_singleton] at e
        refine List.nodup_append.mpr ⟨h2.mp (by omega), by simp, fun a ha b hb e => ?_⟩
        rw [List.mem_singleton.mp hb] at e
        exact hm2 (e ▸ ha)
      · rw [List.length_append, List.length_singleton, h2.mpr (List.nodup_append.mp hn).1]
theorem dsz_eq (ns : List Int) : dsz ns = ns.length ↔ ns.Nodup := by
  have := (fm_inv ns ns.length (Nat.le_refl _)).2
  rw [List.take_length] at this
  exact this
structure HL2 (α β : Type) where
  a : α
  b : β
deriving DecidableEq
instance {α β : Type} [Enc α] [Enc β] : Enc (HL2 α β) := ⟨fun K F v x => ∃ p v1 v2, v = .ref p ∧ SqL K F p [v1, v2] ∧ rep K F v1 x.a ∧ rep K F v2 x.b, fun e h => by
  obtain ⟨p, v1, v2, rfl, h0, h1, h2⟩ := h
  exact ⟨p, v1, v2, rfl, sql_mono e h0, Enc.mono e h1, Enc.mono e h2⟩⟩
instance {α β : Type} [EqD α] [EqD β] : EqD (HL2 α β) := ⟨fun x => .list [EqD.toD x.a, EqD.toD x.b], fun h f => by
  obtain ⟨p, v1, v2, rfl, h0, h1, h2⟩ := h
  exact .lst (sql_mono f h0) (.cons (EqD.dp h1 f) (.cons (EqD.dp h2 f) .nil)), fun x y => by
    obtain ⟨x1, x2⟩ := x
    obtain ⟨y1, y2⟩ := y
    show (PyData.eqv _ _ && (PyData.eqv _ _ && true)) = true ↔ _
    rw [Bool.and_eq_true, Bool.and_eq_true, EqD.eqv, EqD.eqv]; simp⟩
section
variable {α β : Type} [Enc α] [Enc β] {X : Cx} {σ : St} {s : S} {es : List Expr} {pos : Pos}
theorem ev_hl2 {x : α} {y : β} (h : EvA X es σ s (x, y, ())) : Ev X (.List es pos) σ s (⟨x, y⟩ : HL2 α β) := fun s1 k Q q =>
  we_of (pe_lst pa_wa) (h s1 k _ fun vs s2 k2 r2 => by
    obtain ⟨v1, _, rfl, r1, v2, _, rfl, r2, rfl⟩ := r2
    exact ⟨show _ ≤ 2 ^ 24 by simp, fun p hp => q _ (s2.newF p (.lst [v1, v2]) hp) (k2.trans (Ex.newF hp)) ⟨p, v1, v2, rfl, .inl (.inl upd_same), Enc.mono (Ex.newF hp).f r1, Enc.mono (Ex.newF hp).f r2⟩⟩)
end
def relS (scope sc : Scope) : Scope := { scope with names := scope.names.map fun (n, k) => if (k == .free && sc.kind == .function && sc.names.lookup n == some .cell) then (n, .cell) else (n, k) }
theorem blkOk_n {N : List Str} {scope1 sc0 scope : Scope} {env : Env} {own : List (Str × Nat)} (e : env.scope = sc0) (h : blkC N (relS scope1 sc0) scope own = true) : BlkOk N (relabel scope1 env) scope own := by
  have : relabel scope1 env = relS scope1 sc0 := by subst e; rfl
  rw [this]
  exact blkOk_by h
end Dy

namespace Dy
open PySem PySem.Spec L2
open PyProof.Rows hiding St
open Enc (rep)

inductive An where
  | b (x : Bool)
  | i (x : Int)
  | o (x : Option Int)
  | s (x : Str)
  | l (xs : List Int)
  | ls (xs : List Str)
  | ts (xs : Tu Str)
instance : Enc An := ⟨fun K F v x => match x with
  | .b x => rep K F v x
  | .i x => rep K F v x
  | .o x => rep K F v x
  | .s x => rep K F v x
  | .l x => rep K F v x
  | .ls x => rep K F v x
  | .ts x => rep K F v x, fun {K F F' v x} e h => by
  cases x with
  | b x => exact Enc.mono (α := Bool) e h
  | i x => exact Enc.mono (α := Int) e h
  | o x => exact Enc.mono (α := Option Int) e h
  | s x => exact Enc.mono (α := Str) e h
  | l x => exact Enc.mono (α := List Int) e h
  | ls x => exact Enc.mono (α := List Str) e h
  | ts x => exact Enc.mono (α := Tu Str) e h⟩
class ToD (α : Type) extends Enc α where
  td : α → PyData
  tdp : ∀ {K : PySem.W.Frag} {F H : Hp} {v : V} {x : α}, rep K F v x → Fle F H → Dp K H v (td x)
instance : ToD An := ⟨fun x => match x with
  | .b x => EqD.toD x
  | .i x => EqD.toD x
  | .o x => EqD.toD x
  | .s x => EqD.toD x
  | .l x => EqD.toD x
  | .ls x => EqD.toD x
  | .ts x => EqD.toD x, fun {K F H v x} h f => by
  cases x with
  | b x => exact EqD.dp (α := Bool) h f
  | i x => exact EqD.dp (α := Int) h f
  | o x => exact EqD.dp (α := Option Int) h f
  | s x => exact EqD.dp (α := Str) h f
  | l x => exact EqD.dp (α := List Int) h f
  | ls x => exact EqD.dp (α := List Str) h f
  | ts x => exact EqD.dp (α := Tu Str) h f⟩
instance {α : Type} [EqD α] : ToD (α × An) := ⟨fun x => .tuple [EqD.toD x.1, ToD.td x.2], fun h f => by
  obtain ⟨p, v1, v2, rfl, h0, h1, h2⟩ := h
  exact .tup (sqt_mono f h0) (.cons (EqD.dp h1 f) (.cons (ToD.tdp h2 f) .nil))⟩
def eqvD {α : Type} [ToD α] (x y : α) : Bool := PyData.eqv (ToD.td x) (ToD.td y)
def shpD {α : Type} [ToD α] (x : α) : Prop := SeqAt.shaped (ToD.td x) = true
section
variable {α : Type} {X : Cx} {σ : St} {s : S} {a b e : Expr} {pos : Pos}
theorem eb_eqV [ToD α] {x y : α} {j : Nat} (hr : Room j X.A) (ha : Ev X a σ s x) (hb : Ev X b σ s y) (h1 : shpD x) (h2 : shpD y) : EvB X (.Compare a [.Eq] [b] pos) σ s (eqvD x y) :=
  eb_cmp (op_eqD (hu64 hr)) ha hb (fun v u s2 hv hu Q q => ⟨_, _, ToD.tdp hv s2.sub, ToD.tdp hu s2.sub, h1, h2, q⟩) (nomark _)
theorem eb_neV [ToD α] {x y : α} {j : Nat} (hr : Room j X.A) (ha : Ev X a σ s x) (hb : Ev X b σ s y) (h1 : shpD x) (h2 : shpD y) : EvB X (.Compare a [.NotEq] [b] pos) σ s (!eqvD x y) :=
  eb_cmp (op_neD (hu64 hr)) ha hb (fun v u s2 hv hu Q q => ⟨_, _, ToD.tdp hv s2.sub, ToD.tdp hu s2.sub, h1, h2, q⟩) (nomark _)
theorem an_b {x : Bool} (h : Ev X e σ s x) : Ev X e σ s (An.b x) := h
theorem an_i {x : Int} (h : Ev X e σ s x) : Ev X e σ s (An.i x) := h
theorem an_o {x : Option Int} (h : Ev X e σ s x) : Ev X e σ s (An.o x) := h
theorem an_s {x : Str} (h : Ev X e σ s x) : Ev X e σ s (An.s x) := h
theorem an_l {x : List Int} (h : Ev X e σ s x) : Ev X e σ s (An.l x) := h
theorem an_ls {x : List Str} (h : Ev X e σ s x) : Ev X e σ s (An.ls x) := h
theorem an_ts {x : Tu Str} (h : Ev X e σ s x) : Ev X e σ s (An.ts x) := h
def anB : An → Option Bool
  | .b x => some x
  | _ => none
theorem ev_anB {x : An} {y : Bool} (h : Ev X e σ s x) (hy : anB x = some y) : Ev X e σ s y := by
  cases x with
  | b z => cases hy; exact h
  | _ => cases hy
end
end Dy

namespace Dy
open PySem PySem.Spec L2
open PyProof.Rows hiding St
open Enc (rep)
open Flat (toV)
open EncA (repA)

structure OA where
  p : PySem.W.Frag → Hp → Hp → (Addr → Prop) → Prop
  mono : ∀ {K : PySem.W.Frag} {F F' H : Hp} {P : Addr → Prop}, Fle F F' → p K F H P → p K F' H P
  loc : ∀ {K : PySem.W.Frag} {F H H' : Hp} {P : Addr → Prop}, (∀ a, P a → H' a = H a) → p K F H P → p K F H' P
  dom : ∀ {K : PySem.W.Frag} {F H : Hp} {P : Addr → Prop} {a : Addr}, p K F H P → P a → ∃ o, H a = some o
def top : OA := ⟨fun _ _ _ P => ∀ a, ¬ P a, fun _ h => h, fun _ h => h, fun h q => absurd q (h _)⟩
def fz {α : Type} [Enc α] (v : V) (x : α) : OA := ⟨fun K F _ P => rep K F v x ∧ ∀ a, ¬ P a, fun e h => ⟨Enc.mono e h.1, h.2⟩, fun _ h => h, fun h q => absurd q (h.2 _)⟩
def ol {α : Type} [Enc α] (p : Addr) (xs : List α) : OA := ⟨fun K F H P => (∀ a, P a ↔ a = p) ∧ ∃ vs, H p = some (.lst vs) ∧ Reps K F vs xs, fun e ⟨h0, vs, h1, h2⟩ => ⟨h0, vs, h1, h2.mono e⟩,
  fun e ⟨h0, vs, h1, h2⟩ => ⟨h0, vs, by rw [e p ((h0 p).mpr rfl)]; exact h1, h2⟩, fun ⟨h0, vs, h1, h2⟩ q => ⟨_, (congrArg _ ((h0 _).mp q)).trans h1⟩⟩
class DKey (κ : Type) extends Eqs κ where
  dec : DecidableEq κ
  toK : κ → Key
  kv : ∀ k, kV (toK k) = toV k
  kinj : ∀ a b, toK a = toK b ↔ a = b
instance : DKey Int := { dec := inferInstance, toK := Sum.inl, kv := fun _ => rfl, kinj := fun a b => ⟨fun h => Sum.inl.inj h, fun h => by rw [h]⟩ }
instance : DKey Str := { dec := inferInstance, toK := Sum.inr, kv := fun _ => rfl, kinj := fun a b => ⟨fun h => Sum.inr.inj h, fun h => by rw [h]⟩ }
def KReps {κ α : Type} [DKey κ] [Enc α] (K : PySem.W.Frag) (F : Hp) : List (Key × V) → List (κ × α) → Prop
  | [], [] => True
  | (k, v) :: r, (j, x) :: xs => k = DKey.toK j ∧ rep K F v x ∧ KReps K F r xs
  | _, _ => False
theorem KReps.mono {κ α : Type} [DKey κ] [Enc α] {K : PySem.W.Frag} {F F' : Hp} (e : Fle F F') : ∀ {kv : List (Key × V)} {xs : List (κ × α)}, KReps K F kv xs → KReps K F' kv xs
  | [], [], _ => trivial
  | _ :: _, _ :: _, ⟨h1, h2, t⟩ => ⟨h1, Enc.mono e h2, KReps.mono e t⟩
  | [], _ :: _, h => h.elim
  | _ :: _, [], h => h.elim
theorem KReps.len {κ α : Type} [DKey κ] [Enc α] {K : PySem.W.Frag} {F : Hp} : ∀ {kv : List (Key × V)} {xs : List (κ × α)}, KReps K F kv xs → kv.length = xs.length
  | [], [], _ => rfl
  | _ :: _, _ :: _, ⟨_, _, t⟩ => congrArg (· + 1) (KReps.len t)
  | [], _ :: _, h => h.elim
  | _ :: _, [], h => h.elim
def od {κ α : Type} [DKey κ] [Enc α] (p : Addr) (xs : List (κ × α)) : OA := ⟨fun K F H P => (∀ a, P a ↔ a = p) ∧ ∃ kv, H p = some (.dK kv) ∧ KReps K F kv xs, fun e ⟨h0, vs, h1, h2⟩ => ⟨h0, vs, h1, h2.mono e⟩,
  fun e ⟨h0, vs, h1, h2⟩ => ⟨h0, vs, by rw [e p ((h0 p).mpr rfl)]; exact h1, h2⟩, fun ⟨h0, vs, h1, h2⟩ q => ⟨_, (congrArg _ ((h0 _).mp q)).trans h1⟩⟩
def odl {κ α : Type} [DKey κ] [Enc α] (p : Addr) (o : Obj) (kv : List (Key × V)) (xs : List (κ × α)) : OA := ⟨fun K F H P => (∀ a, P a ↔ a = p) ∧ H p = some (.frz o (.dK kv)) ∧ KReps K F kv xs, fun e ⟨h0, h1, h2⟩ => ⟨h0, h1, h2.mono e⟩,
  fun e ⟨h0, h1, h2⟩ => ⟨h0, by rw [e p ((h0 p).mpr rfl)]; exact h1, h2⟩, fun ⟨h0, h1, h2⟩ q => ⟨_, (congrArg _ ((h0 _).mp q)).trans h1⟩⟩
def cell (p : Addr) (c : Str) (fs : List (Str × V)) : OA := ⟨fun K F H P => ∃ dx, (∀ a, P a ↔ (a = p ∨ a = dx)) ∧ H p = some (.ins (He.ga K c) dx fs) ∧ H dx = some (.own p), fun e h => h,
  fun e ⟨dx, h0, h1, h2⟩ => ⟨dx, h0, by rw [e p ((h0 p).mpr (.inl rfl))]; exact h1, by rw [e dx ((h0 dx).mpr (.inr rfl))]; exact h2⟩, fun ⟨dx, h0, h1, h2⟩ q => by
    rcases (h0 _).mp q with rfl | rfl
    · exact ⟨_, h1⟩
    · exact ⟨_, h2⟩⟩

structure Mz (P : Addr → Prop) (s t : S) : Prop where
  f : Fle s.F t.F
  h : ∀ a o, s.H a = some o → ¬ P a → t.H a = some o
  n : ∀ a o, s.H a = some o → ¬ P a → s.F a = none → t.F a = none
  d : ∀ a o, s.H a = some o → ∃ u, t.H a = some u
theorem Mx.z {P : Addr → Prop} {s t : S} (m : Mx P s t) : Mz P s t := ⟨m.f, m.h, fun a o h _ q => m.n a o h q, m.d⟩
theorem Ex.z {P : Addr → Prop} {s t : S} (e : Ex s t) : Mz P s t := e.mx.z
theorem Mz.trans {P : Addr → Prop} {s t u : S} (a : Mz P s t) (b : Mz P t u) : Mz P s u :=
  ⟨fun x o h => b.f x o (a.f x o h), fun x o h n => b.h x o (a.h x o h n) n,
   fun x o h p n => by obtain ⟨v, hv⟩ := a.d x o h; exact b.n x v hv p (a.n x o h p n),
   fun x o h => by obtain ⟨v, hv⟩ := a.d x o h; exact b.d x v hv⟩
theorem Mz.fr_back {P : Addr → Prop} {s t : S} (e : Mz P s t) {p : Addr} (h : t.H p = none) : s.H p = none := by
  cases q : s.H p with
  | none => rfl
  | some o => obtain ⟨u, z⟩ := e.d p o q; rw [z] at h; cases h
structure Iv (K : PySem.W.Frag) (P0 : Addr → Prop) (s0 s : S) (L : List OA) : Prop where
  m : Mz P0 s0 s
  o : ∃ φ : Nat → Addr → Prop, (∀ (i : Nat) (A : OA), L[i]? = some A → A.p K s.F s.H (φ i)) ∧ (∀ (i j : Nat) (a : Addr), φ i a → φ j a → i = j) ∧ (∀ (i : Nat) (a : Addr), φ i a → s.F a = none ∧ (P0 a ∨ s0.H a = none) ∧ i < L.length)
section
variable {α β κ : Type} [Enc α] [Enc β] [DKey κ] {K : PySem.W.Frag} {P0 : Addr → Prop} {s0 s s1 t : S} {L M : List OA}
theorem Iv.fz (h : Iv K P0 s0 s L) (i : Nat) {v : V} {x : α} (e : L[i]? = some (Dy.fz v x) := by rfl) : rep K s.F v x := by
  obtain ⟨φ, h1, _⟩ := h.o
  exact (h1 i _ e).1
theorem Iv.ol (h : Iv K P0 s0 s L) (i : Nat) {p : Addr} {xs : List α} (e : L[i]? = some (Dy.ol p xs) := by rfl) : Own K s p xs := by
  obtain ⟨φ, h1, h2, h3⟩ := h.o
  obtain ⟨q, vs, hp, r⟩ := h1 i _ e
  exact ⟨(h3 i p ((q p).mpr rfl)).1, vs, hp, r⟩
theorem Iv.at (h : Iv K P0 s0 s L) (i : Nat) {A : OA} (e : L[i]? = some A := by rfl) : ∃ P, A.p K s.F s.H P ∧ ∀ a, P a → s.F a = none := by
  obtain ⟨φ, h1, h2, h3⟩ := h.o
  exact ⟨φ i, h1 i A e, fun a q => (h3 i a q).1⟩
theorem Iv.ex (h : Iv K P0 s0 s L) (e : Ex s s1) : Iv K P0 s0 s1 L := by
  obtain ⟨φ, h1, h2, h3⟩ := h.o
  refine ⟨h.m.trans e.z, φ, fun i A hA => ?_, h2, fun i a q => ?_⟩
  · have h4 := h1 i A hA
    exact A.mono e.f (A.loc (fun a q => by
      obtain ⟨o, ho⟩ := A.dom h4 q
      rw [ho]; exact e.h _ _ ho) h4)
  · obtain ⟨h5, h6, h7⟩ := h3 i a q
    obtain ⟨A, hA⟩ : ∃ A, L[i]? = some A := ⟨L[i], List.getElem?_eq_getElem h7⟩
    obtain ⟨o, ho⟩ := A.dom (h1 i A hA) q
    exact ⟨e.n _ _ ho h5, h6, h7⟩
theorem Iv.upd (h : Iv K P0 s0 s L) (i : Nat) {A A' : OA} (hA : L[i]? = some A) (st : ∀ P, A.p K s.F s.H P → (∀ a, P a → s.F a = none) → ∃ P', A'.p K s1.F s1.H P' ∧ (∀ a, P' a → s1.F a = none ∧ (P a ∨ s.H a = none)) ∧ Mz P s s1) : Iv K P0 s0 s1 (L.set i A') := by
  obtain ⟨φ, h1, h2, h3⟩ := h.o
  obtain ⟨P', g1, g2, g3⟩ := st (φ i) (h1 i A hA) fun a q => (h3 i a q).1
  have hi : i < L.length := (List.getElem?_eq_some_iff.mp hA).1
  have old : ∀ j a, φ j a → ∃ o, s.H a = some o := fun j a q => by
    obtain ⟨_, _, h7⟩ := h3 j a q
    exact (L[j]).dom (h1 j _ (List.getElem?_eq_getElem h7)) q
  have m1 : Mz P0 s0 s1 := by
    refine ⟨h.m.f.trans g3.f, fun a o q n => g3.h _ _ (h.m.h a o q n) fun z => ?_, fun a o q np n => ?_, fun a o q => ?_⟩
    · rcases (h3 i a z).2.1 with w | w
      · exact n w
      · rw [w] at q; cases q
    · obtain ⟨u, hu⟩ := h.m.d a o q
      exact g3.n a u hu (fun z => by
        rcases (h3 i a z).2.1 with w | w
        · exact np w
        · rw [w] at q; cases q) (h.m.n a o q np n)
    · obtain ⟨u, hu⟩ := h.m.d a o q
      exact g3.d a u hu
  refine ⟨m1, fun j a => if j = i then P' a else φ j a, fun j B hB => ?_, fun j k a => ?_, fun j a => ?_⟩
  · by_cases e : j = i
    · subst e
      rw [List.getElem?_set_self hi] at hB
      cases hB
      simpa using g1
    · rw [List.getElem?_set_ne (Ne.symm e)] at hB
      simp only [e, if_false]
      have h4 := h1 j B hB
      exact B.mono g3.f (B.loc (fun a q => by
        obtain ⟨o, ho⟩ := B.dom h4 q
        rw [ho]; exact g3.h _ _ ho fun z => e (h2 _ _ _ q z)) h4)
  · intro q r
    by_cases e : j = i <;> by_cases e2 : k = i
    · rw [e, e2]
    · exfalso
      simp only [e, if_true] at q
      simp only [e2, if_false] at r
      rcases (g2 a q).2 with z | z
      · exact e2 (h2 _ _ _ r z)
      · obtain ⟨o, ho⟩ := old k a r
        rw [z] at ho; cases ho
    · exfalso
      simp only [e, if_false] at q
      simp only [e2, if_true] at r
      rcases (g2 a r).2 with z | z
      · exact e (h2 _ _ _ q z)
      · obtain ⟨o, ho⟩ := old j a q
        rw [z] at ho; cases ho
    · simp only [e, if_false] at q
      simp only [e2, if_false] at r
      exact h2 _ _ _ q r
  · intro q
    rw [List.length_set]
    by_cases e : j = i
    · simp only [e, if_true] at q
      obtain ⟨z1, z2⟩ := g2 a q
      refine ⟨z1, ?_, by rw [e]; exact hi⟩
      rcases z2 with z | z
      · exact (h3 i a z).2.1
      · refine .inr ?_
        exact h.m.fr_back z
    · simp only [e, if_false] at q
      obtain ⟨z1, z2, z3⟩ := h3 j a q
      obtain ⟨o, ho⟩ := old j a q
      exact ⟨g3.n _ _ ho (fun z => e (h2 _ _ _ q z)) z1, z2, z3⟩
theorem Iv.put (h : Iv K P0 s0 s L) (i : Nat) {A' : OA} (e : Ex s s1) (st : ∃ P', A'.p K s1.F s1.H P' ∧ ∀ a, P' a → s1.F a = none ∧ s.H a = none) : Iv K P0 s0 s1 (L.set i A') := by
  by_cases hi : i < L.length
  case neg => rw [List.set_eq_of_length_le (by omega)]; exact h.ex e
  refine h.upd i (List.getElem?_eq_getElem hi) fun P _ _ => ?_
  obtain ⟨P', g1, g2⟩ := st
  exact ⟨P', g1, fun a q => ⟨(g2 a q).1, .inr (g2 a q).2⟩, e.z⟩
theorem Iv.sf (h : Iv K P0 s0 s L) (i : Nat) {v : V} {x y : α} (e : Ex s s1) (r : rep K s1.F v x) (q : y = x) : Iv K P0 s0 s1 (L.set i (Dy.fz v y)) := by
  subst q
  exact h.put i e ⟨fun _ => False, ⟨r, fun _ z => z⟩, fun _ z => z.elim⟩
theorem Iv.sl (h : Iv K P0 s0 s L) (i : Nat) {p : Addr} {xs ys : List α} (e : Ex s s1) (n : s.H p = none) (o : Own K s1 p xs) (q : ys = xs) : Iv K P0 s0 s1 (L.set i (Dy.ol p ys)) := by
  subst q
  obtain ⟨o1, vs, o2, o3⟩ := o
  exact h.put i e ⟨fun a => a = p, ⟨fun _ => Iff.rfl, vs, o2, o3⟩, fun a z => by rw [z]; exact ⟨o1, n⟩⟩
theorem Iv.ml (h : Iv K P0 s0 s L) (i : Nat) {p : Addr} {xs : List α} {ys zs : List β} (m : Mx (· = p) s s1) (o : Own K s1 p ys) (q : zs = ys) (hA : L[i]? = some (Dy.ol p xs) := by rfl) : Iv K P0 s0 s1 (L.set i (Dy.ol p zs)) := by
  subst q
  obtain ⟨o1, vs, o2, o3⟩ := o
  refine h.upd i hA fun P hP _ => ⟨P, ?_, ?_, ?_⟩
  · exact ⟨hP.1, vs, o2, o3⟩
  · intro a z
    rw [(hP.1 a).mp z]
    exact ⟨o1, .inl ((hP.1 p).mpr rfl)⟩
  · exact ⟨m.f, fun a o q n => m.h a o q fun z => n ((hP.1 a).mpr z), fun a o q _ z => m.n a o q z, m.d⟩
def pick (L : List OA) (js : List (Option Nat)) : List OA := js.map fun o => match o with | none => top | some i => L.getD i top
theorem Iv.sel (h : Iv K P0 s0 s L) (js : List (Option Nat)) (hn : (js.filterMap id).Nodup) (hM : pick L js = M) : Iv K P0 s0 s M := by
  subst hM
  obtain ⟨φ, h1, h2, h3⟩ := h.o
  refine ⟨h.m, fun k a => ∃ i, js[k]? = some (some i) ∧ φ i a, fun k A hA => ?_, fun k l a ⟨i, e1, q1⟩ ⟨j, e2, q2⟩ => ?_, fun k a ⟨i, e1, q1⟩ => ?_⟩
  · unfold pick at hA
    rw [List.getElem?_map] at hA
    obtain ⟨o, e1, e2⟩ := Option.map_eq_some_iff.mp hA
    cases o with
    | none =>
      subst e2
      intro a ⟨i, e3, _⟩
      rw [e1] at e3; cases e3
    | some i =>
      dsimp only at e2
      have eφ : (fun a => ∃ j, js[k]? = some (some j) ∧ φ j a) = φ i := by
        funext a
        apply propext
        constructor
        · rintro ⟨j, e3, q⟩
          rw [e1] at e3
          cases e3
          exact q
        · exact fun q => ⟨i, e1, q⟩
      show A.p K s.F s.H (fun a => ∃ j, js[k]? = some (some j) ∧ φ j a)
      rw [eφ]
      cases hg : L[i]? with
      | none =>
        rw [List.getD_eq_getElem?_getD, hg] at e2
        subst e2
        intro a q
        have := (h3 i a q).2.2
        rw [List.getElem?_eq_getElem this] at hg
        cases hg
      | some B =>
        rw [List.getD_eq_getElem?_getD, hg] at e2
        subst e2
        exact h1 i B hg
  · have := h2 _ _ _ q1 q2
    subst this
    have key : ∀ (js : List (Option Nat)) (k l : Nat), (js.filterMap id).Nodup → js[k]? = some (some i) → js[l]? = some (some i) → k = l := by
      intro js
      induction js with
      | nil => intro k l _ e; cases e
      | cons x r ih =>
        intro k l hn e1 e2
        cases x with
        | none =>
          cases k with
          | zero => cases e1
          | succ k =>
            cases l with
            | zero => cases e2
            | succ l => exact congrArg (· + 1) (ih k l (by simpa using hn) (by simpa using e1) (by simpa using e2))
        | some y =>
          have hn' : y ∉ r.filterMap id ∧ (r.filterMap id).Nodup := by simpa using hn
          have mem : ∀ k, r[k]? = some (some i) → i ∈ r.filterMap id := fun k e => List.mem_filterMap.mpr ⟨some i, List.mem_of_getElem? e, rfl⟩
          cases k with
          | zero =>
            cases l with
            | zero => rfl
            | succ l =>
              have : y = i := by simpa using e1
              exact absurd (mem l (by simpa using e2)) (this ▸ hn'.1)
          | succ k =>
            cases l with
            | zero =>
              have : y = i := by simpa using e2
              exact absurd (mem k (by simpa using e1)) (this ▸ hn'.1)
            | succ l => exact congrArg (· + 1) (ih k l hn'.2 (by simpa using e1) (by simpa using e2))
    exact key js k l hn e1 e2
  · obtain ⟨z1, z2, z3⟩ := h3 i a q1
    refine ⟨z1, z2, ?_⟩
    unfold pick
    rw [List.length_map]
    exact (List.getElem?_eq_some_iff.mp e1).1
theorem Iv.tops (n : Nat) (s : S) : Iv K P0 s s (List.replicate n top) := by
  refine ⟨(Ex.refl s).z, fun _ _ => False, fun i A hA => ?_, fun _ _ _ z => z.elim, fun _ _ z => z.elim⟩
  have := List.mem_of_getElem? hA
  rw [List.eq_of_mem_replicate this]
  exact fun _ z => z
theorem Iv.exx (h : Iv K (fun _ => False) s0 s L) : Ex s0 s := ⟨h.m.f, fun a o q => h.m.h a o q fun z => z, fun a o q n => h.m.n a o q (fun z => z) n⟩
theorem Iv.frz (h : Iv K P0 s0 s L) (i : Nat) {p : Addr} {xs : List α} (hA : L[i]? = some (Dy.ol p xs) := by rfl) : ∃ s' : S, s'.H = s.H ∧ Fle s.F s'.F ∧ Iv K P0 s0 s' (L.set i (Dy.fz (.ref p) xs)) := by
  obtain ⟨s', h1, h2, h3, h4⟩ := (h.ol i hA).frz
  refine ⟨s', h1, h2, ?_⟩
  obtain ⟨φ, g1, g2, g3⟩ := h.o
  have hi : i < L.length := (List.getElem?_eq_some_iff.mp hA).1
  have hp : φ i p := ((g1 i _ hA).1 p).mpr rfl
  refine ⟨⟨h.m.f.trans h2, fun a o q n => by rw [h1]; exact h.m.h a o q n, fun a o q np n => ?_, fun a o q => by rw [h1]; exact h.m.d a o q⟩, fun j a => if j = i then False else φ j a, fun j B hB => ?_, fun j k a q r => ?_, fun j a q => ?_⟩
  · have ne : a ≠ p := fun z => by
      subst z
      rcases (g3 i a hp).2.1 with w | w
      · exact np w
      · rw [w] at q; cases q
    rw [h3 a ne]
    exact h.m.n a o q np n
  · by_cases e : j = i
    · subst e
      rw [List.getElem?_set_self hi] at hB
      cases hB
      exact ⟨h4, fun a => by simp⟩
    · rw [List.getElem?_set_ne (Ne.symm e)] at hB
      simp only [e, if_false]
      rw [h1]
      exact B.mono h2 (g1 j B hB)
  · by_cases e : j = i
    · simp only [e, if_true] at q
    · by_cases e2 : k = i
      · simp only [e2, if_true] at r
      · simp only [e, if_false] at q
        simp only [e2, if_false] at r
        exact g2 _ _ _ q r
  · by_cases e : j = i
    · simp only [e, if_true] at q
    · simp only [e, if_false] at q
      obtain ⟨z1, z2, z3⟩ := g3 j a q
      have ne : a ≠ p := fun z => e (g2 _ _ _ q (z ▸ hp))
      exact ⟨by rw [h3 a ne]; exact z1, z2, by rw [List.length_set]; exact z3⟩
structure Ro (K : PySem.W.Frag) (P0 : Addr → Prop) (s0 : S) (R : List OA) : Prop where
  o : ∀ (i : Nat) (A : OA), R[i]? = some A → ∃ P, A.p K s0.F s0.H P ∧ ∀ a, P a → ¬ P0 a
theorem OA.stay {A : OA} {P : Addr → Prop} (h : A.p K s.F s.H P) (m : Mz P0 s t) (n : ∀ a, P a → ¬ P0 a) : A.p K t.F t.H P :=
  A.mono m.f (A.loc (fun a q => by
    obtain ⟨o, ho⟩ := A.dom h q
    rw [ho]; exact m.h _ _ ho (n a q)) h)
theorem Iv.ro (h : Iv K P0 s0 s L) {R : List OA} (r : Ro K P0 s0 R) (i : Nat) {A : OA} (e : R[i]? = some A := by rfl) : ∃ P, A.p K s.F s.H P := by
  obtain ⟨P, h1, h2⟩ := r.o i A e
  exact ⟨P, OA.stay h1 h.m h2⟩
def rem (L : List OA) (ks : List Nat) : List OA := L.mapIdx fun i A => if i ∈ ks then top else A
def rsel (L R0 : List OA) (rs : List (Nat ⊕ Nat)) : List OA := rs.map fun z => match z with | .inl i => L.getD i top | .inr j => R0.getD j top
theorem call_in (h : Iv K P0 s0 s L) {R0 : List OA} (ro : Ro K P0 s0 R0) (ks : List Nat) (hn : ks.Nodup) (hk : ∀ k ∈ ks, k < L.length) (Lf : List OA) (hf : ∀ A ∈ Lf, A.p K s.F s.H (fun _ => False)) (rs : List (Nat ⊕ Nat)) (hrs : ∀ i, Sum.inl i ∈ rs → i ∉ ks) :
    ∃ P1, Iv K P1 s s (ks.map (fun k => L.getD k top) ++ Lf) ∧ Ro K P1 s (rsel L R0 rs) ∧ (ks = [] → ∀ a, ¬ P1 a) ∧ ∀ s' L', Iv K P1 s s' L' → Iv K P0 s0 s' (rem L ks ++ L') := by
  obtain ⟨φ, h1, h2, h3⟩ := h.o
  refine ⟨fun a => ∃ k ∈ ks, φ k a, ⟨(Ex.refl s).z, fun i a => ∃ k, ks[i]? = some k ∧ φ k a, fun i A hA => ?_, fun i j a ⟨k, e1, q1⟩ ⟨l, e2, q2⟩ => ?_, fun i a ⟨k, e1, q1⟩ => ?_⟩, ⟨fun i A hA => ?_⟩, fun e a w => (by obtain ⟨k, hk, _⟩ := w; rw [e] at hk; cases hk), fun s' L' iv => ?_⟩
  · by_cases hi : i < ks.length
    · rw [List.getElem?_append_left (by rw [List.length_map]; exact hi), List.getElem?_map, List.getElem?_eq_getElem hi, Option.map_some] at hA
      have hA := Option.some.inj hA
      have hkl := hk ks[i] (List.getElem_mem hi)
      rw [List.getD_eq_getElem?_getD, List.getElem?_eq_getElem hkl, Option.getD_some] at hA
      have eφ : (fun a => ∃ k, ks[i]? = some k ∧ φ k a) = φ ks[i] := by
        funext a
        apply propext
        rw [List.getElem?_eq_getElem hi]
        exact ⟨fun ⟨k, e, q⟩ => by cases e; exact q, fun q => ⟨_, rfl, q⟩⟩
      show A.p K s.F s.H (fun a => ∃ k, ks[i]? = some k ∧ φ k a)
      rw [eφ, ← hA]
      exact h1 _ _ (List.getElem?_eq_getElem hkl)
    · rw [List.getElem?_append_right (by rw [List.length_map]; omega)] at hA
      have eφ : (fun a => ∃ k, ks[i]? = some k ∧ φ k a) = fun _ => False := by
        funext a
        apply propext
        rw [List.getElem?_eq_none (by omega)]
        exact ⟨fun w => (by obtain ⟨k, e, _⟩ := w; cases e), fun z => z.elim⟩
      show A.p K s.F s.H (fun a => ∃ k, ks[i]? = some k ∧ φ k a)
      rw [eφ]
      exact hf A (List.mem_of_getElem? hA)
  · obtain ⟨hi, ei⟩ := List.getElem?_eq_some_iff.mp e1
    obtain ⟨hj, ej⟩ := List.getElem?_eq_some_iff.mp e2
    have e := h2 _ _ _ q1 q2
    rw [← ei, ← ej] at e
    exact (List.getElem_inj hn).mp e
  · exact ⟨(h3 k a q1).1, .inl ⟨k, List.mem_of_getElem? e1, q1⟩, by rw [List.length_append, List.length_map]; have := (List.getElem?_eq_some_iff.mp e1).1; omega⟩
  · unfold rsel at hA
    rw [List.getElem?_map] at hA
    obtain ⟨z, e1, e2⟩ := Option.map_eq_some_iff.mp hA
    have hz := List.mem_of_getElem? e1
    have tp : top.p K s.F s.H (fun _ => False) := fun _ z => z
    cases z with
    | inl i =>
      by_cases hi : i < L.length
      · have e3 : L[i]? = some A := by
          rw [List.getElem?_eq_getElem hi]
          simp only [List.getD_eq_getElem?_getD, List.getElem?_eq_getElem hi, Option.getD_some] at e2
          rw [e2]
        exact ⟨φ i, h1 i A e3, fun a q ⟨k, hk, q2⟩ => hrs i hz (h2 _ _ _ q q2 ▸ hk)⟩
      · simp only [List.getD_eq_getElem?_getD, List.getElem?_eq_none (Nat.le_of_not_lt hi), Option.getD_none] at e2
        rw [← e2]
        exact ⟨_, tp, fun _ z => z.elim⟩
    | inr j =>
      by_cases hj : j < R0.length
      · have e3 : R0[j]? = some A := by
          rw [List.getElem?_eq_getElem hj]
          simp only [List.getD_eq_getElem?_getD, List.getElem?_eq_getElem hj, Option.getD_some] at e2
          rw [e2]
        obtain ⟨P, g1, g2⟩ := ro.o j A e3
        refine ⟨P, OA.stay g1 h.m g2, fun a q ⟨k, hk, q2⟩ => ?_⟩
        rcases (h3 k a q2).2.1 with w | w
        · exact g2 a q w
        · obtain ⟨o, ho⟩ := A.dom g1 q
          rw [w] at ho; cases ho
      · simp only [List.getD_eq_getElem?_getD, List.getElem?_eq_none (Nat.le_of_not_lt hj), Option.getD_none] at e2
        rw [← e2]
        exact ⟨_, tp, fun _ z => z.elim⟩
  · obtain ⟨φ', g1, g2, g3⟩ := iv.o
    have hP : ∀ a o, s0.H a = some o → ¬ P0 a → ¬ ∃ k ∈ ks, φ k a := fun a o q np ⟨k, _, q2⟩ => by
      rcases (h3 k a q2).2.1 with w | w
      · exact np w
      · rw [w] at q; cases q
    have hlen : (rem L ks).length = L.length := by unfold rem; rw [List.length_mapIdx]
    refine ⟨⟨h.m.f.trans iv.m.f, fun a o q n => iv.m.h a o (h.m.h a o q n) (hP a o q n), fun a o q np n => ?_, fun a o q => ?_⟩, fun i a => if i < L.length then (i ∉ ks ∧ φ i a) else φ' (i - L.length) a, fun i A hA => ?_, fun i j a q r => ?_, fun i a q => ?_⟩
    · obtain ⟨u, hu⟩ := h.m.d a o q
      exact iv.m.n a u hu (hP a o q np) (h.m.n a o q np n)
    · obtain ⟨u, hu⟩ := h.m.d a o q
      exact iv.m.d a u hu
    · by_cases hi : i < L.length
      · rw [List.getElem?_append_left (by omega)] at hA
        unfold rem at hA
        rw [List.getElem?_mapIdx, List.getElem?_eq_getElem hi, Option.map_some] at hA
        have hA := Option.some.inj hA
        simp only [hi, if_true]
        by_cases hik : i ∈ ks
        · rw [if_pos hik] at hA
          rw [← hA]
          exact fun a ⟨z, _⟩ => z hik
        · rw [if_neg hik] at hA
          show A.p K s'.F s'.H (fun a => i ∉ ks ∧ φ i a)
          have eφ : (fun a => i ∉ ks ∧ φ i a) = φ i := by
            funext a
            apply propext
            exact ⟨fun z => z.2, fun z => ⟨hik, z⟩⟩
          rw [eφ, ← hA]
          exact OA.stay (h1 i _ (List.getElem?_eq_getElem hi)) iv.m fun a q ⟨k, hk, q2⟩ => hik (h2 _ _ _ q q2 ▸ hk)
      · rw [List.getElem?_append_right (by omega), hlen] at hA
        simp only [hi, if_false]
        exact g1 _ A hA
    · have apart : ∀ i j a, i < L.length → i ∉ ks → φ i a → φ' j a → False := fun i j a hi hik q r => by
        rcases (g3 j a r).2.1 with ⟨k, hk, q2⟩ | w
        · exact hik (h2 _ _ _ q q2 ▸ hk)
        · obtain ⟨o, ho⟩ := (L[i]).dom (h1 i _ (List.getElem?_eq_getElem hi)) q
          rw [w] at ho; cases ho
      by_cases hi : i < L.length <;> by_cases hj : j < L.length
      · simp only [hi, if_true] at q
        simp only [hj, if_true] at r
        exact h2 _ _ _ q.2 r.2
      · simp only [hi, if_true] at q
        simp only [hj, if_false] at r
        exact (apart _ _ _ hi q.1 q.2 r).elim
      · simp only [hi, if_false] at q
        simp only [hj, if_true] at r
        exact (apart _ _ _ hj r.1 r.2 q).elim
      · simp only [hi, if_false] at q
        simp only [hj, if_false] at r
        have := g2 _ _ _ q r
        omega
    · rw [List.length_append, hlen]
      by_cases hi : i < L.length
      · simp only [hi, if_true] at q
        obtain ⟨z1, z2, z3⟩ := h3 i a q.2
        obtain ⟨o, ho⟩ := (L[i]).dom (h1 i _ (List.getElem?_eq_getElem hi)) q.2
        exact ⟨iv.m.n a o ho (fun ⟨k, hk, q2⟩ => q.1 (h2 _ _ _ q.2 q2 ▸ hk)) z1, z2, by omega⟩
      · simp only [hi, if_false] at q
        obtain ⟨z1, z2, z3⟩ := g3 _ a q
        refine ⟨z1, ?_, by omega⟩
        rcases z2 with ⟨k, hk, q2⟩ | w
        · exact (h3 k a q2).2.1
        · exact .inr (h.m.fr_back w)
theorem Iv.fresh (h : Iv K (fun _ => False) s0 s L) (i : Nat) {p : Addr} {xs : List α} (e : L[i]? = some (Dy.ol p xs) := by rfl) : s0.H p = none := by
  obtain ⟨φ, h1, h2, h3⟩ := h.o
  obtain ⟨q, vs, hp, r⟩ := h1 i _ e
  rcases (h3 i p ((q p).mpr rfl)).2.1 with w | w
  · exact w.elim
  · exact w
theorem do_frzI {X : Cx} {σ : L2.St} {D : Ends} {ss : List Stmt} (h : Iv X.K P0 s0 s L) (i : Nat) {p : Addr} {xs : List α} (hA : L[i]? = some (Dy.ol p xs)) (k : ∀ s', Fle s.F s'.F → Iv X.K P0 s0 s' (L.set i (Dy.fz (.ref p) xs)) → WSs X ss D σ s'.H) : WSs X ss D σ s.H := by
  obtain ⟨s', h1, h2, h3⟩ := h.frz i hA
  rw [← h1]
  exact k s' h2 h3
end
end Dy

namespace Dy
open PySem PySem.Spec L2
open PyProof.Rows hiding St
open Enc (rep)
open Flat (toV)
open EncA (repA)

section
variable {κ τ : Type} [DecidableEq κ]
def dval (xs : List (κ × τ)) (k : κ) : Option τ := (xs.find? fun z => decide (z.1 = k)).map (·.2)
def dput (xs : List (κ × τ)) (k : κ) (y : τ) : List (κ × τ) := if (xs.any fun z => decide (z.1 = k)) = true then xs.map fun z => if z.1 = k then (z.1, y) else z else xs ++ [(k, y)]
def ddrop (xs : List (κ × τ)) (k : κ) : List (κ × τ) := xs.filter fun z => decide (z.1 ≠ k)
end
section
variable {κ α : Type} [DKey κ] [DecidableEq κ] [Enc α] {K : PySem.W.Frag} {F F' : Hp}
theorem toK_dec (a b : κ) : decide (DKey.toK a = DKey.toK b) = decide (a = b) := decide_eq_decide.mpr (DKey.kinj a b)
theorem KReps.val {k : κ} : ∀ {kv : List (Key × V)} {xs : List (κ × α)}, KReps K F kv xs → match dval xs k with
    | none => valV kv (DKey.toK k) = none
    | some x => ∃ v, valV kv (DKey.toK k) = some v ∧ rep K F v x
  | [], [], _ => rfl
  | (j, v) :: r, (i, x) :: xs, ⟨e, h, t⟩ => by
    subst e
    unfold dval valV
    rw [List.find?_cons, List.find?_cons]
    dsimp only
    rw [toK_dec i k]
    cases decide (i = k) with
    | true => exact ⟨v, rfl, h⟩
    | false => exact KReps.val (k := k) t
  | [], _ :: _, h => h.elim
  | _ :: _, [], h => h.elim
theorem KReps.any {k : κ} : ∀ {kv : List (Key × V)} {xs : List (κ × α)}, KReps K F kv xs → (kv.any fun z => decide (z.1 = DKey.toK k)) = xs.any fun z => decide (z.1 = k)
  | [], [], _ => rfl
  | (j, v) :: r, (i, x) :: xs, ⟨e, h, t⟩ => by
    subst e
    rw [List.any_cons, List.any_cons, KReps.any (k := k) t, toK_dec i k]
  | [], _ :: _, h => h.elim
  | _ :: _, [], h => h.elim
theorem KReps.app : ∀ {kv kw : List (Key × V)} {xs ys : List (κ × α)}, KReps K F kv xs → KReps K F kw ys → KReps K F (kv ++ kw) (xs ++ ys)
  | [], _, [], _, _, h => h
  | _ :: _, _, _ :: _, _, ⟨e, h, t⟩, w => ⟨e, h, KReps.app t w⟩
  | [], _, _ :: _, _, h, _ => h.elim
  | _ :: _, _, [], _, h, _ => h.elim
theorem KReps.repl {k : κ} {v : V} {y : α} (r : rep K F v y) : ∀ {kv : List (Key × V)} {xs : List (κ × α)}, KReps K F kv xs → KReps K F (kv.map fun z => if z.1 = DKey.toK k then (z.1, v) else z) (xs.map fun z => if z.1 = k then (z.1, y) else z)
  | [], [], _ => trivial
  | (j, u) :: kv, (i, x) :: xs, ⟨e, h, t⟩ => by
    subst e
    rw [List.map_cons, List.map_cons]
    dsimp only
    by_cases hh : i = k
    · rw [if_pos hh, if_pos (by rw [hh])]
      exact ⟨rfl, r, KReps.repl r t⟩
    · rw [if_neg hh, if_neg (fun z => hh ((DKey.kinj i k).mp z))]
      exact ⟨rfl, h, KReps.repl r t⟩
  | [], _ :: _, h => h.elim
  | _ :: _, [], h => h.elim
theorem KReps.put {k : κ} {v : V} {y : α} {kv : List (Key × V)} {xs : List (κ × α)} (h : KReps K F kv xs) (r : rep K F v y) : KReps K F (putK kv (DKey.toK k) v) (dput xs k y) := by
  unfold putK dput
  rw [h.any (k := k)]
  split
  · exact h.repl r
  · exact h.app ⟨rfl, r, trivial⟩
theorem KReps.drop {k : κ} : ∀ {kv : List (Key × V)} {xs : List (κ × α)}, KReps K F kv xs → KReps K F (dropK kv (DKey.toK k)) (ddrop xs k)
  | [], [], _ => trivial
  | (j, v) :: r, (i, x) :: xs, ⟨e, h, t⟩ => by
    subst e
    unfold dropK ddrop
    rw [List.filter_cons, List.filter_cons]
    dsimp only
    by_cases hh : i = k
    · rw [if_neg (by simp [hh]), if_neg (by simp [hh])]
      exact KReps.drop t
    · rw [if_pos (by simpa using fun z => hh ((DKey.kinj i k).mp z)), if_pos (by simpa using hh)]
      exact ⟨rfl, h, KReps.drop t⟩
  | [], _ :: _, h => h.elim
  | _ :: _, [], h => h.elim
theorem KReps.get : ∀ {kv : List (Key × V)} {xs : List (κ × α)} {i : Nat} {z : κ × α}, KReps K F kv xs → xs[i]? = some z → ∃ v, kv[i]? = some (DKey.toK z.1, v) ∧ rep K F v z.2
  | [], [], _, _, _, e => by simp at e
  | (j, v) :: _, (i, x) :: _, 0, z, ⟨e, h, _⟩, e2 => by
    have : (i, x) = z := Option.some.inj e2
    subst this
    exact ⟨v, by rw [e]; rfl, h⟩
  | _ :: kv, _ :: xs, i + 1, z, ⟨_, _, t⟩, e => by
    obtain ⟨v, h1, h2⟩ := KReps.get (i := i) t (by simpa using e)
    exact ⟨v, by simpa using h1, h2⟩
  | [], _ :: _, _, _, h, _ => h.elim
  | _ :: _, [], _, _, h, _ => h.elim
theorem KReps.keys : ∀ {kv : List (Key × V)} {xs : List (κ × α)}, KReps K F kv xs → Reps K F (kv.map fun z => kV z.1) (xs.map (·.1))
  | [], [], _ => trivial
  | (j, v) :: _, (i, x) :: _, ⟨e, _, t⟩ => by
    subst e
    exact ⟨Flat.iff.mpr (DKey.kv i), KReps.keys t⟩
  | [], _ :: _, h => h.elim
  | _ :: _, [], h => h.elim
end
def RepD {κ α : Type} [DKey κ] [Enc α] (K : PySem.W.Frag) (s : S) (p : Addr) (xs : List (κ × α)) : Prop := ∃ kv, Rd s.H p (.dK kv) ∧ KReps K s.F kv xs
def OwnD {κ α : Type} [DKey κ] [Enc α] (K : PySem.W.Frag) (s : S) (p : Addr) (xs : List (κ × α)) : Prop := s.F p = none ∧ ∃ kv, s.H p = some (.dK kv) ∧ KReps K s.F kv xs
def CellAt (s : S) (K : PySem.W.Frag) (p : Addr) (c : Str) (fs : List (Str × V)) : Prop := ∃ dx, s.H p = some (.ins (He.ga K c) dx fs)
section
variable {α β κ : Type} [Enc α] [Enc β] [DKey κ] {K : PySem.W.Frag} {P0 : Addr → Prop} {s0 s s1 t : S} {L M R : List OA}
theorem Rd.ex {p : Addr} {u : HO} (h : Rd s.H p u) (e : Ex s t) : Rd t.H p u := h.elim (fun z => .inl (e.h _ _ z)) fun ⟨o, z⟩ => .inr ⟨o, e.h _ _ z⟩
theorem RepD.ex {p : Addr} {xs : List (κ × α)} (h : RepD K s p xs) (e : Ex s t) : RepD K t p xs := by
  obtain ⟨kv, h1, h2⟩ := h
  exact ⟨kv, Rd.ex h1 e, h2.mono e.f⟩
theorem OwnD.r {p : Addr} {xs : List (κ × α)} (h : OwnD K s p xs) : RepD K s p xs := by
  obtain ⟨_, kv, h1, h2⟩ := h
  exact ⟨kv, .inl h1, h2⟩
theorem CellAt.ex {p : Addr} {c : Str} {fs : List (Str × V)} (h : CellAt s K p c fs) (e : Ex s t) : CellAt t K p c fs := by
  obtain ⟨dx, h1⟩ := h
  exact ⟨dx, e.h _ _ h1⟩
theorem OwnD.ex {p : Addr} {xs : List (κ × α)} (h : OwnD K s p xs) (e : Ex s t) : OwnD K t p xs := by
  obtain ⟨h0, kv, h1, h2⟩ := h
  exact ⟨e.n _ _ h1 h0, kv, e.h _ _ h1, h2.mono e.f⟩
theorem Iv.od (h : Iv K P0 s0 s L) (i : Nat) {p : Addr} {xs : List (κ × α)} (e : L[i]? = some (Dy.od p xs) := by rfl) : OwnD K s p xs := by
  obtain ⟨P, ⟨h0, kv, h1, h2⟩, h3⟩ := h.at i e
  exact ⟨h3 p ((h0 p).mpr rfl), kv, h1, h2⟩
theorem Iv.odl (h : Iv K P0 s0 s L) (i : Nat) {p : Addr} {o : Obj} {kv : List (Key × V)} {xs : List (κ × α)} (e : L[i]? = some (Dy.odl p o kv xs) := by rfl) : s.F p = none ∧ s.H p = some (.frz o (.dK kv)) ∧ KReps K s.F kv xs := by
  obtain ⟨P, ⟨h0, h1, h2⟩, h3⟩ := h.at i e
  exact ⟨h3 p ((h0 p).mpr rfl), h1, h2⟩
theorem Iv.odr (h : Iv K P0 s0 s L) (i : Nat) {p : Addr} {o : Obj} {kv : List (Key × V)} {xs : List (κ × α)} (e : L[i]? = some (Dy.odl p o kv xs) := by rfl) : RepD K s p xs := ⟨kv, .inr ⟨o, (h.odl i e).2.1⟩, (h.odl i e).2.2⟩
theorem Iv.cell (h : Iv K P0 s0 s L) (i : Nat) {p : Addr} {c : Str} {fs : List (Str × V)} (e : L[i]? = some (Dy.cell p c fs) := by rfl) : CellAt s K p c fs := by
  obtain ⟨P, ⟨dx, h0, h1, h2⟩, h3⟩ := h.at i e
  exact ⟨dx, h1⟩
theorem Iv.rol (h : Iv K P0 s0 s L) (r : Ro K P0 s0 R) (i : Nat) {p : Addr} {xs : List α} (e : R[i]? = some (Dy.ol p xs) := by rfl) : RepR K s (.ref p) xs := by
  obtain ⟨P, h0, vs, h1, h2⟩ := h.ro r i e
  exact ⟨p, vs, rfl, .inl (.inl h1), h2⟩
theorem Iv.rod (h : Iv K P0 s0 s L) (r : Ro K P0 s0 R) (i : Nat) {p : Addr} {xs : List (κ × α)} (e : R[i]? = some (Dy.od p xs) := by rfl) : RepD K s p xs := by
  obtain ⟨P, h0, kv, h1, h2⟩ := h.ro r i e
  exact ⟨kv, .inl h1, h2⟩
theorem Iv.rcell (h : Iv K P0 s0 s L) (r : Ro K P0 s0 R) (i : Nat) {p : Addr} {c : Str} {fs : List (Str × V)} (e : R[i]? = some (Dy.cell p c fs) := by rfl) : CellAt s K p c fs := by
  obtain ⟨P, dx, h0, h1, h2⟩ := h.ro r i e
  exact ⟨dx, h1⟩
theorem Iv.rfz (h : Iv K P0 s0 s L) (r : Ro K P0 s0 R) (i : Nat) {v : V} {x : α} (e : R[i]? = some (Dy.fz v x) := by rfl) : rep K s.F v x := by
  obtain ⟨P, h0, h1⟩ := h.ro r i e
  exact h0
theorem Iv.sd (h : Iv K P0 s0 s L) (i : Nat) {p : Addr} {xs ys : List (κ × α)} (e : Ex s s1) (n : s.H p = none) (o : OwnD K s1 p xs) (q : ys = xs) : Iv K P0 s0 s1 (L.set i (Dy.od p ys)) := by
  subst q
  obtain ⟨o1, vs, o2, o3⟩ := o
  exact h.put i e ⟨fun a => a = p, ⟨fun _ => Iff.rfl, vs, o2, o3⟩, fun a z => by rw [z]; exact ⟨o1, n⟩⟩
theorem Iv.md (h : Iv K P0 s0 s L) (i : Nat) {p : Addr} {xs : List (κ × α)} {ys zs : List (κ × β)} (m : Mx (· = p) s s1) (o : OwnD K s1 p ys) (q : zs = ys) (hA : L[i]? = some (Dy.od p xs) := by rfl) : Iv K P0 s0 s1 (L.set i (Dy.od p zs)) := by
  subst q
  obtain ⟨o1, vs, o2, o3⟩ := o
  refine h.upd i hA fun P hP _ => ⟨P, ?_, ?_, ?_⟩
  · exact ⟨hP.1, vs, o2, o3⟩
  · intro a z
    rw [(hP.1 a).mp z]
    exact ⟨o1, .inl ((hP.1 p).mpr rfl)⟩
  · exact ⟨m.f, fun a o q n => m.h a o q fun z => n ((hP.1 a).mpr z), fun a o q _ z => m.n a o q z, m.d⟩
def lockS (s : S) (p : Addr) (u : HO) (h : s.F p = none) : S := s.put p u h
theorem Iv.lock (h : Iv K P0 s0 s L) (i : Nat) {p : Addr} {kv : List (Key × V)} {xs : List (κ × α)} (o : Obj) (hA : L[i]? = some (Dy.od p xs)) (hf : s.F p = none) (h1 : s.H p = some (.dK kv)) (h2 : KReps K s.F kv xs) : Iv K P0 s0 (s.put p (.frz o (.dK kv)) hf) (L.set i (Dy.odl p o kv xs)) :=
  h.upd i hA fun P hP _ => ⟨P, ⟨hP.1, upd_same, h2⟩, fun a z => by rw [(hP.1 a).mp z]; exact ⟨hf, .inl ((hP.1 p).mpr rfl)⟩, by
    have m : Mx (· = p) s (s.put p (.frz o (.dK kv)) hf) := Mx.put hf
    exact ⟨m.f, fun a o q n => m.h a o q fun z => n ((hP.1 a).mpr z), fun a o q _ z => m.n a o q z, m.d⟩⟩
theorem Iv.unlock (h : Iv K P0 s0 s L) (i : Nat) {p : Addr} {o : Obj} {kv : List (Key × V)} {xs : List (κ × α)} (hA : L[i]? = some (Dy.odl p o kv xs)) : ∃ s' : S, s'.H = L2.upd s.H p (.dK kv) ∧ s'.F = s.F ∧ Iv K P0 s0 s' (L.set i (Dy.od p xs)) := by
  obtain ⟨hf, h1, h2⟩ := h.odl i hA
  refine ⟨s.put p (.dK kv) hf, rfl, rfl, h.upd i hA fun P hP _ => ⟨P, ⟨hP.1, kv, upd_same, h2⟩, fun a z => by rw [(hP.1 a).mp z]; exact ⟨hf, .inl ((hP.1 p).mpr rfl)⟩, ?_⟩⟩
  have m : Mx (· = p) s (s.put p (.dK kv) hf) := Mx.put hf
  exact ⟨m.f, fun a o q n => m.h a o q fun z => n ((hP.1 a).mpr z), fun a o q _ z => m.n a o q z, m.d⟩
end
section
variable {α β γ κ : Type} [Enc α] [Enc β] [Enc γ] [DKey κ] [DecidableEq κ] {X : Cx} {σ : L2.St} {P0 : Addr → Prop} {s0 s t : S} {L : List OA} {e a b c o i : Expr} {es : List Expr} {pos p0 p1 p2 p3 : Pos} {D : Ends} {rest : List Stmt} {n : Str} {p : Addr}
theorem ev_raw {v : V} {x : α} (h : Ev X e σ s (Rw.mk v)) (r : rep X.K s.F v x) : Ev X e σ s x := fun s1 k Q q => h s1 k Q fun u s2 k2 e1 => by
  cases (show u = v from e1)
  exact q v s2 k2 (Enc.mono (k.trans k2).f r)
theorem er_raw {p : Addr} {xs : List α} (h : Ev X e σ s (Rw.mk (.ref p))) (r : RepR X.K s (.ref p) xs) : EvR X e σ s xs := fun s1 k Q q => h s1 k Q fun u s2 k2 e1 => by
  cases (show u = V.ref p from e1)
  exact q _ s2 k2 (r.ex (k.trans k2))
theorem raw_var (i : Nat) {v : V} (h : σ[i]? = some (some v)) (hN : X.N[i]? = some n := by rfl) (hv : Vis X.env.scope n := by first | exact Or.inl rfl | exact Or.inr (Or.inl rfl) | exact Or.inr (Or.inr rfl)) (hd : (n == ("__debug__" : Str)) = false := by decide)
    (hcd : (n == ("__classdict__" : Str)) = false := by decide) : Ev X (.Name n pos) σ s (Rw.mk v) := ev_var i h (show rep _ _ v (Rw.mk v) from rfl) hN hv hd hcd
theorem raw_fld {f c : Str} {v : V} {fs : List (Str × V)} (h : Ev X e σ s (Rw.mk (.ref p))) (r : CellAt s X.K p c fs) (hl : fs.lookup f = some v) (hc : Cls X.K (He.ga X.K c)) (hn : NoAttr X.K (He.ga X.K c) f) (hb : attributeBase e f X.env (eval e X.env) = eval e X.env := by rfl) : Ev X (.Attribute e f pos) σ s (Rw.mk v) := fun s1 k Q q =>
  we_of (pe_fld pe_we hb) (h s1 k _ fun u s2 k2 e1 => by
    cases (show u = V.ref p from e1)
    obtain ⟨dx, h1⟩ := r.ex (k.trans k2)
    exact ⟨p, _, dx, fs, v, rfl, h1, hc, hn, hl, q v s2 k2 rfl⟩)
theorem hu1 {j : Nat} (hr : Room j X.A) : X.A.units + 1 < cLine := by have := hu64 hr; omega
theorem dget_of {K : PySem.W.Frag} {k : κ} {xs : List (κ × α)} {w : V} (r : RepD K s p xs) (hw : w = toV k) : ∃ o, DGet s.H p w o ∧ match dval xs k with | none => o = none | some x => ∃ v, o = some v ∧ rep K s.F v x := by
  obtain ⟨kv, h1, h2⟩ := r
  refine ⟨valV kv (DKey.toK k), .inl ⟨kv, DKey.toK k, h1, by rw [hw, DKey.kv], rfl⟩, ?_⟩
  have := h2.val (k := k)
  cases hd : dval xs k with
  | none => rw [hd] at this; exact this
  | some x => rw [hd] at this; exact this
theorem ev_dget {j : Nat} {k : κ} {xs : List (κ × α)} {x : α} (hr : Room j X.A) (ho : Ev X o σ s (Rw.mk (.ref p))) (r : RepD X.K s p xs) (hi : Ev X i σ s k) (h : dval xs k = some x) (hs : NoSl i := by intro _ _; rfl) : Ev X (.Subscript o i pos) σ s x := fun s1 k1 Q q =>
  we_of (pe_dget (hu1 hr) pe_we pe_we hs) (ho s1 k1 _ fun v s2 k2 e2 => hi s2 (k1.trans k2) _ fun u s3 k3 e3 => by
    cases (show v = V.ref p from e2)
    obtain ⟨o', g1, g2⟩ := dget_of (r.ex ((k1.trans k2).trans k3)) (Flat.iff.mp e3)
    rw [h] at g2
    obtain ⟨w, rfl, g3⟩ := g2
    exact ⟨p, w, rfl, g1, q w s3 (k2.trans k3) g3⟩)
theorem dval_some {xs : List (κ × α)} {k : κ} {o : Option V} {K : PySem.W.Frag} {F : Hp} (g : match dval xs k with | none => o = none | some x => ∃ v, o = some v ∧ rep K F v x) : o.isSome = (dval xs k).isSome := by
  cases hd : dval xs k with
  | none => rw [hd] at g; rw [g]; rfl
  | some x => rw [hd] at g; obtain ⟨v, rfl, _⟩ := g; rfl
theorem ev_din {j : Nat} {k : κ} {xs : List (κ × α)} (hr : Room j X.A) (hi : Ev X i σ s k) (ho : Ev X o σ s (Rw.mk (.ref p))) (r : RepD X.K s p xs) (h1 : behindInMarks .In o = false := by rfl) : EvB X (.Compare i [.In] [o] pos) σ s (dval xs k).isSome :=
  ⟨fun s1 k1 Q q => we_of (pe_cmp (pc_din (hu1 hr) pe_we pe_we) h1) (hi s1 k1 _ fun u s2 k2 e2 => ho s2 (k1.trans k2) _ fun v s3 k3 e3 => by
    cases (show v = V.ref p from e3)
    obtain ⟨o', g1, g2⟩ := dget_of (r.ex ((k1.trans k2).trans k3)) ((Flat.iff.mp (e2 : rep _ _ u k)))
    exact ⟨p, o', rfl, g1, by rw [dval_some g2]; exact q _ s3 (k2.trans k3) rfl⟩),
   fun s1 k1 Q q => wt_of (pt_cmp (pc_din (hu1 hr) pe_we pe_we) h1) (hi s1 k1 _ fun u s2 k2 e2 => ho s2 (k1.trans k2) _ fun v s3 k3 e3 => by
    cases (show v = V.ref p from e3)
    obtain ⟨o', g1, g2⟩ := dget_of (r.ex ((k1.trans k2).trans k3)) ((Flat.iff.mp (e2 : rep _ _ u k)))
    exact ⟨p, o', rfl, g1, _, by rw [dval_some g2], q s3 (k2.trans k3)⟩)⟩
theorem ev_dnotIn {j : Nat} {k : κ} {xs : List (κ × α)} (hr : Room j X.A) (hi : Ev X i σ s k) (ho : Ev X o σ s (Rw.mk (.ref p))) (r : RepD X.K s p xs) (h1 : behindInMarks .NotIn o = false := by rfl) : EvB X (.Compare i [.NotIn] [o] pos) σ s (!(dval xs k).isSome) :=
  ⟨fun s1 k1 Q q => we_of (pe_cmp (pc_dnotin (hu1 hr) pe_we pe_we) h1) (hi s1 k1 _ fun u s2 k2 e2 => ho s2 (k1.trans k2) _ fun v s3 k3 e3 => by
    cases (show v = V.ref p from e3)
    obtain ⟨o', g1, g2⟩ := dget_of (r.ex ((k1.trans k2).trans k3)) ((Flat.iff.mp (e2 : rep _ _ u k)))
    exact ⟨p, o', rfl, g1, by rw [dval_some g2]; exact q _ s3 (k2.trans k3) rfl⟩),
   fun s1 k1 Q q => wt_of (pt_cmp (pc_dnotin (hu1 hr) pe_we pe_we) h1) (hi s1 k1 _ fun u s2 k2 e2 => ho s2 (k1.trans k2) _ fun v s3 k3 e3 => by
    cases (show v = V.ref p from e3)
    obtain ⟨o', g1, g2⟩ := dget_of (r.ex ((k1.trans k2).trans k3)) ((Flat.iff.mp (e2 : rep _ _ u k)))
    exact ⟨p, o', rfl, g1, _, by rw [dval_some g2], q s3 (k2.trans k3)⟩)⟩
theorem ev_dget1 {j : Nat} {k : κ} {xs : List (κ × α)} (hr : Room j X.A) (ho : Ev X o σ s (Rw.mk (.ref p))) (r : RepD X.K s p xs) (hi : Ev X i σ s k) (m : M1 X o "get" p1 i pos := by exact ⟨rfl, rfl, rfl, rfl⟩) : Ev X (.Call (.Attribute o "get" p1) [i] [] pos) σ s (dval xs k) := fun s1 k1 Q q =>
  we_of (pe_dget1 (hu1 hr) pe_we pe_we m) (ho s1 k1 _ fun v s2 k2 e2 => by
    cases (show v = V.ref p from e2)
    refine ⟨p, rfl, ?_, hi s2 (k1.trans k2) _ fun u s3 k3 e3 => ?_⟩
    · obtain ⟨kv, h1, _⟩ := r.ex (k1.trans k2)
      exact .inl ⟨kv, h1⟩
    · obtain ⟨o', g1, g2⟩ := dget_of (r.ex ((k1.trans k2).trans k3)) (Flat.iff.mp e3)
      refine ⟨o', g1, q _ s3 (k2.trans k3) ?_⟩
      cases hd : dval xs k with
      | none => rw [hd] at g2; rw [g2]; rfl
      | some x => rw [hd] at g2; obtain ⟨w, rfl, g3⟩ := g2; exact g3)
theorem ev_dlen {xs : List (κ × α)} (hm : X.mg "len" = none) (ho : Ev X o σ s (Rw.mk (.ref p))) (r : OwnD X.K s p xs) (hg : Gl X "len" := by rfl) (he : starEach [o] X.env = (false, eval o X.env) :: starEach [] X.env := by rfl) (hpl : (backTo pos (starEach [] X.env)).any (·.1) = false := by rfl) : Ev X (.Call (.Name "len" p0) [o] [] pos) σ s (xs.length : Int) := fun s1 k1 Q q =>
  we_of (pe_callB call_lenD hg hm boot_len (pa_cons pe_we pa_nil he) (he := he) (hpl := hpl)) (ho s1 k1 _ fun v s2 k2 e2 => by
    cases (show v = V.ref p from e2)
    obtain ⟨_, kv, h1, h2⟩ := r.ex (k1.trans k2)
    exact ⟨p, kv, rfl, h1, q _ s2 k2 (by rw [h2.len]; rfl)⟩)
theorem en_dlist {xs : List (κ × α)} (hm : X.mg "list" = none) (ho : Ev X o σ s (Rw.mk (.ref p))) (r : OwnD X.K s p xs) (hc : X.calm = true := by rfl) (hg : Gl X "list" := by rfl) (he : starEach [o] X.env = (false, eval o X.env) :: starEach [] X.env := by rfl) (hpl : (backTo pos (starEach [] X.env)).any (·.1) = false := by rfl) : EvN X (.Call (.Name "list" p0) [o] [] pos) σ s (xs.map (·.1)) := fun s1 k1 Q q =>
  we_of (pe_callTy (call_list_dK hc) hg hm (by decide +kernel) (pa_cons pe_we pa_nil he) (he := he) (hpl := hpl)) (ho s1 k1 _ fun v s2 k2 e2 => by
    cases (show v = V.ref p from e2)
    obtain ⟨_, kv, h1, h2⟩ := r.ex (k1.trans k2)
    exact ⟨p, kv, rfl, h1, fun l hl => q l (s2.newO l _ hl) (k2.trans (Ex.newO hl)) (fr_back k2 hl) (own_new hl h2.keys)⟩)
def EvND (X : Cx) (e : Expr) (σ : L2.St) (s : S) (xs : List (κ × α)) : Prop := ∀ s1, Ex s s1 → ∀ Q : VK, (∀ p s2, Ex s1 s2 → s1.H p = none → OwnD X.K s2 p xs → Q (.ref p) s2.H) → WE X e σ s1.H Q
theorem en_dnew : EvND X (.Dict [] [] pos) σ s ([] : List (κ × α)) := fun s1 k1 Q q => we_of pe_dnewK fun p hp => q p (s1.newO p (.dK []) hp) (Ex.newO hp) hp ⟨(fF hp : s1.F p = none), [], upd_same, trivial⟩
theorem do_setD (i : Nat) {xs : List (κ × α)} {n : Str} {py : Pos} (h : EvND X e σ s xs) (k : ∀ p s1, Ex s s1 → s.H p = none → OwnD X.K s1 p xs → WSs X rest D (σ.set i (some (.ref p))) s1.H) (hN : X.N.Nodup) (hx : Loc X.env.scope n := by first | exact Or.inl rfl | exact Or.inr rfl) (hi : X.N[i]? = some n := by rfl)
    (hs : swapsWith e (some (.Name n py)) pos.line X.env = pure false := by rfl) (hf : X.fn n = true ∨ X.env.scope.names.lookup n = some .local := by first | exact .inl rfl | exact .inr rfl) : WSs X (.Assign [.Name n py] e pos :: rest) D σ s.H :=
  do_cons (ps_set hN hi hx pe_we hs hf) (h s (Ex.refl _) _ fun v s1 k1 n1 r => k v s1 k1 n1 r)
theorem do_dput {j : Nat} {k : κ} {xs : List (κ × α)} {y : α} (hr : Room j X.A) (ho : Ev X o σ s (Rw.mk (.ref p))) (r : OwnD X.K s p xs) (hv : Ev X e σ s y) (hi : Ev X i σ s k) (hz : xs.length < sizeLine) (kk : ∀ s1, Mx (· = p) s s1 → OwnD X.K s1 p (dput xs k y) → WSs X rest D σ s1.H)
    (hs : swapsWith e (some (.Subscript o i p1)) pos.line X.env = pure false := by rfl) : WSs X (.Assign [.Subscript o i p1] e pos :: rest) D σ s.H :=
  do_cons (ps_dput (hu1 hr) pe_we pe_we pe_we hs) (hv s (Ex.refl _) _ fun v s1 k1 e1 => ho s1 k1 _ fun u s2 k2 e2 => hi s2 (k1.trans k2) _ fun w s3 k3 e3 => by
    cases (show u = V.ref p from e2)
    have kx := (k1.trans k2).trans k3
    obtain ⟨f0, kv, h1, h2⟩ := r.ex kx
    refine ⟨p, _, rfl, .inl ⟨kv, DKey.toK k, h1, by rw [Flat.iff.mp e3, DKey.kv], by rw [h2.len]; exact hz, rfl⟩, ?_⟩
    exact kk (s3.put p (.dK (putK kv (DKey.toK k) v)) f0) (kx.mx.trans (Mx.put f0)) ⟨f0, _, upd_same, h2.put (Enc.mono (k2.trans k3).f e1)⟩)
theorem do_dpop1 {k : κ} {xs : List (κ × α)} {x : α} (ho : Ev X o σ s (Rw.mk (.ref p))) (r : OwnD X.K s p xs) (hi : Ev X i σ s k) (h : dval xs k = some x) (kk : ∀ s1, Mx (· = p) s s1 → OwnD X.K s1 p (ddrop xs k) → WSs X rest D σ s1.H)
    (m : M1 X o "pop" p1 i p2 := by exact ⟨rfl, rfl, rfl, rfl⟩) (hs : swapsWith (.Call (.Attribute o "pop" p1) [i] [] p2) none pos.line X.env = pure false := by rfl) : WSs X (.Expr (.Call (.Attribute o "pop" p1) [i] [] p2) pos :: rest) D σ s.H :=
  do_cons (ps_expr (pe_dpop1 pe_we pe_we m) hs) (ho s (Ex.refl _) _ fun u s1 k1 e1 => by
    cases (show u = V.ref p from e1)
    refine ⟨p, rfl, ?_, hi s1 k1 _ fun w s2 k2 e2 => ?_⟩
    · obtain ⟨_, kv, h1, _⟩ := r.ex k1
      exact .inl ⟨kv, .inl h1⟩
    · have kx := k1.trans k2
      obtain ⟨f0, kv, h1, h2⟩ := r.ex kx
      have := h2.val (k := k)
      rw [h] at this
      obtain ⟨v, hv, _⟩ := this
      exact ⟨kv, DKey.toK k, v, h1, by rw [Flat.iff.mp e2, DKey.kv], hv, kk (s2.put p (.dK (dropK kv (DKey.toK k))) f0) (kx.mx.trans (Mx.put f0)) ⟨f0, _, upd_same, h2.drop⟩⟩)
theorem ddrop_none {xs : List (κ × α)} {k : κ} (h : dval xs k = none) : ddrop xs k = xs := by
  unfold ddrop
  rw [List.filter_eq_self]
  intro z hz
  unfold dval at h
  rw [Option.map_eq_none_iff, List.find?_eq_none] at h
  have := h z hz
  simpa using this
theorem do_dpop2 {k : κ} {xs : List (κ × α)} {z : β} (ho : Ev X o σ s (Rw.mk (.ref p))) (r : OwnD X.K s p xs) (hi : Ev X i σ s k) (he : Ev X e σ s z) (kk : ∀ s1, Mx (· = p) s s1 → OwnD X.K s1 p (ddrop xs k) → WSs X rest D σ s1.H)
    (m : M2 X o "pop" p1 i e p2 := by exact ⟨rfl, rfl, rfl, rfl⟩) (hs : swapsWith (.Call (.Attribute o "pop" p1) [i, e] [] p2) none pos.line X.env = pure false := by rfl) : WSs X (.Expr (.Call (.Attribute o "pop" p1) [i, e] [] p2) pos :: rest) D σ s.H :=
  do_cons (ps_expr (pe_dpop2 pe_we pe_we pe_we m) hs) (ho s (Ex.refl _) _ fun u s1 k1 e1 => by
    cases (show u = V.ref p from e1)
    refine ⟨p, rfl, ?_, hi s1 k1 _ fun w s2 k2 e2 => he s2 (k1.trans k2) _ fun y s3 k3 e3 => ?_⟩
    · obtain ⟨_, kv, h1, _⟩ := r.ex k1
      exact .inl ⟨kv, .inl h1⟩
    · have kx := (k1.trans k2).trans k3
      obtain ⟨f0, kv, h1, h2⟩ := r.ex kx
      have hval := h2.val (k := k)
      refine ⟨kv, DKey.toK k, h1, by rw [Flat.iff.mp (e2 : rep _ _ w k), DKey.kv], fun v hv => ?_, fun hn => ?_⟩
      · exact kk (s3.put p (.dK (dropK kv (DKey.toK k))) f0) (kx.mx.trans (Mx.put f0)) ⟨f0, _, upd_same, h2.drop⟩
      · have hd : dval xs k = none := by
          cases hd : dval xs k with
          | none => rfl
          | some x => rw [hd] at hval; obtain ⟨v, hv, _⟩ := hval; rw [hv] at hn; cases hn
        exact kk s3 kx.mx (by rw [ddrop_none hd]; exact ⟨f0, kv, h1, h2⟩))


end
end Dy

namespace Dy
open PySem PySem.Spec L2
open PyProof.Rows hiding St
open Enc (rep)
open Flat (toV)
open EncA (repA)

section
variable {α β γ κ τ υ ρ : Type} [Enc α] [Enc β] [Enc γ] [Enc τ] [DKey κ] [DecidableEq κ] {X : Cx} {σ : L2.St} {P0 : Addr → Prop} {s0 s t : S} {L : List OA} {e a b c o i tg iter elt : Expr} {ifs : List Expr} {scope : Scope} {own : List (Str × Nat)} {es : List Expr} {pos p0 p1 p2 p3 : Pos} {D : Ends} {rest body : List Stmt} {n : Str} {p : Addr}
structure WalkG (K : PySem.W.Frag) (G : S → Prop) (J : It) (xs : List α) : Prop where
  go : ∀ (i : Nat) (t : S) (x : α), G t → xs[i]? = some x → J.go i t.H ∧ ∀ v H', J.yld i t.H v H' → ∃ t' : S, t'.H = H' ∧ Ex t t' ∧ rep K t'.F v x
  stop : ∀ (i : Nat) (t : S), G t → xs.length ≤ i → J.stop i t.H
def EvIG (X : Cx) (tg e : Expr) (σ : L2.St) (s : S) (G : S → Prop) (xs : List α) : Prop := ∀ s1, Ex s s1 → ∀ R : It → Hp → Prop, (∀ J s2, Ex s1 s2 → WalkG X.K G J xs → R J s2.H) → WI X tg e σ s1.H R
def GL (K : PySem.W.Frag) (p : Addr) (xs : List α) : S → Prop := fun t => RepR K t (.ref p) xs
def GD (K : PySem.W.Frag) (p : Addr) (o : Obj) (kv : List (Key × V)) (xs : List (κ × α)) : S → Prop := fun t => t.H p = some (.frz o (.dK kv)) ∧ KReps K t.F kv xs
theorem GL.ex {K : PySem.W.Frag} {xs : List α} (h : GL K p xs s) (e : Ex s t) : GL K p xs t := RepR.ex h e
theorem GD.ex {K : PySem.W.Frag} {o : Obj} {kv : List (Key × V)} {xs : List (κ × α)} (h : GD K p o kv xs s) (e : Ex s t) : GD K p o kv xs t := ⟨e.h _ _ h.1, h.2.mono e.f⟩
theorem ei_rawL {xs : List α} (h : Ev X e σ s (Rw.mk (.ref p))) (r : RepR X.K s (.ref p) xs) : EvIG X tg e σ s (GL X.K p xs) xs := fun s1 k R q =>
  wi_of (pi_list pe_we) (h s1 k _ fun v s2 k2 e2 => by
    cases (show v = V.ref p from e2)
    have w : WalkG X.K (GL X.K p xs) (Itl X.K p) xs := ⟨fun i t x ⟨a, vs, e, h1, h2⟩ hx => by
      cases e
      obtain ⟨v, h3, h4⟩ := h2.get hx
      refine ⟨⟨vs, v, h1, h3⟩, fun w H' ⟨e1, hy⟩ => ⟨t, e1.symm, Ex.refl _, ?_⟩⟩
      have := hy vs h1
      rw [h3] at this
      cases this
      exact h4, fun i t ⟨a, vs, e, h1, h2⟩ hi => by
      cases e
      exact ⟨vs, h1, by rw [h2.len]; exact hi⟩⟩
    obtain ⟨a, vs, e, h1, h2⟩ := r.ex (k.trans k2)
    cases e
    exact ⟨p, rfl, ⟨vs, h1⟩, q _ s2 k2 w⟩)
theorem ei_keys {ob : Obj} {kv : List (Key × V)} {xs : List (κ × α)} (h : Ev X e σ s (Rw.mk (.ref p))) (r : GD X.K p ob kv xs s) : EvIG X tg e σ s (GD X.K p ob kv xs) (xs.map (·.1)) := fun s1 k R q =>
  wi_of (pi_keys pe_we) (h s1 k _ fun v s2 k2 e2 => by
    cases (show v = V.ref p from e2)
    exact ⟨p, ob, rfl, .inl ⟨kv, (GD.ex r (k.trans k2)).1, q _ s2 k2 ⟨fun i t x g hx => by
      rw [List.getElem?_map] at hx
      obtain ⟨z, h1, h2⟩ := Option.map_eq_some_iff.mp hx
      obtain ⟨w, h3, h4⟩ := g.2.get h1
      refine ⟨⟨g.1, (List.getElem?_eq_some_iff.mp h3).1⟩, fun y H' ⟨e1, k', v', h5, h6⟩ => ⟨t, e1.symm, Ex.refl _, ?_⟩⟩
      rw [h3] at h5
      cases h5
      rw [h6, ← h2]
      exact Flat.iff.mpr (DKey.kv _), fun i t g hi => ⟨g.1, by rw [g.2.len]; rw [List.length_map] at hi; exact hi⟩⟩⟩⟩)
theorem ei_vals {ob : Obj} {kv : List (Key × V)} {xs : List (κ × α)} (h : Ev X e σ s (Rw.mk (.ref p))) (r : GD X.K p ob kv xs s) (hbase : attributeBase e "values" X.env (eval e X.env) = eval e X.env := by rfl) (hline : (p1.endLine == pos.line) = true := by rfl) : EvIG X tg (.Call (.Attribute e "values" p1) [] [] pos) σ s (GD X.K p ob kv xs) (xs.map (·.2)) := fun s1 k R q =>
  wi_of (pi_values pe_we hbase hline) (h s1 k _ fun v s2 k2 e2 => by
    cases (show v = V.ref p from e2)
    exact ⟨p, ob, kv, rfl, (GD.ex r (k.trans k2)).1, q _ s2 k2 ⟨fun i t x g hx => by
      rw [List.getElem?_map] at hx
      obtain ⟨z, h1, h2⟩ := Option.map_eq_some_iff.mp hx
      obtain ⟨w, h3, h4⟩ := g.2.get h1
      refine ⟨⟨g.1, (List.getElem?_eq_some_iff.mp h3).1⟩, fun y H' ⟨e1, k', h5⟩ => ⟨t, e1.symm, Ex.refl _, ?_⟩⟩
      rw [h3] at h5
      cases h5
      rw [← h2]
      exact h4, fun i t g hi => ⟨g.1, by rw [g.2.len]; rw [List.length_map] at hi; exact hi⟩⟩⟩)
theorem ei_items {elts : List Expr} {kk : Nat} {tpos : Pos} {ob : Obj} {kv : List (Key × V)} {xs : List (κ × α)} (h : Ev X e σ s (Rw.mk (.ref p))) (r : GD X.K p ob kv xs s) (hbase : attributeBase e "items" X.env (eval e X.env) = eval e X.env := by rfl) (hline : (p1.endLine == pos.line) = true := by rfl) : EvIG X (.Tuple elts kk tpos) (.Call (.Attribute e "items" p1) [] [] pos) σ s (GD X.K p ob kv xs) xs := fun s1 k R q =>
  wi_of (pi_items pe_we hbase hline) (h s1 k _ fun v s2 k2 e2 => by
    cases (show v = V.ref p from e2)
    exact ⟨p, ob, kv, rfl, (GD.ex r (k.trans k2)).1, q _ s2 k2 ⟨fun i t z g h1 => by
      obtain ⟨w, h3, h4⟩ := g.2.get h1
      refine ⟨⟨g.1, (List.getElem?_eq_some_iff.mp h3).1⟩, fun y H' ⟨T, k', v', h5, h6, h7, h8⟩ => ⟨t.newF T (.tup [kV k', v']) h7, h8.symm, Ex.newF h7, ?_⟩⟩
      rw [h3] at h5
      cases h5
      rw [h6]
      exact ⟨T, _, _, rfl, tup_new h7, Flat.iff.mpr (DKey.kv _), Enc.mono (Ex.newF h7).f h4⟩, fun i t g hi => ⟨g.1, by rw [g.2.len]; exact hi⟩⟩⟩)
theorem for_read {xs : List τ} {g : TG} {B : Hp → τ → St → St → Prop} {G : S → Prop} (hi : EvIG X tg iter σ s G xs) (T : Tgt (α := τ) X.K g B)
    (R : Nat → St → S → Prop) (hG : ∀ i σ' t, R i σ' t → G t) (h0 : ∀ s1, Ex s s1 → R 0 σ s1)
    (hb : ∀ (i : Nat) (x : τ) (σ' σ2 : St) (t t' : S), xs[i]? = some x → R i σ' t → Ex t t' → B t'.F x σ' σ2 → WSs X body (LD D fun σ s => R (i + 1) σ s) σ2 t'.H)
    (hd : ∀ σ' t, R xs.length σ' t → D.nx σ' t.H) : tFor (WI X tg iter) g (WSs X body) D σ s.H :=
  hi s (Ex.refl _) _ fun J s1 k1 W => by
    refine ⟨fun i m σ' H' => ∃ t : S, t.H = H' ∧ m = xs.length - i ∧ i ≤ xs.length ∧ R i σ' t, ⟨xs.length, s1, rfl, rfl, Nat.zero_le _, h0 s1 k1⟩, ?_⟩
    rintro i m σ' H' ⟨t, rfl, rfl, hle, r⟩
    by_cases hlt : i < xs.length
    · right
      obtain ⟨g1, g2⟩ := W.go i t xs[i] (hG i σ' t r) (List.getElem?_eq_getElem hlt)
      refine ⟨g1, fun σ' H' => ∃ u : S, u.H = H' ∧ R (i + 1) σ' u, fun σ' H' ⟨u, e1, r1⟩ => ⟨xs.length - (i + 1), by omega, u, e1, rfl, hlt, r1⟩, fun v H' hy => ?_⟩
      obtain ⟨t', rfl, kt, rv⟩ := g2 v H' hy
      refine T.run t' v xs[i] _ _ rv fun σ2 hB => ?_
      exact (hb i xs[i] σ' σ2 t t' (List.getElem?_eq_getElem hlt) r kt hB).imp (fun σ3 H3 ⟨u, e1, r1⟩ => ⟨u, e1, r1⟩) (fun _ _ q => q) (fun _ _ q => q.elim) (fun _ _ q => q.elim)
    · left
      have e : i = xs.length := by omega
      subst e
      exact ⟨W.stop _ t (hG _ σ' t r) (Nat.le_refl _), hd σ' t r⟩
theorem for_readO {xs : List τ} {f : υ → τ → Option υ} {b0 b1 : υ} {g : TG} {B : Hp → τ → St → St → Prop} {G : S → Prop} (hi : EvIG X tg iter σ s G xs) (T : Tgt (α := τ) X.K g B) (hf : foldO f b0 xs = some b1)
    (R : υ → St → S → Prop) (hG : ∀ b σ' t, R b σ' t → G t) (h0 : ∀ s1, Ex s s1 → R b0 σ s1)
    (hb : ∀ (x : τ) (b b' : υ) (σ' σ2 : St) (t t' : S), x ∈ xs → f b x = some b' → R b σ' t → Ex t t' → B t'.F x σ' σ2 → WSs X body (LD D fun σ s => R b' σ s) σ2 t'.H)
    (hd : ∀ σ' t, R b1 σ' t → D.nx σ' t.H) : tFor (WI X tg iter) g (WSs X body) D σ s.H :=
  for_read hi T (fun i σ' t => ∃ b, foldO f b (xs.drop i) = some b1 ∧ R b σ' t) (fun i σ' t ⟨b, _, r⟩ => hG b σ' t r) (fun s1 k => ⟨b0, hf, h0 s1 k⟩)
    (fun i x σ' σ2 t t' hx ⟨b, h1, h2⟩ kt hB => by
      obtain ⟨hlt, rfl⟩ := List.getElem?_eq_some_iff.mp hx
      obtain ⟨b', h3, h4⟩ := foldO_drop hlt h1
      exact (hb xs[i] b b' σ' σ2 t t' (List.getElem_mem hlt) h3 h2 kt hB).imp (fun σ3 H3 ⟨u, e1, r1⟩ => ⟨u, e1, b', h4, r1⟩) (fun _ _ q => q) (fun _ _ q => q.elim) (fun _ _ q => q.elim))
    (fun σ' t ⟨b, h1, h2⟩ => by
      rw [List.drop_length] at h1
      cases h1
      exact hd σ' t h2)
theorem for_readF {xs : List τ} {f : υ → τ → Option (Fl υ ρ)} {b0 : υ} {o : Fl υ ρ} {g : TG} {B : Hp → τ → St → St → Prop} {G : S → Prop} (hi : EvIG X tg iter σ s G xs) (T : Tgt (α := τ) X.K g B) (hf : foldF f b0 xs = some o)
    (R : υ → St → S → Prop) (hG : ∀ b σ' t, R b σ' t → G t) (h0 : ∀ s1, Ex s s1 → R b0 σ s1)
    (hb : ∀ (x : τ) (b : υ) (q : Fl υ ρ) (σ' σ2 : St) (t t' : S), x ∈ xs → f b x = some q → (∀ r, q = .rt r → o = .rt r) → R b σ' t → Ex t t' → B t'.F x σ' σ2 → WSs X body (LD D fun σ s => ∃ b', q = .nx b' ∧ R b' σ s) σ2 t'.H)
    (hd : ∀ b1 σ' t, o = .nx b1 → R b1 σ' t → D.nx σ' t.H) : tFor (WI X tg iter) g (WSs X body) D σ s.H :=
  for_read hi T (fun i σ' t => ∃ b, foldF f b (xs.drop i) = some o ∧ R b σ' t) (fun i σ' t ⟨b, _, r⟩ => hG b σ' t r) (fun s1 k => ⟨b0, hf, h0 s1 k⟩)
    (fun i x σ' σ2 t t' hx ⟨b, h1, h2⟩ kt hB => by
      obtain ⟨hlt, rfl⟩ := List.getElem?_eq_some_iff.mp hx
      obtain ⟨q, h3, h4, h5⟩ := foldF_drop hlt h1
      exact (hb xs[i] b q σ' σ2 t t' (List.getElem_mem hlt) h3 h5 h2 kt hB).imp (fun σ3 H3 ⟨u, e1, b', e2, r1⟩ => ⟨u, e1, b', h4 b' e2, r1⟩) (fun _ _ q => q) (fun _ _ q => q.elim) (fun _ _ q => q.elim))
    (fun σ' t ⟨b, h1, h2⟩ => by
      rw [List.drop_length] at h1
      cases h1
      exact hd b σ' t rfl h2)
theorem do_forG {g : TG} (hp : PassesOwn (model X.prog X.w) X.A X.env X.xe) (hc : X.calm = true) (hg : PG X tg g) (h : tFor (WI X tg iter) g (WSs X body) { D with nx := fun σ' H' => WSs X rest D σ' H' } σ s.H)
    (hs : ∀ x, foldedSetIterable iter X.env x = pure x := by intro _; rfl) : WSs X (.For tg iter body [] pos :: rest) D σ s.H :=
  do_cons (ps_for hp hc pi_wi hg pss_ws hs) h
abbrev LK (D : Ends) (rest : List Stmt) (X : Cx) (p : Addr) (ob : Obj) (kv : List (Key × V)) : Ends :=
  ⟨fun σ' H' => H' p = some (.frz ob (.dK kv)) ∧ WSs X rest D σ' (upd H' p (.dK kv)), fun v H' => H' p = some (.frz ob (.dK kv)) ∧ D.rt v (upd H' p (.dK kv)), fun σ' H' => H' p = some (.frz ob (.dK kv)) ∧ D.bk σ' (upd H' p (.dK kv)), fun σ' H' => H' p = some (.frz ob (.dK kv)) ∧ D.ct σ' (upd H' p (.dK kv))⟩
theorem do_forD {g : TG} {xs : List (κ × α)} (iv : Iv X.K P0 s0 s L) (i : Nat) (hA : L[i]? = some (Dy.od p xs)) (hp : PassesOwn (model X.prog X.w) X.A X.env X.xe) (hc : X.calm = true) (hg : PG X tg g)
    (h : ∀ (ob : Obj) (kv : List (Key × V)) (s1 : S), Fle s.F s1.F → Iv X.K P0 s0 s1 (L.set i (Dy.odl p ob kv xs)) → tFor (WI X tg iter) g (WSs X body) (LK D rest X p ob kv) σ s1.H)
    (hs : ∀ x, foldedSetIterable iter X.env x = pure x := by intro _; rfl) : WSs X (.For tg iter body [] pos :: rest) D σ s.H :=
  do_cons (ps_lock (ps_for hp hc pi_wi hg pss_ws hs)) (by
    obtain ⟨hf, kv, h1, h2⟩ := iv.od i hA
    exact ⟨p, .dK kv, h1, trivial, fun ob => h ob kv (s.put p (.frz ob (.dK kv)) hf) (Fle.refl _) (iv.lock i ob hA hf h1 h2)⟩)
theorem lk_nx {xs : List (κ × α)} {ob : Obj} {kv : List (Key × V)} (iv : Iv X.K P0 s0 s L) (i : Nat) (hA : L[i]? = some (Dy.odl p ob kv xs)) (k : ∀ s1, s1.F = s.F → Iv X.K P0 s0 s1 (L.set i (Dy.od p xs)) → WSs X rest D σ s1.H) : (LK D rest X p ob kv).nx σ s.H := by
  obtain ⟨s', e1, e2, iv'⟩ := iv.unlock i hA
  have := k s' e2 iv'
  rw [e1] at this
  exact ⟨(iv.odl i hA).2.1, this⟩
theorem lk_rt {xs : List (κ × α)} {ob : Obj} {kv : List (Key × V)} {v : V} (iv : Iv X.K P0 s0 s L) (i : Nat) (hA : L[i]? = some (Dy.odl p ob kv xs)) (k : ∀ s1, s1.F = s.F → Iv X.K P0 s0 s1 (L.set i (Dy.od p xs)) → D.rt v s1.H) : (LK D rest X p ob kv).rt v s.H := by
  obtain ⟨s', e1, e2, iv'⟩ := iv.unlock i hA
  have := k s' e2 iv'
  rw [e1] at this
  exact ⟨(iv.odl i hA).2.1, this⟩
theorem lk_ex {kv : List (Key × V)} {ob : Obj} {s1 : S} (hf : s.F p = none) (h1 : s.H p = some (.dK kv)) (k : Ex s s1) : ∃ (hf1 : s1.F p = none), Ex (s.put p (.frz ob (.dK kv)) hf) (s1.put p (.frz ob (.dK kv)) hf1) := by
  refine ⟨k.n _ _ h1 hf, k.f, fun a o q => ?_, fun a o q n => ?_⟩
  · by_cases e : a = p
    · subst e
      have q : upd s.H a (.frz ob (.dK kv)) a = some o := q
      rw [upd_same] at q
      show upd s1.H a _ a = _
      rw [upd_same]; exact q
    · have q : upd s.H p (.frz ob (.dK kv)) a = some o := q
      rw [upd_ne e] at q
      show upd s1.H p _ a = _
      rw [upd_ne e]; exact k.h _ _ q
  · by_cases e : a = p
    · subst e; exact k.n _ _ h1 hf
    · have q : upd s.H p (.frz ob (.dK kv)) a = some o := q
      rw [upd_ne e] at q
      exact k.n _ _ q n
theorem lk_back {kv : List (Key × V)} {ob : Obj} {s1 s2 : S} (hf : s1.F p = none) (h1 : s1.H p = some (.dK kv)) (k : Ex (s1.put p (.frz ob (.dK kv)) hf) s2) : ∃ (hf2 : s2.F p = none), s2.H p = some (.frz ob (.dK kv)) ∧ Ex s1 (s2.put p (.dK kv) hf2) := by
  have hf2 : s2.F p = none := k.n p _ (show upd s1.H p _ p = _ from upd_same) hf
  refine ⟨hf2, k.h p _ (show upd s1.H p _ p = _ from upd_same), k.f, fun a o q => ?_, fun a o q n => ?_⟩
  · by_cases e : a = p
    · subst e
      rw [h1] at q
      cases q
      exact upd_same
    · show upd s2.H p _ a = _
      rw [upd_ne e]
      exact k.h _ _ (show upd s1.H p _ a = _ by rw [upd_ne e]; exact q)
  · by_cases e : a = p
    · subst e; exact hf2
    · exact k.n a o (show upd s1.H p _ a = _ by rw [upd_ne e]; exact q) n
theorem en_lock {ys : List β} {xs : List (κ × α)} (r : OwnD X.K s p xs) (h : ∀ (ob : Obj) (kv : List (Key × V)) (s1 : S), s1.F = s.F → (∀ a o, s.H a = some o → a ≠ p → s1.H a = some o) → GD X.K p ob kv xs s1 → (∀ hf, s1 = s.put p (.frz ob (.dK kv)) hf → EvN X e σ s1 ys)) : EvN X e σ s ys := fun s1 k Q q => by
  obtain ⟨hf, kv, h1, h2⟩ := r
  refine we_of (pe_lock pe_we) ⟨p, .dK kv, k.h _ _ h1, trivial, fun ob => ?_⟩
  obtain ⟨hf1, kx⟩ := lk_ex (ob := ob) hf h1 k
  have := h ob kv (s.put p (.frz ob (.dK kv)) hf) rfl (fun a o q n => (upd_ne n).trans q) ⟨upd_same, h2⟩ hf rfl
  refine this _ kx _ fun p2 s2 k2 n2 o2 => ?_
  obtain ⟨hf2, g1, k3⟩ := lk_back hf1 (k.h _ _ h1) k2
  refine ⟨g1, ?_⟩
  have ne : p2 ≠ p := fun z => by
    have : upd s1.H p (.frz ob (.dK kv)) p2 = none := n2
    rw [z, upd_same] at this; cases this
  have n2' : s1.H p2 = none := by
    have : upd s1.H p (.frz ob (.dK kv)) p2 = none := n2
    rw [upd_ne ne] at this; exact this
  obtain ⟨o1, vs, o3, o4⟩ := o2
  exact q p2 (s2.put p (.dK kv) hf2) k3 n2' ⟨o1, vs, (upd_ne ne).trans o3, o4⟩
theorem comp_readG {xs : List α} {ys : List β} {t : α → Option Bool} {f : α → Option β} {g : TG} {B : Hp → α → St → St → Prop} {tt : TT} {G : S → Prop} (hGx : ∀ s1 s2, Ex s1 s2 → G s1 → G s2) (hG0 : G s) (hi : EvIG X tg iter σ s G xs)
    (T : Tgt (α := α) X.K g B) (hf : compO t f xs = some ys) (hz : ys.length ≤ sizeLine)
    (hw : ∀ (F : Hp) (x : α) σ2, B F x (wipe σ (own.map (·.2))) σ2 → wipe σ2 (own.map (·.2)) = wipe σ (own.map (·.2)))
    (ht : ∀ (x : α) (b : Bool) (s1 : S) (σ2 : St) (Q : Bool → Hp → Prop), x ∈ xs → Ex s s1 → B s1.F x (wipe σ (own.map (·.2))) σ2 → t x = some b → (∀ s2, Ex s1 s2 → Q b s2.H) → tt σ2 s1.H Q)
    (he : ∀ (x : α) (y : β) (s1 : S) (σ2 : St), x ∈ xs → Ex s s1 → B s1.F x (wipe σ (own.map (·.2))) σ2 → t x = some true → f x = some y → ∀ s0 H0 C cl fp, Ev (Blk X scope s0 H0 C cl fp) elt σ2 s1 y)
    (s1 : S) (k : Ex s s1) (Q : VK) (q : ∀ p s2, Ex s1 s2 → s1.H p = none → Own X.K s2 p ys → Q (.ref p) s2.H) : tLc (WI X tg iter) g tt (fun σ H Q => ∀ s0 H0 C cl fp, WE (Blk X scope s0 H0 C cl fp) elt σ H Q) (own.map (·.2)) σ s1.H Q := by
  refine hi s1 k _ fun J s2 k2 W => ?_
  intro D hD
  have hgG : ∀ u, Ex s2 u → G u := fun u ku => hGx _ _ ((k.trans k2).trans ku) hG0
  refine ⟨fun i m H => ∃ (u : S) (pre : List β) (vs : List V), u.H = H ∧ m = xs.length - i ∧ Ex s2 u ∧ u.F D = none ∧ u.H D = some (.lst vs) ∧ Reps X.K u.F vs pre ∧ (∃ suf, compO t f (xs.drop i) = some suf ∧ pre ++ suf = ys), ⟨xs.length, s2.newO D (.lst []) hD, [], [], rfl, rfl, Ex.newO hD, (fF hD : s2.F D = none), upd_same, trivial, ys, by rw [List.drop_zero]; exact hf, rfl⟩, ?_⟩
  rintro i m H ⟨u, pre, vs, rfl, rfl, ku, n1, n2, n3, suf, h1, h2⟩
  by_cases hi' : i < xs.length
  · right
    have hx : xs[i]? = some xs[i] := List.getElem?_eq_getElem hi'
    obtain ⟨g1, g2⟩ := W.go i u xs[i] (hgG u ku) hx
    refine ⟨g1, fun H' => ∃ m', m' < xs.length - i ∧ ∃ (u : S) (pre : List β) (vs : List V), u.H = H' ∧ m' = xs.length - (i + 1) ∧ Ex s2 u ∧ u.F D = none ∧ u.H D = some (.lst vs) ∧ Reps X.K u.F vs pre ∧ (∃ suf, compO t f (xs.drop (i + 1)) = some suf ∧ pre ++ suf = ys), fun H' z => z, fun v H' hy => ?_⟩
    obtain ⟨u', rfl, ku', rv⟩ := g2 v H' hy
    refine T.run u' v xs[i] _ _ rv fun σ2 hB => ⟨hw _ _ _ hB, ?_⟩
    rw [List.drop_eq_getElem_cons hi'] at h1
    unfold compO at h1
    cases hb : t xs[i] with
    | none => rw [hb] at h1; cases h1
    | some b =>
      rw [hb, Option.bind_some] at h1
      have mem : xs[i] ∈ xs := List.getElem_mem hi'
      have base : Ex s u' := (k.trans k2).trans (ku.trans ku')
      refine ht xs[i] b u' σ2 _ mem base hB hb fun u3 k3 => ?_
      have hlt : xs.length - (i + 1) < xs.length - i := by omega
      have kk : Ex u u3 := ku'.trans k3
      cases b with
      | false =>
        rw [if_neg Bool.false_ne_true] at h1 ⊢
        exact ⟨_, hlt, u3, pre, vs, rfl, rfl, ku.trans kk, kk.n _ _ n2 n1, kk.h _ _ n2, n3.mono kk.f, suf, h1, h2⟩
      | true =>
        rw [if_pos rfl] at h1 ⊢
        cases hfx : f xs[i] with
        | none => rw [hfx] at h1; cases h1
        | some y =>
          rw [hfx, Option.bind_some] at h1
          cases hr : compO t f (xs.drop (i + 1)) with
          | none => rw [hr] at h1; cases h1
          | some suf' =>
            rw [hr] at h1
            cases h1
            intro s0 H0 C cl fp
            refine he xs[i] y u' σ2 mem base hB hb hfx s0 H0 C cl fp u3 k3 _ fun w u4 k4 r4 => ?_
            have k5 : Ex u u4 := kk.trans k4
            have hD4 : u4.H D = some (.lst vs) := k5.h _ _ n2
            have hF4 : u4.F D = none := k5.n _ _ n2 n1
            have hlen : vs.length < sizeLine := by
              have e1 := n3.len
              have e2 : ys.length = pre.length + (suf'.length + 1) := by rw [← h2, List.length_append, List.length_cons]
              omega
            refine ⟨vs, hD4, hlen, _, hlt, u4.put D (.lst (vs ++ [w])) hF4, pre ++ [y], vs ++ [w], rfl, rfl, (ku.trans k5).mu1 (Mx.put hF4) hD, hF4, upd_same, (n3.mono k5.f).snoc r4, suf', rfl, by rw [List.append_assoc]; exact h2⟩
  · left
    have hd : xs.drop i = [] := List.drop_eq_nil_of_le (by omega)
    rw [hd] at h1
    cases h1
    refine ⟨W.stop i u (hgG u ku) (by omega), q D u (k2.trans ku) (fr_back k2 hD) ⟨n1, vs, n2, ?_⟩⟩
    rw [← h2, List.append_nil]
    exact n3
theorem en_comp0G {xs : List α} {ys : List β} {f : α → Option β} {j : Nat} {n : Str} {py : Pos} {G : S → Prop} (hGx : ∀ s1 s2, Ex s1 s2 → G s1 → G s2) (hG0 : G s) (hc : X.calm = true) (hN : X.N.Nodup) (hi : EvIG X (.Name n py) iter σ s G xs) (ok : BlkOk X.N X.env.scope scope own) (hj : X.N[j]? = some n)
    (hjo : j ∈ own.map (·.2)) (hg : ∀ s0 H0 C cl fp, PG (Blk X scope s0 H0 C cl fp) (.Name n py) (gName j)) (hf : mapO f xs = some ys) (hz : ys.length ≤ sizeLine)
    (he : ∀ (x : α) (y : β) (v : V) (s1 : S), x ∈ xs → Ex s s1 → rep X.K s1.F v x → f x = some y → ∀ s0 H0 C cl fp, Ev (Blk X scope s0 H0 C cl fp) elt ((wipe σ (own.map (·.2))).set j (some v)) s1 y)
    (hs : ∀ x, foldedSetIterable iter X.env x = pure x := by intro _; rfl) : EvL X elt (.Name n py) iter [] scope σ s ys :=
  ⟨hc, hN, hs, own, _, _, ok, hg, fun _ _ _ _ _ => pts_nil, fun s1 k Q q => comp_readG (t := fun _ => some true) hGx hG0 hi tg_n hf hz (fun F x σ2 ⟨v, _, e⟩ => by rw [e, wipe_set hjo]; exact wipe_wipe fun _ z => z)
    (fun x b s1 σ2 Q _ _ _ hb q => by cases hb; exact q s1 (Ex.refl _)) (fun x y s1 σ2 hx k ⟨v, r, e⟩ _ hfx => by subst e; exact he x y v s1 hx k r hfx) s1 k Q q⟩
theorem en_comp1G {xs : List α} {ys : List β} {t : α → Option Bool} {f : α → Option β} {j : Nat} {n : Str} {py : Pos} {G : S → Prop} (hGx : ∀ s1 s2, Ex s1 s2 → G s1 → G s2) (hG0 : G s) (hc : X.calm = true) (hN : X.N.Nodup) (hi : EvIG X (.Name n py) iter σ s G xs) (ok : BlkOk X.N X.env.scope scope own) (hj : X.N[j]? = some n)
    (hjo : j ∈ own.map (·.2)) (hg : ∀ s0 H0 C cl fp, PG (Blk X scope s0 H0 C cl fp) (.Name n py) (gName j)) (hf : compO t f xs = some ys) (hz : ys.length ≤ sizeLine)
    (ht : ∀ (x : α) (b : Bool) (v : V) (s1 : S), x ∈ xs → Ex s s1 → rep X.K s1.F v x → t x = some b → ∀ s0 H0 C cl fp, EvT (Blk X scope s0 H0 C cl fp) c ((wipe σ (own.map (·.2))).set j (some v)) s1 b)
    (he : ∀ (x : α) (y : β) (v : V) (s1 : S), x ∈ xs → Ex s s1 → rep X.K s1.F v x → t x = some true → f x = some y → ∀ s0 H0 C cl fp, Ev (Blk X scope s0 H0 C cl fp) elt ((wipe σ (own.map (·.2))).set j (some v)) s1 y)
    (hs : ∀ x, foldedSetIterable iter X.env x = pure x := by intro _; rfl) : EvL X elt (.Name n py) iter [c] scope σ s ys :=
  ⟨hc, hN, hs, own, _, _, ok, hg, fun s0 H0 C cl fp => pts_one ⟨fun pins s _ _ _ I h => h s0 H0 C cl fp pins s I⟩, fun s1 k Q q => comp_readG (tt := fun σ H Q => ∀ s0 H0 C cl fp, WT (Blk X scope s0 H0 C cl fp) c σ H Q) hGx hG0 hi tg_n hf hz (fun F x σ2 ⟨v, _, e⟩ => by rw [e, wipe_set hjo]; exact wipe_wipe fun _ z => z)
    (fun x b s1 σ2 Q hx k ⟨v, r, e⟩ hb q => by subst e; intro s0 H0 C cl fp; exact ht x b v s1 hx k r hb s0 H0 C cl fp s1 (Ex.refl _) Q q) (fun x y s1 σ2 hx k ⟨v, r, e⟩ htx hfx => by subst e; exact he x y v s1 hx k r htx hfx) s1 k Q q⟩
end
end Dy

namespace Dy
open PySem PySem.Spec L2
open PyProof.Rows hiding St
open Enc (rep)
open Flat (toV)
open EncA (repA)

def tc (p : Addr) (vs : List V) : OA := ⟨fun K F H P => (∀ a, P a ↔ a = p) ∧ H p = some (.tup vs), fun e h => h, fun e ⟨h0, h1⟩ => ⟨h0, by rw [e p ((h0 p).mpr rfl)]; exact h1⟩, fun ⟨h0, h1⟩ q => ⟨_, (congrArg _ ((h0 _).mp q)).trans h1⟩⟩
abbrev No : Addr → Prop := fun _ => False
def spI {A O : Type} (K : PySem.W.Frag) (pre : List V → A → List OA → List OA → Prop) (m : A → Option O) (ok : List V → A → O → V → List OA → Prop) (er : List V → A → O → Er → List OA → Prop) : Sp := fun vs H Q E =>
  ∃ (s : S) (P0 : Addr → Prop) (L R : List OA) (x : A) (o : O), s.H = H ∧ pre vs x L R ∧ Iv K P0 s s L ∧ Ro K P0 s R ∧ m x = some o ∧
    (∀ v s' L', ok vs x o v L' → Iv K P0 s s' L' → Q v s'.H) ∧ (∀ e cls d s' L', er vs x o e L' → Iv K P0 s s' L' → ExR K s'.F e cls d → E cls d s'.H)
def noEr {A O : Type} : List V → A → O → Er → List OA → Prop := fun _ _ _ _ _ => False
abbrev FunM (K : PySem.W.Frag) (x q : Str) (st : Stmt) (f : Addr) (fd : FuncData) : Prop := FunD K x q (defArgs st) (defBody st) (defScope st) [] [] f fd
section
variable {P : Program} {w : World} {K : PySem.W.Frag} {mg : Str → Option Value} {base : Heap} {A O : Type} {pre : List V → A → List OA → List OA → Prop} {m : A → Option O} {ok : List V → A → O → V → List OA → Prop} {er : List V → A → O → Er → List OA → Prop}
theorem mk_I {x q : Str} {st : Stmt} {f : Addr} {fd : FuncData} {N ps : List Str} {k : Nat} (F : FunM K x q st f fd) (Sc : FnScope N ps (defScope st)) (hl : ∀ vs a L R, pre vs a L R → vs.length = ps.length)
    (body : ∀ (cdv : Value) (A' : Around) (outer : List Env) (s0 : Shared) (H0 : Hp) (E0 : XK), Room k (A'.deeper (envOfC q (defScope st) s0.heap.objs.size f cdv)) → ∀ (s : S) (P0 : Addr → Prop) (L R : List OA) (vs : List V) (a : A) (o : O) (Q : VK), pre vs a L R → Iv K P0 s s L → Ro K P0 s R → m a = some o →
      (∀ v s' L', ok vs a o v L' → Iv K P0 s s' L' → Q v s'.H) → WSs (cxOf CX0 P w K mg base N q (defScope st) f cdv A' outer s0 H0 E0).nox (defBody st) (RD Q) (start N vs) s.H) : FnOk P w K mg base CX0 (k + 1) f fd ps (spI K pre m ok noEr) :=
  F.ok Sc (fun vs H Q E ⟨s, P0, L, R, a, o, _, h, _⟩ => hl vs a L R h) (fun cdv A' outer s0 H0 vs Q E hr ⟨s, P0, L, R, a, o, e, h1, h2, h3, h4, h5, _⟩ => ⟨_, pss_ws.nox, by
    have := body cdv A' outer s0 H0 E hr s P0 L R vs a o Q h1 h2 h3 h4 h5
    rw [e] at this
    exact this⟩)
theorem mk_IX {x q : Str} {st : Stmt} {f : Addr} {fd : FuncData} {N ps : List Str} {k : Nat} (F : FunM K x q st f fd) (Sc : FnScope N ps (defScope st)) (hl : ∀ vs a L R, pre vs a L R → vs.length = ps.length)
    (body : ∀ (cdv : Value) (A' : Around) (outer : List Env) (s0 : Shared) (H0 : Hp) (E0 : XK), Room k (A'.deeper (envOfC q (defScope st) s0.heap.objs.size f cdv)) → ∀ (s : S) (P0 : Addr → Prop) (L R : List OA) (vs : List V) (a : A) (o : O) (Q : VK), pre vs a L R → Iv K P0 s s L → Ro K P0 s R → m a = some o →
      (∀ v s' L', ok vs a o v L' → Iv K P0 s s' L' → Q v s'.H) → (∀ e cls d s' L', er vs a o e L' → Iv K P0 s s' L' → ExR K s'.F e cls d → E0 cls d s'.H) → WSs (cxOf (L2.CX P w) P w K mg base N q (defScope st) f cdv A' outer s0 H0 E0) (defBody st) (RD Q) (start N vs) s.H) : FnOk P w K mg base (L2.CX P w) (k + 1) f fd ps (spI K pre m ok er) :=
  F.ok Sc (fun vs H Q E ⟨s, P0, L, R, a, o, _, h, _⟩ => hl vs a L R h) (fun cdv A' outer s0 H0 vs Q E hr ⟨s, P0, L, R, a, o, e, h1, h2, h3, h4, h5, h6⟩ => ⟨_, pss_ws, by
    have := body cdv A' outer s0 H0 E hr s P0 L R vs a o Q h1 h2 h3 h4 h5 h6
    rw [e] at this
    exact this⟩)
theorem cal_of {CX : CXT} {q : Sp} {x : Str} {f : Addr} {fd : FuncData} {ps : List Str} {k : Nat} (h : FnOk P w K mg base CX k f fd ps q) (hm : mg x = some (.ref f)) (kp : PySem.W.keepIn K (.ref f) = true) (b : Binds K fd ps []) : Cal P w K mg base CX k x q := ⟨f, fd, ps, h, hm, kp, b⟩
structure CalM (P : Program) (w : World) (K : PySem.W.Frag) (mg : Str → Option Value) (base : Heap) (CX : CXT) (k : Nat) (c m : Str) (q : Sp) : Prop where
  ex : ∃ (f : Addr) (fd : FuncData) (ps : List Str), FnOk P w K mg base CX k f fd ps q ∧ Meth K (He.ga K c) m f ∧ Binds K fd ps []
structure CalC (P : Program) (w : World) (K : PySem.W.Frag) (mg : Str → Option Value) (base : Heap) (CX : CXT) (k : Nat) (c : Str) (q : Sp) : Prop where
  ex : ∃ (f : Addr) (fd : FuncData) (ps : List Str), FnOk P w K mg base CX k f fd ps q ∧ Mk K (He.ga K c) f ∧ mg c = some (.ref (He.ga K c)) ∧ Binds K fd ps []
end
section
variable {X : Cx} {CX : CXT} {k j : Nat} {f C : Addr} {fd : FuncData} {ps : List Str} {sp : Sp} {o e : Expr} {es : List Expr} {ta : TE} {t : TA} {m n : Str} {pos apos p0 : Pos} {σ : L2.St} {s : S}
def tMethS (C : Addr) (m : Str) (sp : Sp) (E : L2.St → XK) (ta : TE) (t : TA) : TE := fun σ H Q => ta σ H fun x H1 => ∃ a dx fs, x = .ref a ∧ H1 a = some (.ins C dx fs) ∧ fs.lookup m = none ∧ t σ H1 fun vs H2 => sp (x :: vs) H2 Q (E σ)
theorem pe_methX {E : L2.St → XK} {pl : Sem Bool} (he : PE X o ta) (c : Cls X.K C) (hm : Meth X.K C m f) (F : FnOk X.prog X.w X.K X.mg X.base CX k f fd ps sp) (hr : Room k X.A) (hb : Binds X.K fd ps []) (hx : ∀ σ, PassesAt CX X σ (E σ)) (ha : PA X (e :: es) t)
    (hst : starEach (e :: es) X.env = (false, eval e X.env) :: starEach es X.env := by rfl) (hpl : (backTo pos (starEach es X.env)).any (·.1) = false := by rfl)
    (ht : eval (.Call (.Attribute o m apos) (e :: es) [] pos) X.env = (do
      let ov ← eval o X.env
      standAt apos.atName
      let (f, first) ← holding [ov] (getMethod ov m pl)
      callWith pos f first (backTo pos (starEach (e :: es) X.env)) (backToKw pos (keywordEach [] X.env))) := by rfl) :
    PE X (.Call (.Attribute o m apos) (e :: es) [] pos) (tMethS C m sp E ta t) := by
  refine ⟨fun pins s σ H Q I h => ?_⟩
  refine PySem.W.methodCall_KW (pl := pl) (thn (he.run pins s σ H _ I h) fun u s1 ⟨x, H1, I1, rx, a, dx, fs, ex, ea, l, q⟩ => ?_) ht
  subst ex
  obtain rfl : u = Value.ref a := rx
  refine getmeth_ok I1 ea c hm l ?_
  refine PySem.W.callWith_K (first := [.ref a]) (h₀ := X.base) I1.ok.mod.kin hm.kp (thn (ha.run pos pins s1 σ H1 _ I1 q) fun us s2 ⟨vs, H2, I2, r, q2⟩ => ⟨I2.kIn, ?_⟩) hst hpl
  exact run_fnS (us := .ref a :: us) (vs := .ref a :: vs) F hr hb (hx σ) I2 (.cons rfl r) q2
theorem pe_methX0 {E : L2.St → XK} {pl : Sem Bool} (he : PE X o ta) (c : Cls X.K C) (hm : Meth X.K C m f) (F : FnOk X.prog X.w X.K X.mg X.base CX k f fd ps sp) (hr : Room k X.A) (hb : Binds X.K fd ps []) (hx : ∀ σ, PassesAt CX X σ (E σ))
    (ht : eval (.Call (.Attribute o m apos) [] [] pos) X.env = (do
      let ov ← eval o X.env
      standAt apos.atName
      let (f, first) ← holding [ov] (getMethod ov m pl)
      callWith pos f first (backTo pos (starEach [] X.env)) (backToKw pos (keywordEach [] X.env))) := by rfl) :
    PE X (.Call (.Attribute o m apos) [] [] pos) (tMethS C m sp E ta tNil) := by
  refine ⟨fun pins s σ H Q I h => ?_⟩
  refine PySem.W.methodCall_KW (pl := pl) (thn (he.run pins s σ H _ I h) fun u s1 ⟨x, H1, I1, rx, a, dx, fs, ex, ea, l, q⟩ => ?_) ht
  subst ex
  obtain rfl : u = Value.ref a := rx
  refine getmeth_ok I1 ea c hm l ?_
  exact PySem.W.callWith_K0 (first := [.ref a]) I1.kIn hm.kp (run_fnS (us := [.ref a]) (vs := [.ref a]) F hr hb (hx σ) I1 (.cons rfl .nil) q)
theorem run_makeS {E : XK} {pins : List (Addr × Obj)} {σ : L2.St} {H : Hp} {s : Shared} {Q : VK} {us : List Value} {vs : List V} (M : Mk X.K C f) (F : FnOk X.prog X.w X.K X.mg X.base CX k f fd ps sp) (hr : Room (k + 1) X.A) (hb : Binds X.K fd ps [])
    (hx : PassesAt CX X σ E) (I : Inv X pins σ H s) (r : Vals vs us)
    (h : ∀ x dx, H x = none → H dx = none → dx ≠ x → sp (.ref x :: vs) (upd (upd H dx (.own x)) x (.ins C dx [])) (fun v H2 => v = .non ∧ Q (.ref x) H2) E) :
    wpAny (model X.prog X.w) X.A (call (.ref C) us) (EP X pins σ Q) X.xe s := by
  have hq := h (s.heap.objs.size + 1) s.heap.objs.size (I.hok.fresh (Nat.le_succ _)) (I.hok.fresh (Nat.le_refl _)) (Nat.ne_of_lt (Nat.lt_succ_self _))
  have I2 := Inv.made (C := C) I
  have r2 : Vals (V.ref (s.heap.objs.size + 1) :: vs) (Value.ref (s.heap.objs.size + 1) :: us) := .cons rfl r
  have hl : (Value.ref (s.heap.objs.size + 1) :: us).length = ps.length := by
    have e := r2.length
    rw [F.len _ _ _ _ hq] at e
    exact e.symm
  refine wpAny_call (make_map (f := f) I.kIn M.makes M.init (beq_iff_eq.mp M.fn) (codeAny_mono (F.run _ X.stack _ _ ⟨Value.ref (s.heap.objs.size + 1) :: us, []⟩ (Value.ref (s.heap.objs.size + 1) :: us) _ _ E (hr.make C us [])
    (I2.env0.make C us []) (by
      have := hb _ (Value.ref (s.heap.objs.size + 1) :: us) I2.kIn (by rw [List.append_nil]; exact hl)
      rw [List.append_nil] at this
      exact this) r2 hq) fun r s' hq' => ?_))
  cases r with
  | error e => exact hx pins _ _ e s' I2 hq'
  | ok fl =>
    cases fl with
    | ret u =>
      obtain ⟨v, H', I3, rv, ev, q3⟩ := I2.after hq'
      subst ev
      exact ⟨rv, ⟨V.ref (s.heap.objs.size + 1), H', I3, rfl, q3⟩⟩
    | next => exact False.elim hq'
    | brk => exact False.elim hq'
    | cont => exact False.elim hq'
def tMakeS (C : Addr) (sp : Sp) (E : L2.St → XK) (t : TA) : TE := fun σ H Q => t σ H fun vs H1 => ∀ x dx, H1 x = none → H1 dx = none → dx ≠ x → sp (.ref x :: vs) (upd (upd H1 dx (.own x)) x (.ins C dx [])) (fun v H2 => v = .non ∧ Q (.ref x) H2) (E σ)
theorem pe_makeX {E : L2.St → XK} (M : Mk X.K C f) (F : FnOk X.prog X.w X.K X.mg X.base CX k f fd ps sp) (hr : Room (k + 1) X.A) (hg : Gl X n) (hm : X.mg n = some (.ref C)) (hb : Binds X.K fd ps []) (hx : ∀ σ, PassesAt CX X σ (E σ))
    (ha : PA X (e :: es) t) (hdb : (n == ("__debug__" : Str)) = false := by decide) (he : starEach (e :: es) X.env = (false, eval e X.env) :: starEach es X.env := by rfl) (hpl : (backTo pos (starEach es X.env)).any (·.1) = false := by rfl) :
    PE X (.Call (.Name n p0) (e :: es) [] pos) (tMakeS C sp E t) := by
  refine ⟨fun pins s σ H Q I h => ?_⟩
  refine wpAny_Call_Name_kw (ld_glob I hg hm ?_ hdb)
  refine PySem.W.callWith_K (h₀ := X.base) I.ok.mod.kin M.kp (thn (ha.run pos pins s σ H _ I h) fun us s1 ⟨vs, H1, I1, r, q⟩ => ⟨I1.kIn, ?_⟩) he hpl
  exact run_makeS M F hr hb (hx σ) I1 r q
theorem pe_makeX0 {E : L2.St → XK} (M : Mk X.K C f) (F : FnOk X.prog X.w X.K X.mg X.base CX k f fd ps sp) (hr : Room (k + 1) X.A) (hg : Gl X n) (hm : X.mg n = some (.ref C)) (hb : Binds X.K fd ps []) (hx : ∀ σ, PassesAt CX X σ (E σ))
    (hdb : (n == ("__debug__" : Str)) = false := by decide) : PE X (.Call (.Name n p0) [] [] pos) (tMakeS C sp E tNil) := by
  refine ⟨fun pins s σ H Q I h => ?_⟩
  refine wpAny_Call_Name_kw (ld_glob I hg hm ?_ hdb)
  exact PySem.W.callWith_K0 I.kIn M.kp (run_makeS (us := []) M F hr hb (hx σ) I .nil h)

def Calls (X : Cx) (e : Expr) (σ : L2.St) (s : S) (sp : Sp) (E : XK) (Φ : List V → S → Prop) : Prop := ∀ s1, Ex s s1 → ∀ Q : VK, (∀ vs s2, Ex s1 s2 → Φ vs s2 → sp vs s2.H Q E) → WE X e σ s1.H Q
theorem ca_fn {A : Type} [EncA A] {a : A} {E : L2.St → XK} (C : Cal X.prog X.w X.K X.mg X.base CX k n sp) (hx : ∀ σ, PassesAt CX X σ (E σ)) (hr : Room j X.A) (hk : k ≤ j) (ha : EvA X (e :: es) σ s a) (hg : Gl X n := by rfl)
    (hdb : (n == ("__debug__" : Str)) = false := by decide) (he : starEach (e :: es) X.env = (false, eval e X.env) :: starEach es X.env := by rfl) (hpl : (backTo pos (starEach es X.env)).any (·.1) = false := by rfl) : Calls X (.Call (.Name n p0) (e :: es) [] pos) σ s sp (E σ) (fun vs s2 => repA X.K s2.F vs a) := fun s1 k1 Q q => by
  obtain ⟨f, fd, ps, F, hm, kp, b⟩ := C.ex
  exact we_of (pe_callS (E := E) F (hr.mono hk) hg hm kp b hx pa_wa hdb he hpl) (ha s1 k1 _ fun vs s2 k2 r2 => q vs s2 k2 r2)
theorem ca_meth {A : Type} [EncA A] {a : A} {E : L2.St → XK} {c : Str} {p : Addr} {fs : List (Str × V)} (C : CalM X.prog X.w X.K X.mg X.base CX k c m sp) (hc : Cls X.K (He.ga X.K c)) (hx : ∀ σ, PassesAt CX X σ (E σ)) (hr : Room j X.A) (hk : k ≤ j) (ho : Ev X o σ s (Rw.mk (.ref p))) (r : CellAt s X.K p c fs) (hl : fs.lookup m = none) (ha : EvA X (e :: es) σ s a)
    {pl : Sem Bool} (hst : starEach (e :: es) X.env = (false, eval e X.env) :: starEach es X.env := by rfl) (hpl : (backTo pos (starEach es X.env)).any (·.1) = false := by rfl)
    (ht : eval (.Call (.Attribute o m apos) (e :: es) [] pos) X.env = (do
      let ov ← eval o X.env
      standAt apos.atName
      let (f, first) ← holding [ov] (getMethod ov m pl)
      callWith pos f first (backTo pos (starEach (e :: es) X.env)) (backToKw pos (keywordEach [] X.env))) := by rfl) : Calls X (.Call (.Attribute o m apos) (e :: es) [] pos) σ s sp (E σ) (fun vs s2 => ∃ ws, vs = .ref p :: ws ∧ repA X.K s2.F ws a) := fun s1 k1 Q q => by
  obtain ⟨f, fd, ps, F, hm, b⟩ := C.ex
  refine we_of (pe_methX (E := E) (pl := pl) pe_we hc hm F (hr.mono hk) b hx pa_wa hst hpl ht) (ho s1 k1 _ fun v s2 k2 e2 => ?_)
  cases (show v = V.ref p from e2)
  obtain ⟨dx, h1⟩ := r.ex (k1.trans k2)
  exact ⟨p, dx, fs, rfl, h1, hl, ha s2 (k1.trans k2) _ fun ws s3 k3 r3 => q _ s3 (k2.trans k3) ⟨ws, rfl, r3⟩⟩
theorem ca_meth0 {E : L2.St → XK} {c : Str} {p : Addr} {fs : List (Str × V)} (C : CalM X.prog X.w X.K X.mg X.base CX k c m sp) (hc : Cls X.K (He.ga X.K c)) (hx : ∀ σ, PassesAt CX X σ (E σ)) (hr : Room j X.A) (hk : k ≤ j) (ho : Ev X o σ s (Rw.mk (.ref p))) (r : CellAt s X.K p c fs) (hl : fs.lookup m = none)
    {pl : Sem Bool} (ht : eval (.Call (.Attribute o m apos) [] [] pos) X.env = (do
      let ov ← eval o X.env
      standAt apos.atName
      let (f, first) ← holding [ov] (getMethod ov m pl)
      callWith pos f first (backTo pos (starEach [] X.env)) (backToKw pos (keywordEach [] X.env))) := by rfl) : Calls X (.Call (.Attribute o m apos) [] [] pos) σ s sp (E σ) (fun vs s2 => ∃ ws, vs = .ref p :: ws ∧ repA X.K s2.F ws ()) := fun s1 k1 Q q => by
  obtain ⟨f, fd, ps, F, hm, b⟩ := C.ex
  refine we_of (pe_methX0 (E := E) (pl := pl) pe_we hc hm F (hr.mono hk) b hx ht) (ho s1 k1 _ fun v s2 k2 e2 => ?_)
  cases (show v = V.ref p from e2)
  obtain ⟨dx, h1⟩ := r.ex (k1.trans k2)
  exact ⟨p, dx, fs, rfl, h1, hl, q _ s2 k2 ⟨[], rfl, rfl⟩⟩
def CallsN (X : Cx) (e : Expr) (σ : L2.St) (s : S) (c : Str) (sp : Sp) (E : XK) (Φ : List V → S → Prop) : Prop := ∀ s1, Ex s s1 → ∀ Q : VK, (∀ vs s2, Ex s1 s2 → Φ vs s2 → ∀ x dx, s2.H x = none → s2.H dx = none → dx ≠ x → sp (.ref x :: vs) (upd (upd s2.H dx (.own x)) x (.ins (He.ga X.K c) dx [])) (fun v H2 => v = .non ∧ Q (.ref x) H2) E) → WE X e σ s1.H Q
theorem ca_make {A : Type} [EncA A] {a : A} {E : L2.St → XK} (C : CalC X.prog X.w X.K X.mg X.base CX k n sp) (hx : ∀ σ, PassesAt CX X σ (E σ)) (hr : Room j X.A) (hk : k + 1 ≤ j) (ha : EvA X (e :: es) σ s a) (hg : Gl X n := by rfl)
    (hdb : (n == ("__debug__" : Str)) = false := by decide) (he : starEach (e :: es) X.env = (false, eval e X.env) :: starEach es X.env := by rfl) (hpl : (backTo pos (starEach es X.env)).any (·.1) = false := by rfl) : CallsN X (.Call (.Name n p0) (e :: es) [] pos) σ s n sp (E σ) (fun vs s2 => repA X.K s2.F vs a) := fun s1 k1 Q q => by
  obtain ⟨f, fd, ps, F, M, hm, b⟩ := C.ex
  exact we_of (pe_makeX (E := E) M F (hr.mono hk) hg hm b hx pa_wa hdb he hpl) (ha s1 k1 _ fun vs s2 k2 r2 => fun x dx h1 h2 h3 => q vs s2 k2 r2 x dx h1 h2 h3)
theorem ca_make0 {E : L2.St → XK} (C : CalC X.prog X.w X.K X.mg X.base CX k n sp) (hx : ∀ σ, PassesAt CX X σ (E σ)) (hr : Room j X.A) (hk : k + 1 ≤ j) (hg : Gl X n := by rfl)
    (hdb : (n == ("__debug__" : Str)) = false := by decide) : CallsN X (.Call (.Name n p0) [] [] pos) σ s n sp (E σ) (fun vs s2 => repA X.K s2.F vs ()) := fun s1 k1 Q q => by
  obtain ⟨f, fd, ps, F, M, hm, b⟩ := C.ex
  exact we_of (pe_makeX0 (E := E) M F (hr.mono hk) hg hm b hx hdb) fun x dx h1 h2 h3 => q [] s1 (Ex.refl _) rfl x dx h1 h2 h3
theorem pass00 {E : L2.St → XK} : ∀ σ, PassesAt CX0 X σ (E σ) := fun σ pins H s e s' I c => c.elim
theorem passF : ∀ σ, PassesAt (L2.CX X.prog X.w) X σ ((fun _ _ _ _ => False : L2.St → XK) σ) := fun σ pins H s e s' I c => by
  obtain ⟨_, _, _, _, _, _, _, _, _, _, _, _, hf⟩ := c
  exact hf.elim
def EvK (X : Cx) (e : Expr) (σ : L2.St) (s : S) (Φ : V → S → Prop) : Prop := ∀ Q : VK, (∀ v s2, Φ v s2 → Q v s2.H) → WE X e σ s.H Q
def EvG (X : Cx) (e : Expr) (σ : L2.St) (s : S) (ok : V → List OA → Prop) : Prop := ∀ s1, Ex s s1 → ∀ Q : VK, (∀ v s2 L', ok v L' → Iv X.K No s1 s2 L' → Q v s2.H) → WE X e σ s1.H Q
end
section
variable {X : Cx} {P0 : Addr → Prop} {s0 s s1 t : S} {L R0 M : List OA} {K : PySem.W.Frag}
theorem Iv.add (h : Iv K P0 s0 s L) (g : Iv K No s s1 M) : Iv K P0 s0 s1 (L ++ M) := by
  obtain ⟨P1, _, _, h3, h4⟩ := call_in h (R0 := []) ⟨fun i A e => by cases e⟩ [] List.nodup_nil (fun k hk => by cases hk) [] (fun A hA => by cases hA) [] (fun i hi => by cases hi)
  have e0 : P1 = No := by
    funext a
    exact propext ⟨fun z => (h3 rfl a z).elim, fun z => z.elim⟩
  have := h4 s1 M (by rw [e0]; exact g)
  have er : rem L [] = L := by
    unfold rem
    apply List.ext_getElem?
    intro i
    rw [List.getElem?_mapIdx]
    cases L[i]? <;> simp
  rw [er] at this
  exact this
theorem Iv.noex (h : Iv K No s0 s L) : Ex s0 s := h.exx
theorem Iv.nil : Iv K P0 s s [] := Iv.tops 0 s
theorem Iv.cons1 {A : OA} (h : Iv K No s s1 [A]) : A :: [] = [A] := rfl
theorem ev_ivf {α : Type} [Enc α] {v : V} {x : α} (e : Ex s s1) (r : rep K s1.F v x) : Iv K No s s1 [Dy.fz v x] := (Iv.sf (Iv.tops (K := K) (P0 := No) 1 s) 0 e r rfl)
theorem ev_ivl {α : Type} [Enc α] {p : Addr} {x : List α} (e : Ex s s1) (n : s.H p = none) (o : Own K s1 p x) : Iv K No s s1 [Dy.ol p x] := (Iv.sl (Iv.tops (K := K) (P0 := No) 1 s) 0 e n o rfl)
theorem ev_ivd {α κ : Type} [DKey κ] [Enc α] {p : Addr} {x : List (κ × α)} (e : Ex s s1) (n : s.H p = none) (o : OwnD K s1 p x) : Iv K No s s1 [Dy.od p x] := (Iv.sd (Iv.tops (K := K) (P0 := No) 1 s) 0 e n o rfl)
end
section
variable {X : Cx} {CX : CXT} {k j : Nat} {e : Expr} {es : List Expr} {pos p0 p1 : Pos} {σ : L2.St} {P0 : Addr → Prop} {s0 s : S} {L R0 : List OA} {A O : Type} {pre : List V → A → List OA → List OA → Prop} {m : A → Option O} {ok : List V → A → O → V → List OA → Prop} {er : List V → A → O → Er → List OA → Prop} {x : A} {o : O} {E : XK} {Φ : List V → S → Prop} {ok' : V → List OA → Prop}
theorem eg_call (c : Calls X e σ s (spI X.K pre m ok er) E Φ) (iv : Iv X.K P0 s0 s L) (ro : Ro X.K P0 s0 R0) (rs : List (Nat ⊕ Nat))
    (hp : ∀ vs s2, Ex s s2 → Φ vs s2 → ∃ Lf, pre vs x Lf (rsel L R0 rs) ∧ (∀ A ∈ Lf, A.p X.K s2.F s2.H No) ∧ (∀ v L', ok vs x o v L' → ok' v L') ∧ (∀ e L', er vs x o e L' → False)) (hm : m x = some o) : EvG X e σ s ok' := fun s1 k1 Q q =>
  c s1 k1 Q fun vs s2 k2 φ => by
    obtain ⟨Lf, h1, h2, h3, h4⟩ := hp vs s2 (k1.trans k2) φ
    obtain ⟨P1, g1, g2, g3, g4⟩ := call_in (iv.ex (k1.trans k2)) ro [] List.nodup_nil (fun k hk => by cases hk) Lf h2 rs (fun i _ z => by cases z)
    have e0 : P1 = No := by
      funext a
      exact propext ⟨fun z => (g3 rfl a z).elim, fun z => z.elim⟩
    subst e0
    exact ⟨s2, No, Lf, _, x, o, rfl, h1, g1, g2, hm, fun v s' L' hok iv' => q v s' L' (h3 v L' hok) ⟨k2.z.trans iv'.m, by
      obtain ⟨φ, f1, f2, f3⟩ := iv'.o
      exact ⟨φ, f1, f2, fun i a z => ⟨(f3 i a z).1, (f3 i a z).2.1.elim (fun z => z.elim) (fun z => .inr (fr_back k2 z)), (f3 i a z).2.2⟩⟩⟩, fun e cls d s' L' z _ _ => (h4 e L' z).elim⟩
theorem ek_call (c : Calls X e σ s (spI X.K pre m ok er) E Φ) (iv : Iv X.K P0 s0 s L) (ro : Ro X.K P0 s0 R0) (ks : List Nat) (hn : ks.Nodup) (hk : ∀ k ∈ ks, k < L.length) (rs : List (Nat ⊕ Nat)) (hrs : ∀ i, Sum.inl i ∈ rs → i ∉ ks)
    (hp : ∀ vs s2, Ex s s2 → Φ vs s2 → ∃ Lf, pre vs x (ks.map (fun k => L.getD k top) ++ Lf) (rsel L R0 rs) ∧ (∀ A ∈ Lf, A.p X.K s2.F s2.H No) ∧ (∀ v L', ok vs x o v L' → ok' v L') ∧ (∀ e L', er vs x o e L' → False)) (hm : m x = some o) :
    EvK X e σ s (fun v s' => ∃ L', ok' v L' ∧ Fle s.F s'.F ∧ Iv X.K P0 s0 s' (rem L ks ++ L')) := fun Q q =>
  c s (Ex.refl _) Q fun vs s2 k2 φ => by
    obtain ⟨Lf, h1, h2, h3, h4⟩ := hp vs s2 k2 φ
    obtain ⟨P1, g1, g2, g3, g4⟩ := call_in (iv.ex k2) ro ks hn hk Lf h2 rs hrs
    exact ⟨s2, P1, _, _, x, o, rfl, h1, g1, g2, hm, fun v s' L' hok iv' => q v s' ⟨L', h3 v L' hok, k2.f.trans iv'.m.f, g4 s' L' iv'⟩, fun e cls d s' L' z _ _ => (h4 e L' z).elim⟩
theorem ex_call {er' : Er → List OA → Prop} {W : WX} (c : Calls X e σ s (spI X.K pre m ok er) (L2.WE W σ) Φ) (iv : Iv X.K P0 s0 s L) (ro : Ro X.K P0 s0 R0) (ks : List Nat) (hn : ks.Nodup) (hk : ∀ k ∈ ks, k < L.length) (rs : List (Nat ⊕ Nat)) (hrs : ∀ i, Sum.inl i ∈ rs → i ∉ ks)
    (hp : ∀ vs s2, Ex s s2 → Φ vs s2 → ∃ Lf, pre vs x (ks.map (fun k => L.getD k top) ++ Lf) (rsel L R0 rs) ∧ (∀ A ∈ Lf, A.p X.K s2.F s2.H No) ∧ (∀ v L', ok vs x o v L' → False) ∧ (∀ e L', er vs x o e L' → er' e L')) (hm : m x = some o)
    (hw : ∀ e cls d s' L', er' e L' → Iv X.K P0 s0 s' (rem L ks ++ L') → ExR X.K s'.F e cls d → W cls d σ s'.H) : EvX X e σ s := fun s1 k1 Q =>
  c s1 k1 Q fun vs s2 k2 φ => by
    obtain ⟨Lf, h1, h2, h3, h4⟩ := hp vs s2 (k1.trans k2) φ
    obtain ⟨P1, g1, g2, g3, g4⟩ := call_in (iv.ex (k1.trans k2)) ro ks hn hk Lf h2 rs hrs
    exact ⟨s2, P1, _, _, x, o, rfl, h1, g1, g2, hm, fun v s' L' hok iv' => (h3 v L' hok).elim, fun e cls d s' L' z iv' r => hw e cls d s' L' (h4 e L' z) (g4 s' L' iv') r⟩
theorem mk_cell {c : Str} {p dx : Addr} (iv : Iv X.K P0 s0 s L) (hx : s.H p = none) (hd : s.H dx = none) (ne : dx ≠ p) : ∃ s1 : S, s1.H = upd (upd s.H dx (.own p)) p (.ins (He.ga X.K c) dx []) ∧ Ex s s1 ∧ Iv X.K P0 s0 s1 (L ++ [Dy.cell p c []]) ∧ Iv X.K No s s1 [Dy.cell p c []] := by
  have e1 : Ex s (s.newO dx (.own p) hd) := Ex.newO hd
  have hx1 : (s.newO dx (.own p) hd).H p = none := by show upd s.H dx _ p = none; rw [upd_ne (Ne.symm ne)]; exact hx
  have e2 := Ex.newO (o := HO.ins (He.ga X.K c) dx []) hx1
  have e3 := e1.trans e2
  have g : Iv X.K No s ((s.newO dx (.own p) hd).newO p (.ins (He.ga X.K c) dx []) hx1) [Dy.cell p c []] := by
    refine Iv.put (L := [top]) (Iv.tops (P0 := No) 1 s) 0 e3 ⟨fun a => a = p ∨ a = dx, ⟨dx, fun _ => Iff.rfl, upd_same, ?_⟩, fun a z => ?_⟩
    · show upd (upd s.H dx (.own p)) p _ dx = _
      rw [upd_ne ne, upd_same]
    · rcases z with rfl | rfl
      · exact ⟨(fF hx : s.F a = none), hx⟩
      · exact ⟨(fF hd : s.F a = none), hd⟩
  exact ⟨_, rfl, e3, iv.add g, g⟩
theorem eg_make {c : Str} (ca : CallsN X e σ s c (spI X.K pre m ok er) E Φ) (iv : Iv X.K P0 s0 s L) (ro : Ro X.K P0 s0 R0) (rs : List (Nat ⊕ Nat))
    (hp : ∀ vs s2 p, Ex s s2 → Φ vs s2 → ∃ Lf, pre (.ref p :: vs) x (Dy.cell p c [] :: Lf) (rsel L R0 rs) ∧ (∀ (A : OA) (s3 : S), Ex s2 s3 → A ∈ Lf → A.p X.K s3.F s3.H No) ∧ (∀ v L', ok (.ref p :: vs) x o v L' → v = .non ∧ ok' (.ref p) L') ∧ (∀ e L', er (.ref p :: vs) x o e L' → False)) (hm : m x = some o) : EvG X e σ s ok' := fun s1 k1 Q q =>
  ca s1 k1 Q fun vs s2 k2 φ p dx n1 n2 ne => by
    obtain ⟨Lf, h1, h2, h3, h4⟩ := hp vs s2 p (k1.trans k2) φ
    obtain ⟨s3, e3, k3, iv3, iv4⟩ := mk_cell (c := c) (iv.ex (k1.trans k2)) n1 n2 ne
    have kk := k2.trans k3
    obtain ⟨P1, g1, g2, g3, g4⟩ := call_in (R0 := rsel L R0 rs) (K := X.K) (s0 := s3) (s := s3) (P0 := fun a => a = p ∨ a = dx) (L := [Dy.cell p c []]) ⟨(Ex.refl s3).z, by
        obtain ⟨φ, f1, f2, f3⟩ := iv4.o
        refine ⟨φ, f1, f2, fun i a z => ⟨(f3 i a z).1, .inl ?_, (f3 i a z).2.2⟩⟩
        have hi : i = 0 := by have := (f3 i a z).2.2; simpa using this
        subst hi
        obtain ⟨dx', w0, w1, w2⟩ := f1 0 _ rfl
        have : dx' = dx := by
          rw [e3, upd_same] at w1
          cases w1; rfl
        subst this
        exact (w0 a).mp z⟩ ⟨fun i A hA => by
        obtain ⟨PP, w1, w2, _, _⟩ := call_in (iv.ex (k1.trans k2)) ro [] List.nodup_nil (fun k hk => by cases hk) [] (fun A hA => by cases hA) rs (fun i _ z => by cases z)
        obtain ⟨Pa, u1, u2⟩ := w2.o i A hA
        refine ⟨Pa, OA.stay (P0 := No) u1 k3.z fun _ _ z => z, fun a ha z => ?_⟩
        obtain ⟨o', ho'⟩ := A.dom u1 ha
        rcases z with rfl | rfl
        · rw [n1] at ho'; cases ho'
        · rw [n2] at ho'; cases ho'⟩ [0] (by decide) (by simp) Lf (fun A hA => h2 A s3 k3 hA) ((List.range rs.length).map Sum.inr) (fun i z => by simp at z)
    refine ⟨s3, P1, _, _, x, o, e3, ?_, g1, g2, hm, fun v s' L' hok iv' => ?_, fun e cls d s' L' z _ _ => (h4 e L' z).elim⟩
    · have er : rsel [Dy.cell p c []] (rsel L R0 rs) ((List.range rs.length).map Sum.inr) = rsel L R0 rs := by
        apply List.ext_getElem?
        intro i
        unfold rsel
        rw [List.map_map, List.getElem?_map]
        by_cases hi : i < rs.length
        · rw [List.getElem?_range hi]
          simp only [Option.map_some, Function.comp]
          rw [List.getD_eq_getElem?_getD, List.getElem?_map, List.getElem?_eq_getElem hi]
          rfl
        · rw [List.getElem?_eq_none (by rw [List.length_range]; omega), List.getElem?_map, List.getElem?_eq_none (by omega)]; rfl
      rw [er]
      exact h1
    · obtain ⟨v0, hok'⟩ := h3 v L' hok
      have := g4 s' L' iv'
      refine ⟨v0, q _ s' L' hok' ?_⟩
      have iv5 : Iv X.K (fun a => a = p ∨ a = dx) s3 s' L' := by
        have := this.sel ((List.range L'.length).map fun i => some (i + 1)) (by
          have : (List.map (fun i => some (i + 1)) (List.range L'.length)).filterMap id = (List.range L'.length).map (· + 1) := by
            rw [List.filterMap_map]
            exact (List.filterMap_eq_map (f := fun i : Nat => i + 1)) ▸ rfl
          rw [this]
          exact List.Pairwise.map _ (fun a b h e => h (Nat.succ.inj e)) List.nodup_range) (M := L') (by
          unfold pick rem
          apply List.ext_getElem?
          intro i
          rw [List.map_map, List.getElem?_map]
          by_cases hi : i < L'.length
          · rw [List.getElem?_range hi]
            simp [List.getD_eq_getElem?_getD, List.getElem?_eq_getElem hi]
          · rw [List.getElem?_eq_none (by rw [List.length_range]; omega), List.getElem?_eq_none (by omega)]; rfl)
        exact this
      refine ⟨⟨kk.f.trans iv5.m.f, fun a o h _ => ?_, fun a o h _ n => ?_, fun a o h => ?_⟩, ?_⟩
      · have : ¬ (a = p ∨ a = dx) := fun z => by
          rcases z with rfl | rfl
          · rw [k2.h _ _ h] at n1; cases n1
          · rw [k2.h _ _ h] at n2; cases n2
        exact iv5.m.h _ _ (kk.h _ _ h) this
      · have : ¬ (a = p ∨ a = dx) := fun z => by
          rcases z with rfl | rfl
          · rw [k2.h _ _ h] at n1; cases n1
          · rw [k2.h _ _ h] at n2; cases n2
        exact iv5.m.n _ _ (kk.h _ _ h) this (kk.n _ _ h n)
      · exact iv5.m.d _ _ (kk.h _ _ h)
      · obtain ⟨φ, f1, f2, f3⟩ := iv5.o
        refine ⟨φ, f1, f2, fun i a z => ⟨(f3 i a z).1, .inr ?_, (f3 i a z).2.2⟩⟩
        rcases (f3 i a z).2.1 with (rfl | rfl) | w
        · exact fr_back k2 n1
        · exact fr_back k2 n2
        · exact fr_back kk w
theorem ex_make {c : Str} {er' : Er → Prop} {W : WX} (ca : CallsN X e σ s c (spI X.K pre m ok er) (L2.WE W σ) Φ) (iv : Iv X.K P0 s0 s L) (ro : Ro X.K P0 s0 R0) (rs : List (Nat ⊕ Nat))
    (hp : ∀ vs s2 p, Ex s s2 → Φ vs s2 → ∃ Lf, pre (.ref p :: vs) x (Dy.cell p c [] :: Lf) (rsel L R0 rs) ∧ (∀ (A : OA) (s3 : S), Ex s2 s3 → A ∈ Lf → A.p X.K s3.F s3.H No) ∧ (∀ v L', ok (.ref p :: vs) x o v L' → False) ∧ (∀ e L', er (.ref p :: vs) x o e L' → er' e)) (hm : m x = some o)
    (hw : ∀ e cls d s', er' e → Ex s s' → ExR X.K s'.F e cls d → W cls d σ s'.H) : EvX X e σ s := fun s1 k1 Q =>
  ca s1 k1 Q fun vs s2 k2 φ p dx n1 n2 ne => by
    obtain ⟨Lf, h1, h2, h3, h4⟩ := hp vs s2 p (k1.trans k2) φ
    obtain ⟨s3, e3, k3, iv3, iv4⟩ := mk_cell (c := c) (iv.ex (k1.trans k2)) n1 n2 ne
    have kk := (k1.trans k2).trans k3
    obtain ⟨P1, g1, g2, g3, g4⟩ := call_in (R0 := rsel L R0 rs) (K := X.K) (s0 := s3) (s := s3) (P0 := fun a => a = p ∨ a = dx) (L := [Dy.cell p c []]) ⟨(Ex.refl s3).z, by
        obtain ⟨φ, f1, f2, f3⟩ := iv4.o
        refine ⟨φ, f1, f2, fun i a z => ⟨(f3 i a z).1, .inl ?_, (f3 i a z).2.2⟩⟩
        have hi : i = 0 := by have := (f3 i a z).2.2; simpa using this
        subst hi
        obtain ⟨dx', w0, w1, w2⟩ := f1 0 _ rfl
        have : dx' = dx := by
          rw [e3, upd_same] at w1
          cases w1; rfl
        subst this
        exact (w0 a).mp z⟩ ⟨fun i A hA => by
        obtain ⟨PP, w1, w2, _, _⟩ := call_in (iv.ex (k1.trans k2)) ro [] List.nodup_nil (fun k hk => by cases hk) [] (fun A hA => by cases hA) rs (fun i _ z => by cases z)
        obtain ⟨Pa, u1, u2⟩ := w2.o i A hA
        refine ⟨Pa, OA.stay (P0 := No) u1 k3.z fun _ _ z => z, fun a ha z => ?_⟩
        obtain ⟨o', ho'⟩ := A.dom u1 ha
        rcases z with rfl | rfl
        · rw [n1] at ho'; cases ho'
        · rw [n2] at ho'; cases ho'⟩ [0] (by decide) (by simp) Lf (fun A hA => h2 A s3 k3 hA) ((List.range rs.length).map Sum.inr) (fun i z => by simp at z)
    refine ⟨s3, P1, _, _, x, o, e3, ?_, g1, g2, hm, fun v s' L' hok iv' => (h3 v L' hok).elim, fun e cls d s' L' z iv' r => hw e cls d s' (h4 e L' z) ?_ r⟩
    · have er : rsel [Dy.cell p c []] (rsel L R0 rs) ((List.range rs.length).map Sum.inr) = rsel L R0 rs := by
        apply List.ext_getElem?
        intro i
        unfold rsel
        rw [List.map_map, List.getElem?_map]
        by_cases hi : i < rs.length
        · rw [List.getElem?_range hi]
          simp only [Option.map_some, Function.comp]
          rw [List.getD_eq_getElem?_getD, List.getElem?_map, List.getElem?_eq_getElem hi]
          rfl
        · rw [List.getElem?_eq_none (by rw [List.length_range]; omega), List.getElem?_map, List.getElem?_eq_none (by omega)]; rfl
      rw [er]
      exact h1
    · have iv5 := g4 s' L' iv'
      have k0 := k1.trans k2
      refine ⟨kk.f.trans iv5.m.f, fun a o h => ?_, fun a o h n => ?_⟩
      · have : ¬ (a = p ∨ a = dx) := fun z => by
          rcases z with rfl | rfl
          · rw [k0.h _ _ h] at n1; cases n1
          · rw [k0.h _ _ h] at n2; cases n2
        exact iv5.m.h _ _ (kk.h _ _ h) this
      · have : ¬ (a = p ∨ a = dx) := fun z => by
          rcases z with rfl | rfl
          · rw [k0.h _ _ h] at n1; cases n1
          · rw [k0.h _ _ h] at n2; cases n2
        exact iv5.m.n _ _ (kk.h _ _ h) this (kk.n _ _ h n)
end
end Dy

namespace Dy
open PySem PySem.Spec L2
open PyProof.Rows hiding St
open Enc (rep)
open Flat (toV)
open EncA (repA)

structure Dc (κ α : Type) where
  l : List (κ × α)
instance {κ α : Type} [DKey κ] [Enc α] : Enc (Dc κ α) := ⟨fun K F v x => ∃ p o kv, v = .ref p ∧ F p = some (.frz o (.dK kv)) ∧ KReps K F kv x.l, fun e ⟨p, o, kv, h1, h2, h3⟩ => ⟨p, o, kv, h1, e _ _ h2, h3.mono e⟩⟩
section
variable {α β γ κ τ υ ρ : Type} [Enc α] [Enc β] [Enc γ] [Enc τ] [DKey κ] [DecidableEq κ] {X : Cx} {σ : L2.St} {P0 : Addr → Prop} {s0 s s1 t : S} {L M : List OA} {e a b c o i tg iter elt : Expr} {es : List Expr} {pos p0 p1 p2 p3 : Pos} {D : Ends} {rest body : List Stmt} {n : Str} {p : Addr} {K : PySem.W.Frag}
theorem Iv.tc (h : Iv K P0 s0 s L) (i : Nat) {p : Addr} {vs : List V} (e : L[i]? = some (Dy.tc p vs) := by rfl) : s.H p = some (.tup vs) := by
  obtain ⟨P, ⟨h0, h1⟩, h3⟩ := h.at i e
  exact h1
theorem eg_ev {x : α} (h : Ev X e σ s x) : EvG X e σ s (fun v L' => L' = [fz v x]) := fun s1 k Q q => h s1 k Q fun v s2 k2 r => q v s2 _ rfl (ev_ivf k2 r)
theorem eg_new {xs : List α} (h : EvN X e σ s xs) : EvG X e σ s (fun v L' => ∃ p, v = .ref p ∧ L' = [ol p xs]) := fun s1 k Q q => h s1 k Q fun p s2 k2 n2 r => q _ s2 _ ⟨p, rfl, rfl⟩ (ev_ivl k2 n2 r)
theorem eg_newD {xs : List (κ × α)} (h : EvND X e σ s xs) : EvG X e σ s (fun v L' => ∃ p, v = .ref p ∧ L' = [od p xs]) := fun s1 k Q q => h s1 k Q fun p s2 k2 n2 r => q _ s2 _ ⟨p, rfl, rfl⟩ (ev_ivd k2 n2 r)
theorem eg_raw {v0 : V} (h : Ev X e σ s (Rw.mk v0)) : EvG X e σ s (fun v L' => v = v0 ∧ L' = []) := fun s1 k Q q => h s1 k Q fun v s2 k2 r => q v s2 [] ⟨r, rfl⟩ ((Iv.tops (P0 := No) 0 s1).ex k2)
theorem EvG.imp {ok ok' : V → List OA → Prop} (h : EvG X e σ s ok) (k : ∀ v L', ok v L' → ok' v L') : EvG X e σ s ok' := fun s1 k1 Q q => h s1 k1 Q fun v s2 L' z => q v s2 L' (k v L' z)
theorem ev_of_eg {x : α} {ok : V → List OA → Prop} (h : EvG X e σ s ok) (k : ∀ v L', ok v L' → ∃ M, L' = fz v x :: M) : Ev X e σ s x := fun s1 k1 Q q => h s1 k1 Q fun v s2 L' z iv => by
  obtain ⟨M, rfl⟩ := k v L' z
  exact q v s2 iv.exx (iv.fz 0)
theorem en_of_eg {xs : List α} {ok : V → List OA → Prop} (h : EvG X e σ s ok) (k : ∀ v L', ok v L' → ∃ p M, v = .ref p ∧ L' = ol p xs :: M) : EvN X e σ s xs := fun s1 k1 Q q => h s1 k1 Q fun v s2 L' z iv => by
  obtain ⟨p, M, rfl, rfl⟩ := k v L' z
  exact q p s2 iv.exx (iv.fresh 0) (iv.ol 0)
def EvGs (X : Cx) (es : List Expr) (σ : L2.St) (s : S) (ok : List V → List OA → Prop) : Prop := ∀ s1, Ex s s1 → ∀ Q : List V → Hp → Prop, (∀ vs s2 L', ok vs L' → Iv X.K No s1 s2 L' → Q vs s2.H) → WA X es σ s1.H Q
theorem egs_nil : EvGs X [] σ s (fun vs L' => vs = [] ∧ L' = []) := fun s1 k Q q => wa_of pa_nil (q [] s1 [] ⟨rfl, rfl⟩ (Iv.tops (P0 := No) 0 s1))
theorem egs_cons {ok : V → List OA → Prop} {ok2 : List V → List OA → Prop} (h : EvG X e σ s ok) (hr : EvGs X es σ s ok2) (hs : starEach (e :: es) X.env = (false, eval e X.env) :: starEach es X.env := by rfl) :
    EvGs X (e :: es) σ s (fun vs L' => ∃ v L1 ws L2, vs = v :: ws ∧ L' = L1 ++ L2 ∧ ok v L1 ∧ ok2 ws L2) := fun s1 k Q q =>
  wa_of (pa_cons pe_we pa_wa hs) (h s1 k _ fun v s2 L1 z1 iv1 => hr s2 (k.trans iv1.exx) _ fun ws s3 L2 z2 iv2 => q _ s3 _ ⟨v, L1, ws, L2, rfl, rfl, z1, z2⟩ (iv1.add iv2))
theorem eg_tup {ok : List V → List OA → Prop} {k} (h : EvGs X es σ s ok) (hz : ∀ vs L', ok vs L' → vs.length ≤ 1000) : EvG X (.Tuple es k pos) σ s (fun v L' => ∃ p vs L1, v = .ref p ∧ ok vs L1 ∧ L' = tc p vs :: L1) := fun s1 k1 Q q =>
  we_of (pe_tup pa_wa) (h s1 k1 _ fun vs s2 L1 z1 iv1 => ⟨by rw [sizeLine_eq]; have := hz vs L1 z1; omega, fun p hp => by
    have iv2 : Iv X.K No s2 (s2.newO p (.tup vs) hp) [tc p vs] := Iv.put (L := [top]) (Iv.tops (P0 := No) 1 s2) 0 (Ex.newO hp) ⟨fun a => a = p, ⟨fun _ => Iff.rfl, upd_same⟩, fun a z => by rw [z]; exact ⟨(fF hp : s2.F p = none), hp⟩⟩
    have := iv1.add iv2
    have iv3 := this.sel (M := tc p vs :: L1) (some L1.length :: (List.range L1.length).map some) (by
      have e1 : (some L1.length :: (List.range L1.length).map some).filterMap id = L1.length :: List.range L1.length := by simp
      rw [e1]
      exact List.nodup_cons.mpr ⟨by simp, List.nodup_range⟩) (by
      unfold pick
      rw [List.map_cons]
      congr 1
      · simp [List.getD_eq_getElem?_getD]
      · apply List.ext_getElem?
        intro i
        rw [List.map_map, List.getElem?_map]
        by_cases hi : i < L1.length
        · rw [List.getElem?_range hi]
          simp [List.getD_eq_getElem?_getD, List.getElem?_append_left hi, List.getElem?_eq_getElem hi]
        · rw [List.getElem?_eq_none (by rw [List.length_range]; omega), List.getElem?_eq_none (by omega)]; rfl)
    exact q _ _ _ ⟨p, vs, L1, rfl, z1, rfl⟩ iv3⟩)
theorem do_setG (i : Nat) {n : Str} {py : Pos} {ok : V → List OA → Prop} (h : EvG X e σ s ok) (k : ∀ v s1 L', ok v L' → Iv X.K No s s1 L' → WSs X rest D (σ.set i (some v)) s1.H) (hN : X.N.Nodup) (hx : Loc X.env.scope n := by first | exact Or.inl rfl | exact Or.inr rfl) (hi : X.N[i]? = some n := by rfl)
    (hs : swapsWith e (some (.Name n py)) pos.line X.env = pure false := by rfl) (hf : X.fn n = true ∨ X.env.scope.names.lookup n = some .local := by first | exact .inl rfl | exact .inr rfl) : WSs X (.Assign [.Name n py] e pos :: rest) D σ s.H :=
  do_cons (ps_set hN hi hx pe_we hs hf) (h s (Ex.refl _) _ fun v s1 L' z iv => k v s1 L' z iv)
theorem do_setK (i : Nat) {n : Str} {py : Pos} {Φ : V → S → Prop} (h : EvK X e σ s Φ) (k : ∀ v s1, Φ v s1 → WSs X rest D (σ.set i (some v)) s1.H) (hN : X.N.Nodup) (hx : Loc X.env.scope n := by first | exact Or.inl rfl | exact Or.inr rfl) (hi : X.N[i]? = some n := by rfl)
    (hs : swapsWith e (some (.Name n py)) pos.line X.env = pure false := by rfl) (hf : X.fn n = true ∨ X.env.scope.names.lookup n = some .local := by first | exact .inl rfl | exact .inr rfl) : WSs X (.Assign [.Name n py] e pos :: rest) D σ s.H :=
  do_cons (ps_set hN hi hx pe_we hs hf) (h _ fun v s1 z => k v s1 z)
theorem do_exprK {Φ : V → S → Prop} (h : EvK X e σ s Φ) (k : ∀ v s1, Φ v s1 → WSs X rest D σ s1.H) (hs : swapsWith e none pos.line X.env = pure false := by rfl) : WSs X (.Expr e pos :: rest) D σ s.H :=
  do_cons (ps_expr pe_we hs) (h _ fun v s1 z => k v s1 z)
theorem do_retK {Φ : V → S → Prop} (h : EvK X e σ s Φ) (k : ∀ v s1, Φ v s1 → D.rt v s1.H) : WSs X (.Return (some e) pos :: rest) D σ s.H :=
  do_cons (ps_ret pe_we) (h _ fun v s1 z => k v s1 z)
theorem do_retE (k : D.rt .non s.H) : WSs X (.Return none pos :: rest) D σ s.H := do_cons ps_retN k
theorem ek_of {ok : V → List OA → Prop} (h : EvG X e σ s ok) (iv : Iv X.K P0 s0 s L) : EvK X e σ s (fun v s' => ∃ L', ok v L' ∧ Fle s.F s'.F ∧ Iv X.K P0 s0 s' (L ++ L')) := fun Q q => h s (Ex.refl _) Q fun v s1 L' z iv' => q v s1 ⟨L', z, iv'.m.f, iv.add iv'⟩
theorem do_exprG {ok : V → List OA → Prop} (h : EvG X e σ s ok) (k : ∀ v s1 L', ok v L' → Iv X.K No s s1 L' → WSs X rest D σ s1.H) (hs : swapsWith e none pos.line X.env = pure false := by rfl) : WSs X (.Expr e pos :: rest) D σ s.H :=
  do_cons (ps_expr pe_we hs) (h s (Ex.refl _) _ fun v s1 L' z iv => k v s1 L' z iv)
theorem do_unpK2 (i j : Nat) {Φ : V → S → Prop} (h : EvK X e σ s Φ) (k : ∀ v s1, Φ v s1 → ∃ p v1 v2, v = .ref p ∧ s1.H p = some (.tup [v1, v2]) ∧ WSs X rest D ((σ.set i (some v1)).set j (some v2)) s1.H)
    (hg : PG X tg (gTup X.K 2 (gCons (gName i) (gCons (gName j) gNil)))) (hs : swapsWithSole [tg] e pos.line X.env = pure false := by rfl) (hw : swappedStores [tg] e X.env = pure none := by rfl)
    (h1 : (assignEach [tg] X.env).map (·.2) = [assign tg X.env] := by rfl) : WSs X (.Assign [tg] e pos :: rest) D σ s.H :=
  do_cons (ps_asg pe_we hg hs hw h1) (h _ fun v s1 z => by
    obtain ⟨p, v1, v2, rfl, h0, kk⟩ := k v s1 z
    exact ⟨p, _, rfl, .inl (.inl h0), rfl, v1, _, rfl, v2, _, rfl, rfl, kk⟩)
theorem do_unpK3 (i j l : Nat) {Φ : V → S → Prop} (h : EvK X e σ s Φ) (k : ∀ v s1, Φ v s1 → ∃ p v1 v2 v3, v = .ref p ∧ s1.H p = some (.tup [v1, v2, v3]) ∧ WSs X rest D (((σ.set i (some v1)).set j (some v2)).set l (some v3)) s1.H)
    (hg : PG X tg (gTup X.K 3 (gCons (gName i) (gCons (gName j) (gCons (gName l) gNil))))) (hs : swapsWithSole [tg] e pos.line X.env = pure false := by rfl) (hw : swappedStores [tg] e X.env = pure none := by rfl)
    (h1 : (assignEach [tg] X.env).map (·.2) = [assign tg X.env] := by rfl) : WSs X (.Assign [tg] e pos :: rest) D σ s.H :=
  do_cons (ps_asg pe_we hg hs hw h1) (h _ fun v s1 z => by
    obtain ⟨p, v1, v2, v3, rfl, h0, kk⟩ := k v s1 z
    exact ⟨p, _, rfl, .inl (.inl h0), rfl, v1, _, rfl, v2, _, rfl, v3, _, rfl, rfl, kk⟩)
theorem do_fldG {f cn : Str} {fs : List (Str × V)} {ok : V → List OA → Prop} (iv : Iv X.K P0 s0 s L) (i : Nat) (hA : L[i]? = some (Dy.cell p cn fs)) (ho : Ev X o σ s (Rw.mk (.ref p))) (h : EvG X e σ s ok) (hc : Cls X.K (He.ga X.K cn)) (hn : NoAttr X.K (He.ga X.K cn) f) (hl : fs.length < 1000)
    (k : ∀ v s1 L', ok v L' → Fle s.F s1.F → Iv X.K P0 s0 s1 (L.set i (Dy.cell p cn (putF f v fs)) ++ L') → WSs X rest D σ s1.H)
    (hs : swapsWith e (some (.Attribute o f p1)) pos.line X.env = pure false := by rfl) : WSs X (.Assign [.Attribute o f p1] e pos :: rest) D σ s.H :=
  do_cons (ps_fld pe_we pe_we hs) (h s (Ex.refl _) _ fun v s1 L' z iv1 => ho s1 iv1.exx _ fun u s2 k2 e2 => by
    cases (show u = V.ref p from e2)
    have ivA := (iv.add iv1).ex k2
    have hA2 : (L ++ L')[i]? = some (Dy.cell p cn fs) := by rw [List.getElem?_append_left (List.getElem?_eq_some_iff.mp hA).1]; exact hA
    obtain ⟨P, ⟨dx, h0, h1, h2⟩, h3⟩ := ivA.at i hA2
    have ne : dx ≠ p := ne_of h2 h1 (by intro z; cases z)
    have hf : s2.F p = none := h3 p ((h0 p).mpr (.inl rfl))
    refine ⟨p, _, dx, fs, rfl, h1, hc, hn, hl, ?_⟩
    have iv3 : Iv X.K P0 s0 (s2.put p (.ins (He.ga X.K cn) dx (putF f v fs)) hf) ((L ++ L').set i (Dy.cell p cn (putF f v fs))) := by
      refine ivA.upd i hA2 fun P hP hPf => ⟨P, ?_, ?_, ?_⟩
      · obtain ⟨dx', g0, g1, g2⟩ := hP
        have : dx' = dx := by rw [h1] at g1; cases g1; rfl
        subst this
        exact ⟨dx', g0, upd_same, (upd_ne ne).trans g2⟩
      · exact fun a z => ⟨hPf a z, .inl z⟩
      · have m : Mx (· = p) s2 (s2.put p (.ins (He.ga X.K cn) dx (putF f v fs)) hf) := Mx.put hf
        obtain ⟨dx', g0, g1, g2⟩ := hP
        exact ⟨m.f, fun a o q n => m.h a o q fun z => n ((g0 a).mpr (.inl z)), fun a o q _ z => m.n a o q z, m.d⟩
    rw [List.set_append_left _ _ (List.getElem?_eq_some_iff.mp hA).1] at iv3
    exact k v (s2.put p (.ins (He.ga X.K cn) dx (putF f v fs)) hf) L' z (iv1.m.f.trans k2.f) iv3)
theorem do_setItemP {xs : List α} {x : α} {z : Int} {j : Nat} (ho : Ev X o σ s (Rw.mk (.ref p))) (r : Own X.K s p xs) (he : Ev X e σ s x) (hi : Ev X a σ s z) (hj : ixN xs.length z = some j)
    (k : ∀ s1, Mx (· = p) s s1 → Own X.K s1 p (xs.set j x) → WSs X rest D σ s1.H)
    (ha : ∀ v, assign (.Subscript o a p1) X.env v = (do
      let ov ← holding [v] (eval o X.env)
      let iv ← holding [v, ov] (eval a X.env)
      standAt p1
      holding [v, ov, iv] (setItem ov iv v)
      release [v, ov, iv] []) := by intro _; rfl)
    (hs : swapsWithSole [.Subscript o a p1] e pos.line X.env = pure false := by rfl) (hw : swappedStores [.Subscript o a p1] e X.env = pure none := by rfl)
    (h1 : (assignEach [.Subscript o a p1] X.env).map (·.2) = [assign (.Subscript o a p1) X.env] := by rfl) :
    WSs X (.Assign [.Subscript o a p1] e pos :: rest) D σ s.H :=
  do_cons (ps_asg pe_we (pg_sub pe_we pe_we set_list ha) hs hw h1) (he s (Ex.refl _) _ fun v s1 k1 r1 => ho s1 k1 _ fun w s2 k2 e2 => by
    cases (show w = V.ref p from e2)
    have k12 := k1.trans k2
    exact hi s2 k12 _ fun u s3 k3 r3 => by
      obtain ⟨f0, vs, h2, h3⟩ := r.ex (k12.trans k3)
      refine ⟨p, vs, z, j, rfl, r3, h2, by rw [h3.len]; exact hj, ?_⟩
      exact k (s3.put p (.lst (vs.set j v)) f0) ((k12.trans k3).mx.trans (Mx.put f0)) ⟨f0, _, upd_same, h3.set j (Enc.mono (k2.trans k3).f r1)⟩)
theorem do_appendP {xs : List α} {x : α} (ho : Ev X o σ s (Rw.mk (.ref p))) (r : Own X.K s p xs) (he : Ev X e σ s x) (hz : xs.length < sizeLine)
    (k : ∀ s1, Mx (· = p) s s1 → Own X.K s1 p (xs ++ [x]) → WSs X rest D σ s1.H)
    (hbase : attributeBase o "append" X.env (eval o X.env) = eval o X.env := by rfl)
    (hfew : ((backTo p2 (starEach [e] X.env)).all (fun x => !x.1) && (backToKw p2 (keywordEach [] X.env)).all (fun x => x.1.isSome) && decide (([e] : List Expr).length + ([] : List Keyword).length + (if ([] : List Keyword).isEmpty then 0 else 1) < 30)) = true := by rfl)
    (hline : (p1.endLine == p2.line) = true := by rfl) (hs : starEach [e] X.env = (false, eval e X.env) :: starEach [] X.env := by rfl) (hplain : (backTo p2 (starEach [] X.env)).any (·.1) = false := by rfl)
    (hsw : swapsWith (.Call (.Attribute o "append" p1) [e] [] p2) none p3.line X.env = pure false := by rfl) :
    WSs X (.Expr (.Call (.Attribute o "append" p1) [e] [] p2) p3 :: rest) D σ s.H :=
  do_cons (ps_expr (pe_bm PySem.F.plainAttrs_list PySem.F.slot_list_append PySem.F.type_list_append mt_append pe_we (pa_cons pe_we pa_nil hs) hbase hfew hline hs hplain) hsw) (ho s (Ex.refl _) _ fun w s1 k1 e1 => by
    cases (show w = V.ref p from e1)
    obtain ⟨f1, vs, h2, h3⟩ := r.ex k1
    refine ⟨.inl ⟨rfl, vs, .inl (.inl h2)⟩, he s1 k1 _ fun v s2 k2 r2 => ?_⟩
    obtain ⟨f2, ws, g2, g3⟩ := r.ex (k1.trans k2)
    exact ⟨p, ws, v, rfl, rfl, g2, by rw [g3.len]; exact hz, k (s2.put p (.lst (ws ++ [v])) f2) ((k1.trans k2).mx.trans (Mx.put f2)) ⟨f2, _, upd_same, g3.snoc r2⟩⟩)
theorem raw_tup {vs : List V} {v : V} {z : Int} (h : Ev X e σ s (Rw.mk (.ref p))) (r : s.H p = some (.tup vs)) (hb : Ev X b σ s z) (hv : atI vs z = some v) (hp : PlainIx b := by intro _ _; rfl) : Ev X (.Subscript e b pos) σ s (Rw.mk v) := fun s1 k Q q =>
  we_of (pe_ix ix_tup pe_we pe_we hp) (h s1 k _ fun u s2 k2 e2 => hb s2 (k.trans k2) _ fun w s3 k3 e3 => by
    cases (show u = V.ref p from e2)
    exact ⟨p, vs, z, v, rfl, e3, .inl (.inl (((k.trans k2).trans k3).h _ _ r)), hv, q v s3 (k2.trans k3) rfl⟩)
theorem ev_lenTc {vs : List V} {z : Int} (hm : X.mg "len" = none) (ha : Ev X e σ s (Rw.mk (.ref p))) (r : s.H p = some (.tup vs)) (hz : (vs.length : Int) = z) (hg : Gl X "len" := by rfl) (he : starEach [e] X.env = (false, eval e X.env) :: starEach [] X.env := by rfl) (hpl : (backTo pos (starEach [] X.env)).any (·.1) = false := by rfl) : Ev X (.Call (.Name "len" p0) [e] [] pos) σ s z := fun s1 k Q q =>
  we_of (pe_callB call_len_seq hg hm boot_len (pa_cons pe_we pa_nil he) (he := he) (hpl := hpl)) (ha s1 k _ fun u s2 k2 e2 => by
    cases (show u = V.ref p from e2)
    subst hz
    exact ⟨p, vs, rfl, .inr (.inl (.inl ((k.trans k2).h _ _ r))), q _ s2 k2 rfl⟩)
theorem own_some {xs : List α} (h : Own K s p xs) : Own K s p (xs.map some) := by
  obtain ⟨h0, vs, h1, h2⟩ := h
  refine ⟨h0, vs, h1, ?_⟩
  have : ∀ {vs : List V} {xs : List α}, Reps K s.F vs xs → Reps K s.F vs (xs.map some) := by
    intro vs
    induction vs with
    | nil => intro xs h; cases xs with | nil => trivial | cons _ _ => exact h.elim
    | cons v vs ih => intro xs h; cases xs with
      | nil => exact h.elim
      | cons x xs => exact ⟨h.1, ih h.2⟩
  exact this h2
theorem en_some {xs : List α} (h : EvN X e σ s xs) : EvN X e σ s (xs.map some) := fun s1 k Q q => h s1 k Q fun p s2 k2 n2 o2 => q p s2 k2 n2 (own_some o2)
def memF {ε : Type} [DecidableEq ε] (x : ε) (xs : List ε) : Bool := decide (x ∈ xs)
theorem memF_iff {ε : Type} [DecidableEq ε] {x : ε} {xs : List ε} : memF x xs = true ↔ x ∈ xs := decide_eq_true_iff
theorem eb_inF {ε : Type} [Flat ε] [DecidableEq ε] {x : ε} {xs : List ε} (ha : Ev X a σ s x) (hb : EvR X b σ s xs) (hm : behindInMarks .In b = false := by rfl) : EvB X (.Compare a [.In] [b] pos) σ s (memF x xs) :=
  eb_cmpR op_in_seq ha hb (fun v u s2 hv hu Q q => by
    obtain ⟨p, vs, rfl, h1, h2⟩ := hu
    rw [Flat.iff.mp hv]
    obtain rfl := h2.flat
    refine ⟨p, _, rfl, .inl h1, Flat.flat x, flat_all xs, ?_⟩
    rw [inV_flat]; exact q) hm
theorem eb_notInF {ε : Type} [Flat ε] [DecidableEq ε] {x : ε} {xs : List ε} (ha : Ev X a σ s x) (hb : EvR X b σ s xs) (hm : behindInMarks .NotIn b = false := by rfl) : EvB X (.Compare a [.NotIn] [b] pos) σ s (!memF x xs) :=
  eb_cmpR op_notIn_seq ha hb (fun v u s2 hv hu Q q => by
    obtain ⟨p, vs, rfl, h1, h2⟩ := hu
    rw [Flat.iff.mp hv]
    obtain rfl := h2.flat
    refine ⟨p, _, rfl, .inl h1, Flat.flat x, flat_all xs, ?_⟩
    rw [inV_flat]; exact q) hm
def S.all (s : S) : S := ⟨s.H, s.H, fun _ _ h => h⟩
def EvV {A : Type} [EncA A] (X : Cx) (es : List Expr) (σ : L2.St) (s : S) (a : A) : Prop := ∀ s1, Ex s s1 → ∀ Q : List V → Hp → Prop, (∀ vs s2, Ex s1 s2 → repA X.K s2.H vs a → Q vs s2.H) → WA X es σ s1.H Q
theorem evv_nil : EvV X [] σ s () := fun s1 k Q q => wa_of pa_nil (q [] s1 (Ex.refl _) rfl)
theorem repA_H {A : Type} [EncA A] {vs : List V} {a : A} (e : Ex s t) (h : repA K s.H vs a) : repA K t.H vs a := EncA.monoA e.h h
theorem evv_cons {A : Type} [EncA A] {x : α} {r : A} (h : Ev X e σ s x) (hr : EvV X es σ s r) (hs : starEach (e :: es) X.env = (false, eval e X.env) :: starEach es X.env := by rfl) : EvV X (e :: es) σ s (x, r) := fun s1 k Q q =>
  wa_of (pa_cons pe_we pa_wa hs) (h s1 k _ fun v s2 k2 r2 => hr s2 (k.trans k2) _ fun vs s3 k3 r3 => q _ s3 (k2.trans k3) ⟨v, vs, rfl, Enc.mono (Fle.trans k3.f s3.sub) r2, r3⟩)
theorem evv_consR {A : Type} [EncA A] {xs : List α} {r : A} (h : EvR X e σ s xs) (hr : EvV X es σ s r) (hs : starEach (e :: es) X.env = (false, eval e X.env) :: starEach es X.env := by rfl) : EvV X (e :: es) σ s (xs, r) := fun s1 k Q q =>
  wa_of (pa_cons pe_we pa_wa hs) (h s1 k _ fun v s2 k2 r2 => hr s2 (k.trans k2) _ fun vs s3 k3 r3 => q _ s3 (k2.trans k3) ⟨v, vs, rfl, by
    obtain ⟨p, vs, e1, h1, h2⟩ := r2.ex k3
    exact ⟨p, vs, e1, h1, h2.mono s3.sub⟩, r3⟩)
def S.backH (s t : S) (h : ∀ a o, s.H a = some o → t.H a = some o) : S := ⟨s.F, t.H, fun a o q => h a o (s.sub a o q)⟩
theorem backH_ex (e : Ex s.all t) : Ex s (s.backH t e.h) := ⟨fun _ _ h => h, e.h, fun _ _ _ h => h⟩
theorem ev_callT {A ε : Type} [EncA A] [Flat ε] {m : A → Option ε} {n : Str} {k j : Nat} {x : A} {r : ε} (C : Cal X.prog X.w X.K X.mg X.base CX0 k n (sp X.K m)) (hr : Room j X.A) (hk : k ≤ j) (ha : EvV X (e :: es) σ s x) (h : m x = some r) (hg : Gl X n := by rfl)
    (hdb : (n == ("__debug__" : Str)) = false := by decide) (he : starEach (e :: es) X.env = (false, eval e X.env) :: starEach es X.env := by rfl) (hpl : (backTo pos (starEach es X.env)).any (·.1) = false := by rfl) : Ev X (.Call (.Name n p0) (e :: es) [] pos) σ s r := fun s1 k1 Q q =>
  we_of (pe_c0 C hr hk hg pa_wa hdb he hpl) (ha s1 k1 _ fun vs s2 k2 r2 => ⟨s2.all, x, r, rfl, by rw [List.append_nil]; exact r2, h, fun v s3 k3 r3 => q v (s2.backH s3 k3.h) (k2.trans (backH_ex k3)) (Flat.iff.mpr (Flat.iff.mp r3))⟩)
theorem en_callT {A ε : Type} [EncA A] [Flat ε] {m : A → Option (List ε)} {n : Str} {k j : Nat} {x : A} {r : List ε} (C : Cal X.prog X.w X.K X.mg X.base CX0 k n (spN X.K m)) (hr : Room j X.A) (hk : k ≤ j) (ha : EvV X (e :: es) σ s x) (h : m x = some r) (hg : Gl X n := by rfl)
    (hdb : (n == ("__debug__" : Str)) = false := by decide) (he : starEach (e :: es) X.env = (false, eval e X.env) :: starEach es X.env := by rfl) (hpl : (backTo pos (starEach es X.env)).any (·.1) = false := by rfl) : EvN X (.Call (.Name n p0) (e :: es) [] pos) σ s r := fun s1 k1 Q q =>
  we_of (pe_c0 C hr hk hg pa_wa hdb he hpl) (ha s1 k1 _ fun vs s2 k2 r2 => ⟨s2.all, x, r, rfl, by rw [List.append_nil]; exact r2, h, fun p s3 k3 n3 ⟨_, vs, o1, o2⟩ => q p (s2.backH s3 k3.h) (k2.trans (backH_ex k3)) (fr_back k2 n3) ⟨(fF (s := s2) n3 : s2.F p = none), vs, o1, by rw [o2.flat]; exact Reps.of_flat _⟩⟩)
theorem do_frzD {ss : List Stmt} {xs : List (κ × α)} (iv : Iv X.K P0 s0 s L) (i : Nat) (hA : L[i]? = some (Dy.od p xs)) (k : ∀ s', Fle s.F s'.F → Iv X.K P0 s0 s' (L.set i (fz (.ref p) (Dc.mk xs))) → WSs X ss D σ s'.H) : WSs X ss D σ s.H := fun pins sh I => by
  obtain ⟨hf, kv, h1, h2⟩ := iv.od i hA
  obtain ⟨ob, I2⟩ := I.lock h1 trivial
  have iv1 := iv.lock i ob hA hf h1 h2
  have f : Fle s.F (upd s.F p (.frz ob (.dK kv))) := fun a o q => by rw [upd_ne (ne_of_none q hf)]; exact q
  let s' : S := ⟨upd s.F p (.frz ob (.dK kv)), upd s.H p (.frz ob (.dK kv)), fun a o q => by
    unfold upd at q ⊢
    split
    · rename_i e; rw [if_pos e] at q; exact q
    · rename_i e; rw [if_neg e] at q; exact s.sub a o q⟩
  refine k s' f ?_ pins sh I2
  obtain ⟨φ, g1, g2, g3⟩ := iv.o
  have hi : i < L.length := (List.getElem?_eq_some_iff.mp hA).1
  have hp : φ i p := ((g1 i _ hA).1 p).mpr rfl
  have hx : P0 p ∨ s0.H p = none := (g3 i p hp).2.1
  refine ⟨⟨iv.m.f.trans f, fun a o q n => ?_, fun a o q np n => ?_, fun a o q => ?_⟩, fun j a => if j = i then False else φ j a, fun j B hB => ?_, fun j k a q r => ?_, fun j a q => ?_⟩
  · have ne : a ≠ p := fun z => by
      subst z
      rcases hx with w | w
      · exact n w
      · rw [w] at q; cases q
    exact (upd_ne ne).trans (iv.m.h a o q n)
  · have ne : a ≠ p := fun z => by
      subst z
      rcases hx with w | w
      · exact np w
      · rw [w] at q; cases q
    exact (upd_ne ne).trans (iv.m.n a o q np n)
  · by_cases e : a = p
    · exact ⟨_, by rw [e]; exact upd_same⟩
    · obtain ⟨u, hu⟩ := iv.m.d a o q
      exact ⟨u, (upd_ne e).trans hu⟩
  · by_cases e : j = i
    · subst e
      rw [List.getElem?_set_self hi] at hB
      cases hB
      exact ⟨⟨p, ob, kv, rfl, upd_same, h2.mono f⟩, fun a => by simp⟩
    · rw [List.getElem?_set_ne (Ne.symm e)] at hB
      simp only [e, if_false]
      exact B.mono f (B.loc (fun a q => upd_ne fun z => e (g2 _ _ _ q (z ▸ hp))) (g1 j B hB))
  · by_cases e : j = i
    · simp only [e, if_true] at q
    · by_cases e2 : k = i
      · simp only [e2, if_true] at r
      · simp only [e, if_false] at q
        simp only [e2, if_false] at r
        exact g2 _ _ _ q r
  · by_cases e : j = i
    · simp only [e, if_true] at q
    · simp only [e, if_false] at q
      obtain ⟨z1, z2, z3⟩ := g3 j a q
      have ne : a ≠ p := fun z => e (g2 _ _ _ q (z ▸ hp))
      exact ⟨(upd_ne ne).trans z1, z2, by rw [List.length_set]; exact z3⟩
theorem ei_itemsF {elts : List Expr} {kk : Nat} {tpos : Pos} {x : Dc κ α} (h : Ev X e σ s x) (hbase : attributeBase e "items" X.env (eval e X.env) = eval e X.env := by rfl) (hline : (p1.endLine == pos.line) = true := by rfl) : EvI X (.Tuple elts kk tpos) (.Call (.Attribute e "items" p1) [] [] pos) σ s x.l := fun s1 k R q =>
  wi_of (pi_items pe_we hbase hline) (h s1 k _ fun v s2 k2 r2 => by
    obtain ⟨p, ob, kv, rfl, h1, h2⟩ := r2
    exact ⟨p, ob, kv, rfl, s2.sub _ _ h1, q _ s2 k2 ⟨fun i t z f hz => by
      obtain ⟨w, h3, h4⟩ := h2.get hz
      refine ⟨⟨t.sub _ _ (f _ _ h1), (List.getElem?_eq_some_iff.mp h3).1⟩, fun y H' ⟨T, k', v', h5, h6, h7, h8⟩ => ⟨t.newF T (.tup [kV k', v']) h7, h8.symm, Ex.newF h7, ?_⟩⟩
      rw [h3] at h5
      cases h5
      rw [h6]
      exact ⟨T, _, _, rfl, tup_new h7, Flat.iff.mpr (DKey.kv _), Enc.mono (Ex.newF h7).f (Enc.mono f h4)⟩, fun i t f hi => ⟨t.sub _ _ (f _ _ h1), by rw [h2.len]; exact hi⟩⟩⟩)
end
section
variable {α β κ ε : Type} [Enc α] [Enc β] [DKey κ] [DecidableEq κ] {X : Cx} {σ : L2.St} {P0 : Addr → Prop} {s0 s : S} {L R : List OA} {e a b : Expr} {pos p0 p1 : Pos} {p : Addr} {K : PySem.W.Frag}
theorem en_lockI {ys : List β} {xs : List (κ × α)} (iv : Iv X.K P0 s0 s L) (i : Nat) (hA : L[i]? = some (Dy.od p xs)) (h : ∀ (ob : Obj) (kv : List (Key × V)) (s1 : S), Iv X.K P0 s0 s1 (L.set i (Dy.odl p ob kv xs)) → EvN X e σ s1 ys) : EvN X e σ s ys := fun s1 k Q q => by
  obtain ⟨hf, kv, h1, h2⟩ := iv.od i hA
  refine we_of (pe_lock pe_we) ⟨p, .dK kv, k.h _ _ h1, trivial, fun ob => ?_⟩
  obtain ⟨hf1, kx⟩ := lk_ex (ob := ob) hf h1 k
  refine h ob kv (s.put p (.frz ob (.dK kv)) hf) (iv.lock i ob hA hf h1 h2) _ kx _ fun p2 s2 k2 n2 o2 => ?_
  obtain ⟨hf2, g1, k3⟩ := lk_back hf1 (k.h _ _ h1) k2
  refine ⟨g1, ?_⟩
  have ne : p2 ≠ p := fun z => by
    have : upd s1.H p (.frz ob (.dK kv)) p2 = none := n2
    rw [z, upd_same] at this; cases this
  have n2' : s1.H p2 = none := by
    have : upd s1.H p (.frz ob (.dK kv)) p2 = none := n2
    rw [upd_ne ne] at this; exact this
  obtain ⟨o1, vs, o3, o4⟩ := o2
  exact q p2 (s2.put p (.dK kv) hf2) k3 n2' ⟨o1, vs, (upd_ne ne).trans o3, o4⟩
theorem Iv.gd (h : Iv K P0 s0 s L) (i : Nat) {o : Obj} {kv : List (Key × V)} {xs : List (κ × α)} (e : L[i]? = some (Dy.odl p o kv xs) := by rfl) : GD K p o kv xs s := (h.odl i e).2
theorem ro0 : Ro K P0 s [] := ⟨fun i A e => by cases e⟩
def AllF (K : PySem.W.Frag) (s : S) (L : List OA) : Prop := ∀ A ∈ L, A.p K s.F s.H No
theorem all_nil : AllF K s [] := fun A h => by cases h
theorem all_cons {v : V} {x : α} (r : rep K s.F v x) (h : AllF K s L) : AllF K s (fz v x :: L) := fun A hA => by
  rcases List.mem_cons.mp hA with rfl | hA
  · exact ⟨r, fun _ z => z⟩
  · exact h A hA
theorem AllF.ex {t : S} (h : AllF K s L) (e : Ex s t) : AllF K t L := fun A hA => OA.stay (P0 := No) (h A hA) e.z fun _ _ z => z
class EqO (ε : Type) extends Flat ε where
  sc : ∀ x y : ε, scal (toV x) (toV y) = true
  ij : ∀ x y : ε, toV x = toV y ↔ x = y
instance : EqO (Option Int) := { sc := fun x y => by cases x <;> cases y <;> rfl, ij := fun x y => by cases x <;> cases y <;> simp [Flat.toV] }
instance : EqO (Option Str) := { sc := fun x y => by cases x <;> cases y <;> rfl, ij := fun x y => by cases x <;> cases y <;> simp [Flat.toV] }
theorem eb_eqF {ε : Type} [EqO ε] [DecidableEq ε] {x y : ε} (ha : Ev X a σ s x) (hb : Ev X b σ s y) : EvB X (.Compare a [.Eq] [b] pos) σ s (decide (x = y)) :=
  eb_cmp op_eq ha hb (fun v u s2 hv hu Q q => by
    rw [Flat.iff.mp hv, Flat.iff.mp hu]
    refine ⟨EqO.sc x y, ?_⟩
    rw [show decide (toV x = toV y) = decide (x = y) from decide_eq_decide.mpr (EqO.ij x y)]
    exact q) (nomark _)
theorem eb_neF {ε : Type} [EqO ε] [DecidableEq ε] {x y : ε} (ha : Ev X a σ s x) (hb : Ev X b σ s y) : EvB X (.Compare a [.NotEq] [b] pos) σ s (!decide (x = y)) :=
  eb_cmp op_ne ha hb (fun v u s2 hv hu Q q => by
    rw [Flat.iff.mp hv, Flat.iff.mp hu]
    refine ⟨EqO.sc x y, ?_⟩
    rw [show decide (toV x = toV y) = decide (x = y) from decide_eq_decide.mpr (EqO.ij x y)]
    exact q) (nomark _)
theorem eb_ch_lt_lt {x y z : Int} {c : Expr} (ha : Ev X a σ s x) (hb : Ev X b σ s y) (hc : Ev X c σ s z) (hm : lastMarks [.Lt, .Lt] [b, c] = false := by with_unfolding_all rfl) : EvB X (.Compare a [.Lt, .Lt] [b, c] pos) σ s (decide (x < y) && decide (y < z)) := eb_chain op_lt rfl op_lt rfl ha hb hc hm
theorem eb_ch_lt_le {x y z : Int} {c : Expr} (ha : Ev X a σ s x) (hb : Ev X b σ s y) (hc : Ev X c σ s z) (hm : lastMarks [.Lt, .LtE] [b, c] = false := by with_unfolding_all rfl) : EvB X (.Compare a [.Lt, .LtE] [b, c] pos) σ s (decide (x < y) && decide (y ≤ z)) := eb_chain op_lt rfl op_le rfl ha hb hc hm
theorem eb_ch_le_lt {x y z : Int} {c : Expr} (ha : Ev X a σ s x) (hb : Ev X b σ s y) (hc : Ev X c σ s z) (hm : lastMarks [.LtE, .Lt] [b, c] = false := by with_unfolding_all rfl) : EvB X (.Compare a [.LtE, .Lt] [b, c] pos) σ s (decide (x ≤ y) && decide (y < z)) := eb_chain op_le rfl op_lt rfl ha hb hc hm
theorem eb_ch_le_le {x y z : Int} {c : Expr} (ha : Ev X a σ s x) (hb : Ev X b σ s y) (hc : Ev X c σ s z) (hm : lastMarks [.LtE, .LtE] [b, c] = false := by with_unfolding_all rfl) : EvB X (.Compare a [.LtE, .LtE] [b, c] pos) σ s (decide (x ≤ y) && decide (y ≤ z)) := eb_chain op_le rfl op_le rfl ha hb hc hm
theorem ev_isiTc {n : Str} {T : String} {r : Bool} {vs : List V} (hm : X.mg "isinstance" = none) (hn : X.mg n = none) (hv : bootBuiltins n = some (.type T)) (ha : Ev X a σ s (Rw.mk (.ref p))) (hc : s.H p = some (.tup vs)) (h : kitB "tuple" T = some r)
    (hg : Gl X "isinstance" := by rfl) (hgn : Gl X n := by rfl) (he : starEach [a, .Name n p1] X.env = (false, eval a X.env) :: starEach [.Name n p1] X.env := by rfl) (he2 : starEach [.Name n p1] X.env = (false, eval (.Name n p1) X.env) :: starEach [] X.env := by rfl) (hpl : (backTo pos (starEach [.Name n p1] X.env)).any (·.1) = false := by rfl)
    (hnn : n ≠ "__name__" := by decide) (hnd : (n == ("__debug__" : Str)) = false := by decide) :
    Ev X (.Call (.Name "isinstance" p0) [a, .Name n p1] [] pos) σ s r := fun s1 k Q q =>
  we_of (pe_callB call_isi hg hm (by decide +kernel) (pa_cons pe_we (pa_cons (pe_bltn (v := .ty T) hgn hn hv rfl hnn hnd) pa_nil he2) he) (he := he) (hpl := hpl)) (ha s1 k _ fun v s2 k2 r2 => by
    cases (show v = V.ref p from r2)
    exact ⟨.ref p, .ty T, .type "tuple", .type T, r, rfl, .ty T, sqt_ty (K := X.K) (.inl (.inl ((k.trans k2).h _ _ hc))), kit_ty h, q _ s2 k2 rfl⟩)
end
def clsB (K : PySem.W.Frag) (c : Str) (fs ms : List Str) : Bool := PySem.W.plainGet K (He.ga K c) Str.empty && (PySem.W.hasDictIn K (He.ga K c) && (PySem.W.plainOver K (He.ga K c) && (He.eqO (PySem.W.findIn K (.ref (He.ga K c)) "__setattr__") (some (some (.builtin "object.__setattr__"))) &&
  (PySem.W.makesIn K (He.ga K c) && (PySem.W.keepIn K (.ref (He.ga K c)) && ((fs.all fun f => He.eqO (PySem.W.findIn K (.ref (He.ga K c)) f) (some none)) && (ms.all fun m => He.eqO (PySem.W.findIn K (.ref (He.ga K c)) m) (some (some (.ref (He.fAd K (c, some m))))) && (PySem.W.isFn K (.ref (He.fAd K (c, some m))) && PySem.W.keepIn K (.ref (He.fAd K (c, some m)))))))))))
structure ClsF (K : PySem.W.Frag) (c : Str) (fs ms : List Str) : Prop where
  cl : Cls K (He.ga K c)
  ma : PySem.W.makesIn K (He.ga K c) = true
  kp : PySem.W.keepIn K (.ref (He.ga K c)) = true
  na : ∀ f ∈ fs, NoAttr K (He.ga K c) f
  me : ∀ m ∈ ms, Meth K (He.ga K c) m (He.fAd K (c, some m))
theorem clsB_ok {K : PySem.W.Frag} {c : Str} {fs ms : List Str} (h : clsB K c fs ms = true) : ClsF K c fs ms := by
  unfold clsB at h
  obtain ⟨h1, h⟩ := He.ba h
  obtain ⟨h2, h⟩ := He.ba h
  obtain ⟨h3, h⟩ := He.ba h
  obtain ⟨h4, h⟩ := He.ba h
  obtain ⟨h5, h⟩ := He.ba h
  obtain ⟨h6, h⟩ := He.ba h
  obtain ⟨h7, h8⟩ := He.ba h
  refine ⟨⟨h1, h2, h3, He.eqO_ok h4⟩, h5, h6, fun f hf => He.eqO_ok (List.all_eq_true.mp h7 f hf), fun m hm => ?_⟩
  obtain ⟨g1, g⟩ := He.ba (List.all_eq_true.mp h8 m hm)
  obtain ⟨g2, g3⟩ := He.ba g
  exact ⟨He.eqO_ok g1, g2, g3⟩
theorem ClsF.mkOf {K : PySem.W.Frag} {c : Str} {fs ms : List Str} (h : ClsF K c fs ms) (hi : ("__init__" : Str) ∈ ms) : Mk K (He.ga K c) (He.fAd K (c, some "__init__")) := ⟨h.ma, (h.me _ hi).at_, (h.me _ hi).fn, h.kp⟩
end Dy

namespace Dy
open PySem PySem.Spec L2
open PyProof.Rows hiding St
open Enc (rep)
open Flat (toV)
open EncA (repA)
section
variable {X : Cx} {α β γ δ ε κ : Type} [Enc α] [Enc β] [Enc γ] [Enc δ] [Enc ε] [DKey κ] {K : PySem.W.Frag} {σ : L2.St} {s t : S} {a b e o : Expr} {es rest : List Expr} {p : Addr} {v : V} {pos p0 p1 p2 p3 : Pos}
theorem repH_v {x : α} (h : rep K s.F v x) (e : Ex s t) : rep K t.H v x := Enc.mono (Fle.trans e.f t.sub) h
theorem repH_r {xs : List α} (h : RepR K s v xs) (e : Ex s t) : rep K t.H v xs := by
  obtain ⟨p, vs, e1, h1, h2⟩ := h.ex e
  exact ⟨p, vs, e1, h1, h2.mono t.sub⟩
theorem repH_l {xs : List α} (h : Own K s p xs) (e : Ex s t) : rep K t.H (.ref p) xs := repH_r h.r e
theorem repH_t2 {v1 v2 : V} {x : α} {y : β} (h : s.H p = some (.tup [v1, v2])) (e : Ex s t) (h1 : rep K t.H v1 x) (h2 : rep K t.H v2 y) : rep K t.H (.ref p) (x, y) := ⟨p, v1, v2, rfl, .inl (.inl (e.h _ _ h)), h1, h2⟩
theorem repH_t3 {v1 v2 v3 : V} {x : α} {y : β} {z : γ} (h : s.H p = some (.tup [v1, v2, v3])) (e : Ex s t) (h1 : rep K t.H v1 x) (h2 : rep K t.H v2 y) (h3 : rep K t.H v3 z) : rep K t.H (.ref p) (⟨x, y, z⟩ : T3 α β γ) := ⟨p, v1, v2, v3, rfl, .inl (.inl (e.h _ _ h)), h1, h2, h3⟩
theorem repH_t4 {v1 v2 v3 v4 : V} {x : α} {y : β} {z : γ} {w : δ} (h : s.H p = some (.tup [v1, v2, v3, v4])) (e : Ex s t) (h1 : rep K t.H v1 x) (h2 : rep K t.H v2 y) (h3 : rep K t.H v3 z) (h4 : rep K t.H v4 w) : rep K t.H (.ref p) (⟨x, y, z, w⟩ : T4 α β γ δ) := ⟨p, v1, v2, v3, v4, rfl, .inl (.inl (e.h _ _ h)), h1, h2, h3, h4⟩
theorem repH_t5 {v1 v2 v3 v4 v5 : V} {x : α} {y : β} {z : γ} {w : δ} {u : ε} (h : s.H p = some (.tup [v1, v2, v3, v4, v5])) (e : Ex s t) (h1 : rep K t.H v1 x) (h2 : rep K t.H v2 y) (h3 : rep K t.H v3 z) (h4 : rep K t.H v4 w) (h5 : rep K t.H v5 u) : rep K t.H (.ref p) (⟨x, y, z, w, u⟩ : T5 α β γ δ ε) := ⟨p, v1, v2, v3, v4, v5, rfl, .inl (.inl (e.h _ _ h)), h1, h2, h3, h4, h5⟩
theorem evv_consP {A : Type} [EncA A] {x : α} {r : A} (h : Ev X e σ s (Rw.mk v)) (hx : ∀ t, Ex s t → rep X.K t.H v x) (hr : EvV X es σ s r) (hs : starEach (e :: es) X.env = (false, eval e X.env) :: starEach es X.env := by rfl) : EvV X (e :: es) σ s (x, r) := fun s1 k Q q =>
  wa_of (pa_cons pe_we pa_wa hs) (h s1 k _ fun w s2 k2 e2 => by
    cases (show w = v from e2)
    exact hr s2 (k.trans k2) _ fun vs s3 k3 r3 => q _ s3 (k2.trans k3) ⟨v, vs, rfl, hx s3 ((k.trans k2).trans k3), r3⟩)
theorem evv_consG {A : Type} [EncA A] {x : α} {r : A} {ok : V → List OA → Prop} (h : EvG X e σ s ok) (hx : ∀ v s1 s2 L', ok v L' → Iv X.K No s1 s2 L' → rep X.K s2.H v x) (hr : EvV X es σ s r) (hs : starEach (e :: es) X.env = (false, eval e X.env) :: starEach es X.env := by rfl) : EvV X (e :: es) σ s (x, r) := fun s1 k Q q =>
  wa_of (pa_cons pe_we pa_wa hs) (h s1 k _ fun w s2 L' z iv => hr s2 (k.trans iv.exx) _ fun vs s3 k3 r3 => q _ s3 (iv.exx.trans k3) ⟨w, vs, rfl, Enc.mono k3.h (hx w s1 s2 L' z iv), r3⟩)
end
section
variable {X : Cx} {D : Ends} {α : Type} [Enc α] {σ : L2.St} {s : S} {o : Expr} {rest : List Stmt} {p : Addr} {p1 p2 p3 : Pos}
theorem do_clearP {xs : List α} (ho : Ev X o σ s (Rw.mk (.ref p))) (r : Own X.K s p xs)
    (k : ∀ s1, Mx (· = p) s s1 → Own X.K s1 p ([] : List α) → WSs X rest D σ s1.H)
    (hbase : attributeBase o "clear" X.env (eval o X.env) = eval o X.env := by rfl) (hline : (p1.endLine == p2.line) = true := by rfl)
    (hsw : swapsWith (.Call (.Attribute o "clear" p1) [] [] p2) none p3.line X.env = pure false := by rfl) :
    WSs X (.Expr (.Call (.Attribute o "clear" p1) [] [] p2) p3 :: rest) D σ s.H :=
  do_cons (ps_expr (pe_bm0 PySem.F.plainAttrs_list PySem.F.slot_list_clear PySem.F.type_list_clear mt_clear pe_we hbase hline) hsw) (ho s (Ex.refl _) _ fun w s1 k1 e1 => by
    cases (show w = V.ref p from e1)
    obtain ⟨f1, vs, h2, h3⟩ := r.ex k1
    exact ⟨.inl ⟨rfl, vs, .inl (.inl h2)⟩, p, vs, rfl, rfl, h2, k (s1.put p (.lst []) f1) (k1.mx.trans (Mx.put f1)) ⟨f1, _, upd_same, trivial⟩⟩)
end
end Dy

set_option maxHeartbeats 1000000
namespace RT
open PySem PySem.Spec PyProof.Rows PySem.W
section
variable {prog : Program} {w : World} {A : Around} {E : Value → Shared → Prop} {s : Shared}
theorem call_list_rev {it l : Addr} {items : Array Value} {Q : Value → Shared → Prop} (hh : A.handled = none) (hit : s.heap.IsRevIter it l ((items.size : Int) - 1)) (hl : s.heap.IsList l items) (hne : l ≠ it) (hn : items.size ≤ sizeLine)
    (hQ : ∀ (h' : Heap) (tk : Nat) (acc : Array Value) (c' : Nat), (∀ b o, b ≠ it → s.heap.get? b = some o → h'.get? b = some o) → h'.get? s.heap.objs.size = some { cls := .type "list", dict := none, data := .seq acc c', slots := #[] } → ItemsOf (fun i v => items[items.size - 1 - i]? = some v) acc items.size →
      Q (.ref s.heap.objs.size) { s with heap := h', toks := tk }) :
    wpAny (model prog w) A (call (.type "list") [.ref it]) Q E s := by
  refine callType_codes (Q₁ := fun obj s₁ => obj = .ref s.heap.objs.size ∧ s₁ = { s with heap := s.heap.push { cls := .type "list", data := .seq #[] } }) PySem.F.called_list (PySem.F.typeCall_list_1 _) PySem.F.entry_list_init
    (code_list_new _ ⟨rfl, rfl⟩) fun obj s₁ h₁ => ?_
  obtain ⟨rfl, rfl⟩ := h₁
  have hS : (s.heap.push { cls := .type "list", data := .seq #[] }).get? s.heap.objs.size = some { cls := .type "list", data := .seq #[] } := Heap.get?_push_size _ rfl
  obtain ⟨oi, hoi, _⟩ := id hit
  obtain ⟨ol, hol, _⟩ := id hl
  have hSi : s.heap.objs.size ≠ it := Nat.ne_of_gt (Heap.lt_size hoi)
  have hSl : s.heap.objs.size ≠ l := Nat.ne_of_gt (Heap.lt_size hol)
  have hSf : s.heap.objs.size ∉ [it, l] := by simp only [List.mem_cons, List.not_mem_nil, or_false, not_or]; exact ⟨hSi, hSl⟩
  have W := (Walks.listRev (prog := prog) (w := w) (A := A.in1.in1) hh it l hne items).toS
  refine ⟨⟨_, hS, rfl⟩, PySem.F.args_list_init_2 _ _, ?_⟩
  generalize hS0 : s.heap.objs.size = S at *
  have oth0 : ∀ b o, s.heap.get? b = some o → (s.heap.push { cls := .type "list", data := .seq #[] }).get? b = some o := fun b o e => Heap.get?_push_of_some _ e
  show wpAny _ _ (do let old ← Builtin.List.listItems (.ref S); Builtin.List.listUpdate (.ref S) (fun _ => #[]); letGo old.toList.reverse; Builtin.List.listExtendWith (.ref S) (.ref it) .none) _ _ _
  refine wpAny_bind ?_
  unfold Builtin.List.listItems
  refine wpAny_bind (wpAny_seqItems hS rfl (wpAny_pure ?_))
  show wpAny _ _ (updateSeq S (fun _ => #[]) >>= fun _ => letGo (#[] : Array Value).toList.reverse >>= fun _ => Builtin.List.listExtendWith (.ref S) (.ref it) .none) _ _ _
  refine wpAny_bind (wpAny_updateSeq hS rfl ?_)
  have hS₂ := Heap.get?_update_self (Obj.mapSeq (fun _ => (#[] : Array Value))) hS rfl
  have oth : ∀ b o, b ≠ S → s.heap.get? b = some o → ((s.heap.push { cls := .type "list", data := .seq #[] }).update S (Obj.mapSeq (fun _ => (#[] : Array Value)))).get? b = some o :=
    fun b o hb e => (Heap.get?_update_other _ _ (Ne.symm hb)).trans (oth0 b o e)
  generalize hH : (s.heap.push { cls := .type "list", data := .seq #[] }).update S (Obj.mapSeq (fun _ => (#[] : Array Value))) = H2 at *
  refine wpAny_bind (wpAny_letGo ?_)
  have hit1 : H2.IsRevIter it l ((items.size : Int) - 1) := hit.at fun o e => oth it o (Ne.symm hSi) e
  have hl1 : H2.IsList l items := hl.at fun o e => oth l o (Ne.symm hSl) e
  have hT : ({ s with heap := H2 } : Shared).TypeIs (.ref it) "list_reverseiterator" := Heap.IsRevIter.typeIs (s := { s with heap := H2 }) hit1
  have h1 : Builtin.List.listSameRef (.ref S) (.ref it) = false := by simp [Builtin.List.listSameRef, hSi]
  unfold Builtin.List.listExtendWith
  refine wpAny_bind (wpAny_typeOf hT ?_)
  rw [if_neg (by rw [h1]; decide)]
  refine wpAny_bind (wpAny_pyIter_revIter (s := { s with heap := H2 }) hit1 ?_)
  refine wpAny_bind (wpAny_holding ?_)
  unfold Builtin.List.listLengthHint
  refine wpAny_bind (wpAny_specialOf hT nolen_lri ?_)
  show wpAny _ _ (specialOf (Value.ref it) (Str.ofString "__length_hint__") >>= _) _ _ _
  refine wpAny_bind (wpAny_specialOf hT hint_lri ?_)
  generalize hid : ("list_reverseiterator.__length_hint__" : String) = id0
  wp_delta
  rw [show splitId id0 = some ("list_reverseiterator", "__length_hint__") from by subst hid; decide +kernel]
  subst hid
  refine wpAny_bind (wpAny_isInstance (b := true) hT (by rw [isSubtype_type]; kernel_rfl) ?_)
  refine wpAny_pure ?_
  rw [if_neg (by decide)]
  have e0 : ((items.size : Nat) : Int) - 1 - ((0 : Nat) : Int) = (items.size : Int) - 1 := by omega
  refine wpAny_pure ⟨plainId_quiet F.plain_extend_loop _, codeAny_extend_loopS W hn _ hSf _ items.size 0 _ _ _ rfl (Nat.zero_le _) ⟨Nat.zero_le _, by rw [e0]; exact hit1, hl1⟩ hS₂ (ItemsOf.nil _) fun s' acc' c' hm hS' hacc => ?_⟩
  rw [Moved.eq_with hm]
  refine ⟨rfl, hQ s'.heap s'.toks acc' c' (fun b o hb e => hm.heap b o (fun hmem => ?_) (oth b o (fun z => ?_) e)) hS' hacc⟩
  · rcases List.mem_cons.mp hmem with e' | hmem
    · exact absurd (Heap.lt_size e) (by rw [e', hS0]; exact Nat.lt_irrefl _)
    · exact hb (List.mem_singleton.mp hmem)
  · exact absurd (Heap.lt_size e) (by rw [z, hS0]; exact Nat.lt_irrefl _)
end
end RT
namespace L2
open PySem PySem.Spec PyProof.Rows RT
section
variable {X : Cx}
def tLstRev (K : PySem.W.Frag) (te : TE) : TE := fun σ H Q => te σ H fun v H1 => ∃ (a : Addr) (xs : List V), v = .ref a ∧ SqL K H1 a xs ∧ ∀ q, H1 q = none → Q (.ref q) (upd H1 q (.lst xs.reverse))
theorem pe_listRev {e : Expr} {te : TE} {p p2 pos pos2 : Pos} (hc : X.calm = true) (hg : Gl X "list") (hm : X.mg "list" = none) (hg2 : Gl X "reversed") (hm2 : X.mg "reversed" = none) (he : PE X e te)
    (hs : starEach [e] X.env = (false, eval e X.env) :: starEach [] X.env := by rfl)
    (hs2 : starEach [.Call (.Name "reversed" p2) [e] [] pos2] X.env = (false, eval (.Call (.Name "reversed" p2) [e] [] pos2) X.env) :: starEach [] X.env := by rfl) :
    PE X (.Call (.Name "list" p) [.Call (.Name "reversed" p2) [e] [] pos2] [] pos) (tLstRev X.K te) := by
  refine ⟨fun pins s σ H Q I h => ?_⟩
  refine Call_ (ld_blt I hg hm boot_list (PyProof.Rows.callWith_type1 (args_cons (Call_ (ld_blt I hg2 hm2 PyProof.Rows.boot_reversed (PyProof.Rows.callWith_type1 (args_cons (thn (he.run pins s σ H _ I h) fun u s1 ⟨v, H1, I1, r1, q1⟩ => args_nil ?_) hs) hs rfl))) hs2) hs2 rfl))
  obtain ⟨a, xs, ev, hq, q⟩ := q1
  subst ev
  obtain rfl : u = Value.ref a := r1
  obtain ⟨its, rv, p', hz⟩ := I1.list hq
  refine call_reversed_list p'.isList (args_nil ?_)
  have k0 : ∀ b o, s1.heap.get? b = some o → (s1.heap.push (revObj a ((its.toArray.size : Int) - 1))).get? b = some o := fun b o e => Heap.get?_push_of_some _ e
  have I2 : Inv X pins σ H1 { s1 with heap := s1.heap.push (revObj a ((its.toArray.size : Int) - 1)) } := I1.kept (t' := s1.toks) k0
  obtain ⟨f0, f1, f2, f3, f4, f5⟩ := I1.fpOk (H' := H1) (b := s1.heap.objs.size) (Nat.le_refl _) (I1.hok.fresh (Nat.le_refl _))
  have hl := p'.isList
  obtain ⟨ol, hol, _⟩ := id hl
  have hne : a ≠ s1.heap.objs.size := Nat.ne_of_lt (Heap.lt_size hol)
  have hn : its.toArray.size ≤ sizeLine := by rw [List.size_toArray, ← rv.length]; exact hz
  refine call_list_rev (s := { s1 with heap := s1.heap.push (revObj a ((its.toArray.size : Int) - 1)) }) (I1.ok.hd hc) ⟨_, Heap.get?_push_size _ rfl, rfl, rfl⟩ (hl.push _) hne hn fun h' tk acc c' hk hS' hi => ?_
  have hfr : H1 (s1.heap.push (revObj a ((its.toArray.size : Int) - 1))).objs.size = none := I2.hok.fresh (Nat.le_refl _)
  have k1 : ∀ b o, (s1.heap.push (revObj a ((its.toArray.size : Int) - 1))).get? b = some o → ((s1.heap.push (revObj a ((its.toArray.size : Int) - 1))).push { cls := .type "list", dict := none, data := .seq acc c', slots := #[] }).get? b = some o := fun b o e => Heap.get?_push_of_some _ e
  have I3 := I2.laid (t' := s1.toks) k1 (Nat.le_refl _) (show ObjOk X.prog X.w _ _ _ (.lst xs.reverse) from ⟨by rw [List.length_reverse]; exact hz, acc.toList, c', vals_rev rv hi, by rw [Array.toArray_toList]; exact Heap.get?_push_size _ rfl⟩)
  have hin : s1.heap.objs.size ≠ (s1.heap.push (revObj a ((its.toArray.size : Int) - 1))).objs.size := by
    rw [show (s1.heap.push (revObj a ((its.toArray.size : Int) - 1))).objs.size = s1.heap.objs.size + 1 from by simp [Heap.push]]
    omega
  have I4 : Inv X pins σ (upd H1 (s1.heap.push (revObj a ((its.toArray.size : Int) - 1))).objs.size (.lst xs.reverse)) { s1 with heap := h', toks := tk } := Inv.turned (s := { s1 with heap := (s1.heap.push (revObj a ((its.toArray.size : Int) - 1))).push { cls := .type "list", dict := none, data := .seq acc c', slots := #[] } }) I3 (t' := tk) (it := s1.heap.objs.size) (fun b o hb e => by
    rcases PySem.Heap.get?_push_cases e with ⟨e1, e2⟩ | e1
    · rw [e1, e2]; exact hS'
    · exact hk b o hb e1) (by rw [upd_ne hin]; exact f0) f1 f3 f4 f5
  exact ⟨.ref _, _, I4, rfl, q _ hfr⟩
end
end L2
namespace Dy
open PySem PySem.Spec L2
open PyProof.Rows hiding St
section
variable {X : Cx} {α : Type} [Enc α] {σ : L2.St} {s : S} {e : Expr} {p0 p2 pos pos2 : Pos}
theorem en_listRev {xs : List α} (hm : X.mg "list" = none) (hm2 : X.mg "reversed" = none) (ha : EvR X e σ s xs) (hc : X.calm = true := by rfl) (hg : Gl X "list" := by rfl) (hg2 : Gl X "reversed" := by rfl)
    (hs : starEach [e] X.env = (false, eval e X.env) :: starEach [] X.env := by rfl)
    (hs2 : starEach [.Call (.Name "reversed" p2) [e] [] pos2] X.env = (false, eval (.Call (.Name "reversed" p2) [e] [] pos2) X.env) :: starEach [] X.env := by rfl) : EvN X (.Call (.Name "list" p0) [.Call (.Name "reversed" p2) [e] [] pos2] [] pos) σ s xs.reverse := fun s1 k Q q =>
  we_of (pe_listRev hc hg hm hg2 hm2 pe_we hs hs2) (ha s1 k _ fun v s2 k2 r2 => by
    obtain ⟨p, vs, ev, h1, h2⟩ := r2
    exact ⟨p, vs, ev, h1, fun l hl => q l (s2.newO l _ hl) (k2.trans (Ex.newO hl)) (fr_back k2 hl) (own_new hl h2.rev)⟩)
end
end Dy

namespace Dy
open PySem PySem.Spec L2
open PyProof.Rows hiding St
open Enc (rep)
open EncA (repA)
section
variable {X : Cx} {σ : L2.St} {s : S} {a b c : Expr} {pos : Pos} {okA okB : V → List OA → Prop} {x : Bool}
theorem eg_if (h : EvT X c σ s x) (h1 : x = true → EvG X a σ s okA) (h2 : x = false → EvG X b σ s okB) : EvG X (.IfExp c a b pos) σ s (fun v L' => (x = true ∧ okA v L') ∨ (x = false ∧ okB v L')) := fun s1 k Q q =>
  we_of (pe_ifExp pt_wt pe_we pe_we) (h s1 k _ fun s2 k2 => by
    cases x with
    | true => exact iteT (h1 rfl s2 (k.trans k2) Q fun v s3 L' z i => q v s3 L' (.inl ⟨rfl, z⟩) (((Iv.tops (P0 := No) 0 s1).ex k2).add i))
    | false => exact iteF (h2 rfl s2 (k.trans k2) Q fun v s3 L' z i => q v s3 L' (.inr ⟨rfl, z⟩) (((Iv.tops (P0 := No) 0 s1).ex k2).add i)))
end
end Dy

set_option maxHeartbeats 1000000
namespace L2
open PySem PySem.Spec PyProof.Rows
def wAsM (K : PySem.W.Frag) (i : Nat) : List (Value × (Addr → Value → Option Addr → TS)) → WX → Ends → WX
  | [], Wout, _ => Wout
  | (c, ts) :: r, Wout, D => wAs K c i ts (wAsM K i r Wout D) D
inductive HdsAs (X : Cx) (i : Nat) (n : Str) : List ExceptHandler → List (Value × (Addr → Value → Option Addr → TS)) → Prop
  | nil : HdsAs X i n [] []
  | cons {x : Str} {c : Value} {ts : Addr → Value → Option Addr → TS} {b₀ : Stmt} {suite : List Stmt} {np pos' : Pos} {hds : List ExceptHandler} {l : List (Value × (Addr → Value → Option Addr → TS))} (hc : Names X x c)
      (hsu : ∀ (a : Addr) (oe : Obj) (cls : Value) (d : Option Addr) (pn : List (Addr × Obj)), Zc cls d oe → (∃ vs, oe.data = .fields vs) → PSs (X.suite a ((a, oe) :: pn)) (b₀ :: suite) (ts a cls d)) (r : HdsAs X i n hds l) :
      HdsAs X i n (.ExceptHandler (some (.Name x np)) (some n) (b₀ :: suite) pos' :: hds) ((c, ts) :: l)
section
variable {X : Cx} {n : Str} {i : Nat} {body : List Stmt} {h₀ : ExceptHandler} {hds : List ExceptHandler} {l : List (Value × (Addr → Value → Option Addr → TS))} {pos : Pos} {tb : WX → TS} {Wout : WX}
theorem ps_try_asN (hs : X.stack = X.env :: X.outer) (hf : X.env.frame = some X.env.locals) (hN : X.N.Nodup) (hi : X.N[i]? = some n) (hln : X.env.kindOf n = some .local) (tk : Takes X Wout)
    (hb : ∀ (W : WX) (pn : List (Addr × Obj)) (xe : Value → Shared → Prop), Takes (X.tr pn xe) W → PassesOwn (model X.prog X.w) X.A X.env xe → PSs (X.tr pn xe) body (tb W))
    (hh : HdsAs X i n (h₀ :: hds) l) :
    PS X (.Try body (h₀ :: hds) [] [] pos) (fun D σ H => tb (wAsM X.K i l Wout D) D σ H) := by
  refine ⟨fun pins s σ H D I h => ?_⟩
  have ok := I.ok
  have hfr : X.A.frames = some (X.env :: X.outer) := by rw [ok.frames, hs]
  have hloc : Loc X.env.scope n := .inl hln
  refine wpAny_Try_except ?_
  refine wpAny_mono ((hb (wAsM X.K i l Wout D) (X.pn ++ pins) (fun e s₁ => wpAny (model X.prog X.w) X.A (noteFrame e X.env) (fun _ s₂ => wpAny (model X.prog X.w) X.A (setFlight e none) (fun _ s₃ =>
    wpAny (model X.prog X.w) X.A (handleBy e X.env (h₀ :: hds)) (SP X pins D) X.xe s₃) X.xe s₂) X.xe s₁) (fun u s' xx => ?_) PassesOwn.looking).run [] s σ H D (I.toTry _) h) (fun f s1 hsp => ?_) (fun e s1 he => he)
  · -- the catch
    obtain ⟨a, B, sI, pins', σ', H', cls, d, rfl, J', nb, up, sky, na, os, ag, w⟩ := xx
    have J : Inv X pins σ' H' sI := J'.ofTry ok
    have sky' : Sky B (X.env :: X.outer) a (Zc cls d) X.env.locals s'.heap := by rw [← hs]; exact sky
    show wpAny (model X.prog X.w) X.A (noteFrame (.ref a) X.env) _ _ _
    refine Sky.land Zc.steady hfr hf sky' fun h3 fl3 up3 => ?_
    have J3 : Inv X pins σ' H' { s' with heap := h3 } := J.landed nb fl3.1 (up.trans up3) os ag
    obtain ⟨oe3, vs3, he3, hz3, hd3⟩ := fl3.there
    have notFr : ∀ {h : Heap} {o : Obj} {vs : Array Value}, h.FunFrames B (X.env :: X.outer) → h.get? a = some o → o.data = .fields vs → a ∉ frs (X.env :: X.outer) := fun {h o vs} ff e dd hm => by
      obtain ⟨_, o', e', hnf⟩ := ff.mem hm
      rw [e] at e'; cases e'
      exact hnf _ dd
    have nfr := notFr fl3.2.2.1 he3 hd3
    have nL : a ≠ X.env.locals := fun z => nfr (List.mem_filterMap.mpr ⟨X.env, List.mem_cons_self, by rw [hf, z]⟩)
    have nF : a ∉ X.fs := fun hm => by
      obtain ⟨e, he, q⟩ := List.mem_filterMap.mp hm
      exact nfr (List.mem_filterMap.mpr ⟨e, List.mem_cons_of_mem _ he, q⟩)
    have S3 := J3.suite he3 hd3 na nL nF
    have go : ∀ {hds' : List ExceptHandler} {l' : List (Value × (Addr → Value → Option Addr → TS))}, HdsAs X i n hds' l' → wAsM X.K i l' Wout D cls d σ' H' →
        wpAny (model X.prog X.w) X.A (handleBy (.ref a) X.env hds') (SP X pins D) X.xe { s' with heap := h3 } := by
      intro hds' l' hk
      induction hk with
      | nil =>
        intro w
        refine wpAny_handleBy_nil ?_
        obtain ⟨k1, k2, k3, oe, vs, T, oT, ts', he, hz, hd, h1, hr⟩ := id fl3
        unfold PySem.passOn
        refine wpAny_bind (wpAny_field he hd h1 ?_)
        rw [if_neg (show ¬ ((Value.ref T == Value.none) = true) from by simp)]
        have fin : wpAny (model X.prog X.w) X.A (setFlight (.ref a) X.env.frame) (fun _ s4 => wpAny (model X.prog X.w) X.A (throw (.ref a) : Sem Flow) (SP X pins D) X.xe s4) X.xe { s' with heap := h3 } := by
          rw [hf]
          refine HandSPX.setFlight_upZ fl3 fun h4 hh4 up4 => wpAny_throw (tk _ _ ?_)
          exact ⟨a, B, sI, pins, σ', H', cls, d, rfl, J, nb, (up.trans up3).trans up4, .inr (.inr (by rw [hs]; exact hh4)), na, os, ag, w⟩
        first
          | exact wpAny_bind (wpAny_pure (wpAny_bind fin))
          | exact wpAny_bind fin
      | @cons x c ts b₀ suite np pos' hds2 l2 hc hsu r ih =>
        intro w
        obtain ⟨b, hb1, hyes, hno⟩ := w
        refine wpAny_handleBy_cons (codeAny_handlers_test ?_) (by intro q; cases q)
        have LT : PySem.W.Looks (model X.prog X.w) h3 (typeOf (.ref a)) cls := fun A Q E s k q => wpAny_typeOf_ref (k _ _ he3) (by rw [hz3.1]; exact q)
        have LM := PySem.W.exm_one (M := model X.prog X.w) (J3.kIn) LT hb1
        have test : ∀ {Q : Value → Shared → Prop} {E : Value → Shared → Prop}, Q c { s' with heap := h3 } → wpAny (model X.prog X.w) (X.A.mark (some (.ref a))) (eval (.Name x np) X.env) Q E { s' with heap := h3 } := fun {Q E} q => by
          obtain ⟨hg, hdbg, hm | ⟨hm, hv, hnn⟩⟩ := hc
          · exact ld_glob (X := X.suite a ((a, oe3) :: (X.pn ++ pins))) S3 hg hm q hdbg
          · exact ld_blt (X := X.suite a ((a, oe3) :: (X.pn ++ pins))) S3 hg hm hv q hnn hdbg
        refine test (LM.here ?_)
        cases b with
        | true =>
          refine codeAny_handlers_suite_as ?_
          refine HandSPX.lands_againZ fl3 fun h4 fl4 up4 => ?_
          have J4 : Inv X pins σ' H' { s' with heap := h4 } := J.landed nb fl4.1 ((up.trans up3).trans up4) os ag
          obtain ⟨oe4, vs4, he4, hz4, hd4⟩ := fl4.there
          have S4 := J4.suite he4 hd4 na nL nF
          refine store_ok (X := X.suite a ((a, oe4) :: (X.pn ++ pins))) (v := .ref a) S4 hN hi hloc rfl (fun s5 S5 => ?_) (.inr hln)
          refine wpAny_mono ((hsu a oe4 cls d (X.pn ++ pins) hz4 ⟨_, hd4⟩).run [] s5 _ H' _ S5 (hyes rfl a na)) (fun f s6 hsp => ?_) (fun _ _ z => False.elim z)
          have end_ : ∀ {σ6 : St} {H6 : Hp} {Q : Shared → Prop}, Inv (X.suite a ((a, oe4) :: (X.pn ++ pins))) [] σ6 H6 s6 → (∀ s7, Inv X pins (σ6.set i none) H6 s7 → Q s7) →
              wpAny (model X.prog X.w) X.A (do bindName X.env n .none; unbindBehindTheSuite X.env n pos') (fun _ s7 => Q s7) X.xe s6 := fun {σ6 H6 Q} S6 hq => gone_ok (S6.unsuite ok) hN hi hln hq
          cases f with
          | next =>
            obtain ⟨σ6, H6, S6, q6⟩ := hsp
            exact end_ S6 fun s7 J7 => ⟨_, _, J7, q6⟩
          | brk =>
            obtain ⟨σ6, H6, S6, q6⟩ := hsp
            exact end_ S6 fun s7 J7 => ⟨_, _, J7, q6⟩
          | cont =>
            obtain ⟨σ6, H6, S6, q6⟩ := hsp
            exact end_ S6 fun s7 J7 => ⟨_, _, J7, q6⟩
          | ret u =>
            obtain ⟨v6, σ6, H6, S6, r6, q6⟩ := hsp
            exact end_ S6 fun s7 J7 => ⟨_, _, _, J7, r6, q6⟩
        | false => exact ih (hno rfl)
    exact go hh w
  · cases f with
    | next =>
      obtain ⟨σ', H', J', q⟩ := hsp
      exact wpAny_execs_nil ⟨σ', H', J'.ofTry ok, q⟩
    | brk =>
      obtain ⟨σ', H', J', q⟩ := hsp
      exact ⟨σ', H', J'.ofTry ok, q⟩
    | cont =>
      obtain ⟨σ', H', J', q⟩ := hsp
      exact ⟨σ', H', J'.ofTry ok, q⟩
    | ret u =>
      obtain ⟨v, σ', H', J', r, q⟩ := hsp
      exact ⟨v, σ', H', J'.ofTry ok, r, q⟩
end
end L2
namespace Dy
open PySem PySem.Spec L2
open PyProof.Rows hiding St
section
variable {X : Cx} {σ : L2.St} {s : S} {D : Ends} {rest : List Stmt}
theorem was_no {K : PySem.W.Frag} {c : Value} {i : Nat} {ts : Addr → Value → Option Addr → TS} {Wout : WX} {cls : Value} {d : Option Addr} {H : Hp} (h1 : PySem.W.exmOne K cls c = some false) (h2 : Wout cls d σ H) : wAs K c i ts Wout D cls d σ H := ⟨false, h1, fun z => (by cases z), fun _ => h2⟩
theorem do_tryAs2 (i : Nat) {x y n : Str} {c c' : Value} {body suite suite' : List Stmt} {b₀ b₁ : Stmt} {np np' pos pos' pos'' : Pos} {Wout : WX} (hN : X.N.Nodup) (hcN : Names X x c) (hcN' : Names X y c') (tk : Takes X Wout)
    (h : ∀ pn xe, Takes (X.tr pn xe) (wAs X.K c i (fun a cls d D σ H => ∀ (oe : Obj) (pn : List (Addr × Obj)), Zc cls d oe → (∃ vs, oe.data = .fields vs) → WSs (X.suite a ((a, oe) :: pn)) (b₀ :: suite) D σ H)
        (wAs X.K c' i (fun a cls d D σ H => ∀ (oe : Obj) (pn : List (Addr × Obj)), Zc cls d oe → (∃ vs, oe.data = .fields vs) → WSs (X.suite a ((a, oe) :: pn)) (b₁ :: suite') D σ H) Wout { D with nx := fun σ' H' => WSs X rest D σ' H' }) { D with nx := fun σ' H' => WSs X rest D σ' H' }) → PassesOwn (model X.prog X.w) X.A X.env xe →
      WSs (X.tr pn xe) body { D with nx := fun σ' H' => WSs X rest D σ' H' } σ s.H)
    (hs : X.stack = X.env :: X.outer := by rfl) (hf : X.env.frame = some X.env.locals := by rfl) (hi : X.N[i]? = some n := by rfl) (hln : X.env.kindOf n = some .local := by rfl) :
    WSs X (.Try body [.ExceptHandler (some (.Name x np)) (some n) (b₀ :: suite) pos', .ExceptHandler (some (.Name y np')) (some n) (b₁ :: suite') pos''] [] [] pos :: rest) D σ s.H :=
  do_cons (ps_try_asN (l := [(c, fun a cls d D σ H => ∀ (oe : Obj) (pn : List (Addr × Obj)), Zc cls d oe → (∃ vs, oe.data = .fields vs) → WSs (X.suite a ((a, oe) :: pn)) (b₀ :: suite) D σ H), (c', fun a cls d D σ H => ∀ (oe : Obj) (pn : List (Addr × Obj)), Zc cls d oe → (∃ vs, oe.data = .fields vs) → WSs (X.suite a ((a, oe) :: pn)) (b₁ :: suite') D σ H)])
    (tb := fun W D σ H => ∀ pn xe, Takes (X.tr pn xe) W → PassesOwn (model X.prog X.w) X.A X.env xe → WSs (X.tr pn xe) body D σ H)
    hs hf hN hi hln tk (fun W pn xe t po => ⟨fun pins sh σ H D I hh => hh pn xe t po pins sh I⟩)
    (.cons hcN (fun a oe cls d pn hz hv => ⟨fun pins sh σ H D I hh => hh oe pn hz hv pins sh I⟩) (.cons hcN' (fun a oe cls d pn hz hv => ⟨fun pins sh σ H D I hh => hh oe pn hz hv pins sh I⟩) .nil))) h
end
end Dy

namespace Dy
open PySem PySem.Spec L2
open PyProof.Rows hiding St
open Enc (rep)
open EncA (repA)
structure HL4 (α β γ δ : Type) where
  a : α
  b : β
  c : γ
  d : δ
deriving DecidableEq
instance {α β γ δ : Type} [Enc α] [Enc β] [Enc γ] [Enc δ] : Enc (HL4 α β γ δ) := ⟨fun K F v x => ∃ p v1 v2 v3 v4, v = .ref p ∧ SqL K F p [v1, v2, v3, v4] ∧ rep K F v1 x.a ∧ rep K F v2 x.b ∧ rep K F v3 x.c ∧ rep K F v4 x.d, fun e h => by
  obtain ⟨p, v1, v2, v3, v4, rfl, h0, h1, h2, h3, h4⟩ := h
  exact ⟨p, v1, v2, v3, v4, rfl, sql_mono e h0, Enc.mono e h1, Enc.mono e h2, Enc.mono e h3, Enc.mono e h4⟩⟩
instance {α β γ δ : Type} [EqD α] [EqD β] [EqD γ] [EqD δ] : EqD (HL4 α β γ δ) := ⟨fun x => .list [EqD.toD x.a, EqD.toD x.b, EqD.toD x.c, EqD.toD x.d], fun h f => by
  obtain ⟨p, v1, v2, v3, v4, rfl, h0, h1, h2, h3, h4⟩ := h
  exact .lst (sql_mono f h0) (.cons (EqD.dp h1 f) (.cons (EqD.dp h2 f) (.cons (EqD.dp h3 f) (.cons (EqD.dp h4 f) .nil)))), fun x y => by
    obtain ⟨x1, x2, x3, x4⟩ := x
    obtain ⟨y1, y2, y3, y4⟩ := y
    show (PyData.eqv _ _ && (PyData.eqv _ _ && (PyData.eqv _ _ && (PyData.eqv _ _ && true)))) = true ↔ _
    rw [Bool.and_eq_true, Bool.and_eq_true, Bool.and_eq_true, Bool.and_eq_true, EqD.eqv, EqD.eqv, EqD.eqv, EqD.eqv]; simp⟩
section
variable {α β γ δ : Type} [Enc α] [Enc β] [Enc γ] [Enc δ] {X : Cx} {σ : L2.St} {s : S} {es : List Expr} {pos : Pos}
theorem ev_hl4 {x : α} {y : β} {z : γ} {w : δ} (h : EvA X es σ s (x, y, z, w, ())) : Ev X (.List es pos) σ s (⟨x, y, z, w⟩ : HL4 α β γ δ) := fun s1 k Q q =>
  we_of (pe_lst pa_wa) (h s1 k _ fun vs s2 k2 r2 => by
    obtain ⟨v1, _, rfl, r1, v2, _, rfl, r2, v3, _, rfl, r3, v4, _, rfl, r4, rfl⟩ := r2
    exact ⟨show _ ≤ 2 ^ 24 by simp, fun p hp => q _ (s2.newF p (.lst [v1, v2, v3, v4]) hp) (k2.trans (Ex.newF hp)) ⟨p, v1, v2, v3, v4, rfl, .inl (.inl upd_same), Enc.mono (Ex.newF hp).f r1, Enc.mono (Ex.newF hp).f r2, Enc.mono (Ex.newF hp).f r3, Enc.mono (Ex.newF hp).f r4⟩⟩)
end
end Dy
namespace Dy
open PySem PySem.Spec L2
open PyProof.Rows hiding St
open Enc (rep)
open EncA (repA)
section
variable {X : Cx} {σ : L2.St} {s s0 : S} {P0 : Addr → Prop} {L R0 : List OA} {e : Expr} {A O : Type} {pre : List V → A → List OA → List OA → Prop} {m : A → Option O} {ok : List V → A → O → V → List OA → Prop} {er : List V → A → O → Er → List OA → Prop} {Φ : List V → S → Prop} {x : A} {o : O}
theorem ex_callG {er' : Er → Prop} {W : WX} (c : Calls X e σ s (spI X.K pre m ok er) (L2.WE W σ) Φ) (iv : Iv X.K P0 s0 s L) (ro : Ro X.K P0 s0 R0) (rs : List (Nat ⊕ Nat))
    (hp : ∀ vs s2, Ex s s2 → Φ vs s2 → ∃ Lf, pre vs x Lf (rsel L R0 rs) ∧ (∀ A ∈ Lf, A.p X.K s2.F s2.H No) ∧ (∀ v L', ok vs x o v L' → False) ∧ (∀ e L', er vs x o e L' → er' e)) (hm : m x = some o)
    (hw : ∀ e cls d s', er' e → Ex s s' → ExR X.K s'.F e cls d → W cls d σ s'.H) : EvX X e σ s := fun s1 k1 Q =>
  c s1 k1 Q fun vs s2 k2 φ => by
    obtain ⟨Lf, h1, h2, h3, h4⟩ := hp vs s2 (k1.trans k2) φ
    obtain ⟨P1, g1, g2, g3, g4⟩ := call_in (iv.ex (k1.trans k2)) ro [] List.nodup_nil (fun k hk => by simp at hk) Lf h2 rs (fun i _ hk => by simp at hk)
    have hP : ∀ s' L', Iv X.K P1 s2 s' L' → Ex s2 s' := fun s' L' i => by
      have e1 : P1 = fun _ => False := funext fun a => propext ⟨fun z => g3 rfl a z, fun z => z.elim⟩
      subst e1
      exact i.exx
    exact ⟨s2, P1, _, _, x, o, rfl, h1, g1, g2, hm, fun v s' L' hok iv' => (h3 v L' hok).elim, fun e cls d s' L' z iv' r => hw e cls d s' (h4 e L' z) ((k1.trans k2).trans (hP s' L' iv')) r⟩
end
section
def DpRD {α : Type} [ToD α] {K : PySem.W.Frag} {F H : Hp} (f : Fle F H) : ∀ {vs : List V} {xs : List α}, Reps K F vs xs → DpAll K H vs (xs.map ToD.td)
  | [], [], _ => .nil
  | _ :: _, _ :: _, ⟨h, t⟩ => .cons (ToD.tdp h f) (DpRD f t)
  | [], _ :: _, h => h.elim
  | _ :: _, [], h => h.elim
instance {α : Type} [ToD α] : ToD (Tu α) := ⟨fun x => .tuple (x.l.map ToD.td), fun h f => by
  obtain ⟨p, vs, rfl, h1, h2⟩ := h
  exact .tup (sqt_mono f h1) (DpRD f h2)⟩
end
end Dy

set_option maxHeartbeats 4000000
namespace K33
open PySem PySem.Spec L2 Dy
open PyProof.Rows hiding St
open Enc (rep)
open Flat (toV)
open EncA (repA)
def topS (i : Nat) : Stmt := PySem.Challenge.pw_deskpairs_k33_moves_refused.main.body.getD i (.Pass ⟨0, 0, 0, 0⟩)
def clsS (i j : Nat) : Stmt := match PySem.Challenge.pw_deskpairs_k33_moves_refused.main.body.getD i (.Pass ⟨0, 0, 0, 0⟩) with | .ClassDef _ _ _ body _ _ _ _ _ _ _ => body.getD j (.Pass ⟨0, 0, 0, 0⟩) | _ => .Pass ⟨0, 0, 0, 0⟩
structure R_Costs where
  sat : (List (Int × Int))
  hale : (List Int)
  costs : (List (Dc Int Int))
structure R_Costs_s where
  sat : (List (Int × Int))
structure R_Prices where
  costs : (List (Dc Int Int))
  of_seat : (List Int)
  of_player : (List Int)
  seat_by : (List (Int × Int))
  row : (List (Option Int))
structure R_Prices_u where

structure R_Costs_0 where

structure R_Costs_1 where
  sat : (List (Int × Int))
structure R_Costs_2 where
  sat : (List (Int × Int))
  hale : (List Int)
structure R_Prices_0 where

structure R_Prices_1 where
  costs : (List (Dc Int Int))
structure R_Prices_2 where
  costs : (List (Dc Int Int))
  of_seat : (List Int)
structure R_Prices_3 where
  costs : (List (Dc Int Int))
  of_seat : (List Int)
  of_player : (List Int)
structure R_Prices_4 where
  costs : (List (Dc Int Int))
  of_seat : (List Int)
  of_player : (List Int)
  seat_by : (List (Int × Int))
def tab : ETab := ⟨["NoSeating", "NoPlayer"], [("NoPlayer", "place")], [(("NoSeating", "NoBars"), false), (("NoSeating", "NoBreak"), false), (("NoSeating", "NoCall"), false), (("NoSeating", "NoInstrument"), false), (("NoSeating", "NoLine"), false), (("NoSeating", "NoName"), false), (("NoSeating", "NoOrder"), false), (("NoSeating", "NoPlace"), false), (("NoSeating", "NoPlayer"), false), (("NoSeating", "NoSeating"), true), (("NoSeating", "NoText"), false), (("NoSeating", "NoTimes"), false), (("NoSeating", "PairsError"), true), (("NoSeating", "Twice"), false), (("NoSeating", "ValueError"), true), (("NoPlayer", "NoBars"), false), (("NoPlayer", "NoBreak"), false), (("NoPlayer", "NoCall"), false), (("NoPlayer", "NoInstrument"), false), (("NoPlayer", "NoLine"), false), (("NoPlayer", "NoName"), false), (("NoPlayer", "NoOrder"), false), (("NoPlayer", "NoPlace"), false), (("NoPlayer", "NoPlayer"), true), (("NoPlayer", "NoSeating"), false), (("NoPlayer", "NoText"), false), (("NoPlayer", "NoTimes"), false), (("NoPlayer", "PairsError"), true), (("NoPlayer", "Twice"), false), (("NoPlayer", "ValueError"), true)], [(("NoSeating", "NoPlayer"), false), (("NoSeating", "PairsError"), true), (("NoPlayer", "NoPlayer"), true), (("NoPlayer", "PairsError"), true)]⟩
abbrev s_l_draws : Stmt := topS 29
abbrev N_l_draws : List Str := ["_law_cell", "_law_sizes", "_law_found", "_law_digits", "_law_k", "_law_mixed"]
theorem sc_l_draws : FnScope N_l_draws ["_law_cell", "_law_sizes"] (defScope s_l_draws) := ⟨rfl, rfl, rfl, by decide +kernel, rfl, by decide +kernel, by decide +kernel⟩
noncomputable def m_l_draws (cell1 : Int) (sizes4 : (List Int)) : Option (List Int) :=
 (lt (([] : List Int) : (List Int)) fun found8 =>
 (lt ((cell1 / (2 : Int)) : Int) fun digits16 =>
 (chk (RgB ((sizes4).length : Int)) (bnd (foldO (fun (b26 : ((List Int) × Int)) (x28 : Int) =>
 (chk (MulOk x28 x28) (lt (((((cell1 % (1000003 : Int)) + (1 : Int)) * ((x28 * x28) + (48271 : Int))) % (65537 : Int)) : Int) fun mixed52 =>
 (lt ((((((mixed52 * mixed52) + ((7919 : Int) * x28)) + (11 : Int)) * (30269 : Int)) % (999983 : Int)) : Int) fun mixed60 =>
 (bnd (if (decide ((cell1 % (2 : Int)) = (0 : Int))) = true then
 (lt (b26.2 : Int) fun mixed97 =>
 (some mixed97))
 else
 (some mixed60) : Option (Int)) fun b88 =>
 (bnd (atI sizes4 x28) fun at131 => (chk (0 < at131) (chk ((b26.1).length < sizeLine) (lt ((b26.1 ++ [(b88 % at131)]) : (List Int)) fun found129 =>
 (bnd (atI sizes4 x28) fun at136 => (chk (DivOk at136) (lt ((b26.2 / at136) : Int) fun digits138 =>
 (some (found129, digits138)))))))))))))) (found8, digits16) (rng 0 ((sizes4).length : Int))) fun o24 =>
 (some o24.1)))))
noncomputable abbrev a_l_draws : Int × (List Int) × Unit → Option (List Int) := fun a => m_l_draws a.1 a.2.1
theorem ok_l_draws {P : Program} {w : World} {K : PySem.W.Frag} {mg : Str → Option Value} {base : Heap} {f : Addr} {fd : FuncData} (F : FunP K "_law_draws" s_l_draws f fd) (hmg : mg "_law_draws" = some (.ref f)) (z_range : mg "range" = none) (z_len : mg "len" = none) : Cal P w K mg base CX0 1 "_law_draws" (spN K a_l_draws) := by
  refine mk_calN (k := 0) F hmg (F.bindsN fun _ _ _ _ _ _ us hl => match us, hl with | [_, _], _ => rfl) sc_l_draws len2 ?_
  rintro cdv A' outer sh0 H0 X0 hr s0 vs ⟨cell1, sizes4, _⟩ r0 Q ⟨v2, _, rfl, r3, v5, _, rfl, r6, rfl⟩ hm hQ
  unfold a_l_draws m_l_draws at hm
  dsimp only at hm
  have iv7 : Iv K (fun _ => False) s0 s0 [fz v2 (cell1 : Int), fz v5 (sizes4 : (List Int)), top, top, top, top] := (Iv.sf (Iv.sf (Iv.tops (K := K) (P0 := (fun _ => False)) 6 s0) 0 (Ex.refl s0) r3 rfl) 1 (Ex.refl s0) r6 rfl)
  refine do_setN 2 (en_list (xs := ([] : List Int)) ee_nil (by simp [sizeLine])) (fun p12 s10 e11 n13 o14 => ?_) sc_l_draws.nd
  obtain ⟨found8, q9, hm⟩ := ltE hm
  have iv15 := Iv.sl iv7 2 e11 n13 o14 q9
  refine do_set 3 (ev_div (ev_var 0 rfl (Iv.fz (x := (cell1 : Int)) iv15 0)) ev_int ⟨by decide, by decide +kernel⟩) (fun v20 s18 e19 r21 => ?_) sc_l_draws.nd
  obtain ⟨digits16, q17, hm⟩ := ltE hm
  have iv22 := Iv.sf iv15 3 e19 r21 q17
  obtain ⟨hc23, hm⟩ := chkE hm
  obtain ⟨o24, ho25, hm⟩ := bndE hm
  refine do_forO (υ := ((List Int) × Int)) PassesOwn.never rfl (ei_range1 z_range (ev_len z_len (Ev.r (ev_var 1 rfl (Iv.fz (x := (sizes4 : (List Int))) iv22 1)))) hc23) (pg_name (i := 4) sc_l_draws.nd rfl (by first | exact Or.inl rfl | exact Or.inr rfl)) tg_n ho25 (fun (b26 : ((List Int) × Int)) (σ' : L2.St) (t' : S) => ∃ (v_digits : V) (y_mixed : Option V) (y_k : Option V), σ' = [some v2, some v5, some (.ref p12), some v_digits, y_k, y_mixed] ∧ Iv K (fun _ => False) s0 t' [fz v2 (cell1 : Int), fz v5 (sizes4 : (List Int)), ol p12 (b26.1 : (List Int)), fz v_digits (b26.2 : Int), top, top]) (fun s152 k153 => by have iv154 := Iv.ex iv22 k153; exact ⟨v20, _, _, rfl, Iv.sel iv154 [some 0, some 1, some 2, some 3, none, none] (by decide +kernel) (by kernel_rfl)⟩) (fun s29 k30 x28 b26 b27 σ39 σ40 t37 t38 hx31 hm32 fl33 hR34 k35 hB36 => ?_) (fun s146 k147 σ148 t149 fl150 hR151 => ?_)
  · have hf41 := Fle.trans k30.f fl33
    obtain ⟨v42, y43, y44, rfl, iv45⟩ := hR34
    obtain ⟨v46, r47, rfl⟩ := hB36
    have iv48 := Iv.ex iv45 k35
    have iv49 := Iv.sf iv48 4 (Ex.refl t38) r47 rfl
    have fl50 := Fle.trans (Fle.refl t38.F) (Ex.refl t38).f
    obtain ⟨hc51, hm32⟩ := chkE hm32
    refine do_set 5 (ev_mod (ev_mul (ev_add (ev_mod (ev_var 0 rfl (Iv.fz (x := (cell1 : Int)) iv49 0)) ev_int (by decide)) ev_int) (ev_add (ev_mul (ev_var 4 rfl (Iv.fz (x := (x28 : Int)) iv49 4)) (ev_var 4 rfl (Iv.fz (x := (x28 : Int)) iv49 4)) hc51) ev_int) (Or.inl (Or.inl ⟨by omega, by omega⟩))) ev_int (by decide)) (fun v56 s54 e55 r57 => ?_) sc_l_draws.nd
    obtain ⟨mixed52, q53, hm32⟩ := ltE hm32
    have iv58 := Iv.sf iv49 5 e55 r57 q53
    have fl59 := Fle.trans (Fle.refl t38.F) e55.f
    refine do_set 5 (ev_mod (ev_mul (ev_add (ev_add (ev_mul (ev_var 5 rfl (Iv.fz (x := (mixed52 : Int)) iv58 5)) (ev_var 5 rfl (Iv.fz (x := (mixed52 : Int)) iv58 5)) (Or.inl (Or.inl ⟨by omega, by omega⟩))) (ev_mul ev_int (ev_var 4 rfl (Iv.fz (x := (x28 : Int)) iv58 4)) (Or.inl (Or.inl ⟨by omega, by omega⟩)))) ev_int) ev_int (Or.inl (Or.inr ⟨by decide, by decide⟩))) ev_int (by decide)) (fun v64 s62 e63 r65 => ?_) sc_l_draws.nd
    obtain ⟨mixed60, q61, hm32⟩ := ltE hm32
    have iv66 := Iv.sf iv58 5 e63 r65 q61
    have fl67 := Fle.trans fl59 e63.f
    obtain ⟨b88, hj89, hm32⟩ := bndE hm32
    refine do_if (EvB.t (eb_eq (ev_mod (ev_var 0 rfl (Iv.fz (x := (cell1 : Int)) iv66 0)) ev_int (by decide)) ev_int)) (fun (σ' : L2.St) (t' : S) => Fle s62.F t'.F ∧ ∃ (v_mixed : V), σ' = [some v2, some v5, some (.ref p12), some v42, some v46, some v_mixed] ∧ Iv K (fun _ => False) s0 t' [fz v2 (cell1 : Int), fz v5 (sizes4 : (List Int)), ol p12 (b26.1 : (List Int)), fz v42 (b26.2 : Int), fz v46 (x28 : Int), fz v_mixed (b88 : Int)]) (fun hb90 s91 e92 => ?_) (fun hb106 s107 e108 => ?_) (fun σ113 s114 hM115 => ?_)
    · have hm93 := iteE1 hj89 hb90
      have iv94 := Iv.ex iv66 e92
      have fl95 := Fle.trans fl67 e92.f
      have fl96 := Fle.trans (Fle.refl s62.F) e92.f
      refine do_set 5 (ev_var 3 rfl (Iv.fz (x := (b26.2 : Int)) iv94 3)) (fun v101 s99 e100 r102 => ?_) sc_l_draws.nd
      obtain ⟨mixed97, q98, hm93⟩ := ltE hm93
      have iv103 := Iv.sf iv94 5 e100 r102 q98
      have fl104 := Fle.trans fl95 e100.f
      have fl105 := Fle.trans fl96 e100.f
      obtain rfl := Option.some.inj hm93
      exact do_nil ⟨s99, rfl, fl105, ⟨v101, rfl, Iv.sel iv103 [some 0, some 1, some 2, some 3, some 4, some 5] (by decide +kernel) (by kernel_rfl)⟩⟩
    · have hm109 := iteE2 hj89 hb106
      have iv110 := Iv.ex iv66 e108
      have fl111 := Fle.trans fl67 e108.f
      have fl112 := Fle.trans (Fle.refl s62.F) e108.f
      obtain rfl := Option.some.inj hm109
      exact do_nil ⟨s107, rfl, fl112, ⟨v64, rfl, Iv.sel iv110 [some 0, some 1, some 2, some 3, some 4, some 5] (by decide +kernel) (by kernel_rfl)⟩⟩
    · obtain ⟨hf116, hR117⟩ := hM115
      obtain ⟨v118, rfl, iv119⟩ := hR117
      have fl120 := Fle.trans fl67 hf116
      obtain ⟨at131, h_at131, hm32⟩ := bndE hm32
      obtain ⟨hc132, hm32⟩ := chkE hm32
      obtain ⟨hc133, hm32⟩ := chkE hm32
      refine do_append 2 rfl (Iv.ol (xs := (b26.1 : (List Int))) iv119 2) (ev_mod (ev_var 5 rfl (Iv.fz (x := (b88 : Int)) iv119 5)) (ev_ix (Ev.r (ev_var 1 rfl (Iv.fz (x := (sizes4 : (List Int))) iv119 1))) (ev_var 4 rfl (Iv.fz (x := (x28 : Int)) iv119 4)) h_at131) hc132) hc133 (fun s126 m127 o128 => ?_)
      obtain ⟨found129, q130, hm32⟩ := ltE hm32
      have iv134 := Iv.ml iv119 2 m127 o128 q130
      have fl135 := Fle.trans fl120 m127.f
      obtain ⟨at136, h_at136, hm32⟩ := bndE hm32
      obtain ⟨hc137, hm32⟩ := chkE hm32
      refine do_set 3 (ev_div (ev_var 3 rfl (Iv.fz (x := (b26.2 : Int)) iv134 3)) (ev_ix (Ev.r (ev_var 1 rfl (Iv.fz (x := (sizes4 : (List Int))) iv134 1))) (ev_var 4 rfl (Iv.fz (x := (x28 : Int)) iv134 4)) h_at136) hc137) (fun v142 s140 e141 r143 => ?_) sc_l_draws.nd
      obtain ⟨digits138, q139, hm32⟩ := ltE hm32
      have iv144 := Iv.sf iv134 3 e141 r143 q139
      have fl145 := Fle.trans fl135 e141.f
      obtain rfl := Option.some.inj hm32
      exact do_nil ⟨s140, rfl, fl145, ⟨v142, _, _, rfl, Iv.sel iv144 [some 0, some 1, some 2, some 3, none, none] (by decide +kernel) (by kernel_rfl)⟩⟩
  · have hf155 := Fle.trans k147.f fl150
    obtain ⟨v156, y157, y158, rfl, iv159⟩ := hR151
    obtain rfl := Option.some.inj hm
    exact do_retO 2 rfl (hQ _ _ (Iv.exx iv159) (Iv.fresh iv159 2) (Iv.ol (xs := (o24.1 : (List Int))) iv159 2))
abbrev s_l_tools : Stmt := topS 30
abbrev N_l_tools : List Str := ["_law_way"]
theorem sc_l_tools : FnScope N_l_tools ["_law_way"] (defScope s_l_tools) := ⟨rfl, rfl, rfl, by decide +kernel, rfl, by decide +kernel, by decide +kernel⟩
noncomputable def m_l_tools (way160 : Int) : Option (List Str) :=
 (if (decide (way160 = (0 : Int))) = true then
 (some ([("a" : Str), ("ab" : Str), ("abc" : Str), ("b" : Str), ("ba" : Str)] : List Str))
 else
 (if (decide (way160 = (1 : Int))) = true then
 (some ([("viola" : Str), ("v" : Str), ("harp" : Str), ("oboe" : Str), ("violas" : Str)] : List Str))
 else
 (some ([("horn" : Str), ("ho" : Str), ("zink" : Str), ("c" : Str), ("cornetto" : Str)] : List Str))))
noncomputable abbrev a_l_tools : Int × Unit → Option (List Str) := fun a => m_l_tools a.1
theorem ok_l_tools {P : Program} {w : World} {K : PySem.W.Frag} {mg : Str → Option Value} {base : Heap} {f : Addr} {fd : FuncData} (F : FunP K "_law_tools" s_l_tools f fd) (hmg : mg "_law_tools" = some (.ref f))  : Cal P w K mg base CX0 1 "_law_tools" (sp K a_l_tools) := by
  refine mk_cal (k := 0) F hmg (F.bindsN fun _ _ _ _ _ _ us hl => match us, hl with | [_], _ => rfl) sc_l_tools len1 ?_
  rintro cdv A' outer sh0 H0 X0 hr s0 vs ⟨way160, _⟩ r0 Q ⟨v161, _, rfl, r162, rfl⟩ hm hQ
  unfold a_l_tools m_l_tools at hm
  dsimp only at hm
  have iv163 : Iv K (fun _ => False) s0 s0 [fz v161 (way160 : Int)] := (Iv.sf (Iv.tops (K := K) (P0 := (fun _ => False)) 1 s0) 0 (Ex.refl s0) r162 rfl)
  refine do_ifR (EvB.t (eb_eq (ev_var 0 rfl (Iv.fz (x := (way160 : Int)) iv163 0)) ev_int)) (fun hb164 s165 e166 => ?_) (fun hb173 s174 e175 => ?_)
  · have hm167 := iteE1 hm hb164
    have iv168 := Iv.ex iv163 e166
    obtain rfl := Option.some.inj hm167
    exact do_ret (EvN.ev (en_list (xs := ([("a" : Str), ("ab" : Str), ("abc" : Str), ("b" : Str), ("ba" : Str)] : List Str)) (ee_cons ev_str (ee_cons ev_str (ee_cons ev_str (ee_cons ev_str (ee_cons ev_str ee_nil))))) (by simp [sizeLine]))) fun v169 s170 e171 r172 => hQ _ _ (Ex.trans (Iv.exx iv168) e171) r172
  · have hm176 := iteE2 hm hb173
    have iv177 := Iv.ex iv163 e175
    refine do_ifR (EvB.t (eb_eq (ev_var 0 rfl (Iv.fz (x := (way160 : Int)) iv177 0)) ev_int)) (fun hb178 s179 e180 => ?_) (fun hb187 s188 e189 => ?_)
    · have hm181 := iteE1 hm176 hb178
      have iv182 := Iv.ex iv177 e180
      obtain rfl := Option.some.inj hm181
      exact do_ret (EvN.ev (en_list (xs := ([("viola" : Str), ("v" : Str), ("harp" : Str), ("oboe" : Str), ("violas" : Str)] : List Str)) (ee_cons ev_str (ee_cons ev_str (ee_cons ev_str (ee_cons ev_str (ee_cons ev_str ee_nil))))) (by simp [sizeLine]))) fun v183 s184 e185 r186 => hQ _ _ (Ex.trans (Iv.exx iv182) e185) r186
    · have hm190 := iteE2 hm176 hb187
      have iv191 := Iv.ex iv177 e189
      obtain rfl := Option.some.inj hm190
      exact do_ret (EvN.ev (en_list (xs := ([("horn" : Str), ("ho" : Str), ("zink" : Str), ("c" : Str), ("cornetto" : Str)] : List Str)) (ee_cons ev_str (ee_cons ev_str (ee_cons ev_str (ee_cons ev_str (ee_cons ev_str ee_nil))))) (by simp [sizeLine]))) fun v192 s193 e194 r195 => hQ _ _ (Ex.trans (Iv.exx iv191) e194) r195
abbrev s_l_seat : Stmt := topS 32
abbrev N_l_seat : List Str := ["_law_first", "_law_more", "_law_step", "_law_tools_here", "_law_many", "_law_j"]
theorem sc_l_seat : FnScope N_l_seat ["_law_first", "_law_more", "_law_step", "_law_tools_here"] (defScope s_l_seat) := ⟨rfl, rfl, rfl, by decide +kernel, rfl, by decide +kernel, by decide +kernel⟩
noncomputable def m_l_seat (first196 : Int) (more199 : Int) (step202 : Int) (tools_here205 : (List Str)) : Option (Tu Str) :=
 (bnd (atI ([(1 : Int), (1 : Int), (1 : Int), (1 : Int), (2 : Int), (2 : Int), (3 : Int), (4 : Int)] : List Int) more199) fun at209 => (lt (at209 : Int) fun many210 =>
 (chk (RgB many210) (bnd (mapO (fun (x218 : Int) => (chk (MulOk x218 ((1 : Int) + step202)) (bnd (atI tools_here205 ((first196 + (x218 * ((1 : Int) + step202))) % (5 : Int))) fun at232 => (some at232)))) (rng 0 many210)) fun ys233 => (chk ((ys233).length ≤ sizeLine) (some (⟨ys233⟩ : Tu Str)))))))
noncomputable abbrev a_l_seat : Int × Int × Int × (List Str) × Unit → Option (Tu Str) := fun a => m_l_seat a.1 a.2.1 a.2.2.1 a.2.2.2.1
theorem ok_l_seat {P : Program} {w : World} {K : PySem.W.Frag} {mg : Str → Option Value} {base : Heap} {f : Addr} {fd : FuncData} (F : FunP K "_law_seat" s_l_seat f fd) (hmg : mg "_law_seat" = some (.ref f)) (z_tuple : mg "tuple" = none) (z_range : mg "range" = none) : Cal P w K mg base CX0 1 "_law_seat" (sp K a_l_seat) := by
  refine mk_cal (k := 0) F hmg (F.bindsN fun _ _ _ _ _ _ us hl => match us, hl with | [_, _, _, _], _ => rfl) sc_l_seat len4 ?_
  rintro cdv A' outer sh0 H0 X0 hr s0 vs ⟨first196, more199, step202, tools_here205, _⟩ r0 Q ⟨v197, _, rfl, r198, v200, _, rfl, r201, v203, _, rfl, r204, v206, _, rfl, r207, rfl⟩ hm hQ
  unfold a_l_seat m_l_seat at hm
  dsimp only at hm
  have iv208 : Iv K (fun _ => False) s0 s0 [fz v197 (first196 : Int), fz v200 (more199 : Int), fz v203 (step202 : Int), fz v206 (tools_here205 : (List Str)), top, top] := (Iv.sf (Iv.sf (Iv.sf (Iv.sf (Iv.tops (K := K) (P0 := (fun _ => False)) 6 s0) 0 (Ex.refl s0) r198 rfl) 1 (Ex.refl s0) r201 rfl) 2 (Ex.refl s0) r204 rfl) 3 (Ex.refl s0) r207 rfl)
  obtain ⟨at209, h_at209, hm⟩ := bndE hm
  refine do_set 4 (ev_ix (EvN.r (en_list (xs := ([(1 : Int), (1 : Int), (1 : Int), (1 : Int), (2 : Int), (2 : Int), (3 : Int), (4 : Int)] : List Int)) (ee_cons ev_int (ee_cons ev_int (ee_cons ev_int (ee_cons ev_int (ee_cons ev_int (ee_cons ev_int (ee_cons ev_int (ee_cons ev_int ee_nil)))))))) (by simp [sizeLine]))) (ev_var 1 rfl (Iv.fz (x := (more199 : Int)) iv208 1)) h_at209) (fun v214 s212 e213 r215 => ?_) sc_l_seat.nd
  obtain ⟨many210, q211, hm⟩ := ltE hm
  have iv216 := Iv.sf iv208 4 e213 r215 q211
  obtain ⟨hc217, hm⟩ := chkE hm
  obtain ⟨ys233, h_ys233, hm⟩ := bndE hm
  obtain ⟨hc234, hm⟩ := chkE hm
  obtain rfl := Option.some.inj hm
  exact do_ret (ev_tuple z_tuple (EvN.r (EvL.n (en_comp0 (own := [("_law_j", 5)]) (j := 5) (f := fun (x218 : Int) => (chk (MulOk x218 ((1 : Int) + step202)) (bnd (atI tools_here205 ((first196 + (x218 * ((1 : Int) + step202))) % (5 : Int))) fun at232 => (some at232)))) rfl sc_l_seat.nd (ei_range1 z_range (ev_var 4 rfl (Iv.fz (x := (many210 : Int)) iv216 4)) hc217) (blkOk_by (own := [("_law_j", 5)]) (N := N_l_seat) (sc := defScope s_l_seat) (by decide +kernel)) rfl (by decide) (fun _ _ _ _ _ => pg_name (i := 5) sc_l_seat.nd rfl (by first | exact Or.inl rfl | exact Or.inr rfl)) h_ys233 hc234 (fun x218 y219 v229 s220 hx222 e221 r230 hf223 _ _ _ _ _ => by have z224 := Enc.mono e221.f (Iv.fz (v := v197) (x := (first196 : Int)) iv216 0); have z226 := Enc.mono e221.f (Iv.fz (v := v203) (x := (step202 : Int)) iv216 2); have z227 := Enc.mono e221.f (Iv.fz (v := v206) (x := (tools_here205 : (List Str))) iv216 3); obtain ⟨hc231, hf223⟩ := chkE hf223; obtain ⟨at232, h_at232, hf223⟩ := bndE hf223; obtain rfl := Option.some.inj hf223; exact (ev_ix (Ev.r (ev_var 3 rfl z227)) (ev_mod (ev_add (ev_var 0 rfl z224) (ev_mul (ev_var 5 rfl r230) (ev_add ev_int (ev_var 2 rfl z226)) hc231)) ev_int (by decide)) h_at232)))))) fun v235 s236 e237 r238 => hQ _ _ (Ex.trans (Iv.exx iv216) e237) r238
abbrev s_l_seats : Stmt := topS 33
abbrev N_l_seats : List Str := ["_law_cell", "_law_most", "_law_tools_here", "_law_ds", "_law_k"]
theorem sc_l_seats : FnScope N_l_seats ["_law_cell", "_law_most", "_law_tools_here"] (defScope s_l_seats) := ⟨rfl, rfl, rfl, by decide +kernel, rfl, by decide +kernel, by decide +kernel⟩
noncomputable def m_l_seats (cell239 : Int) (most242 : Int) (tools_here245 : (List Str)) : Option (List (Tu Str)) :=
 (chk (RepOk most242 (([(5 : Int), (8 : Int), (4 : Int)] : List Int)).length) (chk ((([(most242 + (1 : Int))] : List Int)).length + ((repl most242 ([(5 : Int), (8 : Int), (4 : Int)] : List Int))).length ≤ sizeLine) (bnd (m_l_draws cell239 (([(most242 + (1 : Int))] : List Int) ++ (repl most242 ([(5 : Int), (8 : Int), (4 : Int)] : List Int)))) fun draws253 => (lt (draws253 : (List Int)) fun ds254 =>
 (bnd (atI ds254 (0 : Int)) fun at261 => (chk (RgB at261) (bnd (mapO (fun (x263 : Int) => (bnd (atI ds254 ((1 : Int) + ((3 : Int) * x263))) fun at275 => (bnd (atI ds254 ((2 : Int) + ((3 : Int) * x263))) fun at276 => (bnd (atI ds254 ((3 : Int) + ((3 : Int) * x263))) fun at277 => (bnd (m_l_seat at275 at276 at277 tools_here245) fun seat278 => (some seat278)))))) (rng 0 at261)) fun ys279 => (chk ((ys279).length ≤ sizeLine) (some ys279)))))))))
noncomputable abbrev a_l_seats : Int × Int × (List Str) × Unit → Option (List (Tu Str)) := fun a => m_l_seats a.1 a.2.1 a.2.2.1
theorem ok_l_seats {P : Program} {w : World} {K : PySem.W.Frag} {mg : Str → Option Value} {base : Heap} {f : Addr} {fd : FuncData} (F : FunP K "_law_seats" s_l_seats f fd) (hmg : mg "_law_seats" = some (.ref f)) (C_l_draws : Cal P w K mg base CX0 1 "_law_draws" (spN K a_l_draws)) (C_l_seat : Cal P w K mg base CX0 1 "_law_seat" (sp K a_l_seat)) (z_range : mg "range" = none) : Cal P w K mg base CX0 2 "_law_seats" (spN K a_l_seats) := by
  refine mk_calN (k := 1) F hmg (F.bindsN fun _ _ _ _ _ _ us hl => match us, hl with | [_, _, _], _ => rfl) sc_l_seats len3 ?_
  rintro cdv A' outer sh0 H0 X0 hr s0 vs ⟨cell239, most242, tools_here245, _⟩ r0 Q ⟨v240, _, rfl, r241, v243, _, rfl, r244, v246, _, rfl, r247, rfl⟩ hm hQ
  unfold a_l_seats m_l_seats at hm
  dsimp only at hm
  have iv248 : Iv K (fun _ => False) s0 s0 [fz v240 (cell239 : Int), fz v243 (most242 : Int), fz v246 (tools_here245 : (List Str)), top, top] := (Iv.sf (Iv.sf (Iv.sf (Iv.tops (K := K) (P0 := (fun _ => False)) 5 s0) 0 (Ex.refl s0) r241 rfl) 1 (Ex.refl s0) r244 rfl) 2 (Ex.refl s0) r247 rfl)
  obtain ⟨hc251, hm⟩ := chkE hm
  obtain ⟨hc252, hm⟩ := chkE hm
  obtain ⟨draws253, h_draws253, hm⟩ := bndE hm
  refine do_set 3 (EvN.ev (en_call C_l_draws hr (by decide) (ea_cons (ev_var 0 rfl (Iv.fz (x := (cell239 : Int)) iv248 0)) (ea_cons (EvN.ev (en_cat (EvN.r (en_list (xs := ([(most242 + (1 : Int))] : List Int)) (ee_cons (ev_add (ev_var 1 rfl (Iv.fz (x := (most242 : Int)) iv248 1)) ev_int) ee_nil) (by simp [sizeLine]))) (EvN.r (en_rep (en_list (xs := ([(5 : Int), (8 : Int), (4 : Int)] : List Int)) (ee_cons ev_int (ee_cons ev_int (ee_cons ev_int ee_nil))) (by simp [sizeLine])) (fun _ hk => Ev.mono (ev_var 1 rfl (Iv.fz (x := (most242 : Int)) iv248 1)) hk) hc251)) hc252)) ea_nil)) h_draws253)) (fun v258 s256 e257 r259 => ?_) sc_l_seats.nd
  obtain ⟨ds254, q255, hm⟩ := ltE hm
  have iv260 := Iv.sf iv248 3 e257 r259 q255
  obtain ⟨at261, h_at261, hm⟩ := bndE hm
  obtain ⟨hc262, hm⟩ := chkE hm
  obtain ⟨ys279, h_ys279, hm⟩ := bndE hm
  obtain ⟨hc280, hm⟩ := chkE hm
  obtain rfl := Option.some.inj hm
  exact do_retN (EvL.n (en_comp0 (own := [("_law_k", 4)]) (j := 4) (f := fun (x263 : Int) => (bnd (atI ds254 ((1 : Int) + ((3 : Int) * x263))) fun at275 => (bnd (atI ds254 ((2 : Int) + ((3 : Int) * x263))) fun at276 => (bnd (atI ds254 ((3 : Int) + ((3 : Int) * x263))) fun at277 => (bnd (m_l_seat at275 at276 at277 tools_here245) fun seat278 => (some seat278)))))) rfl sc_l_seats.nd (ei_range1 z_range (ev_ix (Ev.r (ev_var 3 rfl (Iv.fz (x := (ds254 : (List Int))) iv260 3))) ev_int h_at261) hc262) (blkOk_by (own := [("_law_k", 4)]) (N := N_l_seats) (sc := defScope s_l_seats) (by decide +kernel)) rfl (by decide) (fun _ _ _ _ _ => pg_name (i := 4) sc_l_seats.nd rfl (by first | exact Or.inl rfl | exact Or.inr rfl)) h_ys279 hc280 (fun x263 y264 v273 s265 hx267 e266 r274 hf268 _ _ _ _ _ => by have z271 := Enc.mono e266.f (Iv.fz (v := v246) (x := (tools_here245 : (List Str))) iv260 2); have z272 := Enc.mono e266.f (Iv.fz (v := v258) (x := (ds254 : (List Int))) iv260 3); obtain ⟨at275, h_at275, hf268⟩ := bndE hf268; obtain ⟨at276, h_at276, hf268⟩ := bndE hf268; obtain ⟨at277, h_at277, hf268⟩ := bndE hf268; obtain ⟨seat278, h_seat278, hf268⟩ := bndE hf268; obtain rfl := Option.some.inj hf268; exact (ev_call C_l_seat hr (by decide) (ea_cons (ev_ix (Ev.r (ev_var 3 rfl z272)) (ev_add ev_int (ev_mul ev_int (ev_var 4 rfl r274) (Or.inl (Or.inl ⟨by omega, by omega⟩)))) h_at275) (ea_cons (ev_ix (Ev.r (ev_var 3 rfl z272)) (ev_add ev_int (ev_mul ev_int (ev_var 4 rfl r274) (Or.inl (Or.inl ⟨by omega, by omega⟩)))) h_at276) (ea_cons (ev_ix (Ev.r (ev_var 3 rfl z272)) (ev_add ev_int (ev_mul ev_int (ev_var 4 rfl r274) (Or.inl (Or.inl ⟨by omega, by omega⟩)))) h_at277) (ea_cons (ev_var 2 rfl z271) ea_nil)))) h_seat278)))) fun p281 s282 e283 n284 o285 => hQ _ _ (Ex.trans (Iv.exx iv260) e283) (fr_back (Iv.exx iv260) n284) o285
abbrev s_l_cell_at : Stmt := topS 28
abbrev N_l_cell_at : List Str := ["_law_script", "_law_k"]
theorem sc_l_cell_at : FnScope N_l_cell_at ["_law_script", "_law_k"] (defScope s_l_cell_at) := ⟨rfl, rfl, rfl, by decide +kernel, rfl, by decide +kernel, by decide +kernel⟩
noncomputable def m_l_cell_at (script286 : (List Int)) (k289 : Int) : Option Int :=
 (if (decide (k289 < ((script286).length : Int))) = true then
 (bnd (atI script286 k289) fun at298 => (some at298))
 else
 (some (0 : Int)))
noncomputable abbrev a_l_cell_at : (List Int) × Int × Unit → Option Int := fun a => m_l_cell_at a.1 a.2.1
theorem ok_l_cell_at {P : Program} {w : World} {K : PySem.W.Frag} {mg : Str → Option Value} {base : Heap} {f : Addr} {fd : FuncData} (F : FunP K "_law_cell_at" s_l_cell_at f fd) (hmg : mg "_law_cell_at" = some (.ref f)) (z_len : mg "len" = none) : Cal P w K mg base CX0 1 "_law_cell_at" (sp K a_l_cell_at) := by
  refine mk_cal (k := 0) F hmg (F.bindsN fun _ _ _ _ _ _ us hl => match us, hl with | [_, _], _ => rfl) sc_l_cell_at len2 ?_
  rintro cdv A' outer sh0 H0 X0 hr s0 vs ⟨script286, k289, _⟩ r0 Q ⟨v287, _, rfl, r288, v290, _, rfl, r291, rfl⟩ hm hQ
  unfold a_l_cell_at m_l_cell_at at hm
  dsimp only at hm
  have iv292 : Iv K (fun _ => False) s0 s0 [fz v287 (script286 : (List Int)), fz v290 (k289 : Int)] := (Iv.sf (Iv.sf (Iv.tops (K := K) (P0 := (fun _ => False)) 2 s0) 0 (Ex.refl s0) r288 rfl) 1 (Ex.refl s0) r291 rfl)
  refine do_ifR (EvB.t (eb_lt (ev_var 1 rfl (Iv.fz (x := (k289 : Int)) iv292 1)) (ev_len z_len (Ev.r (ev_var 0 rfl (Iv.fz (x := (script286 : (List Int))) iv292 0)))))) (fun hb293 s294 e295 => ?_) (fun hb303 s304 e305 => ?_)
  · have hm296 := iteE1 hm hb293
    have iv297 := Iv.ex iv292 e295
    obtain ⟨at298, h_at298, hm296⟩ := bndE hm296
    obtain rfl := Option.some.inj hm296
    exact do_ret (ev_ix (Ev.r (ev_var 0 rfl (Iv.fz (x := (script286 : (List Int))) iv297 0))) (ev_var 1 rfl (Iv.fz (x := (k289 : Int)) iv297 1)) h_at298) fun v299 s300 e301 r302 => hQ _ _ (Ex.trans (Iv.exx iv297) e301) r302
  · have hm306 := iteE2 hm hb303
    have iv307 := Iv.ex iv292 e305
    obtain rfl := Option.some.inj hm306
    exact do_ret ev_int fun v308 s309 e310 r311 => hQ _ _ (Ex.trans (Iv.exx iv307) e310) r311
abbrev s_l_wider : Stmt := topS 36
abbrev N_l_wider : List Str := ["_law_mask_here", "_law_more", "_law_wide", "_law_step"]
theorem sc_l_wider : FnScope N_l_wider ["_law_mask_here", "_law_more"] (defScope s_l_wider) := ⟨rfl, rfl, rfl, by decide +kernel, rfl, by decide +kernel, by decide +kernel⟩
noncomputable def m_l_wider (mask_here312 : Int) (more315 : Int) : Option Int :=
 (lt ((0 : Int) : Int) fun wide319 =>
 (bnd (foldO (fun (b328 : Int) (x330 : Int) =>
 (chk (DivOk x330) (chk (DivOk x330) (bnd (if (decide ((0 : Int) < (((mask_here312 / x330) % (2 : Int)) + ((more315 / x330) % (2 : Int))))) = true then
 (lt ((b328 + x330) : Int) fun wide383 =>
 (some wide383))
 else
 (some b328) : Option (Int)) fun b374 =>
 (some b374))))) wide319 ([(1 : Int), (2 : Int), (4 : Int), (8 : Int), (16 : Int)] : List Int)) fun o326 =>
 (some o326)))
noncomputable abbrev a_l_wider : Int × Int × Unit → Option Int := fun a => m_l_wider a.1 a.2.1
theorem ok_l_wider {P : Program} {w : World} {K : PySem.W.Frag} {mg : Str → Option Value} {base : Heap} {f : Addr} {fd : FuncData} (F : FunP K "_law_wider" s_l_wider f fd) (hmg : mg "_law_wider" = some (.ref f))  : Cal P w K mg base CX0 1 "_law_wider" (sp K a_l_wider) := by
  refine mk_cal (k := 0) F hmg (F.bindsN fun _ _ _ _ _ _ us hl => match us, hl with | [_, _], _ => rfl) sc_l_wider len2 ?_
  rintro cdv A' outer sh0 H0 X0 hr s0 vs ⟨mask_here312, more315, _⟩ r0 Q ⟨v313, _, rfl, r314, v316, _, rfl, r317, rfl⟩ hm hQ
  unfold a_l_wider m_l_wider at hm
  dsimp only at hm
  have iv318 : Iv K (fun _ => False) s0 s0 [fz v313 (mask_here312 : Int), fz v316 (more315 : Int), top, top] := (Iv.sf (Iv.sf (Iv.tops (K := K) (P0 := (fun _ => False)) 4 s0) 0 (Ex.refl s0) r314 rfl) 1 (Ex.refl s0) r317 rfl)
  refine do_set 2 ev_int (fun v323 s321 e322 r324 => ?_) sc_l_wider.nd
  obtain ⟨wide319, q320, hm⟩ := ltE hm
  have iv325 := Iv.sf iv318 2 e322 r324 q320
  obtain ⟨o326, ho327, hm⟩ := bndE hm
  refine do_forO (υ := Int) PassesOwn.never rfl (ei_list (EvN.ev (en_list (xs := ([(1 : Int), (2 : Int), (4 : Int), (8 : Int), (16 : Int)] : List Int)) (ee_cons ev_int (ee_cons ev_int (ee_cons ev_int (ee_cons ev_int (ee_cons ev_int ee_nil))))) (by simp [sizeLine])))) (pg_name (i := 3) sc_l_wider.nd rfl (by first | exact Or.inl rfl | exact Or.inr rfl)) tg_n ho327 (fun (b328 : Int) (σ' : L2.St) (t' : S) => ∃ (v_wide : V) (y_step : Option V), σ' = [some v313, some v316, some v_wide, y_step] ∧ Iv K (fun _ => False) s0 t' [fz v313 (mask_here312 : Int), fz v316 (more315 : Int), fz v_wide (b328 : Int), top]) (fun s413 k414 => by have iv415 := Iv.ex iv325 k414; exact ⟨v323, _, rfl, Iv.sel iv415 [some 0, some 1, some 2, none] (by decide +kernel) (by kernel_rfl)⟩) (fun s331 k332 x330 b328 b329 σ341 σ342 t339 t340 hx333 hm334 fl335 hR336 k337 hB338 => ?_) (fun s407 k408 σ409 t410 fl411 hR412 => ?_)
  · have hf343 := Fle.trans k332.f fl335
    obtain ⟨v344, y345, rfl, iv346⟩ := hR336
    obtain ⟨v347, r348, rfl⟩ := hB338
    have iv349 := Iv.ex iv346 k337
    have iv350 := Iv.sf iv349 3 (Ex.refl t340) r348 rfl
    have fl351 := Fle.trans (Fle.refl t340.F) (Ex.refl t340).f
    obtain ⟨hc352, hm334⟩ := chkE hm334
    obtain ⟨hc353, hm334⟩ := chkE hm334
    obtain ⟨b374, hj375, hm334⟩ := bndE hm334
    refine do_if (EvB.t (eb_gt (ev_add (ev_mod (ev_div (ev_var 0 rfl (Iv.fz (x := (mask_here312 : Int)) iv350 0)) (ev_var 3 rfl (Iv.fz (x := (x330 : Int)) iv350 3)) hc352) ev_int (by decide)) (ev_mod (ev_div (ev_var 1 rfl (Iv.fz (x := (more315 : Int)) iv350 1)) (ev_var 3 rfl (Iv.fz (x := (x330 : Int)) iv350 3)) hc353) ev_int (by decide))) ev_int)) (fun (σ' : L2.St) (t' : S) => Fle t340.F t'.F ∧ ∃ (v_wide : V), σ' = [some v313, some v316, some v_wide, some v347] ∧ Iv K (fun _ => False) s0 t' [fz v313 (mask_here312 : Int), fz v316 (more315 : Int), fz v_wide (b374 : Int), fz v347 (x330 : Int)]) (fun hb376 s377 e378 => ?_) (fun hb392 s393 e394 => ?_) (fun σ399 s400 hM401 => ?_)
    · have hm379 := iteE1 hj375 hb376
      have iv380 := Iv.ex iv350 e378
      have fl381 := Fle.trans (Fle.refl t340.F) e378.f
      have fl382 := Fle.trans (Fle.refl t340.F) e378.f
      refine do_set 2 (ev_add (ev_var 2 rfl (Iv.fz (x := (b328 : Int)) iv380 2)) (ev_var 3 rfl (Iv.fz (x := (x330 : Int)) iv380 3))) (fun v387 s385 e386 r388 => ?_) sc_l_wider.nd
      obtain ⟨wide383, q384, hm379⟩ := ltE hm379
      have iv389 := Iv.sf iv380 2 e386 r388 q384
      have fl390 := Fle.trans fl381 e386.f
      have fl391 := Fle.trans fl382 e386.f
      obtain rfl := Option.some.inj hm379
      exact do_nil ⟨s385, rfl, fl391, ⟨v387, rfl, Iv.sel iv389 [some 0, some 1, some 2, some 3] (by decide +kernel) (by kernel_rfl)⟩⟩
    · have hm395 := iteE2 hj375 hb392
      have iv396 := Iv.ex iv350 e394
      have fl397 := Fle.trans (Fle.refl t340.F) e394.f
      have fl398 := Fle.trans (Fle.refl t340.F) e394.f
      obtain rfl := Option.some.inj hm395
      exact do_nil ⟨s393, rfl, fl398, ⟨v344, rfl, Iv.sel iv396 [some 0, some 1, some 2, some 3] (by decide +kernel) (by kernel_rfl)⟩⟩
    · obtain ⟨hf402, hR403⟩ := hM401
      obtain ⟨v404, rfl, iv405⟩ := hR403
      have fl406 := Fle.trans (Fle.refl t340.F) hf402
      obtain rfl := Option.some.inj hm334
      exact do_nil ⟨s400, rfl, fl406, ⟨v404, _, rfl, Iv.sel iv405 [some 0, some 1, some 2, none] (by decide +kernel) (by kernel_rfl)⟩⟩
  · have hf416 := Fle.trans k408.f fl411
    obtain ⟨v417, y418, rfl, iv419⟩ := hR412
    obtain rfl := Option.some.inj hm
    exact do_ret (ev_var 2 rfl (Iv.fz (x := (o326 : Int)) iv419 2)) fun v420 s421 e422 r423 => hQ _ _ (Ex.trans (Iv.exx iv419) e422) r423
abbrev s_l_title : Stmt := topS 31
abbrev N_l_title : List Str := ["_law_k", "_law_way", "_law_letters", "_law_word"]
theorem sc_l_title : FnScope N_l_title ["_law_k", "_law_way"] (defScope s_l_title) := ⟨rfl, rfl, rfl, by decide +kernel, rfl, by decide +kernel, by decide +kernel⟩
noncomputable def m_l_title (k424 : Int) (way427 : Int) : Option Str :=
 (lt (("abcdefghijklmnopqrstuvwxyz" : Str) : Str) fun letters431 =>
 (bnd (sgn letters431 (k424 / (2 : Int))) fun at438 => (chk (RepS ("x" : Str) (k424 % (2 : Int))) (chk ((at438).length + ((replS ("x" : Str) (k424 % (2 : Int)))).length ≤ sizeLine) (lt ((at438 ++ (replS ("x" : Str) (k424 % (2 : Int)))) : Str) fun word441 =>
 (if (decide (way427 = (0 : Int))) = true then
 (some word441)
 else
 (bnd (atI ([("" : Str), ("q" : Str), ("zz" : Str)] : List Str) way427) fun at462 => (chk ((at462).length + (word441).length ≤ sizeLine) (bnd (sgn letters431 (k424 % (7 : Int))) fun at464 => (chk (RepS at464 (2 : Int)) (chk (((at462 ++ word441)).length + ((replS at464 (2 : Int))).length ≤ sizeLine) (some ((at462 ++ word441) ++ (replS at464 (2 : Int)))))))))))))))
noncomputable abbrev a_l_title : Int × Int × Unit → Option Str := fun a => m_l_title a.1 a.2.1
theorem ok_l_title {P : Program} {w : World} {K : PySem.W.Frag} {mg : Str → Option Value} {base : Heap} {f : Addr} {fd : FuncData} (F : FunP K "_law_title" s_l_title f fd) (hmg : mg "_law_title" = some (.ref f))  : Cal P w K mg base CX0 1 "_law_title" (sp K a_l_title) := by
  refine mk_cal (k := 0) F hmg (F.bindsN fun _ _ _ _ _ _ us hl => match us, hl with | [_, _], _ => rfl) sc_l_title len2 ?_
  rintro cdv A' outer sh0 H0 X0 hr s0 vs ⟨k424, way427, _⟩ r0 Q ⟨v425, _, rfl, r426, v428, _, rfl, r429, rfl⟩ hm hQ
  unfold a_l_title m_l_title at hm
  dsimp only at hm
  have iv430 : Iv K (fun _ => False) s0 s0 [fz v425 (k424 : Int), fz v428 (way427 : Int), top, top] := (Iv.sf (Iv.sf (Iv.tops (K := K) (P0 := (fun _ => False)) 4 s0) 0 (Ex.refl s0) r426 rfl) 1 (Ex.refl s0) r429 rfl)
  refine do_set 2 ev_str (fun v435 s433 e434 r436 => ?_) sc_l_title.nd
  obtain ⟨letters431, q432, hm⟩ := ltE hm
  have iv437 := Iv.sf iv430 2 e434 r436 q432
  obtain ⟨at438, h_at438, hm⟩ := bndE hm
  obtain ⟨hc439, hm⟩ := chkE hm
  obtain ⟨hc440, hm⟩ := chkE hm
  refine do_set 3 (ev_adds (ev_ixS (ev_var 2 rfl (Iv.fz (x := (letters431 : Str)) iv437 2)) (ev_div (ev_var 0 rfl (Iv.fz (x := (k424 : Int)) iv437 0)) ev_int ⟨by decide, by decide +kernel⟩) h_at438) (ev_repS ev_str (ev_mod (ev_var 0 rfl (Iv.fz (x := (k424 : Int)) iv437 0)) ev_int (by decide)) hc439) hc440) (fun v445 s443 e444 r446 => ?_) sc_l_title.nd
  obtain ⟨word441, q442, hm⟩ := ltE hm
  have iv447 := Iv.sf iv437 3 e444 r446 q442
  refine do_ifR (EvB.t (eb_eq (ev_var 1 rfl (Iv.fz (x := (way427 : Int)) iv447 1)) ev_int)) (fun hb448 s449 e450 => ?_) (fun hb457 s458 e459 => ?_)
  · have hm451 := iteE1 hm hb448
    have iv452 := Iv.ex iv447 e450
    obtain rfl := Option.some.inj hm451
    exact do_ret (ev_var 3 rfl (Iv.fz (x := (word441 : Str)) iv452 3)) fun v453 s454 e455 r456 => hQ _ _ (Ex.trans (Iv.exx iv452) e455) r456
  · have hm460 := iteE2 hm hb457
    have iv461 := Iv.ex iv447 e459
    obtain ⟨at462, h_at462, hm460⟩ := bndE hm460
    obtain ⟨hc463, hm460⟩ := chkE hm460
    obtain ⟨at464, h_at464, hm460⟩ := bndE hm460
    obtain ⟨hc465, hm460⟩ := chkE hm460
    obtain ⟨hc466, hm460⟩ := chkE hm460
    obtain rfl := Option.some.inj hm460
    exact do_ret (ev_adds (ev_adds (ev_ix (EvN.r (en_list (xs := ([("" : Str), ("q" : Str), ("zz" : Str)] : List Str)) (ee_cons ev_str (ee_cons ev_str (ee_cons ev_str ee_nil))) (by simp [sizeLine]))) (ev_var 1 rfl (Iv.fz (x := (way427 : Int)) iv461 1)) h_at462) (ev_var 3 rfl (Iv.fz (x := (word441 : Str)) iv461 3)) hc463) (ev_repS (ev_ixS (ev_var 2 rfl (Iv.fz (x := (letters431 : Str)) iv461 2)) (ev_mod (ev_var 0 rfl (Iv.fz (x := (k424 : Int)) iv461 0)) ev_int (by decide)) h_at464) ev_int hc465) hc466) fun v467 s468 e469 r470 => hQ _ _ (Ex.trans (Iv.exx iv461) e469) r470
abbrev s_l_player : Stmt := topS 34
abbrev N_l_player : List Str := ["_law_k", "_law_mask_here", "_law_turned", "_law_tools_here", "_law_way", "_law_some", "_law_j"]
theorem sc_l_player : FnScope N_l_player ["_law_k", "_law_mask_here", "_law_turned", "_law_tools_here", "_law_way"] (defScope s_l_player) := ⟨rfl, rfl, rfl, by decide +kernel, rfl, by decide +kernel, by decide +kernel⟩
noncomputable def m_l_player (k471 : Int) (mask_here474 : Int) (turned477 : Int) (tools_here480 : (List Str)) (way483 : Int) : Option (Str × (Tu Str)) :=
 (bnd (compO (fun (x487 : Int) => (bnd (atI ([(1 : Int), (2 : Int), (4 : Int), (8 : Int), (16 : Int)] : List Int) x487) fun at503 => (chk (DivOk at503) (some (decide (((mask_here474 / at503) % (2 : Int)) = (1 : Int))))))) (fun (x487 : Int) => (bnd (atI tools_here480 x487) fun at500 => (some at500))) (rng 0 (5 : Int))) fun ys505 => (chk ((ys505).length ≤ sizeLine) (lt (ys505 : (List Str)) fun some508 =>
 (bnd (if (decide (turned477 = (1 : Int))) = true then
 (lt ((some508).reverse : (List Str)) fun some546 =>
 (some some546))
 else
 (some some508) : Option ((List Str))) fun b538 =>
 (bnd (m_l_title k471 way483) fun title567 => (some (title567, (⟨b538⟩ : Tu Str))))))))
noncomputable abbrev a_l_player : Int × Int × Int × (List Str) × Int × Unit → Option (Str × (Tu Str)) := fun a => m_l_player a.1 a.2.1 a.2.2.1 a.2.2.2.1 a.2.2.2.2.1
theorem ok_l_player {P : Program} {w : World} {K : PySem.W.Frag} {mg : Str → Option Value} {base : Heap} {f : Addr} {fd : FuncData} (F : FunP K "_law_player" s_l_player f fd) (hmg : mg "_law_player" = some (.ref f)) (C_l_title : Cal P w K mg base CX0 1 "_law_title" (sp K a_l_title)) (z_range : mg "range" = none) (z_tuple : mg "tuple" = none) : Cal P w K mg base CX0 2 "_law_player" (sp K a_l_player) := by
  refine mk_cal (k := 1) F hmg (F.bindsN fun _ _ _ _ _ _ us hl => match us, hl with | [_, _, _, _, _], _ => rfl) sc_l_player len5 ?_
  rintro cdv A' outer sh0 H0 X0 hr s0 vs ⟨k471, mask_here474, turned477, tools_here480, way483, _⟩ r0 Q ⟨v472, _, rfl, r473, v475, _, rfl, r476, v478, _, rfl, r479, v481, _, rfl, r482, v484, _, rfl, r485, rfl⟩ hm hQ
  unfold a_l_player m_l_player at hm
  dsimp only at hm
  have iv486 : Iv K (fun _ => False) s0 s0 [fz v472 (k471 : Int), fz v475 (mask_here474 : Int), fz v478 (turned477 : Int), fz v481 (tools_here480 : (List Str)), fz v484 (way483 : Int), top, top] := (Iv.sf (Iv.sf (Iv.sf (Iv.sf (Iv.sf (Iv.tops (K := K) (P0 := (fun _ => False)) 7 s0) 0 (Ex.refl s0) r473 rfl) 1 (Ex.refl s0) r476 rfl) 2 (Ex.refl s0) r479 rfl) 3 (Ex.refl s0) r482 rfl) 4 (Ex.refl s0) r485 rfl)
  obtain ⟨ys505, h_ys505, hm⟩ := bndE hm
  obtain ⟨hc506, hm⟩ := chkE hm
  refine do_setL 5 (en_comp1 (own := [("_law_j", 6)]) (j := 6) (t := fun (x487 : Int) => (bnd (atI ([(1 : Int), (2 : Int), (4 : Int), (8 : Int), (16 : Int)] : List Int) x487) fun at503 => (chk (DivOk at503) (some (decide (((mask_here474 / at503) % (2 : Int)) = (1 : Int))))))) (f := fun (x487 : Int) => (bnd (atI tools_here480 x487) fun at500 => (some at500))) rfl sc_l_player.nd (ei_range1 z_range ev_int ⟨by omega, by omega⟩) (blkOk_by (own := [("_law_j", 6)]) (N := N_l_player) (sc := defScope s_l_player) (by decide +kernel)) rfl (by decide) (fun _ _ _ _ _ => pg_name (i := 6) sc_l_player.nd rfl (by first | exact Or.inl rfl | exact Or.inr rfl)) h_ys505 hc506 (fun x487 y488 v498 s489 hx491 e490 r499 hf492 _ _ _ _ _ => by have z494 := Enc.mono e490.f (Iv.fz (v := v475) (x := (mask_here474 : Int)) iv486 1); obtain ⟨at503, h_at503, hf492⟩ := bndE hf492; obtain ⟨hc504, hf492⟩ := chkE hf492; obtain rfl := Option.some.inj hf492; exact (EvB.t (eb_eq (ev_mod (ev_div (ev_var 1 rfl z494) (ev_ix (EvN.r (en_list (xs := ([(1 : Int), (2 : Int), (4 : Int), (8 : Int), (16 : Int)] : List Int)) (ee_cons ev_int (ee_cons ev_int (ee_cons ev_int (ee_cons ev_int (ee_cons ev_int ee_nil))))) (by simp [sizeLine]))) (ev_var 6 rfl r499) h_at503) hc504) ev_int (by decide)) ev_int))) (fun x487 y488 v498 s489 hx491 e490 r499 ht507 hf492 _ _ _ _ _ => by have z496 := Enc.mono e490.f (Iv.fz (v := v481) (x := (tools_here480 : (List Str))) iv486 3); obtain ⟨at500, h_at500, hf492⟩ := bndE hf492; obtain rfl := Option.some.inj hf492; exact (ev_ix (Ev.r (ev_var 3 rfl z496)) (ev_var 6 rfl r499) h_at500))) (fun p514 s510 e511 n515 o516 => ?_) rfl rfl
  obtain ⟨s517, hs518, e519, r513⟩ := frz_ex e511 n515 o516
  rw [← hs518]
  obtain ⟨some508, q509, hm⟩ := ltE hm
  have iv520 := Iv.sf iv486 5 e519 r513 q509
  obtain ⟨b538, hj539, hm⟩ := bndE hm
  refine do_if (EvB.t (eb_eq (ev_var 2 rfl (Iv.fz (x := (turned477 : Int)) iv520 2)) ev_int)) (fun (σ' : L2.St) (t' : S) => Fle s517.F t'.F ∧ ∃ (v_some : V), σ' = [some v472, some v475, some v478, some v481, some v484, some v_some, none] ∧ Iv K (fun _ => False) s0 t' [fz v472 (k471 : Int), fz v475 (mask_here474 : Int), fz v478 (turned477 : Int), fz v481 (tools_here480 : (List Str)), fz v484 (way483 : Int), fz v_some (b538 : (List Str)), top]) (fun hb540 s541 e542 => ?_) (fun hb554 s555 e556 => ?_) (fun σ560 s561 hM562 => ?_)
  · have hm543 := iteE1 hj539 hb540
    have iv544 := Iv.ex iv520 e542
    have fl545 := Fle.trans (Fle.refl s517.F) e542.f
    refine do_set 5 (EvN.ev (en_rev (Ev.r (ev_var 5 rfl (Iv.fz (x := (some508 : (List Str))) iv544 5))))) (fun v550 s548 e549 r551 => ?_) sc_l_player.nd
    obtain ⟨some546, q547, hm543⟩ := ltE hm543
    have iv552 := Iv.sf iv544 5 e549 r551 q547
    have fl553 := Fle.trans fl545 e549.f
    obtain rfl := Option.some.inj hm543
    exact do_nil ⟨s548, rfl, fl553, ⟨v550, rfl, Iv.sel iv552 [some 0, some 1, some 2, some 3, some 4, some 5, none] (by decide +kernel) (by kernel_rfl)⟩⟩
  · have hm557 := iteE2 hj539 hb554
    have iv558 := Iv.ex iv520 e556
    have fl559 := Fle.trans (Fle.refl s517.F) e556.f
    obtain rfl := Option.some.inj hm557
    exact do_nil ⟨s555, rfl, fl559, ⟨(V.ref p514), rfl, Iv.sel iv558 [some 0, some 1, some 2, some 3, some 4, some 5, none] (by decide +kernel) (by kernel_rfl)⟩⟩
  · obtain ⟨hf563, hR564⟩ := hM562
    obtain ⟨v565, rfl, iv566⟩ := hR564
    obtain ⟨title567, h_title567, hm⟩ := bndE hm
    obtain rfl := Option.some.inj hm
    exact do_ret (ev_t2 (ea_cons (ev_call C_l_title hr (by decide) (ea_cons (ev_var 0 rfl (Iv.fz (x := (k471 : Int)) iv566 0)) (ea_cons (ev_var 4 rfl (Iv.fz (x := (way483 : Int)) iv566 4)) ea_nil)) h_title567) (ea_cons (ev_tuple z_tuple (Ev.r (ev_var 5 rfl (Iv.fz (x := (b538 : (List Str))) iv566 5)))) ea_nil))) fun v568 s569 e570 r571 => hQ _ _ (Ex.trans (Iv.exx iv566) e570) r571
abbrev s_l_mask : Stmt := topS 35
abbrev N_l_mask : List Str := ["_law_seat_here", "_law_tools_here", "_law_mask_here", "_law_j"]
theorem sc_l_mask : FnScope N_l_mask ["_law_seat_here", "_law_tools_here"] (defScope s_l_mask) := ⟨rfl, rfl, rfl, by decide +kernel, rfl, by decide +kernel, by decide +kernel⟩
noncomputable def m_l_mask (seat_here572 : (Tu Str)) (tools_here575 : (List Str)) : Option Int :=
 (lt ((0 : Int) : Int) fun mask_here579 =>
 (bnd (foldO (fun (b588 : Int) (x590 : Int) =>
 (bnd (atI tools_here575 x590) fun at613 => (bnd (if (decide (at613 ∈ (seat_here572).l)) = true then
 (bnd (atI ([(1 : Int), (2 : Int), (4 : Int), (8 : Int), (16 : Int)] : List Int) x590) fun at644 => (lt ((b588 + at644) : Int) fun mask_here645 =>
 (some mask_here645)))
 else
 (some b588) : Option (Int)) fun b635 =>
 (some b635)))) mask_here579 (rng 0 (5 : Int))) fun o586 =>
 (some o586)))
noncomputable abbrev a_l_mask : (Tu Str) × (List Str) × Unit → Option Int := fun a => m_l_mask a.1 a.2.1
theorem ok_l_mask {P : Program} {w : World} {K : PySem.W.Frag} {mg : Str → Option Value} {base : Heap} {f : Addr} {fd : FuncData} (F : FunP K "_law_mask" s_l_mask f fd) (hmg : mg "_law_mask" = some (.ref f)) (z_range : mg "range" = none) : Cal P w K mg base CX0 1 "_law_mask" (sp K a_l_mask) := by
  refine mk_cal (k := 0) F hmg (F.bindsN fun _ _ _ _ _ _ us hl => match us, hl with | [_, _], _ => rfl) sc_l_mask len2 ?_
  rintro cdv A' outer sh0 H0 X0 hr s0 vs ⟨seat_here572, tools_here575, _⟩ r0 Q ⟨v573, _, rfl, r574, v576, _, rfl, r577, rfl⟩ hm hQ
  unfold a_l_mask m_l_mask at hm
  dsimp only at hm
  have iv578 : Iv K (fun _ => False) s0 s0 [fz v573 (seat_here572 : (Tu Str)), fz v576 (tools_here575 : (List Str)), top, top] := (Iv.sf (Iv.sf (Iv.tops (K := K) (P0 := (fun _ => False)) 4 s0) 0 (Ex.refl s0) r574 rfl) 1 (Ex.refl s0) r577 rfl)
  refine do_set 2 ev_int (fun v583 s581 e582 r584 => ?_) sc_l_mask.nd
  obtain ⟨mask_here579, q580, hm⟩ := ltE hm
  have iv585 := Iv.sf iv578 2 e582 r584 q580
  obtain ⟨o586, ho587, hm⟩ := bndE hm
  refine do_forO (υ := Int) PassesOwn.never rfl (ei_range1 z_range ev_int ⟨by omega, by omega⟩) (pg_name (i := 3) sc_l_mask.nd rfl (by first | exact Or.inl rfl | exact Or.inr rfl)) tg_n ho587 (fun (b588 : Int) (σ' : L2.St) (t' : S) => ∃ (v_mask_here : V) (y_j : Option V), σ' = [some v573, some v576, some v_mask_here, y_j] ∧ Iv K (fun _ => False) s0 t' [fz v573 (seat_here572 : (Tu Str)), fz v576 (tools_here575 : (List Str)), fz v_mask_here (b588 : Int), top]) (fun s675 k676 => by have iv677 := Iv.ex iv585 k676; exact ⟨v583, _, rfl, Iv.sel iv677 [some 0, some 1, some 2, none] (by decide +kernel) (by kernel_rfl)⟩) (fun s591 k592 x590 b588 b589 σ601 σ602 t599 t600 hx593 hm594 fl595 hR596 k597 hB598 => ?_) (fun s669 k670 σ671 t672 fl673 hR674 => ?_)
  · have hf603 := Fle.trans k592.f fl595
    obtain ⟨v604, y605, rfl, iv606⟩ := hR596
    obtain ⟨v607, r608, rfl⟩ := hB598
    have iv609 := Iv.ex iv606 k597
    have iv610 := Iv.sf iv609 3 (Ex.refl t600) r608 rfl
    have fl611 := Fle.trans (Fle.refl t600.F) (Ex.refl t600).f
    have q612 := rng_mem hx593
    obtain ⟨at613, h_at613, hm594⟩ := bndE hm594
    obtain ⟨b635, hj636, hm594⟩ := bndE hm594
    refine do_if (EvB.t (eb_inT (ev_ix (Ev.r (ev_var 1 rfl (Iv.fz (x := (tools_here575 : (List Str))) iv610 1))) (ev_var 3 rfl (Iv.fz (x := (x590 : Int)) iv610 3)) h_at613) (ev_var 0 rfl (Iv.fz (x := (seat_here572 : (Tu Str))) iv610 0)))) (fun (σ' : L2.St) (t' : S) => Fle t600.F t'.F ∧ ∃ (v_mask_here : V), σ' = [some v573, some v576, some v_mask_here, some v607] ∧ Iv K (fun _ => False) s0 t' [fz v573 (seat_here572 : (Tu Str)), fz v576 (tools_here575 : (List Str)), fz v_mask_here (b635 : Int), fz v607 (x590 : Int)]) (fun hb637 s638 e639 => ?_) (fun hb654 s655 e656 => ?_) (fun σ661 s662 hM663 => ?_)
    · have hm640 := iteE1 hj636 hb637
      have iv641 := Iv.ex iv610 e639
      have fl642 := Fle.trans (Fle.refl t600.F) e639.f
      have fl643 := Fle.trans (Fle.refl t600.F) e639.f
      obtain ⟨at644, h_at644, hm640⟩ := bndE hm640
      refine do_set 2 (ev_add (ev_var 2 rfl (Iv.fz (x := (b588 : Int)) iv641 2)) (ev_ix (EvN.r (en_list (xs := ([(1 : Int), (2 : Int), (4 : Int), (8 : Int), (16 : Int)] : List Int)) (ee_cons ev_int (ee_cons ev_int (ee_cons ev_int (ee_cons ev_int (ee_cons ev_int ee_nil))))) (by simp [sizeLine]))) (ev_var 3 rfl (Iv.fz (x := (x590 : Int)) iv641 3)) h_at644)) (fun v649 s647 e648 r650 => ?_) sc_l_mask.nd
      obtain ⟨mask_here645, q646, hm640⟩ := ltE hm640
      have iv651 := Iv.sf iv641 2 e648 r650 q646
      have fl652 := Fle.trans fl642 e648.f
      have fl653 := Fle.trans fl643 e648.f
      obtain rfl := Option.some.inj hm640
      exact do_nil ⟨s647, rfl, fl653, ⟨v649, rfl, Iv.sel iv651 [some 0, some 1, some 2, some 3] (by decide +kernel) (by kernel_rfl)⟩⟩
    · have hm657 := iteE2 hj636 hb654
      have iv658 := Iv.ex iv610 e656
      have fl659 := Fle.trans (Fle.refl t600.F) e656.f
      have fl660 := Fle.trans (Fle.refl t600.F) e656.f
      obtain rfl := Option.some.inj hm657
      exact do_nil ⟨s655, rfl, fl660, ⟨v604, rfl, Iv.sel iv658 [some 0, some 1, some 2, some 3] (by decide +kernel) (by kernel_rfl)⟩⟩
    · obtain ⟨hf664, hR665⟩ := hM663
      obtain ⟨v666, rfl, iv667⟩ := hR665
      have fl668 := Fle.trans (Fle.refl t600.F) hf664
      obtain rfl := Option.some.inj hm594
      exact do_nil ⟨s662, rfl, fl668, ⟨v666, _, rfl, Iv.sel iv667 [some 0, some 1, some 2, none] (by decide +kernel) (by kernel_rfl)⟩⟩
  · have hf678 := Fle.trans k670.f fl673
    obtain ⟨v679, y680, rfl, iv681⟩ := hR674
    obtain rfl := Option.some.inj hm
    exact do_ret (ev_var 2 rfl (Iv.fz (x := (o586 : Int)) iv681 2)) fun v682 s683 e684 r685 => hQ _ _ (Ex.trans (Iv.exx iv681) e684) r685
abbrev s_l_band : Stmt := topS 37
abbrev N_l_band : List Str := ["_law_script", "_law_most", "_law_spare", "_law_ds", "_law_tools_here", "_law_seats_here", "_law_es", "_law_left", "_law_masks", "_law_row", "_law_k", "_law_players", "_law_place"]
theorem sc_l_band : FnScope N_l_band ["_law_script", "_law_most", "_law_spare"] (defScope s_l_band) := ⟨rfl, rfl, rfl, by decide +kernel, rfl, by decide +kernel, by decide +kernel⟩
noncomputable def m_l_band (script686 : (List Int)) (most689 : Int) (spare692 : Int) : Option (T3 (List (Str × (Tu Str))) (List (Tu Str)) (List Int)) :=
 (bnd (m_l_cell_at script686 (0 : Int)) fun cell_at697 => (bnd (m_l_draws cell_at697 ([(3 : Int), (3 : Int)] : List Int)) fun draws698 => (lt (draws698 : (List Int)) fun ds699 =>
 (bnd (atI ds699 (0 : Int)) fun at706 => (bnd (m_l_tools at706) fun tools707 => (lt (tools707 : (List Str)) fun tools_here708 =>
 (bnd (m_l_cell_at script686 (1 : Int)) fun cell_at715 => (bnd (m_l_seats cell_at715 most689 tools_here708) fun seats716 => (lt (seats716 : (List (Tu Str))) fun seats_here717 =>
 (bnd (m_l_cell_at script686 (2 : Int)) fun cell_at727 => (chk (RepOk (most689 + spare692) (([(32 : Int), (32 : Int), (4 : Int)] : List Int)).length) (chk ((([(spare692 + (1 : Int))] : List Int)).length + ((repl (most689 + spare692) ([(32 : Int), (32 : Int), (4 : Int)] : List Int))).length ≤ sizeLine) (bnd (m_l_draws cell_at727 (([(spare692 + (1 : Int))] : List Int) ++ (repl (most689 + spare692) ([(32 : Int), (32 : Int), (4 : Int)] : List Int)))) fun draws730 => (lt (draws730 : (List Int)) fun es731 =>
 (bnd (atI es731 (0 : Int)) fun at738 => (chk (RgOk 0 (((seats_here717).length : Int) + at738)) (lt ((rng 0 (((seats_here717).length : Int) + at738)) : (List Int)) fun left740 =>
 (chk (RepOk ((left740).length : Int) (([(0 : Int)] : List Int)).length) (lt ((repl ((left740).length : Int) ([(0 : Int)] : List Int)) : (List Int)) fun masks749 =>
 (lt (([] : List Int) : (List Int)) fun row757 =>
 (chk (RgB ((seats_here717).length : Int)) (bnd (foldO (fun (b768 : ((List Int) × (List Int) × (List Int))) (x770 : Int) =>
 (bnd (atI es731 ((1 : Int) + ((3 : Int) * x770))) fun at792 => (chk (0 < ((b768.1).length : Int)) (bnd (popAt b768.1 (at792 % ((b768.1).length : Int))) fun pp794 => (chk ((b768.2.1).length < sizeLine) (lt ((b768.2.1 ++ [pp794.1]) : (List Int)) fun row812 =>
 (bnd (atI seats_here717 x770) fun at830 => (bnd (m_l_mask at830 tools_here708) fun mask831 => (bnd (atI es731 ((2 : Int) + ((3 : Int) * x770))) fun at832 => (bnd (atI es731 ((3 : Int) + ((3 : Int) * x770))) fun at834 => (chk (MulOk at832 (if (decide (at834 = (0 : Int))) = true then (1 : Int) else 0)) (bnd (m_l_wider mask831 (at832 * (if (decide (at834 = (0 : Int))) = true then (1 : Int) else 0))) fun wider836 => (bnd (ixN (b768.2.2).length pp794.1) fun j837 => (lt (((b768.2.2).set j837 wider836) : (List Int)) fun ls820 =>
 (some (pp794.2, row812, ls820)))))))))))))))) (left740, row757, masks749) (rng 0 ((seats_here717).length : Int))) fun o766 =>
 (chk (RgB ((o766.1).length : Int)) (bnd (foldO (fun (b856 : (List Int)) (x858 : Int) =>
 (bnd (atI es731 ((1 : Int) + ((3 : Int) * (((seats_here717).length : Int) + x858)))) fun at884 => (bnd (atI o766.1 x858) fun at885 => (bnd (ixN (b856).length at885) fun j886 => (lt (((b856).set j886 at884) : (List Int)) fun ls882 =>
 (some ls882)))))) o766.2.2 (rng 0 ((o766.1).length : Int))) fun o854 =>
 (chk (RgB ((o854).length : Int)) (bnd (mapO (fun (x902 : Int) => (bnd (atI o854 x902) fun at920 => (bnd (atI ds699 (1 : Int)) fun at921 => (bnd (m_l_player x902 at920 (x902 % (2 : Int)) tools_here708 at921) fun player922 => (some player922))))) (rng 0 ((o854).length : Int))) fun ys923 => (chk ((ys923).length ≤ sizeLine) (lt (ys923 : (List (Str × (Tu Str)))) fun players925 =>
 (some (⟨players925, seats_here717, o766.2.1⟩ : (T3 (List (Str × (Tu Str))) (List (Tu Str)) (List Int))))))))))))))))))))))))))))))))
noncomputable abbrev a_l_band : (List Int) × Int × Int × Unit → Option (T3 (List (Str × (Tu Str))) (List (Tu Str)) (List Int)) := fun a => m_l_band a.1 a.2.1 a.2.2.1
theorem ok_l_band {P : Program} {w : World} {K : PySem.W.Frag} {mg : Str → Option Value} {base : Heap} {f : Addr} {fd : FuncData} (F : FunP K "_law_band" s_l_band f fd) (hmg : mg "_law_band" = some (.ref f)) (C_l_cell_at : Cal P w K mg base CX0 1 "_law_cell_at" (sp K a_l_cell_at)) (C_l_draws : Cal P w K mg base CX0 1 "_law_draws" (spN K a_l_draws)) (C_l_tools : Cal P w K mg base CX0 1 "_law_tools" (sp K a_l_tools)) (C_l_seats : Cal P w K mg base CX0 2 "_law_seats" (spN K a_l_seats)) (C_l_mask : Cal P w K mg base CX0 1 "_law_mask" (sp K a_l_mask)) (C_l_wider : Cal P w K mg base CX0 1 "_law_wider" (sp K a_l_wider)) (C_l_player : Cal P w K mg base CX0 2 "_law_player" (sp K a_l_player)) (z_list : mg "list" = none) (z_range : mg "range" = none) (z_len : mg "len" = none) (z_int : mg "int" = none) : Cal P w K mg base CX0 3 "_law_band" (sp K a_l_band) := by
  refine mk_cal (k := 2) F hmg (F.bindsN fun _ _ _ _ _ _ us hl => match us, hl with | [_, _, _], _ => rfl) sc_l_band len3 ?_
  rintro cdv A' outer sh0 H0 X0 hr s0 vs ⟨script686, most689, spare692, _⟩ r0 Q ⟨v687, _, rfl, r688, v690, _, rfl, r691, v693, _, rfl, r694, rfl⟩ hm hQ
  unfold a_l_band m_l_band at hm
  dsimp only at hm
  have iv695 : Iv K (fun _ => False) s0 s0 [fz v687 (script686 : (List Int)), fz v690 (most689 : Int), fz v693 (spare692 : Int), top, top, top, top, top, top, top, top, top, top] := (Iv.sf (Iv.sf (Iv.sf (Iv.tops (K := K) (P0 := (fun _ => False)) 13 s0) 0 (Ex.refl s0) r688 rfl) 1 (Ex.refl s0) r691 rfl) 2 (Ex.refl s0) r694 rfl)
  obtain ⟨cell_at697, h_cell_at697, hm⟩ := bndE hm
  obtain ⟨draws698, h_draws698, hm⟩ := bndE hm
  refine do_set 3 (EvN.ev (en_call C_l_draws hr (by decide) (ea_cons (ev_call C_l_cell_at hr (by decide) (ea_cons (ev_var 0 rfl (Iv.fz (x := (script686 : (List Int))) iv695 0)) (ea_cons ev_int ea_nil)) h_cell_at697) (ea_cons (EvN.ev (en_list (xs := ([(3 : Int), (3 : Int)] : List Int)) (ee_cons ev_int (ee_cons ev_int ee_nil)) (by simp [sizeLine]))) ea_nil)) h_draws698)) (fun v703 s701 e702 r704 => ?_) sc_l_band.nd
  obtain ⟨ds699, q700, hm⟩ := ltE hm
  have iv705 := Iv.sf iv695 3 e702 r704 q700
  obtain ⟨at706, h_at706, hm⟩ := bndE hm
  obtain ⟨tools707, h_tools707, hm⟩ := bndE hm
  refine do_set 4 (ev_call C_l_tools hr (by decide) (ea_cons (ev_ix (Ev.r (ev_var 3 rfl (Iv.fz (x := (ds699 : (List Int))) iv705 3))) ev_int h_at706) ea_nil) h_tools707) (fun v712 s710 e711 r713 => ?_) sc_l_band.nd
  obtain ⟨tools_here708, q709, hm⟩ := ltE hm
  have iv714 := Iv.sf iv705 4 e711 r713 q709
  obtain ⟨cell_at715, h_cell_at715, hm⟩ := bndE hm
  obtain ⟨seats716, h_seats716, hm⟩ := bndE hm
  refine do_set 5 (EvN.ev (en_call C_l_seats hr (by decide) (ea_cons (ev_call C_l_cell_at hr (by decide) (ea_cons (ev_var 0 rfl (Iv.fz (x := (script686 : (List Int))) iv714 0)) (ea_cons ev_int ea_nil)) h_cell_at715) (ea_cons (ev_var 1 rfl (Iv.fz (x := (most689 : Int)) iv714 1)) (ea_cons (ev_var 4 rfl (Iv.fz (x := (tools_here708 : (List Str))) iv714 4)) ea_nil))) h_seats716)) (fun v721 s719 e720 r722 => ?_) sc_l_band.nd
  obtain ⟨seats_here717, q718, hm⟩ := ltE hm
  have iv723 := Iv.sf iv714 5 e720 r722 q718
  obtain ⟨cell_at727, h_cell_at727, hm⟩ := bndE hm
  obtain ⟨hc728, hm⟩ := chkE hm
  obtain ⟨hc729, hm⟩ := chkE hm
  obtain ⟨draws730, h_draws730, hm⟩ := bndE hm
  refine do_set 6 (EvN.ev (en_call C_l_draws hr (by decide) (ea_cons (ev_call C_l_cell_at hr (by decide) (ea_cons (ev_var 0 rfl (Iv.fz (x := (script686 : (List Int))) iv723 0)) (ea_cons ev_int ea_nil)) h_cell_at727) (ea_cons (EvN.ev (en_cat (EvN.r (en_list (xs := ([(spare692 + (1 : Int))] : List Int)) (ee_cons (ev_add (ev_var 2 rfl (Iv.fz (x := (spare692 : Int)) iv723 2)) ev_int) ee_nil) (by simp [sizeLine]))) (EvN.r (en_rep (en_list (xs := ([(32 : Int), (32 : Int), (4 : Int)] : List Int)) (ee_cons ev_int (ee_cons ev_int (ee_cons ev_int ee_nil))) (by simp [sizeLine])) (fun _ hk => Ev.mono (ev_add (ev_var 1 rfl (Iv.fz (x := (most689 : Int)) iv723 1)) (ev_var 2 rfl (Iv.fz (x := (spare692 : Int)) iv723 2))) hk) hc728)) hc729)) ea_nil)) h_draws730)) (fun v735 s733 e734 r736 => ?_) sc_l_band.nd
  obtain ⟨es731, q732, hm⟩ := ltE hm
  have iv737 := Iv.sf iv723 6 e734 r736 q732
  obtain ⟨at738, h_at738, hm⟩ := bndE hm
  obtain ⟨hc739, hm⟩ := chkE hm
  refine do_setN 7 (en_listRg1 z_list z_range (ev_add (ev_len z_len (Ev.r (ev_var 5 rfl (Iv.fz (x := (seats_here717 : (List (Tu Str)))) iv737 5)))) (ev_ix (Ev.r (ev_var 6 rfl (Iv.fz (x := (es731 : (List Int))) iv737 6))) ev_int h_at738)) hc739) (fun p744 s742 e743 n745 o746 => ?_) sc_l_band.nd
  obtain ⟨left740, q741, hm⟩ := ltE hm
  have iv747 := Iv.sl iv737 7 e743 n745 o746 q741
  obtain ⟨hc748, hm⟩ := chkE hm
  refine do_setN 8 (en_rep (en_list (xs := ([(0 : Int)] : List Int)) (ee_cons ev_int ee_nil) (by simp [sizeLine])) (fun _ hk => Ev.mono (ev_len z_len (er_raw (xs := (left740 : (List Int))) (raw_var 7 rfl) (Own.r (Iv.ol (xs := (left740 : (List Int))) iv747 7)))) hk) hc748) (fun p753 s751 e752 n754 o755 => ?_) sc_l_band.nd
  obtain ⟨masks749, q750, hm⟩ := ltE hm
  have iv756 := Iv.sl iv747 8 e752 n754 o755 q750
  refine do_setN 9 (en_list (xs := ([] : List Int)) ee_nil (by simp [sizeLine])) (fun p761 s759 e760 n762 o763 => ?_) sc_l_band.nd
  obtain ⟨row757, q758, hm⟩ := ltE hm
  have iv764 := Iv.sl iv756 9 e760 n762 o763 q758
  obtain ⟨hc765, hm⟩ := chkE hm
  obtain ⟨o766, ho767, hm⟩ := bndE hm
  refine do_forO (υ := ((List Int) × (List Int) × (List Int))) PassesOwn.never rfl (ei_range1 z_range (ev_len z_len (Ev.r (ev_var 5 rfl (Iv.fz (x := (seats_here717 : (List (Tu Str)))) iv764 5)))) hc765) (pg_name (i := 10) sc_l_band.nd rfl (by first | exact Or.inl rfl | exact Or.inr rfl)) tg_n ho767 (fun (b768 : ((List Int) × (List Int) × (List Int))) (σ' : L2.St) (t' : S) => ∃ (y_place : Option V) (y_k : Option V), σ' = [some v687, some v690, some v693, some v703, some v712, some v721, some v735, some (.ref p744), some (.ref p753), some (.ref p761), y_k, none, y_place] ∧ Iv K (fun _ => False) s0 t' [fz v687 (script686 : (List Int)), fz v690 (most689 : Int), fz v693 (spare692 : Int), fz v703 (ds699 : (List Int)), fz v712 (tools_here708 : (List Str)), fz v721 (seats_here717 : (List (Tu Str))), fz v735 (es731 : (List Int)), ol p744 (b768.1 : (List Int)), ol p753 (b768.2.2 : (List Int)), ol p761 (b768.2.1 : (List Int)), top, top, top]) (fun s846 k847 => by have iv848 := Iv.ex iv764 k847; exact ⟨_, _, rfl, Iv.sel iv848 [some 0, some 1, some 2, some 3, some 4, some 5, some 6, some 7, some 8, some 9, none, none, none] (by decide +kernel) (by kernel_rfl)⟩) (fun s771 k772 x770 b768 b769 σ781 σ782 t779 t780 hx773 hm774 fl775 hR776 k777 hB778 => ?_) (fun s840 k841 σ842 t843 fl844 hR845 => ?_)
  · have hf783 := Fle.trans k772.f fl775
    obtain ⟨y784, y785, rfl, iv786⟩ := hR776
    obtain ⟨v787, r788, rfl⟩ := hB778
    have iv789 := Iv.ex iv786 k777
    have iv790 := Iv.sf iv789 10 (Ex.refl t780) r788 rfl
    have fl791 := Fle.trans (Fle.refl t780.F) (Ex.refl t780).f
    obtain ⟨at792, h_at792, hm774⟩ := bndE hm774
    obtain ⟨hc793, hm774⟩ := chkE hm774
    obtain ⟨pp794, h_pp794, hm774⟩ := bndE hm774
    refine do_setPop 7 12 rfl (Iv.ol (xs := (b768.1 : (List Int))) iv790 7) (ev_mod (ev_ix (Ev.r (ev_var 6 rfl (Iv.fz (x := (es731 : (List Int))) iv790 6))) (ev_add ev_int (ev_mul ev_int (ev_var 10 rfl (Iv.fz (x := (x770 : Int)) iv790 10)) (Or.inl (Or.inl ⟨by omega, by omega⟩)))) h_at792) (ev_len z_len (er_raw (xs := (b768.1 : (List Int))) (raw_var 7 rfl) (Own.r (Iv.ol (xs := (b768.1 : (List Int))) iv790 7)))) hc793) h_pp794 (fun v798 s795 m796 o797 r799 => ?_) sc_l_band.nd
    have iv800 := Iv.ml iv790 7 m796 o797 rfl
    have fl801 := Fle.trans (Fle.refl t780.F) m796.f
    have iv802 := Iv.sf iv800 12 (Ex.refl s795) r799 rfl
    have fl803 := Fle.trans fl801 (Ex.refl s795).f
    obtain ⟨hc814, hm774⟩ := chkE hm774
    refine do_append 9 rfl (Iv.ol (xs := (b768.2.1 : (List Int))) iv802 9) (ev_var 12 rfl (Iv.fz (x := (pp794.1 : Int)) iv802 12)) hc814 (fun s809 m810 o811 => ?_)
    obtain ⟨row812, q813, hm774⟩ := ltE hm774
    have iv815 := Iv.ml iv802 9 m810 o811 q813
    have fl816 := Fle.trans fl803 m810.f
    obtain ⟨at830, h_at830, hm774⟩ := bndE hm774
    obtain ⟨mask831, h_mask831, hm774⟩ := bndE hm774
    obtain ⟨at832, h_at832, hm774⟩ := bndE hm774
    obtain ⟨at834, h_at834, hm774⟩ := bndE hm774
    obtain ⟨hc835, hm774⟩ := chkE hm774
    obtain ⟨wider836, h_wider836, hm774⟩ := bndE hm774
    obtain ⟨j837, h_j837, hm774⟩ := bndE hm774
    refine do_setItemP (raw_var 8 rfl) (Iv.ol (xs := (b768.2.2 : (List Int))) iv815 8) (ev_call C_l_wider hr (by decide) (ea_cons (ev_call C_l_mask hr (by decide) (ea_cons (ev_ix (Ev.r (ev_var 5 rfl (Iv.fz (x := (seats_here717 : (List (Tu Str)))) iv815 5))) (ev_var 10 rfl (Iv.fz (x := (x770 : Int)) iv815 10)) h_at830) (ea_cons (ev_var 4 rfl (Iv.fz (x := (tools_here708 : (List Str))) iv815 4)) ea_nil)) h_mask831) (ea_cons (ev_mul (ev_ix (Ev.r (ev_var 6 rfl (Iv.fz (x := (es731 : (List Int))) iv815 6))) (ev_add ev_int (ev_mul ev_int (ev_var 10 rfl (Iv.fz (x := (x770 : Int)) iv815 10)) (Or.inl (Or.inl ⟨by omega, by omega⟩)))) h_at832) (ev_intB z_int (EvB.v (eb_eq (ev_ix (Ev.r (ev_var 6 rfl (Iv.fz (x := (es731 : (List Int))) iv815 6))) (ev_add ev_int (ev_mul ev_int (ev_var 10 rfl (Iv.fz (x := (x770 : Int)) iv815 10)) (Or.inl (Or.inl ⟨by omega, by omega⟩)))) h_at834) ev_int))) hc835) ea_nil)) h_wider836) (ev_var 12 rfl (Iv.fz (x := (pp794.1 : Int)) iv815 12)) h_j837 (fun s817 m818 o819 => ?_)
    obtain ⟨ls820, q821, hm774⟩ := ltE hm774
    have iv838 := Iv.ml iv815 8 m818 o819 q821
    have fl839 := Fle.trans fl816 m818.f
    obtain rfl := Option.some.inj hm774
    exact do_nil ⟨s817, rfl, fl839, ⟨_, _, rfl, Iv.sel iv838 [some 0, some 1, some 2, some 3, some 4, some 5, some 6, some 7, some 8, some 9, none, none, none] (by decide +kernel) (by kernel_rfl)⟩⟩
  · have hf849 := Fle.trans k841.f fl844
    obtain ⟨y850, y851, rfl, iv852⟩ := hR845
    obtain ⟨hc853, hm⟩ := chkE hm
    obtain ⟨o854, ho855, hm⟩ := bndE hm
    refine do_forO (υ := (List Int)) PassesOwn.never rfl (ei_range1 z_range (ev_len z_len (er_raw (xs := (o766.1 : (List Int))) (raw_var 7 rfl) (Own.r (Iv.ol (xs := (o766.1 : (List Int))) iv852 7)))) hc853) (pg_name (i := 10) sc_l_band.nd rfl (by first | exact Or.inl rfl | exact Or.inr rfl)) tg_n ho855 (fun (b856 : (List Int)) (σ' : L2.St) (t' : S) => ∃ (y_k : Option V), σ' = [some v687, some v690, some v693, some v703, some v712, some v721, some v735, some (.ref p744), some (.ref p753), some (.ref p761), y_k, none, y850] ∧ Iv K (fun _ => False) s0 t' [fz v687 (script686 : (List Int)), fz v690 (most689 : Int), fz v693 (spare692 : Int), fz v703 (ds699 : (List Int)), fz v712 (tools_here708 : (List Str)), fz v721 (seats_here717 : (List (Tu Str))), fz v735 (es731 : (List Int)), ol p744 (o766.1 : (List Int)), ol p753 (b856 : (List Int)), ol p761 (o766.2.1 : (List Int)), top, top, top]) (fun s895 k896 => by have iv897 := Iv.ex iv852 k896; exact ⟨_, rfl, Iv.sel iv897 [some 0, some 1, some 2, some 3, some 4, some 5, some 6, some 7, some 8, some 9, none, none, none] (by decide +kernel) (by kernel_rfl)⟩) (fun s859 k860 x858 b856 b857 σ869 σ870 t867 t868 hx861 hm862 fl863 hR864 k865 hB866 => ?_) (fun s889 k890 σ891 t892 fl893 hR894 => ?_)
    · have hf871 := Fle.trans k860.f fl863
      obtain ⟨y872, rfl, iv873⟩ := hR864
      obtain ⟨v874, r875, rfl⟩ := hB866
      have iv876 := Iv.ex iv873 k865
      have iv877 := Iv.sf iv876 10 (Ex.refl t868) r875 rfl
      have fl878 := Fle.trans (Fle.refl t868.F) (Ex.refl t868).f
      obtain ⟨at884, h_at884, hm862⟩ := bndE hm862
      obtain ⟨at885, h_at885, hm862⟩ := bndE hm862
      obtain ⟨j886, h_j886, hm862⟩ := bndE hm862
      refine do_setItemP (raw_var 8 rfl) (Iv.ol (xs := (b856 : (List Int))) iv877 8) (ev_ix (Ev.r (ev_var 6 rfl (Iv.fz (x := (es731 : (List Int))) iv877 6))) (ev_add ev_int (ev_mul ev_int (ev_add (ev_len z_len (Ev.r (ev_var 5 rfl (Iv.fz (x := (seats_here717 : (List (Tu Str)))) iv877 5)))) (ev_var 10 rfl (Iv.fz (x := (x858 : Int)) iv877 10))) (Or.inl (Or.inl ⟨by omega, by omega⟩)))) h_at884) (ev_ix (er_raw (xs := (o766.1 : (List Int))) (raw_var 7 rfl) (Own.r (Iv.ol (xs := (o766.1 : (List Int))) iv877 7))) (ev_var 10 rfl (Iv.fz (x := (x858 : Int)) iv877 10)) h_at885) h_j886 (fun s879 m880 o881 => ?_)
      obtain ⟨ls882, q883, hm862⟩ := ltE hm862
      have iv887 := Iv.ml iv877 8 m880 o881 q883
      have fl888 := Fle.trans (Fle.refl t868.F) m880.f
      obtain rfl := Option.some.inj hm862
      exact do_nil ⟨s879, rfl, fl888, ⟨_, rfl, Iv.sel iv887 [some 0, some 1, some 2, some 3, some 4, some 5, some 6, some 7, some 8, some 9, none, none, none] (by decide +kernel) (by kernel_rfl)⟩⟩
    · have hf898 := Fle.trans k890.f fl893
      obtain ⟨y899, rfl, iv900⟩ := hR894
      obtain ⟨hc901, hm⟩ := chkE hm
      obtain ⟨ys923, h_ys923, hm⟩ := bndE hm
      obtain ⟨hc924, hm⟩ := chkE hm
      refine do_setL 11 (en_comp0 (own := [("_law_k", 10)]) (j := 10) (f := fun (x902 : Int) => (bnd (atI o854 x902) fun at920 => (bnd (atI ds699 (1 : Int)) fun at921 => (bnd (m_l_player x902 at920 (x902 % (2 : Int)) tools_here708 at921) fun player922 => (some player922))))) rfl sc_l_band.nd (ei_range1 z_range (ev_len z_len (er_raw (xs := (o854 : (List Int))) (raw_var 8 rfl) (Own.r (Iv.ol (xs := (o854 : (List Int))) iv900 8)))) hc901) (blkOk_by (own := [("_law_k", 10)]) (N := N_l_band) (sc := defScope s_l_band) (by decide +kernel)) rfl (by decide) (fun _ _ _ _ _ => pg_name (i := 10) sc_l_band.nd rfl (by first | exact Or.inl rfl | exact Or.inr rfl)) h_ys923 hc924 (fun x902 y903 v918 s904 hx906 e905 r919 hf907 _ _ _ _ _ => by have z908 := Own.ex (p := p753) (xs := (o854 : (List Int))) (Iv.ol (xs := (o854 : (List Int))) iv900 8) e905; have z914 := Enc.mono e905.f (Iv.fz (v := v703) (x := (ds699 : (List Int))) iv900 3); have z915 := Enc.mono e905.f (Iv.fz (v := v712) (x := (tools_here708 : (List Str))) iv900 4); obtain ⟨at920, h_at920, hf907⟩ := bndE hf907; obtain ⟨at921, h_at921, hf907⟩ := bndE hf907; obtain ⟨player922, h_player922, hf907⟩ := bndE hf907; obtain rfl := Option.some.inj hf907; exact (ev_call C_l_player hr (by decide) (ea_cons (ev_var 10 rfl r919) (ea_cons (ev_ix (er_raw (xs := (o854 : (List Int))) (raw_var 8 rfl) (Own.r z908)) (ev_var 10 rfl r919) h_at920) (ea_cons (ev_mod (ev_var 10 rfl r919) ev_int (by decide)) (ea_cons (ev_var 4 rfl z915) (ea_cons (ev_ix (Ev.r (ev_var 3 rfl z914)) ev_int h_at921) ea_nil))))) h_player922))) (fun p931 s927 e928 n932 o933 => ?_) rfl rfl
      obtain ⟨s934, hs935, e936, r930⟩ := frz_ex e928 n932 o933
      rw [← hs935]
      obtain ⟨players925, q926, hm⟩ := ltE hm
      have iv937 := Iv.sf iv900 11 e936 r930 q926
      refine do_frzI iv937 9 rfl fun s938 hf939 iv940 => ?_
      obtain rfl := Option.some.inj hm
      exact do_ret (ev_t3 (ea_cons (ev_var 11 rfl (Iv.fz (x := (players925 : (List (Str × (Tu Str))))) iv940 11)) (ea_cons (ev_var 5 rfl (Iv.fz (x := (seats_here717 : (List (Tu Str)))) iv940 5)) (ea_cons (ev_var 9 rfl (Iv.fz (x := (o766.2.1 : (List Int))) iv940 9)) ea_nil)))) fun v941 s942 e943 r944 => hQ _ _ (Ex.trans (Iv.exx iv940) e943) r944
abbrev s_l_strange : Stmt := topS 42
abbrev N_l_strange : List Str := ["_law_cell", "_law_players", "_law_ill_here", "_law_ds", "_law_many", "_law_strange_here", "_law_at", "_law_bad", "_law_again"]
theorem sc_l_strange : FnScope N_l_strange ["_law_cell", "_law_players", "_law_ill_here"] (defScope s_l_strange) := ⟨rfl, rfl, rfl, by decide +kernel, rfl, by decide +kernel, by decide +kernel⟩
noncomputable def m_l_strange (cell945 : Int) (players948 : (List (Str × (Tu Str)))) (ill_here951 : (List Int)) : Option (List Int) :=
 (bnd (m_l_draws cell945 ([(4 : Int), (8 : Int), (3 : Int), (8 : Int), (3 : Int)] : List Int)) fun draws955 => (lt (draws955 : (List Int)) fun ds956 =>
 (lt (((players948).length : Int) : Int) fun many963 =>
 (lt (([(-(1 : Int)), many963, (many963 + ((10 : Int) ^ ((58 : Int)).toNat))] : List Int) : (List Int)) fun strange_here970 =>
 (bnd (atI ds956 (1 : Int)) fun at977 => (chk (0 < (((ill_here951).length : Int) + (1 : Int))) (lt ((at977 % (((ill_here951).length : Int) + (1 : Int))) : Int) fun at979 =>
 (bnd (atI ds956 (0 : Int)) fun at987 => (if (decide (at987 = (0 : Int))) = true then
 (bnd (atI ds956 (2 : Int)) fun at993 => (bnd (atI strange_here970 at993) fun at994 => (chk (((cut ill_here951 none (some at979))).length + (([at994] : List Int)).length ≤ sizeLine) (chk ((((cut ill_here951 none (some at979)) ++ ([at994] : List Int))).length + ((cut ill_here951 (some at979) none)).length ≤ sizeLine) (some (((cut ill_here951 none (some at979)) ++ ([at994] : List Int)) ++ (cut ill_here951 (some at979) none)))))))
 else
 (bnd (atI ds956 (0 : Int)) fun at1007 => (if (decide (at1007 = (1 : Int))) = true then
 (bnd (atI ds956 (2 : Int)) fun at1013 => (bnd (atI strange_here970 at1013) fun at1014 => (chk (((cut ill_here951 none (some at979))).length + (([at1014] : List Int)).length ≤ sizeLine) (chk ((((cut ill_here951 none (some at979)) ++ ([at1014] : List Int))).length + ((cut ill_here951 (some at979) none)).length ≤ sizeLine) (lt ((((cut ill_here951 none (some at979)) ++ ([at1014] : List Int)) ++ (cut ill_here951 (some at979) none)) : (List Int)) fun bad1017 =>
 (bnd (atI ds956 (3 : Int)) fun at1024 => (chk (0 < (((bad1017).length : Int) + (1 : Int))) (lt ((at1024 % (((bad1017).length : Int) + (1 : Int))) : Int) fun again1026 =>
 (bnd (atI ds956 (4 : Int)) fun at1033 => (bnd (atI strange_here970 at1033) fun at1034 => (chk (((cut bad1017 none (some again1026))).length + (([at1034] : List Int)).length ≤ sizeLine) (chk ((((cut bad1017 none (some again1026)) ++ ([at1034] : List Int))).length + ((cut bad1017 (some again1026) none)).length ≤ sizeLine) (some (((cut bad1017 none (some again1026)) ++ ([at1034] : List Int)) ++ (cut bad1017 (some again1026) none)))))))))))))))
 else
 (some ill_here951))))))))))))
noncomputable abbrev a_l_strange : Int × (List (Str × (Tu Str))) × (List Int) × Unit → Option (List Int) := fun a => m_l_strange a.1 a.2.1 a.2.2.1
theorem ok_l_strange {P : Program} {w : World} {K : PySem.W.Frag} {mg : Str → Option Value} {base : Heap} {f : Addr} {fd : FuncData} (F : FunP K "_law_strange" s_l_strange f fd) (hmg : mg "_law_strange" = some (.ref f)) (C_l_draws : Cal P w K mg base CX0 1 "_law_draws" (spN K a_l_draws)) (z_len : mg "len" = none) : Cal P w K mg base CX0 2 "_law_strange" (sp K a_l_strange) := by
  refine mk_cal (k := 1) F hmg (F.bindsN fun _ _ _ _ _ _ us hl => match us, hl with | [_, _, _], _ => rfl) sc_l_strange len3 ?_
  rintro cdv A' outer sh0 H0 X0 hr s0 vs ⟨cell945, players948, ill_here951, _⟩ r0 Q ⟨v946, _, rfl, r947, v949, _, rfl, r950, v952, _, rfl, r953, rfl⟩ hm hQ
  unfold a_l_strange m_l_strange at hm
  dsimp only at hm
  have iv954 : Iv K (fun _ => False) s0 s0 [fz v946 (cell945 : Int), fz v949 (players948 : (List (Str × (Tu Str)))), fz v952 (ill_here951 : (List Int)), top, top, top, top, top, top] := (Iv.sf (Iv.sf (Iv.sf (Iv.tops (K := K) (P0 := (fun _ => False)) 9 s0) 0 (Ex.refl s0) r947 rfl) 1 (Ex.refl s0) r950 rfl) 2 (Ex.refl s0) r953 rfl)
  obtain ⟨draws955, h_draws955, hm⟩ := bndE hm
  refine do_set 3 (EvN.ev (en_call C_l_draws hr (by decide) (ea_cons (ev_var 0 rfl (Iv.fz (x := (cell945 : Int)) iv954 0)) (ea_cons (EvN.ev (en_list (xs := ([(4 : Int), (8 : Int), (3 : Int), (8 : Int), (3 : Int)] : List Int)) (ee_cons ev_int (ee_cons ev_int (ee_cons ev_int (ee_cons ev_int (ee_cons ev_int ee_nil))))) (by simp [sizeLine]))) ea_nil)) h_draws955)) (fun v960 s958 e959 r961 => ?_) sc_l_strange.nd
  obtain ⟨ds956, q957, hm⟩ := ltE hm
  have iv962 := Iv.sf iv954 3 e959 r961 q957
  refine do_set 4 (ev_len z_len (Ev.r (ev_var 1 rfl (Iv.fz (x := (players948 : (List (Str × (Tu Str))))) iv962 1)))) (fun v967 s965 e966 r968 => ?_) sc_l_strange.nd
  obtain ⟨many963, q964, hm⟩ := ltE hm
  have iv969 := Iv.sf iv962 4 e966 r968 q964
  refine do_set 5 (EvN.ev (en_list (xs := ([(-(1 : Int)), many963, (many963 + ((10 : Int) ^ ((58 : Int)).toNat))] : List Int)) (ee_cons (ev_neg ev_int) (ee_cons (ev_var 4 rfl (Iv.fz (x := (many963 : Int)) iv969 4)) (ee_cons (ev_add (ev_var 4 rfl (Iv.fz (x := (many963 : Int)) iv969 4)) (ev_pow ev_int ev_int ⟨by decide, by decide, by decide⟩)) ee_nil))) (by simp [sizeLine]))) (fun v974 s972 e973 r975 => ?_) sc_l_strange.nd
  obtain ⟨strange_here970, q971, hm⟩ := ltE hm
  have iv976 := Iv.sf iv969 5 e973 r975 q971
  obtain ⟨at977, h_at977, hm⟩ := bndE hm
  obtain ⟨hc978, hm⟩ := chkE hm
  refine do_set 6 (ev_mod (ev_ix (Ev.r (ev_var 3 rfl (Iv.fz (x := (ds956 : (List Int))) iv976 3))) ev_int h_at977) (ev_add (ev_len z_len (Ev.r (ev_var 2 rfl (Iv.fz (x := (ill_here951 : (List Int))) iv976 2)))) ev_int) hc978) (fun v983 s981 e982 r984 => ?_) sc_l_strange.nd
  obtain ⟨at979, q980, hm⟩ := ltE hm
  have iv985 := Iv.sf iv976 6 e982 r984 q980
  obtain ⟨at987, h_at987, hm⟩ := bndE hm
  refine do_ifR (EvB.t (eb_eq (ev_ix (Ev.r (ev_var 3 rfl (Iv.fz (x := (ds956 : (List Int))) iv985 3))) ev_int h_at987) ev_int)) (fun hb988 s989 e990 => ?_) (fun hb1001 s1002 e1003 => ?_)
  · have hm991 := iteE1 hm hb988
    have iv992 := Iv.ex iv985 e990
    obtain ⟨at993, h_at993, hm991⟩ := bndE hm991
    obtain ⟨at994, h_at994, hm991⟩ := bndE hm991
    obtain ⟨hc995, hm991⟩ := chkE hm991
    obtain ⟨hc996, hm991⟩ := chkE hm991
    obtain rfl := Option.some.inj hm991
    exact do_ret (EvN.ev (en_cat (EvN.r (en_cat (EvN.r (en_slice (Ev.r (ev_var 2 rfl (Iv.fz (x := (ill_here951 : (List Int))) iv992 2))) eo_none (eo_some (ev_var 6 rfl (Iv.fz (x := (at979 : Int)) iv992 6))))) (EvN.r (en_list (xs := ([at994] : List Int)) (ee_cons (ev_ix (Ev.r (ev_var 5 rfl (Iv.fz (x := (strange_here970 : (List Int))) iv992 5))) (ev_ix (Ev.r (ev_var 3 rfl (Iv.fz (x := (ds956 : (List Int))) iv992 3))) ev_int h_at993) h_at994) ee_nil) (by simp [sizeLine]))) hc995)) (EvN.r (en_slice (Ev.r (ev_var 2 rfl (Iv.fz (x := (ill_here951 : (List Int))) iv992 2))) (eo_some (ev_var 6 rfl (Iv.fz (x := (at979 : Int)) iv992 6))) eo_none)) hc996)) fun v997 s998 e999 r1000 => hQ _ _ (Ex.trans (Iv.exx iv992) e999) r1000
  · have hm1004 := iteE2 hm hb1001
    have iv1005 := Iv.ex iv985 e1003
    obtain ⟨at1007, h_at1007, hm1004⟩ := bndE hm1004
    refine do_ifR (EvB.t (eb_eq (ev_ix (Ev.r (ev_var 3 rfl (Iv.fz (x := (ds956 : (List Int))) iv1005 3))) ev_int h_at1007) ev_int)) (fun hb1008 s1009 e1010 => ?_) (fun hb1041 s1042 e1043 => ?_)
    · have hm1011 := iteE1 hm1004 hb1008
      have iv1012 := Iv.ex iv1005 e1010
      obtain ⟨at1013, h_at1013, hm1011⟩ := bndE hm1011
      obtain ⟨at1014, h_at1014, hm1011⟩ := bndE hm1011
      obtain ⟨hc1015, hm1011⟩ := chkE hm1011
      obtain ⟨hc1016, hm1011⟩ := chkE hm1011
      refine do_set 7 (EvN.ev (en_cat (EvN.r (en_cat (EvN.r (en_slice (Ev.r (ev_var 2 rfl (Iv.fz (x := (ill_here951 : (List Int))) iv1012 2))) eo_none (eo_some (ev_var 6 rfl (Iv.fz (x := (at979 : Int)) iv1012 6))))) (EvN.r (en_list (xs := ([at1014] : List Int)) (ee_cons (ev_ix (Ev.r (ev_var 5 rfl (Iv.fz (x := (strange_here970 : (List Int))) iv1012 5))) (ev_ix (Ev.r (ev_var 3 rfl (Iv.fz (x := (ds956 : (List Int))) iv1012 3))) ev_int h_at1013) h_at1014) ee_nil) (by simp [sizeLine]))) hc1015)) (EvN.r (en_slice (Ev.r (ev_var 2 rfl (Iv.fz (x := (ill_here951 : (List Int))) iv1012 2))) (eo_some (ev_var 6 rfl (Iv.fz (x := (at979 : Int)) iv1012 6))) eo_none)) hc1016)) (fun v1021 s1019 e1020 r1022 => ?_) sc_l_strange.nd
      obtain ⟨bad1017, q1018, hm1011⟩ := ltE hm1011
      have iv1023 := Iv.sf iv1012 7 e1020 r1022 q1018
      obtain ⟨at1024, h_at1024, hm1011⟩ := bndE hm1011
      obtain ⟨hc1025, hm1011⟩ := chkE hm1011
      refine do_set 8 (ev_mod (ev_ix (Ev.r (ev_var 3 rfl (Iv.fz (x := (ds956 : (List Int))) iv1023 3))) ev_int h_at1024) (ev_add (ev_len z_len (Ev.r (ev_var 7 rfl (Iv.fz (x := (bad1017 : (List Int))) iv1023 7)))) ev_int) hc1025) (fun v1030 s1028 e1029 r1031 => ?_) sc_l_strange.nd
      obtain ⟨again1026, q1027, hm1011⟩ := ltE hm1011
      have iv1032 := Iv.sf iv1023 8 e1029 r1031 q1027
      obtain ⟨at1033, h_at1033, hm1011⟩ := bndE hm1011
      obtain ⟨at1034, h_at1034, hm1011⟩ := bndE hm1011
      obtain ⟨hc1035, hm1011⟩ := chkE hm1011
      obtain ⟨hc1036, hm1011⟩ := chkE hm1011
      obtain rfl := Option.some.inj hm1011
      exact do_ret (EvN.ev (en_cat (EvN.r (en_cat (EvN.r (en_slice (Ev.r (ev_var 7 rfl (Iv.fz (x := (bad1017 : (List Int))) iv1032 7))) eo_none (eo_some (ev_var 8 rfl (Iv.fz (x := (again1026 : Int)) iv1032 8))))) (EvN.r (en_list (xs := ([at1034] : List Int)) (ee_cons (ev_ix (Ev.r (ev_var 5 rfl (Iv.fz (x := (strange_here970 : (List Int))) iv1032 5))) (ev_ix (Ev.r (ev_var 3 rfl (Iv.fz (x := (ds956 : (List Int))) iv1032 3))) ev_int h_at1033) h_at1034) ee_nil) (by simp [sizeLine]))) hc1035)) (EvN.r (en_slice (Ev.r (ev_var 7 rfl (Iv.fz (x := (bad1017 : (List Int))) iv1032 7))) (eo_some (ev_var 8 rfl (Iv.fz (x := (again1026 : Int)) iv1032 8))) eo_none)) hc1036)) fun v1037 s1038 e1039 r1040 => hQ _ _ (Ex.trans (Iv.exx iv1032) e1039) r1040
    · have hm1044 := iteE2 hm1004 hb1041
      have iv1045 := Iv.ex iv1005 e1043
      obtain rfl := Option.some.inj hm1044
      exact do_ret (ev_var 2 rfl (Iv.fz (x := (ill_here951 : (List Int))) iv1045 2)) fun v1046 s1047 e1048 r1049 => hQ _ _ (Ex.trans (Iv.exx iv1045) e1048) r1049
abbrev s_l_ill : Stmt := topS 38
abbrev N_l_ill : List Str := ["_law_cell", "_law_many", "_law_ds", "_law_ill_here", "_law_k"]
theorem sc_l_ill : FnScope N_l_ill ["_law_cell", "_law_many"] (defScope s_l_ill) := ⟨rfl, rfl, rfl, by decide +kernel, rfl, by decide +kernel, by decide +kernel⟩
noncomputable def m_l_ill (cell1050 : Int) (many1053 : Int) : Option (List Int) :=
 (chk (RepOk (40 : Int) (([(5 : Int)] : List Int)).length) (chk ((([(4 : Int)] : List Int)).length + ((repl (40 : Int) ([(5 : Int)] : List Int))).length ≤ sizeLine) (bnd (m_l_draws cell1050 (([(4 : Int)] : List Int) ++ (repl (40 : Int) ([(5 : Int)] : List Int)))) fun draws1061 => (lt (draws1061 : (List Int)) fun ds1062 =>
 (chk (RgB many1053) (bnd (compO (fun (x1070 : Int) => (bnd (atI ds1062 ((1 : Int) + x1070)) fun at1081 => (bnd (atI ds1062 (0 : Int)) fun at1082 => (bnd (atI ([(0 : Int), (0 : Int), (1 : Int), (2 : Int)] : List Int) at1082) fun at1083 => (some (decide (at1081 ≤ at1083))))))) (fun (x1070 : Int) => (some x1070)) (rng 0 many1053)) fun ys1084 => (chk ((ys1084).length ≤ sizeLine) (lt (ys1084 : (List Int)) fun ill_here1087 =>
 (bnd (atI ds1062 (0 : Int)) fun at1101 => (bnd (if (decide ((at1101 % (2 : Int)) = (1 : Int))) = true then
 (chk (((ill_here1087).reverse).length + ((cut ill_here1087 none (some (1 : Int)))).length ≤ sizeLine) (lt (((ill_here1087).reverse ++ (cut ill_here1087 none (some (1 : Int)))) : (List Int)) fun ill_here1129 =>
 (some ill_here1129)))
 else
 (some ill_here1087) : Option ((List Int))) fun b1120 =>
 (some b1120)))))))))))
noncomputable abbrev a_l_ill : Int × Int × Unit → Option (List Int) := fun a => m_l_ill a.1 a.2.1
theorem ok_l_ill {P : Program} {w : World} {K : PySem.W.Frag} {mg : Str → Option Value} {base : Heap} {f : Addr} {fd : FuncData} (F : FunP K "_law_ill" s_l_ill f fd) (hmg : mg "_law_ill" = some (.ref f)) (C_l_draws : Cal P w K mg base CX0 1 "_law_draws" (spN K a_l_draws)) (z_range : mg "range" = none) : Cal P w K mg base CX0 2 "_law_ill" (sp K a_l_ill) := by
  refine mk_cal (k := 1) F hmg (F.bindsN fun _ _ _ _ _ _ us hl => match us, hl with | [_, _], _ => rfl) sc_l_ill len2 ?_
  rintro cdv A' outer sh0 H0 X0 hr s0 vs ⟨cell1050, many1053, _⟩ r0 Q ⟨v1051, _, rfl, r1052, v1054, _, rfl, r1055, rfl⟩ hm hQ
  unfold a_l_ill m_l_ill at hm
  dsimp only at hm
  have iv1056 : Iv K (fun _ => False) s0 s0 [fz v1051 (cell1050 : Int), fz v1054 (many1053 : Int), top, top, top] := (Iv.sf (Iv.sf (Iv.tops (K := K) (P0 := (fun _ => False)) 5 s0) 0 (Ex.refl s0) r1052 rfl) 1 (Ex.refl s0) r1055 rfl)
  obtain ⟨hc1059, hm⟩ := chkE hm
  obtain ⟨hc1060, hm⟩ := chkE hm
  obtain ⟨draws1061, h_draws1061, hm⟩ := bndE hm
  refine do_set 2 (EvN.ev (en_call C_l_draws hr (by decide) (ea_cons (ev_var 0 rfl (Iv.fz (x := (cell1050 : Int)) iv1056 0)) (ea_cons (EvN.ev (en_cat (EvN.r (en_list (xs := ([(4 : Int)] : List Int)) (ee_cons ev_int ee_nil) (by simp [sizeLine]))) (EvN.r (en_rep (en_list (xs := ([(5 : Int)] : List Int)) (ee_cons ev_int ee_nil) (by simp [sizeLine])) (fun _ hk => Ev.mono ev_int hk) hc1059)) hc1060)) ea_nil)) h_draws1061)) (fun v1066 s1064 e1065 r1067 => ?_) sc_l_ill.nd
  obtain ⟨ds1062, q1063, hm⟩ := ltE hm
  have iv1068 := Iv.sf iv1056 2 e1065 r1067 q1063
  obtain ⟨hc1069, hm⟩ := chkE hm
  obtain ⟨ys1084, h_ys1084, hm⟩ := bndE hm
  obtain ⟨hc1085, hm⟩ := chkE hm
  refine do_setL 3 (en_comp1 (own := [("_law_k", 4)]) (j := 4) (t := fun (x1070 : Int) => (bnd (atI ds1062 ((1 : Int) + x1070)) fun at1081 => (bnd (atI ds1062 (0 : Int)) fun at1082 => (bnd (atI ([(0 : Int), (0 : Int), (1 : Int), (2 : Int)] : List Int) at1082) fun at1083 => (some (decide (at1081 ≤ at1083))))))) (f := fun (x1070 : Int) => (some x1070)) rfl sc_l_ill.nd (ei_range1 z_range (ev_var 1 rfl (Iv.fz (x := (many1053 : Int)) iv1068 1)) hc1069) (blkOk_by (own := [("_law_k", 4)]) (N := N_l_ill) (sc := defScope s_l_ill) (by decide +kernel)) rfl (by decide) (fun _ _ _ _ _ => pg_name (i := 4) sc_l_ill.nd rfl (by first | exact Or.inl rfl | exact Or.inr rfl)) h_ys1084 hc1085 (fun x1070 y1071 v1079 s1072 hx1074 e1073 r1080 hf1075 _ _ _ _ _ => by have z1078 := Enc.mono e1073.f (Iv.fz (v := v1066) (x := (ds1062 : (List Int))) iv1068 2); obtain ⟨at1081, h_at1081, hf1075⟩ := bndE hf1075; obtain ⟨at1082, h_at1082, hf1075⟩ := bndE hf1075; obtain ⟨at1083, h_at1083, hf1075⟩ := bndE hf1075; obtain rfl := Option.some.inj hf1075; exact (EvB.t (eb_le (ev_ix (Ev.r (ev_var 2 rfl z1078)) (ev_add ev_int (ev_var 4 rfl r1080)) h_at1081) (ev_ix (EvN.r (en_list (xs := ([(0 : Int), (0 : Int), (1 : Int), (2 : Int)] : List Int)) (ee_cons ev_int (ee_cons ev_int (ee_cons ev_int (ee_cons ev_int ee_nil)))) (by simp [sizeLine]))) (ev_ix (Ev.r (ev_var 2 rfl z1078)) ev_int h_at1082) h_at1083)))) (fun x1070 y1071 v1079 s1072 hx1074 e1073 r1080 ht1086 hf1075 _ _ _ _ _ => by obtain rfl := Option.some.inj hf1075; exact (ev_var 4 rfl r1080))) (fun p1093 s1089 e1090 n1094 o1095 => ?_) rfl rfl
  obtain ⟨s1096, hs1097, e1098, r1092⟩ := frz_ex e1090 n1094 o1095
  rw [← hs1097]
  obtain ⟨ill_here1087, q1088, hm⟩ := ltE hm
  have iv1099 := Iv.sf iv1068 3 e1098 r1092 q1088
  obtain ⟨at1101, h_at1101, hm⟩ := bndE hm
  obtain ⟨b1120, hj1121, hm⟩ := bndE hm
  refine do_if (EvB.t (eb_eq (ev_mod (ev_ix (Ev.r (ev_var 2 rfl (Iv.fz (x := (ds1062 : (List Int))) iv1099 2))) ev_int h_at1101) ev_int (by decide)) ev_int)) (fun (σ' : L2.St) (t' : S) => Fle s1096.F t'.F ∧ ∃ (v_ill_here : V), σ' = [some v1051, some v1054, some v1066, some v_ill_here, none] ∧ Iv K (fun _ => False) s0 t' [fz v1051 (cell1050 : Int), fz v1054 (many1053 : Int), fz v1066 (ds1062 : (List Int)), fz v_ill_here (b1120 : (List Int)), top]) (fun hb1122 s1123 e1124 => ?_) (fun hb1137 s1138 e1139 => ?_) (fun σ1143 s1144 hM1145 => ?_)
  · have hm1125 := iteE1 hj1121 hb1122
    have iv1126 := Iv.ex iv1099 e1124
    have fl1127 := Fle.trans (Fle.refl s1096.F) e1124.f
    obtain ⟨hc1128, hm1125⟩ := chkE hm1125
    refine do_set 3 (EvN.ev (en_cat (EvN.r (en_rev (Ev.r (ev_var 3 rfl (Iv.fz (x := (ill_here1087 : (List Int))) iv1126 3))))) (EvN.r (en_slice (Ev.r (ev_var 3 rfl (Iv.fz (x := (ill_here1087 : (List Int))) iv1126 3))) eo_none (eo_some ev_int))) hc1128)) (fun v1133 s1131 e1132 r1134 => ?_) sc_l_ill.nd
    obtain ⟨ill_here1129, q1130, hm1125⟩ := ltE hm1125
    have iv1135 := Iv.sf iv1126 3 e1132 r1134 q1130
    have fl1136 := Fle.trans fl1127 e1132.f
    obtain rfl := Option.some.inj hm1125
    exact do_nil ⟨s1131, rfl, fl1136, ⟨v1133, rfl, Iv.sel iv1135 [some 0, some 1, some 2, some 3, none] (by decide +kernel) (by kernel_rfl)⟩⟩
  · have hm1140 := iteE2 hj1121 hb1137
    have iv1141 := Iv.ex iv1099 e1139
    have fl1142 := Fle.trans (Fle.refl s1096.F) e1139.f
    obtain rfl := Option.some.inj hm1140
    exact do_nil ⟨s1138, rfl, fl1142, ⟨(V.ref p1093), rfl, Iv.sel iv1141 [some 0, some 1, some 2, some 3, none] (by decide +kernel) (by kernel_rfl)⟩⟩
  · obtain ⟨hf1146, hR1147⟩ := hM1145
    obtain ⟨v1148, rfl, iv1149⟩ := hR1147
    obtain rfl := Option.some.inj hm
    exact do_ret (ev_var 3 rfl (Iv.fz (x := (b1120 : (List Int))) iv1149 3)) fun v1150 s1151 e1152 r1153 => hQ _ _ (Ex.trans (Iv.exx iv1149) e1152) r1153
abbrev s_can_sit : Stmt := topS 16
abbrev N_can_sit : List Str := ["player", "seat", "one"]
theorem sc_can_sit : FnScope N_can_sit ["player", "seat"] (defScope s_can_sit) := ⟨rfl, rfl, rfl, by decide +kernel, rfl, by decide +kernel, by decide +kernel⟩
noncomputable def m_can_sit (player1154 : (Str × (Tu Str))) (seat1157 : (Tu Str)) : Option Bool :=
 (bnd (foldF (ρ := Bool) (fun (b1163 : Unit) (x1165 : Str) =>
 (if (!decide (x1165 ∈ ((player1154).2).l)) = true then
 (some (Fl.rt false))
 else
 (some (Fl.nx ())))) () (seat1157).l) fun o1161 =>
 (Fl.go o1161 (fun b1213 => (some true)) (fun rr => (some rr))))
noncomputable abbrev a_can_sit : (Str × (Tu Str)) × (Tu Str) × Unit → Option Bool := fun a => m_can_sit a.1 a.2.1
theorem ok_can_sit {P : Program} {w : World} {K : PySem.W.Frag} {mg : Str → Option Value} {base : Heap} {f : Addr} {fd : FuncData} (F : FunP K "can_sit" s_can_sit f fd) (hmg : mg "can_sit" = some (.ref f))  : Cal P w K mg base CX0 1 "can_sit" (sp K a_can_sit) := by
  refine mk_cal (k := 0) F hmg (F.bindsN fun _ _ _ _ _ _ us hl => match us, hl with | [_, _], _ => rfl) sc_can_sit len2 ?_
  rintro cdv A' outer sh0 H0 X0 hr s0 vs ⟨player1154, seat1157, _⟩ r0 Q ⟨v1155, _, rfl, r1156, v1158, _, rfl, r1159, rfl⟩ hm hQ
  unfold a_can_sit m_can_sit at hm
  dsimp only at hm
  have iv1160 : Iv K (fun _ => False) s0 s0 [fz v1155 (player1154 : (Str × (Tu Str))), fz v1158 (seat1157 : (Tu Str)), top] := (Iv.sf (Iv.sf (Iv.tops (K := K) (P0 := (fun _ => False)) 3 s0) 0 (Ex.refl s0) r1156 rfl) 1 (Ex.refl s0) r1159 rfl)
  obtain ⟨o1161, ho1162, hm⟩ := bndE hm
  refine do_forF (ρ := Bool) (υ := Unit) PassesOwn.never rfl (ei_tup (ev_var 1 rfl (Iv.fz (x := (seat1157 : (Tu Str))) iv1160 1))) (pg_name (i := 2) sc_can_sit.nd rfl (by first | exact Or.inl rfl | exact Or.inr rfl)) tg_n ho1162 (fun (b1163 : Unit) (σ' : L2.St) (t' : S) => ∃ (y_one : Option V), σ' = [some v1155, some v1158, y_one] ∧ Iv K (fun _ => False) s0 t' [fz v1155 (player1154 : (Str × (Tu Str))), fz v1158 (seat1157 : (Tu Str)), top]) (fun s1210 k1211 => by have iv1212 := Iv.ex iv1160 k1211; exact ⟨_, rfl, Iv.sel iv1212 [some 0, some 1, none] (by decide +kernel) (by kernel_rfl)⟩) (fun s1166 k1167 x1165 b1163 q1186 σ1176 σ1177 t1174 t1175 hx1168 hm1169 hq1187 fl1170 hR1171 k1172 hB1173 => ?_) (fun s1204 k1205 b1213 σ1206 t1207 ho1214 fl1208 hR1209 => ?_)
  · have hf1178 := Fle.trans k1167.f fl1170
    obtain ⟨y1179, rfl, iv1180⟩ := hR1171
    obtain ⟨v1181, r1182, rfl⟩ := hB1173
    have iv1183 := Iv.ex iv1180 k1172
    have iv1184 := Iv.sf iv1183 2 (Ex.refl t1175) r1182 rfl
    have fl1185 := Fle.trans (Fle.refl t1175.F) (Ex.refl t1175).f
    refine do_ifR (EvB.t (eb_notInT (ev_var 2 rfl (Iv.fz (x := (x1165 : Str)) iv1184 2)) (ev_ixP (ev_var 0 rfl (Iv.fz (x := (player1154 : (Str × (Tu Str)))) iv1184 0)) ev_int p2_1))) (fun hb1188 s1189 e1190 => ?_) (fun hb1198 s1199 e1200 => ?_)
    · have hm1191 := iteE1 hm1169 hb1188
      have iv1192 := Iv.ex iv1184 e1190
      have fl1193 := Fle.trans (Fle.refl t1175.F) e1190.f
      obtain rfl := Option.some.inj hm1191
      obtain rfl := hq1187 _ rfl
      obtain rfl := Option.some.inj hm
      exact do_ret ev_bl fun v1194 s1195 e1196 r1197 => hQ _ _ (Ex.trans (Iv.exx iv1192) e1196) r1197
    · have hm1201 := iteE2 hm1169 hb1198
      have iv1202 := Iv.ex iv1184 e1200
      have fl1203 := Fle.trans (Fle.refl t1175.F) e1200.f
      obtain rfl := Option.some.inj hm1201
      exact do_nil ⟨s1199, rfl, _, rfl, fl1203, ⟨_, rfl, Iv.sel iv1202 [some 0, some 1, none] (by decide +kernel) (by kernel_rfl)⟩⟩
  · subst ho1214
    replace hm := goN hm
    have hf1215 := Fle.trans k1205.f fl1208
    obtain ⟨y1216, rfl, iv1217⟩ := hR1209
    obtain rfl := Option.some.inj hm
    exact do_ret ev_bl fun v1218 s1219 e1220 r1221 => hQ _ _ (Ex.trans (Iv.exx iv1217) e1220) r1221
abbrev s_road_from : Stmt := topS 19
def pre_road_from : List V → (List (Str × (Tu Str))) × (List (Tu Str)) × (List (Int × Int)) × Int × Unit → List OA → List OA → Prop := fun vs x L R => ∃ (aplayers : V) (aseats : V) (aowners : Addr) (afirst : V), vs = [aplayers, aseats, (.ref aowners), afirst] ∧ L = [fz aplayers (x.1 : (List (Str × (Tu Str)))), fz aseats (x.2.1 : (List (Tu Str))), fz afirst (x.2.2.2.1 : Int)] ∧ R = [od aowners (x.2.2.1 : (List (Int × Int)))]
def ok_road_from : List V → (List (Str × (Tu Str))) × (List (Tu Str)) × (List (Int × Int)) × Int × Unit → ((T3 (Option Int) (List (Int × Int)) (List Int))) → V → List OA → Prop := fun vs x r v L' => ∃ (aplayers : V) (aseats : V) (aowners : Addr) (afirst : V), vs = [aplayers, aseats, (.ref aowners), afirst] ∧ (∃ (bres : Addr) (bres_0 : V) (bres_1 : Addr) (bres_2 : Addr), v = (.ref bres) ∧ L' = [tc bres [bres_0, (.ref bres_1), (.ref bres_2)], fz bres_0 (r.a : (Option Int)), od bres_1 (r.b : (List (Int × Int))), ol bres_2 (r.c : (List Int))])
abbrev N_road_from : List Str := ["players", "seats", "owners", "first", "ahead", "reached", "at", "k"]
theorem sc_road_from : FnScope N_road_from ["players", "seats", "owners", "first"] (defScope s_road_from) := ⟨rfl, rfl, rfl, by decide +kernel, rfl, by decide +kernel, by decide +kernel⟩
noncomputable def m_road_from (players1222 : (List (Str × (Tu Str)))) (seats1223 : (List (Tu Str))) (owners1224 : (List (Int × Int))) (first1225 : Int) : Option ((T3 (Option Int) (List (Int × Int)) (List Int))) :=
 (lt (([first1225] : List Int) : (List Int)) fun reached1236 =>
 (lt ((0 : Int) : Int) fun at1244 =>
 (bnd (whileF (ρ := ((T3 (Option Int) (List (Int × Int)) (List Int)))) (fun (b1253 : ((List (Int × Int)) × (List Int) × Int)) => (some (decide (b1253.2.2 < ((b1253.2.1).length : Int))))) (fun (b1253 : ((List (Int × Int)) × (List Int) × Int)) =>
 (chk (RgB ((players1222).length : Int)) (bnd (foldF (ρ := ((T3 (Option Int) (List (Int × Int)) (List Int)))) (fun (b1281 : ((List (Int × Int)) × (List Int))) (x1283 : Int) =>
 (bnd (andO (!(dval b1281.1 x1283).isSome) (bnd (atI players1222 x1283) fun at1309 => (bnd (atI b1281.2 b1253.2.2) fun at1310 => (bnd (atI seats1223 at1310) fun at1311 => (bnd (m_can_sit at1309 at1311) fun can_sit1312 => (some can_sit1312)))))) fun c1313 => (bnd (if c1313 = true then
 (bnd (atI b1281.2 b1253.2.2) fun at1378 => (chk ((b1281.1).length < sizeLine) (lt ((dput b1281.1 x1283 at1378) : (List (Int × Int))) fun kv1376 =>
 (if (!(dval owners1224 x1283).isSome) = true then
 (some (Fl.rt (⟨(some x1283), kv1376, b1281.2⟩ : (T3 (Option Int) (List (Int × Int)) (List Int)))))
 else
 (bnd (dval owners1224 x1283) fun got1413 => (chk ((b1281.2).length < sizeLine) (lt ((b1281.2 ++ [got1413]) : (List Int)) fun reached1411 =>
 (some (Fl.nx (kv1376, reached1411))))))))))
 else
 (some (Fl.nx (b1281.1, b1281.2))) : Option (Fl ((List (Int × Int)) × (List Int)) ((T3 (Option Int) (List (Int × Int)) (List Int))))) fun b1364 =>
 (Fl.go b1364 (fun b1431 => (some (Fl.nx (b1431.1, b1431.2)))) (fun rr => (some (Fl.rt rr))))))) (b1253.1, b1253.2.1) (rng 0 ((players1222).length : Int))) fun o1279 =>
 (Fl.go o1279 (fun b1444 => (lt ((b1253.2.2 + (1 : Int)) : Int) fun at1450 =>
 (some (Fl.nx (b1444.1, b1444.2, at1450))))) (fun rr => (some (Fl.rt rr))))))) fuel (([] : (List (Int × Int))), reached1236, at1244)) fun o1251 =>
 (Fl.go o1251 (fun b1465 => (some (⟨none, b1465.1, b1465.2.1⟩ : (T3 (Option Int) (List (Int × Int)) (List Int))))) (fun rr => (some rr))))))
noncomputable abbrev a_road_from : (List (Str × (Tu Str))) × (List (Tu Str)) × (List (Int × Int)) × Int × Unit → Option ((T3 (Option Int) (List (Int × Int)) (List Int))) := fun x => m_road_from x.1 x.2.1 x.2.2.1 x.2.2.2.1
theorem ok_road_from_fn {P : Program} {w : World} {K : PySem.W.Frag} {mg : Str → Option Value} {base : Heap} {f : Addr} {fd : FuncData} (F : FunM K "road_from" "road_from" s_road_from f fd) (C_can_sit : Cal P w K mg base CX0 1 "can_sit" (sp K a_can_sit)) (z_len : mg "len" = none) (z_range : mg "range" = none) : FnOk P w K mg base CX0 2 f fd ["players", "seats", "owners", "first"] (spI K pre_road_from a_road_from ok_road_from noEr) := by
  refine mk_I (k := 1) F sc_road_from (fun vs a L R h => by obtain ⟨_, _, _, _, rfl, _⟩ := h; rfl) ?_
  rintro cdv A' outer sh0 H0 X0 hr s0 P0 L0 R0 vs ⟨players1222, seats1223, owners1224, first1225, _⟩ o0 Q ⟨aplayers, aseats, aowners, afirst, rfl, rfl, rfl⟩ iv1226 ro hm hQ
  unfold a_road_from m_road_from at hm
  dsimp only at hm
  have iv1227 : Iv K P0 s0 s0 [fz aplayers (players1222 : (List (Str × (Tu Str)))), fz aseats (seats1223 : (List (Tu Str))), top, fz afirst (first1225 : Int), top, top, top, top, top, top, top] := Iv.sel iv1226 [some 0, some 1, none, some 2, none, none, none, none, none, none, none] (by decide +kernel) (by kernel_rfl)
  refine do_setG 4 (eg_newD (xs := ([] : (List (Int × Int)))) en_dnew) (fun v1229 s1230 L1231 z1234 iv1232 => ?_) sc_road_from.nd
  obtain ⟨p1228, rfl, rfl⟩ := z1234
  have iv1233 := Iv.add iv1227 iv1232
  have iv1235 : Iv K P0 s0 s1230 [fz aplayers (players1222 : (List (Str × (Tu Str)))), fz aseats (seats1223 : (List (Tu Str))), top, fz afirst (first1225 : Int), od p1228 (([] : (List (Int × Int))) : (List (Int × Int))), top, top, top, top, top, top] := Iv.sel iv1233 [some 0, some 1, none, some 3, some 11, none, none, none, none, none, none] (by decide +kernel) (by kernel_rfl)
  refine do_setN 5 (en_list (xs := ([first1225] : List Int)) (ee_cons (ev_var 3 rfl (Iv.fz (x := (first1225 : Int)) iv1235 3)) ee_nil) (by simp [sizeLine])) (fun p1240 s1238 e1239 n1241 o1242 => ?_) sc_road_from.nd
  obtain ⟨reached1236, q1237, hm⟩ := ltE hm
  have iv1243 := Iv.sl iv1235 5 e1239 n1241 o1242 q1237
  refine do_set 6 ev_int (fun v1248 s1246 e1247 r1249 => ?_) sc_road_from.nd
  obtain ⟨at1244, q1245, hm⟩ := ltE hm
  have iv1250 := Iv.sf iv1243 6 e1247 r1249 q1245
  obtain ⟨o1251, ho1252, hm⟩ := bndE hm
  refine do_whileF (ρ := ((T3 (Option Int) (List (Int × Int)) (List Int)))) (υ := ((List (Int × Int)) × (List Int) × Int)) PassesOwn.never ho1252 (fun (b1253 : ((List (Int × Int)) × (List Int) × Int)) (σ' : L2.St) (t' : S) => ∃ (v_at : V) (y_k : Option V), σ' = [some aplayers, some aseats, some (.ref aowners), some afirst, some (.ref p1228), some (.ref p1240), some v_at, y_k] ∧ Iv K P0 s0 t' [fz aplayers (players1222 : (List (Str × (Tu Str)))), fz aseats (seats1223 : (List (Tu Str))), top, fz afirst (first1225 : Int), od p1228 (b1253.1 : (List (Int × Int))), ol p1240 (b1253.2.1 : (List Int)), fz v_at (b1253.2.2 : Int), top, top, top, top]) ⟨v1248, _, rfl, Iv.sel iv1250 [some 0, some 1, none, some 3, some 4, some 5, some 6, none, none, none, none] (by decide +kernel) (by kernel_rfl)⟩ (fun b1253 x1259 σ1256 t1255 hm1260 fl1257 hR1258 => ?_) (fun b1253 q1276 σ1266 t1264 t1265 hc1270 hm1271 hq1277 fl1267 hR1268 k1269 => ?_) (fun b1465 σ1458 t1459 t1460 ho1466 hc1461 fl1462 hR1463 k1464 => ?_)
  · obtain ⟨v1261, y1262, rfl, iv1263⟩ := hR1258
    obtain rfl := Option.some.inj hm1260
    exact (EvB.t (eb_lt (ev_var 6 rfl (Iv.fz (x := (b1253.2.2 : Int)) iv1263 6)) (ev_len z_len (er_raw (xs := (b1253.2.1 : (List Int))) (raw_var 5 rfl) (Own.r (Iv.ol (xs := (b1253.2.1 : (List Int))) iv1263 5))))))
  · obtain ⟨v1272, y1273, rfl, iv1274⟩ := hR1268
    have iv1275 := Iv.ex iv1274 k1269
    obtain ⟨hc1278, hm1271⟩ := chkE hm1271
    obtain ⟨o1279, ho1280, hm1271⟩ := bndE hm1271
    refine do_forF (ρ := ((T3 (Option Int) (List (Int × Int)) (List Int)))) (υ := ((List (Int × Int)) × (List Int))) PassesOwn.never rfl (ei_range1 z_range (ev_len z_len (Ev.r (ev_var 0 rfl (Iv.fz (x := (players1222 : (List (Str × (Tu Str))))) iv1275 0)))) hc1278) (pg_name (i := 7) sc_road_from.nd rfl (by first | exact Or.inl rfl | exact Or.inr rfl)) tg_n ho1280 (fun (b1281 : ((List (Int × Int)) × (List Int))) (σ' : L2.St) (t' : S) => ∃ (y_k : Option V), σ' = [some aplayers, some aseats, some (.ref aowners), some afirst, some (.ref p1228), some (.ref p1240), some v1272, y_k] ∧ Iv K P0 s0 t' [fz aplayers (players1222 : (List (Str × (Tu Str)))), fz aseats (seats1223 : (List (Tu Str))), top, fz afirst (first1225 : Int), od p1228 (b1281.1 : (List (Int × Int))), ol p1240 (b1281.2 : (List Int)), fz v1272 (b1253.2.2 : Int), top, top, top, top]) (fun s1440 k1441 => by have iv1442 := Iv.ex iv1275 k1441; have fl1443 := Fle.trans (Fle.refl t1265.F) k1441.f; exact ⟨_, rfl, Iv.sel iv1442 [some 0, some 1, none, some 3, some 4, some 5, some 6, none, none, none, none] (by decide +kernel) (by kernel_rfl)⟩) (fun s1284 k1285 x1283 b1281 q1304 σ1294 σ1295 t1292 t1293 hx1286 hm1287 hq1305 fl1288 hR1289 k1290 hB1291 => ?_) (fun s1434 k1435 b1444 σ1436 t1437 ho1445 fl1438 hR1439 => ?_)
    · have hf1296 := Fle.trans k1285.f fl1288
      obtain ⟨y1297, rfl, iv1298⟩ := hR1289
      obtain ⟨v1299, r1300, rfl⟩ := hB1291
      have iv1301 := Iv.ex iv1298 k1290
      have iv1302 := Iv.sf iv1301 7 (Ex.refl t1293) r1300 rfl
      have fl1303 := Fle.trans (Fle.refl t1293.F) (Ex.refl t1293).f
      obtain ⟨c1313, h_c1313, hm1287⟩ := bndE hm1287
      obtain ⟨b1364, hj1365, hm1287⟩ := bndE hm1287
      refine do_if (EvW.tt (EvC.w (by skip; exact ec_andO (ev_dnotIn hr (ev_var 7 rfl (Iv.fz (x := (x1283 : Int)) iv1302 7)) (raw_var 4 rfl) (OwnD.r (Iv.od (xs := (b1281.1 : (List (Int × Int)))) iv1302 4))) (fun hb1314 => (fun hz => (by obtain ⟨at1309, h_at1309, hz⟩ := bndE hz; obtain ⟨at1310, h_at1310, hz⟩ := bndE hz; obtain ⟨at1311, h_at1311, hz⟩ := bndE hz; obtain ⟨can_sit1312, h_can_sit1312, hz⟩ := bndE hz; obtain rfl := Option.some.inj hz; exact (ec_and1 (eb_v (ev_call C_can_sit hr (by decide) (ea_cons (ev_ix (Ev.r (ev_var 0 rfl (Iv.fz (x := (players1222 : (List (Str × (Tu Str))))) iv1302 0))) (ev_var 7 rfl (Iv.fz (x := (x1283 : Int)) iv1302 7)) h_at1309) (ea_cons (ev_ix (Ev.r (ev_var 1 rfl (Iv.fz (x := (seats1223 : (List (Tu Str)))) iv1302 1))) (ev_ix (er_raw (xs := (b1281.2 : (List Int))) (raw_var 5 rfl) (Own.r (Iv.ol (xs := (b1281.2 : (List Int))) iv1302 5))) (ev_var 6 rfl (Iv.fz (x := (b1253.2.2 : Int)) iv1302 6)) h_at1310) h_at1311) ea_nil)) h_can_sit1312))))) ((andE h_c1313).1 hb1314)) (andE h_c1313).2))) (fun (σ' : L2.St) (t' : S) => ∃ b1425 : ((List (Int × Int)) × (List Int)), b1364 = Fl.nx b1425 ∧ Fle t1293.F t'.F ∧ σ' = [some aplayers, some aseats, some (.ref aowners), some afirst, some (.ref p1228), some (.ref p1240), some v1272, some v1299] ∧ Iv K P0 s0 t' [fz aplayers (players1222 : (List (Str × (Tu Str)))), fz aseats (seats1223 : (List (Tu Str))), top, fz afirst (first1225 : Int), od p1228 (b1425.1 : (List (Int × Int))), ol p1240 (b1425.2 : (List Int)), fz v1272 (b1253.2.2 : Int), fz v1299 (x1283 : Int), top, top, top]) (fun hb1366 s1367 e1368 => ?_) (fun hb1418 s1419 e1420 => ?_) (fun σ1426 s1427 hM1428 => ?_)
      · have hm1369 := iteE1 hj1365 hb1366
        have iv1370 := Iv.ex iv1302 e1368
        have fl1371 := Fle.trans (Fle.refl t1293.F) e1368.f
        have fl1372 := Fle.trans (Fle.refl t1293.F) e1368.f
        obtain ⟨at1378, h_at1378, hm1369⟩ := bndE hm1369
        obtain ⟨hc1379, hm1369⟩ := chkE hm1369
        refine do_dput hr (raw_var 4 rfl) (Iv.od (xs := (b1281.1 : (List (Int × Int)))) iv1370 4) (ev_ix (er_raw (xs := (b1281.2 : (List Int))) (raw_var 5 rfl) (Own.r (Iv.ol (xs := (b1281.2 : (List Int))) iv1370 5))) (ev_var 6 rfl (Iv.fz (x := (b1253.2.2 : Int)) iv1370 6)) h_at1378) (ev_var 7 rfl (Iv.fz (x := (x1283 : Int)) iv1370 7)) hc1379 (fun s1373 m1374 o1375 => ?_)
        obtain ⟨kv1376, q1377, hm1369⟩ := ltE hm1369
        have iv1380 := Iv.md iv1370 4 m1374 o1375 q1377
        have fl1381 := Fle.trans fl1371 m1374.f
        have fl1382 := Fle.trans fl1372 m1374.f
        refine do_ifR (EvB.t (ev_dnotIn hr (ev_var 7 rfl (Iv.fz (x := (x1283 : Int)) iv1380 7)) (raw_var 2 rfl) (Iv.rod (xs := (owners1224 : (List (Int × Int)))) iv1380 ro 0))) (fun hb1383 s1384 e1385 => ?_) (fun hb1396 s1397 e1398 => ?_)
        · have hm1386 := iteE1 hm1369 hb1383
          have iv1387 := Iv.ex iv1380 e1385
          have fl1388 := Fle.trans fl1381 e1385.f
          have fl1389 := Fle.trans fl1382 e1385.f
          obtain rfl := Option.some.inj hm1386
          obtain rfl := Option.some.inj hm1287
          obtain rfl := hq1305 _ rfl
          obtain rfl := Option.some.inj hm1271
          obtain rfl := hq1277 _ rfl
          obtain rfl := Option.some.inj hm
          refine do_retK (ek_of (eg_tup (egs_cons (eg_ev (ev_some (ev_var 7 rfl (Iv.fz (x := (x1283 : Int)) iv1387 7)))) (egs_cons (eg_raw (raw_var 4 rfl)) (egs_cons (eg_raw (raw_var 5 rfl)) egs_nil))) (fun vs L' z => by obtain ⟨_, _, _, _, rfl, rfl, rfl, ⟨_, _, _, _, rfl, rfl, ⟨rfl, rfl⟩, ⟨_, _, _, _, rfl, rfl, ⟨rfl, rfl⟩, ⟨rfl, rfl⟩⟩⟩⟩ := z; simp)) iv1387) (fun v1395 s1393 z => ?_)
          obtain ⟨L1394, ⟨p1391, _, _, rfl, ⟨v1390, _, _, _, rfl, rfl, rfl, ⟨_, _, _, _, rfl, rfl, ⟨rfl, rfl⟩, ⟨_, _, _, _, rfl, rfl, ⟨rfl, rfl⟩, ⟨rfl, rfl⟩⟩⟩⟩, rfl⟩, _, iv1392⟩ := z
          exact hQ _ _ _ ⟨aplayers, aseats, aowners, afirst, rfl, p1391, v1390, p1228, p1240, rfl, rfl⟩ (Iv.sel iv1392 [some 11, some 12, some 4, some 5] (by decide +kernel) (by kernel_rfl))
        · have hm1399 := iteE2 hm1369 hb1396
          have iv1400 := Iv.ex iv1380 e1398
          have fl1401 := Fle.trans fl1381 e1398.f
          have fl1402 := Fle.trans fl1382 e1398.f
          obtain ⟨got1413, h_got1413, hm1399⟩ := bndE hm1399
          obtain ⟨hc1414, hm1399⟩ := chkE hm1399
          refine do_append 5 rfl (Iv.ol (xs := (b1281.2 : (List Int))) iv1400 5) (ev_dget hr (raw_var 2 rfl) (Iv.rod (xs := (owners1224 : (List (Int × Int)))) iv1400 ro 0) (ev_var 7 rfl (Iv.fz (x := (x1283 : Int)) iv1400 7)) h_got1413) hc1414 (fun s1408 m1409 o1410 => ?_)
          obtain ⟨reached1411, q1412, hm1399⟩ := ltE hm1399
          have iv1415 := Iv.ml iv1400 5 m1409 o1410 q1412
          have fl1416 := Fle.trans fl1401 m1409.f
          have fl1417 := Fle.trans fl1402 m1409.f
          obtain rfl := Option.some.inj hm1399
          exact do_nil ⟨s1408, rfl, _, rfl, fl1417, ⟨rfl, Iv.sel iv1415 [some 0, some 1, none, some 3, some 4, some 5, some 6, some 7, none, none, none] (by decide +kernel) (by kernel_rfl)⟩⟩
      · have hm1421 := iteE2 hj1365 hb1418
        have iv1422 := Iv.ex iv1302 e1420
        have fl1423 := Fle.trans (Fle.refl t1293.F) e1420.f
        have fl1424 := Fle.trans (Fle.refl t1293.F) e1420.f
        obtain rfl := Option.some.inj hm1421
        exact do_nil ⟨s1419, rfl, _, rfl, fl1424, ⟨rfl, Iv.sel iv1422 [some 0, some 1, none, some 3, some 4, some 5, some 6, some 7, none, none, none] (by decide +kernel) (by kernel_rfl)⟩⟩
      · obtain ⟨b1431, rfl, hf1429, hR1430⟩ := hM1428
        replace hm1287 := goN hm1287
        obtain ⟨rfl, iv1432⟩ := hR1430
        have fl1433 := Fle.trans (Fle.refl t1293.F) hf1429
        obtain rfl := Option.some.inj hm1287
        exact do_nil ⟨s1427, rfl, _, rfl, fl1433, ⟨_, rfl, Iv.sel iv1432 [some 0, some 1, none, some 3, some 4, some 5, some 6, none, none, none, none] (by decide +kernel) (by kernel_rfl)⟩⟩
    · subst ho1445
      replace hm1271 := goN hm1271
      have hf1446 := Fle.trans k1435.f fl1438
      obtain ⟨y1447, rfl, iv1448⟩ := hR1439
      have fl1449 := Fle.trans (Fle.refl t1265.F) hf1446
      refine do_set 6 (ev_add (ev_var 6 rfl (Iv.fz (x := (b1253.2.2 : Int)) iv1448 6)) ev_int) (fun v1454 s1452 e1453 r1455 => ?_) sc_road_from.nd
      obtain ⟨at1450, q1451, hm1271⟩ := ltE hm1271
      have iv1456 := Iv.sf iv1448 6 e1453 r1455 q1451
      have fl1457 := Fle.trans fl1449 e1453.f
      obtain rfl := Option.some.inj hm1271
      exact do_nil ⟨s1452, rfl, _, rfl, fl1457, ⟨v1454, _, rfl, Iv.sel iv1456 [some 0, some 1, none, some 3, some 4, some 5, some 6, none, none, none, none] (by decide +kernel) (by kernel_rfl)⟩⟩
  · subst ho1466
    replace hm := goN hm
    obtain ⟨v1467, y1468, rfl, iv1469⟩ := hR1463
    have iv1470 := Iv.ex iv1469 k1464
    obtain rfl := Option.some.inj hm
    refine do_retK (ek_of (eg_tup (egs_cons (eg_ev (ev_nonO (α := Int))) (egs_cons (eg_raw (raw_var 4 rfl)) (egs_cons (eg_raw (raw_var 5 rfl)) egs_nil))) (fun vs L' z => by obtain ⟨_, _, _, _, rfl, rfl, rfl, ⟨_, _, _, _, rfl, rfl, ⟨rfl, rfl⟩, ⟨_, _, _, _, rfl, rfl, ⟨rfl, rfl⟩, ⟨rfl, rfl⟩⟩⟩⟩ := z; simp)) iv1470) (fun v1476 s1474 z => ?_)
    obtain ⟨L1475, ⟨p1472, _, _, rfl, ⟨v1471, _, _, _, rfl, rfl, rfl, ⟨_, _, _, _, rfl, rfl, ⟨rfl, rfl⟩, ⟨_, _, _, _, rfl, rfl, ⟨rfl, rfl⟩, ⟨rfl, rfl⟩⟩⟩⟩, rfl⟩, _, iv1473⟩ := z
    exact hQ _ _ _ ⟨aplayers, aseats, aowners, afirst, rfl, p1472, v1471, p1228, p1240, rfl, rfl⟩ (Iv.sel iv1473 [some 11, some 12, some 4, some 5] (by decide +kernel) (by kernel_rfl))
abbrev s_shift_along : Stmt := topS 20
def pre_shift_along : List V → (List (Int × Int)) × (List (Option Int)) × (List (Int × Int)) × (Option Int) × Unit → List OA → List OA → Prop := fun vs x L R => ∃ (aowners : Addr) (arow : Addr) (aahead : Addr) (aplayer : V), vs = [(.ref aowners), (.ref arow), (.ref aahead), aplayer] ∧ L = [od aowners (x.1 : (List (Int × Int))), ol arow (x.2.1 : (List (Option Int))), fz aplayer (x.2.2.2.1 : (Option Int))] ∧ R = [od aahead (x.2.2.1 : (List (Int × Int)))]
def ok_shift_along : List V → (List (Int × Int)) × (List (Option Int)) × (List (Int × Int)) × (Option Int) × Unit → ((List (Int × Int)) × (List (Option Int))) → V → List OA → Prop := fun vs x r v L' => ∃ (aowners : Addr) (arow : Addr) (aahead : Addr) (aplayer : V), vs = [(.ref aowners), (.ref arow), (.ref aahead), aplayer] ∧ (v = .non ∧ L' = [od aowners (r.1 : (List (Int × Int))), ol arow (r.2 : (List (Option Int)))])
abbrev N_shift_along : List Str := ["owners", "row", "ahead", "player", "seat", "former"]
theorem sc_shift_along : FnScope N_shift_along ["owners", "row", "ahead", "player"] (defScope s_shift_along) := ⟨rfl, rfl, rfl, by decide +kernel, rfl, by decide +kernel, by decide +kernel⟩
noncomputable def m_shift_along (owners1477 : (List (Int × Int))) (row1478 : (List (Option Int))) (ahead1479 : (List (Int × Int))) (player1480 : (Option Int)) : Option ((List (Int × Int)) × (List (Option Int))) :=
 (bnd (whileO (fun (b1485 : ((List (Option Int)) × (List (Int × Int)) × (Option Int))) => (some (b1485.2.2).isSome)) (fun (b1485 : ((List (Option Int)) × (List (Int × Int)) × (Option Int))) =>
 (bnd b1485.2.2 fun got1510 => (bnd (dval ahead1479 got1510) fun got1511 => (lt (got1511 : Int) fun seat1512 =>
 (bnd (atI b1485.1 seat1512) fun at1520 => (lt (at1520 : (Option Int)) fun former1521 =>
 (bnd (ixN (b1485.1).length seat1512) fun j1534 => (lt (((b1485.1).set j1534 b1485.2.2) : (List (Option Int))) fun ls1532 =>
 (bnd b1485.2.2 fun got1542 => (chk ((b1485.2.1).length < sizeLine) (lt ((dput b1485.2.1 got1542 seat1512) : (List (Int × Int))) fun kv1540 =>
 (lt (former1521 : (Option Int)) fun player1546 =>
 (some (ls1532, kv1540, player1546)))))))))))))) fuel (row1478, owners1477, player1480)) fun o1483 =>
 (some (o1483.2.1, o1483.1)))
noncomputable abbrev a_shift_along : (List (Int × Int)) × (List (Option Int)) × (List (Int × Int)) × (Option Int) × Unit → Option ((List (Int × Int)) × (List (Option Int))) := fun x => m_shift_along x.1 x.2.1 x.2.2.1 x.2.2.2.1
theorem ok_shift_along_fn {P : Program} {w : World} {K : PySem.W.Frag} {mg : Str → Option Value} {base : Heap} {f : Addr} {fd : FuncData} (F : FunM K "shift_along" "shift_along" s_shift_along f fd)  : FnOk P w K mg base CX0 1 f fd ["owners", "row", "ahead", "player"] (spI K pre_shift_along a_shift_along ok_shift_along noEr) := by
  refine mk_I (k := 0) F sc_shift_along (fun vs a L R h => by obtain ⟨_, _, _, _, rfl, _⟩ := h; rfl) ?_
  rintro cdv A' outer sh0 H0 X0 hr s0 P0 L0 R0 vs ⟨owners1477, row1478, ahead1479, player1480, _⟩ o0 Q ⟨aowners, arow, aahead, aplayer, rfl, rfl, rfl⟩ iv1481 ro hm hQ
  unfold a_shift_along m_shift_along at hm
  dsimp only at hm
  have iv1482 : Iv K P0 s0 s0 [od aowners (owners1477 : (List (Int × Int))), ol arow (row1478 : (List (Option Int))), top, fz aplayer (player1480 : (Option Int)), top, top] := Iv.sel iv1481 [some 0, some 1, none, some 2, none, none] (by decide +kernel) (by kernel_rfl)
  obtain ⟨o1483, ho1484, hm⟩ := bndE hm
  refine do_whileO (υ := ((List (Option Int)) × (List (Int × Int)) × (Option Int))) PassesOwn.never ho1484 (fun (b1485 : ((List (Option Int)) × (List (Int × Int)) × (Option Int))) (σ' : L2.St) (t' : S) => ∃ (v_player : V) (y_seat : Option V) (y_former : Option V), σ' = [some (.ref aowners), some (.ref arow), some (.ref aahead), some v_player, y_seat, y_former] ∧ Iv K P0 s0 t' [od aowners (b1485.2.1 : (List (Int × Int))), ol arow (b1485.1 : (List (Option Int))), top, fz v_player (b1485.2.2 : (Option Int)), top, top]) ⟨aplayer, _, _, rfl, Iv.sel iv1482 [some 0, some 1, none, some 3, none, none] (by decide +kernel) (by kernel_rfl)⟩ (fun b1485 x1491 σ1488 t1487 hm1492 fl1489 hR1490 => ?_) (fun b1485 b1486 σ1499 t1497 t1498 hc1503 hm1504 fl1500 hR1501 k1502 => ?_) (fun σ1554 t1555 t1556 hc1557 fl1558 hR1559 k1560 => ?_)
  · obtain ⟨v1493, y1494, y1495, rfl, iv1496⟩ := hR1490
    obtain rfl := Option.some.inj hm1492
    exact (EvB.t (eb_notN (ev_var 3 rfl (Iv.fz (x := (b1485.2.2 : (Option Int))) iv1496 3))))
  · obtain ⟨v1505, y1506, y1507, rfl, iv1508⟩ := hR1501
    have iv1509 := Iv.ex iv1508 k1502
    obtain ⟨got1510, h_got1510, hm1504⟩ := bndE hm1504
    obtain ⟨got1511, h_got1511, hm1504⟩ := bndE hm1504
    refine do_set 4 (ev_dget hr (raw_var 2 rfl) (Iv.rod (xs := (ahead1479 : (List (Int × Int)))) iv1509 ro 0) (ev_some' (ev_var 3 rfl (Iv.fz (x := (b1485.2.2 : (Option Int))) iv1509 3)) h_got1510) h_got1511) (fun v1516 s1514 e1515 r1517 => ?_) sc_shift_along.nd
    obtain ⟨seat1512, q1513, hm1504⟩ := ltE hm1504
    have iv1518 := Iv.sf iv1509 4 e1515 r1517 q1513
    have fl1519 := Fle.trans (Fle.refl t1498.F) e1515.f
    obtain ⟨at1520, h_at1520, hm1504⟩ := bndE hm1504
    refine do_set 5 (ev_ix (er_raw (xs := (b1485.1 : (List (Option Int)))) (raw_var 1 rfl) (Own.r (Iv.ol (xs := (b1485.1 : (List (Option Int)))) iv1518 1))) (ev_var 4 rfl (Iv.fz (x := (seat1512 : Int)) iv1518 4)) h_at1520) (fun v1525 s1523 e1524 r1526 => ?_) sc_shift_along.nd
    obtain ⟨former1521, q1522, hm1504⟩ := ltE hm1504
    have iv1527 := Iv.sf iv1518 5 e1524 r1526 q1522
    have fl1528 := Fle.trans fl1519 e1524.f
    obtain ⟨j1534, h_j1534, hm1504⟩ := bndE hm1504
    refine do_setItemP (raw_var 1 rfl) (Iv.ol (xs := (b1485.1 : (List (Option Int)))) iv1527 1) (ev_var 3 rfl (Iv.fz (x := (b1485.2.2 : (Option Int))) iv1527 3)) (ev_var 4 rfl (Iv.fz (x := (seat1512 : Int)) iv1527 4)) h_j1534 (fun s1529 m1530 o1531 => ?_)
    obtain ⟨ls1532, q1533, hm1504⟩ := ltE hm1504
    have iv1535 := Iv.ml iv1527 1 m1530 o1531 q1533
    have fl1536 := Fle.trans fl1528 m1530.f
    obtain ⟨got1542, h_got1542, hm1504⟩ := bndE hm1504
    obtain ⟨hc1543, hm1504⟩ := chkE hm1504
    refine do_dput hr (raw_var 0 rfl) (Iv.od (xs := (b1485.2.1 : (List (Int × Int)))) iv1535 0) (ev_var 4 rfl (Iv.fz (x := (seat1512 : Int)) iv1535 4)) (ev_some' (ev_var 3 rfl (Iv.fz (x := (b1485.2.2 : (Option Int))) iv1535 3)) h_got1542) hc1543 (fun s1537 m1538 o1539 => ?_)
    obtain ⟨kv1540, q1541, hm1504⟩ := ltE hm1504
    have iv1544 := Iv.md iv1535 0 m1538 o1539 q1541
    have fl1545 := Fle.trans fl1536 m1538.f
    refine do_set 3 (ev_var 5 rfl (Iv.fz (x := (former1521 : (Option Int))) iv1544 5)) (fun v1550 s1548 e1549 r1551 => ?_) sc_shift_along.nd
    obtain ⟨player1546, q1547, hm1504⟩ := ltE hm1504
    have iv1552 := Iv.sf iv1544 3 e1549 r1551 q1547
    have fl1553 := Fle.trans fl1545 e1549.f
    obtain rfl := Option.some.inj hm1504
    exact do_nil ⟨s1548, rfl, fl1553, ⟨v1550, _, _, rfl, Iv.sel iv1552 [some 0, some 1, none, some 3, none, none] (by decide +kernel) (by kernel_rfl)⟩⟩
  · obtain ⟨v1561, y1562, y1563, rfl, iv1564⟩ := hR1559
    have iv1565 := Iv.ex iv1564 k1560
    obtain rfl := Option.some.inj hm
    exact do_nil (hQ _ _ _ ⟨aowners, arow, aahead, aplayer, rfl, rfl, rfl⟩ (Iv.sel iv1565 [some 0, some 1] (by decide +kernel) (by kernel_rfl)))
abbrev s_seat_all : Stmt := topS 21
def pre_seat_all : List V → (List (Str × (Tu Str))) × (List (Tu Str)) × Unit → List OA → List OA → Prop := fun vs x L R => ∃ (aplayers : V) (aseats : V), vs = [aplayers, aseats] ∧ L = [fz aplayers (x.1 : (List (Str × (Tu Str)))), fz aseats (x.2.1 : (List (Tu Str)))] ∧ R = []
def ok_seat_all : List V → (List (Str × (Tu Str))) × (List (Tu Str)) × Unit → ((Str × (List (Option Int)))) → V → List OA → Prop := fun vs x r v L' => ∃ (aplayers : V) (aseats : V), vs = [aplayers, aseats] ∧ (∃ (bres : Addr) (bres_0 : V) (bres_1 : Addr), v = (.ref bres) ∧ L' = [tc bres [bres_0, (.ref bres_1)], fz bres_0 (r.1 : Str), ol bres_1 (r.2 : (List (Option Int)))])
abbrev N_seat_all : List Str := ["players", "seats", "owners", "row", "first", "player", "ahead", "reached"]
theorem sc_seat_all : FnScope N_seat_all ["players", "seats"] (defScope s_seat_all) := ⟨rfl, rfl, rfl, by decide +kernel, rfl, by decide +kernel, by decide +kernel⟩
noncomputable def m_seat_all (players1566 : (List (Str × (Tu Str)))) (seats1567 : (List (Tu Str))) : Option ((Str × (List (Option Int)))) :=
 (chk (RepOk ((seats1567).length : Int) (([none] : List (Option Int))).length) (lt ((repl ((seats1567).length : Int) ([none] : List (Option Int))) : (List (Option Int))) fun row1579 =>
 (chk (RgB ((seats1567).length : Int)) (bnd (foldF (ρ := ((Str × (List (Option Int))))) (fun (b1590 : ((List (Int × Int)) × (List (Option Int)))) (x1592 : Int) =>
 (bnd (a_road_from (players1566, seats1567, b1590.1, x1592, ())) fun road_from1624 => (if (road_from1624.a).isNone = true then
 (some (Fl.rt (("short" : Str), (List.map some (sortI road_from1624.c)))))
 else
 (bnd (a_shift_along (b1590.1, b1590.2, road_from1624.b, road_from1624.a, ())) fun shift_along1658 => (some (Fl.nx (shift_along1658.1, shift_along1658.2))))))) (([] : (List (Int × Int))), row1579) (rng 0 ((seats1567).length : Int))) fun o1588 =>
 (Fl.go o1588 (fun b1675 => (some (("seated" : Str), b1675.2))) (fun rr => (some rr)))))))
noncomputable abbrev a_seat_all : (List (Str × (Tu Str))) × (List (Tu Str)) × Unit → Option ((Str × (List (Option Int)))) := fun x => m_seat_all x.1 x.2.1
theorem ok_seat_all_fn {P : Program} {w : World} {K : PySem.W.Frag} {mg : Str → Option Value} {base : Heap} {f : Addr} {fd : FuncData} (F : FunM K "seat_all" "seat_all" s_seat_all f fd) (C_road_from : Cal P w K mg base CX0 2 "road_from" (spI K pre_road_from a_road_from ok_road_from noEr)) (C_shift_along : Cal P w K mg base CX0 1 "shift_along" (spI K pre_shift_along a_shift_along ok_shift_along noEr)) (z_len : mg "len" = none) (z_range : mg "range" = none) (z_sorted : mg "sorted" = none) : FnOk P w K mg base CX0 3 f fd ["players", "seats"] (spI K pre_seat_all a_seat_all ok_seat_all noEr) := by
  refine mk_I (k := 2) F sc_seat_all (fun vs a L R h => by obtain ⟨_, _, rfl, _⟩ := h; rfl) ?_
  rintro cdv A' outer sh0 H0 X0 hr s0 P0 L0 R0 vs ⟨players1566, seats1567, _⟩ o0 Q ⟨aplayers, aseats, rfl, rfl, rfl⟩ iv1568 ro hm hQ
  unfold a_seat_all m_seat_all at hm
  dsimp only at hm
  have iv1569 : Iv K P0 s0 s0 [fz aplayers (players1566 : (List (Str × (Tu Str)))), fz aseats (seats1567 : (List (Tu Str))), top, top, top, top, top, top, top, top] := Iv.sel iv1568 [some 0, some 1, none, none, none, none, none, none, none, none] (by decide +kernel) (by kernel_rfl)
  refine do_setG 2 (eg_newD (xs := ([] : (List (Int × Int)))) en_dnew) (fun v1571 s1572 L1573 z1576 iv1574 => ?_) sc_seat_all.nd
  obtain ⟨p1570, rfl, rfl⟩ := z1576
  have iv1575 := Iv.add iv1569 iv1574
  have iv1577 : Iv K P0 s0 s1572 [fz aplayers (players1566 : (List (Str × (Tu Str)))), fz aseats (seats1567 : (List (Tu Str))), od p1570 (([] : (List (Int × Int))) : (List (Int × Int))), top, top, top, top, top, top, top] := Iv.sel iv1575 [some 0, some 1, some 10, none, none, none, none, none, none, none] (by decide +kernel) (by kernel_rfl)
  obtain ⟨hc1578, hm⟩ := chkE hm
  refine do_setN 3 (en_rep (en_list (xs := ([none] : List (Option Int))) (ee_cons (ev_nonO (α := Int)) ee_nil) (by simp [sizeLine])) (fun _ hk => Ev.mono (ev_len z_len (Ev.r (ev_var 1 rfl (Iv.fz (x := (seats1567 : (List (Tu Str)))) iv1577 1)))) hk) hc1578) (fun p1583 s1581 e1582 n1584 o1585 => ?_) sc_seat_all.nd
  obtain ⟨row1579, q1580, hm⟩ := ltE hm
  have iv1586 := Iv.sl iv1577 3 e1582 n1584 o1585 q1580
  obtain ⟨hc1587, hm⟩ := chkE hm
  obtain ⟨o1588, ho1589, hm⟩ := bndE hm
  refine do_forF (ρ := ((Str × (List (Option Int))))) (υ := ((List (Int × Int)) × (List (Option Int)))) PassesOwn.never rfl (ei_range1 z_range (ev_len z_len (Ev.r (ev_var 1 rfl (Iv.fz (x := (seats1567 : (List (Tu Str)))) iv1586 1)))) hc1587) (pg_name (i := 4) sc_seat_all.nd rfl (by first | exact Or.inl rfl | exact Or.inr rfl)) tg_n ho1589 (fun (b1590 : ((List (Int × Int)) × (List (Option Int)))) (σ' : L2.St) (t' : S) => ∃ (y_player : Option V) (y_ahead : Option V) (y_reached : Option V) (y_first : Option V), σ' = [some aplayers, some aseats, some (.ref p1570), some (.ref p1583), y_first, y_player, y_ahead, y_reached] ∧ Iv K P0 s0 t' [fz aplayers (players1566 : (List (Str × (Tu Str)))), fz aseats (seats1567 : (List (Tu Str))), od p1570 (b1590.1 : (List (Int × Int))), ol p1583 (b1590.2 : (List (Option Int))), top, top, top, top, top, top]) (fun s1672 k1673 => by have iv1674 := Iv.ex iv1586 k1673; exact ⟨_, _, _, _, rfl, Iv.sel iv1674 [some 0, some 1, some 2, some 3, none, none, none, none, none, none] (by decide +kernel) (by kernel_rfl)⟩) (fun s1593 k1594 x1592 b1590 q1616 σ1603 σ1604 t1601 t1602 hx1595 hm1596 hq1617 fl1597 hR1598 k1599 hB1600 => ?_) (fun s1666 k1667 b1675 σ1668 t1669 ho1676 fl1670 hR1671 => ?_)
  · have hf1605 := Fle.trans k1594.f fl1597
    obtain ⟨y1606, y1607, y1608, y1609, rfl, iv1610⟩ := hR1598
    obtain ⟨v1611, r1612, rfl⟩ := hB1600
    have iv1613 := Iv.ex iv1610 k1599
    have iv1614 := Iv.sf iv1613 4 (Ex.refl t1602) r1612 rfl
    have fl1615 := Fle.trans (Fle.refl t1602.F) (Ex.refl t1602).f
    obtain ⟨road_from1624, h_road_from1624, hm1596⟩ := bndE hm1596
    refine do_unpK3 5 6 7 (ek_of (eg_call (ok' := (fun v L' => ∃ (p1630 : Addr) (v1631 : V) (p1632 : Addr) (p1633 : Addr), v = (.ref p1630) ∧ L' = [tc p1630 [v1631, (.ref p1632), (.ref p1633)], fz v1631 (road_from1624.a : (Option Int)), od p1632 (road_from1624.b : (List (Int × Int))), ol p1633 (road_from1624.c : (List Int))])) (ca_fn (E := fun _ _ _ _ => False) C_road_from pass00 hr (by decide) (ea_cons (ev_var 0 rfl (Iv.fz (x := (players1566 : (List (Str × (Tu Str))))) iv1614 0)) (ea_cons (ev_var 1 rfl (Iv.fz (x := (seats1567 : (List (Tu Str)))) iv1614 1)) (ea_cons (raw_var 2 rfl) (ea_cons (ev_var 4 rfl (Iv.fz (x := (x1592 : Int)) iv1614 4)) ea_nil))))) iv1614 ro0 [.inl 2] (fun vs s2 k2 r2 => by obtain ⟨v1618, _, rfl, r1619, v1620, _, rfl, r1621, _, _, rfl, rfl, v1622, _, rfl, r1623, rfl⟩ := r2; exact ⟨[fz v1618 (players1566 : (List (Str × (Tu Str)))), fz v1620 (seats1567 : (List (Tu Str))), fz v1622 (x1592 : Int)], ⟨v1618, v1620, (p1570), v1622, rfl, rfl, rfl⟩, (all_cons r1619 (all_cons r1621 (all_cons r1623 all_nil))), (fun v L' z => by obtain ⟨_, _, _, _, e, z⟩ := z; cases e; exact z), (fun e L' z => z.elim)⟩) h_road_from1624) iv1614) (fun v1628 s1626 z => ?_) (pg_tup rfl (pgs_cons (pg_name (i := 5) sc_seat_all.nd rfl (by first | exact Or.inl rfl | exact Or.inr rfl)) (pgs_cons (pg_name (i := 6) sc_seat_all.nd rfl (by first | exact Or.inl rfl | exact Or.inr rfl)) (pgs_cons (pg_name (i := 7) sc_seat_all.nd rfl (by first | exact Or.inl rfl | exact Or.inr rfl)) pgs_nil))))
    obtain ⟨L1627, ⟨p1630, v1631, p1632, p1633, rfl, rfl⟩, hf1634, iv1625⟩ := z
    refine ⟨_, _, _, _, rfl, Iv.tc iv1625 10, ?_⟩
    have iv1635 : Iv K P0 s0 s1626 [fz aplayers (players1566 : (List (Str × (Tu Str)))), fz aseats (seats1567 : (List (Tu Str))), od p1570 (b1590.1 : (List (Int × Int))), ol p1583 (b1590.2 : (List (Option Int))), fz v1611 (x1592 : Int), fz v1631 (road_from1624.a : (Option Int)), od p1632 (road_from1624.b : (List (Int × Int))), ol p1633 (road_from1624.c : (List Int)), top, top] := Iv.sel iv1625 [some 0, some 1, some 2, some 3, some 4, some 11, some 12, some 13, none, none] (by decide +kernel) (by kernel_rfl)
    have fl1636 := Fle.trans (Fle.refl t1602.F) hf1634
    refine do_ifR (EvB.t (eb_isN (ev_var 5 rfl (Iv.fz (x := (road_from1624.a : (Option Int))) iv1635 5)))) (fun hb1637 s1638 e1639 => ?_) (fun hb1650 s1651 e1652 => ?_)
    · have hm1640 := iteE1 hm1596 hb1637
      have iv1641 := Iv.ex iv1635 e1639
      have fl1642 := Fle.trans fl1636 e1639.f
      obtain rfl := Option.some.inj hm1640
      obtain rfl := hq1617 _ rfl
      obtain rfl := Option.some.inj hm
      refine do_retK (ek_of (eg_tup (egs_cons (eg_ev ev_str) (egs_cons (eg_new (en_some (en_sorted z_sorted (er_raw (xs := (road_from1624.c : (List Int))) (raw_var 7 rfl) (Own.r (Iv.ol (xs := (road_from1624.c : (List Int))) iv1641 7)))))) egs_nil)) (fun vs L' z => by obtain ⟨_, _, _, _, rfl, rfl, rfl, ⟨_, _, _, _, rfl, rfl, ⟨_, rfl, rfl⟩, ⟨rfl, rfl⟩⟩⟩ := z; simp)) iv1641) (fun v1649 s1647 z => ?_)
      obtain ⟨L1648, ⟨p1645, _, _, rfl, ⟨v1643, _, _, _, rfl, rfl, rfl, ⟨_, _, _, _, rfl, rfl, ⟨p1644, rfl, rfl⟩, ⟨rfl, rfl⟩⟩⟩, rfl⟩, _, iv1646⟩ := z
      exact hQ _ _ _ ⟨aplayers, aseats, rfl, p1645, v1643, p1644, rfl, rfl⟩ (Iv.sel iv1646 [some 10, some 11, some 12] (by decide +kernel) (by kernel_rfl))
    · have hm1653 := iteE2 hm1596 hb1650
      have iv1654 := Iv.ex iv1635 e1652
      have fl1655 := Fle.trans fl1636 e1652.f
      obtain ⟨shift_along1658, h_shift_along1658, hm1653⟩ := bndE hm1653
      refine do_exprK (ek_call (ok' := (fun v L' => v = .non ∧ L' = [od p1570 (shift_along1658.1 : (List (Int × Int))), ol p1583 (shift_along1658.2 : (List (Option Int)))])) (ca_fn (E := fun _ _ _ _ => False) C_shift_along pass00 hr (by decide) (ea_cons (raw_var 2 rfl) (ea_cons (raw_var 3 rfl) (ea_cons (raw_var 6 rfl) (ea_cons (ev_var 5 rfl (Iv.fz (x := (road_from1624.a : (Option Int))) iv1654 5)) ea_nil))))) iv1654 ro0 [2, 3] (by decide) (by simp) [.inl 6] (by simp) (fun vs s2 k2 r2 => by obtain ⟨_, _, rfl, rfl, _, _, rfl, rfl, _, _, rfl, rfl, v1656, _, rfl, r1657, rfl⟩ := r2; exact ⟨[fz v1656 (road_from1624.a : (Option Int))], ⟨(p1570), (p1583), (p1632), v1656, rfl, rfl, rfl⟩, (all_cons r1657 all_nil), (fun v L' z => by obtain ⟨_, _, _, _, e, z⟩ := z; cases e; exact z), (fun e L' z => z.elim)⟩) h_shift_along1658) (fun v1662 s1660 z => ?_)
      obtain ⟨L1661, ⟨rfl, rfl⟩, hf1663, iv1659⟩ := z
      have iv1664 : Iv K P0 s0 s1660 [fz aplayers (players1566 : (List (Str × (Tu Str)))), fz aseats (seats1567 : (List (Tu Str))), od p1570 (shift_along1658.1 : (List (Int × Int))), ol p1583 (shift_along1658.2 : (List (Option Int))), fz v1611 (x1592 : Int), fz v1631 (road_from1624.a : (Option Int)), od p1632 (road_from1624.b : (List (Int × Int))), ol p1633 (road_from1624.c : (List Int)), top, top] := Iv.sel iv1659 [some 0, some 1, some 10, some 11, some 4, some 5, some 6, some 7, none, none] (by decide +kernel) (by kernel_rfl)
      have fl1665 := Fle.trans fl1655 hf1663
      obtain rfl := Option.some.inj hm1653
      exact do_nil ⟨s1660, rfl, _, rfl, fl1665, ⟨_, _, _, _, rfl, Iv.sel iv1664 [some 0, some 1, some 2, some 3, none, none, none, none, none, none] (by decide +kernel) (by kernel_rfl)⟩⟩
  · subst ho1676
    replace hm := goN hm
    have hf1677 := Fle.trans k1667.f fl1670
    obtain ⟨y1678, y1679, y1680, y1681, rfl, iv1682⟩ := hR1671
    obtain rfl := Option.some.inj hm
    refine do_retK (ek_of (eg_tup (egs_cons (eg_ev ev_str) (egs_cons (eg_raw (raw_var 3 rfl)) egs_nil)) (fun vs L' z => by obtain ⟨_, _, _, _, rfl, rfl, rfl, ⟨_, _, _, _, rfl, rfl, ⟨rfl, rfl⟩, ⟨rfl, rfl⟩⟩⟩ := z; simp)) iv1682) (fun v1688 s1686 z => ?_)
    obtain ⟨L1687, ⟨p1684, _, _, rfl, ⟨v1683, _, _, _, rfl, rfl, rfl, ⟨_, _, _, _, rfl, rfl, ⟨rfl, rfl⟩, ⟨rfl, rfl⟩⟩⟩, rfl⟩, _, iv1685⟩ := z
    exact hQ _ _ _ ⟨aplayers, aseats, rfl, p1684, v1683, p1583, rfl, rfl⟩ (Iv.sel iv1685 [some 10, some 11, some 3] (by decide +kernel) (by kernel_rfl))
abbrev s_short_by : Stmt := topS 25
def pre_short_by : List V → (List (Str × (Tu Str))) × (List (Tu Str)) × (List Int) × Unit → List OA → List OA → Prop := fun vs x L R => ∃ (aplayers : V) (aseats : V) (aill : V), vs = [aplayers, aseats, aill] ∧ L = [fz aplayers (x.1 : (List (Str × (Tu Str)))), fz aseats (x.2.1 : (List (Tu Str))), fz aill (x.2.2.1 : (List Int))] ∧ R = []
def ok_short_by : List V → (List (Str × (Tu Str))) × (List (Tu Str)) × (List Int) × Unit → ((List (Option Int))) → V → List OA → Prop := fun vs x r v L' => ∃ (aplayers : V) (aseats : V) (aill : V), vs = [aplayers, aseats, aill] ∧ (∃ (bres : Addr), v = (.ref bres) ∧ L' = [ol bres (r : (List (Option Int)))])
abbrev N_short_by : List Str := ["players", "seats", "ill", "hale", "word", "places", "k"]
theorem sc_short_by : FnScope N_short_by ["players", "seats", "ill"] (defScope s_short_by) := ⟨rfl, rfl, rfl, by decide +kernel, rfl, by decide +kernel, by decide +kernel⟩
noncomputable def m_short_by (players1689 : (List (Str × (Tu Str)))) (seats1690 : (List (Tu Str))) (ill1691 : (List Int)) : Option ((List (Option Int))) :=
 (chk (RgB ((players1689).length : Int)) (bnd (compO (fun (x1695 : Int) => (some (!decide (x1695 ∈ ill1691)))) (fun (x1695 : Int) => (bnd (atI players1689 x1695) fun at1706 => (some at1706))) (rng 0 ((players1689).length : Int))) fun ys1707 => (chk ((ys1707).length ≤ sizeLine) (lt (ys1707 : (List (Str × (Tu Str)))) fun hale1710 =>
 (bnd (a_seat_all (hale1710, seats1690, ())) fun seat_all1727 => (if (decide (seat_all1727.1 = ("short" : Str))) = true then
 (some seat_all1727.2)
 else
 (some ([] : List (Option Int)))))))))
noncomputable abbrev a_short_by : (List (Str × (Tu Str))) × (List (Tu Str)) × (List Int) × Unit → Option ((List (Option Int))) := fun x => m_short_by x.1 x.2.1 x.2.2.1
theorem ok_short_by_fn {P : Program} {w : World} {K : PySem.W.Frag} {mg : Str → Option Value} {base : Heap} {f : Addr} {fd : FuncData} (F : FunM K "short_by" "short_by" s_short_by f fd) (C_seat_all : Cal P w K mg base CX0 3 "seat_all" (spI K pre_seat_all a_seat_all ok_seat_all noEr)) (z_range : mg "range" = none) (z_len : mg "len" = none) : FnOk P w K mg base CX0 4 f fd ["players", "seats", "ill"] (spI K pre_short_by a_short_by ok_short_by noEr) := by
  refine mk_I (k := 3) F sc_short_by (fun vs a L R h => by obtain ⟨_, _, _, rfl, _⟩ := h; rfl) ?_
  rintro cdv A' outer sh0 H0 X0 hr s0 P0 L0 R0 vs ⟨players1689, seats1690, ill1691, _⟩ o0 Q ⟨aplayers, aseats, aill, rfl, rfl, rfl⟩ iv1692 ro hm hQ
  unfold a_short_by m_short_by at hm
  dsimp only at hm
  have iv1693 : Iv K P0 s0 s0 [fz aplayers (players1689 : (List (Str × (Tu Str)))), fz aseats (seats1690 : (List (Tu Str))), fz aill (ill1691 : (List Int)), top, top, top, top] := Iv.sel iv1692 [some 0, some 1, some 2, none, none, none, none] (by decide +kernel) (by kernel_rfl)
  obtain ⟨hc1694, hm⟩ := chkE hm
  obtain ⟨ys1707, h_ys1707, hm⟩ := bndE hm
  obtain ⟨hc1708, hm⟩ := chkE hm
  refine do_setL 3 (en_comp1 (own := [("k", 6)]) (j := 6) (t := fun (x1695 : Int) => (some (!decide (x1695 ∈ ill1691)))) (f := fun (x1695 : Int) => (bnd (atI players1689 x1695) fun at1706 => (some at1706))) rfl sc_short_by.nd (ei_range1 z_range (ev_len z_len (Ev.r (ev_var 0 rfl (Iv.fz (x := (players1689 : (List (Str × (Tu Str))))) iv1693 0)))) hc1694) (blkOk_by (own := [("k", 6)]) (N := N_short_by) (sc := defScope s_short_by) (by decide +kernel)) rfl (by decide) (fun _ _ _ _ _ => pg_name (i := 6) sc_short_by.nd rfl (by first | exact Or.inl rfl | exact Or.inr rfl)) h_ys1707 hc1708 (fun x1695 y1696 v1704 s1697 hx1699 e1698 r1705 hf1700 _ _ _ _ _ => by have z1703 := Enc.mono e1698.f (Iv.fz (v := aill) (x := (ill1691 : (List Int))) iv1693 2); obtain rfl := Option.some.inj hf1700; exact (EvB.t (eb_notIn (ev_var 6 rfl r1705) (Ev.r (ev_var 2 rfl z1703))))) (fun x1695 y1696 v1704 s1697 hx1699 e1698 r1705 ht1709 hf1700 _ _ _ _ _ => by have z1701 := Enc.mono e1698.f (Iv.fz (v := aplayers) (x := (players1689 : (List (Str × (Tu Str))))) iv1693 0); obtain ⟨at1706, h_at1706, hf1700⟩ := bndE hf1700; obtain rfl := Option.some.inj hf1700; exact (ev_ix (Ev.r (ev_var 0 rfl z1701)) (ev_var 6 rfl r1705) h_at1706))) (fun p1716 s1712 e1713 n1717 o1718 => ?_) rfl rfl
  obtain ⟨s1719, hs1720, e1721, r1715⟩ := frz_ex e1713 n1717 o1718
  rw [← hs1720]
  obtain ⟨hale1710, q1711, hm⟩ := ltE hm
  have iv1722 := Iv.sf iv1693 3 e1721 r1715 q1711
  obtain ⟨seat_all1727, h_seat_all1727, hm⟩ := bndE hm
  refine do_unpK2 4 5 (ek_of (eg_call (ok' := (fun v L' => ∃ (p1733 : Addr) (v1734 : V) (p1735 : Addr), v = (.ref p1733) ∧ L' = [tc p1733 [v1734, (.ref p1735)], fz v1734 (seat_all1727.1 : Str), ol p1735 (seat_all1727.2 : (List (Option Int)))])) (ca_fn (E := fun _ _ _ _ => False) C_seat_all pass00 hr (by decide) (ea_cons (ev_var 3 rfl (Iv.fz (x := (hale1710 : (List (Str × (Tu Str))))) iv1722 3)) (ea_cons (ev_var 1 rfl (Iv.fz (x := (seats1690 : (List (Tu Str)))) iv1722 1)) ea_nil))) iv1722 ro0 [] (fun vs s2 k2 r2 => by obtain ⟨v1723, _, rfl, r1724, v1725, _, rfl, r1726, rfl⟩ := r2; exact ⟨[fz v1723 (hale1710 : (List (Str × (Tu Str)))), fz v1725 (seats1690 : (List (Tu Str)))], ⟨v1723, v1725, rfl, rfl, rfl⟩, (all_cons r1724 (all_cons r1726 all_nil)), (fun v L' z => by obtain ⟨_, _, e, z⟩ := z; cases e; exact z), (fun e L' z => z.elim)⟩) h_seat_all1727) iv1722) (fun v1731 s1729 z => ?_) (pg_tup rfl (pgs_cons (pg_name (i := 4) sc_short_by.nd rfl (by first | exact Or.inl rfl | exact Or.inr rfl)) (pgs_cons (pg_name (i := 5) sc_short_by.nd rfl (by first | exact Or.inl rfl | exact Or.inr rfl)) pgs_nil)))
  obtain ⟨L1730, ⟨p1733, v1734, p1735, rfl, rfl⟩, hf1736, iv1728⟩ := z
  refine ⟨_, _, _, rfl, Iv.tc iv1728 7, ?_⟩
  have iv1737 : Iv K P0 s0 s1729 [fz aplayers (players1689 : (List (Str × (Tu Str)))), fz aseats (seats1690 : (List (Tu Str))), fz aill (ill1691 : (List Int)), fz (V.ref p1716) (hale1710 : (List (Str × (Tu Str)))), fz v1734 (seat_all1727.1 : Str), ol p1735 (seat_all1727.2 : (List (Option Int))), top] := Iv.sel iv1728 [some 0, some 1, some 2, some 3, some 8, some 9, none] (by decide +kernel) (by kernel_rfl)
  refine do_retK (ek_of (eg_if (EvB.t (eb_eq (ev_var 4 rfl (Iv.fz (x := (seat_all1727.1 : Str)) iv1737 4)) ev_str)) (fun _ => (eg_raw (raw_var 5 rfl))) (fun _ => (eg_new (en_list (xs := ([] : List (Option Int))) ee_nil (by simp [sizeLine]))))) iv1737) (fun v1742 s1740 z => ?_)
  obtain ⟨L1741, z1744, _, iv1739⟩ := z
  rcases z1744 with ⟨hc1745, z1744⟩ | ⟨hc1745, z1744⟩
  · rw [if_pos hc1745] at hm
    obtain ⟨rfl, rfl⟩ := z1744
    obtain rfl := Option.some.inj hm
    exact hQ _ _ _ ⟨aplayers, aseats, aill, rfl, p1735, rfl, rfl⟩ (Iv.sel iv1739 [some 5] (by decide +kernel) (by kernel_rfl))
  · rw [if_neg (by rw [hc1745]; exact Bool.false_ne_true)] at hm
    obtain ⟨p1738, rfl, rfl⟩ := z1744
    obtain rfl := Option.some.inj hm
    exact hQ _ _ _ ⟨aplayers, aseats, aill, rfl, p1738, rfl, rfl⟩ (Iv.sel iv1739 [some 7] (by decide +kernel) (by kernel_rfl))
abbrev s_Costs_cost_at : Stmt := clsS 23 2
def pre_Costs_cost_at : List V → R_Costs_s × Int × Int × Unit → List OA → List OA → Prop := fun vs x L R => ∃ (aself : Addr) (aself_sat : Addr) (aself_hale : V) (aself_costs : V) (aplayer : V) (aseat : V), vs = [(.ref aself), aplayer, aseat] ∧ L = [fz aplayer (x.2.1 : Int), fz aseat (x.2.2.1 : Int)] ∧ R = [cell aself "Costs" [("sat", (.ref aself_sat)), ("hale", aself_hale), ("costs", aself_costs)], od aself_sat (x.1.sat : (List (Int × Int))), top, top]
def ok_Costs_cost_at : List V → R_Costs_s × Int × Int × Unit → (Int) → V → List OA → Prop := fun vs x r v L' => ∃ (aself : Addr) (aself_sat : Addr) (aself_hale : V) (aself_costs : V) (aplayer : V) (aseat : V), vs = [(.ref aself), aplayer, aseat] ∧ (∃ (bres : V), v = bres ∧ L' = [fz bres (r : Int)])
abbrev N_Costs_cost_at : List Str := ["self", "player", "seat"]
theorem sc_Costs_cost_at : FnScope N_Costs_cost_at ["self", "player", "seat"] (defScope s_Costs_cost_at) := ⟨rfl, rfl, rfl, by decide +kernel, rfl, by decide +kernel, by decide +kernel⟩
noncomputable def m_Costs_cost_at (self1754 : R_Costs_s) (player1755 : Int) (seat1756 : Int) : Option (Int) :=
 (some (if (!decide ((dval self1754.sat player1755) = (some seat1756))) = true then (1 : Int) else 0))
noncomputable abbrev a_Costs_cost_at : R_Costs_s × Int × Int × Unit → Option (Int) := fun x => m_Costs_cost_at x.1 x.2.1 x.2.2.1
theorem ok_Costs_cost_at_fn {P : Program} {w : World} {K : PySem.W.Frag} {mg : Str → Option Value} {base : Heap} {f : Addr} {fd : FuncData} (F : FunM K "cost_at" "Costs.cost_at" s_Costs_cost_at f fd) (z_int : mg "int" = none) (CL_Costs : ClsF K "Costs" ["sat", "hale", "costs"] ["__init__", "rise", "cost_at"]) : FnOk P w K mg base CX0 1 f fd ["self", "player", "seat"] (spI K pre_Costs_cost_at a_Costs_cost_at ok_Costs_cost_at noEr) := by
  refine mk_I (k := 0) F sc_Costs_cost_at (fun vs a L R h => by obtain ⟨_, _, _, _, _, _, rfl, _⟩ := h; rfl) ?_
  rintro cdv A' outer sh0 H0 X0 hr s0 P0 L0 R0 vs ⟨self1754, player1755, seat1756, _⟩ o0 Q ⟨aself, aself_sat, aself_hale, aself_costs, aplayer, aseat, rfl, rfl, rfl⟩ iv1757 ro hm hQ
  unfold a_Costs_cost_at m_Costs_cost_at at hm
  dsimp only at hm
  have iv1758 : Iv K P0 s0 s0 [top, fz aplayer (player1755 : Int), fz aseat (seat1756 : Int), top, top, top] := Iv.sel iv1757 [none, some 0, some 1, none, none, none] (by decide +kernel) (by kernel_rfl)
  obtain rfl := Option.some.inj hm
  refine do_retK (ek_of (eg_ev (ev_intB z_int (EvB.v (eb_neF (ε := (Option Int)) (ev_dget1 hr (raw_fld (raw_var 0 rfl) (Iv.rcell iv1758 ro 0) rfl CL_Costs.cl (CL_Costs.na "sat" (by simp))) (Iv.rod (xs := (self1754.sat : (List (Int × Int)))) iv1758 ro 1) (ev_var 1 rfl (Iv.fz (x := (player1755 : Int)) iv1758 1))) (ev_some (ev_var 2 rfl (Iv.fz (x := (seat1756 : Int)) iv1758 2))))))) iv1758) (fun v1759 s1761 z => ?_)
  obtain ⟨L1762, rfl, _, iv1760⟩ := z
  exact hQ _ _ _ ⟨aself, aself_sat, aself_hale, aself_costs, aplayer, aseat, rfl, v1759, rfl, rfl⟩ (Iv.sel iv1760 [some 6] (by decide +kernel) (by kernel_rfl))
abbrev s_Costs_rise : Stmt := clsS 23 1
def pre_Costs_rise : List V → R_Costs_s × Int × Unit → List OA → List OA → Prop := fun vs x L R => ∃ (aself : Addr) (aself_sat : Addr) (aself_hale : V) (aself_costs : V) (aplayer : V), vs = [(.ref aself), aplayer] ∧ L = [fz aplayer (x.2.1 : Int)] ∧ R = [cell aself "Costs" [("sat", (.ref aself_sat)), ("hale", aself_hale), ("costs", aself_costs)], od aself_sat (x.1.sat : (List (Int × Int))), top, top]
def ok_Costs_rise : List V → R_Costs_s × Int × Unit → (Int) → V → List OA → Prop := fun vs x r v L' => ∃ (aself : Addr) (aself_sat : Addr) (aself_hale : V) (aself_costs : V) (aplayer : V), vs = [(.ref aself), aplayer] ∧ (∃ (bres : V), v = bres ∧ L' = [fz bres (r : Int)])
abbrev N_Costs_rise : List Str := ["self", "player"]
theorem sc_Costs_rise : FnScope N_Costs_rise ["self", "player"] (defScope s_Costs_rise) := ⟨rfl, rfl, rfl, by decide +kernel, rfl, by decide +kernel, by decide +kernel⟩
noncomputable def m_Costs_rise (self1764 : R_Costs_s) (player1765 : Int) : Option (Int) :=
 (some (if ((dval self1764.sat player1765).isSome) = true then (1 : Int) else 0))
noncomputable abbrev a_Costs_rise : R_Costs_s × Int × Unit → Option (Int) := fun x => m_Costs_rise x.1 x.2.1
theorem ok_Costs_rise_fn {P : Program} {w : World} {K : PySem.W.Frag} {mg : Str → Option Value} {base : Heap} {f : Addr} {fd : FuncData} (F : FunM K "rise" "Costs.rise" s_Costs_rise f fd) (z_int : mg "int" = none) (CL_Costs : ClsF K "Costs" ["sat", "hale", "costs"] ["__init__", "rise", "cost_at"]) : FnOk P w K mg base CX0 1 f fd ["self", "player"] (spI K pre_Costs_rise a_Costs_rise ok_Costs_rise noEr) := by
  refine mk_I (k := 0) F sc_Costs_rise (fun vs a L R h => by obtain ⟨_, _, _, _, _, rfl, _⟩ := h; rfl) ?_
  rintro cdv A' outer sh0 H0 X0 hr s0 P0 L0 R0 vs ⟨self1764, player1765, _⟩ o0 Q ⟨aself, aself_sat, aself_hale, aself_costs, aplayer, rfl, rfl, rfl⟩ iv1766 ro hm hQ
  unfold a_Costs_rise m_Costs_rise at hm
  dsimp only at hm
  have iv1767 : Iv K P0 s0 s0 [top, fz aplayer (player1765 : Int), top, top, top] := Iv.sel iv1766 [none, some 0, none, none, none] (by decide +kernel) (by kernel_rfl)
  obtain rfl := Option.some.inj hm
  refine do_retK (ek_of (eg_ev (ev_intB z_int (EvB.v (ev_din hr (ev_var 1 rfl (Iv.fz (x := (player1765 : Int)) iv1767 1)) (raw_fld (raw_var 0 rfl) (Iv.rcell iv1767 ro 0) rfl CL_Costs.cl (CL_Costs.na "sat" (by simp))) (Iv.rod (xs := (self1764.sat : (List (Int × Int)))) iv1767 ro 1))))) iv1767) (fun v1768 s1770 z => ?_)
  obtain ⟨L1771, rfl, _, iv1769⟩ := z
  exact hQ _ _ _ ⟨aself, aself_sat, aself_hale, aself_costs, aplayer, rfl, v1768, rfl, rfl⟩ (Iv.sel iv1769 [some 5] (by decide +kernel) (by kernel_rfl))
abbrev s_Costs_init : Stmt := clsS 23 0
def pre_Costs_init : List V → (List (Str × (Tu Str))) × (List (Tu Str)) × (List Int) × (List Int) × Unit → List OA → List OA → Prop := fun vs x L R => ∃ (aself : Addr) (aplayers : V) (aseats : V) (arow : V) (aill : V), vs = [(.ref aself), aplayers, aseats, arow, aill] ∧ L = [cell aself "Costs" [], fz aplayers (x.1 : (List (Str × (Tu Str)))), fz aseats (x.2.1 : (List (Tu Str))), fz arow (x.2.2.1 : (List Int)), fz aill (x.2.2.2.1 : (List Int))] ∧ R = []
def ok_Costs_init : List V → (List (Str × (Tu Str))) × (List (Tu Str)) × (List Int) × (List Int) × Unit → (R_Costs) → V → List OA → Prop := fun vs x r v L' => ∃ (aself : Addr) (aplayers : V) (aseats : V) (arow : V) (aill : V), vs = [(.ref aself), aplayers, aseats, arow, aill] ∧ (∃ (bself_sat : Addr) (bself_hale : Addr) (bself_costs : Addr), v = .non ∧ L' = [cell aself "Costs" [("sat", (.ref bself_sat)), ("hale", (.ref bself_hale)), ("costs", (.ref bself_costs))], od bself_sat (r.sat : (List (Int × Int))), ol bself_hale (r.hale : (List Int)), ol bself_costs (r.costs : (List (Dc Int Int)))])
abbrev N_Costs_init : List Str := ["self", "players", "seats", "row", "ill", "seat", "told", "k"]
theorem sc_Costs_init : FnScope N_Costs_init ["self", "players", "seats", "row", "ill"] (defScope s_Costs_init) := ⟨rfl, rfl, rfl, by decide +kernel, rfl, by decide +kernel, by decide +kernel⟩
noncomputable def m_Costs_init (players1773 : (List (Str × (Tu Str)))) (seats1774 : (List (Tu Str))) (row1775 : (List Int)) (ill1776 : (List Int)) : Option (R_Costs) :=
 (chk (RgB ((row1775).length : Int)) (bnd (foldO (fun (b1789 : R_Costs_1) (x1791 : Int) =>
 (bnd (atI row1775 x1791) fun at1818 => (chk ((b1789.sat).length < sizeLine) (lt ((dput b1789.sat at1818 x1791) : (List (Int × Int))) fun kv1816 =>
 (some (⟨kv1816⟩ : R_Costs_1)))))) (⟨([] : (List (Int × Int)))⟩ : R_Costs_1) (rng 0 ((row1775).length : Int))) fun o1787 =>
 (chk (RgB ((players1773).length : Int)) (chk (((List.map (fun (x1836 : Int) => x1836) (List.filter (fun (x1836 : Int) => (!decide (x1836 ∈ ill1776))) (rng 0 ((players1773).length : Int))))).length ≤ sizeLine) (chk (RgB ((seats1774).length : Int)) (bnd (foldO (fun (b1869 : R_Costs) (x1871 : Int) =>
 (bnd (foldO (fun (b1908 : (List (Int × Int))) (x1910 : Int) =>
 (bnd (atI players1773 x1910) fun at1935 => (bnd (atI seats1774 x1871) fun at1936 => (bnd (m_can_sit at1935 at1936) fun can_sit1937 => (bnd (if can_sit1937 = true then
 (bnd (a_Costs_cost_at ((⟨b1869.sat⟩ : R_Costs_s), x1910, x1871, ())) fun cost_at1984 => (bnd (a_Costs_rise ((⟨b1869.sat⟩ : R_Costs_s), x1910, ())) fun rise1987 => (chk ((b1908).length < sizeLine) (lt ((dput b1908 x1910 (cost_at1984 - rise1987)) : (List (Int × Int))) fun kv1978 =>
 (some kv1978)))))
 else
 (some b1908) : Option ((List (Int × Int)))) fun b1966 =>
 (some b1966)))))) ([] : (List (Int × Int))) b1869.hale) fun o1906 =>
 (chk ((b1869.costs).length < sizeLine) (lt ((b1869.costs ++ [(Dc.mk o1906)]) : (List (Dc Int Int))) fun ls2023 =>
 (some (⟨b1869.sat, b1869.hale, ls2023⟩ : R_Costs)))))) (⟨o1787.sat, (List.map (fun (x1836 : Int) => x1836) (List.filter (fun (x1836 : Int) => (!decide (x1836 ∈ ill1776))) (rng 0 ((players1773).length : Int)))), ([] : List (Dc Int Int))⟩ : R_Costs) (rng 0 ((seats1774).length : Int))) fun o1867 =>
 (some (⟨o1867.sat, o1867.hale, o1867.costs⟩ : R_Costs))))))))
noncomputable abbrev a_Costs_init : (List (Str × (Tu Str))) × (List (Tu Str)) × (List Int) × (List Int) × Unit → Option (R_Costs) := fun x => m_Costs_init x.1 x.2.1 x.2.2.1 x.2.2.2.1
theorem ok_Costs_init_fn {P : Program} {w : World} {K : PySem.W.Frag} {mg : Str → Option Value} {base : Heap} {f : Addr} {fd : FuncData} (F : FunM K "__init__" "Costs.__init__" s_Costs_init f fd) (C_can_sit : Cal P w K mg base CX0 1 "can_sit" (sp K a_can_sit)) (C_Costs_cost_at : CalM P w K mg base CX0 1 "Costs" "cost_at" (spI K pre_Costs_cost_at a_Costs_cost_at ok_Costs_cost_at noEr)) (C_Costs_rise : CalM P w K mg base CX0 1 "Costs" "rise" (spI K pre_Costs_rise a_Costs_rise ok_Costs_rise noEr)) (z_range : mg "range" = none) (z_len : mg "len" = none) (CL_Costs : ClsF K "Costs" ["sat", "hale", "costs"] ["__init__", "rise", "cost_at"]) : FnOk P w K mg base CX0 2 f fd ["self", "players", "seats", "row", "ill"] (spI K pre_Costs_init a_Costs_init ok_Costs_init noEr) := by
  refine mk_I (k := 1) F sc_Costs_init (fun vs a L R h => by obtain ⟨_, _, _, _, _, rfl, _⟩ := h; rfl) ?_
  rintro cdv A' outer sh0 H0 X0 hr s0 P0 L0 R0 vs ⟨players1773, seats1774, row1775, ill1776, _⟩ o0 Q ⟨aself, aplayers, aseats, arow, aill, rfl, rfl, rfl⟩ iv1777 ro hm hQ
  unfold a_Costs_init m_Costs_init at hm
  dsimp only at hm
  have iv1778 : Iv K P0 s0 s0 [cell aself "Costs" [], fz aplayers (players1773 : (List (Str × (Tu Str)))), fz aseats (seats1774 : (List (Tu Str))), fz arow (row1775 : (List Int)), fz aill (ill1776 : (List Int)), top, top, top, top, top, top] := Iv.sel iv1777 [some 0, some 1, some 2, some 3, some 4, none, none, none, none, none, none] (by decide +kernel) (by kernel_rfl)
  refine do_fldG iv1778 0 rfl (raw_var 0 rfl) (eg_newD (xs := ([] : (List (Int × Int)))) en_dnew) CL_Costs.cl (CL_Costs.na "sat" (by simp)) (by simp) (fun v1780 s1781 L1782 z1784 hf_iv1783 iv1783 => ?_)
  obtain ⟨p1779, rfl, rfl⟩ := z1784
  have iv1785 : Iv K P0 s0 s1781 [cell aself "Costs" [("sat", (.ref p1779))], fz aplayers (players1773 : (List (Str × (Tu Str)))), fz aseats (seats1774 : (List (Tu Str))), fz arow (row1775 : (List Int)), fz aill (ill1776 : (List Int)), top, top, top, od p1779 (([] : (List (Int × Int))) : (List (Int × Int))), top, top] := Iv.sel iv1783 [some 0, some 1, some 2, some 3, some 4, none, none, none, some 11, none, none] (by decide +kernel) (by kernel_rfl)
  obtain ⟨hc1786, hm⟩ := chkE hm
  obtain ⟨o1787, ho1788, hm⟩ := bndE hm
  refine do_forO (υ := R_Costs_1) PassesOwn.never rfl (ei_range1 z_range (ev_len z_len (Ev.r (ev_var 3 rfl (Iv.fz (x := (row1775 : (List Int))) iv1785 3)))) hc1786) (pg_name (i := 5) sc_Costs_init.nd rfl (by first | exact Or.inl rfl | exact Or.inr rfl)) tg_n ho1788 (fun (b1789 : R_Costs_1) (σ' : L2.St) (t' : S) => ∃ (p_self_sat : Addr) (y_seat : Option V), σ' = [some (.ref aself), some aplayers, some aseats, some arow, some aill, y_seat, none, none] ∧ Iv K P0 s0 t' [cell aself "Costs" [("sat", (.ref p_self_sat))], fz aplayers (players1773 : (List (Str × (Tu Str)))), fz aseats (seats1774 : (List (Tu Str))), fz arow (row1775 : (List Int)), fz aill (ill1776 : (List Int)), top, top, top, od p_self_sat (b1789.sat : (List (Int × Int))), top, top]) (fun s1828 k1829 => by have iv1830 := Iv.ex iv1785 k1829; exact ⟨p1779, _, rfl, Iv.sel iv1830 [some 0, some 1, some 2, some 3, some 4, none, none, none, some 8, none, none] (by decide +kernel) (by kernel_rfl)⟩) (fun s1792 k1793 x1791 b1789 b1790 σ1802 σ1803 t1800 t1801 hx1794 hm1795 fl1796 hR1797 k1798 hB1799 => ?_) (fun s1822 k1823 σ1824 t1825 fl1826 hR1827 => ?_)
  · have hf1804 := Fle.trans k1793.f fl1796
    obtain ⟨p1805, y1806, rfl, iv1807⟩ := hR1797
    obtain ⟨v1808, r1809, rfl⟩ := hB1799
    have iv1810 := Iv.ex iv1807 k1798
    have iv1811 := Iv.sf iv1810 5 (Ex.refl t1801) r1809 rfl
    have fl1812 := Fle.trans (Fle.refl t1801.F) (Ex.refl t1801).f
    obtain ⟨at1818, h_at1818, hm1795⟩ := bndE hm1795
    obtain ⟨hc1819, hm1795⟩ := chkE hm1795
    refine do_dput hr (raw_fld (raw_var 0 rfl) (Iv.cell iv1811 0) rfl CL_Costs.cl (CL_Costs.na "sat" (by simp))) (Iv.od (xs := (b1789.sat : (List (Int × Int)))) iv1811 8) (ev_var 5 rfl (Iv.fz (x := (x1791 : Int)) iv1811 5)) (ev_ix (Ev.r (ev_var 3 rfl (Iv.fz (x := (row1775 : (List Int))) iv1811 3))) (ev_var 5 rfl (Iv.fz (x := (x1791 : Int)) iv1811 5)) h_at1818) hc1819 (fun s1813 m1814 o1815 => ?_)
    obtain ⟨kv1816, q1817, hm1795⟩ := ltE hm1795
    have iv1820 := Iv.md iv1811 8 m1814 o1815 q1817
    have fl1821 := Fle.trans (Fle.refl t1801.F) m1814.f
    obtain rfl := Option.some.inj hm1795
    exact do_nil ⟨s1813, rfl, fl1821, ⟨p1805, _, rfl, Iv.sel iv1820 [some 0, some 1, some 2, some 3, some 4, none, none, none, some 8, none, none] (by decide +kernel) (by kernel_rfl)⟩⟩
  · have hf1831 := Fle.trans k1823.f fl1826
    obtain ⟨p1832, y1833, rfl, iv1834⟩ := hR1827
    obtain ⟨hc1835, hm⟩ := chkE hm
    obtain ⟨hc1850, hm⟩ := chkE hm
    refine do_fldG iv1834 0 rfl (raw_var 0 rfl) (eg_new (EvL.n (en_comp1 (own := [("k", 7)]) (j := 7) (t := fun (x1836 : Int) => (some (!decide (x1836 ∈ ill1776)))) (f := fun (x1836 : Int) => (some x1836)) rfl sc_Costs_init.nd (ei_range1 z_range (ev_len z_len (Ev.r (ev_var 1 rfl (Iv.fz (x := (players1773 : (List (Str × (Tu Str))))) iv1834 1)))) hc1835) (blkOk_by (own := [("k", 7)]) (N := N_Costs_init) (sc := defScope s_Costs_init) (by decide +kernel)) rfl (by decide) (fun _ _ _ _ _ => pg_name (i := 7) sc_Costs_init.nd rfl (by first | exact Or.inl rfl | exact Or.inr rfl)) (compO_pure (fun (x1836 : Int) => (!decide (x1836 ∈ ill1776))) (fun (x1836 : Int) => x1836) (rng 0 ((players1773).length : Int))) hc1850 (fun x1836 y1837 v1848 s1838 hx1840 e1839 r1849 hf1841 _ _ _ _ _ => by have z1847 := Enc.mono e1839.f (Iv.fz (v := aill) (x := (ill1776 : (List Int))) iv1834 4); obtain rfl := Option.some.inj hf1841; exact (EvB.t (eb_notIn (ev_var 7 rfl r1849) (Ev.r (ev_var 4 rfl z1847))))) (fun x1836 y1837 v1848 s1838 hx1840 e1839 r1849 ht1851 hf1841 _ _ _ _ _ => by obtain rfl := Option.some.inj hf1841; exact (ev_var 7 rfl r1849))))) CL_Costs.cl (CL_Costs.na "hale" (by simp)) (by simp) (fun v1853 s1854 L1855 z1857 hf_iv1856 iv1856 => ?_)
    obtain ⟨p1852, rfl, rfl⟩ := z1857
    have iv1858 : Iv K P0 s0 s1854 [cell aself "Costs" [("sat", (.ref p1832)), ("hale", (.ref p1852))], fz aplayers (players1773 : (List (Str × (Tu Str)))), fz aseats (seats1774 : (List (Tu Str))), fz arow (row1775 : (List Int)), fz aill (ill1776 : (List Int)), top, top, top, od p1832 (o1787.sat : (List (Int × Int))), ol p1852 ((List.map (fun (x1836 : Int) => x1836) (List.filter (fun (x1836 : Int) => (!decide (x1836 ∈ ill1776))) (rng 0 ((players1773).length : Int)))) : (List Int)), top] := Iv.sel iv1856 [some 0, some 1, some 2, some 3, some 4, none, none, none, some 8, some 11, none] (by decide +kernel) (by kernel_rfl)
    refine do_fldG iv1858 0 rfl (raw_var 0 rfl) (eg_new (en_list (xs := ([] : List (Dc Int Int))) ee_nil (by simp [sizeLine]))) CL_Costs.cl (CL_Costs.na "costs" (by simp)) (by simp) (fun v1860 s1861 L1862 z1864 hf_iv1863 iv1863 => ?_)
    obtain ⟨p1859, rfl, rfl⟩ := z1864
    have iv1865 : Iv K P0 s0 s1861 [cell aself "Costs" [("sat", (.ref p1832)), ("hale", (.ref p1852)), ("costs", (.ref p1859))], fz aplayers (players1773 : (List (Str × (Tu Str)))), fz aseats (seats1774 : (List (Tu Str))), fz arow (row1775 : (List Int)), fz aill (ill1776 : (List Int)), top, top, top, od p1832 (o1787.sat : (List (Int × Int))), ol p1852 ((List.map (fun (x1836 : Int) => x1836) (List.filter (fun (x1836 : Int) => (!decide (x1836 ∈ ill1776))) (rng 0 ((players1773).length : Int)))) : (List Int)), ol p1859 (([] : List (Dc Int Int)) : (List (Dc Int Int)))] := Iv.sel iv1863 [some 0, some 1, some 2, some 3, some 4, none, none, none, some 8, some 9, some 11] (by decide +kernel) (by kernel_rfl)
    obtain ⟨hc1866, hm⟩ := chkE hm
    obtain ⟨o1867, ho1868, hm⟩ := bndE hm
    refine do_forO (υ := R_Costs) PassesOwn.never rfl (ei_range1 z_range (ev_len z_len (Ev.r (ev_var 2 rfl (Iv.fz (x := (seats1774 : (List (Tu Str)))) iv1865 2)))) hc1866) (pg_name (i := 5) sc_Costs_init.nd rfl (by first | exact Or.inl rfl | exact Or.inr rfl)) tg_n ho1868 (fun (b1869 : R_Costs) (σ' : L2.St) (t' : S) => ∃ (p_self_sat : Addr) (p_self_hale : Addr) (p_self_costs : Addr) (y_told : Option V) (y_k : Option V) (y_seat : Option V), σ' = [some (.ref aself), some aplayers, some aseats, some arow, some aill, y_seat, y_told, y_k] ∧ Iv K P0 s0 t' [cell aself "Costs" [("sat", (.ref p_self_sat)), ("hale", (.ref p_self_hale)), ("costs", (.ref p_self_costs))], fz aplayers (players1773 : (List (Str × (Tu Str)))), fz aseats (seats1774 : (List (Tu Str))), fz arow (row1775 : (List Int)), fz aill (ill1776 : (List Int)), top, top, top, od p_self_sat (b1869.sat : (List (Int × Int))), ol p_self_hale (b1869.hale : (List Int)), ol p_self_costs (b1869.costs : (List (Dc Int Int)))]) (fun s2034 k2035 => by have iv2036 := Iv.ex iv1865 k2035; exact ⟨p1832, p1852, p1859, _, _, _, rfl, Iv.sel iv2036 [some 0, some 1, some 2, some 3, some 4, none, none, none, some 8, some 9, some 10] (by decide +kernel) (by kernel_rfl)⟩) (fun s1872 k1873 x1871 b1869 b1870 σ1882 σ1883 t1880 t1881 hx1874 hm1875 fl1876 hR1877 k1878 hB1879 => ?_) (fun s2028 k2029 σ2030 t2031 fl2032 hR2033 => ?_)
    · have hf1884 := Fle.trans k1873.f fl1876
      obtain ⟨p1885, p1886, p1887, y1888, y1889, y1890, rfl, iv1891⟩ := hR1877
      obtain ⟨v1892, r1893, rfl⟩ := hB1879
      have iv1894 := Iv.ex iv1891 k1878
      have iv1895 := Iv.sf iv1894 5 (Ex.refl t1881) r1893 rfl
      have fl1896 := Fle.trans (Fle.refl t1881.F) (Ex.refl t1881).f
      refine do_setG 6 (eg_newD (xs := ([] : (List (Int × Int)))) en_dnew) (fun v1898 s1899 L1900 z1903 iv1901 => ?_) sc_Costs_init.nd
      obtain ⟨p1897, rfl, rfl⟩ := z1903
      have iv1902 := Iv.add iv1895 iv1901
      have iv1904 : Iv K P0 s0 s1899 [cell aself "Costs" [("sat", (.ref p1885)), ("hale", (.ref p1886)), ("costs", (.ref p1887))], fz aplayers (players1773 : (List (Str × (Tu Str)))), fz aseats (seats1774 : (List (Tu Str))), fz arow (row1775 : (List Int)), fz aill (ill1776 : (List Int)), fz v1892 (x1871 : Int), od p1897 (([] : (List (Int × Int))) : (List (Int × Int))), top, od p1885 (b1869.sat : (List (Int × Int))), ol p1886 (b1869.hale : (List Int)), ol p1887 (b1869.costs : (List (Dc Int Int)))] := Iv.sel iv1902 [some 0, some 1, some 2, some 3, some 4, some 5, some 11, none, some 8, some 9, some 10] (by decide +kernel) (by kernel_rfl)
      have fl1905 := Fle.trans (Fle.refl t1881.F) (Ex.f (Iv.exx iv1901))
      obtain ⟨o1906, ho1907, hm1875⟩ := bndE hm1875
      refine do_forG PassesOwn.never rfl (pg_name (i := 7) sc_Costs_init.nd rfl (by first | exact Or.inl rfl | exact Or.inr rfl)) (for_readO (υ := (List (Int × Int))) (ei_rawL (xs := (b1869.hale : (List Int))) (raw_fld (raw_var 0 rfl) (Iv.cell iv1904 0) rfl CL_Costs.cl (CL_Costs.na "hale" (by simp))) (Own.r (Iv.ol (xs := (b1869.hale : (List Int))) iv1904 9))) tg_n ho1907 (fun (b1908 : (List (Int × Int))) (σ' : L2.St) (t' : S) => Fle s1899.F t'.F ∧ ∃ (y_k : Option V), σ' = [some (.ref aself), some aplayers, some aseats, some arow, some aill, some v1892, some (.ref p1897), y_k] ∧ Iv K P0 s0 t' [cell aself "Costs" [("sat", (.ref p1885)), ("hale", (.ref p1886)), ("costs", (.ref p1887))], fz aplayers (players1773 : (List (Str × (Tu Str)))), fz aseats (seats1774 : (List (Tu Str))), fz arow (row1775 : (List Int)), fz aill (ill1776 : (List Int)), fz v1892 (x1871 : Int), od p1897 (b1908 : (List (Int × Int))), top, od p1885 (b1869.sat : (List (Int × Int))), ol p1886 (b1869.hale : (List Int)), ol p1887 (b1869.costs : (List (Dc Int Int)))]) (fun b1908 σ' t' hR => by obtain ⟨f1921, hR1920⟩ := hR; obtain ⟨y1922, rfl, iv1923⟩ := hR1920; exact Own.r (Iv.ol iv1923 9)) (fun s2009 k2010 => by have iv2011 := Iv.ex iv1904 k2010; exact ⟨k2010.f, ⟨_, rfl, Iv.sel iv2011 [some 0, some 1, some 2, some 3, some 4, some 5, some 6, none, some 8, some 9, some 10] (by decide +kernel) (by kernel_rfl)⟩⟩) (fun x1910 b1908 b1909 σ1918 σ1919 t1916 t1917 hx1911 hm1912 hR1913 k1914 hB1915 => ?_) (fun σ2006 t2007 hR2008 => ?_))
      · obtain ⟨fl1924, hR1913'⟩ := hR1913
        obtain ⟨y1925, rfl, iv1926⟩ := hR1913'
        obtain ⟨v1927, r1928, rfl⟩ := hB1915
        have iv1929 := Iv.ex iv1926 k1914
        have fl1930 := Fle.trans fl1924 k1914.f
        have iv1931 := Iv.sf iv1929 7 (Ex.refl t1917) r1928 rfl
        have fl1932 := Fle.trans fl1930 (Ex.refl t1917).f
        obtain ⟨at1935, h_at1935, hm1912⟩ := bndE hm1912
        obtain ⟨at1936, h_at1936, hm1912⟩ := bndE hm1912
        obtain ⟨can_sit1937, h_can_sit1937, hm1912⟩ := bndE hm1912
        obtain ⟨b1966, hj1967, hm1912⟩ := bndE hm1912
        refine do_if (et_v (ev_call C_can_sit hr (by decide) (ea_cons (ev_ix (Ev.r (ev_var 1 rfl (Iv.fz (x := (players1773 : (List (Str × (Tu Str))))) iv1931 1))) (ev_var 7 rfl (Iv.fz (x := (x1910 : Int)) iv1931 7)) h_at1935) (ea_cons (ev_ix (Ev.r (ev_var 2 rfl (Iv.fz (x := (seats1774 : (List (Tu Str)))) iv1931 2))) (ev_var 5 rfl (Iv.fz (x := (x1871 : Int)) iv1931 5)) h_at1936) ea_nil)) h_can_sit1937)) (fun (σ' : L2.St) (t' : S) => Fle t1917.F t'.F ∧ σ' = [some (.ref aself), some aplayers, some aseats, some arow, some aill, some v1892, some (.ref p1897), some v1927] ∧ Iv K P0 s0 t' [cell aself "Costs" [("sat", (.ref p1885)), ("hale", (.ref p1886)), ("costs", (.ref p1887))], fz aplayers (players1773 : (List (Str × (Tu Str)))), fz aseats (seats1774 : (List (Tu Str))), fz arow (row1775 : (List Int)), fz aill (ill1776 : (List Int)), fz v1892 (x1871 : Int), od p1897 (b1966 : (List (Int × Int))), fz v1927 (x1910 : Int), od p1885 (b1869.sat : (List (Int × Int))), ol p1886 (b1869.hale : (List Int)), ol p1887 (b1869.costs : (List (Dc Int Int)))]) (fun hb1968 s1969 e1970 => ?_) (fun hb1992 s1993 e1994 => ?_) (fun σ1999 s2000 hM2001 => ?_)
        · have hm1971 := iteE1 hj1967 hb1968
          have iv1972 := Iv.ex iv1931 e1970
          have fl1973 := Fle.trans fl1932 e1970.f
          have fl1974 := Fle.trans (Fle.refl t1917.F) e1970.f
          obtain ⟨cost_at1984, h_cost_at1984, hm1971⟩ := bndE hm1971
          obtain ⟨rise1987, h_rise1987, hm1971⟩ := bndE hm1971
          obtain ⟨hc1988, hm1971⟩ := chkE hm1971
          refine do_dput hr (raw_var 6 rfl) (Iv.od (xs := (b1908 : (List (Int × Int)))) iv1972 6) (ev_sub (ev_of_eg (eg_call (ok' := (fun v L' => ∃ (bres : V), v = bres ∧ L' = [fz bres (cost_at1984 : Int)])) (ca_meth (E := fun _ _ _ _ => False) C_Costs_cost_at CL_Costs.cl pass00 hr (by decide) (raw_var 0 rfl) (Iv.cell iv1972 0) rfl (ea_cons (ev_var 7 rfl (Iv.fz (x := (x1910 : Int)) iv1972 7)) (ea_cons (ev_var 5 rfl (Iv.fz (x := (x1871 : Int)) iv1972 5)) ea_nil))) iv1972 ro0 [.inl 0, .inl 8, .inl 99999, .inl 99999] (fun vs s2 k2 r2 => by obtain ⟨ws, rfl, r3⟩ := r2; obtain ⟨v1980, _, rfl, r1981, v1982, _, rfl, r1983, rfl⟩ := r3; exact ⟨[fz v1980 (x1910 : Int), fz v1982 (x1871 : Int)], ⟨(aself), (p1885), ((.ref p1886)), ((.ref p1887)), v1980, v1982, rfl, rfl, rfl⟩, (all_cons r1981 (all_cons r1983 all_nil)), (fun v L' z => by obtain ⟨_, _, _, _, _, _, e, z⟩ := z; cases e; exact z), (fun e L' z => z.elim)⟩) h_cost_at1984) (fun v L' z => by obtain ⟨_, rfl, rfl⟩ := z; exact ⟨[], rfl⟩)) (ev_of_eg (eg_call (ok' := (fun v L' => ∃ (bres : V), v = bres ∧ L' = [fz bres (rise1987 : Int)])) (ca_meth (E := fun _ _ _ _ => False) C_Costs_rise CL_Costs.cl pass00 hr (by decide) (raw_var 0 rfl) (Iv.cell iv1972 0) rfl (ea_cons (ev_var 7 rfl (Iv.fz (x := (x1910 : Int)) iv1972 7)) ea_nil)) iv1972 ro0 [.inl 0, .inl 8, .inl 99999, .inl 99999] (fun vs s2 k2 r2 => by obtain ⟨ws, rfl, r3⟩ := r2; obtain ⟨v1985, _, rfl, r1986, rfl⟩ := r3; exact ⟨[fz v1985 (x1910 : Int)], ⟨(aself), (p1885), ((.ref p1886)), ((.ref p1887)), v1985, rfl, rfl, rfl⟩, (all_cons r1986 all_nil), (fun v L' z => by obtain ⟨_, _, _, _, _, e, z⟩ := z; cases e; exact z), (fun e L' z => z.elim)⟩) h_rise1987) (fun v L' z => by obtain ⟨_, rfl, rfl⟩ := z; exact ⟨[], rfl⟩))) (ev_var 7 rfl (Iv.fz (x := (x1910 : Int)) iv1972 7)) hc1988 (fun s1975 m1976 o1977 => ?_)
          obtain ⟨kv1978, q1979, hm1971⟩ := ltE hm1971
          have iv1989 := Iv.md iv1972 6 m1976 o1977 q1979
          have fl1990 := Fle.trans fl1973 m1976.f
          have fl1991 := Fle.trans fl1974 m1976.f
          obtain rfl := Option.some.inj hm1971
          exact do_nil ⟨s1975, rfl, fl1991, ⟨rfl, Iv.sel iv1989 [some 0, some 1, some 2, some 3, some 4, some 5, some 6, some 7, some 8, some 9, some 10] (by decide +kernel) (by kernel_rfl)⟩⟩
        · have hm1995 := iteE2 hj1967 hb1992
          have iv1996 := Iv.ex iv1931 e1994
          have fl1997 := Fle.trans fl1932 e1994.f
          have fl1998 := Fle.trans (Fle.refl t1917.F) e1994.f
          obtain rfl := Option.some.inj hm1995
          exact do_nil ⟨s1993, rfl, fl1998, ⟨rfl, Iv.sel iv1996 [some 0, some 1, some 2, some 3, some 4, some 5, some 6, some 7, some 8, some 9, some 10] (by decide +kernel) (by kernel_rfl)⟩⟩
        · obtain ⟨hf2002, hR2003⟩ := hM2001
          obtain ⟨rfl, iv2004⟩ := hR2003
          have fl2005 := Fle.trans fl1932 hf2002
          obtain rfl := Option.some.inj hm1912
          exact do_nil ⟨s2000, rfl, fl2005, ⟨_, rfl, Iv.sel iv2004 [some 0, some 1, some 2, some 3, some 4, some 5, some 6, none, some 8, some 9, some 10] (by decide +kernel) (by kernel_rfl)⟩⟩
      · obtain ⟨fl2012, hR2008'⟩ := hR2008
        obtain ⟨y2013, rfl, iv2014⟩ := hR2008'
        have fl2015 := Fle.trans fl1905 fl2012
        refine do_frzD iv2014 6 rfl fun s2016 hf2017 iv2018 => ?_
        have fl2019 := Fle.trans fl2015 hf2017
        obtain ⟨hc2025, hm1875⟩ := chkE hm1875
        refine do_appendP (raw_fld (raw_var 0 rfl) (Iv.cell iv2018 0) rfl CL_Costs.cl (CL_Costs.na "costs" (by simp))) (Iv.ol (xs := (b1869.costs : (List (Dc Int Int)))) iv2018 10) (ev_var 6 rfl (Iv.fz (x := ((Dc.mk o1906) : (Dc Int Int))) iv2018 6)) hc2025 (fun s2020 m2021 o2022 => ?_)
        obtain ⟨ls2023, q2024, hm1875⟩ := ltE hm1875
        have iv2026 := Iv.ml iv2018 10 m2021 o2022 q2024
        have fl2027 := Fle.trans fl2019 m2021.f
        obtain rfl := Option.some.inj hm1875
        exact do_nil ⟨s2020, rfl, fl2027, ⟨p1885, p1886, p1887, _, _, _, rfl, Iv.sel iv2026 [some 0, some 1, some 2, some 3, some 4, none, none, none, some 8, some 9, some 10] (by decide +kernel) (by kernel_rfl)⟩⟩
    · have hf2037 := Fle.trans k2029.f fl2032
      obtain ⟨p2038, p2039, p2040, y2041, y2042, y2043, rfl, iv2044⟩ := hR2033
      obtain rfl := Option.some.inj hm
      exact do_nil (hQ _ _ _ ⟨aself, aplayers, aseats, arow, aill, rfl, p2038, p2039, p2040, rfl, rfl⟩ (Iv.sel iv2044 [some 0, some 8, some 9, some 10] (by decide +kernel) (by kernel_rfl)))
abbrev s_Prices_init : Stmt := clsS 24 0
def pre_Prices_init : List V → (List (Dc Int Int)) × Int × Unit → List OA → List OA → Prop := fun vs x L R => ∃ (aself : Addr) (acosts : V) (aplayers : V), vs = [(.ref aself), acosts, aplayers] ∧ L = [cell aself "Prices" [], fz acosts (x.1 : (List (Dc Int Int))), fz aplayers (x.2.1 : Int)] ∧ R = []
def ok_Prices_init : List V → (List (Dc Int Int)) × Int × Unit → (R_Prices) → V → List OA → Prop := fun vs x r v L' => ∃ (aself : Addr) (acosts : V) (aplayers : V), vs = [(.ref aself), acosts, aplayers] ∧ (∃ (bself_costs : V) (bself_of_seat : Addr) (bself_of_player : Addr) (bself_seat_by : Addr) (bself_row : Addr), v = .non ∧ L' = [cell aself "Prices" [("costs", bself_costs), ("of_seat", (.ref bself_of_seat)), ("of_player", (.ref bself_of_player)), ("seat_by", (.ref bself_seat_by)), ("row", (.ref bself_row))], fz bself_costs (r.costs : (List (Dc Int Int))), ol bself_of_seat (r.of_seat : (List Int)), ol bself_of_player (r.of_player : (List Int)), od bself_seat_by (r.seat_by : (List (Int × Int))), ol bself_row (r.row : (List (Option Int)))])
abbrev N_Prices_init : List Str := ["self", "costs", "players"]
theorem sc_Prices_init : FnScope N_Prices_init ["self", "costs", "players"] (defScope s_Prices_init) := ⟨rfl, rfl, rfl, by decide +kernel, rfl, by decide +kernel, by decide +kernel⟩
noncomputable def m_Prices_init (costs2045 : (List (Dc Int Int))) (players2046 : Int) : Option (R_Prices) :=
 (chk (RepOk ((costs2045).length : Int) (([(0 : Int)] : List Int)).length) (chk (RepOk players2046 (([(0 : Int)] : List Int)).length) (chk (RepOk ((costs2045).length : Int) (([none] : List (Option Int))).length) (some (⟨costs2045, (repl ((costs2045).length : Int) ([(0 : Int)] : List Int)), (repl players2046 ([(0 : Int)] : List Int)), ([] : (List (Int × Int))), (repl ((costs2045).length : Int) ([none] : List (Option Int)))⟩ : R_Prices)))))
noncomputable abbrev a_Prices_init : (List (Dc Int Int)) × Int × Unit → Option (R_Prices) := fun x => m_Prices_init x.1 x.2.1
theorem ok_Prices_init_fn {P : Program} {w : World} {K : PySem.W.Frag} {mg : Str → Option Value} {base : Heap} {f : Addr} {fd : FuncData} (F : FunM K "__init__" "Prices.__init__" s_Prices_init f fd) (z_len : mg "len" = none) (CL_Prices : ClsF K "Prices" ["costs", "of_seat", "of_player", "seat_by", "row"] ["__init__", "slacks", "raised", "fill", "nearest", "shift"]) : FnOk P w K mg base CX0 1 f fd ["self", "costs", "players"] (spI K pre_Prices_init a_Prices_init ok_Prices_init noEr) := by
  refine mk_I (k := 0) F sc_Prices_init (fun vs a L R h => by obtain ⟨_, _, _, rfl, _⟩ := h; rfl) ?_
  rintro cdv A' outer sh0 H0 X0 hr s0 P0 L0 R0 vs ⟨costs2045, players2046, _⟩ o0 Q ⟨aself, acosts, aplayers, rfl, rfl, rfl⟩ iv2047 ro hm hQ
  unfold a_Prices_init m_Prices_init at hm
  dsimp only at hm
  have iv2048 : Iv K P0 s0 s0 [cell aself "Prices" [], fz acosts (costs2045 : (List (Dc Int Int))), fz aplayers (players2046 : Int), top, top, top, top, top] := Iv.sel iv2047 [some 0, some 1, some 2, none, none, none, none, none] (by decide +kernel) (by kernel_rfl)
  refine do_fldG iv2048 0 rfl (raw_var 0 rfl) (eg_ev (ev_var 1 rfl (Iv.fz (x := (costs2045 : (List (Dc Int Int)))) iv2048 1))) CL_Prices.cl (CL_Prices.na "costs" (by simp)) (by simp) (fun v2049 s2050 L2051 z2053 hf_iv2052 iv2052 => ?_)
  obtain rfl := z2053
  have iv2054 : Iv K P0 s0 s2050 [cell aself "Prices" [("costs", v2049)], fz acosts (costs2045 : (List (Dc Int Int))), fz aplayers (players2046 : Int), fz v2049 (costs2045 : (List (Dc Int Int))), top, top, top, top] := Iv.sel iv2052 [some 0, some 1, some 2, some 8, none, none, none, none] (by decide +kernel) (by kernel_rfl)
  obtain ⟨hc2055, hm⟩ := chkE hm
  refine do_fldG iv2054 0 rfl (raw_var 0 rfl) (eg_new (en_rep (en_list (xs := ([(0 : Int)] : List Int)) (ee_cons ev_int ee_nil) (by simp [sizeLine])) (fun _ hk => Ev.mono (ev_len z_len (Ev.r (ev_var 1 rfl (Iv.fz (x := (costs2045 : (List (Dc Int Int)))) iv2054 1)))) hk) hc2055)) CL_Prices.cl (CL_Prices.na "of_seat" (by simp)) (by simp) (fun v2057 s2058 L2059 z2061 hf_iv2060 iv2060 => ?_)
  obtain ⟨p2056, rfl, rfl⟩ := z2061
  have iv2062 : Iv K P0 s0 s2058 [cell aself "Prices" [("costs", v2049), ("of_seat", (.ref p2056))], fz acosts (costs2045 : (List (Dc Int Int))), fz aplayers (players2046 : Int), fz v2049 (costs2045 : (List (Dc Int Int))), ol p2056 ((repl ((costs2045).length : Int) ([(0 : Int)] : List Int)) : (List Int)), top, top, top] := Iv.sel iv2060 [some 0, some 1, some 2, some 3, some 8, none, none, none] (by decide +kernel) (by kernel_rfl)
  obtain ⟨hc2063, hm⟩ := chkE hm
  refine do_fldG iv2062 0 rfl (raw_var 0 rfl) (eg_new (en_rep (en_list (xs := ([(0 : Int)] : List Int)) (ee_cons ev_int ee_nil) (by simp [sizeLine])) (fun _ hk => Ev.mono (ev_var 2 rfl (Iv.fz (x := (players2046 : Int)) iv2062 2)) hk) hc2063)) CL_Prices.cl (CL_Prices.na "of_player" (by simp)) (by simp) (fun v2065 s2066 L2067 z2069 hf_iv2068 iv2068 => ?_)
  obtain ⟨p2064, rfl, rfl⟩ := z2069
  have iv2070 : Iv K P0 s0 s2066 [cell aself "Prices" [("costs", v2049), ("of_seat", (.ref p2056)), ("of_player", (.ref p2064))], fz acosts (costs2045 : (List (Dc Int Int))), fz aplayers (players2046 : Int), fz v2049 (costs2045 : (List (Dc Int Int))), ol p2056 ((repl ((costs2045).length : Int) ([(0 : Int)] : List Int)) : (List Int)), ol p2064 ((repl players2046 ([(0 : Int)] : List Int)) : (List Int)), top, top] := Iv.sel iv2068 [some 0, some 1, some 2, some 3, some 4, some 8, none, none] (by decide +kernel) (by kernel_rfl)
  refine do_fldG iv2070 0 rfl (raw_var 0 rfl) (eg_newD (xs := ([] : (List (Int × Int)))) en_dnew) CL_Prices.cl (CL_Prices.na "seat_by" (by simp)) (by simp) (fun v2072 s2073 L2074 z2076 hf_iv2075 iv2075 => ?_)
  obtain ⟨p2071, rfl, rfl⟩ := z2076
  have iv2077 : Iv K P0 s0 s2073 [cell aself "Prices" [("costs", v2049), ("of_seat", (.ref p2056)), ("of_player", (.ref p2064)), ("seat_by", (.ref p2071))], fz acosts (costs2045 : (List (Dc Int Int))), fz aplayers (players2046 : Int), fz v2049 (costs2045 : (List (Dc Int Int))), ol p2056 ((repl ((costs2045).length : Int) ([(0 : Int)] : List Int)) : (List Int)), ol p2064 ((repl players2046 ([(0 : Int)] : List Int)) : (List Int)), od p2071 (([] : (List (Int × Int))) : (List (Int × Int))), top] := Iv.sel iv2075 [some 0, some 1, some 2, some 3, some 4, some 5, some 8, none] (by decide +kernel) (by kernel_rfl)
  obtain ⟨hc2078, hm⟩ := chkE hm
  refine do_fldG iv2077 0 rfl (raw_var 0 rfl) (eg_new (en_rep (en_list (xs := ([none] : List (Option Int))) (ee_cons (ev_nonO (α := Int)) ee_nil) (by simp [sizeLine])) (fun _ hk => Ev.mono (ev_len z_len (Ev.r (ev_var 1 rfl (Iv.fz (x := (costs2045 : (List (Dc Int Int)))) iv2077 1)))) hk) hc2078)) CL_Prices.cl (CL_Prices.na "row" (by simp)) (by simp) (fun v2080 s2081 L2082 z2084 hf_iv2083 iv2083 => ?_)
  obtain ⟨p2079, rfl, rfl⟩ := z2084
  have iv2085 : Iv K P0 s0 s2081 [cell aself "Prices" [("costs", v2049), ("of_seat", (.ref p2056)), ("of_player", (.ref p2064)), ("seat_by", (.ref p2071)), ("row", (.ref p2079))], fz acosts (costs2045 : (List (Dc Int Int))), fz aplayers (players2046 : Int), fz v2049 (costs2045 : (List (Dc Int Int))), ol p2056 ((repl ((costs2045).length : Int) ([(0 : Int)] : List Int)) : (List Int)), ol p2064 ((repl players2046 ([(0 : Int)] : List Int)) : (List Int)), od p2071 (([] : (List (Int × Int))) : (List (Int × Int))), ol p2079 ((repl ((costs2045).length : Int) ([none] : List (Option Int))) : (List (Option Int)))] := Iv.sel iv2083 [some 0, some 1, some 2, some 3, some 4, some 5, some 6, some 8] (by decide +kernel) (by kernel_rfl)
  obtain rfl := Option.some.inj hm
  exact do_nil (hQ _ _ _ ⟨aself, acosts, aplayers, rfl, v2049, p2056, p2064, p2071, p2079, rfl, rfl⟩ (Iv.sel iv2085 [some 0, some 3, some 4, some 5, some 6, some 7] (by decide +kernel) (by kernel_rfl)))
abbrev s_is_seating : Stmt := topS 17
abbrev N_is_seating : List Str := ["players", "seats", "row", "k"]
theorem sc_is_seating : FnScope N_is_seating ["players", "seats", "row"] (defScope s_is_seating) := ⟨rfl, rfl, rfl, by decide +kernel, rfl, by decide +kernel, by decide +kernel⟩
noncomputable def m_is_seating (players2086 : (List (Str × (Tu Str)))) (seats2089 : (List (Tu Str))) (row2092 : (List Int)) : Option Bool :=
 (bnd (orO (!decide (((row2092).length : Int) = ((seats2089).length : Int))) (chk ((row2092).length ≤ 4000) (some (!decide (((dsz row2092 : Nat) : Int) = ((row2092).length : Int)))))) fun c2098 => (if c2098 = true then
 (some false)
 else
 (chk (RgB ((row2092).length : Int)) (bnd (foldF (ρ := Bool) (fun (b2117 : Unit) (x2119 : Int) =>
 (bnd (atI row2092 x2119) fun at2142 => (bnd (orO (decide (at2142 < (0 : Int))) (bnd (atI row2092 x2119) fun at2143 => (orO (decide (((players2086).length : Int) ≤ at2143)) (bnd (atI row2092 x2119) fun at2147 => (bnd (atI players2086 at2147) fun at2148 => (bnd (atI seats2089 x2119) fun at2149 => (bnd (m_can_sit at2148 at2149) fun can_sit2150 => (some (!can_sit2150))))))))) fun c2151 => (if c2151 = true then
 (some (Fl.rt false))
 else
 (some (Fl.nx ())))))) () (rng 0 ((row2092).length : Int))) fun o2115 =>
 (Fl.go o2115 (fun b2179 => (some true)) (fun rr => (some rr)))))))
noncomputable abbrev a_is_seating : (List (Str × (Tu Str))) × (List (Tu Str)) × (List Int) × Unit → Option Bool := fun a => m_is_seating a.1 a.2.1 a.2.2.1
theorem ok_is_seating {P : Program} {w : World} {K : PySem.W.Frag} {mg : Str → Option Value} {base : Heap} {f : Addr} {fd : FuncData} (F : FunP K "is_seating" s_is_seating f fd) (hmg : mg "is_seating" = some (.ref f)) (C_can_sit : Cal P w K mg base CX0 1 "can_sit" (sp K a_can_sit)) (z_len : mg "len" = none) (z_set : mg "set" = none) (z_range : mg "range" = none) : Cal P w K mg base CX0 2 "is_seating" (sp K a_is_seating) := by
  refine mk_cal (k := 1) F hmg (F.bindsN fun _ _ _ _ _ _ us hl => match us, hl with | [_, _, _], _ => rfl) sc_is_seating len3 ?_
  rintro cdv A' outer sh0 H0 X0 hr s0 vs ⟨players2086, seats2089, row2092, _⟩ r0 Q ⟨v2087, _, rfl, r2088, v2090, _, rfl, r2091, v2093, _, rfl, r2094, rfl⟩ hm hQ
  unfold a_is_seating m_is_seating at hm
  dsimp only at hm
  have iv2095 : Iv K (fun _ => False) s0 s0 [fz v2087 (players2086 : (List (Str × (Tu Str)))), fz v2090 (seats2089 : (List (Tu Str))), fz v2093 (row2092 : (List Int)), top] := (Iv.sf (Iv.sf (Iv.sf (Iv.tops (K := K) (P0 := (fun _ => False)) 4 s0) 0 (Ex.refl s0) r2088 rfl) 1 (Ex.refl s0) r2091 rfl) 2 (Ex.refl s0) r2094 rfl)
  obtain ⟨c2098, h_c2098, hm⟩ := bndE hm
  refine do_ifR (EvW.tt (EvC.w (by skip; exact ec_orO (eb_ne (ev_len z_len (Ev.r (ev_var 2 rfl (Iv.fz (x := (row2092 : (List Int))) iv2095 2)))) (ev_len z_len (Ev.r (ev_var 1 rfl (Iv.fz (x := (seats2089 : (List (Tu Str)))) iv2095 1))))) (fun hb2099 => (fun hz => (by obtain ⟨hc2097, hz⟩ := chkE hz; obtain rfl := Option.some.inj hz; exact (ec_or1 (eb_ne (ev_dsz z_len z_set (Ev.r (ev_var 2 rfl (Iv.fz (x := (row2092 : (List Int))) iv2095 2))) hc2097) (ev_len z_len (Ev.r (ev_var 2 rfl (Iv.fz (x := (row2092 : (List Int))) iv2095 2)))))))) ((orE h_c2098).1 hb2099)) (orE h_c2098).2))) (fun hb2100 s2101 e2102 => ?_) (fun hb2109 s2110 e2111 => ?_)
  · have hm2103 := iteE1 hm hb2100
    have iv2104 := Iv.ex iv2095 e2102
    obtain rfl := Option.some.inj hm2103
    exact do_ret ev_bl fun v2105 s2106 e2107 r2108 => hQ _ _ (Ex.trans (Iv.exx iv2104) e2107) r2108
  · have hm2112 := iteE2 hm hb2109
    have iv2113 := Iv.ex iv2095 e2111
    obtain ⟨hc2114, hm2112⟩ := chkE hm2112
    obtain ⟨o2115, ho2116, hm2112⟩ := bndE hm2112
    refine do_forF (ρ := Bool) (υ := Unit) PassesOwn.never rfl (ei_range1 z_range (ev_len z_len (Ev.r (ev_var 2 rfl (Iv.fz (x := (row2092 : (List Int))) iv2113 2)))) hc2114) (pg_name (i := 3) sc_is_seating.nd rfl (by first | exact Or.inl rfl | exact Or.inr rfl)) tg_n ho2116 (fun (b2117 : Unit) (σ' : L2.St) (t' : S) => ∃ (y_k : Option V), σ' = [some v2087, some v2090, some v2093, y_k] ∧ Iv K (fun _ => False) s0 t' [fz v2087 (players2086 : (List (Str × (Tu Str)))), fz v2090 (seats2089 : (List (Tu Str))), fz v2093 (row2092 : (List Int)), top]) (fun s2176 k2177 => by have iv2178 := Iv.ex iv2113 k2177; exact ⟨_, rfl, Iv.sel iv2178 [some 0, some 1, some 2, none] (by decide +kernel) (by kernel_rfl)⟩) (fun s2120 k2121 x2119 b2117 q2140 σ2130 σ2131 t2128 t2129 hx2122 hm2123 hq2141 fl2124 hR2125 k2126 hB2127 => ?_) (fun s2170 k2171 b2179 σ2172 t2173 ho2180 fl2174 hR2175 => ?_)
    · have hf2132 := Fle.trans k2121.f fl2124
      obtain ⟨y2133, rfl, iv2134⟩ := hR2125
      obtain ⟨v2135, r2136, rfl⟩ := hB2127
      have iv2137 := Iv.ex iv2134 k2126
      have iv2138 := Iv.sf iv2137 3 (Ex.refl t2129) r2136 rfl
      have fl2139 := Fle.trans (Fle.refl t2129.F) (Ex.refl t2129).f
      obtain ⟨at2142, h_at2142, hm2123⟩ := bndE hm2123
      obtain ⟨c2151, h_c2151, hm2123⟩ := bndE hm2123
      refine do_ifR (EvW.tt (EvC.w (by skip; exact ec_orO (eb_lt (ev_ix (Ev.r (ev_var 2 rfl (Iv.fz (x := (row2092 : (List Int))) iv2138 2))) (ev_var 3 rfl (Iv.fz (x := (x2119 : Int)) iv2138 3)) h_at2142) ev_int) (fun hb2152 => (fun hz => (by obtain ⟨at2143, h_at2143, hz⟩ := bndE hz; exact ec_orO (eb_ge (ev_ix (Ev.r (ev_var 2 rfl (Iv.fz (x := (row2092 : (List Int))) iv2138 2))) (ev_var 3 rfl (Iv.fz (x := (x2119 : Int)) iv2138 3)) h_at2143) (ev_len z_len (Ev.r (ev_var 0 rfl (Iv.fz (x := (players2086 : (List (Str × (Tu Str))))) iv2138 0))))) (fun hb2153 => (fun hz => (by obtain ⟨at2147, h_at2147, hz⟩ := bndE hz; obtain ⟨at2148, h_at2148, hz⟩ := bndE hz; obtain ⟨at2149, h_at2149, hz⟩ := bndE hz; obtain ⟨can_sit2150, h_can_sit2150, hz⟩ := bndE hz; obtain rfl := Option.some.inj hz; exact (ec_or1 (eb_not (eb_v (ev_call C_can_sit hr (by decide) (ea_cons (ev_ix (Ev.r (ev_var 0 rfl (Iv.fz (x := (players2086 : (List (Str × (Tu Str))))) iv2138 0))) (ev_ix (Ev.r (ev_var 2 rfl (Iv.fz (x := (row2092 : (List Int))) iv2138 2))) (ev_var 3 rfl (Iv.fz (x := (x2119 : Int)) iv2138 3)) h_at2147) h_at2148) (ea_cons (ev_ix (Ev.r (ev_var 1 rfl (Iv.fz (x := (seats2089 : (List (Tu Str)))) iv2138 1))) (ev_var 3 rfl (Iv.fz (x := (x2119 : Int)) iv2138 3)) h_at2149) ea_nil)) h_can_sit2150)))))) ((orE hz).1 hb2153)) (orE hz).2)) ((orE h_c2151).1 hb2152)) (orE h_c2151).2))) (fun hb2154 s2155 e2156 => ?_) (fun hb2164 s2165 e2166 => ?_)
      · have hm2157 := iteE1 hm2123 hb2154
        have iv2158 := Iv.ex iv2138 e2156
        have fl2159 := Fle.trans (Fle.refl t2129.F) e2156.f
        obtain rfl := Option.some.inj hm2157
        obtain rfl := hq2141 _ rfl
        obtain rfl := Option.some.inj hm2112
        exact do_ret ev_bl fun v2160 s2161 e2162 r2163 => hQ _ _ (Ex.trans (Iv.exx iv2158) e2162) r2163
      · have hm2167 := iteE2 hm2123 hb2164
        have iv2168 := Iv.ex iv2138 e2166
        have fl2169 := Fle.trans (Fle.refl t2129.F) e2166.f
        obtain rfl := Option.some.inj hm2167
        exact do_nil ⟨s2165, rfl, _, rfl, fl2169, ⟨_, rfl, Iv.sel iv2168 [some 0, some 1, some 2, none] (by decide +kernel) (by kernel_rfl)⟩⟩
    · subst ho2180
      replace hm2112 := goN hm2112
      have hf2181 := Fle.trans k2171.f fl2174
      obtain ⟨y2182, rfl, iv2183⟩ := hR2175
      obtain rfl := Option.some.inj hm2112
      exact do_ret ev_bl fun v2184 s2185 e2186 r2187 => hQ _ _ (Ex.trans (Iv.exx iv2183) e2186) r2187
abbrev s_Prices_slacks : Stmt := clsS 24 1
def pre_Prices_slacks : List V → R_Prices × (List (Int × Int)) × (List (Int × Int)) × Int × Unit → List OA → List OA → Prop := fun vs x L R => ∃ (aself : Addr) (aself_costs : V) (aself_of_seat : Addr) (aself_of_player : Addr) (aself_seat_by : Addr) (aself_row : Addr) (aslack : Addr) (aahead : Addr) (aseat : V), vs = [(.ref aself), (.ref aslack), (.ref aahead), aseat] ∧ L = [od aslack (x.2.1 : (List (Int × Int))), od aahead (x.2.2.1 : (List (Int × Int))), fz aseat (x.2.2.2.1 : Int)] ∧ R = [cell aself "Prices" [("costs", aself_costs), ("of_seat", (.ref aself_of_seat)), ("of_player", (.ref aself_of_player)), ("seat_by", (.ref aself_seat_by)), ("row", (.ref aself_row))], fz aself_costs (x.1.costs : (List (Dc Int Int))), ol aself_of_seat (x.1.of_seat : (List Int)), ol aself_of_player (x.1.of_player : (List Int)), od aself_seat_by (x.1.seat_by : (List (Int × Int))), ol aself_row (x.1.row : (List (Option Int)))]
def ok_Prices_slacks : List V → R_Prices × (List (Int × Int)) × (List (Int × Int)) × Int × Unit → ((List (Int × Int)) × (List (Int × Int))) → V → List OA → Prop := fun vs x r v L' => ∃ (aself : Addr) (aself_costs : V) (aself_of_seat : Addr) (aself_of_player : Addr) (aself_seat_by : Addr) (aself_row : Addr) (aslack : Addr) (aahead : Addr) (aseat : V), vs = [(.ref aself), (.ref aslack), (.ref aahead), aseat] ∧ (v = .non ∧ L' = [od aslack (r.1 : (List (Int × Int))), od aahead (r.2 : (List (Int × Int)))])
abbrev N_Prices_slacks : List Str := ["self", "slack", "ahead", "seat", "k", "cost", "left"]
theorem sc_Prices_slacks : FnScope N_Prices_slacks ["self", "slack", "ahead", "seat"] (defScope s_Prices_slacks) := ⟨rfl, rfl, rfl, by decide +kernel, rfl, by decide +kernel, by decide +kernel⟩
noncomputable def m_Prices_slacks (self2188 : R_Prices) (slack2189 : (List (Int × Int))) (ahead2190 : (List (Int × Int))) (seat2191 : Int) : Option ((List (Int × Int)) × (List (Int × Int))) :=
 (bnd (atI self2188.costs seat2191) fun at2194 => (bnd (foldO (fun (b2197 : ((List (Int × Int)) × (List (Int × Int)))) (x2199 : (Int × Int)) =>
 (bnd (atI self2188.of_seat seat2191) fun at2226 => (bnd (atI self2188.of_player x2199.1) fun at2227 => (lt (((x2199.2 - at2226) - at2227) : Int) fun left2228 =>
 (bnd (orO (!(dval b2197.1 x2199.1).isSome) (bnd (dval b2197.1 x2199.1) fun got2236 => (some (decide (left2228 < got2236))))) fun c2237 => (bnd (if c2237 = true then
 (chk ((b2197.1).length < sizeLine) (lt ((dput b2197.1 x2199.1 left2228) : (List (Int × Int))) fun kv2279 =>
 (chk ((b2197.2).length < sizeLine) (lt ((dput b2197.2 x2199.1 seat2191) : (List (Int × Int))) fun kv2288 =>
 (some (kv2279, kv2288))))))
 else
 (some (b2197.1, b2197.2)) : Option (((List (Int × Int)) × (List (Int × Int))))) fun b2267 =>
 (some (b2267.1, b2267.2)))))))) (slack2189, ahead2190) (Dc.l at2194)) fun o2195 =>
 (some (o2195.1, o2195.2))))
noncomputable abbrev a_Prices_slacks : R_Prices × (List (Int × Int)) × (List (Int × Int)) × Int × Unit → Option ((List (Int × Int)) × (List (Int × Int))) := fun x => m_Prices_slacks x.1 x.2.1 x.2.2.1 x.2.2.2.1
theorem ok_Prices_slacks_fn {P : Program} {w : World} {K : PySem.W.Frag} {mg : Str → Option Value} {base : Heap} {f : Addr} {fd : FuncData} (F : FunM K "slacks" "Prices.slacks" s_Prices_slacks f fd) (CL_Prices : ClsF K "Prices" ["costs", "of_seat", "of_player", "seat_by", "row"] ["__init__", "slacks", "raised", "fill", "nearest", "shift"]) : FnOk P w K mg base CX0 1 f fd ["self", "slack", "ahead", "seat"] (spI K pre_Prices_slacks a_Prices_slacks ok_Prices_slacks noEr) := by
  refine mk_I (k := 0) F sc_Prices_slacks (fun vs a L R h => by obtain ⟨_, _, _, _, _, _, _, _, _, rfl, _⟩ := h; rfl) ?_
  rintro cdv A' outer sh0 H0 X0 hr s0 P0 L0 R0 vs ⟨self2188, slack2189, ahead2190, seat2191, _⟩ o0 Q ⟨aself, aself_costs, aself_of_seat, aself_of_player, aself_seat_by, aself_row, aslack, aahead, aseat, rfl, rfl, rfl⟩ iv2192 ro hm hQ
  unfold a_Prices_slacks m_Prices_slacks at hm
  dsimp only at hm
  have iv2193 : Iv K P0 s0 s0 [top, od aslack (slack2189 : (List (Int × Int))), od aahead (ahead2190 : (List (Int × Int))), fz aseat (seat2191 : Int), top, top, top, top, top, top, top, top] := Iv.sel iv2192 [none, some 0, some 1, some 2, none, none, none, none, none, none, none, none] (by decide +kernel) (by kernel_rfl)
  obtain ⟨at2194, h_at2194, hm⟩ := bndE hm
  obtain ⟨o2195, ho2196, hm⟩ := bndE hm
  refine do_forO (υ := ((List (Int × Int)) × (List (Int × Int)))) PassesOwn.never rfl (ei_itemsF (ev_ix (Ev.r (ev_raw (x := (self2188.costs : (List (Dc Int Int)))) (raw_fld (raw_var 0 rfl) (Iv.rcell iv2193 ro 0) rfl CL_Prices.cl (CL_Prices.na "costs" (by simp))) (Iv.rfz (x := (self2188.costs : (List (Dc Int Int)))) iv2193 ro 1))) (ev_var 3 rfl (Iv.fz (x := (seat2191 : Int)) iv2193 3)) h_at2194)) (pg_tup rfl (pgs_cons (pg_name (i := 4) sc_Prices_slacks.nd rfl (by first | exact Or.inl rfl | exact Or.inr rfl)) (pgs_cons (pg_name (i := 5) sc_Prices_slacks.nd rfl (by first | exact Or.inl rfl | exact Or.inr rfl)) pgs_nil))) tg_2 ho2196 (fun (b2197 : ((List (Int × Int)) × (List (Int × Int)))) (σ' : L2.St) (t' : S) => ∃ (y_left : Option V) (y_k : Option V) (y_cost : Option V), σ' = [some (.ref aself), some (.ref aslack), some (.ref aahead), some aseat, y_k, y_cost, y_left] ∧ Iv K P0 s0 t' [top, od aslack (b2197.1 : (List (Int × Int))), od aahead (b2197.2 : (List (Int × Int))), fz aseat (seat2191 : Int), top, top, top, top, top, top, top, top]) (fun s2314 k2315 => by have iv2316 := Iv.ex iv2193 k2315; exact ⟨_, _, _, rfl, Iv.sel iv2316 [none, some 1, some 2, some 3, none, none, none, none, none, none, none, none] (by decide +kernel) (by kernel_rfl)⟩) (fun s2200 k2201 x2199 b2197 b2198 σ2210 σ2211 t2208 t2209 hx2202 hm2203 fl2204 hR2205 k2206 hB2207 => ?_) (fun s2308 k2309 σ2310 t2311 fl2312 hR2313 => ?_)
  · have hf2212 := Fle.trans k2201.f fl2204
    obtain ⟨y2213, y2214, y2215, rfl, iv2216⟩ := hR2205
    obtain ⟨v2217, v2218, r2219, r2220, rfl⟩ := hB2207
    have iv2221 := Iv.ex iv2216 k2206
    have iv2222 := Iv.sf iv2221 4 (Ex.refl t2209) r2219 rfl
    have fl2223 := Fle.trans (Fle.refl t2209.F) (Ex.refl t2209).f
    have iv2224 := Iv.sf iv2222 5 (Ex.refl t2209) r2220 rfl
    have fl2225 := Fle.trans fl2223 (Ex.refl t2209).f
    obtain ⟨at2226, h_at2226, hm2203⟩ := bndE hm2203
    obtain ⟨at2227, h_at2227, hm2203⟩ := bndE hm2203
    refine do_set 6 (ev_sub (ev_sub (ev_var 5 rfl (Iv.fz (x := (x2199.2 : Int)) iv2224 5)) (ev_ix (er_raw (xs := (self2188.of_seat : (List Int))) (raw_fld (raw_var 0 rfl) (Iv.rcell iv2224 ro 0) rfl CL_Prices.cl (CL_Prices.na "of_seat" (by simp))) (Iv.rol (xs := (self2188.of_seat : (List Int))) iv2224 ro 2)) (ev_var 3 rfl (Iv.fz (x := (seat2191 : Int)) iv2224 3)) h_at2226)) (ev_ix (er_raw (xs := (self2188.of_player : (List Int))) (raw_fld (raw_var 0 rfl) (Iv.rcell iv2224 ro 0) rfl CL_Prices.cl (CL_Prices.na "of_player" (by simp))) (Iv.rol (xs := (self2188.of_player : (List Int))) iv2224 ro 3)) (ev_var 4 rfl (Iv.fz (x := (x2199.1 : Int)) iv2224 4)) h_at2227)) (fun v2232 s2230 e2231 r2233 => ?_) sc_Prices_slacks.nd
    obtain ⟨left2228, q2229, hm2203⟩ := ltE hm2203
    have iv2234 := Iv.sf iv2224 6 e2231 r2233 q2229
    have fl2235 := Fle.trans (Fle.refl t2209.F) e2231.f
    obtain ⟨c2237, h_c2237, hm2203⟩ := bndE hm2203
    obtain ⟨b2267, hj2268, hm2203⟩ := bndE hm2203
    refine do_if (EvW.tt (EvC.w (by skip; exact ec_orO (ev_dnotIn hr (ev_var 4 rfl (Iv.fz (x := (x2199.1 : Int)) iv2234 4)) (raw_var 1 rfl) (OwnD.r (Iv.od (xs := (b2197.1 : (List (Int × Int)))) iv2234 1))) (fun hb2238 => (fun hz => (by obtain ⟨got2236, h_got2236, hz⟩ := bndE hz; obtain rfl := Option.some.inj hz; exact (ec_or1 (eb_lt (ev_var 6 rfl (Iv.fz (x := (left2228 : Int)) iv2234 6)) (ev_dget hr (raw_var 1 rfl) (OwnD.r (Iv.od (xs := (b2197.1 : (List (Int × Int)))) iv2234 1)) (ev_var 4 rfl (Iv.fz (x := (x2199.1 : Int)) iv2234 4)) h_got2236))))) ((orE h_c2237).1 hb2238)) (orE h_c2237).2))) (fun (σ' : L2.St) (t' : S) => Fle s2230.F t'.F ∧ σ' = [some (.ref aself), some (.ref aslack), some (.ref aahead), some aseat, some v2217, some v2218, some v2232] ∧ Iv K P0 s0 t' [top, od aslack (b2267.1 : (List (Int × Int))), od aahead (b2267.2 : (List (Int × Int))), fz aseat (seat2191 : Int), fz v2217 (x2199.1 : Int), fz v2218 (x2199.2 : Int), fz v2232 (left2228 : Int), top, top, top, top, top]) (fun hb2269 s2270 e2271 => ?_) (fun hb2294 s2295 e2296 => ?_) (fun σ2301 s2302 hM2303 => ?_)
    · have hm2272 := iteE1 hj2268 hb2269
      have iv2273 := Iv.ex iv2234 e2271
      have fl2274 := Fle.trans fl2235 e2271.f
      have fl2275 := Fle.trans (Fle.refl s2230.F) e2271.f
      obtain ⟨hc2281, hm2272⟩ := chkE hm2272
      refine do_dput hr (raw_var 1 rfl) (Iv.od (xs := (b2197.1 : (List (Int × Int)))) iv2273 1) (ev_var 6 rfl (Iv.fz (x := (left2228 : Int)) iv2273 6)) (ev_var 4 rfl (Iv.fz (x := (x2199.1 : Int)) iv2273 4)) hc2281 (fun s2276 m2277 o2278 => ?_)
      obtain ⟨kv2279, q2280, hm2272⟩ := ltE hm2272
      have iv2282 := Iv.md iv2273 1 m2277 o2278 q2280
      have fl2283 := Fle.trans fl2274 m2277.f
      have fl2284 := Fle.trans fl2275 m2277.f
      obtain ⟨hc2290, hm2272⟩ := chkE hm2272
      refine do_dput hr (raw_var 2 rfl) (Iv.od (xs := (b2197.2 : (List (Int × Int)))) iv2282 2) (ev_var 3 rfl (Iv.fz (x := (seat2191 : Int)) iv2282 3)) (ev_var 4 rfl (Iv.fz (x := (x2199.1 : Int)) iv2282 4)) hc2290 (fun s2285 m2286 o2287 => ?_)
      obtain ⟨kv2288, q2289, hm2272⟩ := ltE hm2272
      have iv2291 := Iv.md iv2282 2 m2286 o2287 q2289
      have fl2292 := Fle.trans fl2283 m2286.f
      have fl2293 := Fle.trans fl2284 m2286.f
      obtain rfl := Option.some.inj hm2272
      exact do_nil ⟨s2285, rfl, fl2293, ⟨rfl, Iv.sel iv2291 [none, some 1, some 2, some 3, some 4, some 5, some 6, none, none, none, none, none] (by decide +kernel) (by kernel_rfl)⟩⟩
    · have hm2297 := iteE2 hj2268 hb2294
      have iv2298 := Iv.ex iv2234 e2296
      have fl2299 := Fle.trans fl2235 e2296.f
      have fl2300 := Fle.trans (Fle.refl s2230.F) e2296.f
      obtain rfl := Option.some.inj hm2297
      exact do_nil ⟨s2295, rfl, fl2300, ⟨rfl, Iv.sel iv2298 [none, some 1, some 2, some 3, some 4, some 5, some 6, none, none, none, none, none] (by decide +kernel) (by kernel_rfl)⟩⟩
    · obtain ⟨hf2304, hR2305⟩ := hM2303
      obtain ⟨rfl, iv2306⟩ := hR2305
      have fl2307 := Fle.trans fl2235 hf2304
      obtain rfl := Option.some.inj hm2203
      exact do_nil ⟨s2302, rfl, fl2307, ⟨_, _, _, rfl, Iv.sel iv2306 [none, some 1, some 2, some 3, none, none, none, none, none, none, none, none] (by decide +kernel) (by kernel_rfl)⟩⟩
  · have hf2317 := Fle.trans k2309.f fl2312
    obtain ⟨y2318, y2319, y2320, rfl, iv2321⟩ := hR2313
    obtain rfl := Option.some.inj hm
    exact do_nil (hQ _ _ _ ⟨aself, aself_costs, aself_of_seat, aself_of_player, aself_seat_by, aself_row, aslack, aahead, aseat, rfl, rfl, rfl⟩ (Iv.sel iv2321 [some 1, some 2] (by decide +kernel) (by kernel_rfl)))
abbrev s_Prices_nearest : Stmt := clsS 24 4
def pre_Prices_nearest : List V → R_Prices_u × (List (Int × Int)) × (List Int) × Unit → List OA → List OA → Prop := fun vs x L R => ∃ (aself : Addr) (aself_costs : V) (aself_of_seat : V) (aself_of_player : V) (aself_seat_by : V) (aself_row : V) (aslack : Addr) (adone : Addr), vs = [(.ref aself), (.ref aslack), (.ref adone)] ∧ L = [od aslack (x.2.1 : (List (Int × Int)))] ∧ R = [cell aself "Prices" [("costs", aself_costs), ("of_seat", aself_of_seat), ("of_player", aself_of_player), ("seat_by", aself_seat_by), ("row", aself_row)], top, top, top, top, top, ol adone (x.2.2.1 : (List Int))]
def ok_Prices_nearest : List V → R_Prices_u × (List (Int × Int)) × (List Int) × Unit → ((Option Int)) → V → List OA → Prop := fun vs x r v L' => ∃ (aself : Addr) (aself_costs : V) (aself_of_seat : V) (aself_of_player : V) (aself_seat_by : V) (aself_row : V) (aslack : Addr) (adone : Addr), vs = [(.ref aself), (.ref aslack), (.ref adone)] ∧ (∃ (bres : V), v = bres ∧ L' = [od aslack (x.2.1 : (List (Int × Int))), fz bres (r : (Option Int))])
abbrev N_Prices_nearest : List Str := ["self", "slack", "done", "best", "k"]
theorem sc_Prices_nearest : FnScope N_Prices_nearest ["self", "slack", "done"] (defScope s_Prices_nearest) := ⟨rfl, rfl, rfl, by decide +kernel, rfl, by decide +kernel, by decide +kernel⟩
noncomputable def m_Prices_nearest (self2322 : R_Prices_u) (slack2323 : (List (Int × Int))) (done2324 : (List Int)) : Option ((Option Int)) :=
 (lt (none : (Option Int)) fun best2327 =>
 (bnd (foldO (fun (b2341 : (Option Int)) (x2343 : Int) =>
 (bnd (andO (!decide (x2343 ∈ done2324)) (bnd (orO (b2341).isNone (bnd (dval slack2323 x2343) fun got2368 => (bnd b2341 fun got2369 => (bnd (dval slack2323 got2369) fun got2370 => (some (decide (got2368 < got2370))))))) fun c2371 => (some c2371))) fun c2373 => (bnd (if c2373 = true then
 (lt ((some x2343) : (Option Int)) fun best2404 =>
 (some best2404))
 else
 (some b2341) : Option ((Option Int))) fun b2395 =>
 (some b2395)))) best2327 (List.map (fun (z : Int × Int) => z.1) slack2323)) fun o2334 =>
 (some o2334)))
noncomputable abbrev a_Prices_nearest : R_Prices_u × (List (Int × Int)) × (List Int) × Unit → Option ((Option Int)) := fun x => m_Prices_nearest x.1 x.2.1 x.2.2.1
theorem ok_Prices_nearest_fn {P : Program} {w : World} {K : PySem.W.Frag} {mg : Str → Option Value} {base : Heap} {f : Addr} {fd : FuncData} (F : FunM K "nearest" "Prices.nearest" s_Prices_nearest f fd)  : FnOk P w K mg base CX0 1 f fd ["self", "slack", "done"] (spI K pre_Prices_nearest a_Prices_nearest ok_Prices_nearest noEr) := by
  refine mk_I (k := 0) F sc_Prices_nearest (fun vs a L R h => by obtain ⟨_, _, _, _, _, _, _, _, rfl, _⟩ := h; rfl) ?_
  rintro cdv A' outer sh0 H0 X0 hr s0 P0 L0 R0 vs ⟨self2322, slack2323, done2324, _⟩ o0 Q ⟨aself, aself_costs, aself_of_seat, aself_of_player, aself_seat_by, aself_row, aslack, adone, rfl, rfl, rfl⟩ iv2325 ro hm hQ
  unfold a_Prices_nearest m_Prices_nearest at hm
  dsimp only at hm
  have iv2326 : Iv K P0 s0 s0 [top, od aslack (slack2323 : (List (Int × Int))), top, top, top, top, top, top, top, top] := Iv.sel iv2325 [none, some 0, none, none, none, none, none, none, none, none] (by decide +kernel) (by kernel_rfl)
  refine do_set 3 (ev_nonO (α := Int)) (fun v2331 s2329 e2330 r2332 => ?_) sc_Prices_nearest.nd
  obtain ⟨best2327, q2328, hm⟩ := ltE hm
  have iv2333 := Iv.sf iv2326 3 e2330 r2332 q2328
  obtain ⟨o2334, ho2335, hm⟩ := bndE hm
  refine do_forD iv2333 1 rfl PassesOwn.never rfl (pg_name (i := 4) sc_Prices_nearest.nd rfl (by first | exact Or.inl rfl | exact Or.inr rfl)) (fun ob2336 kv2337 s2338 hf2339 iv2340 => ?_)
  refine for_readO (υ := (Option Int)) (ei_keys (raw_var 1 rfl) (Iv.gd iv2340 1)) tg_n ho2335 (fun (b2341 : (Option Int)) (σ' : L2.St) (t' : S) => Fle s2338.F t'.F ∧ ∃ (v_best : V) (y_k : Option V), σ' = [some (.ref aself), some (.ref aslack), some (.ref adone), some v_best, y_k] ∧ Iv K P0 s0 t' [top, odl aslack ob2336 kv2337 (slack2323 : (List (Int × Int))), top, fz v_best (b2341 : (Option Int)), top, top, top, top, top, top]) (fun b2341 σ' t' hR => by obtain ⟨f2354, hR2353⟩ := hR; obtain ⟨v2355, y2356, rfl, iv2357⟩ := hR2353; exact Iv.gd iv2357 1) (fun s2431 k2432 => by have iv2433 := Iv.ex iv2340 k2432; exact ⟨k2432.f, ⟨v2331, _, rfl, Iv.sel iv2433 [none, some 1, none, some 3, none, none, none, none, none, none] (by decide +kernel) (by kernel_rfl)⟩⟩) (fun x2343 b2341 b2342 σ2351 σ2352 t2349 t2350 hx2344 hm2345 hR2346 k2347 hB2348 => ?_) (fun σ2428 t2429 hR2430 => ?_)
  · obtain ⟨fl2358, hR2346'⟩ := hR2346
    obtain ⟨v2359, y2360, rfl, iv2361⟩ := hR2346'
    obtain ⟨v2362, r2363, rfl⟩ := hB2348
    have iv2364 := Iv.ex iv2361 k2347
    have fl2365 := Fle.trans fl2358 k2347.f
    have iv2366 := Iv.sf iv2364 4 (Ex.refl t2350) r2363 rfl
    have fl2367 := Fle.trans fl2365 (Ex.refl t2350).f
    obtain ⟨c2373, h_c2373, hm2345⟩ := bndE hm2345
    obtain ⟨b2395, hj2396, hm2345⟩ := bndE hm2345
    refine do_if (EvW.tt (EvC.w (by skip; exact ec_andO (eb_notIn (ev_var 4 rfl (Iv.fz (x := (x2343 : Int)) iv2366 4)) (er_raw (xs := (done2324 : (List Int))) (raw_var 2 rfl) (Iv.rol (xs := (done2324 : (List Int))) iv2366 ro 6))) (fun hb2374 => (fun hz => (by obtain ⟨c2371, h_c2371, hz⟩ := bndE hz; obtain rfl := Option.some.inj hz; exact (ec_and1 (EvC.bb (by skip; exact ec_orO (eb_isN (ev_var 3 rfl (Iv.fz (x := (b2341 : (Option Int))) iv2366 3))) (fun hb2372 => (fun hz => (by obtain ⟨got2368, h_got2368, hz⟩ := bndE hz; obtain ⟨got2369, h_got2369, hz⟩ := bndE hz; obtain ⟨got2370, h_got2370, hz⟩ := bndE hz; obtain rfl := Option.some.inj hz; exact (ec_or1 (eb_lt (ev_dget hr (raw_var 1 rfl) (Iv.odr (xs := (slack2323 : (List (Int × Int)))) iv2366 1) (ev_var 4 rfl (Iv.fz (x := (x2343 : Int)) iv2366 4)) h_got2368) (ev_dget hr (raw_var 1 rfl) (Iv.odr (xs := (slack2323 : (List (Int × Int)))) iv2366 1) (ev_some' (ev_var 3 rfl (Iv.fz (x := (b2341 : (Option Int))) iv2366 3)) h_got2369) h_got2370))))) ((orE h_c2371).1 hb2372)) (orE h_c2371).2))))) ((andE h_c2373).1 hb2374)) (andE h_c2373).2))) (fun (σ' : L2.St) (t' : S) => Fle t2350.F t'.F ∧ ∃ (v_best : V), σ' = [some (.ref aself), some (.ref aslack), some (.ref adone), some v_best, some v2362] ∧ Iv K P0 s0 t' [top, odl aslack ob2336 kv2337 (slack2323 : (List (Int × Int))), top, fz v_best (b2395 : (Option Int)), fz v2362 (x2343 : Int), top, top, top, top, top]) (fun hb2397 s2398 e2399 => ?_) (fun hb2413 s2414 e2415 => ?_) (fun σ2420 s2421 hM2422 => ?_)
    · have hm2400 := iteE1 hj2396 hb2397
      have iv2401 := Iv.ex iv2366 e2399
      have fl2402 := Fle.trans fl2367 e2399.f
      have fl2403 := Fle.trans (Fle.refl t2350.F) e2399.f
      refine do_set 3 (ev_some (ev_var 4 rfl (Iv.fz (x := (x2343 : Int)) iv2401 4))) (fun v2408 s2406 e2407 r2409 => ?_) sc_Prices_nearest.nd
      obtain ⟨best2404, q2405, hm2400⟩ := ltE hm2400
      have iv2410 := Iv.sf iv2401 3 e2407 r2409 q2405
      have fl2411 := Fle.trans fl2402 e2407.f
      have fl2412 := Fle.trans fl2403 e2407.f
      obtain rfl := Option.some.inj hm2400
      exact do_nil ⟨s2406, rfl, fl2412, ⟨v2408, rfl, Iv.sel iv2410 [none, some 1, none, some 3, some 4, none, none, none, none, none] (by decide +kernel) (by kernel_rfl)⟩⟩
    · have hm2416 := iteE2 hj2396 hb2413
      have iv2417 := Iv.ex iv2366 e2415
      have fl2418 := Fle.trans fl2367 e2415.f
      have fl2419 := Fle.trans (Fle.refl t2350.F) e2415.f
      obtain rfl := Option.some.inj hm2416
      exact do_nil ⟨s2414, rfl, fl2419, ⟨v2359, rfl, Iv.sel iv2417 [none, some 1, none, some 3, some 4, none, none, none, none, none] (by decide +kernel) (by kernel_rfl)⟩⟩
    · obtain ⟨hf2423, hR2424⟩ := hM2422
      obtain ⟨v2425, rfl, iv2426⟩ := hR2424
      have fl2427 := Fle.trans fl2367 hf2423
      obtain rfl := Option.some.inj hm2345
      exact do_nil ⟨s2421, rfl, fl2427, ⟨v2425, _, rfl, Iv.sel iv2426 [none, some 1, none, some 3, none, none, none, none, none, none] (by decide +kernel) (by kernel_rfl)⟩⟩
  · obtain ⟨fl2434, hR2430'⟩ := hR2430
    obtain ⟨v2435, y2436, rfl, iv2437⟩ := hR2430'
    refine lk_nx iv2437 1 rfl (fun s2438 e2439 iv2440 => ?_)
    obtain rfl := Option.some.inj hm
    refine do_retK (ek_of (eg_ev (ev_var 3 rfl (Iv.fz (x := (o2334 : (Option Int))) iv2440 3))) iv2440) (fun v2441 s2443 z => ?_)
    obtain ⟨L2444, rfl, _, iv2442⟩ := z
    exact hQ _ _ _ ⟨aself, aself_costs, aself_of_seat, aself_of_player, aself_seat_by, aself_row, aslack, adone, rfl, v2441, rfl, rfl⟩ (Iv.sel iv2442 [some 1, some 10] (by decide +kernel) (by kernel_rfl))
abbrev s_Prices_raised : Stmt := clsS 24 2
def pre_Prices_raised : List V → R_Prices × (List Int) × (List Int) × Int × Unit → List OA → List OA → Prop := fun vs x L R => ∃ (aself : Addr) (aself_costs : V) (aself_of_seat : Addr) (aself_of_player : Addr) (aself_seat_by : Addr) (aself_row : Addr) (aseats : Addr) (adone : Addr) (astep : V), vs = [(.ref aself), (.ref aseats), (.ref adone), astep] ∧ L = [cell aself "Prices" [("costs", aself_costs), ("of_seat", (.ref aself_of_seat)), ("of_player", (.ref aself_of_player)), ("seat_by", (.ref aself_seat_by)), ("row", (.ref aself_row))], fz aself_costs (x.1.costs : (List (Dc Int Int))), ol aself_of_seat (x.1.of_seat : (List Int)), ol aself_of_player (x.1.of_player : (List Int)), od aself_seat_by (x.1.seat_by : (List (Int × Int))), ol aself_row (x.1.row : (List (Option Int))), fz astep (x.2.2.2.1 : Int)] ∧ R = [ol aseats (x.2.1 : (List Int)), ol adone (x.2.2.1 : (List Int))]
def ok_Prices_raised : List V → R_Prices × (List Int) × (List Int) × Int × Unit → (R_Prices) → V → List OA → Prop := fun vs x r v L' => ∃ (aself : Addr) (aself_costs : V) (aself_of_seat : Addr) (aself_of_player : Addr) (aself_seat_by : Addr) (aself_row : Addr) (aseats : Addr) (adone : Addr) (astep : V), vs = [(.ref aself), (.ref aseats), (.ref adone), astep] ∧ (∃ (bself_costs : V) (bself_of_seat : Addr) (bself_of_player : Addr) (bself_seat_by : Addr) (bself_row : Addr), v = .non ∧ L' = [cell aself "Prices" [("costs", bself_costs), ("of_seat", (.ref bself_of_seat)), ("of_player", (.ref bself_of_player)), ("seat_by", (.ref bself_seat_by)), ("row", (.ref bself_row))], fz bself_costs (r.costs : (List (Dc Int Int))), ol bself_of_seat (r.of_seat : (List Int)), ol bself_of_player (r.of_player : (List Int)), od bself_seat_by (r.seat_by : (List (Int × Int))), ol bself_row (r.row : (List (Option Int)))])
abbrev N_Prices_raised : List Str := ["self", "seats", "done", "step", "seat", "k"]
theorem sc_Prices_raised : FnScope N_Prices_raised ["self", "seats", "done", "step"] (defScope s_Prices_raised) := ⟨rfl, rfl, rfl, by decide +kernel, rfl, by decide +kernel, by decide +kernel⟩
noncomputable def m_Prices_raised (self2446 : R_Prices) (seats2447 : (List Int)) (done2448 : (List Int)) (step2449 : Int) : Option (R_Prices) :=
 (bnd (foldO (fun (b2454 : R_Prices) (x2456 : Int) =>
 (bnd (atI b2454.of_seat x2456) fun at2494 => (bnd (ixN (b2454.of_seat).length x2456) fun j2495 => (lt (((b2454.of_seat).set j2495 (at2494 + step2449)) : (List Int)) fun ls2492 =>
 (some (⟨b2454.costs, ls2492, b2454.of_player, b2454.seat_by, b2454.row⟩ : R_Prices)))))) (⟨self2446.costs, self2446.of_seat, self2446.of_player, self2446.seat_by, self2446.row⟩ : R_Prices) seats2447) fun o2452 =>
 (bnd (foldO (fun (b2514 : R_Prices) (x2516 : Int) =>
 (bnd (atI b2514.of_player x2516) fun at2554 => (bnd (ixN (b2514.of_player).length x2516) fun j2555 => (lt (((b2514.of_player).set j2555 (at2554 - step2449)) : (List Int)) fun ls2552 =>
 (some (⟨b2514.costs, b2514.of_seat, ls2552, b2514.seat_by, b2514.row⟩ : R_Prices)))))) (⟨o2452.costs, o2452.of_seat, o2452.of_player, o2452.seat_by, o2452.row⟩ : R_Prices) done2448) fun o2512 =>
 (some (⟨o2512.costs, o2512.of_seat, o2512.of_player, o2512.seat_by, o2512.row⟩ : R_Prices))))
noncomputable abbrev a_Prices_raised : R_Prices × (List Int) × (List Int) × Int × Unit → Option (R_Prices) := fun x => m_Prices_raised x.1 x.2.1 x.2.2.1 x.2.2.2.1
theorem ok_Prices_raised_fn {P : Program} {w : World} {K : PySem.W.Frag} {mg : Str → Option Value} {base : Heap} {f : Addr} {fd : FuncData} (F : FunM K "raised" "Prices.raised" s_Prices_raised f fd) (CL_Prices : ClsF K "Prices" ["costs", "of_seat", "of_player", "seat_by", "row"] ["__init__", "slacks", "raised", "fill", "nearest", "shift"]) : FnOk P w K mg base CX0 1 f fd ["self", "seats", "done", "step"] (spI K pre_Prices_raised a_Prices_raised ok_Prices_raised noEr) := by
  refine mk_I (k := 0) F sc_Prices_raised (fun vs a L R h => by obtain ⟨_, _, _, _, _, _, _, _, _, rfl, _⟩ := h; rfl) ?_
  rintro cdv A' outer sh0 H0 X0 hr s0 P0 L0 R0 vs ⟨self2446, seats2447, done2448, step2449, _⟩ o0 Q ⟨aself, aself_costs, aself_of_seat, aself_of_player, aself_seat_by, aself_row, aseats, adone, astep, rfl, rfl, rfl⟩ iv2450 ro hm hQ
  unfold a_Prices_raised m_Prices_raised at hm
  dsimp only at hm
  have iv2451 : Iv K P0 s0 s0 [cell aself "Prices" [("costs", aself_costs), ("of_seat", (.ref aself_of_seat)), ("of_player", (.ref aself_of_player)), ("seat_by", (.ref aself_seat_by)), ("row", (.ref aself_row))], top, top, fz astep (step2449 : Int), top, top, fz aself_costs (self2446.costs : (List (Dc Int Int))), ol aself_of_seat (self2446.of_seat : (List Int)), ol aself_of_player (self2446.of_player : (List Int)), od aself_seat_by (self2446.seat_by : (List (Int × Int))), ol aself_row (self2446.row : (List (Option Int)))] := Iv.sel iv2450 [some 0, none, none, some 6, none, none, some 1, some 2, some 3, some 4, some 5] (by decide +kernel) (by kernel_rfl)
  obtain ⟨o2452, ho2453, hm⟩ := bndE hm
  refine do_forG PassesOwn.never rfl (pg_name (i := 4) sc_Prices_raised.nd rfl (by first | exact Or.inl rfl | exact Or.inr rfl)) (for_readO (υ := R_Prices) (ei_rawL (xs := (seats2447 : (List Int))) (raw_var 1 rfl) (Iv.rol (xs := (seats2447 : (List Int))) iv2451 ro 0)) tg_n ho2453 (fun (b2454 : R_Prices) (σ' : L2.St) (t' : S) => Fle s0.F t'.F ∧ ∃ (v_self_costs : V) (p_self_of_seat : Addr) (p_self_of_player : Addr) (p_self_seat_by : Addr) (p_self_row : Addr) (y_seat : Option V), σ' = [some (.ref aself), some (.ref aseats), some (.ref adone), some astep, y_seat, none] ∧ Iv K P0 s0 t' [cell aself "Prices" [("costs", v_self_costs), ("of_seat", (.ref p_self_of_seat)), ("of_player", (.ref p_self_of_player)), ("seat_by", (.ref p_self_seat_by)), ("row", (.ref p_self_row))], top, top, fz astep (step2449 : Int), top, top, fz v_self_costs (b2454.costs : (List (Dc Int Int))), ol p_self_of_seat (b2454.of_seat : (List Int)), ol p_self_of_player (b2454.of_player : (List Int)), od p_self_seat_by (b2454.seat_by : (List (Int × Int))), ol p_self_row (b2454.row : (List (Option Int)))]) (fun b2454 σ' t' hR => by obtain ⟨f2467, hR2466⟩ := hR; obtain ⟨v2468, p2469, p2470, p2471, p2472, y2473, rfl, iv2474⟩ := hR2466; exact Iv.rol iv2474 ro 0) (fun s2501 k2502 => by have iv2503 := Iv.ex iv2451 k2502; exact ⟨k2502.f, ⟨aself_costs, aself_of_seat, aself_of_player, aself_seat_by, aself_row, _, rfl, Iv.sel iv2503 [some 0, none, none, some 3, none, none, some 6, some 7, some 8, some 9, some 10] (by decide +kernel) (by kernel_rfl)⟩⟩) (fun x2456 b2454 b2455 σ2464 σ2465 t2462 t2463 hx2457 hm2458 hR2459 k2460 hB2461 => ?_) (fun σ2498 t2499 hR2500 => ?_))
  · obtain ⟨fl2475, hR2459'⟩ := hR2459
    obtain ⟨v2476, p2477, p2478, p2479, p2480, y2481, rfl, iv2482⟩ := hR2459'
    obtain ⟨v2483, r2484, rfl⟩ := hB2461
    have iv2485 := Iv.ex iv2482 k2460
    have fl2486 := Fle.trans fl2475 k2460.f
    have iv2487 := Iv.sf iv2485 4 (Ex.refl t2463) r2484 rfl
    have fl2488 := Fle.trans fl2486 (Ex.refl t2463).f
    obtain ⟨at2494, h_at2494, hm2458⟩ := bndE hm2458
    obtain ⟨j2495, h_j2495, hm2458⟩ := bndE hm2458
    refine do_setItemP (raw_fld (raw_var 0 rfl) (Iv.cell iv2487 0) rfl CL_Prices.cl (CL_Prices.na "of_seat" (by simp))) (Iv.ol (xs := (b2454.of_seat : (List Int))) iv2487 7) (ev_add (ev_ix (er_raw (xs := (b2454.of_seat : (List Int))) (raw_fld (raw_var 0 rfl) (Iv.cell iv2487 0) rfl CL_Prices.cl (CL_Prices.na "of_seat" (by simp))) (Own.r (Iv.ol (xs := (b2454.of_seat : (List Int))) iv2487 7))) (ev_var 4 rfl (Iv.fz (x := (x2456 : Int)) iv2487 4)) h_at2494) (ev_var 3 rfl (Iv.fz (x := (step2449 : Int)) iv2487 3))) (ev_var 4 rfl (Iv.fz (x := (x2456 : Int)) iv2487 4)) h_j2495 (fun s2489 m2490 o2491 => ?_)
    obtain ⟨ls2492, q2493, hm2458⟩ := ltE hm2458
    have iv2496 := Iv.ml iv2487 7 m2490 o2491 q2493
    have fl2497 := Fle.trans fl2488 m2490.f
    obtain rfl := Option.some.inj hm2458
    exact do_nil ⟨s2489, rfl, fl2497, ⟨v2476, p2477, p2478, p2479, p2480, _, rfl, Iv.sel iv2496 [some 0, none, none, some 3, none, none, some 6, some 7, some 8, some 9, some 10] (by decide +kernel) (by kernel_rfl)⟩⟩
  · obtain ⟨fl2504, hR2500'⟩ := hR2500
    obtain ⟨v2505, p2506, p2507, p2508, p2509, y2510, rfl, iv2511⟩ := hR2500'
    obtain ⟨o2512, ho2513, hm⟩ := bndE hm
    refine do_forG PassesOwn.never rfl (pg_name (i := 5) sc_Prices_raised.nd rfl (by first | exact Or.inl rfl | exact Or.inr rfl)) (for_readO (υ := R_Prices) (ei_rawL (xs := (done2448 : (List Int))) (raw_var 2 rfl) (Iv.rol (xs := (done2448 : (List Int))) iv2511 ro 1)) tg_n ho2513 (fun (b2514 : R_Prices) (σ' : L2.St) (t' : S) => Fle t2499.F t'.F ∧ ∃ (v_self_costs : V) (p_self_of_seat : Addr) (p_self_of_player : Addr) (p_self_seat_by : Addr) (p_self_row : Addr) (y_k : Option V), σ' = [some (.ref aself), some (.ref aseats), some (.ref adone), some astep, y2510, y_k] ∧ Iv K P0 s0 t' [cell aself "Prices" [("costs", v_self_costs), ("of_seat", (.ref p_self_of_seat)), ("of_player", (.ref p_self_of_player)), ("seat_by", (.ref p_self_seat_by)), ("row", (.ref p_self_row))], top, top, fz astep (step2449 : Int), top, top, fz v_self_costs (b2514.costs : (List (Dc Int Int))), ol p_self_of_seat (b2514.of_seat : (List Int)), ol p_self_of_player (b2514.of_player : (List Int)), od p_self_seat_by (b2514.seat_by : (List (Int × Int))), ol p_self_row (b2514.row : (List (Option Int)))]) (fun b2514 σ' t' hR => by obtain ⟨f2527, hR2526⟩ := hR; obtain ⟨v2528, p2529, p2530, p2531, p2532, y2533, rfl, iv2534⟩ := hR2526; exact Iv.rol iv2534 ro 1) (fun s2561 k2562 => by have iv2563 := Iv.ex iv2511 k2562; exact ⟨k2562.f, ⟨v2505, p2506, p2507, p2508, p2509, _, rfl, Iv.sel iv2563 [some 0, none, none, some 3, none, none, some 6, some 7, some 8, some 9, some 10] (by decide +kernel) (by kernel_rfl)⟩⟩) (fun x2516 b2514 b2515 σ2524 σ2525 t2522 t2523 hx2517 hm2518 hR2519 k2520 hB2521 => ?_) (fun σ2558 t2559 hR2560 => ?_))
    · obtain ⟨fl2535, hR2519'⟩ := hR2519
      obtain ⟨v2536, p2537, p2538, p2539, p2540, y2541, rfl, iv2542⟩ := hR2519'
      obtain ⟨v2543, r2544, rfl⟩ := hB2521
      have iv2545 := Iv.ex iv2542 k2520
      have fl2546 := Fle.trans fl2535 k2520.f
      have iv2547 := Iv.sf iv2545 5 (Ex.refl t2523) r2544 rfl
      have fl2548 := Fle.trans fl2546 (Ex.refl t2523).f
      obtain ⟨at2554, h_at2554, hm2518⟩ := bndE hm2518
      obtain ⟨j2555, h_j2555, hm2518⟩ := bndE hm2518
      refine do_setItemP (raw_fld (raw_var 0 rfl) (Iv.cell iv2547 0) rfl CL_Prices.cl (CL_Prices.na "of_player" (by simp))) (Iv.ol (xs := (b2514.of_player : (List Int))) iv2547 8) (ev_sub (ev_ix (er_raw (xs := (b2514.of_player : (List Int))) (raw_fld (raw_var 0 rfl) (Iv.cell iv2547 0) rfl CL_Prices.cl (CL_Prices.na "of_player" (by simp))) (Own.r (Iv.ol (xs := (b2514.of_player : (List Int))) iv2547 8))) (ev_var 5 rfl (Iv.fz (x := (x2516 : Int)) iv2547 5)) h_at2554) (ev_var 3 rfl (Iv.fz (x := (step2449 : Int)) iv2547 3))) (ev_var 5 rfl (Iv.fz (x := (x2516 : Int)) iv2547 5)) h_j2555 (fun s2549 m2550 o2551 => ?_)
      obtain ⟨ls2552, q2553, hm2518⟩ := ltE hm2518
      have iv2556 := Iv.ml iv2547 8 m2550 o2551 q2553
      have fl2557 := Fle.trans fl2548 m2550.f
      obtain rfl := Option.some.inj hm2518
      exact do_nil ⟨s2549, rfl, fl2557, ⟨v2536, p2537, p2538, p2539, p2540, _, rfl, Iv.sel iv2556 [some 0, none, none, some 3, none, none, some 6, some 7, some 8, some 9, some 10] (by decide +kernel) (by kernel_rfl)⟩⟩
    · obtain ⟨fl2564, hR2560'⟩ := hR2560
      obtain ⟨v2565, p2566, p2567, p2568, p2569, y2570, rfl, iv2571⟩ := hR2560'
      obtain rfl := Option.some.inj hm
      exact do_nil (hQ _ _ _ ⟨aself, aself_costs, aself_of_seat, aself_of_player, aself_seat_by, aself_row, aseats, adone, astep, rfl, v2565, p2566, p2567, p2568, p2569, rfl, rfl⟩ (Iv.sel iv2571 [some 0, some 6, some 7, some 8, some 9, some 10] (by decide +kernel) (by kernel_rfl)))
abbrev s_Prices_shift : Stmt := clsS 24 5
def pre_Prices_shift : List V → R_Prices × (List (Int × Int)) × (Option Int) × Unit → List OA → List OA → Prop := fun vs x L R => ∃ (aself : Addr) (aself_costs : V) (aself_of_seat : Addr) (aself_of_player : Addr) (aself_seat_by : Addr) (aself_row : Addr) (aahead : Addr) (aplayer : V), vs = [(.ref aself), (.ref aahead), aplayer] ∧ L = [cell aself "Prices" [("costs", aself_costs), ("of_seat", (.ref aself_of_seat)), ("of_player", (.ref aself_of_player)), ("seat_by", (.ref aself_seat_by)), ("row", (.ref aself_row))], fz aself_costs (x.1.costs : (List (Dc Int Int))), ol aself_of_seat (x.1.of_seat : (List Int)), ol aself_of_player (x.1.of_player : (List Int)), od aself_seat_by (x.1.seat_by : (List (Int × Int))), ol aself_row (x.1.row : (List (Option Int))), fz aplayer (x.2.2.1 : (Option Int))] ∧ R = [od aahead (x.2.1 : (List (Int × Int)))]
def ok_Prices_shift : List V → R_Prices × (List (Int × Int)) × (Option Int) × Unit → (R_Prices) → V → List OA → Prop := fun vs x r v L' => ∃ (aself : Addr) (aself_costs : V) (aself_of_seat : Addr) (aself_of_player : Addr) (aself_seat_by : Addr) (aself_row : Addr) (aahead : Addr) (aplayer : V), vs = [(.ref aself), (.ref aahead), aplayer] ∧ (∃ (bself_costs : V) (bself_of_seat : Addr) (bself_of_player : Addr) (bself_seat_by : Addr) (bself_row : Addr), v = .non ∧ L' = [cell aself "Prices" [("costs", bself_costs), ("of_seat", (.ref bself_of_seat)), ("of_player", (.ref bself_of_player)), ("seat_by", (.ref bself_seat_by)), ("row", (.ref bself_row))], fz bself_costs (r.costs : (List (Dc Int Int))), ol bself_of_seat (r.of_seat : (List Int)), ol bself_of_player (r.of_player : (List Int)), od bself_seat_by (r.seat_by : (List (Int × Int))), ol bself_row (r.row : (List (Option Int)))])
abbrev N_Prices_shift : List Str := ["self", "ahead", "player", "seat", "former"]
theorem sc_Prices_shift : FnScope N_Prices_shift ["self", "ahead", "player"] (defScope s_Prices_shift) := ⟨rfl, rfl, rfl, by decide +kernel, rfl, by decide +kernel, by decide +kernel⟩
noncomputable def m_Prices_shift (self2572 : R_Prices) (ahead2573 : (List (Int × Int))) (player2574 : (Option Int)) : Option (R_Prices) :=
 (bnd (whileO (fun (b2579 : (R_Prices × (Option Int))) => (some (b2579.2).isSome)) (fun (b2579 : (R_Prices × (Option Int))) =>
 (bnd b2579.2 fun got2614 => (bnd (dval ahead2573 got2614) fun got2615 => (lt (got2615 : Int) fun seat2616 =>
 (bnd (atI b2579.1.row seat2616) fun at2624 => (lt (at2624 : (Option Int)) fun former2625 =>
 (bnd (ixN (b2579.1.row).length seat2616) fun j2638 => (lt (((b2579.1.row).set j2638 b2579.2) : (List (Option Int))) fun ls2636 =>
 (bnd b2579.2 fun got2646 => (chk ((b2579.1.seat_by).length < sizeLine) (lt ((dput b2579.1.seat_by got2646 seat2616) : (List (Int × Int))) fun kv2644 =>
 (lt (former2625 : (Option Int)) fun player2650 =>
 (some ((⟨b2579.1.costs, b2579.1.of_seat, b2579.1.of_player, kv2644, ls2636⟩ : R_Prices), player2650)))))))))))))) fuel ((⟨self2572.costs, self2572.of_seat, self2572.of_player, self2572.seat_by, self2572.row⟩ : R_Prices), player2574)) fun o2577 =>
 (some (⟨o2577.1.costs, o2577.1.of_seat, o2577.1.of_player, o2577.1.seat_by, o2577.1.row⟩ : R_Prices)))
noncomputable abbrev a_Prices_shift : R_Prices × (List (Int × Int)) × (Option Int) × Unit → Option (R_Prices) := fun x => m_Prices_shift x.1 x.2.1 x.2.2.1
theorem ok_Prices_shift_fn {P : Program} {w : World} {K : PySem.W.Frag} {mg : Str → Option Value} {base : Heap} {f : Addr} {fd : FuncData} (F : FunM K "shift" "Prices.shift" s_Prices_shift f fd) (CL_Prices : ClsF K "Prices" ["costs", "of_seat", "of_player", "seat_by", "row"] ["__init__", "slacks", "raised", "fill", "nearest", "shift"]) : FnOk P w K mg base CX0 1 f fd ["self", "ahead", "player"] (spI K pre_Prices_shift a_Prices_shift ok_Prices_shift noEr) := by
  refine mk_I (k := 0) F sc_Prices_shift (fun vs a L R h => by obtain ⟨_, _, _, _, _, _, _, _, rfl, _⟩ := h; rfl) ?_
  rintro cdv A' outer sh0 H0 X0 hr s0 P0 L0 R0 vs ⟨self2572, ahead2573, player2574, _⟩ o0 Q ⟨aself, aself_costs, aself_of_seat, aself_of_player, aself_seat_by, aself_row, aahead, aplayer, rfl, rfl, rfl⟩ iv2575 ro hm hQ
  unfold a_Prices_shift m_Prices_shift at hm
  dsimp only at hm
  have iv2576 : Iv K P0 s0 s0 [cell aself "Prices" [("costs", aself_costs), ("of_seat", (.ref aself_of_seat)), ("of_player", (.ref aself_of_player)), ("seat_by", (.ref aself_seat_by)), ("row", (.ref aself_row))], top, fz aplayer (player2574 : (Option Int)), top, top, fz aself_costs (self2572.costs : (List (Dc Int Int))), ol aself_of_seat (self2572.of_seat : (List Int)), ol aself_of_player (self2572.of_player : (List Int)), od aself_seat_by (self2572.seat_by : (List (Int × Int))), ol aself_row (self2572.row : (List (Option Int)))] := Iv.sel iv2575 [some 0, none, some 6, none, none, some 1, some 2, some 3, some 4, some 5] (by decide +kernel) (by kernel_rfl)
  obtain ⟨o2577, ho2578, hm⟩ := bndE hm
  refine do_whileO (υ := (R_Prices × (Option Int))) PassesOwn.never ho2578 (fun (b2579 : (R_Prices × (Option Int))) (σ' : L2.St) (t' : S) => ∃ (v_self_costs : V) (p_self_of_seat : Addr) (p_self_of_player : Addr) (p_self_seat_by : Addr) (p_self_row : Addr) (v_player : V) (y_seat : Option V) (y_former : Option V), σ' = [some (.ref aself), some (.ref aahead), some v_player, y_seat, y_former] ∧ Iv K P0 s0 t' [cell aself "Prices" [("costs", v_self_costs), ("of_seat", (.ref p_self_of_seat)), ("of_player", (.ref p_self_of_player)), ("seat_by", (.ref p_self_seat_by)), ("row", (.ref p_self_row))], top, fz v_player (b2579.2 : (Option Int)), top, top, fz v_self_costs (b2579.1.costs : (List (Dc Int Int))), ol p_self_of_seat (b2579.1.of_seat : (List Int)), ol p_self_of_player (b2579.1.of_player : (List Int)), od p_self_seat_by (b2579.1.seat_by : (List (Int × Int))), ol p_self_row (b2579.1.row : (List (Option Int)))]) ⟨aself_costs, aself_of_seat, aself_of_player, aself_seat_by, aself_row, aplayer, _, _, rfl, Iv.sel iv2576 [some 0, none, some 2, none, none, some 5, some 6, some 7, some 8, some 9] (by decide +kernel) (by kernel_rfl)⟩ (fun b2579 x2585 σ2582 t2581 hm2586 fl2583 hR2584 => ?_) (fun b2579 b2580 σ2598 t2596 t2597 hc2602 hm2603 fl2599 hR2600 k2601 => ?_) (fun σ2658 t2659 t2660 hc2661 fl2662 hR2663 k2664 => ?_)
  · obtain ⟨v2587, p2588, p2589, p2590, p2591, v2592, y2593, y2594, rfl, iv2595⟩ := hR2584
    obtain rfl := Option.some.inj hm2586
    exact (EvB.t (eb_notN (ev_var 2 rfl (Iv.fz (x := (b2579.2 : (Option Int))) iv2595 2))))
  · obtain ⟨v2604, p2605, p2606, p2607, p2608, v2609, y2610, y2611, rfl, iv2612⟩ := hR2600
    have iv2613 := Iv.ex iv2612 k2601
    obtain ⟨got2614, h_got2614, hm2603⟩ := bndE hm2603
    obtain ⟨got2615, h_got2615, hm2603⟩ := bndE hm2603
    refine do_set 3 (ev_dget hr (raw_var 1 rfl) (Iv.rod (xs := (ahead2573 : (List (Int × Int)))) iv2613 ro 0) (ev_some' (ev_var 2 rfl (Iv.fz (x := (b2579.2 : (Option Int))) iv2613 2)) h_got2614) h_got2615) (fun v2620 s2618 e2619 r2621 => ?_) sc_Prices_shift.nd
    obtain ⟨seat2616, q2617, hm2603⟩ := ltE hm2603
    have iv2622 := Iv.sf iv2613 3 e2619 r2621 q2617
    have fl2623 := Fle.trans (Fle.refl t2597.F) e2619.f
    obtain ⟨at2624, h_at2624, hm2603⟩ := bndE hm2603
    refine do_set 4 (ev_ix (er_raw (xs := (b2579.1.row : (List (Option Int)))) (raw_fld (raw_var 0 rfl) (Iv.cell iv2622 0) rfl CL_Prices.cl (CL_Prices.na "row" (by simp))) (Own.r (Iv.ol (xs := (b2579.1.row : (List (Option Int)))) iv2622 9))) (ev_var 3 rfl (Iv.fz (x := (seat2616 : Int)) iv2622 3)) h_at2624) (fun v2629 s2627 e2628 r2630 => ?_) sc_Prices_shift.nd
    obtain ⟨former2625, q2626, hm2603⟩ := ltE hm2603
    have iv2631 := Iv.sf iv2622 4 e2628 r2630 q2626
    have fl2632 := Fle.trans fl2623 e2628.f
    obtain ⟨j2638, h_j2638, hm2603⟩ := bndE hm2603
    refine do_setItemP (raw_fld (raw_var 0 rfl) (Iv.cell iv2631 0) rfl CL_Prices.cl (CL_Prices.na "row" (by simp))) (Iv.ol (xs := (b2579.1.row : (List (Option Int)))) iv2631 9) (ev_var 2 rfl (Iv.fz (x := (b2579.2 : (Option Int))) iv2631 2)) (ev_var 3 rfl (Iv.fz (x := (seat2616 : Int)) iv2631 3)) h_j2638 (fun s2633 m2634 o2635 => ?_)
    obtain ⟨ls2636, q2637, hm2603⟩ := ltE hm2603
    have iv2639 := Iv.ml iv2631 9 m2634 o2635 q2637
    have fl2640 := Fle.trans fl2632 m2634.f
    obtain ⟨got2646, h_got2646, hm2603⟩ := bndE hm2603
    obtain ⟨hc2647, hm2603⟩ := chkE hm2603
    refine do_dput hr (raw_fld (raw_var 0 rfl) (Iv.cell iv2639 0) rfl CL_Prices.cl (CL_Prices.na "seat_by" (by simp))) (Iv.od (xs := (b2579.1.seat_by : (List (Int × Int)))) iv2639 8) (ev_var 3 rfl (Iv.fz (x := (seat2616 : Int)) iv2639 3)) (ev_some' (ev_var 2 rfl (Iv.fz (x := (b2579.2 : (Option Int))) iv2639 2)) h_got2646) hc2647 (fun s2641 m2642 o2643 => ?_)
    obtain ⟨kv2644, q2645, hm2603⟩ := ltE hm2603
    have iv2648 := Iv.md iv2639 8 m2642 o2643 q2645
    have fl2649 := Fle.trans fl2640 m2642.f
    refine do_set 2 (ev_var 4 rfl (Iv.fz (x := (former2625 : (Option Int))) iv2648 4)) (fun v2654 s2652 e2653 r2655 => ?_) sc_Prices_shift.nd
    obtain ⟨player2650, q2651, hm2603⟩ := ltE hm2603
    have iv2656 := Iv.sf iv2648 2 e2653 r2655 q2651
    have fl2657 := Fle.trans fl2649 e2653.f
    obtain rfl := Option.some.inj hm2603
    exact do_nil ⟨s2652, rfl, fl2657, ⟨v2604, p2605, p2606, p2607, p2608, v2654, _, _, rfl, Iv.sel iv2656 [some 0, none, some 2, none, none, some 5, some 6, some 7, some 8, some 9] (by decide +kernel) (by kernel_rfl)⟩⟩
  · obtain ⟨v2665, p2666, p2667, p2668, p2669, v2670, y2671, y2672, rfl, iv2673⟩ := hR2663
    have iv2674 := Iv.ex iv2673 k2664
    obtain rfl := Option.some.inj hm
    exact do_nil (hQ _ _ _ ⟨aself, aself_costs, aself_of_seat, aself_of_player, aself_seat_by, aself_row, aahead, aplayer, rfl, v2665, p2666, p2667, p2668, p2669, rfl, rfl⟩ (Iv.sel iv2674 [some 0, some 5, some 6, some 7, some 8, some 9] (by decide +kernel) (by kernel_rfl)))
abbrev s_Prices_fill : Stmt := clsS 24 3
def pre_Prices_fill : List V → R_Prices × Int × Unit → List OA → List OA → Prop := fun vs x L R => ∃ (aself : Addr) (aself_costs : V) (aself_of_seat : Addr) (aself_of_player : Addr) (aself_seat_by : Addr) (aself_row : Addr) (afirst : V), vs = [(.ref aself), afirst] ∧ L = [cell aself "Prices" [("costs", aself_costs), ("of_seat", (.ref aself_of_seat)), ("of_player", (.ref aself_of_player)), ("seat_by", (.ref aself_seat_by)), ("row", (.ref aself_row))], fz aself_costs (x.1.costs : (List (Dc Int Int))), ol aself_of_seat (x.1.of_seat : (List Int)), ol aself_of_player (x.1.of_player : (List Int)), od aself_seat_by (x.1.seat_by : (List (Int × Int))), ol aself_row (x.1.row : (List (Option Int))), fz afirst (x.2.1 : Int)] ∧ R = []
def ok_Prices_fill : List V → R_Prices × Int × Unit → (R_Prices) → V → List OA → Prop := fun vs x r v L' => ∃ (aself : Addr) (aself_costs : V) (aself_of_seat : Addr) (aself_of_player : Addr) (aself_seat_by : Addr) (aself_row : Addr) (afirst : V), vs = [(.ref aself), afirst] ∧ (∃ (bself_costs : V) (bself_of_seat : Addr) (bself_of_player : Addr) (bself_seat_by : Addr) (bself_row : Addr), v = .non ∧ L' = [cell aself "Prices" [("costs", bself_costs), ("of_seat", (.ref bself_of_seat)), ("of_player", (.ref bself_of_player)), ("seat_by", (.ref bself_seat_by)), ("row", (.ref bself_row))], fz bself_costs (r.costs : (List (Dc Int Int))), ol bself_of_seat (r.of_seat : (List Int)), ol bself_of_player (r.of_player : (List Int)), od bself_seat_by (r.seat_by : (List (Int × Int))), ol bself_row (r.row : (List (Option Int)))])
abbrev N_Prices_fill : List Str := ["self", "first", "slack", "ahead", "done", "seats", "player", "step", "k"]
theorem sc_Prices_fill : FnScope N_Prices_fill ["self", "first"] (defScope s_Prices_fill) := ⟨rfl, rfl, rfl, by decide +kernel, rfl, by decide +kernel, by decide +kernel⟩
noncomputable def m_Prices_fill (self2675 : R_Prices) (first2676 : Int) : Option (R_Prices) :=
 (lt (([] : List Int) : (List Int)) fun done2695 =>
 (lt (([first2676] : List Int) : (List Int)) fun seats2703 =>
 (bnd (a_Prices_slacks ((⟨self2675.costs, self2675.of_seat, self2675.of_player, self2675.seat_by, self2675.row⟩ : R_Prices), ([] : (List (Int × Int))), ([] : (List (Int × Int))), first2676, ())) fun slacks2713 => (bnd (a_Prices_nearest ((⟨⟩ : R_Prices_u), slacks2713.1, done2695, ())) fun nearest2720 => (bnd (whileF (ρ := (R_Prices)) (fun (b2730 : (R_Prices × (List (Int × Int)) × (List Int) × (List Int) × (List (Int × Int)) × (Option Int))) => (some (b2730.2.2.2.2.2).isSome)) (fun (b2730 : (R_Prices × (List (Int × Int)) × (List Int) × (List Int) × (List (Int × Int)) × (Option Int))) =>
 (bnd b2730.2.2.2.2.2 fun got2767 => (bnd (dval b2730.2.1 got2767) fun got2768 => (lt (got2768 : Int) fun step2769 =>
 (bnd (a_Prices_raised ((⟨b2730.1.costs, b2730.1.of_seat, b2730.1.of_player, b2730.1.seat_by, b2730.1.row⟩ : R_Prices), b2730.2.2.2.1, b2730.2.2.1, step2769, ())) fun raised2779 => (bnd (foldO (fun (b2794 : (List (Int × Int))) (x2796 : Int) =>
 (bnd (if (!decide (x2796 ∈ b2730.2.2.1)) = true then
 (bnd (dval b2794 x2796) fun got2852 => (chk ((b2794).length < sizeLine) (lt ((dput b2794 x2796 (got2852 - step2769)) : (List (Int × Int))) fun kv2850 =>
 (some kv2850))))
 else
 (some b2794) : Option ((List (Int × Int)))) fun b2838 =>
 (some b2838))) b2730.2.1 (List.map (fun (z : Int × Int) => z.1) b2730.2.1)) fun o2792 =>
 (bnd b2730.2.2.2.2.2 fun got2885 => (if (!(dval raised2779.seat_by got2885).isSome) = true then
 (bnd (a_Prices_shift ((⟨raised2779.costs, raised2779.of_seat, raised2779.of_player, raised2779.seat_by, raised2779.row⟩ : R_Prices), b2730.2.2.2.2.1, b2730.2.2.2.2.2, ())) fun shift2894 => (some (Fl.rt (⟨shift2894.costs, shift2894.of_seat, shift2894.of_player, shift2894.seat_by, shift2894.row⟩ : R_Prices))))
 else
 (bnd b2730.2.2.2.2.2 fun got2927 => (chk ((b2730.2.2.1).length < sizeLine) (lt ((b2730.2.2.1 ++ [got2927]) : (List Int)) fun done2925 =>
 (bnd b2730.2.2.2.2.2 fun got2941 => (bnd (dval raised2779.seat_by got2941) fun got2942 => (chk ((b2730.2.2.2.1).length < sizeLine) (lt ((b2730.2.2.2.1 ++ [got2942]) : (List Int)) fun seats2939 =>
 (bnd b2730.2.2.2.2.2 fun got2946 => (bnd (dval raised2779.seat_by got2946) fun got2947 => (bnd (a_Prices_slacks ((⟨raised2779.costs, raised2779.of_seat, raised2779.of_player, raised2779.seat_by, raised2779.row⟩ : R_Prices), o2792, b2730.2.2.2.2.1, got2947, ())) fun slacks2950 => (bnd (a_Prices_nearest ((⟨⟩ : R_Prices_u), slacks2950.1, done2925, ())) fun nearest2958 => (some (Fl.nx ((⟨raised2779.costs, raised2779.of_seat, raised2779.of_player, raised2779.seat_by, raised2779.row⟩ : R_Prices), slacks2950.1, done2925, seats2939, slacks2950.2, nearest2958)))))))))))))))))))))) fuel ((⟨self2675.costs, self2675.of_seat, self2675.of_player, self2675.seat_by, self2675.row⟩ : R_Prices), slacks2713.1, done2695, seats2703, slacks2713.2, nearest2720)) fun o2728 =>
 (Fl.go o2728 (fun b2974 => (some (⟨b2974.1.costs, b2974.1.of_seat, b2974.1.of_player, b2974.1.seat_by, b2974.1.row⟩ : R_Prices))) (fun rr => (some rr))))))))
noncomputable abbrev a_Prices_fill : R_Prices × Int × Unit → Option (R_Prices) := fun x => m_Prices_fill x.1 x.2.1
theorem ok_Prices_fill_fn {P : Program} {w : World} {K : PySem.W.Frag} {mg : Str → Option Value} {base : Heap} {f : Addr} {fd : FuncData} (F : FunM K "fill" "Prices.fill" s_Prices_fill f fd) (C_Prices_slacks : CalM P w K mg base CX0 1 "Prices" "slacks" (spI K pre_Prices_slacks a_Prices_slacks ok_Prices_slacks noEr)) (C_Prices_nearest : CalM P w K mg base CX0 1 "Prices" "nearest" (spI K pre_Prices_nearest a_Prices_nearest ok_Prices_nearest noEr)) (C_Prices_raised : CalM P w K mg base CX0 1 "Prices" "raised" (spI K pre_Prices_raised a_Prices_raised ok_Prices_raised noEr)) (C_Prices_shift : CalM P w K mg base CX0 1 "Prices" "shift" (spI K pre_Prices_shift a_Prices_shift ok_Prices_shift noEr)) (z_list : mg "list" = none) (CL_Prices : ClsF K "Prices" ["costs", "of_seat", "of_player", "seat_by", "row"] ["__init__", "slacks", "raised", "fill", "nearest", "shift"]) : FnOk P w K mg base CX0 2 f fd ["self", "first"] (spI K pre_Prices_fill a_Prices_fill ok_Prices_fill noEr) := by
  refine mk_I (k := 1) F sc_Prices_fill (fun vs a L R h => by obtain ⟨_, _, _, _, _, _, _, rfl, _⟩ := h; rfl) ?_
  rintro cdv A' outer sh0 H0 X0 hr s0 P0 L0 R0 vs ⟨self2675, first2676, _⟩ o0 Q ⟨aself, aself_costs, aself_of_seat, aself_of_player, aself_seat_by, aself_row, afirst, rfl, rfl, rfl⟩ iv2677 ro hm hQ
  unfold a_Prices_fill m_Prices_fill at hm
  dsimp only at hm
  have iv2678 : Iv K P0 s0 s0 [cell aself "Prices" [("costs", aself_costs), ("of_seat", (.ref aself_of_seat)), ("of_player", (.ref aself_of_player)), ("seat_by", (.ref aself_seat_by)), ("row", (.ref aself_row))], fz afirst (first2676 : Int), top, top, top, top, top, top, top, fz aself_costs (self2675.costs : (List (Dc Int Int))), ol aself_of_seat (self2675.of_seat : (List Int)), ol aself_of_player (self2675.of_player : (List Int)), od aself_seat_by (self2675.seat_by : (List (Int × Int))), ol aself_row (self2675.row : (List (Option Int)))] := Iv.sel iv2677 [some 0, some 6, none, none, none, none, none, none, none, some 1, some 2, some 3, some 4, some 5] (by decide +kernel) (by kernel_rfl)
  refine do_setG 2 (eg_newD (xs := ([] : (List (Int × Int)))) en_dnew) (fun v2680 s2681 L2682 z2685 iv2683 => ?_) sc_Prices_fill.nd
  obtain ⟨p2679, rfl, rfl⟩ := z2685
  have iv2684 := Iv.add iv2678 iv2683
  have iv2686 : Iv K P0 s0 s2681 [cell aself "Prices" [("costs", aself_costs), ("of_seat", (.ref aself_of_seat)), ("of_player", (.ref aself_of_player)), ("seat_by", (.ref aself_seat_by)), ("row", (.ref aself_row))], fz afirst (first2676 : Int), od p2679 (([] : (List (Int × Int))) : (List (Int × Int))), top, top, top, top, top, top, fz aself_costs (self2675.costs : (List (Dc Int Int))), ol aself_of_seat (self2675.of_seat : (List Int)), ol aself_of_player (self2675.of_player : (List Int)), od aself_seat_by (self2675.seat_by : (List (Int × Int))), ol aself_row (self2675.row : (List (Option Int)))] := Iv.sel iv2684 [some 0, some 1, some 14, none, none, none, none, none, none, some 9, some 10, some 11, some 12, some 13] (by decide +kernel) (by kernel_rfl)
  refine do_setG 3 (eg_newD (xs := ([] : (List (Int × Int)))) en_dnew) (fun v2688 s2689 L2690 z2693 iv2691 => ?_) sc_Prices_fill.nd
  obtain ⟨p2687, rfl, rfl⟩ := z2693
  have iv2692 := Iv.add iv2686 iv2691
  have iv2694 : Iv K P0 s0 s2689 [cell aself "Prices" [("costs", aself_costs), ("of_seat", (.ref aself_of_seat)), ("of_player", (.ref aself_of_player)), ("seat_by", (.ref aself_seat_by)), ("row", (.ref aself_row))], fz afirst (first2676 : Int), od p2679 (([] : (List (Int × Int))) : (List (Int × Int))), od p2687 (([] : (List (Int × Int))) : (List (Int × Int))), top, top, top, top, top, fz aself_costs (self2675.costs : (List (Dc Int Int))), ol aself_of_seat (self2675.of_seat : (List Int)), ol aself_of_player (self2675.of_player : (List Int)), od aself_seat_by (self2675.seat_by : (List (Int × Int))), ol aself_row (self2675.row : (List (Option Int)))] := Iv.sel iv2692 [some 0, some 1, some 2, some 14, none, none, none, none, none, some 9, some 10, some 11, some 12, some 13] (by decide +kernel) (by kernel_rfl)
  refine do_setN 4 (en_list (xs := ([] : List Int)) ee_nil (by simp [sizeLine])) (fun p2699 s2697 e2698 n2700 o2701 => ?_) sc_Prices_fill.nd
  obtain ⟨done2695, q2696, hm⟩ := ltE hm
  have iv2702 := Iv.sl iv2694 4 e2698 n2700 o2701 q2696
  refine do_setN 5 (en_list (xs := ([first2676] : List Int)) (ee_cons (ev_var 1 rfl (Iv.fz (x := (first2676 : Int)) iv2702 1)) ee_nil) (by simp [sizeLine])) (fun p2707 s2705 e2706 n2708 o2709 => ?_) sc_Prices_fill.nd
  obtain ⟨seats2703, q2704, hm⟩ := ltE hm
  have iv2710 := Iv.sl iv2702 5 e2706 n2708 o2709 q2704
  obtain ⟨slacks2713, h_slacks2713, hm⟩ := bndE hm
  refine do_exprK (ek_call (ok' := (fun v L' => v = .non ∧ L' = [od p2679 (slacks2713.1 : (List (Int × Int))), od p2687 (slacks2713.2 : (List (Int × Int)))])) (ca_meth (E := fun _ _ _ _ => False) C_Prices_slacks CL_Prices.cl pass00 hr (by decide) (raw_var 0 rfl) (Iv.cell iv2710 0) rfl (ea_cons (raw_var 2 rfl) (ea_cons (raw_var 3 rfl) (ea_cons (ev_var 1 rfl (Iv.fz (x := (first2676 : Int)) iv2710 1)) ea_nil)))) iv2710 ro0 [2, 3] (by decide) (by simp) [.inl 0, .inl 9, .inl 10, .inl 11, .inl 12, .inl 13] (by simp) (fun vs s2 k2 r2 => by obtain ⟨ws, rfl, r3⟩ := r2; obtain ⟨_, _, rfl, rfl, _, _, rfl, rfl, v2711, _, rfl, r2712, rfl⟩ := r3; exact ⟨[fz v2711 (first2676 : Int)], ⟨(aself), (aself_costs), (aself_of_seat), (aself_of_player), (aself_seat_by), (aself_row), (p2679), (p2687), v2711, rfl, rfl, rfl⟩, (all_cons r2712 all_nil), (fun v L' z => by obtain ⟨_, _, _, _, _, _, _, _, _, e, z⟩ := z; cases e; exact z), (fun e L' z => z.elim)⟩) h_slacks2713) (fun v2717 s2715 z => ?_)
  obtain ⟨L2716, ⟨rfl, rfl⟩, hf2718, iv2714⟩ := z
  have iv2719 : Iv K P0 s0 s2715 [cell aself "Prices" [("costs", aself_costs), ("of_seat", (.ref aself_of_seat)), ("of_player", (.ref aself_of_player)), ("seat_by", (.ref aself_seat_by)), ("row", (.ref aself_row))], fz afirst (first2676 : Int), od p2679 (slacks2713.1 : (List (Int × Int))), od p2687 (slacks2713.2 : (List (Int × Int))), ol p2699 (done2695 : (List Int)), ol p2707 (seats2703 : (List Int)), top, top, top, fz aself_costs (self2675.costs : (List (Dc Int Int))), ol aself_of_seat (self2675.of_seat : (List Int)), ol aself_of_player (self2675.of_player : (List Int)), od aself_seat_by (self2675.seat_by : (List (Int × Int))), ol aself_row (self2675.row : (List (Option Int)))] := Iv.sel iv2714 [some 0, some 1, some 14, some 15, some 4, some 5, none, none, none, some 9, some 10, some 11, some 12, some 13] (by decide +kernel) (by kernel_rfl)
  obtain ⟨nearest2720, h_nearest2720, hm⟩ := bndE hm
  refine do_setK 6 (ek_call (ok' := (fun v L' => ∃ (v2721 : V), v = v2721 ∧ L' = [od p2679 ((slacks2713.1) : (List (Int × Int))), fz v2721 (nearest2720 : (Option Int))])) (ca_meth (E := fun _ _ _ _ => False) C_Prices_nearest CL_Prices.cl pass00 hr (by decide) (raw_var 0 rfl) (Iv.cell iv2719 0) rfl (ea_cons (raw_var 2 rfl) (ea_cons (raw_var 4 rfl) ea_nil))) iv2719 ro0 [2] (by decide) (by simp) [.inl 0, .inl 99999, .inl 99999, .inl 99999, .inl 99999, .inl 99999, .inl 4] (by simp) (fun vs s2 k2 r2 => by obtain ⟨ws, rfl, r3⟩ := r2; obtain ⟨_, _, rfl, rfl, _, _, rfl, rfl, rfl⟩ := r3; exact ⟨[], ⟨(aself), (aself_costs), ((.ref aself_of_seat)), ((.ref aself_of_player)), ((.ref aself_seat_by)), ((.ref aself_row)), (p2679), (p2699), rfl, rfl, rfl⟩, all_nil, (fun v L' z => by obtain ⟨_, _, _, _, _, _, _, _, e, z⟩ := z; cases e; exact z), (fun e L' z => z.elim)⟩) h_nearest2720) (fun v2721 s2723 z => ?_) sc_Prices_fill.nd
  obtain ⟨L2724, ⟨_, rfl, rfl⟩, hf2726, iv2722⟩ := z
  have iv2727 : Iv K P0 s0 s2723 [cell aself "Prices" [("costs", aself_costs), ("of_seat", (.ref aself_of_seat)), ("of_player", (.ref aself_of_player)), ("seat_by", (.ref aself_seat_by)), ("row", (.ref aself_row))], fz afirst (first2676 : Int), od p2679 (slacks2713.1 : (List (Int × Int))), od p2687 (slacks2713.2 : (List (Int × Int))), ol p2699 (done2695 : (List Int)), ol p2707 (seats2703 : (List Int)), fz v2721 (nearest2720 : (Option Int)), top, top, fz aself_costs (self2675.costs : (List (Dc Int Int))), ol aself_of_seat (self2675.of_seat : (List Int)), ol aself_of_player (self2675.of_player : (List Int)), od aself_seat_by (self2675.seat_by : (List (Int × Int))), ol aself_row (self2675.row : (List (Option Int)))] := Iv.sel iv2722 [some 0, some 1, some 14, some 3, some 4, some 5, some 15, none, none, some 9, some 10, some 11, some 12, some 13] (by decide +kernel) (by kernel_rfl)
  obtain ⟨o2728, ho2729, hm⟩ := bndE hm
  refine do_whileF (ρ := (R_Prices)) (υ := (R_Prices × (List (Int × Int)) × (List Int) × (List Int) × (List (Int × Int)) × (Option Int))) PassesOwn.never ho2729 (fun (b2730 : (R_Prices × (List (Int × Int)) × (List Int) × (List Int) × (List (Int × Int)) × (Option Int))) (σ' : L2.St) (t' : S) => ∃ (v_self_costs : V) (p_self_of_seat : Addr) (p_self_of_player : Addr) (p_self_seat_by : Addr) (p_self_row : Addr) (v_player : V) (y_step : Option V) (y_k : Option V), σ' = [some (.ref aself), some afirst, some (.ref p2679), some (.ref p2687), some (.ref p2699), some (.ref p2707), some v_player, y_step, y_k] ∧ Iv K P0 s0 t' [cell aself "Prices" [("costs", v_self_costs), ("of_seat", (.ref p_self_of_seat)), ("of_player", (.ref p_self_of_player)), ("seat_by", (.ref p_self_seat_by)), ("row", (.ref p_self_row))], fz afirst (first2676 : Int), od p2679 (b2730.2.1 : (List (Int × Int))), od p2687 (b2730.2.2.2.2.1 : (List (Int × Int))), ol p2699 (b2730.2.2.1 : (List Int)), ol p2707 (b2730.2.2.2.1 : (List Int)), fz v_player (b2730.2.2.2.2.2 : (Option Int)), top, top, fz v_self_costs (b2730.1.costs : (List (Dc Int Int))), ol p_self_of_seat (b2730.1.of_seat : (List Int)), ol p_self_of_player (b2730.1.of_player : (List Int)), od p_self_seat_by (b2730.1.seat_by : (List (Int × Int))), ol p_self_row (b2730.1.row : (List (Option Int)))]) ⟨aself_costs, aself_of_seat, aself_of_player, aself_seat_by, aself_row, v2721, _, _, rfl, Iv.sel iv2727 [some 0, some 1, some 2, some 3, some 4, some 5, some 6, none, none, some 9, some 10, some 11, some 12, some 13] (by decide +kernel) (by kernel_rfl)⟩ (fun b2730 x2736 σ2733 t2732 hm2737 fl2734 hR2735 => ?_) (fun b2730 q2765 σ2749 t2747 t2748 hc2753 hm2754 hq2766 fl2750 hR2751 k2752 => ?_) (fun b2974 σ2967 t2968 t2969 ho2975 hc2970 fl2971 hR2972 k2973 => ?_)
  · obtain ⟨v2738, p2739, p2740, p2741, p2742, v2743, y2744, y2745, rfl, iv2746⟩ := hR2735
    obtain rfl := Option.some.inj hm2737
    exact (EvB.t (eb_notN (ev_var 6 rfl (Iv.fz (x := (b2730.2.2.2.2.2 : (Option Int))) iv2746 6))))
  · obtain ⟨v2755, p2756, p2757, p2758, p2759, v2760, y2761, y2762, rfl, iv2763⟩ := hR2751
    have iv2764 := Iv.ex iv2763 k2752
    obtain ⟨got2767, h_got2767, hm2754⟩ := bndE hm2754
    obtain ⟨got2768, h_got2768, hm2754⟩ := bndE hm2754
    refine do_set 7 (ev_dget hr (raw_var 2 rfl) (OwnD.r (Iv.od (xs := (b2730.2.1 : (List (Int × Int)))) iv2764 2)) (ev_some' (ev_var 6 rfl (Iv.fz (x := (b2730.2.2.2.2.2 : (Option Int))) iv2764 6)) h_got2767) h_got2768) (fun v2773 s2771 e2772 r2774 => ?_) sc_Prices_fill.nd
    obtain ⟨step2769, q2770, hm2754⟩ := ltE hm2754
    have iv2775 := Iv.sf iv2764 7 e2772 r2774 q2770
    have fl2776 := Fle.trans (Fle.refl t2748.F) e2772.f
    obtain ⟨raised2779, h_raised2779, hm2754⟩ := bndE hm2754
    refine do_exprK (ek_call (ok' := (fun v L' => ∃ (v2780 : V) (p2781 : Addr) (p2782 : Addr) (p2783 : Addr) (p2784 : Addr), v = .non ∧ L' = [cell aself "Prices" [("costs", v2780), ("of_seat", (.ref p2781)), ("of_player", (.ref p2782)), ("seat_by", (.ref p2783)), ("row", (.ref p2784))], fz v2780 (raised2779.costs : (List (Dc Int Int))), ol p2781 (raised2779.of_seat : (List Int)), ol p2782 (raised2779.of_player : (List Int)), od p2783 (raised2779.seat_by : (List (Int × Int))), ol p2784 (raised2779.row : (List (Option Int)))])) (ca_meth (E := fun _ _ _ _ => False) C_Prices_raised CL_Prices.cl pass00 hr (by decide) (raw_var 0 rfl) (Iv.cell iv2775 0) rfl (ea_cons (raw_var 5 rfl) (ea_cons (raw_var 4 rfl) (ea_cons (ev_var 7 rfl (Iv.fz (x := (step2769 : Int)) iv2775 7)) ea_nil)))) iv2775 ro0 [0, 9, 10, 11, 12, 13] (by decide) (by simp) [.inl 5, .inl 4] (by simp) (fun vs s2 k2 r2 => by obtain ⟨ws, rfl, r3⟩ := r2; obtain ⟨_, _, rfl, rfl, _, _, rfl, rfl, v2777, _, rfl, r2778, rfl⟩ := r3; exact ⟨[fz v2777 (step2769 : Int)], ⟨(aself), (v2755), (p2756), (p2757), (p2758), (p2759), (p2707), (p2699), v2777, rfl, rfl, rfl⟩, (all_cons r2778 all_nil), (fun v L' z => by obtain ⟨_, _, _, _, _, _, _, _, _, e, z⟩ := z; cases e; exact z), (fun e L' z => z.elim)⟩) h_raised2779) (fun v2788 s2786 z => ?_)
    obtain ⟨L2787, ⟨v2780, p2781, p2782, p2783, p2784, rfl, rfl⟩, hf2789, iv2785⟩ := z
    have iv2790 : Iv K P0 s0 s2786 [cell aself "Prices" [("costs", v2780), ("of_seat", (.ref p2781)), ("of_player", (.ref p2782)), ("seat_by", (.ref p2783)), ("row", (.ref p2784))], fz afirst (first2676 : Int), od p2679 (b2730.2.1 : (List (Int × Int))), od p2687 (b2730.2.2.2.2.1 : (List (Int × Int))), ol p2699 (b2730.2.2.1 : (List Int)), ol p2707 (b2730.2.2.2.1 : (List Int)), fz v2760 (b2730.2.2.2.2.2 : (Option Int)), fz v2773 (step2769 : Int), top, fz v2780 (raised2779.costs : (List (Dc Int Int))), ol p2781 (raised2779.of_seat : (List Int)), ol p2782 (raised2779.of_player : (List Int)), od p2783 (raised2779.seat_by : (List (Int × Int))), ol p2784 (raised2779.row : (List (Option Int)))] := Iv.sel iv2785 [some 14, some 1, some 2, some 3, some 4, some 5, some 6, some 7, none, some 15, some 16, some 17, some 18, some 19] (by decide +kernel) (by kernel_rfl)
    have fl2791 := Fle.trans fl2776 hf2789
    obtain ⟨o2792, ho2793, hm2754⟩ := bndE hm2754
    refine do_forO (υ := (List (Int × Int))) PassesOwn.never rfl (ei_list (EvN.ev (en_dlist z_list (raw_var 2 rfl) (Iv.od (xs := (b2730.2.1 : (List (Int × Int)))) iv2790 2)))) (pg_name (i := 8) sc_Prices_fill.nd rfl (by first | exact Or.inl rfl | exact Or.inr rfl)) tg_n ho2793 (fun (b2794 : (List (Int × Int))) (σ' : L2.St) (t' : S) => ∃ (y_k : Option V), σ' = [some (.ref aself), some afirst, some (.ref p2679), some (.ref p2687), some (.ref p2699), some (.ref p2707), some v2760, some v2773, y_k] ∧ Iv K P0 s0 t' [cell aself "Prices" [("costs", v2780), ("of_seat", (.ref p2781)), ("of_player", (.ref p2782)), ("seat_by", (.ref p2783)), ("row", (.ref p2784))], fz afirst (first2676 : Int), od p2679 (b2794 : (List (Int × Int))), od p2687 (b2730.2.2.2.2.1 : (List (Int × Int))), ol p2699 (b2730.2.2.1 : (List Int)), ol p2707 (b2730.2.2.2.1 : (List Int)), fz v2760 (b2730.2.2.2.2.2 : (Option Int)), fz v2773 (step2769 : Int), top, fz v2780 (raised2779.costs : (List (Dc Int Int))), ol p2781 (raised2779.of_seat : (List Int)), ol p2782 (raised2779.of_player : (List Int)), od p2783 (raised2779.seat_by : (List (Int × Int))), ol p2784 (raised2779.row : (List (Option Int)))]) (fun s2877 k2878 => by have iv2879 := Iv.ex iv2790 k2878; have fl2880 := Fle.trans fl2791 k2878.f; exact ⟨_, rfl, Iv.sel iv2879 [some 0, some 1, some 2, some 3, some 4, some 5, some 6, some 7, none, some 9, some 10, some 11, some 12, some 13] (by decide +kernel) (by kernel_rfl)⟩) (fun s2797 k2798 x2796 b2794 b2795 σ2807 σ2808 t2805 t2806 hx2799 hm2800 fl2801 hR2802 k2803 hB2804 => ?_) (fun s2871 k2872 σ2873 t2874 fl2875 hR2876 => ?_)
    · have hf2809 := Fle.trans k2798.f fl2801
      obtain ⟨y2810, rfl, iv2811⟩ := hR2802
      obtain ⟨v2812, r2813, rfl⟩ := hB2804
      have iv2814 := Iv.ex iv2811 k2803
      have iv2815 := Iv.sf iv2814 8 (Ex.refl t2806) r2813 rfl
      have fl2816 := Fle.trans (Fle.refl t2806.F) (Ex.refl t2806).f
      obtain ⟨b2838, hj2839, hm2800⟩ := bndE hm2800
      refine do_if (EvB.t (eb_notIn (ev_var 8 rfl (Iv.fz (x := (x2796 : Int)) iv2815 8)) (er_raw (xs := (b2730.2.2.1 : (List Int))) (raw_var 4 rfl) (Own.r (Iv.ol (xs := (b2730.2.2.1 : (List Int))) iv2815 4))))) (fun (σ' : L2.St) (t' : S) => Fle t2806.F t'.F ∧ σ' = [some (.ref aself), some afirst, some (.ref p2679), some (.ref p2687), some (.ref p2699), some (.ref p2707), some v2760, some v2773, some v2812] ∧ Iv K P0 s0 t' [cell aself "Prices" [("costs", v2780), ("of_seat", (.ref p2781)), ("of_player", (.ref p2782)), ("seat_by", (.ref p2783)), ("row", (.ref p2784))], fz afirst (first2676 : Int), od p2679 (b2838 : (List (Int × Int))), od p2687 (b2730.2.2.2.2.1 : (List (Int × Int))), ol p2699 (b2730.2.2.1 : (List Int)), ol p2707 (b2730.2.2.2.1 : (List Int)), fz v2760 (b2730.2.2.2.2.2 : (Option Int)), fz v2773 (step2769 : Int), fz v2812 (x2796 : Int), fz v2780 (raised2779.costs : (List (Dc Int Int))), ol p2781 (raised2779.of_seat : (List Int)), ol p2782 (raised2779.of_player : (List Int)), od p2783 (raised2779.seat_by : (List (Int × Int))), ol p2784 (raised2779.row : (List (Option Int)))]) (fun hb2840 s2841 e2842 => ?_) (fun hb2857 s2858 e2859 => ?_) (fun σ2864 s2865 hM2866 => ?_)
      · have hm2843 := iteE1 hj2839 hb2840
        have iv2844 := Iv.ex iv2815 e2842
        have fl2845 := Fle.trans (Fle.refl t2806.F) e2842.f
        have fl2846 := Fle.trans (Fle.refl t2806.F) e2842.f
        obtain ⟨got2852, h_got2852, hm2843⟩ := bndE hm2843
        obtain ⟨hc2853, hm2843⟩ := chkE hm2843
        refine do_dput hr (raw_var 2 rfl) (Iv.od (xs := (b2794 : (List (Int × Int)))) iv2844 2) (ev_sub (ev_dget hr (raw_var 2 rfl) (OwnD.r (Iv.od (xs := (b2794 : (List (Int × Int)))) iv2844 2)) (ev_var 8 rfl (Iv.fz (x := (x2796 : Int)) iv2844 8)) h_got2852) (ev_var 7 rfl (Iv.fz (x := (step2769 : Int)) iv2844 7))) (ev_var 8 rfl (Iv.fz (x := (x2796 : Int)) iv2844 8)) hc2853 (fun s2847 m2848 o2849 => ?_)
        obtain ⟨kv2850, q2851, hm2843⟩ := ltE hm2843
        have iv2854 := Iv.md iv2844 2 m2848 o2849 q2851
        have fl2855 := Fle.trans fl2845 m2848.f
        have fl2856 := Fle.trans fl2846 m2848.f
        obtain rfl := Option.some.inj hm2843
        exact do_nil ⟨s2847, rfl, fl2856, ⟨rfl, Iv.sel iv2854 [some 0, some 1, some 2, some 3, some 4, some 5, some 6, some 7, some 8, some 9, some 10, some 11, some 12, some 13] (by decide +kernel) (by kernel_rfl)⟩⟩
      · have hm2860 := iteE2 hj2839 hb2857
        have iv2861 := Iv.ex iv2815 e2859
        have fl2862 := Fle.trans (Fle.refl t2806.F) e2859.f
        have fl2863 := Fle.trans (Fle.refl t2806.F) e2859.f
        obtain rfl := Option.some.inj hm2860
        exact do_nil ⟨s2858, rfl, fl2863, ⟨rfl, Iv.sel iv2861 [some 0, some 1, some 2, some 3, some 4, some 5, some 6, some 7, some 8, some 9, some 10, some 11, some 12, some 13] (by decide +kernel) (by kernel_rfl)⟩⟩
      · obtain ⟨hf2867, hR2868⟩ := hM2866
        obtain ⟨rfl, iv2869⟩ := hR2868
        have fl2870 := Fle.trans (Fle.refl t2806.F) hf2867
        obtain rfl := Option.some.inj hm2800
        exact do_nil ⟨s2865, rfl, fl2870, ⟨_, rfl, Iv.sel iv2869 [some 0, some 1, some 2, some 3, some 4, some 5, some 6, some 7, none, some 9, some 10, some 11, some 12, some 13] (by decide +kernel) (by kernel_rfl)⟩⟩
    · have hf2881 := Fle.trans k2872.f fl2875
      obtain ⟨y2882, rfl, iv2883⟩ := hR2876
      have fl2884 := Fle.trans fl2791 hf2881
      obtain ⟨got2885, h_got2885, hm2754⟩ := bndE hm2754
      refine do_ifR (EvB.t (ev_dnotIn hr (ev_some' (ev_var 6 rfl (Iv.fz (x := (b2730.2.2.2.2.2 : (Option Int))) iv2883 6)) h_got2885) (raw_fld (raw_var 0 rfl) (Iv.cell iv2883 0) rfl CL_Prices.cl (CL_Prices.na "seat_by" (by simp))) (OwnD.r (Iv.od (xs := (raised2779.seat_by : (List (Int × Int)))) iv2883 12)))) (fun hb2886 s2887 e2888 => ?_) (fun hb2911 s2912 e2913 => ?_)
      · have hm2889 := iteE1 hm2754 hb2886
        have iv2890 := Iv.ex iv2883 e2888
        have fl2891 := Fle.trans fl2884 e2888.f
        obtain ⟨shift2894, h_shift2894, hm2889⟩ := bndE hm2889
        refine do_exprK (ek_call (ok' := (fun v L' => ∃ (v2895 : V) (p2896 : Addr) (p2897 : Addr) (p2898 : Addr) (p2899 : Addr), v = .non ∧ L' = [cell aself "Prices" [("costs", v2895), ("of_seat", (.ref p2896)), ("of_player", (.ref p2897)), ("seat_by", (.ref p2898)), ("row", (.ref p2899))], fz v2895 (shift2894.costs : (List (Dc Int Int))), ol p2896 (shift2894.of_seat : (List Int)), ol p2897 (shift2894.of_player : (List Int)), od p2898 (shift2894.seat_by : (List (Int × Int))), ol p2899 (shift2894.row : (List (Option Int)))])) (ca_meth (E := fun _ _ _ _ => False) C_Prices_shift CL_Prices.cl pass00 hr (by decide) (raw_var 0 rfl) (Iv.cell iv2890 0) rfl (ea_cons (raw_var 3 rfl) (ea_cons (ev_var 6 rfl (Iv.fz (x := (b2730.2.2.2.2.2 : (Option Int))) iv2890 6)) ea_nil))) iv2890 ro0 [0, 9, 10, 11, 12, 13] (by decide) (by simp) [.inl 3] (by simp) (fun vs s2 k2 r2 => by obtain ⟨ws, rfl, r3⟩ := r2; obtain ⟨_, _, rfl, rfl, v2892, _, rfl, r2893, rfl⟩ := r3; exact ⟨[fz v2892 (b2730.2.2.2.2.2 : (Option Int))], ⟨(aself), (v2780), (p2781), (p2782), (p2783), (p2784), (p2687), v2892, rfl, rfl, rfl⟩, (all_cons r2893 all_nil), (fun v L' z => by obtain ⟨_, _, _, _, _, _, _, _, e, z⟩ := z; cases e; exact z), (fun e L' z => z.elim)⟩) h_shift2894) (fun v2903 s2901 z => ?_)
        obtain ⟨L2902, ⟨v2895, p2896, p2897, p2898, p2899, rfl, rfl⟩, hf2904, iv2900⟩ := z
        have iv2905 : Iv K P0 s0 s2901 [cell aself "Prices" [("costs", v2895), ("of_seat", (.ref p2896)), ("of_player", (.ref p2897)), ("seat_by", (.ref p2898)), ("row", (.ref p2899))], fz afirst (first2676 : Int), od p2679 (o2792 : (List (Int × Int))), od p2687 (b2730.2.2.2.2.1 : (List (Int × Int))), ol p2699 (b2730.2.2.1 : (List Int)), ol p2707 (b2730.2.2.2.1 : (List Int)), fz v2760 (b2730.2.2.2.2.2 : (Option Int)), fz v2773 (step2769 : Int), top, fz v2895 (shift2894.costs : (List (Dc Int Int))), ol p2896 (shift2894.of_seat : (List Int)), ol p2897 (shift2894.of_player : (List Int)), od p2898 (shift2894.seat_by : (List (Int × Int))), ol p2899 (shift2894.row : (List (Option Int)))] := Iv.sel iv2900 [some 14, some 1, some 2, some 3, some 4, some 5, some 6, some 7, none, some 15, some 16, some 17, some 18, some 19] (by decide +kernel) (by kernel_rfl)
        have fl2906 := Fle.trans fl2891 hf2904
        obtain rfl := Option.some.inj hm2889
        obtain rfl := hq2766 _ rfl
        obtain rfl := Option.some.inj hm
        refine do_retE ?_
        exact hQ _ _ _ ⟨aself, aself_costs, aself_of_seat, aself_of_player, aself_seat_by, aself_row, afirst, rfl, v2895, p2896, p2897, p2898, p2899, rfl, rfl⟩ (Iv.sel iv2905 [some 0, some 9, some 10, some 11, some 12, some 13] (by decide +kernel) (by kernel_rfl))
      · have hm2914 := iteE2 hm2754 hb2911
        have iv2915 := Iv.ex iv2883 e2913
        have fl2916 := Fle.trans fl2884 e2913.f
        obtain ⟨got2927, h_got2927, hm2914⟩ := bndE hm2914
        obtain ⟨hc2928, hm2914⟩ := chkE hm2914
        refine do_append 4 rfl (Iv.ol (xs := (b2730.2.2.1 : (List Int))) iv2915 4) (ev_some' (ev_var 6 rfl (Iv.fz (x := (b2730.2.2.2.2.2 : (Option Int))) iv2915 6)) h_got2927) hc2928 (fun s2922 m2923 o2924 => ?_)
        obtain ⟨done2925, q2926, hm2914⟩ := ltE hm2914
        have iv2929 := Iv.ml iv2915 4 m2923 o2924 q2926
        have fl2930 := Fle.trans fl2916 m2923.f
        obtain ⟨got2941, h_got2941, hm2914⟩ := bndE hm2914
        obtain ⟨got2942, h_got2942, hm2914⟩ := bndE hm2914
        obtain ⟨hc2943, hm2914⟩ := chkE hm2914
        refine do_append 5 rfl (Iv.ol (xs := (b2730.2.2.2.1 : (List Int))) iv2929 5) (ev_dget hr (raw_fld (raw_var 0 rfl) (Iv.cell iv2929 0) rfl CL_Prices.cl (CL_Prices.na "seat_by" (by simp))) (OwnD.r (Iv.od (xs := (raised2779.seat_by : (List (Int × Int)))) iv2929 12)) (ev_some' (ev_var 6 rfl (Iv.fz (x := (b2730.2.2.2.2.2 : (Option Int))) iv2929 6)) h_got2941) h_got2942) hc2943 (fun s2936 m2937 o2938 => ?_)
        obtain ⟨seats2939, q2940, hm2914⟩ := ltE hm2914
        have iv2944 := Iv.ml iv2929 5 m2937 o2938 q2940
        have fl2945 := Fle.trans fl2930 m2937.f
        obtain ⟨got2946, h_got2946, hm2914⟩ := bndE hm2914
        obtain ⟨got2947, h_got2947, hm2914⟩ := bndE hm2914
        obtain ⟨slacks2950, h_slacks2950, hm2914⟩ := bndE hm2914
        refine do_exprK (ek_call (ok' := (fun v L' => v = .non ∧ L' = [od p2679 (slacks2950.1 : (List (Int × Int))), od p2687 (slacks2950.2 : (List (Int × Int)))])) (ca_meth (E := fun _ _ _ _ => False) C_Prices_slacks CL_Prices.cl pass00 hr (by decide) (raw_var 0 rfl) (Iv.cell iv2944 0) rfl (ea_cons (raw_var 2 rfl) (ea_cons (raw_var 3 rfl) (ea_cons (ev_dget hr (raw_fld (raw_var 0 rfl) (Iv.cell iv2944 0) rfl CL_Prices.cl (CL_Prices.na "seat_by" (by simp))) (OwnD.r (Iv.od (xs := (raised2779.seat_by : (List (Int × Int)))) iv2944 12)) (ev_some' (ev_var 6 rfl (Iv.fz (x := (b2730.2.2.2.2.2 : (Option Int))) iv2944 6)) h_got2946) h_got2947) ea_nil)))) iv2944 ro0 [2, 3] (by decide) (by simp) [.inl 0, .inl 9, .inl 10, .inl 11, .inl 12, .inl 13] (by simp) (fun vs s2 k2 r2 => by obtain ⟨ws, rfl, r3⟩ := r2; obtain ⟨_, _, rfl, rfl, _, _, rfl, rfl, v2948, _, rfl, r2949, rfl⟩ := r3; exact ⟨[fz v2948 (got2947 : Int)], ⟨(aself), (v2780), (p2781), (p2782), (p2783), (p2784), (p2679), (p2687), v2948, rfl, rfl, rfl⟩, (all_cons r2949 all_nil), (fun v L' z => by obtain ⟨_, _, _, _, _, _, _, _, _, e, z⟩ := z; cases e; exact z), (fun e L' z => z.elim)⟩) h_slacks2950) (fun v2954 s2952 z => ?_)
        obtain ⟨L2953, ⟨rfl, rfl⟩, hf2955, iv2951⟩ := z
        have iv2956 : Iv K P0 s0 s2952 [cell aself "Prices" [("costs", v2780), ("of_seat", (.ref p2781)), ("of_player", (.ref p2782)), ("seat_by", (.ref p2783)), ("row", (.ref p2784))], fz afirst (first2676 : Int), od p2679 (slacks2950.1 : (List (Int × Int))), od p2687 (slacks2950.2 : (List (Int × Int))), ol p2699 (done2925 : (List Int)), ol p2707 (seats2939 : (List Int)), fz v2760 (b2730.2.2.2.2.2 : (Option Int)), fz v2773 (step2769 : Int), top, fz v2780 (raised2779.costs : (List (Dc Int Int))), ol p2781 (raised2779.of_seat : (List Int)), ol p2782 (raised2779.of_player : (List Int)), od p2783 (raised2779.seat_by : (List (Int × Int))), ol p2784 (raised2779.row : (List (Option Int)))] := Iv.sel iv2951 [some 0, some 1, some 14, some 15, some 4, some 5, some 6, some 7, none, some 9, some 10, some 11, some 12, some 13] (by decide +kernel) (by kernel_rfl)
        have fl2957 := Fle.trans fl2945 hf2955
        obtain ⟨nearest2958, h_nearest2958, hm2914⟩ := bndE hm2914
        refine do_setK 6 (ek_call (ok' := (fun v L' => ∃ (v2959 : V), v = v2959 ∧ L' = [od p2679 ((slacks2950.1) : (List (Int × Int))), fz v2959 (nearest2958 : (Option Int))])) (ca_meth (E := fun _ _ _ _ => False) C_Prices_nearest CL_Prices.cl pass00 hr (by decide) (raw_var 0 rfl) (Iv.cell iv2956 0) rfl (ea_cons (raw_var 2 rfl) (ea_cons (raw_var 4 rfl) ea_nil))) iv2956 ro0 [2] (by decide) (by simp) [.inl 0, .inl 99999, .inl 99999, .inl 99999, .inl 99999, .inl 99999, .inl 4] (by simp) (fun vs s2 k2 r2 => by obtain ⟨ws, rfl, r3⟩ := r2; obtain ⟨_, _, rfl, rfl, _, _, rfl, rfl, rfl⟩ := r3; exact ⟨[], ⟨(aself), (v2780), ((.ref p2781)), ((.ref p2782)), ((.ref p2783)), ((.ref p2784)), (p2679), (p2699), rfl, rfl, rfl⟩, all_nil, (fun v L' z => by obtain ⟨_, _, _, _, _, _, _, _, e, z⟩ := z; cases e; exact z), (fun e L' z => z.elim)⟩) h_nearest2958) (fun v2959 s2961 z => ?_) sc_Prices_fill.nd
        obtain ⟨L2962, ⟨_, rfl, rfl⟩, hf2964, iv2960⟩ := z
        have iv2965 : Iv K P0 s0 s2961 [cell aself "Prices" [("costs", v2780), ("of_seat", (.ref p2781)), ("of_player", (.ref p2782)), ("seat_by", (.ref p2783)), ("row", (.ref p2784))], fz afirst (first2676 : Int), od p2679 (slacks2950.1 : (List (Int × Int))), od p2687 (slacks2950.2 : (List (Int × Int))), ol p2699 (done2925 : (List Int)), ol p2707 (seats2939 : (List Int)), fz v2959 (nearest2958 : (Option Int)), fz v2773 (step2769 : Int), top, fz v2780 (raised2779.costs : (List (Dc Int Int))), ol p2781 (raised2779.of_seat : (List Int)), ol p2782 (raised2779.of_player : (List Int)), od p2783 (raised2779.seat_by : (List (Int × Int))), ol p2784 (raised2779.row : (List (Option Int)))] := Iv.sel iv2960 [some 0, some 1, some 14, some 3, some 4, some 5, some 15, some 7, none, some 9, some 10, some 11, some 12, some 13] (by decide +kernel) (by kernel_rfl)
        have fl2966 := Fle.trans fl2957 hf2964
        obtain rfl := Option.some.inj hm2914
        exact do_nil ⟨s2961, rfl, _, rfl, fl2966, ⟨v2780, p2781, p2782, p2783, p2784, v2959, _, _, rfl, Iv.sel iv2965 [some 0, some 1, some 2, some 3, some 4, some 5, some 6, none, none, some 9, some 10, some 11, some 12, some 13] (by decide +kernel) (by kernel_rfl)⟩⟩
  · subst ho2975
    replace hm := goN hm
    obtain ⟨v2976, p2977, p2978, p2979, p2980, v2981, y2982, y2983, rfl, iv2984⟩ := hR2972
    have iv2985 := Iv.ex iv2984 k2973
    obtain rfl := Option.some.inj hm
    exact do_nil (hQ _ _ _ ⟨aself, aself_costs, aself_of_seat, aself_of_player, aself_seat_by, aself_row, afirst, rfl, v2976, p2977, p2978, p2979, p2980, rfl, rfl⟩ (Iv.sel iv2985 [some 0, some 9, some 10, some 11, some 12, some 13] (by decide +kernel) (by kernel_rfl)))
abbrev s_fewest_moved : Stmt := topS 26
def pre_fewest_moved : List V → (List (Str × (Tu Str))) × (List (Tu Str)) × (List Int) × (List Int) × Unit → List OA → List OA → Prop := fun vs x L R => ∃ (aplayers : V) (aseats : V) (arow : V) (aill : V), vs = [aplayers, aseats, arow, aill] ∧ L = [fz aplayers (x.1 : (List (Str × (Tu Str)))), fz aseats (x.2.1 : (List (Tu Str))), fz arow (x.2.2.1 : (List Int)), fz aill (x.2.2.2.1 : (List Int))] ∧ R = []
def ok_fewest_moved : List V → (List (Str × (Tu Str))) × (List (Tu Str)) × (List Int) × (List Int) × Unit → Rz (((Str × (List (Option Int))) ⊕ (T5 Str Int (List (Option Int)) (List Int) (List Int)))) → V → List OA → Prop := fun vs x o v L' => ∃ (aplayers : V) (aseats : V) (arow : V) (aill : V), vs = [aplayers, aseats, arow, aill] ∧ ∃ r : (((Str × (List (Option Int))) ⊕ (T5 Str Int (List (Option Int)) (List Int) (List Int)))), o = Rz.ok r ∧ ((∃ q : (Str × (List (Option Int))), r = (Sum.inl q) ∧ ∃ (bres : Addr) (bres_0 : V) (bres_1 : Addr), v = (.ref bres) ∧ L' = [tc bres [bres_0, (.ref bres_1)], fz bres_0 (q.1 : Str), ol bres_1 (q.2 : (List (Option Int)))]) ∨ (∃ q : (T5 Str Int (List (Option Int)) (List Int) (List Int)), r = (Sum.inr q) ∧ ∃ (bres : Addr) (bres_0 : V) (bres_1 : V) (bres_2 : Addr) (bres_3 : Addr) (bres_4 : Addr), v = (.ref bres) ∧ L' = [tc bres [bres_0, bres_1, (.ref bres_2), (.ref bres_3), (.ref bres_4)], fz bres_0 (q.a : Str), fz bres_1 (q.b : Int), ol bres_2 (q.c : (List (Option Int))), ol bres_3 (q.d : (List Int)), ol bres_4 (q.e : (List Int))]))
def er_fewest_moved : List V → (List (Str × (Tu Str))) × (List (Tu Str)) × (List Int) × (List Int) × Unit → Rz (((Str × (List (Option Int))) ⊕ (T5 Str Int (List (Option Int)) (List Int) (List Int)))) → Er → List OA → Prop := fun vs x o e L' => ∃ (aplayers : V) (aseats : V) (arow : V) (aill : V), vs = [aplayers, aseats, arow, aill] ∧ o = Rz.er e ∧ L' = []
abbrev N_fewest_moved : List Str := ["players", "seats", "row", "ill", "place", "short", "told", "prices", "seat", "of_player", "k", "many"]
theorem sc_fewest_moved : FnScope N_fewest_moved ["players", "seats", "row", "ill"] (defScope s_fewest_moved) := ⟨rfl, rfl, rfl, by decide +kernel, rfl, by decide +kernel, by decide +kernel⟩
noncomputable def m_fewest_moved (players2986 : (List (Str × (Tu Str)))) (seats2987 : (List (Tu Str))) (row2988 : (List Int)) (ill2989 : (List Int)) : Option (Rz (((Str × (List (Option Int))) ⊕ (T5 Str Int (List (Option Int)) (List Int) (List Int))))) :=
 (bnd (m_is_seating players2986 seats2987 row2988) fun is_seating2992 => (if (!is_seating2992) = true then
 (some (Rz.er (Er.pl "NoSeating")))
 else
 (bnd (foldF (ρ := (Rz (((Str × (List (Option Int))) ⊕ (T5 Str Int (List (Option Int)) (List Int) (List Int)))))) (fun (b3005 : Unit) (x3007 : Int) =>
 (if ((decide (x3007 < (0 : Int))) || (decide (((players2986).length : Int) ≤ x3007))) = true then
 (some (Fl.rt (Rz.er (Er.pi "NoPlayer" "place" x3007))))
 else
 (some (Fl.nx ())))) () ill2989) fun o3003 =>
 (Fl.go o3003 (fun b3055 => (bnd (a_short_by (players2986, seats2987, ill2989, ())) fun short_by3066 => (lt (short_by3066 : (List (Option Int))) fun short3067 =>
 (if (!decide (short3067 = ([] : List (Option Int)))) = true then
 (some (Rz.ok (Sum.inl (("short" : Str), short3067))))
 else
 (bnd (a_Costs_init (players2986, seats2987, row2988, ill2989, ())) fun init3099 => (bnd (a_Prices_init (init3099.costs, ((players2986).length : Int), ())) fun init3118 => (chk (RgB ((seats2987).length : Int)) (bnd (foldO (fun (b3135 : R_Prices) (x3137 : Int) =>
 (bnd (a_Prices_fill ((⟨b3135.costs, b3135.of_seat, b3135.of_player, b3135.seat_by, b3135.row⟩ : R_Prices), x3137, ())) fun fill3165 => (some (⟨fill3165.costs, fill3165.of_seat, fill3165.of_player, fill3165.seat_by, fill3165.row⟩ : R_Prices)))) (⟨init3118.costs, init3118.of_seat, init3118.of_player, init3118.seat_by, init3118.row⟩ : R_Prices) (rng 0 ((seats2987).length : Int))) fun o3133 =>
 (chk (RgB ((players2986).length : Int)) (chk (((List.map (fun (x3196 : Int) => (0 : Int)) (rng 0 ((players2986).length : Int)))).length ≤ sizeLine) (lt ((List.map (fun (x3196 : Int) => (0 : Int)) (rng 0 ((players2986).length : Int))) : (List Int)) fun of_player3220 =>
 (bnd (foldO (fun (b3230 : (List Int)) (x3232 : Int) =>
 (bnd (atI o3133.of_player x3232) fun at3260 => (bnd (a_Costs_rise ((⟨init3099.sat⟩ : R_Costs_s), x3232, ())) fun rise3263 => (bnd (ixN (b3230).length x3232) fun j3264 => (lt (((b3230).set j3264 (at3260 + rise3263)) : (List Int)) fun ls3258 =>
 (some ls3258)))))) of_player3220 init3099.hale) fun o3228 =>
 (lt (((o3133.of_seat).sum + (o3228).sum) : Int) fun many3276 =>
 (some (Rz.ok (Sum.inr (⟨("moved" : Str), many3276, o3133.row, o3133.of_seat, o3228⟩ : (T5 Str Int (List (Option Int)) (List Int) (List Int))))))))))))))))))) (fun rr => (some rr))))))
noncomputable abbrev a_fewest_moved : (List (Str × (Tu Str))) × (List (Tu Str)) × (List Int) × (List Int) × Unit → Option (Rz (((Str × (List (Option Int))) ⊕ (T5 Str Int (List (Option Int)) (List Int) (List Int))))) := fun x => m_fewest_moved x.1 x.2.1 x.2.2.1 x.2.2.2.1
theorem ok_fewest_moved_fn {P : Program} {w : World} {K : PySem.W.Frag} {mg : Str → Option Value} {base : Heap} {f : Addr} {fd : FuncData} (F : FunM K "fewest_moved" "fewest_moved" s_fewest_moved f fd) (C_is_seating : Cal P w K mg base CX0 2 "is_seating" (sp K a_is_seating)) (C_short_by : Cal P w K mg base CX0 4 "short_by" (spI K pre_short_by a_short_by ok_short_by noEr)) (C_Costs_init : CalC P w K mg base CX0 2 "Costs" (spI K pre_Costs_init a_Costs_init ok_Costs_init noEr)) (C_Prices_init : CalC P w K mg base CX0 1 "Prices" (spI K pre_Prices_init a_Prices_init ok_Prices_init noEr)) (C_Prices_fill : CalM P w K mg base CX0 2 "Prices" "fill" (spI K pre_Prices_fill a_Prices_fill ok_Prices_fill noEr)) (C_Costs_rise : CalM P w K mg base CX0 1 "Costs" "rise" (spI K pre_Costs_rise a_Costs_rise ok_Costs_rise noEr)) (z_len : mg "len" = none) (z_range : mg "range" = none) (z_sum : mg "sum" = none) (T_NoSeating : ExcF K mg "NoSeating") (N_NoPlayer : mg "NoPlayer" = some (.ref (He.ga K "NoPlayer"))) (P_NoPlayer : PayF K "NoPlayer" "place") (I_NoPlayer : InitOk P w K mg base "NoPlayer" "place") (CL_Costs : ClsF K "Costs" ["sat", "hale", "costs"] ["__init__", "rise", "cost_at"]) (CL_Prices : ClsF K "Prices" ["costs", "of_seat", "of_player", "seat_by", "row"] ["__init__", "slacks", "raised", "fill", "nearest", "shift"]) : FnOk P w K mg base (L2.CX P w) 5 f fd ["players", "seats", "row", "ill"] (spI K pre_fewest_moved a_fewest_moved ok_fewest_moved er_fewest_moved) := by
  refine mk_IX (k := 4) F sc_fewest_moved (fun vs a L R h => by obtain ⟨_, _, _, _, rfl, _⟩ := h; rfl) ?_
  rintro cdv A' outer sh0 H0 X0 hr s0 P0 L0 R0 vs ⟨players2986, seats2987, row2988, ill2989, _⟩ o0 Q ⟨aplayers, aseats, arow, aill, rfl, rfl, rfl⟩ iv2990 ro hm hQ hE
  unfold a_fewest_moved m_fewest_moved at hm
  dsimp only at hm
  have iv2991 : Iv K P0 s0 s0 [fz aplayers (players2986 : (List (Str × (Tu Str)))), fz aseats (seats2987 : (List (Tu Str))), fz arow (row2988 : (List Int)), fz aill (ill2989 : (List Int)), top, top, top, top, top, top, top, top, top, top, top, top, top, top, top, top, top, top, top, top, top] := Iv.sel iv2990 [some 0, some 1, some 2, some 3, none, none, none, none, none, none, none, none, none, none, none, none, none, none, none, none, none, none, none, none, none] (by decide +kernel) (by kernel_rfl)
  obtain ⟨is_seating2992, h_is_seating2992, hm⟩ := bndE hm
  refine do_ifR (EvB.t (eb_not (eb_v (ev_call C_is_seating hr (by decide) (ea_cons (ev_var 0 rfl (Iv.fz (x := (players2986 : (List (Str × (Tu Str))))) iv2991 0)) (ea_cons (ev_var 1 rfl (Iv.fz (x := (seats2987 : (List (Tu Str)))) iv2991 1)) (ea_cons (ev_var 2 rfl (Iv.fz (x := (row2988 : (List Int))) iv2991 2)) ea_nil))) h_is_seating2992)))) (fun hb2993 s2994 e2995 => ?_) (fun hb2998 s2999 e3000 => ?_)
  · have hm2996 := iteE1 hm hb2993
    have iv2997 := Iv.ex iv2991 e2995
    obtain rfl := Option.some.inj hm2996
    exact do_raise0 T_NoSeating (takes_of rfl rfl rfl rfl) (hE _ _ _ _ _ ⟨_, _, _, _, rfl, rfl, rfl⟩ (Iv.sel iv2997 [] (by decide +kernel) (by kernel_rfl)) ⟨rfl, rfl⟩)
  · have hm3001 := iteE2 hm hb2998
    have iv3002 := Iv.ex iv2991 e3000
    obtain ⟨o3003, ho3004, hm3001⟩ := bndE hm3001
    refine do_forF (ρ := (Rz (((Str × (List (Option Int))) ⊕ (T5 Str Int (List (Option Int)) (List Int) (List Int)))))) (υ := Unit) (passes_of rfl) rfl (ei_list (ev_var 3 rfl (Iv.fz (x := (ill2989 : (List Int))) iv3002 3))) (pg_name (i := 4) sc_fewest_moved.nd rfl (by first | exact Or.inl rfl | exact Or.inr rfl)) tg_n ho3004 (fun (b3005 : Unit) (σ' : L2.St) (t' : S) => ∃ (y_place : Option V), σ' = [some aplayers, some aseats, some arow, some aill, y_place, none, none, none, none, none, none, none] ∧ Iv K P0 s0 t' [fz aplayers (players2986 : (List (Str × (Tu Str)))), fz aseats (seats2987 : (List (Tu Str))), fz arow (row2988 : (List Int)), fz aill (ill2989 : (List Int)), top, top, top, top, top, top, top, top, top, top, top, top, top, top, top, top, top, top, top, top, top]) (fun s3052 k3053 => by have iv3054 := Iv.ex iv3002 k3053; exact ⟨_, rfl, Iv.sel iv3054 [some 0, some 1, some 2, some 3, none, none, none, none, none, none, none, none, none, none, none, none, none, none, none, none, none, none, none, none, none] (by decide +kernel) (by kernel_rfl)⟩) (fun s3008 k3009 x3007 b3005 q3028 σ3018 σ3019 t3016 t3017 hx3010 hm3011 hq3029 fl3012 hR3013 k3014 hB3015 => ?_) (fun s3046 k3047 b3055 σ3048 t3049 ho3056 fl3050 hR3051 => ?_)
    · have hf3020 := Fle.trans k3009.f fl3012
      obtain ⟨y3021, rfl, iv3022⟩ := hR3013
      obtain ⟨v3023, r3024, rfl⟩ := hB3015
      have iv3025 := Iv.ex iv3022 k3014
      have iv3026 := Iv.sf iv3025 4 (Ex.refl t3017) r3024 rfl
      have fl3027 := Fle.trans (Fle.refl t3017.F) (Ex.refl t3017).f
      refine do_ifR (EvW.tt (EvC.w (ec_or (eb_lt (ev_var 4 rfl (Iv.fz (x := (x3007 : Int)) iv3026 4)) ev_int) fun _ => (ec_or1 (eb_ge (ev_var 4 rfl (Iv.fz (x := (x3007 : Int)) iv3026 4)) (ev_len z_len (Ev.r (ev_var 0 rfl (Iv.fz (x := (players2986 : (List (Str × (Tu Str))))) iv3026 0))))))))) (fun hb3030 s3031 e3032 => ?_) (fun hb3040 s3041 e3042 => ?_)
      · have hm3033 := iteE1 hm3011 hb3030
        have iv3034 := Iv.ex iv3026 e3032
        have fl3035 := Fle.trans (Fle.refl t3017.F) e3032.f
        obtain rfl := Option.some.inj hm3033
        obtain rfl := hq3029 _ rfl
        obtain rfl := Option.some.inj hm3001
        obtain ⟨fd3036, ps3037, F3038, B3039⟩ := I_NoPlayer
        exact do_raiseI P_NoPlayer N_NoPlayer F3038 B3039 (takes_of rfl rfl rfl rfl) hr (by decide) (ev_var 4 rfl (Iv.fz (x := (x3007 : Int)) iv3034 4)) (fun d s1 k1 z => hE _ _ _ _ _ ⟨_, _, _, _, rfl, rfl, rfl⟩ (Iv.sel (Iv.ex iv3034 k1) [] (by decide +kernel) (by kernel_rfl)) ⟨rfl, d, rfl, z⟩)
      · have hm3043 := iteE2 hm3011 hb3040
        have iv3044 := Iv.ex iv3026 e3042
        have fl3045 := Fle.trans (Fle.refl t3017.F) e3042.f
        obtain rfl := Option.some.inj hm3043
        exact do_nil ⟨s3041, rfl, _, rfl, fl3045, ⟨_, rfl, Iv.sel iv3044 [some 0, some 1, some 2, some 3, none, none, none, none, none, none, none, none, none, none, none, none, none, none, none, none, none, none, none, none, none] (by decide +kernel) (by kernel_rfl)⟩⟩
    · subst ho3056
      replace hm3001 := goN hm3001
      have hf3057 := Fle.trans k3047.f fl3050
      obtain ⟨y3058, rfl, iv3059⟩ := hR3051
      obtain ⟨short_by3066, h_short_by3066, hm3001⟩ := bndE hm3001
      refine do_setN 5 (en_of_eg (eg_call (ok' := (fun v L' => ∃ (bres : Addr), v = (.ref bres) ∧ L' = [ol bres (short_by3066 : (List (Option Int)))])) (ca_fn (E := fun _ _ _ _ => False) C_short_by pass00 hr (by decide) (ea_cons (ev_var 0 rfl (Iv.fz (x := (players2986 : (List (Str × (Tu Str))))) iv3059 0)) (ea_cons (ev_var 1 rfl (Iv.fz (x := (seats2987 : (List (Tu Str)))) iv3059 1)) (ea_cons (ev_var 3 rfl (Iv.fz (x := (ill2989 : (List Int))) iv3059 3)) ea_nil)))) iv3059 ro0 [] (fun vs s2 k2 r2 => by obtain ⟨v3060, _, rfl, r3061, v3062, _, rfl, r3063, v3064, _, rfl, r3065, rfl⟩ := r2; exact ⟨[fz v3060 (players2986 : (List (Str × (Tu Str)))), fz v3062 (seats2987 : (List (Tu Str))), fz v3064 (ill2989 : (List Int))], ⟨v3060, v3062, v3064, rfl, rfl, rfl⟩, (all_cons r3061 (all_cons r3063 (all_cons r3065 all_nil))), (fun v L' z => by obtain ⟨_, _, _, e, z⟩ := z; cases e; exact z), (fun e L' z => z.elim)⟩) h_short_by3066) (fun v L' z => by obtain ⟨p, rfl, rfl⟩ := z; exact ⟨p, [], rfl, rfl⟩)) (fun p3071 s3069 e3070 n3072 o3073 => ?_) sc_fewest_moved.nd
      obtain ⟨short3067, q3068, hm3001⟩ := ltE hm3001
      have iv3074 := Iv.sl iv3059 5 e3070 n3072 o3073 q3068
      refine do_ifR (EvB.t (eb_neL hr (er_raw (xs := (short3067 : (List (Option Int)))) (raw_var 5 rfl) (Own.r (Iv.ol (xs := (short3067 : (List (Option Int)))) iv3074 5))) (EvN.r (en_list (xs := ([] : List (Option Int))) ee_nil (by simp [sizeLine]))) (shp_of _) (shp_of _))) (fun hb3075 s3076 e3077 => ?_) (fun hb3086 s3087 e3088 => ?_)
      · have hm3078 := iteE1 hm3001 hb3075
        have iv3079 := Iv.ex iv3074 e3077
        obtain rfl := Option.some.inj hm3078
        refine do_retK (ek_of (eg_tup (egs_cons (eg_ev ev_str) (egs_cons (eg_raw (raw_var 5 rfl)) egs_nil)) (fun vs L' z => by obtain ⟨_, _, _, _, rfl, rfl, rfl, ⟨_, _, _, _, rfl, rfl, ⟨rfl, rfl⟩, ⟨rfl, rfl⟩⟩⟩ := z; simp)) iv3079) (fun v3085 s3083 z => ?_)
        obtain ⟨L3084, ⟨p3081, _, _, rfl, ⟨v3080, _, _, _, rfl, rfl, rfl, ⟨_, _, _, _, rfl, rfl, ⟨rfl, rfl⟩, ⟨rfl, rfl⟩⟩⟩, rfl⟩, _, iv3082⟩ := z
        exact hQ _ _ _ ⟨aplayers, aseats, arow, aill, rfl, _, rfl, Or.inl ⟨_, rfl, p3081, v3080, p3071, rfl, rfl⟩⟩ (Iv.sel iv3082 [some 25, some 26, some 5] (by decide +kernel) (by kernel_rfl))
      · have hm3089 := iteE2 hm3001 hb3086
        have iv3090 := Iv.ex iv3074 e3088
        obtain ⟨init3099, h_init3099, hm3089⟩ := bndE hm3089
        refine do_setG 6 (eg_make (ok' := (fun v L' => ∃ pnew : Addr, ∃ (bself_sat : Addr) (bself_hale : Addr) (bself_costs : Addr), v = .ref pnew ∧ L' = [cell pnew "Costs" [("sat", (.ref bself_sat)), ("hale", (.ref bself_hale)), ("costs", (.ref bself_costs))], od bself_sat (init3099.sat : (List (Int × Int))), ol bself_hale (init3099.hale : (List Int)), ol bself_costs (init3099.costs : (List (Dc Int Int)))])) (ca_make (E := fun _ _ _ _ => False) C_Costs_init pass00 hr (by decide) (ea_cons (ev_var 0 rfl (Iv.fz (x := (players2986 : (List (Str × (Tu Str))))) iv3090 0)) (ea_cons (ev_var 1 rfl (Iv.fz (x := (seats2987 : (List (Tu Str)))) iv3090 1)) (ea_cons (ev_var 2 rfl (Iv.fz (x := (row2988 : (List Int))) iv3090 2)) (ea_cons (ev_var 3 rfl (Iv.fz (x := (ill2989 : (List Int))) iv3090 3)) ea_nil))))) iv3090 ro0 [] (fun vs s2 pnew k2 r2 => by obtain ⟨v3091, _, rfl, r3092, v3093, _, rfl, r3094, v3095, _, rfl, r3096, v3097, _, rfl, r3098, rfl⟩ := r2; exact ⟨[fz v3091 (players2986 : (List (Str × (Tu Str)))), fz v3093 (seats2987 : (List (Tu Str))), fz v3095 (row2988 : (List Int)), fz v3097 (ill2989 : (List Int))], ⟨pnew, v3091, v3093, v3095, v3097, rfl, rfl, rfl⟩, (fun A s3 k3 hA => AllF.ex (all_cons r3092 (all_cons r3094 (all_cons r3096 (all_cons r3098 all_nil)))) k3 A hA), (fun v L' z => by obtain ⟨_, _, _, _, _, e, z⟩ := z; cases e; obtain ⟨x0, x1, x2, rfl, z⟩ := z; exact ⟨rfl, _, x0, x1, x2, rfl, z⟩), (fun e L' z => z.elim)⟩) h_init3099) (fun v3104 s3105 L3106 z3109 iv3107 => ?_) sc_fewest_moved.nd
        obtain ⟨p3100, p3101, p3102, p3103, rfl, rfl⟩ := z3109
        have iv3108 := Iv.add iv3090 iv3107
        have iv3110 : Iv K P0 s0 s3105 [fz aplayers (players2986 : (List (Str × (Tu Str)))), fz aseats (seats2987 : (List (Tu Str))), fz arow (row2988 : (List Int)), fz aill (ill2989 : (List Int)), top, ol p3071 (short3067 : (List (Option Int))), cell p3100 "Costs" [("sat", (.ref p3101)), ("hale", (.ref p3102)), ("costs", (.ref p3103))], top, top, top, top, top, top, top, top, top, top, od p3101 (init3099.sat : (List (Int × Int))), ol p3102 (init3099.hale : (List Int)), ol p3103 (init3099.costs : (List (Dc Int Int))), top, top, top, top, top] := Iv.sel iv3108 [some 0, some 1, some 2, some 3, none, some 5, some 25, none, none, none, none, none, none, none, none, none, none, some 26, some 27, some 28, none, none, none, none, none] (by decide +kernel) (by kernel_rfl)
        refine do_frzI iv3110 19 rfl fun s3111 hf3112 iv3113 => ?_
        obtain ⟨init3118, h_init3118, hm3089⟩ := bndE hm3089
        refine do_setG 7 (eg_make (ok' := (fun v L' => ∃ pnew : Addr, ∃ (bself_costs : V) (bself_of_seat : Addr) (bself_of_player : Addr) (bself_seat_by : Addr) (bself_row : Addr), v = .ref pnew ∧ L' = [cell pnew "Prices" [("costs", bself_costs), ("of_seat", (.ref bself_of_seat)), ("of_player", (.ref bself_of_player)), ("seat_by", (.ref bself_seat_by)), ("row", (.ref bself_row))], fz bself_costs (init3118.costs : (List (Dc Int Int))), ol bself_of_seat (init3118.of_seat : (List Int)), ol bself_of_player (init3118.of_player : (List Int)), od bself_seat_by (init3118.seat_by : (List (Int × Int))), ol bself_row (init3118.row : (List (Option Int)))])) (ca_make (E := fun _ _ _ _ => False) C_Prices_init pass00 hr (by decide) (ea_cons (ev_raw (x := (init3099.costs : (List (Dc Int Int)))) (raw_fld (raw_var 6 rfl) (Iv.cell iv3113 6) rfl CL_Costs.cl (CL_Costs.na "costs" (by simp))) (Iv.fz (x := (init3099.costs : (List (Dc Int Int)))) iv3113 19)) (ea_cons (ev_len z_len (Ev.r (ev_var 0 rfl (Iv.fz (x := (players2986 : (List (Str × (Tu Str))))) iv3113 0)))) ea_nil))) iv3113 ro0 [] (fun vs s2 pnew k2 r2 => by obtain ⟨v3114, _, rfl, r3115, v3116, _, rfl, r3117, rfl⟩ := r2; exact ⟨[fz v3114 (init3099.costs : (List (Dc Int Int))), fz v3116 (((players2986).length : Int) : Int)], ⟨pnew, v3114, v3116, rfl, rfl, rfl⟩, (fun A s3 k3 hA => AllF.ex (all_cons r3115 (all_cons r3117 all_nil)) k3 A hA), (fun v L' z => by obtain ⟨_, _, _, e, z⟩ := z; cases e; obtain ⟨x0, x1, x2, x3, x4, rfl, z⟩ := z; exact ⟨rfl, _, x0, x1, x2, x3, x4, rfl, z⟩), (fun e L' z => z.elim)⟩) h_init3118) (fun v3125 s3126 L3127 z3130 iv3128 => ?_) sc_fewest_moved.nd
        obtain ⟨p3119, v3120, p3121, p3122, p3123, p3124, rfl, rfl⟩ := z3130
        have iv3129 := Iv.add iv3113 iv3128
        have iv3131 : Iv K P0 s0 s3126 [fz aplayers (players2986 : (List (Str × (Tu Str)))), fz aseats (seats2987 : (List (Tu Str))), fz arow (row2988 : (List Int)), fz aill (ill2989 : (List Int)), top, ol p3071 (short3067 : (List (Option Int))), cell p3100 "Costs" [("sat", (.ref p3101)), ("hale", (.ref p3102)), ("costs", (V.ref p3103))], cell p3119 "Prices" [("costs", v3120), ("of_seat", (.ref p3121)), ("of_player", (.ref p3122)), ("seat_by", (.ref p3123)), ("row", (.ref p3124))], top, top, top, top, top, top, top, top, top, od p3101 (init3099.sat : (List (Int × Int))), ol p3102 (init3099.hale : (List Int)), fz (V.ref p3103) (init3099.costs : (List (Dc Int Int))), fz v3120 (init3118.costs : (List (Dc Int Int))), ol p3121 (init3118.of_seat : (List Int)), ol p3122 (init3118.of_player : (List Int)), od p3123 (init3118.seat_by : (List (Int × Int))), ol p3124 (init3118.row : (List (Option Int)))] := Iv.sel iv3129 [some 0, some 1, some 2, some 3, none, some 5, some 6, some 25, none, none, none, none, none, none, none, none, none, some 17, some 18, some 19, some 26, some 27, some 28, some 29, some 30] (by decide +kernel) (by kernel_rfl)
        obtain ⟨hc3132, hm3089⟩ := chkE hm3089
        obtain ⟨o3133, ho3134, hm3089⟩ := bndE hm3089
        refine do_forO (υ := R_Prices) (passes_of rfl) rfl (ei_range1 z_range (ev_len z_len (Ev.r (ev_var 1 rfl (Iv.fz (x := (seats2987 : (List (Tu Str)))) iv3131 1)))) hc3132) (pg_name (i := 8) sc_fewest_moved.nd rfl (by first | exact Or.inl rfl | exact Or.inr rfl)) tg_n ho3134 (fun (b3135 : R_Prices) (σ' : L2.St) (t' : S) => ∃ (v_prices_costs : V) (p_prices_of_seat : Addr) (p_prices_of_player : Addr) (p_prices_seat_by : Addr) (p_prices_row : Addr) (y_seat : Option V), σ' = [some aplayers, some aseats, some arow, some aill, y3058, some (.ref p3071), some (.ref p3100), some (.ref p3119), y_seat, none, none, none] ∧ Iv K P0 s0 t' [fz aplayers (players2986 : (List (Str × (Tu Str)))), fz aseats (seats2987 : (List (Tu Str))), fz arow (row2988 : (List Int)), fz aill (ill2989 : (List Int)), top, ol p3071 (short3067 : (List (Option Int))), cell p3100 "Costs" [("sat", (.ref p3101)), ("hale", (.ref p3102)), ("costs", (V.ref p3103))], cell p3119 "Prices" [("costs", v_prices_costs), ("of_seat", (.ref p_prices_of_seat)), ("of_player", (.ref p_prices_of_player)), ("seat_by", (.ref p_prices_seat_by)), ("row", (.ref p_prices_row))], top, top, top, top, top, top, top, top, top, od p3101 (init3099.sat : (List (Int × Int))), ol p3102 (init3099.hale : (List Int)), fz (V.ref p3103) (init3099.costs : (List (Dc Int Int))), fz v_prices_costs (b3135.costs : (List (Dc Int Int))), ol p_prices_of_seat (b3135.of_seat : (List Int)), ol p_prices_of_player (b3135.of_player : (List Int)), od p_prices_seat_by (b3135.seat_by : (List (Int × Int))), ol p_prices_row (b3135.row : (List (Option Int)))]) (fun s3184 k3185 => by have iv3186 := Iv.ex iv3131 k3185; exact ⟨v3120, p3121, p3122, p3123, p3124, _, rfl, Iv.sel iv3186 [some 0, some 1, some 2, some 3, none, some 5, some 6, some 7, none, none, none, none, none, none, none, none, none, some 17, some 18, some 19, some 20, some 21, some 22, some 23, some 24] (by decide +kernel) (by kernel_rfl)⟩) (fun s3138 k3139 x3137 b3135 b3136 σ3148 σ3149 t3146 t3147 hx3140 hm3141 fl3142 hR3143 k3144 hB3145 => ?_) (fun s3178 k3179 σ3180 t3181 fl3182 hR3183 => ?_)
        · have hf3150 := Fle.trans k3139.f fl3142
          obtain ⟨v3151, p3152, p3153, p3154, p3155, y3156, rfl, iv3157⟩ := hR3143
          obtain ⟨v3158, r3159, rfl⟩ := hB3145
          have iv3160 := Iv.ex iv3157 k3144
          have iv3161 := Iv.sf iv3160 8 (Ex.refl t3147) r3159 rfl
          have fl3162 := Fle.trans (Fle.refl t3147.F) (Ex.refl t3147).f
          obtain ⟨fill3165, h_fill3165, hm3141⟩ := bndE hm3141
          refine do_exprK (ek_call (ok' := (fun v L' => ∃ (v3166 : V) (p3167 : Addr) (p3168 : Addr) (p3169 : Addr) (p3170 : Addr), v = .non ∧ L' = [cell p3119 "Prices" [("costs", v3166), ("of_seat", (.ref p3167)), ("of_player", (.ref p3168)), ("seat_by", (.ref p3169)), ("row", (.ref p3170))], fz v3166 (fill3165.costs : (List (Dc Int Int))), ol p3167 (fill3165.of_seat : (List Int)), ol p3168 (fill3165.of_player : (List Int)), od p3169 (fill3165.seat_by : (List (Int × Int))), ol p3170 (fill3165.row : (List (Option Int)))])) (ca_meth (E := fun _ _ _ _ => False) C_Prices_fill CL_Prices.cl pass00 hr (by decide) (raw_var 7 rfl) (Iv.cell iv3161 7) rfl (ea_cons (ev_var 8 rfl (Iv.fz (x := (x3137 : Int)) iv3161 8)) ea_nil)) iv3161 ro0 [7, 20, 21, 22, 23, 24] (by decide) (by simp) [] (by simp) (fun vs s2 k2 r2 => by obtain ⟨ws, rfl, r3⟩ := r2; obtain ⟨v3163, _, rfl, r3164, rfl⟩ := r3; exact ⟨[fz v3163 (x3137 : Int)], ⟨(p3119), (v3151), (p3152), (p3153), (p3154), (p3155), v3163, rfl, rfl, rfl⟩, (all_cons r3164 all_nil), (fun v L' z => by obtain ⟨_, _, _, _, _, _, _, e, z⟩ := z; cases e; exact z), (fun e L' z => z.elim)⟩) h_fill3165) (fun v3174 s3172 z => ?_)
          obtain ⟨L3173, ⟨v3166, p3167, p3168, p3169, p3170, rfl, rfl⟩, hf3175, iv3171⟩ := z
          have iv3176 : Iv K P0 s0 s3172 [fz aplayers (players2986 : (List (Str × (Tu Str)))), fz aseats (seats2987 : (List (Tu Str))), fz arow (row2988 : (List Int)), fz aill (ill2989 : (List Int)), top, ol p3071 (short3067 : (List (Option Int))), cell p3100 "Costs" [("sat", (.ref p3101)), ("hale", (.ref p3102)), ("costs", (V.ref p3103))], cell p3119 "Prices" [("costs", v3166), ("of_seat", (.ref p3167)), ("of_player", (.ref p3168)), ("seat_by", (.ref p3169)), ("row", (.ref p3170))], fz v3158 (x3137 : Int), top, top, top, top, top, top, top, top, od p3101 (init3099.sat : (List (Int × Int))), ol p3102 (init3099.hale : (List Int)), fz (V.ref p3103) (init3099.costs : (List (Dc Int Int))), fz v3166 (fill3165.costs : (List (Dc Int Int))), ol p3167 (fill3165.of_seat : (List Int)), ol p3168 (fill3165.of_player : (List Int)), od p3169 (fill3165.seat_by : (List (Int × Int))), ol p3170 (fill3165.row : (List (Option Int)))] := Iv.sel iv3171 [some 0, some 1, some 2, some 3, none, some 5, some 6, some 25, some 8, none, none, none, none, none, none, none, none, some 17, some 18, some 19, some 26, some 27, some 28, some 29, some 30] (by decide +kernel) (by kernel_rfl)
          have fl3177 := Fle.trans (Fle.refl t3147.F) hf3175
          obtain rfl := Option.some.inj hm3141
          exact do_nil ⟨s3172, rfl, fl3177, ⟨v3166, p3167, p3168, p3169, p3170, _, rfl, Iv.sel iv3176 [some 0, some 1, some 2, some 3, none, some 5, some 6, some 7, none, none, none, none, none, none, none, none, none, some 17, some 18, some 19, some 20, some 21, some 22, some 23, some 24] (by decide +kernel) (by kernel_rfl)⟩⟩
        · have hf3187 := Fle.trans k3179.f fl3182
          obtain ⟨v3188, p3189, p3190, p3191, p3192, y3193, rfl, iv3194⟩ := hR3183
          obtain ⟨hc3195, hm3089⟩ := chkE hm3089
          obtain ⟨hc3219, hm3089⟩ := chkE hm3089
          refine do_setL 9 (en_comp0 (own := [("k", 10)]) (j := 10) (f := fun (x3196 : Int) => (some (0 : Int))) rfl sc_fewest_moved.nd (ei_range1 z_range (ev_len z_len (Ev.r (ev_var 0 rfl (Iv.fz (x := (players2986 : (List (Str × (Tu Str))))) iv3194 0)))) hc3195) (blkOk_by (own := [("k", 10)]) (N := N_fewest_moved) (sc := defScope s_fewest_moved) (by decide +kernel)) rfl (by decide) (fun _ _ _ _ _ => pg_name (i := 10) sc_fewest_moved.nd rfl (by first | exact Or.inl rfl | exact Or.inr rfl)) (compO_map (fun (x3196 : Int) => (0 : Int)) (rng 0 ((players2986).length : Int))) hc3219 (fun x3196 y3197 v3217 s3198 hx3200 e3199 r3218 hf3201 _ _ _ _ _ => by obtain rfl := Option.some.inj hf3201; exact ev_int)) (fun p3224 s3222 e3223 n3225 o3226 => ?_) rfl rfl
          obtain ⟨of_player3220, q3221, hm3089⟩ := ltE hm3089
          have iv3227 := Iv.sl iv3194 9 e3223 n3225 o3226 q3221
          obtain ⟨o3228, ho3229, hm3089⟩ := bndE hm3089
          refine do_forG (passes_of rfl) rfl (pg_name (i := 10) sc_fewest_moved.nd rfl (by first | exact Or.inl rfl | exact Or.inr rfl)) (for_readO (υ := (List Int)) (ei_rawL (xs := (init3099.hale : (List Int))) (raw_fld (raw_var 6 rfl) (Iv.cell iv3227 6) rfl CL_Costs.cl (CL_Costs.na "hale" (by simp))) (Own.r (Iv.ol (xs := (init3099.hale : (List Int))) iv3227 18))) tg_n ho3229 (fun (b3230 : (List Int)) (σ' : L2.St) (t' : S) => Fle s3222.F t'.F ∧ ∃ (y_k : Option V), σ' = [some aplayers, some aseats, some arow, some aill, y3058, some (.ref p3071), some (.ref p3100), some (.ref p3119), y3193, some (.ref p3224), y_k, none] ∧ Iv K P0 s0 t' [fz aplayers (players2986 : (List (Str × (Tu Str)))), fz aseats (seats2987 : (List (Tu Str))), fz arow (row2988 : (List Int)), fz aill (ill2989 : (List Int)), top, ol p3071 (short3067 : (List (Option Int))), cell p3100 "Costs" [("sat", (.ref p3101)), ("hale", (.ref p3102)), ("costs", (V.ref p3103))], cell p3119 "Prices" [("costs", v3188), ("of_seat", (.ref p3189)), ("of_player", (.ref p3190)), ("seat_by", (.ref p3191)), ("row", (.ref p3192))], top, ol p3224 (b3230 : (List Int)), top, top, top, top, top, top, top, od p3101 (init3099.sat : (List (Int × Int))), ol p3102 (init3099.hale : (List Int)), fz (V.ref p3103) (init3099.costs : (List (Dc Int Int))), fz v3188 (o3133.costs : (List (Dc Int Int))), ol p3189 (o3133.of_seat : (List Int)), ol p3190 (o3133.of_player : (List Int)), od p3191 (o3133.seat_by : (List (Int × Int))), ol p3192 (o3133.row : (List (Option Int)))]) (fun b3230 σ' t' hR => by obtain ⟨f3243, hR3242⟩ := hR; obtain ⟨y3244, rfl, iv3245⟩ := hR3242; exact Own.r (Iv.ol iv3245 18)) (fun s3270 k3271 => by have iv3272 := Iv.ex iv3227 k3271; exact ⟨k3271.f, ⟨_, rfl, Iv.sel iv3272 [some 0, some 1, some 2, some 3, none, some 5, some 6, some 7, none, some 9, none, none, none, none, none, none, none, some 17, some 18, some 19, some 20, some 21, some 22, some 23, some 24] (by decide +kernel) (by kernel_rfl)⟩⟩) (fun x3232 b3230 b3231 σ3240 σ3241 t3238 t3239 hx3233 hm3234 hR3235 k3236 hB3237 => ?_) (fun σ3267 t3268 hR3269 => ?_))
          · obtain ⟨fl3246, hR3235'⟩ := hR3235
            obtain ⟨y3247, rfl, iv3248⟩ := hR3235'
            obtain ⟨v3249, r3250, rfl⟩ := hB3237
            have iv3251 := Iv.ex iv3248 k3236
            have fl3252 := Fle.trans fl3246 k3236.f
            have iv3253 := Iv.sf iv3251 10 (Ex.refl t3239) r3250 rfl
            have fl3254 := Fle.trans fl3252 (Ex.refl t3239).f
            obtain ⟨at3260, h_at3260, hm3234⟩ := bndE hm3234
            obtain ⟨rise3263, h_rise3263, hm3234⟩ := bndE hm3234
            obtain ⟨j3264, h_j3264, hm3234⟩ := bndE hm3234
            refine do_setItemP (raw_var 9 rfl) (Iv.ol (xs := (b3230 : (List Int))) iv3253 9) (ev_add (ev_ix (er_raw (xs := (o3133.of_player : (List Int))) (raw_fld (raw_var 7 rfl) (Iv.cell iv3253 7) rfl CL_Prices.cl (CL_Prices.na "of_player" (by simp))) (Own.r (Iv.ol (xs := (o3133.of_player : (List Int))) iv3253 22))) (ev_var 10 rfl (Iv.fz (x := (x3232 : Int)) iv3253 10)) h_at3260) (ev_of_eg (eg_call (ok' := (fun v L' => ∃ (bres : V), v = bres ∧ L' = [fz bres (rise3263 : Int)])) (ca_meth (E := fun _ _ _ _ => False) C_Costs_rise CL_Costs.cl pass00 hr (by decide) (raw_var 6 rfl) (Iv.cell iv3253 6) rfl (ea_cons (ev_var 10 rfl (Iv.fz (x := (x3232 : Int)) iv3253 10)) ea_nil)) iv3253 ro0 [.inl 6, .inl 17, .inl 99999, .inl 99999] (fun vs s2 k2 r2 => by obtain ⟨ws, rfl, r3⟩ := r2; obtain ⟨v3261, _, rfl, r3262, rfl⟩ := r3; exact ⟨[fz v3261 (x3232 : Int)], ⟨(p3100), (p3101), ((.ref p3102)), ((V.ref p3103)), v3261, rfl, rfl, rfl⟩, (all_cons r3262 all_nil), (fun v L' z => by obtain ⟨_, _, _, _, _, e, z⟩ := z; cases e; exact z), (fun e L' z => z.elim)⟩) h_rise3263) (fun v L' z => by obtain ⟨_, rfl, rfl⟩ := z; exact ⟨[], rfl⟩))) (ev_var 10 rfl (Iv.fz (x := (x3232 : Int)) iv3253 10)) h_j3264 (fun s3255 m3256 o3257 => ?_)
            obtain ⟨ls3258, q3259, hm3234⟩ := ltE hm3234
            have iv3265 := Iv.ml iv3253 9 m3256 o3257 q3259
            have fl3266 := Fle.trans fl3254 m3256.f
            obtain rfl := Option.some.inj hm3234
            exact do_nil ⟨s3255, rfl, fl3266, ⟨_, rfl, Iv.sel iv3265 [some 0, some 1, some 2, some 3, none, some 5, some 6, some 7, none, some 9, none, none, none, none, none, none, none, some 17, some 18, some 19, some 20, some 21, some 22, some 23, some 24] (by decide +kernel) (by kernel_rfl)⟩⟩
          · obtain ⟨fl3273, hR3269'⟩ := hR3269
            obtain ⟨y3274, rfl, iv3275⟩ := hR3269'
            refine do_set 11 (ev_add (ev_sum z_sum (er_raw (xs := (o3133.of_seat : (List Int))) (raw_fld (raw_var 7 rfl) (Iv.cell iv3275 7) rfl CL_Prices.cl (CL_Prices.na "of_seat" (by simp))) (Own.r (Iv.ol (xs := (o3133.of_seat : (List Int))) iv3275 21)))) (ev_sum z_sum (er_raw (xs := (o3228 : (List Int))) (raw_var 9 rfl) (Own.r (Iv.ol (xs := (o3228 : (List Int))) iv3275 9))))) (fun v3280 s3278 e3279 r3281 => ?_) sc_fewest_moved.nd
            obtain ⟨many3276, q3277, hm3089⟩ := ltE hm3089
            have iv3282 := Iv.sf iv3275 11 e3279 r3281 q3277
            obtain rfl := Option.some.inj hm3089
            refine do_retK (ek_of (eg_tup (egs_cons (eg_ev ev_str) (egs_cons (eg_ev (ev_var 11 rfl (Iv.fz (x := (many3276 : Int)) iv3282 11))) (egs_cons (eg_raw (raw_fld (raw_var 7 rfl) (Iv.cell iv3282 7) rfl CL_Prices.cl (CL_Prices.na "row" (by simp)))) (egs_cons (eg_raw (raw_fld (raw_var 7 rfl) (Iv.cell iv3282 7) rfl CL_Prices.cl (CL_Prices.na "of_seat" (by simp)))) (egs_cons (eg_raw (raw_var 9 rfl)) egs_nil))))) (fun vs L' z => by obtain ⟨_, _, _, _, rfl, rfl, rfl, ⟨_, _, _, _, rfl, rfl, rfl, ⟨_, _, _, _, rfl, rfl, ⟨rfl, rfl⟩, ⟨_, _, _, _, rfl, rfl, ⟨rfl, rfl⟩, ⟨_, _, _, _, rfl, rfl, ⟨rfl, rfl⟩, ⟨rfl, rfl⟩⟩⟩⟩⟩⟩ := z; simp)) iv3282) (fun v3289 s3287 z => ?_)
            obtain ⟨L3288, ⟨p3285, _, _, rfl, ⟨v3283, _, _, _, rfl, rfl, rfl, ⟨v3284, _, _, _, rfl, rfl, rfl, ⟨_, _, _, _, rfl, rfl, ⟨rfl, rfl⟩, ⟨_, _, _, _, rfl, rfl, ⟨rfl, rfl⟩, ⟨_, _, _, _, rfl, rfl, ⟨rfl, rfl⟩, ⟨rfl, rfl⟩⟩⟩⟩⟩⟩, rfl⟩, _, iv3286⟩ := z
            exact hQ _ _ _ ⟨aplayers, aseats, arow, aill, rfl, _, rfl, Or.inr (⟨_, rfl, p3285, v3283, v3284, p3192, p3189, p3224, rfl, rfl⟩)⟩ (Iv.sel iv3286 [some 25, some 26, some 27, some 24, some 21, some 9] (by decide +kernel) (by kernel_rfl))
abbrev s_l_told : Stmt := topS 43
abbrev N_l_told : List Str := ["_law_players", "_law_seats_here", "_law_row", "_law_ill_here", "_law_told_here", "e"]
theorem sc_l_told : FnScope N_l_told ["_law_players", "_law_seats_here", "_law_row", "_law_ill_here"] (defScope s_l_told) := ⟨rfl, rfl, rfl, by decide +kernel, rfl, by decide +kernel, by decide +kernel⟩
noncomputable def m_l_told (players3290 : (List (Str × (Tu Str)))) (seats_here3293 : (List (Tu Str))) (row3296 : (List Int)) (ill_here3299 : (List Int)) : Option (Tu An) :=
 (lt ((⟨[(An.s ("told" : Str)), (An.i (0 : Int))]⟩ : Tu An) : (Tu An)) fun told_here3303 =>
 (tb (a_fewest_moved (players3290, seats_here3293, row3296, ill_here3299, ())) (fun er3323 => (bnd (exE tab er3323 "NoPlayer") fun cb3330 => (if cb3330 = true then (bnd (erI tab er3323 "place") fun place3524 => (bnd (isE tab er3323 "PairsError") fun isE3525 => (bnd (andO isE3525 (bnd (isE tab er3323 "ValueError") fun isE3526 => (some isE3526))) fun c3527 => (lt ((⟨[(An.s ("player" : Str)), (An.i place3524), (An.b c3527)]⟩ : Tu An) : (Tu An)) fun told_here3529 =>
 (bnd (isEs tab er3323 ["NoBars", "NoBreak", "NoCall", "NoInstrument", "NoLine", "NoName"]) fun isE3537 => (bnd (if isE3537 = true then
 (lt ((⟨[(An.s ("other" : Str)), (An.i (0 : Int))]⟩ : Tu An) : (Tu An)) fun told_here3567 =>
 (some told_here3567))
 else
 (some told_here3529) : Option ((Tu An))) fun b3558 =>
 (bnd (isEs tab er3323 ["NoOrder", "NoPlace", "NoSeating", "NoText", "NoTimes", "Twice"]) fun isE3591 => (bnd (if isE3591 = true then
 (lt ((⟨[(An.s ("other" : Str)), (An.i (0 : Int))]⟩ : Tu An) : (Tu An)) fun told_here3621 =>
 (some told_here3621))
 else
 (some b3558) : Option ((Tu An))) fun b3612 =>
 (some b3612))))))))) else (chk (exE tab er3323 "PairsError" = some true) (lt ((⟨[(An.s ("other" : Str)), (An.i (0 : Int))]⟩ : Tu An) : (Tu An)) fun told_here3340 =>
 (bnd (isE tab er3323 "NoSeating") fun isE3348 => (bnd (andO isE3348 (bnd (isE tab er3323 "ValueError") fun isE3349 => (some isE3349))) fun c3350 => (bnd (if c3350 = true then
 (lt ((⟨[(An.s ("seating" : Str)), (An.b true)]⟩ : Tu An) : (Tu An)) fun told_here3381 =>
 (some told_here3381))
 else
 (some told_here3340) : Option ((Tu An))) fun b3372 =>
 (bnd (isEs tab er3323 ["NoBars", "NoBreak", "NoCall", "NoInstrument", "NoLine", "NoName"]) fun isE3405 => (bnd (if isE3405 = true then
 (lt ((⟨[(An.s ("other" : Str)), (An.i (0 : Int))]⟩ : Tu An) : (Tu An)) fun told_here3435 =>
 (some told_here3435))
 else
 (some b3372) : Option ((Tu An))) fun b3426 =>
 (bnd (isEs tab er3323 ["NoOrder", "NoPlace", "NoPlayer", "NoText", "NoTimes", "Twice"]) fun isE3459 => (bnd (if isE3459 = true then
 (lt ((⟨[(An.s ("other" : Str)), (An.i (0 : Int))]⟩ : Tu An) : (Tu An)) fun told_here3489 =>
 (some told_here3489))
 else
 (some b3426) : Option ((Tu An))) fun b3480 =>
 (some b3480))))))))))))) fun fewest_moved3322 => (some told_here3303)))
noncomputable abbrev a_l_told : (List (Str × (Tu Str))) × (List (Tu Str)) × (List Int) × (List Int) × Unit → Option (Tu An) := fun a => m_l_told a.1 a.2.1 a.2.2.1 a.2.2.2.1
theorem ok_l_told {P : Program} {w : World} {K : PySem.W.Frag} {mg : Str → Option Value} {base : Heap} {f : Addr} {fd : FuncData} (F : FunP K "_law_told" s_l_told f fd) (hmg : mg "_law_told" = some (.ref f)) (C_fewest_moved : Cal P w K mg base (L2.CX P w) 5 "fewest_moved" (spI K pre_fewest_moved a_fewest_moved ok_fewest_moved er_fewest_moved)) (z_isinstance : mg "isinstance" = none) (z_ValueError : mg "ValueError" = none) (N_NoPlayer : mg "NoPlayer" = some (.ref (He.ga K "NoPlayer"))) (N_PairsError : mg "PairsError" = some (.ref (He.ga K "PairsError"))) (N_NoSeating : mg "NoSeating" = some (.ref (He.ga K "NoSeating"))) (N_NoBars : mg "NoBars" = some (.ref (He.ga K "NoBars"))) (N_NoBreak : mg "NoBreak" = some (.ref (He.ga K "NoBreak"))) (N_NoCall : mg "NoCall" = some (.ref (He.ga K "NoCall"))) (N_NoInstrument : mg "NoInstrument" = some (.ref (He.ga K "NoInstrument"))) (N_NoLine : mg "NoLine" = some (.ref (He.ga K "NoLine"))) (N_NoName : mg "NoName" = some (.ref (He.ga K "NoName"))) (N_NoOrder : mg "NoOrder" = some (.ref (He.ga K "NoOrder"))) (N_NoPlace : mg "NoPlace" = some (.ref (He.ga K "NoPlace"))) (N_NoText : mg "NoText" = some (.ref (He.ga K "NoText"))) (N_NoTimes : mg "NoTimes" = some (.ref (He.ga K "NoTimes"))) (N_Twice : mg "Twice" = some (.ref (He.ga K "Twice"))) (TB : tab.ok K = true) : Cal P w K mg base CX0 6 "_law_told" (sp K a_l_told) := by
  refine mk_cal (k := 5) F hmg (F.bindsN fun _ _ _ _ _ _ us hl => match us, hl with | [_, _, _, _], _ => rfl) sc_l_told len4 ?_
  rintro cdv A' outer sh0 H0 X0 hr s0 vs ⟨players3290, seats_here3293, row3296, ill_here3299, _⟩ r0 Q ⟨v3291, _, rfl, r3292, v3294, _, rfl, r3295, v3297, _, rfl, r3298, v3300, _, rfl, r3301, rfl⟩ hm hQ
  unfold a_l_told m_l_told at hm
  dsimp only at hm
  have iv3302 : Iv K (fun _ => False) s0 s0 [fz v3291 (players3290 : (List (Str × (Tu Str)))), fz v3294 (seats_here3293 : (List (Tu Str))), fz v3297 (row3296 : (List Int)), fz v3300 (ill_here3299 : (List Int)), top, top] := (Iv.sf (Iv.sf (Iv.sf (Iv.sf (Iv.tops (K := K) (P0 := (fun _ => False)) 6 s0) 0 (Ex.refl s0) r3292 rfl) 1 (Ex.refl s0) r3295 rfl) 2 (Ex.refl s0) r3298 rfl) 3 (Ex.refl s0) r3301 rfl)
  refine do_set 4 (ev_tu (xs := ([(An.s ("told" : Str)), (An.i (0 : Int))] : List An)) (ee_cons (an_s ev_str) (ee_cons (an_i ev_int) ee_nil)) (by simp [sizeLine])) (fun v3307 s3305 e3306 r3308 => ?_) sc_l_told.nd
  obtain ⟨told_here3303, q3304, hm⟩ := ltE hm
  have iv3309 := Iv.sf iv3302 4 e3306 r3308 q3304
  refine do_tryAs2 5 sc_l_told.nd (names_of N_NoPlayer) (names_of N_PairsError) takes_false (fun pn3310 xe3311 tk3312 po3313 => ?_)
  rcases tbE hm with ⟨er3323, he3324, hm⟩ | ⟨fewest_moved3322, h_fewest_moved3322, hm⟩
  · obtain ⟨cb3330, hx3328, hm⟩ := bndE hm
    refine do_dropX (ex_callG (er' := fun e => e = er3323) (ca_fn (E := L2.WE _) C_fewest_moved (fun σ => passAt tk3312 σ) hr (by decide) (ea_cons (ev_var 0 rfl (Iv.fz (x := (players3290 : (List (Str × (Tu Str))))) iv3309 0)) (ea_cons (ev_var 1 rfl (Iv.fz (x := (seats_here3293 : (List (Tu Str)))) iv3309 1)) (ea_cons (ev_var 2 rfl (Iv.fz (x := (row3296 : (List Int))) iv3309 2)) (ea_cons (ev_var 3 rfl (Iv.fz (x := (ill_here3299 : (List Int))) iv3309 3)) ea_nil))))) iv3309 ro0 [] (fun vs s2 k2 r2 => by obtain ⟨v3314, _, rfl, r3315, v3316, _, rfl, r3317, v3318, _, rfl, r3319, v3320, _, rfl, r3321, rfl⟩ := r2; exact ⟨[fz v3314 (players3290 : (List (Str × (Tu Str)))), fz v3316 (seats_here3293 : (List (Tu Str))), fz v3318 (row3296 : (List Int)), fz v3320 (ill_here3299 : (List Int))], ⟨v3314, v3316, v3318, v3320, rfl, rfl, rfl⟩, (all_cons r3315 (all_cons r3317 (all_cons r3319 (all_cons r3321 all_nil)))), (fun v L' z => by obtain ⟨_, _, _, _, _, r, e2, _⟩ := z; cases e2), (fun e L' z => by obtain ⟨_, _, _, _, _, e2, _⟩ := z; cases e2; rfl)⟩) he3324 (fun e cls d s3325 z k3326 r3327 => ?_))
    subst z
    have hb3329 := exE_ok TB r3327 hx3328
    cases cb3330
    · rw [if_neg Bool.false_ne_true] at hm
      obtain ⟨hx3331, hm⟩ := chkE hm
      have hb3332 := exE_ok TB r3327 hx3331
      obtain rfl := exR_cls r3327
      refine was_no hb3329 ?_
      refine was_of hb3332 (fun a3333 ha3334 oe3335 pn3336 hz3337 hf3338 => ?_)
      have iv3339 := Iv.ex iv3309 k3326
      refine do_set 4 (ev_tu (xs := ([(An.s ("other" : Str)), (An.i (0 : Int))] : List An)) (ee_cons (an_s ev_str) (ee_cons (an_i ev_int) ee_nil)) (by simp [sizeLine])) (fun v3344 s3342 e3343 r3345 => ?_) sc_l_told.nd
      obtain ⟨told_here3340, q3341, hm⟩ := ltE hm
      have iv3346 := Iv.sf iv3339 4 e3343 r3345 q3341
      have r3347 := ExR.mono e3343.f r3327
      obtain ⟨isE3348, h_isE3348, hm⟩ := bndE hm
      obtain ⟨c3350, h_c3350, hm⟩ := bndE hm
      obtain ⟨b3372, hj3373, hm⟩ := bndE hm
      refine do_if (EvW.tt (EvC.w (by skip; exact ec_andO (eb_v (ev_isE TB h_isE3348 hz3337 hf3338 r3347 z_isinstance (ev_var 5 rfl (show rep _ _ (V.ref a3333) (Rw.mk (V.ref a3333)) from rfl)) (ev_cls (.inl ⟨by decide, N_NoSeating⟩)))) (fun hb3351 => (fun hz => (by obtain ⟨isE3349, h_isE3349, hz⟩ := bndE hz; obtain rfl := Option.some.inj hz; exact (ec_and1 (eb_v (ev_isE TB h_isE3349 hz3337 hf3338 r3347 z_isinstance (ev_var 5 rfl (show rep _ _ (V.ref a3333) (Rw.mk (V.ref a3333)) from rfl)) (ev_cls (.inr ⟨rfl, z_ValueError⟩))))))) ((andE h_c3350).1 hb3351)) (andE h_c3350).2))) (fun (σ' : L2.St) (t' : S) => Fle s3342.F t'.F ∧ ∃ (v_told_here : V), σ' = [some v3291, some v3294, some v3297, some v3300, some v_told_here, some (V.ref a3333)] ∧ Iv K (fun _ => False) s0 t' [fz v3291 (players3290 : (List (Str × (Tu Str)))), fz v3294 (seats_here3293 : (List (Tu Str))), fz v3297 (row3296 : (List Int)), fz v3300 (ill_here3299 : (List Int)), fz v_told_here (b3372 : (Tu An)), top]) (fun hb3374 s3375 e3376 => ?_) (fun hb3390 s3391 e3392 => ?_) (fun σ3397 s3398 hM3399 => ?_)
      · have hm3377 := iteE1 hj3373 hb3374
        have iv3378 := Iv.ex iv3346 e3376
        have r3380 := ExR.mono e3376.f r3347
        have fl3379 := Fle.trans (Fle.refl s3342.F) e3376.f
        refine do_set 4 (ev_tu (xs := ([(An.s ("seating" : Str)), (An.b true)] : List An)) (ee_cons (an_s ev_str) (ee_cons (an_b ev_bl) ee_nil)) (by simp [sizeLine])) (fun v3385 s3383 e3384 r3386 => ?_) sc_l_told.nd
        obtain ⟨told_here3381, q3382, hm3377⟩ := ltE hm3377
        have iv3387 := Iv.sf iv3378 4 e3384 r3386 q3382
        have r3389 := ExR.mono e3384.f r3380
        have fl3388 := Fle.trans fl3379 e3384.f
        obtain rfl := Option.some.inj hm3377
        exact do_nil ⟨s3383, rfl, fl3388, ⟨v3385, rfl, Iv.sel iv3387 [some 0, some 1, some 2, some 3, some 4, none] (by decide +kernel) (by kernel_rfl)⟩⟩
      · have hm3393 := iteE2 hj3373 hb3390
        have iv3394 := Iv.ex iv3346 e3392
        have r3396 := ExR.mono e3392.f r3347
        have fl3395 := Fle.trans (Fle.refl s3342.F) e3392.f
        obtain rfl := Option.some.inj hm3393
        exact do_nil ⟨s3391, rfl, fl3395, ⟨v3344, rfl, Iv.sel iv3394 [some 0, some 1, some 2, some 3, some 4, none] (by decide +kernel) (by kernel_rfl)⟩⟩
      · obtain ⟨hf3400, hR3401⟩ := hM3399
        obtain ⟨v3402, rfl, iv3403⟩ := hR3401
        have r3404 := ExR.mono hf3400 r3347
        obtain ⟨isE3405, h_isE3405, hm⟩ := bndE hm
        obtain ⟨b3426, hj3427, hm⟩ := bndE hm
        refine do_if (et_v (ev_isEs (c0 := "NoBars") (cr := ["NoBreak", "NoCall", "NoInstrument", "NoLine", "NoName"]) TB h_isE3405 hz3337 hf3338 r3404 z_isinstance (ev_var 5 rfl (show rep _ _ (V.ref a3333) (Rw.mk (V.ref a3333)) from rfl)) (ee_cons (ev_cls (.inl ⟨by decide, N_NoBars⟩)) (ee_cons (ev_cls (.inl ⟨by decide, N_NoBreak⟩)) (ee_cons (ev_cls (.inl ⟨by decide, N_NoCall⟩)) (ee_cons (ev_cls (.inl ⟨by decide, N_NoInstrument⟩)) (ee_cons (ev_cls (.inl ⟨by decide, N_NoLine⟩)) (ee_cons (ev_cls (.inl ⟨by decide, N_NoName⟩)) ee_nil)))))) (by decide))) (fun (σ' : L2.St) (t' : S) => Fle s3398.F t'.F ∧ ∃ (v_told_here : V), σ' = [some v3291, some v3294, some v3297, some v3300, some v_told_here, some (V.ref a3333)] ∧ Iv K (fun _ => False) s0 t' [fz v3291 (players3290 : (List (Str × (Tu Str)))), fz v3294 (seats_here3293 : (List (Tu Str))), fz v3297 (row3296 : (List Int)), fz v3300 (ill_here3299 : (List Int)), fz v_told_here (b3426 : (Tu An)), top]) (fun hb3428 s3429 e3430 => ?_) (fun hb3444 s3445 e3446 => ?_) (fun σ3451 s3452 hM3453 => ?_)
        · have hm3431 := iteE1 hj3427 hb3428
          have iv3432 := Iv.ex iv3403 e3430
          have r3434 := ExR.mono e3430.f r3404
          have fl3433 := Fle.trans (Fle.refl s3398.F) e3430.f
          refine do_set 4 (ev_tu (xs := ([(An.s ("other" : Str)), (An.i (0 : Int))] : List An)) (ee_cons (an_s ev_str) (ee_cons (an_i ev_int) ee_nil)) (by simp [sizeLine])) (fun v3439 s3437 e3438 r3440 => ?_) sc_l_told.nd
          obtain ⟨told_here3435, q3436, hm3431⟩ := ltE hm3431
          have iv3441 := Iv.sf iv3432 4 e3438 r3440 q3436
          have r3443 := ExR.mono e3438.f r3434
          have fl3442 := Fle.trans fl3433 e3438.f
          obtain rfl := Option.some.inj hm3431
          exact do_nil ⟨s3437, rfl, fl3442, ⟨v3439, rfl, Iv.sel iv3441 [some 0, some 1, some 2, some 3, some 4, none] (by decide +kernel) (by kernel_rfl)⟩⟩
        · have hm3447 := iteE2 hj3427 hb3444
          have iv3448 := Iv.ex iv3403 e3446
          have r3450 := ExR.mono e3446.f r3404
          have fl3449 := Fle.trans (Fle.refl s3398.F) e3446.f
          obtain rfl := Option.some.inj hm3447
          exact do_nil ⟨s3445, rfl, fl3449, ⟨v3402, rfl, Iv.sel iv3448 [some 0, some 1, some 2, some 3, some 4, none] (by decide +kernel) (by kernel_rfl)⟩⟩
        · obtain ⟨hf3454, hR3455⟩ := hM3453
          obtain ⟨v3456, rfl, iv3457⟩ := hR3455
          have r3458 := ExR.mono hf3454 r3404
          obtain ⟨isE3459, h_isE3459, hm⟩ := bndE hm
          obtain ⟨b3480, hj3481, hm⟩ := bndE hm
          refine do_if (et_v (ev_isEs (c0 := "NoOrder") (cr := ["NoPlace", "NoPlayer", "NoText", "NoTimes", "Twice"]) TB h_isE3459 hz3337 hf3338 r3458 z_isinstance (ev_var 5 rfl (show rep _ _ (V.ref a3333) (Rw.mk (V.ref a3333)) from rfl)) (ee_cons (ev_cls (.inl ⟨by decide, N_NoOrder⟩)) (ee_cons (ev_cls (.inl ⟨by decide, N_NoPlace⟩)) (ee_cons (ev_cls (.inl ⟨by decide, N_NoPlayer⟩)) (ee_cons (ev_cls (.inl ⟨by decide, N_NoText⟩)) (ee_cons (ev_cls (.inl ⟨by decide, N_NoTimes⟩)) (ee_cons (ev_cls (.inl ⟨by decide, N_Twice⟩)) ee_nil)))))) (by decide))) (fun (σ' : L2.St) (t' : S) => Fle s3452.F t'.F ∧ ∃ (v_told_here : V), σ' = [some v3291, some v3294, some v3297, some v3300, some v_told_here, some (V.ref a3333)] ∧ Iv K (fun _ => False) s0 t' [fz v3291 (players3290 : (List (Str × (Tu Str)))), fz v3294 (seats_here3293 : (List (Tu Str))), fz v3297 (row3296 : (List Int)), fz v3300 (ill_here3299 : (List Int)), fz v_told_here (b3480 : (Tu An)), top]) (fun hb3482 s3483 e3484 => ?_) (fun hb3498 s3499 e3500 => ?_) (fun σ3505 s3506 hM3507 => ?_)
          · have hm3485 := iteE1 hj3481 hb3482
            have iv3486 := Iv.ex iv3457 e3484
            have r3488 := ExR.mono e3484.f r3458
            have fl3487 := Fle.trans (Fle.refl s3452.F) e3484.f
            refine do_set 4 (ev_tu (xs := ([(An.s ("other" : Str)), (An.i (0 : Int))] : List An)) (ee_cons (an_s ev_str) (ee_cons (an_i ev_int) ee_nil)) (by simp [sizeLine])) (fun v3493 s3491 e3492 r3494 => ?_) sc_l_told.nd
            obtain ⟨told_here3489, q3490, hm3485⟩ := ltE hm3485
            have iv3495 := Iv.sf iv3486 4 e3492 r3494 q3490
            have r3497 := ExR.mono e3492.f r3488
            have fl3496 := Fle.trans fl3487 e3492.f
            obtain rfl := Option.some.inj hm3485
            exact do_nil ⟨s3491, rfl, fl3496, ⟨v3493, rfl, Iv.sel iv3495 [some 0, some 1, some 2, some 3, some 4, none] (by decide +kernel) (by kernel_rfl)⟩⟩
          · have hm3501 := iteE2 hj3481 hb3498
            have iv3502 := Iv.ex iv3457 e3500
            have r3504 := ExR.mono e3500.f r3458
            have fl3503 := Fle.trans (Fle.refl s3452.F) e3500.f
            obtain rfl := Option.some.inj hm3501
            exact do_nil ⟨s3499, rfl, fl3503, ⟨v3456, rfl, Iv.sel iv3502 [some 0, some 1, some 2, some 3, some 4, none] (by decide +kernel) (by kernel_rfl)⟩⟩
          · obtain ⟨hf3508, hR3509⟩ := hM3507
            obtain ⟨v3510, rfl, iv3511⟩ := hR3509
            have r3512 := ExR.mono hf3508 r3458
            refine do_nil (show WSs _ _ _ _ _ from ?_)
            obtain rfl := Option.some.inj hm
            exact do_ret (ev_var 4 rfl (Iv.fz (x := (b3480 : (Tu An))) iv3511 4)) fun v3513 s3514 e3515 r3516 => hQ _ _ (Ex.trans (Iv.exx iv3511) e3515) r3516
    · rw [if_pos rfl] at hm
      obtain rfl := exR_cls r3327
      refine was_of hb3329 (fun a3517 ha3518 oe3519 pn3520 hz3521 hf3522 => ?_)
      have iv3523 := Iv.ex iv3309 k3326
      obtain ⟨place3524, h_place3524, hm⟩ := bndE hm
      obtain ⟨isE3525, h_isE3525, hm⟩ := bndE hm
      obtain ⟨c3527, h_c3527, hm⟩ := bndE hm
      refine do_set 4 (ev_tu (xs := ([(An.s ("player" : Str)), (An.i place3524), (An.b c3527)] : List An)) (ee_cons (an_s ev_str) (ee_cons (an_i (ev_xfI TB h_place3524 hz3521 hf3522 r3327 (ev_var 5 rfl (show rep _ _ (V.ref a3517) (Rw.mk (V.ref a3517)) from rfl)))) (ee_cons (an_b (EvC.v (by skip; exact ec_andO (eb_v (ev_isE TB h_isE3525 hz3521 hf3522 r3327 z_isinstance (ev_var 5 rfl (show rep _ _ (V.ref a3517) (Rw.mk (V.ref a3517)) from rfl)) (ev_cls (.inl ⟨by decide, N_PairsError⟩)))) (fun hb3528 => (fun hz => (by obtain ⟨isE3526, h_isE3526, hz⟩ := bndE hz; obtain rfl := Option.some.inj hz; exact (ec_and1 (eb_v (ev_isE TB h_isE3526 hz3521 hf3522 r3327 z_isinstance (ev_var 5 rfl (show rep _ _ (V.ref a3517) (Rw.mk (V.ref a3517)) from rfl)) (ev_cls (.inr ⟨rfl, z_ValueError⟩))))))) ((andE h_c3527).1 hb3528)) (andE h_c3527).2))) ee_nil))) (by simp [sizeLine])) (fun v3533 s3531 e3532 r3534 => ?_) sc_l_told.nd
      obtain ⟨told_here3529, q3530, hm⟩ := ltE hm
      have iv3535 := Iv.sf iv3523 4 e3532 r3534 q3530
      have r3536 := ExR.mono e3532.f r3327
      obtain ⟨isE3537, h_isE3537, hm⟩ := bndE hm
      obtain ⟨b3558, hj3559, hm⟩ := bndE hm
      refine do_if (et_v (ev_isEs (c0 := "NoBars") (cr := ["NoBreak", "NoCall", "NoInstrument", "NoLine", "NoName"]) TB h_isE3537 hz3521 hf3522 r3536 z_isinstance (ev_var 5 rfl (show rep _ _ (V.ref a3517) (Rw.mk (V.ref a3517)) from rfl)) (ee_cons (ev_cls (.inl ⟨by decide, N_NoBars⟩)) (ee_cons (ev_cls (.inl ⟨by decide, N_NoBreak⟩)) (ee_cons (ev_cls (.inl ⟨by decide, N_NoCall⟩)) (ee_cons (ev_cls (.inl ⟨by decide, N_NoInstrument⟩)) (ee_cons (ev_cls (.inl ⟨by decide, N_NoLine⟩)) (ee_cons (ev_cls (.inl ⟨by decide, N_NoName⟩)) ee_nil)))))) (by decide))) (fun (σ' : L2.St) (t' : S) => Fle s3531.F t'.F ∧ ∃ (v_told_here : V), σ' = [some v3291, some v3294, some v3297, some v3300, some v_told_here, some (V.ref a3517)] ∧ Iv K (fun _ => False) s0 t' [fz v3291 (players3290 : (List (Str × (Tu Str)))), fz v3294 (seats_here3293 : (List (Tu Str))), fz v3297 (row3296 : (List Int)), fz v3300 (ill_here3299 : (List Int)), fz v_told_here (b3558 : (Tu An)), top]) (fun hb3560 s3561 e3562 => ?_) (fun hb3576 s3577 e3578 => ?_) (fun σ3583 s3584 hM3585 => ?_)
      · have hm3563 := iteE1 hj3559 hb3560
        have iv3564 := Iv.ex iv3535 e3562
        have r3566 := ExR.mono e3562.f r3536
        have fl3565 := Fle.trans (Fle.refl s3531.F) e3562.f
        refine do_set 4 (ev_tu (xs := ([(An.s ("other" : Str)), (An.i (0 : Int))] : List An)) (ee_cons (an_s ev_str) (ee_cons (an_i ev_int) ee_nil)) (by simp [sizeLine])) (fun v3571 s3569 e3570 r3572 => ?_) sc_l_told.nd
        obtain ⟨told_here3567, q3568, hm3563⟩ := ltE hm3563
        have iv3573 := Iv.sf iv3564 4 e3570 r3572 q3568
        have r3575 := ExR.mono e3570.f r3566
        have fl3574 := Fle.trans fl3565 e3570.f
        obtain rfl := Option.some.inj hm3563
        exact do_nil ⟨s3569, rfl, fl3574, ⟨v3571, rfl, Iv.sel iv3573 [some 0, some 1, some 2, some 3, some 4, none] (by decide +kernel) (by kernel_rfl)⟩⟩
      · have hm3579 := iteE2 hj3559 hb3576
        have iv3580 := Iv.ex iv3535 e3578
        have r3582 := ExR.mono e3578.f r3536
        have fl3581 := Fle.trans (Fle.refl s3531.F) e3578.f
        obtain rfl := Option.some.inj hm3579
        exact do_nil ⟨s3577, rfl, fl3581, ⟨v3533, rfl, Iv.sel iv3580 [some 0, some 1, some 2, some 3, some 4, none] (by decide +kernel) (by kernel_rfl)⟩⟩
      · obtain ⟨hf3586, hR3587⟩ := hM3585
        obtain ⟨v3588, rfl, iv3589⟩ := hR3587
        have r3590 := ExR.mono hf3586 r3536
        obtain ⟨isE3591, h_isE3591, hm⟩ := bndE hm
        obtain ⟨b3612, hj3613, hm⟩ := bndE hm
        refine do_if (et_v (ev_isEs (c0 := "NoOrder") (cr := ["NoPlace", "NoSeating", "NoText", "NoTimes", "Twice"]) TB h_isE3591 hz3521 hf3522 r3590 z_isinstance (ev_var 5 rfl (show rep _ _ (V.ref a3517) (Rw.mk (V.ref a3517)) from rfl)) (ee_cons (ev_cls (.inl ⟨by decide, N_NoOrder⟩)) (ee_cons (ev_cls (.inl ⟨by decide, N_NoPlace⟩)) (ee_cons (ev_cls (.inl ⟨by decide, N_NoSeating⟩)) (ee_cons (ev_cls (.inl ⟨by decide, N_NoText⟩)) (ee_cons (ev_cls (.inl ⟨by decide, N_NoTimes⟩)) (ee_cons (ev_cls (.inl ⟨by decide, N_Twice⟩)) ee_nil)))))) (by decide))) (fun (σ' : L2.St) (t' : S) => Fle s3584.F t'.F ∧ ∃ (v_told_here : V), σ' = [some v3291, some v3294, some v3297, some v3300, some v_told_here, some (V.ref a3517)] ∧ Iv K (fun _ => False) s0 t' [fz v3291 (players3290 : (List (Str × (Tu Str)))), fz v3294 (seats_here3293 : (List (Tu Str))), fz v3297 (row3296 : (List Int)), fz v3300 (ill_here3299 : (List Int)), fz v_told_here (b3612 : (Tu An)), top]) (fun hb3614 s3615 e3616 => ?_) (fun hb3630 s3631 e3632 => ?_) (fun σ3637 s3638 hM3639 => ?_)
        · have hm3617 := iteE1 hj3613 hb3614
          have iv3618 := Iv.ex iv3589 e3616
          have r3620 := ExR.mono e3616.f r3590
          have fl3619 := Fle.trans (Fle.refl s3584.F) e3616.f
          refine do_set 4 (ev_tu (xs := ([(An.s ("other" : Str)), (An.i (0 : Int))] : List An)) (ee_cons (an_s ev_str) (ee_cons (an_i ev_int) ee_nil)) (by simp [sizeLine])) (fun v3625 s3623 e3624 r3626 => ?_) sc_l_told.nd
          obtain ⟨told_here3621, q3622, hm3617⟩ := ltE hm3617
          have iv3627 := Iv.sf iv3618 4 e3624 r3626 q3622
          have r3629 := ExR.mono e3624.f r3620
          have fl3628 := Fle.trans fl3619 e3624.f
          obtain rfl := Option.some.inj hm3617
          exact do_nil ⟨s3623, rfl, fl3628, ⟨v3625, rfl, Iv.sel iv3627 [some 0, some 1, some 2, some 3, some 4, none] (by decide +kernel) (by kernel_rfl)⟩⟩
        · have hm3633 := iteE2 hj3613 hb3630
          have iv3634 := Iv.ex iv3589 e3632
          have r3636 := ExR.mono e3632.f r3590
          have fl3635 := Fle.trans (Fle.refl s3584.F) e3632.f
          obtain rfl := Option.some.inj hm3633
          exact do_nil ⟨s3631, rfl, fl3635, ⟨v3588, rfl, Iv.sel iv3634 [some 0, some 1, some 2, some 3, some 4, none] (by decide +kernel) (by kernel_rfl)⟩⟩
        · obtain ⟨hf3640, hR3641⟩ := hM3639
          obtain ⟨v3642, rfl, iv3643⟩ := hR3641
          have r3644 := ExR.mono hf3640 r3590
          refine do_nil (show WSs _ _ _ _ _ from ?_)
          obtain rfl := Option.some.inj hm
          exact do_ret (ev_var 4 rfl (Iv.fz (x := (b3612 : (Tu An))) iv3643 4)) fun v3645 s3646 e3647 r3648 => hQ _ _ (Ex.trans (Iv.exx iv3643) e3647) r3648
  refine do_exprG (eg_call (ok' := (fun v L' => (∃ q : (Str × (List (Option Int))), fewest_moved3322 = (Sum.inl q) ∧ ∃ (bres : Addr) (bres_0 : V) (bres_1 : Addr), v = (.ref bres) ∧ L' = [tc bres [bres_0, (.ref bres_1)], fz bres_0 (q.1 : Str), ol bres_1 (q.2 : (List (Option Int)))]) ∨ (∃ q : (T5 Str Int (List (Option Int)) (List Int) (List Int)), fewest_moved3322 = (Sum.inr q) ∧ ∃ (bres : Addr) (bres_0 : V) (bres_1 : V) (bres_2 : Addr) (bres_3 : Addr) (bres_4 : Addr), v = (.ref bres) ∧ L' = [tc bres [bres_0, bres_1, (.ref bres_2), (.ref bres_3), (.ref bres_4)], fz bres_0 (q.a : Str), fz bres_1 (q.b : Int), ol bres_2 (q.c : (List (Option Int))), ol bres_3 (q.d : (List Int)), ol bres_4 (q.e : (List Int))]))) (ca_fn (E := fun _ _ _ _ => False) C_fewest_moved passF hr (by decide) (ea_cons (ev_var 0 rfl (Iv.fz (x := (players3290 : (List (Str × (Tu Str))))) iv3309 0)) (ea_cons (ev_var 1 rfl (Iv.fz (x := (seats_here3293 : (List (Tu Str)))) iv3309 1)) (ea_cons (ev_var 2 rfl (Iv.fz (x := (row3296 : (List Int))) iv3309 2)) (ea_cons (ev_var 3 rfl (Iv.fz (x := (ill_here3299 : (List Int))) iv3309 3)) ea_nil))))) iv3309 ro0 [] (fun vs s2 k2 r2 => by obtain ⟨v3314, _, rfl, r3315, v3316, _, rfl, r3317, v3318, _, rfl, r3319, v3320, _, rfl, r3321, rfl⟩ := r2; exact ⟨[fz v3314 (players3290 : (List (Str × (Tu Str)))), fz v3316 (seats_here3293 : (List (Tu Str))), fz v3318 (row3296 : (List Int)), fz v3320 (ill_here3299 : (List Int))], ⟨v3314, v3316, v3318, v3320, rfl, rfl, rfl⟩, (all_cons r3315 (all_cons r3317 (all_cons r3319 (all_cons r3321 all_nil)))), (fun v L' z => by obtain ⟨_, _, _, _, e, r, e2, z⟩ := z; cases e; cases e2; exact z), (fun e L' z => by obtain ⟨_, _, _, _, _, e2, _⟩ := z; cases e2)⟩) h_fewest_moved3322) (fun v3649 s3650 L3651 z3652 iv3653 => ?_)
  have iv3655 := Iv.ex iv3309 (Iv.exx iv3653)
  refine do_nil (show WSs _ _ _ _ _ from ?_)
  obtain rfl := Option.some.inj hm
  exact do_ret (ev_var 4 rfl (Iv.fz (x := (told_here3303 : (Tu An))) iv3655 4)) fun v3656 s3657 e3658 r3659 => hQ _ _ (Ex.trans (Iv.exx iv3655) e3658) r3659
abbrev s_l_can : Stmt := topS 39
abbrev N_l_can : List Str := ["_law_player_here", "_law_seat_here", "_law_one"]
theorem sc_l_can : FnScope N_l_can ["_law_player_here", "_law_seat_here"] (defScope s_l_can) := ⟨rfl, rfl, rfl, by decide +kernel, rfl, by decide +kernel, by decide +kernel⟩
noncomputable def m_l_can (player_here3660 : (Str × (Tu Str))) (seat_here3663 : (Tu Str)) : Option Bool :=
 (chk (((List.map (fun (x3679 : Str) => x3679) (List.filter (fun (x3679 : Str) => (!decide (x3679 ∈ ((player_here3660).2).l))) (seat_here3663).l))).length ≤ sizeLine) (chk (shp (List.map (fun (x3679 : Str) => x3679) (List.filter (fun (x3679 : Str) => (!decide (x3679 ∈ ((player_here3660).2).l))) (seat_here3663).l))) (chk (shp ([] : List Str)) (some (decide ((List.map (fun (x3679 : Str) => x3679) (List.filter (fun (x3679 : Str) => (!decide (x3679 ∈ ((player_here3660).2).l))) (seat_here3663).l)) = ([] : List Str)))))))
noncomputable abbrev a_l_can : (Str × (Tu Str)) × (Tu Str) × Unit → Option Bool := fun a => m_l_can a.1 a.2.1
theorem ok_l_can {P : Program} {w : World} {K : PySem.W.Frag} {mg : Str → Option Value} {base : Heap} {f : Addr} {fd : FuncData} (F : FunP K "_law_can" s_l_can f fd) (hmg : mg "_law_can" = some (.ref f))  : Cal P w K mg base CX0 1 "_law_can" (sp K a_l_can) := by
  refine mk_cal (k := 0) F hmg (F.bindsN fun _ _ _ _ _ _ us hl => match us, hl with | [_, _], _ => rfl) sc_l_can len2 ?_
  rintro cdv A' outer sh0 H0 X0 hr s0 vs ⟨player_here3660, seat_here3663, _⟩ r0 Q ⟨v3661, _, rfl, r3662, v3664, _, rfl, r3665, rfl⟩ hm hQ
  unfold a_l_can m_l_can at hm
  dsimp only at hm
  have iv3666 : Iv K (fun _ => False) s0 s0 [fz v3661 (player_here3660 : (Str × (Tu Str))), fz v3664 (seat_here3663 : (Tu Str)), top] := (Iv.sf (Iv.sf (Iv.tops (K := K) (P0 := (fun _ => False)) 3 s0) 0 (Ex.refl s0) r3662 rfl) 1 (Ex.refl s0) r3665 rfl)
  obtain ⟨hc3689, hm⟩ := chkE hm
  obtain ⟨hc3691, hm⟩ := chkE hm
  obtain ⟨hc3692, hm⟩ := chkE hm
  obtain rfl := Option.some.inj hm
  exact do_ret (EvB.v (eb_eqL hr (EvN.r (EvL.n (en_comp1 (own := [("_law_one", 2)]) (j := 2) (t := fun (x3679 : Str) => (some (!decide (x3679 ∈ ((player_here3660).2).l)))) (f := fun (x3679 : Str) => (some x3679)) rfl sc_l_can.nd (ei_tup (ev_var 1 rfl (Iv.fz (x := (seat_here3663 : (Tu Str))) iv3666 1))) (blkOk_by (own := [("_law_one", 2)]) (N := N_l_can) (sc := defScope s_l_can) (by decide +kernel)) rfl (by decide) (fun _ _ _ _ _ => pg_name (i := 2) sc_l_can.nd rfl (by first | exact Or.inl rfl | exact Or.inr rfl)) (compO_pure (fun (x3679 : Str) => (!decide (x3679 ∈ ((player_here3660).2).l))) (fun (x3679 : Str) => x3679) (seat_here3663).l) hc3689 (fun x3679 y3680 v3687 s3681 hx3683 e3682 r3688 hf3684 _ _ _ _ _ => by have z3685 := Enc.mono e3682.f (Iv.fz (v := v3661) (x := (player_here3660 : (Str × (Tu Str)))) iv3666 0); obtain rfl := Option.some.inj hf3684; exact (EvB.t (eb_notInT (ev_var 2 rfl r3688) (ev_ixP (ev_var 0 rfl z3685) ev_int p2_1)))) (fun x3679 y3680 v3687 s3681 hx3683 e3682 r3688 ht3690 hf3684 _ _ _ _ _ => by obtain rfl := Option.some.inj hf3684; exact (ev_var 2 rfl r3688))))) (EvN.r (en_list (xs := ([] : List Str)) ee_nil (by simp [sizeLine]))) hc3691 hc3692)) fun v3693 s3694 e3695 r3696 => hQ _ _ (Ex.trans (Iv.exx iv3666) e3695) r3696
abbrev s_l_is_seating : Stmt := topS 40
abbrev N_l_is_seating : List Str := ["_law_players", "_law_seats_here", "_law_row", "_law_k"]
theorem sc_l_is_seating : FnScope N_l_is_seating ["_law_players", "_law_seats_here", "_law_row"] (defScope s_l_is_seating) := ⟨rfl, rfl, rfl, by decide +kernel, rfl, by decide +kernel, by decide +kernel⟩
noncomputable def m_l_is_seating (players3697 : (List (Str × (Tu Str)))) (seats_here3700 : (List (Tu Str))) (row3703 : (List Int)) : Option Bool :=
 (if (!decide (((row3703).length : Int) = ((seats_here3700).length : Int))) = true then
 (some false)
 else
 (chk (RgB ((row3703).length : Int)) (bnd (foldF (ρ := Bool) (fun (b3724 : Unit) (x3726 : Int) =>
 (bnd (atI row3703 x3726) fun at3749 => (bnd (orO (!(decide ((0 : Int) ≤ at3749) && decide (at3749 < ((players3697).length : Int)))) (bnd (atI row3703 x3726) fun at3750 => (orO (decide (at3750 ∈ (cut row3703 none (some x3726)))) (bnd (atI row3703 x3726) fun at3754 => (bnd (atI players3697 at3754) fun at3755 => (bnd (atI seats_here3700 x3726) fun at3756 => (bnd (m_l_can at3755 at3756) fun can3757 => (some (!can3757))))))))) fun c3758 => (if c3758 = true then
 (some (Fl.rt false))
 else
 (some (Fl.nx ())))))) () (rng 0 ((row3703).length : Int))) fun o3722 =>
 (Fl.go o3722 (fun b3786 => (some true)) (fun rr => (some rr))))))
noncomputable abbrev a_l_is_seating : (List (Str × (Tu Str))) × (List (Tu Str)) × (List Int) × Unit → Option Bool := fun a => m_l_is_seating a.1 a.2.1 a.2.2.1
theorem ok_l_is_seating {P : Program} {w : World} {K : PySem.W.Frag} {mg : Str → Option Value} {base : Heap} {f : Addr} {fd : FuncData} (F : FunP K "_law_is_seating" s_l_is_seating f fd) (hmg : mg "_law_is_seating" = some (.ref f)) (C_l_can : Cal P w K mg base CX0 1 "_law_can" (sp K a_l_can)) (z_len : mg "len" = none) (z_range : mg "range" = none) : Cal P w K mg base CX0 2 "_law_is_seating" (sp K a_l_is_seating) := by
  refine mk_cal (k := 1) F hmg (F.bindsN fun _ _ _ _ _ _ us hl => match us, hl with | [_, _, _], _ => rfl) sc_l_is_seating len3 ?_
  rintro cdv A' outer sh0 H0 X0 hr s0 vs ⟨players3697, seats_here3700, row3703, _⟩ r0 Q ⟨v3698, _, rfl, r3699, v3701, _, rfl, r3702, v3704, _, rfl, r3705, rfl⟩ hm hQ
  unfold a_l_is_seating m_l_is_seating at hm
  dsimp only at hm
  have iv3706 : Iv K (fun _ => False) s0 s0 [fz v3698 (players3697 : (List (Str × (Tu Str)))), fz v3701 (seats_here3700 : (List (Tu Str))), fz v3704 (row3703 : (List Int)), top] := (Iv.sf (Iv.sf (Iv.sf (Iv.tops (K := K) (P0 := (fun _ => False)) 4 s0) 0 (Ex.refl s0) r3699 rfl) 1 (Ex.refl s0) r3702 rfl) 2 (Ex.refl s0) r3705 rfl)
  refine do_ifR (EvB.t (eb_ne (ev_len z_len (Ev.r (ev_var 2 rfl (Iv.fz (x := (row3703 : (List Int))) iv3706 2)))) (ev_len z_len (Ev.r (ev_var 1 rfl (Iv.fz (x := (seats_here3700 : (List (Tu Str)))) iv3706 1)))))) (fun hb3707 s3708 e3709 => ?_) (fun hb3716 s3717 e3718 => ?_)
  · have hm3710 := iteE1 hm hb3707
    have iv3711 := Iv.ex iv3706 e3709
    obtain rfl := Option.some.inj hm3710
    exact do_ret ev_bl fun v3712 s3713 e3714 r3715 => hQ _ _ (Ex.trans (Iv.exx iv3711) e3714) r3715
  · have hm3719 := iteE2 hm hb3716
    have iv3720 := Iv.ex iv3706 e3718
    obtain ⟨hc3721, hm3719⟩ := chkE hm3719
    obtain ⟨o3722, ho3723, hm3719⟩ := bndE hm3719
    refine do_forF (ρ := Bool) (υ := Unit) PassesOwn.never rfl (ei_range1 z_range (ev_len z_len (Ev.r (ev_var 2 rfl (Iv.fz (x := (row3703 : (List Int))) iv3720 2)))) hc3721) (pg_name (i := 3) sc_l_is_seating.nd rfl (by first | exact Or.inl rfl | exact Or.inr rfl)) tg_n ho3723 (fun (b3724 : Unit) (σ' : L2.St) (t' : S) => ∃ (y_k : Option V), σ' = [some v3698, some v3701, some v3704, y_k] ∧ Iv K (fun _ => False) s0 t' [fz v3698 (players3697 : (List (Str × (Tu Str)))), fz v3701 (seats_here3700 : (List (Tu Str))), fz v3704 (row3703 : (List Int)), top]) (fun s3783 k3784 => by have iv3785 := Iv.ex iv3720 k3784; exact ⟨_, rfl, Iv.sel iv3785 [some 0, some 1, some 2, none] (by decide +kernel) (by kernel_rfl)⟩) (fun s3727 k3728 x3726 b3724 q3747 σ3737 σ3738 t3735 t3736 hx3729 hm3730 hq3748 fl3731 hR3732 k3733 hB3734 => ?_) (fun s3777 k3778 b3786 σ3779 t3780 ho3787 fl3781 hR3782 => ?_)
    · have hf3739 := Fle.trans k3728.f fl3731
      obtain ⟨y3740, rfl, iv3741⟩ := hR3732
      obtain ⟨v3742, r3743, rfl⟩ := hB3734
      have iv3744 := Iv.ex iv3741 k3733
      have iv3745 := Iv.sf iv3744 3 (Ex.refl t3736) r3743 rfl
      have fl3746 := Fle.trans (Fle.refl t3736.F) (Ex.refl t3736).f
      obtain ⟨at3749, h_at3749, hm3730⟩ := bndE hm3730
      obtain ⟨c3758, h_c3758, hm3730⟩ := bndE hm3730
      refine do_ifR (EvW.tt (EvC.w (by skip; exact ec_orO (eb_not (eb_ch_le_lt ev_int (ev_ix (Ev.r (ev_var 2 rfl (Iv.fz (x := (row3703 : (List Int))) iv3745 2))) (ev_var 3 rfl (Iv.fz (x := (x3726 : Int)) iv3745 3)) h_at3749) (ev_len z_len (Ev.r (ev_var 0 rfl (Iv.fz (x := (players3697 : (List (Str × (Tu Str))))) iv3745 0)))))) (fun hb3759 => (fun hz => (by obtain ⟨at3750, h_at3750, hz⟩ := bndE hz; exact ec_orO (eb_in (ev_ix (Ev.r (ev_var 2 rfl (Iv.fz (x := (row3703 : (List Int))) iv3745 2))) (ev_var 3 rfl (Iv.fz (x := (x3726 : Int)) iv3745 3)) h_at3750) (EvN.r (en_slice (Ev.r (ev_var 2 rfl (Iv.fz (x := (row3703 : (List Int))) iv3745 2))) eo_none (eo_some (ev_var 3 rfl (Iv.fz (x := (x3726 : Int)) iv3745 3)))))) (fun hb3760 => (fun hz => (by obtain ⟨at3754, h_at3754, hz⟩ := bndE hz; obtain ⟨at3755, h_at3755, hz⟩ := bndE hz; obtain ⟨at3756, h_at3756, hz⟩ := bndE hz; obtain ⟨can3757, h_can3757, hz⟩ := bndE hz; obtain rfl := Option.some.inj hz; exact (ec_or1 (eb_not (eb_v (ev_call C_l_can hr (by decide) (ea_cons (ev_ix (Ev.r (ev_var 0 rfl (Iv.fz (x := (players3697 : (List (Str × (Tu Str))))) iv3745 0))) (ev_ix (Ev.r (ev_var 2 rfl (Iv.fz (x := (row3703 : (List Int))) iv3745 2))) (ev_var 3 rfl (Iv.fz (x := (x3726 : Int)) iv3745 3)) h_at3754) h_at3755) (ea_cons (ev_ix (Ev.r (ev_var 1 rfl (Iv.fz (x := (seats_here3700 : (List (Tu Str)))) iv3745 1))) (ev_var 3 rfl (Iv.fz (x := (x3726 : Int)) iv3745 3)) h_at3756) ea_nil)) h_can3757)))))) ((orE hz).1 hb3760)) (orE hz).2)) ((orE h_c3758).1 hb3759)) (orE h_c3758).2))) (fun hb3761 s3762 e3763 => ?_) (fun hb3771 s3772 e3773 => ?_)
      · have hm3764 := iteE1 hm3730 hb3761
        have iv3765 := Iv.ex iv3745 e3763
        have fl3766 := Fle.trans (Fle.refl t3736.F) e3763.f
        obtain rfl := Option.some.inj hm3764
        obtain rfl := hq3748 _ rfl
        obtain rfl := Option.some.inj hm3719
        exact do_ret ev_bl fun v3767 s3768 e3769 r3770 => hQ _ _ (Ex.trans (Iv.exx iv3765) e3769) r3770
      · have hm3774 := iteE2 hm3730 hb3771
        have iv3775 := Iv.ex iv3745 e3773
        have fl3776 := Fle.trans (Fle.refl t3736.F) e3773.f
        obtain rfl := Option.some.inj hm3774
        exact do_nil ⟨s3772, rfl, _, rfl, fl3776, ⟨_, rfl, Iv.sel iv3775 [some 0, some 1, some 2, none] (by decide +kernel) (by kernel_rfl)⟩⟩
    · subst ho3787
      replace hm3719 := goN hm3719
      have hf3788 := Fle.trans k3778.f fl3781
      obtain ⟨y3789, rfl, iv3790⟩ := hR3782
      obtain rfl := Option.some.inj hm3719
      exact do_ret ev_bl fun v3791 s3792 e3793 r3794 => hQ _ _ (Ex.trans (Iv.exx iv3790) e3793) r3794
abbrev s_l_asked : Stmt := topS 44
abbrev N_l_asked : List Str := ["_law_players", "_law_seats_here", "_law_row", "_law_ill_here", "_law_kept", "_law_told_here", "_law_bad", "_law_place"]
theorem sc_l_asked : FnScope N_l_asked ["_law_players", "_law_seats_here", "_law_row", "_law_ill_here"] (defScope s_l_asked) := ⟨rfl, rfl, rfl, by decide +kernel, rfl, by decide +kernel, by decide +kernel⟩
noncomputable def m_l_asked (players3795 : (List (Str × (Tu Str)))) (seats_here3798 : (List (Tu Str))) (row3801 : (List Int)) (ill_here3804 : (List Int)) : Option Bool :=
 (lt ((⟨players3795, seats_here3798, row3801, ill_here3804⟩ : HL4 (List (Str × (Tu Str))) (List (Tu Str)) (List Int) (List Int)) : (HL4 (List (Str × (Tu Str))) (List (Tu Str)) (List Int) (List Int))) fun kept3808 =>
 (bnd (m_l_told players3795 seats_here3798 row3801 ill_here3804) fun told3815 => (lt (told3815 : (Tu An)) fun told_here3816 =>
 (chk (shp (⟨players3795, seats_here3798, row3801, ill_here3804⟩ : HL4 (List (Str × (Tu Str))) (List (Tu Str)) (List Int) (List Int))) (chk (shp kept3808) (if (!decide ((⟨players3795, seats_here3798, row3801, ill_here3804⟩ : HL4 (List (Str × (Tu Str))) (List (Tu Str)) (List Int) (List Int)) = kept3808)) = true then
 (some false)
 else
 (bnd (m_l_is_seating players3795 seats_here3798 row3801) fun is_seating3839 => (if (!is_seating3839) = true then
 (chk (shpD told_here3816) (chk (shpD (⟨[(An.s ("seating" : Str)), (An.b true)]⟩ : Tu An)) (some (eqvD told_here3816 (⟨[(An.s ("seating" : Str)), (An.b true)]⟩ : Tu An)))))
 else
 (chk (((List.map (fun (x3856 : Int) => x3856) (List.filter (fun (x3856 : Int) => (!(decide ((0 : Int) ≤ x3856) && decide (x3856 < ((players3795).length : Int))))) ill_here3804))).length ≤ sizeLine) (lt ((List.map (fun (x3856 : Int) => x3856) (List.filter (fun (x3856 : Int) => (!(decide ((0 : Int) ≤ x3856) && decide (x3856 < ((players3795).length : Int))))) ill_here3804)) : (List Int)) fun bad3872 =>
 (if (!decide (bad3872 = ([] : List Int))) = true then
 (bnd (atI bad3872 (0 : Int)) fun at3890 => (chk (shpD told_here3816) (chk (shpD (⟨[(An.s ("player" : Str)), (An.i at3890), (An.b true)]⟩ : Tu An)) (some (eqvD told_here3816 (⟨[(An.s ("player" : Str)), (An.i at3890), (An.b true)]⟩ : Tu An))))))
 else
 (chk (shpD told_here3816) (chk (shpD (⟨[(An.s ("told" : Str)), (An.i (0 : Int))]⟩ : Tu An)) (some (eqvD told_here3816 (⟨[(An.s ("told" : Str)), (An.i (0 : Int))]⟩ : Tu An))))))))))))))))
noncomputable abbrev a_l_asked : (List (Str × (Tu Str))) × (List (Tu Str)) × (List Int) × (List Int) × Unit → Option Bool := fun a => m_l_asked a.1 a.2.1 a.2.2.1 a.2.2.2.1
theorem ok_l_asked {P : Program} {w : World} {K : PySem.W.Frag} {mg : Str → Option Value} {base : Heap} {f : Addr} {fd : FuncData} (F : FunP K "_law_asked" s_l_asked f fd) (hmg : mg "_law_asked" = some (.ref f)) (C_l_told : Cal P w K mg base CX0 6 "_law_told" (sp K a_l_told)) (C_l_is_seating : Cal P w K mg base CX0 2 "_law_is_seating" (sp K a_l_is_seating)) (z_list : mg "list" = none) (z_len : mg "len" = none) : Cal P w K mg base CX0 7 "_law_asked" (sp K a_l_asked) := by
  refine mk_cal (k := 6) F hmg (F.bindsN fun _ _ _ _ _ _ us hl => match us, hl with | [_, _, _, _], _ => rfl) sc_l_asked len4 ?_
  rintro cdv A' outer sh0 H0 X0 hr s0 vs ⟨players3795, seats_here3798, row3801, ill_here3804, _⟩ r0 Q ⟨v3796, _, rfl, r3797, v3799, _, rfl, r3800, v3802, _, rfl, r3803, v3805, _, rfl, r3806, rfl⟩ hm hQ
  unfold a_l_asked m_l_asked at hm
  dsimp only at hm
  have iv3807 : Iv K (fun _ => False) s0 s0 [fz v3796 (players3795 : (List (Str × (Tu Str)))), fz v3799 (seats_here3798 : (List (Tu Str))), fz v3802 (row3801 : (List Int)), fz v3805 (ill_here3804 : (List Int)), top, top, top, top] := (Iv.sf (Iv.sf (Iv.sf (Iv.sf (Iv.tops (K := K) (P0 := (fun _ => False)) 8 s0) 0 (Ex.refl s0) r3797 rfl) 1 (Ex.refl s0) r3800 rfl) 2 (Ex.refl s0) r3803 rfl) 3 (Ex.refl s0) r3806 rfl)
  refine do_set 4 (ev_hl4 (ea_cons (EvN.ev (en_copy z_list (Ev.r (ev_var 0 rfl (Iv.fz (x := (players3795 : (List (Str × (Tu Str))))) iv3807 0))))) (ea_cons (EvN.ev (en_copy z_list (Ev.r (ev_var 1 rfl (Iv.fz (x := (seats_here3798 : (List (Tu Str)))) iv3807 1))))) (ea_cons (EvN.ev (en_copy z_list (Ev.r (ev_var 2 rfl (Iv.fz (x := (row3801 : (List Int))) iv3807 2))))) (ea_cons (EvN.ev (en_copy z_list (Ev.r (ev_var 3 rfl (Iv.fz (x := (ill_here3804 : (List Int))) iv3807 3))))) ea_nil))))) (fun v3812 s3810 e3811 r3813 => ?_) sc_l_asked.nd
  obtain ⟨kept3808, q3809, hm⟩ := ltE hm
  have iv3814 := Iv.sf iv3807 4 e3811 r3813 q3809
  obtain ⟨told3815, h_told3815, hm⟩ := bndE hm
  refine do_set 5 (ev_call C_l_told hr (by decide) (ea_cons (ev_var 0 rfl (Iv.fz (x := (players3795 : (List (Str × (Tu Str))))) iv3814 0)) (ea_cons (ev_var 1 rfl (Iv.fz (x := (seats_here3798 : (List (Tu Str)))) iv3814 1)) (ea_cons (ev_var 2 rfl (Iv.fz (x := (row3801 : (List Int))) iv3814 2)) (ea_cons (ev_var 3 rfl (Iv.fz (x := (ill_here3804 : (List Int))) iv3814 3)) ea_nil)))) h_told3815) (fun v3820 s3818 e3819 r3821 => ?_) sc_l_asked.nd
  obtain ⟨told_here3816, q3817, hm⟩ := ltE hm
  have iv3822 := Iv.sf iv3814 5 e3819 r3821 q3817
  obtain ⟨hc3823, hm⟩ := chkE hm
  obtain ⟨hc3824, hm⟩ := chkE hm
  refine do_ifR (EvB.t (eb_neD hr (ev_hl4 (ea_cons (ev_var 0 rfl (Iv.fz (x := (players3795 : (List (Str × (Tu Str))))) iv3822 0)) (ea_cons (ev_var 1 rfl (Iv.fz (x := (seats_here3798 : (List (Tu Str)))) iv3822 1)) (ea_cons (ev_var 2 rfl (Iv.fz (x := (row3801 : (List Int))) iv3822 2)) (ea_cons (ev_var 3 rfl (Iv.fz (x := (ill_here3804 : (List Int))) iv3822 3)) ea_nil))))) (ev_var 4 rfl (Iv.fz (x := (kept3808 : (HL4 (List (Str × (Tu Str))) (List (Tu Str)) (List Int) (List Int)))) iv3822 4)) hc3823 hc3824)) (fun hb3825 s3826 e3827 => ?_) (fun hb3834 s3835 e3836 => ?_)
  · have hm3828 := iteE1 hm hb3825
    have iv3829 := Iv.ex iv3822 e3827
    obtain rfl := Option.some.inj hm3828
    exact do_ret ev_bl fun v3830 s3831 e3832 r3833 => hQ _ _ (Ex.trans (Iv.exx iv3829) e3832) r3833
  · have hm3837 := iteE2 hm hb3834
    have iv3838 := Iv.ex iv3822 e3836
    obtain ⟨is_seating3839, h_is_seating3839, hm3837⟩ := bndE hm3837
    refine do_ifR (EvB.t (eb_not (eb_v (ev_call C_l_is_seating hr (by decide) (ea_cons (ev_var 0 rfl (Iv.fz (x := (players3795 : (List (Str × (Tu Str))))) iv3838 0)) (ea_cons (ev_var 1 rfl (Iv.fz (x := (seats_here3798 : (List (Tu Str)))) iv3838 1)) (ea_cons (ev_var 2 rfl (Iv.fz (x := (row3801 : (List Int))) iv3838 2)) ea_nil))) h_is_seating3839)))) (fun hb3840 s3841 e3842 => ?_) (fun hb3851 s3852 e3853 => ?_)
    · have hm3843 := iteE1 hm3837 hb3840
      have iv3844 := Iv.ex iv3838 e3842
      obtain ⟨hc3845, hm3843⟩ := chkE hm3843
      obtain ⟨hc3846, hm3843⟩ := chkE hm3843
      obtain rfl := Option.some.inj hm3843
      exact do_ret (EvB.v (eb_eqV hr (ev_var 5 rfl (Iv.fz (x := (told_here3816 : (Tu An))) iv3844 5)) (ev_tu (xs := ([(An.s ("seating" : Str)), (An.b true)] : List An)) (ee_cons (an_s ev_str) (ee_cons (an_b ev_bl) ee_nil)) (by simp [sizeLine])) hc3845 hc3846)) fun v3847 s3848 e3849 r3850 => hQ _ _ (Ex.trans (Iv.exx iv3844) e3849) r3850
    · have hm3854 := iteE2 hm3837 hb3851
      have iv3855 := Iv.ex iv3838 e3853
      obtain ⟨hc3870, hm3854⟩ := chkE hm3854
      refine do_setL 6 (en_comp1 (own := [("_law_place", 7)]) (j := 7) (t := fun (x3856 : Int) => (some (!(decide ((0 : Int) ≤ x3856) && decide (x3856 < ((players3795).length : Int)))))) (f := fun (x3856 : Int) => (some x3856)) rfl sc_l_asked.nd (ei_list (ev_var 3 rfl (Iv.fz (x := (ill_here3804 : (List Int))) iv3855 3))) (blkOk_by (own := [("_law_place", 7)]) (N := N_l_asked) (sc := defScope s_l_asked) (by decide +kernel)) rfl (by decide) (fun _ _ _ _ _ => pg_name (i := 7) sc_l_asked.nd rfl (by first | exact Or.inl rfl | exact Or.inr rfl)) (compO_pure (fun (x3856 : Int) => (!(decide ((0 : Int) ≤ x3856) && decide (x3856 < ((players3795).length : Int))))) (fun (x3856 : Int) => x3856) ill_here3804) hc3870 (fun x3856 y3857 v3868 s3858 hx3860 e3859 r3869 hf3861 _ _ _ _ _ => by have z3862 := Enc.mono e3859.f (Iv.fz (v := v3796) (x := (players3795 : (List (Str × (Tu Str))))) iv3855 0); obtain rfl := Option.some.inj hf3861; exact (EvB.t (eb_not (eb_ch_le_lt ev_int (ev_var 7 rfl r3869) (ev_len z_len (Ev.r (ev_var 0 rfl z3862))))))) (fun x3856 y3857 v3868 s3858 hx3860 e3859 r3869 ht3871 hf3861 _ _ _ _ _ => by obtain rfl := Option.some.inj hf3861; exact (ev_var 7 rfl r3869))) (fun p3878 s3874 e3875 n3879 o3880 => ?_) rfl rfl
      obtain ⟨s3881, hs3882, e3883, r3877⟩ := frz_ex e3875 n3879 o3880
      rw [← hs3882]
      obtain ⟨bad3872, q3873, hm3854⟩ := ltE hm3854
      have iv3884 := Iv.sf iv3855 6 e3883 r3877 q3873
      refine do_ifR (EvB.t (eb_neL hr (Ev.r (ev_var 6 rfl (Iv.fz (x := (bad3872 : (List Int))) iv3884 6))) (EvN.r (en_list (xs := ([] : List Int)) ee_nil (by simp [sizeLine]))) (shp_of _) (shp_of _))) (fun hb3885 s3886 e3887 => ?_) (fun hb3897 s3898 e3899 => ?_)
      · have hm3888 := iteE1 hm3854 hb3885
        have iv3889 := Iv.ex iv3884 e3887
        obtain ⟨at3890, h_at3890, hm3888⟩ := bndE hm3888
        obtain ⟨hc3891, hm3888⟩ := chkE hm3888
        obtain ⟨hc3892, hm3888⟩ := chkE hm3888
        obtain rfl := Option.some.inj hm3888
        exact do_ret (EvB.v (eb_eqV hr (ev_var 5 rfl (Iv.fz (x := (told_here3816 : (Tu An))) iv3889 5)) (ev_tu (xs := ([(An.s ("player" : Str)), (An.i at3890), (An.b true)] : List An)) (ee_cons (an_s ev_str) (ee_cons (an_i (ev_ix (Ev.r (ev_var 6 rfl (Iv.fz (x := (bad3872 : (List Int))) iv3889 6))) ev_int h_at3890)) (ee_cons (an_b ev_bl) ee_nil))) (by simp [sizeLine])) hc3891 hc3892)) fun v3893 s3894 e3895 r3896 => hQ _ _ (Ex.trans (Iv.exx iv3889) e3895) r3896
      · have hm3900 := iteE2 hm3854 hb3897
        have iv3901 := Iv.ex iv3884 e3899
        obtain ⟨hc3902, hm3900⟩ := chkE hm3900
        obtain ⟨hc3903, hm3900⟩ := chkE hm3900
        obtain rfl := Option.some.inj hm3900
        exact do_ret (EvB.v (eb_eqV hr (ev_var 5 rfl (Iv.fz (x := (told_here3816 : (Tu An))) iv3901 5)) (ev_tu (xs := ([(An.s ("told" : Str)), (An.i (0 : Int))] : List An)) (ee_cons (an_s ev_str) (ee_cons (an_i ev_int) ee_nil)) (by simp [sizeLine])) hc3902 hc3903)) fun v3904 s3905 e3906 r3907 => hQ _ _ (Ex.trans (Iv.exx iv3901) e3906) r3907
abbrev s_l_bent : Stmt := topS 41
abbrev N_l_bent : List Str := ["_law_cell", "_law_players", "_law_row", "_law_ds", "_law_at", "_law_place"]
theorem sc_l_bent : FnScope N_l_bent ["_law_cell", "_law_players", "_law_row"] (defScope s_l_bent) := ⟨rfl, rfl, rfl, by decide +kernel, rfl, by decide +kernel, by decide +kernel⟩
noncomputable def m_l_bent (cell3908 : Int) (players3911 : (List (Str × (Tu Str)))) (row3914 : (List Int)) : Option (List Int) :=
 (bnd (m_l_draws cell3908 ([(5 : Int), (8 : Int), (((players3911).length : Int) + (2 : Int)), (8 : Int)] : List Int)) fun draws3918 => (lt (draws3918 : (List Int)) fun ds3919 =>
 (bnd (atI ds3919 (1 : Int)) fun at3926 => (chk (0 < (((row3914).length : Int) + (1 : Int))) (lt ((at3926 % (((row3914).length : Int) + (1 : Int))) : Int) fun at3928 =>
 (bnd (atI ds3919 (2 : Int)) fun at3935 => (lt ((at3935 - (1 : Int)) : Int) fun place3936 =>
 (bnd (atI ds3919 (3 : Int)) fun at3944 => (bnd (if (decide (at3944 = (0 : Int))) = true then
 (bnd (atI ds3919 (1 : Int)) fun at3972 => (bnd (atI ([((10 : Int) ^ ((59 : Int)).toNat), ((0 : Int) - ((10 : Int) ^ ((59 : Int)).toNat))] : List Int) (at3972 % (2 : Int))) fun at3973 => (lt (at3973 : Int) fun place3974 =>
 (some place3974))))
 else
 (some place3936) : Option (Int)) fun b3964 =>
 (bnd (atI ds3919 (0 : Int)) fun at3996 => (if (decide (at3996 = (0 : Int))) = true then
 (chk (((cut row3914 none (some at3928))).length + (([b3964] : List Int)).length ≤ sizeLine) (chk ((((cut row3914 none (some at3928)) ++ ([b3964] : List Int))).length + ((cut row3914 (some (at3928 + (1 : Int))) none)).length ≤ sizeLine) (some (((cut row3914 none (some at3928)) ++ ([b3964] : List Int)) ++ (cut row3914 (some (at3928 + (1 : Int))) none)))))
 else
 (bnd (atI ds3919 (0 : Int)) fun at4014 => (if (decide (at4014 = (1 : Int))) = true then
 (chk (((cut row3914 none (some at3928))).length + (([b3964] : List Int)).length ≤ sizeLine) (chk ((((cut row3914 none (some at3928)) ++ ([b3964] : List Int))).length + ((cut row3914 (some at3928) none)).length ≤ sizeLine) (some (((cut row3914 none (some at3928)) ++ ([b3964] : List Int)) ++ (cut row3914 (some at3928) none)))))
 else
 (bnd (atI ds3919 (0 : Int)) fun at4032 => (if (decide (at4032 = (2 : Int))) = true then
 (chk (((cut row3914 none (some at3928))).length + ((cut row3914 (some (at3928 + (1 : Int))) none)).length ≤ sizeLine) (some ((cut row3914 none (some at3928)) ++ (cut row3914 (some (at3928 + (1 : Int))) none))))
 else
 (bnd (atI ds3919 (0 : Int)) fun at4049 => (if (decide (at4049 = (3 : Int))) = true then
 (chk (((cut row3914 none (some at3928))).length + ((cut row3914 (some at3928) (some (at3928 + (1 : Int))))).length ≤ sizeLine) (chk ((((cut row3914 none (some at3928)) ++ (cut row3914 (some at3928) (some (at3928 + (1 : Int)))))).length + ((cut row3914 (some at3928) none)).length ≤ sizeLine) (some (((cut row3914 none (some at3928)) ++ (cut row3914 (some at3928) (some (at3928 + (1 : Int))))) ++ (cut row3914 (some at3928) none)))))
 else
 (some row3914))))))))))))))))))
noncomputable abbrev a_l_bent : Int × (List (Str × (Tu Str))) × (List Int) × Unit → Option (List Int) := fun a => m_l_bent a.1 a.2.1 a.2.2.1
theorem ok_l_bent {P : Program} {w : World} {K : PySem.W.Frag} {mg : Str → Option Value} {base : Heap} {f : Addr} {fd : FuncData} (F : FunP K "_law_bent" s_l_bent f fd) (hmg : mg "_law_bent" = some (.ref f)) (C_l_draws : Cal P w K mg base CX0 1 "_law_draws" (spN K a_l_draws)) (z_len : mg "len" = none) : Cal P w K mg base CX0 2 "_law_bent" (sp K a_l_bent) := by
  refine mk_cal (k := 1) F hmg (F.bindsN fun _ _ _ _ _ _ us hl => match us, hl with | [_, _, _], _ => rfl) sc_l_bent len3 ?_
  rintro cdv A' outer sh0 H0 X0 hr s0 vs ⟨cell3908, players3911, row3914, _⟩ r0 Q ⟨v3909, _, rfl, r3910, v3912, _, rfl, r3913, v3915, _, rfl, r3916, rfl⟩ hm hQ
  unfold a_l_bent m_l_bent at hm
  dsimp only at hm
  have iv3917 : Iv K (fun _ => False) s0 s0 [fz v3909 (cell3908 : Int), fz v3912 (players3911 : (List (Str × (Tu Str)))), fz v3915 (row3914 : (List Int)), top, top, top] := (Iv.sf (Iv.sf (Iv.sf (Iv.tops (K := K) (P0 := (fun _ => False)) 6 s0) 0 (Ex.refl s0) r3910 rfl) 1 (Ex.refl s0) r3913 rfl) 2 (Ex.refl s0) r3916 rfl)
  obtain ⟨draws3918, h_draws3918, hm⟩ := bndE hm
  refine do_set 3 (EvN.ev (en_call C_l_draws hr (by decide) (ea_cons (ev_var 0 rfl (Iv.fz (x := (cell3908 : Int)) iv3917 0)) (ea_cons (EvN.ev (en_list (xs := ([(5 : Int), (8 : Int), (((players3911).length : Int) + (2 : Int)), (8 : Int)] : List Int)) (ee_cons ev_int (ee_cons ev_int (ee_cons (ev_add (ev_len z_len (Ev.r (ev_var 1 rfl (Iv.fz (x := (players3911 : (List (Str × (Tu Str))))) iv3917 1)))) ev_int) (ee_cons ev_int ee_nil)))) (by simp [sizeLine]))) ea_nil)) h_draws3918)) (fun v3923 s3921 e3922 r3924 => ?_) sc_l_bent.nd
  obtain ⟨ds3919, q3920, hm⟩ := ltE hm
  have iv3925 := Iv.sf iv3917 3 e3922 r3924 q3920
  obtain ⟨at3926, h_at3926, hm⟩ := bndE hm
  obtain ⟨hc3927, hm⟩ := chkE hm
  refine do_set 4 (ev_mod (ev_ix (Ev.r (ev_var 3 rfl (Iv.fz (x := (ds3919 : (List Int))) iv3925 3))) ev_int h_at3926) (ev_add (ev_len z_len (Ev.r (ev_var 2 rfl (Iv.fz (x := (row3914 : (List Int))) iv3925 2)))) ev_int) hc3927) (fun v3932 s3930 e3931 r3933 => ?_) sc_l_bent.nd
  obtain ⟨at3928, q3929, hm⟩ := ltE hm
  have iv3934 := Iv.sf iv3925 4 e3931 r3933 q3929
  obtain ⟨at3935, h_at3935, hm⟩ := bndE hm
  refine do_set 5 (ev_sub (ev_ix (Ev.r (ev_var 3 rfl (Iv.fz (x := (ds3919 : (List Int))) iv3934 3))) ev_int h_at3935) ev_int) (fun v3940 s3938 e3939 r3941 => ?_) sc_l_bent.nd
  obtain ⟨place3936, q3937, hm⟩ := ltE hm
  have iv3942 := Iv.sf iv3934 5 e3939 r3941 q3937
  obtain ⟨at3944, h_at3944, hm⟩ := bndE hm
  obtain ⟨b3964, hj3965, hm⟩ := bndE hm
  refine do_if (EvB.t (eb_eq (ev_ix (Ev.r (ev_var 3 rfl (Iv.fz (x := (ds3919 : (List Int))) iv3942 3))) ev_int h_at3944) ev_int)) (fun (σ' : L2.St) (t' : S) => Fle s3938.F t'.F ∧ ∃ (v_place : V), σ' = [some v3909, some v3912, some v3915, some v3923, some v3932, some v_place] ∧ Iv K (fun _ => False) s0 t' [fz v3909 (cell3908 : Int), fz v3912 (players3911 : (List (Str × (Tu Str)))), fz v3915 (row3914 : (List Int)), fz v3923 (ds3919 : (List Int)), fz v3932 (at3928 : Int), fz v_place (b3964 : Int)]) (fun hb3966 s3967 e3968 => ?_) (fun hb3982 s3983 e3984 => ?_) (fun σ3988 s3989 hM3990 => ?_)
  · have hm3969 := iteE1 hj3965 hb3966
    have iv3970 := Iv.ex iv3942 e3968
    have fl3971 := Fle.trans (Fle.refl s3938.F) e3968.f
    obtain ⟨at3972, h_at3972, hm3969⟩ := bndE hm3969
    obtain ⟨at3973, h_at3973, hm3969⟩ := bndE hm3969
    refine do_set 5 (ev_ix (EvN.r (en_list (xs := ([((10 : Int) ^ ((59 : Int)).toNat), ((0 : Int) - ((10 : Int) ^ ((59 : Int)).toNat))] : List Int)) (ee_cons (ev_pow ev_int ev_int ⟨by decide, by decide, by decide⟩) (ee_cons (ev_sub ev_int (ev_pow ev_int ev_int ⟨by decide, by decide, by decide⟩)) ee_nil)) (by simp [sizeLine]))) (ev_mod (ev_ix (Ev.r (ev_var 3 rfl (Iv.fz (x := (ds3919 : (List Int))) iv3970 3))) ev_int h_at3972) ev_int (by decide)) h_at3973) (fun v3978 s3976 e3977 r3979 => ?_) sc_l_bent.nd
    obtain ⟨place3974, q3975, hm3969⟩ := ltE hm3969
    have iv3980 := Iv.sf iv3970 5 e3977 r3979 q3975
    have fl3981 := Fle.trans fl3971 e3977.f
    obtain rfl := Option.some.inj hm3969
    exact do_nil ⟨s3976, rfl, fl3981, ⟨v3978, rfl, Iv.sel iv3980 [some 0, some 1, some 2, some 3, some 4, some 5] (by decide +kernel) (by kernel_rfl)⟩⟩
  · have hm3985 := iteE2 hj3965 hb3982
    have iv3986 := Iv.ex iv3942 e3984
    have fl3987 := Fle.trans (Fle.refl s3938.F) e3984.f
    obtain rfl := Option.some.inj hm3985
    exact do_nil ⟨s3983, rfl, fl3987, ⟨v3940, rfl, Iv.sel iv3986 [some 0, some 1, some 2, some 3, some 4, some 5] (by decide +kernel) (by kernel_rfl)⟩⟩
  · obtain ⟨hf3991, hR3992⟩ := hM3990
    obtain ⟨v3993, rfl, iv3994⟩ := hR3992
    obtain ⟨at3996, h_at3996, hm⟩ := bndE hm
    refine do_ifR (EvB.t (eb_eq (ev_ix (Ev.r (ev_var 3 rfl (Iv.fz (x := (ds3919 : (List Int))) iv3994 3))) ev_int h_at3996) ev_int)) (fun hb3997 s3998 e3999 => ?_) (fun hb4008 s4009 e4010 => ?_)
    · have hm4000 := iteE1 hm hb3997
      have iv4001 := Iv.ex iv3994 e3999
      obtain ⟨hc4002, hm4000⟩ := chkE hm4000
      obtain ⟨hc4003, hm4000⟩ := chkE hm4000
      obtain rfl := Option.some.inj hm4000
      exact do_ret (EvN.ev (en_cat (EvN.r (en_cat (EvN.r (en_slice (Ev.r (ev_var 2 rfl (Iv.fz (x := (row3914 : (List Int))) iv4001 2))) eo_none (eo_some (ev_var 4 rfl (Iv.fz (x := (at3928 : Int)) iv4001 4))))) (EvN.r (en_list (xs := ([b3964] : List Int)) (ee_cons (ev_var 5 rfl (Iv.fz (x := (b3964 : Int)) iv4001 5)) ee_nil) (by simp [sizeLine]))) hc4002)) (EvN.r (en_slice (Ev.r (ev_var 2 rfl (Iv.fz (x := (row3914 : (List Int))) iv4001 2))) (eo_some (ev_add (ev_var 4 rfl (Iv.fz (x := (at3928 : Int)) iv4001 4)) ev_int)) eo_none)) hc4003)) fun v4004 s4005 e4006 r4007 => hQ _ _ (Ex.trans (Iv.exx iv4001) e4006) r4007
    · have hm4011 := iteE2 hm hb4008
      have iv4012 := Iv.ex iv3994 e4010
      obtain ⟨at4014, h_at4014, hm4011⟩ := bndE hm4011
      refine do_ifR (EvB.t (eb_eq (ev_ix (Ev.r (ev_var 3 rfl (Iv.fz (x := (ds3919 : (List Int))) iv4012 3))) ev_int h_at4014) ev_int)) (fun hb4015 s4016 e4017 => ?_) (fun hb4026 s4027 e4028 => ?_)
      · have hm4018 := iteE1 hm4011 hb4015
        have iv4019 := Iv.ex iv4012 e4017
        obtain ⟨hc4020, hm4018⟩ := chkE hm4018
        obtain ⟨hc4021, hm4018⟩ := chkE hm4018
        obtain rfl := Option.some.inj hm4018
        exact do_ret (EvN.ev (en_cat (EvN.r (en_cat (EvN.r (en_slice (Ev.r (ev_var 2 rfl (Iv.fz (x := (row3914 : (List Int))) iv4019 2))) eo_none (eo_some (ev_var 4 rfl (Iv.fz (x := (at3928 : Int)) iv4019 4))))) (EvN.r (en_list (xs := ([b3964] : List Int)) (ee_cons (ev_var 5 rfl (Iv.fz (x := (b3964 : Int)) iv4019 5)) ee_nil) (by simp [sizeLine]))) hc4020)) (EvN.r (en_slice (Ev.r (ev_var 2 rfl (Iv.fz (x := (row3914 : (List Int))) iv4019 2))) (eo_some (ev_var 4 rfl (Iv.fz (x := (at3928 : Int)) iv4019 4))) eo_none)) hc4021)) fun v4022 s4023 e4024 r4025 => hQ _ _ (Ex.trans (Iv.exx iv4019) e4024) r4025
      · have hm4029 := iteE2 hm4011 hb4026
        have iv4030 := Iv.ex iv4012 e4028
        obtain ⟨at4032, h_at4032, hm4029⟩ := bndE hm4029
        refine do_ifR (EvB.t (eb_eq (ev_ix (Ev.r (ev_var 3 rfl (Iv.fz (x := (ds3919 : (List Int))) iv4030 3))) ev_int h_at4032) ev_int)) (fun hb4033 s4034 e4035 => ?_) (fun hb4043 s4044 e4045 => ?_)
        · have hm4036 := iteE1 hm4029 hb4033
          have iv4037 := Iv.ex iv4030 e4035
          obtain ⟨hc4038, hm4036⟩ := chkE hm4036
          obtain rfl := Option.some.inj hm4036
          exact do_ret (EvN.ev (en_cat (EvN.r (en_slice (Ev.r (ev_var 2 rfl (Iv.fz (x := (row3914 : (List Int))) iv4037 2))) eo_none (eo_some (ev_var 4 rfl (Iv.fz (x := (at3928 : Int)) iv4037 4))))) (EvN.r (en_slice (Ev.r (ev_var 2 rfl (Iv.fz (x := (row3914 : (List Int))) iv4037 2))) (eo_some (ev_add (ev_var 4 rfl (Iv.fz (x := (at3928 : Int)) iv4037 4)) ev_int)) eo_none)) hc4038)) fun v4039 s4040 e4041 r4042 => hQ _ _ (Ex.trans (Iv.exx iv4037) e4041) r4042
        · have hm4046 := iteE2 hm4029 hb4043
          have iv4047 := Iv.ex iv4030 e4045
          obtain ⟨at4049, h_at4049, hm4046⟩ := bndE hm4046
          refine do_ifR (EvB.t (eb_eq (ev_ix (Ev.r (ev_var 3 rfl (Iv.fz (x := (ds3919 : (List Int))) iv4047 3))) ev_int h_at4049) ev_int)) (fun hb4050 s4051 e4052 => ?_) (fun hb4061 s4062 e4063 => ?_)
          · have hm4053 := iteE1 hm4046 hb4050
            have iv4054 := Iv.ex iv4047 e4052
            obtain ⟨hc4055, hm4053⟩ := chkE hm4053
            obtain ⟨hc4056, hm4053⟩ := chkE hm4053
            obtain rfl := Option.some.inj hm4053
            exact do_ret (EvN.ev (en_cat (EvN.r (en_cat (EvN.r (en_slice (Ev.r (ev_var 2 rfl (Iv.fz (x := (row3914 : (List Int))) iv4054 2))) eo_none (eo_some (ev_var 4 rfl (Iv.fz (x := (at3928 : Int)) iv4054 4))))) (EvN.r (en_slice (Ev.r (ev_var 2 rfl (Iv.fz (x := (row3914 : (List Int))) iv4054 2))) (eo_some (ev_var 4 rfl (Iv.fz (x := (at3928 : Int)) iv4054 4))) (eo_some (ev_add (ev_var 4 rfl (Iv.fz (x := (at3928 : Int)) iv4054 4)) ev_int)))) hc4055)) (EvN.r (en_slice (Ev.r (ev_var 2 rfl (Iv.fz (x := (row3914 : (List Int))) iv4054 2))) (eo_some (ev_var 4 rfl (Iv.fz (x := (at3928 : Int)) iv4054 4))) eo_none)) hc4056)) fun v4057 s4058 e4059 r4060 => hQ _ _ (Ex.trans (Iv.exx iv4054) e4059) r4060
          · have hm4064 := iteE2 hm4046 hb4061
            have iv4065 := Iv.ex iv4047 e4063
            obtain rfl := Option.some.inj hm4064
            exact do_ret (ev_var 2 rfl (Iv.fz (x := (row3914 : (List Int))) iv4065 2)) fun v4066 s4067 e4068 r4069 => hQ _ _ (Ex.trans (Iv.exx iv4065) e4068) r4069
abbrev s_law : Stmt := topS 45
abbrev N_law : List Str := ["_law_script", "_law_k", "_law_players", "_law_seats_here", "_law_row", "_law_cell", "_law_other", "_law_ill_here"]
theorem sc_law : FnScope N_law ["_law_script"] (defScope s_law) := ⟨rfl, rfl, rfl, by decide +kernel, rfl, by decide +kernel, by decide +kernel⟩
noncomputable def m_law (script4070 : (List Int)) : Option Bool :=
 (bnd (m_l_band script4070 (6 : Int) (3 : Int)) fun band4074 => (lt (band4074 : (T3 (List (Str × (Tu Str))) (List (Tu Str)) (List Int))) fun u4083 =>
 (chk (RgB ((1 : Int) + ((((cut script4070 (some (3 : Int)) (some (35 : Int)))).length : Int) / (2 : Int)))) (bnd (foldF (ρ := Bool) (fun (b4091 : Unit) (x4093 : Int) =>
 (bnd (m_l_cell_at script4070 ((3 : Int) + ((2 : Int) * x4093))) fun cell_at4119 => (lt (cell_at4119 : Int) fun cell4120 =>
 (bnd (m_l_cell_at script4070 ((4 : Int) + ((2 : Int) * x4093))) fun cell_at4128 => (lt (cell_at4128 : Int) fun other4129 =>
 (bnd (m_l_ill (other4129 / (7 : Int)) ((u4083.a).length : Int)) fun ill4137 => (bnd (m_l_strange other4129 u4083.a ill4137) fun strange4138 => (lt (strange4138 : (List Int)) fun ill_here4139 =>
 (bnd (m_l_bent cell4120 u4083.a u4083.c) fun bent4148 => (bnd (m_l_asked u4083.a u4083.b bent4148 ill_here4139) fun asked4149 => (if (!asked4149) = true then
 (some (Fl.rt false))
 else
 (bnd (m_l_asked u4083.a u4083.b u4083.c ill_here4139) fun asked4166 => (if (!asked4166) = true then
 (some (Fl.rt false))
 else
 (some (Fl.nx ()))))))))))))))) () (rng 0 ((1 : Int) + ((((cut script4070 (some (3 : Int)) (some (35 : Int)))).length : Int) / (2 : Int))))) fun o4089 =>
 (Fl.go o4089 (fun b4192 => (some true)) (fun rr => (some rr)))))))
noncomputable abbrev a_law : (List Int) × Unit → Option Bool := fun a => m_law a.1
theorem ok_law_fn {P : Program} {w : World} {K : PySem.W.Frag} {mg : Str → Option Value} {base : Heap} {f : Addr} {fd : FuncData} (F : FunP K "law" s_law f fd) (hmg : mg "law" = some (.ref f)) (C_l_band : Cal P w K mg base CX0 3 "_law_band" (sp K a_l_band)) (C_l_cell_at : Cal P w K mg base CX0 1 "_law_cell_at" (sp K a_l_cell_at)) (C_l_strange : Cal P w K mg base CX0 2 "_law_strange" (sp K a_l_strange)) (C_l_ill : Cal P w K mg base CX0 2 "_law_ill" (sp K a_l_ill)) (C_l_bent : Cal P w K mg base CX0 2 "_law_bent" (sp K a_l_bent)) (C_l_asked : Cal P w K mg base CX0 7 "_law_asked" (sp K a_l_asked)) (z_range : mg "range" = none) (z_len : mg "len" = none) (z_list : mg "list" = none) : FnOk P w K mg base CX0 8 f fd ["_law_script"] (sp K a_law) := by
  refine mk_fn (k := 7) F sc_law len1 ?_
  rintro cdv A' outer sh0 H0 X0 hr s0 vs ⟨script4070, _⟩ r0 Q ⟨v4071, _, rfl, r4072, rfl⟩ hm hQ
  unfold a_law m_law at hm
  dsimp only at hm
  have iv4073 : Iv K (fun _ => False) s0 s0 [fz v4071 (script4070 : (List Int)), top, top, top, top, top, top, top] := (Iv.sf (Iv.tops (K := K) (P0 := (fun _ => False)) 8 s0) 0 (Ex.refl s0) r4072 rfl)
  obtain ⟨band4074, h_band4074, hm⟩ := bndE hm
  refine do_unp3 2 3 4 (ev_call C_l_band hr (by decide) (ea_cons (ev_var 0 rfl (Iv.fz (x := (script4070 : (List Int))) iv4073 0)) (ea_cons ev_int (ea_cons ev_int ea_nil))) h_band4074) (fun v4075 v4076 v4077 s4081 e4082 r4078 r4079 r4080 => ?_) (pg_tup rfl (pgs_cons (pg_name (i := 2) sc_law.nd rfl (by first | exact Or.inl rfl | exact Or.inr rfl)) (pgs_cons (pg_name (i := 3) sc_law.nd rfl (by first | exact Or.inl rfl | exact Or.inr rfl)) (pgs_cons (pg_name (i := 4) sc_law.nd rfl (by first | exact Or.inl rfl | exact Or.inr rfl)) pgs_nil))))
  obtain ⟨u4083, q4084, hm⟩ := ltE hm
  rw [← q4084] at r4078
  have iv4085 := Iv.sf iv4073 2 e4082 r4078 rfl
  rw [← q4084] at r4079
  have iv4086 := Iv.sf iv4085 3 (Ex.refl s4081) r4079 rfl
  rw [← q4084] at r4080
  have iv4087 := Iv.sf iv4086 4 (Ex.refl s4081) r4080 rfl
  obtain ⟨hc4088, hm⟩ := chkE hm
  obtain ⟨o4089, ho4090, hm⟩ := bndE hm
  refine do_forF (ρ := Bool) (υ := Unit) PassesOwn.never rfl (ei_range1 z_range (ev_add ev_int (ev_div (ev_len z_len (EvN.r (en_slice (Ev.r (ev_var 0 rfl (Iv.fz (x := (script4070 : (List Int))) iv4087 0))) (eo_some ev_int) (eo_some ev_int)))) ev_int ⟨by decide, by decide +kernel⟩)) hc4088) (pg_name (i := 1) sc_law.nd rfl (by first | exact Or.inl rfl | exact Or.inr rfl)) tg_n ho4090 (fun (b4091 : Unit) (σ' : L2.St) (t' : S) => ∃ (y_cell : Option V) (y_other : Option V) (y_ill_here : Option V) (y_k : Option V), σ' = [some v4071, y_k, some v4075, some v4076, some v4077, y_cell, y_other, y_ill_here] ∧ Iv K (fun _ => False) s0 t' [fz v4071 (script4070 : (List Int)), top, fz v4075 (u4083.a : (List (Str × (Tu Str)))), fz v4076 (u4083.b : (List (Tu Str))), fz v4077 (u4083.c : (List Int)), top, top, top]) (fun s4189 k4190 => by have iv4191 := Iv.ex iv4087 k4190; exact ⟨_, _, _, _, rfl, Iv.sel iv4191 [some 0, none, some 2, some 3, some 4, none, none, none] (by decide +kernel) (by kernel_rfl)⟩) (fun s4094 k4095 x4093 b4091 q4117 σ4104 σ4105 t4102 t4103 hx4096 hm4097 hq4118 fl4098 hR4099 k4100 hB4101 => ?_) (fun s4183 k4184 b4192 σ4185 t4186 ho4193 fl4187 hR4188 => ?_)
  · have hf4106 := Fle.trans k4095.f fl4098
    obtain ⟨y4107, y4108, y4109, y4110, rfl, iv4111⟩ := hR4099
    obtain ⟨v4112, r4113, rfl⟩ := hB4101
    have iv4114 := Iv.ex iv4111 k4100
    have iv4115 := Iv.sf iv4114 1 (Ex.refl t4103) r4113 rfl
    have fl4116 := Fle.trans (Fle.refl t4103.F) (Ex.refl t4103).f
    obtain ⟨cell_at4119, h_cell_at4119, hm4097⟩ := bndE hm4097
    refine do_set 5 (ev_call C_l_cell_at hr (by decide) (ea_cons (ev_var 0 rfl (Iv.fz (x := (script4070 : (List Int))) iv4115 0)) (ea_cons (ev_add ev_int (ev_mul ev_int (ev_var 1 rfl (Iv.fz (x := (x4093 : Int)) iv4115 1)) (Or.inl (Or.inl ⟨by omega, by omega⟩)))) ea_nil)) h_cell_at4119) (fun v4124 s4122 e4123 r4125 => ?_) sc_law.nd
    obtain ⟨cell4120, q4121, hm4097⟩ := ltE hm4097
    have iv4126 := Iv.sf iv4115 5 e4123 r4125 q4121
    have fl4127 := Fle.trans (Fle.refl t4103.F) e4123.f
    obtain ⟨cell_at4128, h_cell_at4128, hm4097⟩ := bndE hm4097
    refine do_set 6 (ev_call C_l_cell_at hr (by decide) (ea_cons (ev_var 0 rfl (Iv.fz (x := (script4070 : (List Int))) iv4126 0)) (ea_cons (ev_add ev_int (ev_mul ev_int (ev_var 1 rfl (Iv.fz (x := (x4093 : Int)) iv4126 1)) (Or.inl (Or.inl ⟨by omega, by omega⟩)))) ea_nil)) h_cell_at4128) (fun v4133 s4131 e4132 r4134 => ?_) sc_law.nd
    obtain ⟨other4129, q4130, hm4097⟩ := ltE hm4097
    have iv4135 := Iv.sf iv4126 6 e4132 r4134 q4130
    have fl4136 := Fle.trans fl4127 e4132.f
    obtain ⟨ill4137, h_ill4137, hm4097⟩ := bndE hm4097
    obtain ⟨strange4138, h_strange4138, hm4097⟩ := bndE hm4097
    refine do_set 7 (ev_call C_l_strange hr (by decide) (ea_cons (ev_var 6 rfl (Iv.fz (x := (other4129 : Int)) iv4135 6)) (ea_cons (ev_var 2 rfl (Iv.fz (x := (u4083.a : (List (Str × (Tu Str))))) iv4135 2)) (ea_cons (ev_call C_l_ill hr (by decide) (ea_cons (ev_div (ev_var 6 rfl (Iv.fz (x := (other4129 : Int)) iv4135 6)) ev_int ⟨by decide, by decide +kernel⟩) (ea_cons (ev_len z_len (Ev.r (ev_var 2 rfl (Iv.fz (x := (u4083.a : (List (Str × (Tu Str))))) iv4135 2)))) ea_nil)) h_ill4137) ea_nil))) h_strange4138) (fun v4143 s4141 e4142 r4144 => ?_) sc_law.nd
    obtain ⟨ill_here4139, q4140, hm4097⟩ := ltE hm4097
    have iv4145 := Iv.sf iv4135 7 e4142 r4144 q4140
    have fl4146 := Fle.trans fl4136 e4142.f
    obtain ⟨bent4148, h_bent4148, hm4097⟩ := bndE hm4097
    obtain ⟨asked4149, h_asked4149, hm4097⟩ := bndE hm4097
    refine do_ifR (EvB.t (eb_not (eb_v (ev_call C_l_asked hr (by decide) (ea_cons (ev_var 2 rfl (Iv.fz (x := (u4083.a : (List (Str × (Tu Str))))) iv4145 2)) (ea_cons (ev_var 3 rfl (Iv.fz (x := (u4083.b : (List (Tu Str)))) iv4145 3)) (ea_cons (ev_call C_l_bent hr (by decide) (ea_cons (ev_var 5 rfl (Iv.fz (x := (cell4120 : Int)) iv4145 5)) (ea_cons (ev_var 2 rfl (Iv.fz (x := (u4083.a : (List (Str × (Tu Str))))) iv4145 2)) (ea_cons (ev_var 4 rfl (Iv.fz (x := (u4083.c : (List Int))) iv4145 4)) ea_nil))) h_bent4148) (ea_cons (ev_var 7 rfl (Iv.fz (x := (ill_here4139 : (List Int))) iv4145 7)) ea_nil)))) h_asked4149)))) (fun hb4150 s4151 e4152 => ?_) (fun hb4160 s4161 e4162 => ?_)
    · have hm4153 := iteE1 hm4097 hb4150
      have iv4154 := Iv.ex iv4145 e4152
      have fl4155 := Fle.trans fl4146 e4152.f
      obtain rfl := Option.some.inj hm4153
      obtain rfl := hq4118 _ rfl
      obtain rfl := Option.some.inj hm
      exact do_ret ev_bl fun v4156 s4157 e4158 r4159 => hQ _ _ (Ex.trans (Iv.exx iv4154) e4158) r4159
    · have hm4163 := iteE2 hm4097 hb4160
      have iv4164 := Iv.ex iv4145 e4162
      have fl4165 := Fle.trans fl4146 e4162.f
      obtain ⟨asked4166, h_asked4166, hm4163⟩ := bndE hm4163
      refine do_ifR (EvB.t (eb_not (eb_v (ev_call C_l_asked hr (by decide) (ea_cons (ev_var 2 rfl (Iv.fz (x := (u4083.a : (List (Str × (Tu Str))))) iv4164 2)) (ea_cons (ev_var 3 rfl (Iv.fz (x := (u4083.b : (List (Tu Str)))) iv4164 3)) (ea_cons (EvN.ev (en_copy z_list (Ev.r (ev_var 4 rfl (Iv.fz (x := (u4083.c : (List Int))) iv4164 4))))) (ea_cons (ev_var 7 rfl (Iv.fz (x := (ill_here4139 : (List Int))) iv4164 7)) ea_nil)))) h_asked4166)))) (fun hb4167 s4168 e4169 => ?_) (fun hb4177 s4178 e4179 => ?_)
      · have hm4170 := iteE1 hm4163 hb4167
        have iv4171 := Iv.ex iv4164 e4169
        have fl4172 := Fle.trans fl4165 e4169.f
        obtain rfl := Option.some.inj hm4170
        obtain rfl := hq4118 _ rfl
        obtain rfl := Option.some.inj hm
        exact do_ret ev_bl fun v4173 s4174 e4175 r4176 => hQ _ _ (Ex.trans (Iv.exx iv4171) e4175) r4176
      · have hm4180 := iteE2 hm4163 hb4177
        have iv4181 := Iv.ex iv4164 e4179
        have fl4182 := Fle.trans fl4165 e4179.f
        obtain rfl := Option.some.inj hm4180
        exact do_nil ⟨s4178, rfl, _, rfl, fl4182, ⟨_, _, _, _, rfl, Iv.sel iv4181 [some 0, none, some 2, some 3, some 4, none, none, none] (by decide +kernel) (by kernel_rfl)⟩⟩
  · subst ho4193
    replace hm := goN hm
    have hf4194 := Fle.trans k4184.f fl4187
    obtain ⟨y4195, y4196, y4197, y4198, rfl, iv4199⟩ := hR4188
    obtain rfl := Option.some.inj hm
    exact do_ret ev_bl fun v4200 s4201 e4202 r4203 => hQ _ _ (Ex.trans (Iv.exx iv4199) e4202) r4203
def d_l_draws : He.DefD := ⟨("_law_draws", none), "_law_draws", "_law_draws", defArgs s_l_draws, defBody s_l_draws, defScope s_l_draws, [], []⟩
def d_l_tools : He.DefD := ⟨("_law_tools", none), "_law_tools", "_law_tools", defArgs s_l_tools, defBody s_l_tools, defScope s_l_tools, [], []⟩
def d_l_seat : He.DefD := ⟨("_law_seat", none), "_law_seat", "_law_seat", defArgs s_l_seat, defBody s_l_seat, defScope s_l_seat, [], []⟩
def d_l_seats : He.DefD := ⟨("_law_seats", none), "_law_seats", "_law_seats", defArgs s_l_seats, defBody s_l_seats, defScope s_l_seats, [], []⟩
def d_l_cell_at : He.DefD := ⟨("_law_cell_at", none), "_law_cell_at", "_law_cell_at", defArgs s_l_cell_at, defBody s_l_cell_at, defScope s_l_cell_at, [], []⟩
def d_l_wider : He.DefD := ⟨("_law_wider", none), "_law_wider", "_law_wider", defArgs s_l_wider, defBody s_l_wider, defScope s_l_wider, [], []⟩
def d_l_title : He.DefD := ⟨("_law_title", none), "_law_title", "_law_title", defArgs s_l_title, defBody s_l_title, defScope s_l_title, [], []⟩
def d_l_player : He.DefD := ⟨("_law_player", none), "_law_player", "_law_player", defArgs s_l_player, defBody s_l_player, defScope s_l_player, [], []⟩
def d_l_mask : He.DefD := ⟨("_law_mask", none), "_law_mask", "_law_mask", defArgs s_l_mask, defBody s_l_mask, defScope s_l_mask, [], []⟩
def d_l_band : He.DefD := ⟨("_law_band", none), "_law_band", "_law_band", defArgs s_l_band, defBody s_l_band, defScope s_l_band, [], []⟩
def d_l_strange : He.DefD := ⟨("_law_strange", none), "_law_strange", "_law_strange", defArgs s_l_strange, defBody s_l_strange, defScope s_l_strange, [], []⟩
def d_l_ill : He.DefD := ⟨("_law_ill", none), "_law_ill", "_law_ill", defArgs s_l_ill, defBody s_l_ill, defScope s_l_ill, [], []⟩
def d_can_sit : He.DefD := ⟨("can_sit", none), "can_sit", "can_sit", defArgs s_can_sit, defBody s_can_sit, defScope s_can_sit, [], []⟩
def d_road_from : He.DefD := ⟨("road_from", none), "road_from", "road_from", defArgs s_road_from, defBody s_road_from, defScope s_road_from, [], []⟩
def d_shift_along : He.DefD := ⟨("shift_along", none), "shift_along", "shift_along", defArgs s_shift_along, defBody s_shift_along, defScope s_shift_along, [], []⟩
def d_seat_all : He.DefD := ⟨("seat_all", none), "seat_all", "seat_all", defArgs s_seat_all, defBody s_seat_all, defScope s_seat_all, [], []⟩
def d_short_by : He.DefD := ⟨("short_by", none), "short_by", "short_by", defArgs s_short_by, defBody s_short_by, defScope s_short_by, [], []⟩
def d_Costs_cost_at : He.DefD := ⟨("Costs", some "cost_at"), "cost_at", "Costs.cost_at", defArgs s_Costs_cost_at, defBody s_Costs_cost_at, defScope s_Costs_cost_at, [], []⟩
def d_Costs_rise : He.DefD := ⟨("Costs", some "rise"), "rise", "Costs.rise", defArgs s_Costs_rise, defBody s_Costs_rise, defScope s_Costs_rise, [], []⟩
def d_Costs_init : He.DefD := ⟨("Costs", some "__init__"), "__init__", "Costs.__init__", defArgs s_Costs_init, defBody s_Costs_init, defScope s_Costs_init, [], []⟩
def d_Prices_init : He.DefD := ⟨("Prices", some "__init__"), "__init__", "Prices.__init__", defArgs s_Prices_init, defBody s_Prices_init, defScope s_Prices_init, [], []⟩
def d_is_seating : He.DefD := ⟨("is_seating", none), "is_seating", "is_seating", defArgs s_is_seating, defBody s_is_seating, defScope s_is_seating, [], []⟩
def d_Prices_slacks : He.DefD := ⟨("Prices", some "slacks"), "slacks", "Prices.slacks", defArgs s_Prices_slacks, defBody s_Prices_slacks, defScope s_Prices_slacks, [], []⟩
def d_Prices_nearest : He.DefD := ⟨("Prices", some "nearest"), "nearest", "Prices.nearest", defArgs s_Prices_nearest, defBody s_Prices_nearest, defScope s_Prices_nearest, [], []⟩
def d_Prices_raised : He.DefD := ⟨("Prices", some "raised"), "raised", "Prices.raised", defArgs s_Prices_raised, defBody s_Prices_raised, defScope s_Prices_raised, [], []⟩
def d_Prices_shift : He.DefD := ⟨("Prices", some "shift"), "shift", "Prices.shift", defArgs s_Prices_shift, defBody s_Prices_shift, defScope s_Prices_shift, [], []⟩
def d_Prices_fill : He.DefD := ⟨("Prices", some "fill"), "fill", "Prices.fill", defArgs s_Prices_fill, defBody s_Prices_fill, defScope s_Prices_fill, [], []⟩
def d_fewest_moved : He.DefD := ⟨("fewest_moved", none), "fewest_moved", "fewest_moved", defArgs s_fewest_moved, defBody s_fewest_moved, defScope s_fewest_moved, [], []⟩
def d_l_told : He.DefD := ⟨("_law_told", none), "_law_told", "_law_told", defArgs s_l_told, defBody s_l_told, defScope s_l_told, [], []⟩
def d_l_can : He.DefD := ⟨("_law_can", none), "_law_can", "_law_can", defArgs s_l_can, defBody s_l_can, defScope s_l_can, [], []⟩
def d_l_is_seating : He.DefD := ⟨("_law_is_seating", none), "_law_is_seating", "_law_is_seating", defArgs s_l_is_seating, defBody s_l_is_seating, defScope s_l_is_seating, [], []⟩
def d_l_asked : He.DefD := ⟨("_law_asked", none), "_law_asked", "_law_asked", defArgs s_l_asked, defBody s_l_asked, defScope s_l_asked, [], []⟩
def d_l_bent : He.DefD := ⟨("_law_bent", none), "_law_bent", "_law_bent", defArgs s_l_bent, defBody s_l_bent, defScope s_l_bent, [], []⟩
def d_law : He.DefD := ⟨("law", none), "law", "law", defArgs s_law, defBody s_law, defScope s_law, [], []⟩
abbrev s_NoPlayer_init : Stmt := clsS 11 0
def d_NoPlayer_init : He.DefD := ⟨("NoPlayer", some "__init__"), "__init__", "NoPlayer.__init__", defArgs s_NoPlayer_init, defBody s_NoPlayer_init, defScope s_NoPlayer_init, [], []⟩
theorem sc_NoPlayer_init : FnScope ["self", "place"] ["self", "place"] (defScope s_NoPlayer_init) := ⟨rfl, rfl, rfl, by decide +kernel, rfl, by decide +kernel, by decide +kernel⟩
def fn : List He.DefD := [d_l_draws, d_l_tools, d_l_seat, d_l_seats, d_l_cell_at, d_l_wider, d_l_title, d_l_player, d_l_mask, d_l_band, d_l_strange, d_l_ill, d_can_sit, d_road_from, d_shift_along, d_seat_all, d_short_by, d_Costs_cost_at, d_Costs_rise, d_Costs_init, d_Prices_init, d_is_seating, d_Prices_slacks, d_Prices_nearest, d_Prices_raised, d_Prices_shift, d_Prices_fill, d_fewest_moved, d_l_told, d_l_can, d_l_is_seating, d_l_asked, d_l_bent, d_law, d_NoPlayer_init]
def gs (K : PySem.W.Frag) : Bool := tab.ok K && payB K "NoPlayer" "place" && clsB K "Costs" ["sat", "hale", "costs"] ["__init__", "rise", "cost_at"] && clsB K "Prices" ["costs", "of_seat", "of_player", "seat_by", "row"] ["__init__", "slacks", "raised", "fill", "nearest", "shift"]
def fa : List He.Fa := [.glo "_law_draws", .glo "_law_tools", .glo "_law_seat", .glo "_law_seats", .glo "_law_cell_at", .glo "_law_wider", .glo "_law_title", .glo "_law_player", .glo "_law_mask", .glo "_law_band", .glo "_law_strange", .glo "_law_ill", .glo "can_sit", .glo "road_from", .glo "shift_along", .glo "seat_all", .glo "short_by", .glo "is_seating", .glo "fewest_moved", .glo "_law_told", .glo "_law_can", .glo "_law_is_seating", .glo "_law_asked", .glo "_law_bent", .glo "law", .free "range", .free "len", .free "tuple", .free "list", .free "int", .free "sorted", .free "set", .free "sum", .free "isinstance", .free "ValueError", .glo "NoSeating", .glo "NoPlayer", .glo "PairsError", .glo "NoBars", .glo "NoBreak", .glo "NoCall", .glo "NoInstrument", .glo "NoLine", .glo "NoName", .glo "NoOrder", .glo "NoPlace", .glo "NoText", .glo "NoTimes", .glo "Twice", .exc "NoSeating", .glo "Costs", .glo "Prices"]
abbrev R : PySem.W.OpenRow := PySem.W.OpenLaw.row PySem.Challenge.rw_deskpairs_k33_moves_refused
abbrev hk : PySem.W.Hook := Dy.hookX 4 fa fn gs
def ob (s : PySem.W.SharedT) : Bool × He.AlD := Dy.obsX 4 fa fn gs (HandSHeadRun.getT s)
theorem ob_eq (s : PySem.W.SharedT) : ob s = hk.obs s.abs := Dy.obsX_eq (HandSHeadRun.getT_eq s)
def loose0 : List Str := ["PairsError", "NoBars", "NoTimes", "NoSeating", "NoOrder", "NoText", "NoCall", "NoBreak", "NoInstrument", "NoLine", "NoPlayer", "NoPlace", "Twice", "NoName", "can_sit", "is_seating", "road_from", "shift_along", "seat_all", "Costs", "Prices", "short_by", "fewest_moved", "_law_cell_at", "_law_draws", "_law_tools", "_law_title", "_law_seat", "_law_seats", "_law_player"]
def loose1 : List Str := ["_law_mask", "_law_wider", "_law_band", "_law_ill", "_law_can", "_law_is_seating", "_law_bent", "_law_strange", "_law_told", "_law_asked"]
def loose : List Str := loose0 ++ loose1
theorem run (w : World) : HandSHeadRun.RunEq R (PySem.W.view R.prog [45]) hk ob 8640 loose w := by
  intro os
  kernel_rfl
theorem facts {P : Program} {w : World} {K : PySem.W.Frag} {h : Heap} {mg : Str → Option Value} {f : Addr} (X : K.In h) (G : h.Ns mainGlobals mg) (hfa : mg ("law" : Str) = some (.ref f)) (c : He.SaysD fa fn K) (GS : gs K = true) :
    ∃ fd : FuncData, (∀ (s : Shared) (v : Value), BindsTo s fd ⟨[v], []⟩ [("_law_script", v)]) ∧ ∀ base : Heap, K.In base → base.Ns mainGlobals mg → FnOk P w K mg base CX0 8 f fd ["_law_script"] (sp K a_law) := by
  obtain ⟨fd_l_draws, F_l_draws⟩ := c.def_ 0 (d := d_l_draws) rfl
  obtain ⟨fd_l_tools, F_l_tools⟩ := c.def_ 1 (d := d_l_tools) rfl
  obtain ⟨fd_l_seat, F_l_seat⟩ := c.def_ 2 (d := d_l_seat) rfl
  obtain ⟨fd_l_seats, F_l_seats⟩ := c.def_ 3 (d := d_l_seats) rfl
  obtain ⟨fd_l_cell_at, F_l_cell_at⟩ := c.def_ 4 (d := d_l_cell_at) rfl
  obtain ⟨fd_l_wider, F_l_wider⟩ := c.def_ 5 (d := d_l_wider) rfl
  obtain ⟨fd_l_title, F_l_title⟩ := c.def_ 6 (d := d_l_title) rfl
  obtain ⟨fd_l_player, F_l_player⟩ := c.def_ 7 (d := d_l_player) rfl
  obtain ⟨fd_l_mask, F_l_mask⟩ := c.def_ 8 (d := d_l_mask) rfl
  obtain ⟨fd_l_band, F_l_band⟩ := c.def_ 9 (d := d_l_band) rfl
  obtain ⟨fd_l_strange, F_l_strange⟩ := c.def_ 10 (d := d_l_strange) rfl
  obtain ⟨fd_l_ill, F_l_ill⟩ := c.def_ 11 (d := d_l_ill) rfl
  obtain ⟨fd_can_sit, F_can_sit⟩ := c.def_ 12 (d := d_can_sit) rfl
  obtain ⟨fd_road_from, F_road_from⟩ := c.def_ 13 (d := d_road_from) rfl
  obtain ⟨fd_shift_along, F_shift_along⟩ := c.def_ 14 (d := d_shift_along) rfl
  obtain ⟨fd_seat_all, F_seat_all⟩ := c.def_ 15 (d := d_seat_all) rfl
  obtain ⟨fd_short_by, F_short_by⟩ := c.def_ 16 (d := d_short_by) rfl
  obtain ⟨fd_Costs_cost_at, F_Costs_cost_at⟩ := c.def_ 17 (d := d_Costs_cost_at) rfl
  obtain ⟨fd_Costs_rise, F_Costs_rise⟩ := c.def_ 18 (d := d_Costs_rise) rfl
  obtain ⟨fd_Costs_init, F_Costs_init⟩ := c.def_ 19 (d := d_Costs_init) rfl
  obtain ⟨fd_Prices_init, F_Prices_init⟩ := c.def_ 20 (d := d_Prices_init) rfl
  obtain ⟨fd_is_seating, F_is_seating⟩ := c.def_ 21 (d := d_is_seating) rfl
  obtain ⟨fd_Prices_slacks, F_Prices_slacks⟩ := c.def_ 22 (d := d_Prices_slacks) rfl
  obtain ⟨fd_Prices_nearest, F_Prices_nearest⟩ := c.def_ 23 (d := d_Prices_nearest) rfl
  obtain ⟨fd_Prices_raised, F_Prices_raised⟩ := c.def_ 24 (d := d_Prices_raised) rfl
  obtain ⟨fd_Prices_shift, F_Prices_shift⟩ := c.def_ 25 (d := d_Prices_shift) rfl
  obtain ⟨fd_Prices_fill, F_Prices_fill⟩ := c.def_ 26 (d := d_Prices_fill) rfl
  obtain ⟨fd_fewest_moved, F_fewest_moved⟩ := c.def_ 27 (d := d_fewest_moved) rfl
  obtain ⟨fd_l_told, F_l_told⟩ := c.def_ 28 (d := d_l_told) rfl
  obtain ⟨fd_l_can, F_l_can⟩ := c.def_ 29 (d := d_l_can) rfl
  obtain ⟨fd_l_is_seating, F_l_is_seating⟩ := c.def_ 30 (d := d_l_is_seating) rfl
  obtain ⟨fd_l_asked, F_l_asked⟩ := c.def_ 31 (d := d_l_asked) rfl
  obtain ⟨fd_l_bent, F_l_bent⟩ := c.def_ 32 (d := d_l_bent) rfl
  obtain ⟨fd_law, F_law⟩ := c.def_ 33 (d := d_law) rfl
  have g_l_draws : mg "_law_draws" = some (.ref (He.fAd K ("_law_draws", none))) := He.glo_ok X G (c.fact 0 (f := .glo "_law_draws") rfl)
  have g_l_tools : mg "_law_tools" = some (.ref (He.fAd K ("_law_tools", none))) := He.glo_ok X G (c.fact 1 (f := .glo "_law_tools") rfl)
  have g_l_seat : mg "_law_seat" = some (.ref (He.fAd K ("_law_seat", none))) := He.glo_ok X G (c.fact 2 (f := .glo "_law_seat") rfl)
  have g_l_seats : mg "_law_seats" = some (.ref (He.fAd K ("_law_seats", none))) := He.glo_ok X G (c.fact 3 (f := .glo "_law_seats") rfl)
  have g_l_cell_at : mg "_law_cell_at" = some (.ref (He.fAd K ("_law_cell_at", none))) := He.glo_ok X G (c.fact 4 (f := .glo "_law_cell_at") rfl)
  have g_l_wider : mg "_law_wider" = some (.ref (He.fAd K ("_law_wider", none))) := He.glo_ok X G (c.fact 5 (f := .glo "_law_wider") rfl)
  have g_l_title : mg "_law_title" = some (.ref (He.fAd K ("_law_title", none))) := He.glo_ok X G (c.fact 6 (f := .glo "_law_title") rfl)
  have g_l_player : mg "_law_player" = some (.ref (He.fAd K ("_law_player", none))) := He.glo_ok X G (c.fact 7 (f := .glo "_law_player") rfl)
  have g_l_mask : mg "_law_mask" = some (.ref (He.fAd K ("_law_mask", none))) := He.glo_ok X G (c.fact 8 (f := .glo "_law_mask") rfl)
  have g_l_band : mg "_law_band" = some (.ref (He.fAd K ("_law_band", none))) := He.glo_ok X G (c.fact 9 (f := .glo "_law_band") rfl)
  have g_l_strange : mg "_law_strange" = some (.ref (He.fAd K ("_law_strange", none))) := He.glo_ok X G (c.fact 10 (f := .glo "_law_strange") rfl)
  have g_l_ill : mg "_law_ill" = some (.ref (He.fAd K ("_law_ill", none))) := He.glo_ok X G (c.fact 11 (f := .glo "_law_ill") rfl)
  have g_can_sit : mg "can_sit" = some (.ref (He.fAd K ("can_sit", none))) := He.glo_ok X G (c.fact 12 (f := .glo "can_sit") rfl)
  have g_road_from : mg "road_from" = some (.ref (He.fAd K ("road_from", none))) := He.glo_ok X G (c.fact 13 (f := .glo "road_from") rfl)
  have g_shift_along : mg "shift_along" = some (.ref (He.fAd K ("shift_along", none))) := He.glo_ok X G (c.fact 14 (f := .glo "shift_along") rfl)
  have g_seat_all : mg "seat_all" = some (.ref (He.fAd K ("seat_all", none))) := He.glo_ok X G (c.fact 15 (f := .glo "seat_all") rfl)
  have g_short_by : mg "short_by" = some (.ref (He.fAd K ("short_by", none))) := He.glo_ok X G (c.fact 16 (f := .glo "short_by") rfl)
  have g_is_seating : mg "is_seating" = some (.ref (He.fAd K ("is_seating", none))) := He.glo_ok X G (c.fact 17 (f := .glo "is_seating") rfl)
  have g_fewest_moved : mg "fewest_moved" = some (.ref (He.fAd K ("fewest_moved", none))) := He.glo_ok X G (c.fact 18 (f := .glo "fewest_moved") rfl)
  have g_l_told : mg "_law_told" = some (.ref (He.fAd K ("_law_told", none))) := He.glo_ok X G (c.fact 19 (f := .glo "_law_told") rfl)
  have g_l_can : mg "_law_can" = some (.ref (He.fAd K ("_law_can", none))) := He.glo_ok X G (c.fact 20 (f := .glo "_law_can") rfl)
  have g_l_is_seating : mg "_law_is_seating" = some (.ref (He.fAd K ("_law_is_seating", none))) := He.glo_ok X G (c.fact 21 (f := .glo "_law_is_seating") rfl)
  have g_l_asked : mg "_law_asked" = some (.ref (He.fAd K ("_law_asked", none))) := He.glo_ok X G (c.fact 22 (f := .glo "_law_asked") rfl)
  have g_l_bent : mg "_law_bent" = some (.ref (He.fAd K ("_law_bent", none))) := He.glo_ok X G (c.fact 23 (f := .glo "_law_bent") rfl)
  have g_law : mg "law" = some (.ref (He.fAd K ("law", none))) := He.glo_ok X G (c.fact 24 (f := .glo "law") rfl)
  have z_range : mg "range" = none := He.free_ok X G (c.fact 25 (f := .free "range") rfl)
  have z_len : mg "len" = none := He.free_ok X G (c.fact 26 (f := .free "len") rfl)
  have z_tuple : mg "tuple" = none := He.free_ok X G (c.fact 27 (f := .free "tuple") rfl)
  have z_list : mg "list" = none := He.free_ok X G (c.fact 28 (f := .free "list") rfl)
  have z_int : mg "int" = none := He.free_ok X G (c.fact 29 (f := .free "int") rfl)
  have z_sorted : mg "sorted" = none := He.free_ok X G (c.fact 30 (f := .free "sorted") rfl)
  have z_set : mg "set" = none := He.free_ok X G (c.fact 31 (f := .free "set") rfl)
  have z_sum : mg "sum" = none := He.free_ok X G (c.fact 32 (f := .free "sum") rfl)
  have z_isinstance : mg "isinstance" = none := He.free_ok X G (c.fact 33 (f := .free "isinstance") rfl)
  have z_ValueError : mg "ValueError" = none := He.free_ok X G (c.fact 34 (f := .free "ValueError") rfl)
  unfold gs at GS
  obtain ⟨GS, CB_Prices⟩ := He.ba GS
  have CL_Prices := clsB_ok CB_Prices
  obtain ⟨GS, CB_Costs⟩ := He.ba GS
  have CL_Costs := clsB_ok CB_Costs
  obtain ⟨GS, PB_NoPlayer⟩ := He.ba GS
  have TB : tab.ok K = true := GS
  have P_NoPlayer := payB_ok PB_NoPlayer
  obtain ⟨fd_NoPlayer_init, F_NoPlayer_init⟩ := c.def_ 34 (d := d_NoPlayer_init) rfl
  have I_NoPlayer : ∀ base : Heap, InitOk P w K mg base "NoPlayer" "place" := fun base => ⟨fd_NoPlayer_init, _, mk_init (p1 := _) (p2 := _) (p3 := _) (p4 := _) F_NoPlayer_init sc_NoPlayer_init (fun _ _ _ _ _ _ => ⟨by first | exact Or.inl rfl | exact Or.inr (Or.inl rfl) | exact Or.inr (Or.inr rfl), by first | exact Or.inl rfl | exact Or.inr (Or.inl rfl) | exact Or.inr (Or.inr rfl), rfl⟩), F_NoPlayer_init.bindsN fun _ _ _ _ _ _ us hl => match us, hl with | [_, _], _ => rfl⟩
  have N_NoSeating : mg "NoSeating" = some (.ref (He.ga K "NoSeating")) := He.glo_ok X G (c.fact 35 (f := .glo "NoSeating") rfl)
  have N_NoPlayer : mg "NoPlayer" = some (.ref (He.ga K "NoPlayer")) := He.glo_ok X G (c.fact 36 (f := .glo "NoPlayer") rfl)
  have N_PairsError : mg "PairsError" = some (.ref (He.ga K "PairsError")) := He.glo_ok X G (c.fact 37 (f := .glo "PairsError") rfl)
  have N_NoBars : mg "NoBars" = some (.ref (He.ga K "NoBars")) := He.glo_ok X G (c.fact 38 (f := .glo "NoBars") rfl)
  have N_NoBreak : mg "NoBreak" = some (.ref (He.ga K "NoBreak")) := He.glo_ok X G (c.fact 39 (f := .glo "NoBreak") rfl)
  have N_NoCall : mg "NoCall" = some (.ref (He.ga K "NoCall")) := He.glo_ok X G (c.fact 40 (f := .glo "NoCall") rfl)
  have N_NoInstrument : mg "NoInstrument" = some (.ref (He.ga K "NoInstrument")) := He.glo_ok X G (c.fact 41 (f := .glo "NoInstrument") rfl)
  have N_NoLine : mg "NoLine" = some (.ref (He.ga K "NoLine")) := He.glo_ok X G (c.fact 42 (f := .glo "NoLine") rfl)
  have N_NoName : mg "NoName" = some (.ref (He.ga K "NoName")) := He.glo_ok X G (c.fact 43 (f := .glo "NoName") rfl)
  have N_NoOrder : mg "NoOrder" = some (.ref (He.ga K "NoOrder")) := He.glo_ok X G (c.fact 44 (f := .glo "NoOrder") rfl)
  have N_NoPlace : mg "NoPlace" = some (.ref (He.ga K "NoPlace")) := He.glo_ok X G (c.fact 45 (f := .glo "NoPlace") rfl)
  have N_NoText : mg "NoText" = some (.ref (He.ga K "NoText")) := He.glo_ok X G (c.fact 46 (f := .glo "NoText") rfl)
  have N_NoTimes : mg "NoTimes" = some (.ref (He.ga K "NoTimes")) := He.glo_ok X G (c.fact 47 (f := .glo "NoTimes") rfl)
  have N_Twice : mg "Twice" = some (.ref (He.ga K "Twice")) := He.glo_ok X G (c.fact 48 (f := .glo "Twice") rfl)
  have T_NoSeating : ExcF K mg "NoSeating" := by
    obtain ⟨h1, h2, h3, h4⟩ := He.exc_ok (c.fact 49 (f := .exc "NoSeating") rfl)
    exact ⟨h1, h2, h3, h4, N_NoSeating⟩
  have NC_Costs : mg "Costs" = some (.ref (He.ga K "Costs")) := He.glo_ok X G (c.fact 50 (f := .glo "Costs") rfl)
  have NC_Prices : mg "Prices" = some (.ref (He.ga K "Prices")) := He.glo_ok X G (c.fact 51 (f := .glo "Prices") rfl)
  have e := hfa.symm.trans g_law
  cases e
  have b := FunD.bindsA (ps := ["_law_script"]) F_law fun _ _ _ _ _ _ us hl => match us, hl with | [_], _ => rfl
  refine ⟨fd_law, fun s v => b s [v] rfl, fun base _ _ => ?_⟩
  have C_l_draws := ok_l_draws (P := P) (w := w) (base := base) F_l_draws g_l_draws z_range z_len
  have C_l_tools := ok_l_tools (P := P) (w := w) (base := base) F_l_tools g_l_tools 
  have C_l_seat := ok_l_seat (P := P) (w := w) (base := base) F_l_seat g_l_seat z_tuple z_range
  have C_l_seats := ok_l_seats (P := P) (w := w) (base := base) F_l_seats g_l_seats C_l_draws C_l_seat z_range
  have C_l_cell_at := ok_l_cell_at (P := P) (w := w) (base := base) F_l_cell_at g_l_cell_at z_len
  have C_l_wider := ok_l_wider (P := P) (w := w) (base := base) F_l_wider g_l_wider 
  have C_l_title := ok_l_title (P := P) (w := w) (base := base) F_l_title g_l_title 
  have C_l_player := ok_l_player (P := P) (w := w) (base := base) F_l_player g_l_player C_l_title z_range z_tuple
  have C_l_mask := ok_l_mask (P := P) (w := w) (base := base) F_l_mask g_l_mask z_range
  have C_l_band := ok_l_band (P := P) (w := w) (base := base) F_l_band g_l_band C_l_cell_at C_l_draws C_l_tools C_l_seats C_l_mask C_l_wider C_l_player z_list z_range z_len z_int
  have C_l_strange := ok_l_strange (P := P) (w := w) (base := base) F_l_strange g_l_strange C_l_draws z_len
  have C_l_ill := ok_l_ill (P := P) (w := w) (base := base) F_l_ill g_l_ill C_l_draws z_range
  have C_can_sit := ok_can_sit (P := P) (w := w) (base := base) F_can_sit g_can_sit 
  have C_road_from := cal_of (ok_road_from_fn (P := P) (w := w) (mg := mg) (base := base) F_road_from C_can_sit z_len z_range) g_road_from F_road_from.kp (F_road_from.bindsN fun _ _ _ _ _ _ us hl => match us, hl with | [_, _, _, _], _ => rfl)
  have C_shift_along := cal_of (ok_shift_along_fn (P := P) (w := w) (mg := mg) (base := base) F_shift_along ) g_shift_along F_shift_along.kp (F_shift_along.bindsN fun _ _ _ _ _ _ us hl => match us, hl with | [_, _, _, _], _ => rfl)
  have C_seat_all := cal_of (ok_seat_all_fn (P := P) (w := w) (mg := mg) (base := base) F_seat_all C_road_from C_shift_along z_len z_range z_sorted) g_seat_all F_seat_all.kp (F_seat_all.bindsN fun _ _ _ _ _ _ us hl => match us, hl with | [_, _], _ => rfl)
  have C_short_by := cal_of (ok_short_by_fn (P := P) (w := w) (mg := mg) (base := base) F_short_by C_seat_all z_range z_len) g_short_by F_short_by.kp (F_short_by.bindsN fun _ _ _ _ _ _ us hl => match us, hl with | [_, _, _], _ => rfl)
  have C_Costs_cost_at : CalM P w K mg base CX0 1 "Costs" "cost_at" _ := ⟨⟨_, _, _, (ok_Costs_cost_at_fn (P := P) (w := w) (mg := mg) (base := base) F_Costs_cost_at z_int CL_Costs), CL_Costs.me "cost_at" (by simp), (F_Costs_cost_at.bindsN fun _ _ _ _ _ _ us hl => match us, hl with | [_, _, _], _ => rfl)⟩⟩
  have C_Costs_rise : CalM P w K mg base CX0 1 "Costs" "rise" _ := ⟨⟨_, _, _, (ok_Costs_rise_fn (P := P) (w := w) (mg := mg) (base := base) F_Costs_rise z_int CL_Costs), CL_Costs.me "rise" (by simp), (F_Costs_rise.bindsN fun _ _ _ _ _ _ us hl => match us, hl with | [_, _], _ => rfl)⟩⟩
  have C_Costs_init : CalC P w K mg base CX0 2 "Costs" _ := ⟨⟨_, _, _, (ok_Costs_init_fn (P := P) (w := w) (mg := mg) (base := base) F_Costs_init C_can_sit C_Costs_cost_at C_Costs_rise z_range z_len CL_Costs), CL_Costs.mkOf (by simp), NC_Costs, (F_Costs_init.bindsN fun _ _ _ _ _ _ us hl => match us, hl with | [_, _, _, _, _], _ => rfl)⟩⟩
  have C_Prices_init : CalC P w K mg base CX0 1 "Prices" _ := ⟨⟨_, _, _, (ok_Prices_init_fn (P := P) (w := w) (mg := mg) (base := base) F_Prices_init z_len CL_Prices), CL_Prices.mkOf (by simp), NC_Prices, (F_Prices_init.bindsN fun _ _ _ _ _ _ us hl => match us, hl with | [_, _, _], _ => rfl)⟩⟩
  have C_is_seating := ok_is_seating (P := P) (w := w) (base := base) F_is_seating g_is_seating C_can_sit z_len z_set z_range
  have C_Prices_slacks : CalM P w K mg base CX0 1 "Prices" "slacks" _ := ⟨⟨_, _, _, (ok_Prices_slacks_fn (P := P) (w := w) (mg := mg) (base := base) F_Prices_slacks CL_Prices), CL_Prices.me "slacks" (by simp), (F_Prices_slacks.bindsN fun _ _ _ _ _ _ us hl => match us, hl with | [_, _, _, _], _ => rfl)⟩⟩
  have C_Prices_nearest : CalM P w K mg base CX0 1 "Prices" "nearest" _ := ⟨⟨_, _, _, (ok_Prices_nearest_fn (P := P) (w := w) (mg := mg) (base := base) F_Prices_nearest ), CL_Prices.me "nearest" (by simp), (F_Prices_nearest.bindsN fun _ _ _ _ _ _ us hl => match us, hl with | [_, _, _], _ => rfl)⟩⟩
  have C_Prices_raised : CalM P w K mg base CX0 1 "Prices" "raised" _ := ⟨⟨_, _, _, (ok_Prices_raised_fn (P := P) (w := w) (mg := mg) (base := base) F_Prices_raised CL_Prices), CL_Prices.me "raised" (by simp), (F_Prices_raised.bindsN fun _ _ _ _ _ _ us hl => match us, hl with | [_, _, _, _], _ => rfl)⟩⟩
  have C_Prices_shift : CalM P w K mg base CX0 1 "Prices" "shift" _ := ⟨⟨_, _, _, (ok_Prices_shift_fn (P := P) (w := w) (mg := mg) (base := base) F_Prices_shift CL_Prices), CL_Prices.me "shift" (by simp), (F_Prices_shift.bindsN fun _ _ _ _ _ _ us hl => match us, hl with | [_, _, _], _ => rfl)⟩⟩
  have C_Prices_fill : CalM P w K mg base CX0 2 "Prices" "fill" _ := ⟨⟨_, _, _, (ok_Prices_fill_fn (P := P) (w := w) (mg := mg) (base := base) F_Prices_fill C_Prices_slacks C_Prices_nearest C_Prices_raised C_Prices_shift z_list CL_Prices), CL_Prices.me "fill" (by simp), (F_Prices_fill.bindsN fun _ _ _ _ _ _ us hl => match us, hl with | [_, _], _ => rfl)⟩⟩
  have C_fewest_moved := cal_of (ok_fewest_moved_fn (P := P) (w := w) (mg := mg) (base := base) F_fewest_moved C_is_seating C_short_by C_Costs_init C_Prices_init C_Prices_fill C_Costs_rise z_len z_range z_sum T_NoSeating N_NoPlayer P_NoPlayer (I_NoPlayer base) CL_Costs CL_Prices) g_fewest_moved F_fewest_moved.kp (F_fewest_moved.bindsN fun _ _ _ _ _ _ us hl => match us, hl with | [_, _, _, _], _ => rfl)
  have C_l_told := ok_l_told (P := P) (w := w) (base := base) F_l_told g_l_told C_fewest_moved z_isinstance z_ValueError N_NoPlayer N_PairsError N_NoSeating N_NoBars N_NoBreak N_NoCall N_NoInstrument N_NoLine N_NoName N_NoOrder N_NoPlace N_NoText N_NoTimes N_Twice TB
  have C_l_can := ok_l_can (P := P) (w := w) (base := base) F_l_can g_l_can 
  have C_l_is_seating := ok_l_is_seating (P := P) (w := w) (base := base) F_l_is_seating g_l_is_seating C_l_can z_len z_range
  have C_l_asked := ok_l_asked (P := P) (w := w) (base := base) F_l_asked g_l_asked C_l_told C_l_is_seating z_list z_len
  have C_l_bent := ok_l_bent (P := P) (w := w) (base := base) F_l_bent g_l_bent C_l_draws z_len
  exact ok_law_fn (P := P) (w := w) (base := base) F_law g_law C_l_band C_l_cell_at C_l_strange C_l_ill C_l_bent C_l_asked z_range z_len z_list
theorem lt_eq {α β : Type} {x : α} {f : α → Option β} : lt x f = f x := rfl
theorem go_nx {β ρ γ : Type} {b : β} {k : β → γ} {e : ρ → γ} : Fl.go (Fl.nx b) k e = k b := rfl
theorem cell_ok (sc : List Int) {k : Int} (h : 0 ≤ k) : Ok (m_l_cell_at sc k) (fun _ => True) := by
  unfold m_l_cell_at
  exact ok_ite (fun h2 => ok_ret (ok_atI h (of_decide_eq_true h2) fun _ _ => trivial)) (fun _ => ok_some trivial)
theorem draws_ok {cell : Int} {sizes : List Int} (h1 : ∀ n ∈ sizes, 0 < n ∧ n < 100000000) (h2 : sizes.length ≤ 1000) : Ok (m_l_draws cell sizes) (Drawn sizes) := by
  unfold m_l_draws
  have hz := szl
  refine ok_lt fun f hf => ok_lt fun n _ => ok_chk ⟨by omega, by omega⟩ (ok_bnd (P := fun b => Drawn sizes b.1) (ok_foldO (fun i b => b.1.length = i ∧ ∀ (j : Nat) (d n : Int), b.1[j]? = some d → sizes[j]? = some n → 0 ≤ d ∧ d < n) ⟨by rw [hf]; rfl, by rw [hf]; simp⟩ ?_ ?_) ?_)
  · rintro i ⟨b1, b2⟩ x hx ⟨hl, hm⟩
    obtain ⟨e1, e2⟩ := rng_at hx
    dsimp only at hl hm ⊢
    have hi : i < sizes.length := by omega
    have hs : sizes[i]? = some sizes[i] := List.getElem?_eq_getElem hi
    obtain ⟨p1, p2⟩ := h1 sizes[i] (List.getElem_mem hi)
    have hat : atI sizes x = some sizes[i] := by
      rw [e1, Int.zero_add, atI_nat hs]
    refine ok_chk (mul_l (by omega) (by omega)) (ok_lt fun m1 _ => ok_lt fun m2 _ => ?_)
    refine ok_bnd (P := fun _ => True) (ok_ite (fun _ => ok_lt fun _ _ => ok_some trivial) (fun _ => ok_some trivial)) fun v _ => ?_
    refine ok_bnd (P := fun s => s = sizes[i]) (ok_eq hat rfl) fun s hs1 => ?_
    subst hs1
    refine ok_chk p1 (ok_chk (by omega) (ok_lt fun y hy => ok_bnd (P := fun s => s = sizes[i]) (ok_eq hat rfl) fun s hs1 => ?_))
    subst hs1
    refine ok_chk (div_small p1 (by omega)) (ok_lt fun w _ => ok_some ?_)
    subst hy
    refine ⟨by rw [List.length_append, hl]; rfl, fun j d n hd hn => ?_⟩
    by_cases hj : j < i
    · rw [List.getElem?_append_left (by omega)] at hd
      exact hm j d n hd hn
    · by_cases hji : j = i
      · subst hji
        rw [List.getElem?_append_right (by omega), hl, Nat.sub_self] at hd
        rw [hs] at hn
        cases hn
        have e : v % sizes[j] = d := Option.some.inj hd
        rw [← e]
        exact ⟨Int.emod_nonneg _ (by omega), Int.emod_lt_of_pos _ p1⟩
      · rw [List.getElem?_eq_none (by rw [List.length_append, hl, List.length_singleton]; omega)] at hd
        cases hd
  · rintro b ⟨hl, hm⟩
    exact ⟨by rw [hl, rng_len_nn (by omega)]; omega, hm⟩
  · exact fun b hb => ok_some hb
theorem txt_app {a b : Str} (ha : txt a) (hb : txt b) : txt (a ++ b) := by
  unfold txt PyData.strOk at *
  show (a.cps ++ b.cps).all _ = true
  rw [Array.all_append, ha, hb]; rfl
theorem txt_rep {x : Str} (h : txt x) (n : Int) : txt (replS x n) := by
  unfold replS Txt.mul
  split
  · show PyData.strOk _ = true; decide +kernel
  · split
    · first | exact h | (show PyData.strOk _ = true; decide +kernel)
    · have : ∀ (k : Nat) (a : Array Nat), a.all (· < 0x110000) = true → ((List.replicate k x.cps).foldl (· ++ ·) a).all (· < 0x110000) = true := by
        intro k
        induction k with
        | zero => intro a ha; exact ha
        | succ k ih =>
          intro a ha
          rw [List.replicate_succ, List.foldl_cons]
          refine ih _ ?_
          rw [Array.all_append, ha]
          exact h
      exact this _ _ (by simp)
theorem txt_one {x : Str} {c : Nat} (h : txt x) (hc : c ∈ x.cps.toList) : txt ⟨#[c]⟩ := by
  unfold txt PyData.strOk at *
  rw [Array.all_eq_true_iff_forall_mem] at h
  have := h c (Array.mem_toList_iff.mp hc)
  simpa using this
def Good (x : Str) : Prop := txt x ∧ x.length ≤ 20
theorem tools_ok (w : Int) : Ok (m_l_tools w) (fun t => t.length = 5 ∧ ∀ x ∈ t, Good x) := by
  unfold m_l_tools
  have key : ∀ t ∈ [([("a" : Str), ("ab" : Str), ("abc" : Str), ("b" : Str), ("ba" : Str)] : List Str), [("viola" : Str), ("v" : Str), ("harp" : Str), ("oboe" : Str), ("violas" : Str)], [("horn" : Str), ("ho" : Str), ("zink" : Str), ("c" : Str), ("cornetto" : Str)]], t.length = 5 ∧ ∀ x ∈ t, Good x := by
    unfold Good txt
    decide +kernel
  refine ok_ite (fun _ => ok_some (key _ (by simp))) (fun _ => ok_ite (fun _ => ok_some (key _ (by simp))) (fun _ => ok_some (key _ (by simp))))
theorem repl_len {x : Str} {n : Int} (h0 : 0 ≤ n) : (replS x n).length ≤ x.length * n.toNat := by
  unfold replS Txt.mul
  split
  · exact Nat.zero_le _
  · split
    · rename_i h1 h2
      simp only [Bool.or_eq_true, beq_iff_eq] at h2
      rcases h2 with h2 | h2
      · subst h2; simp
      · rw [h2]; simp
    · have : ∀ (k : Nat) (a : Array Nat), ((List.replicate k x.cps).foldl (· ++ ·) a).size = a.size + x.cps.size * k := by
        intro k
        induction k with
        | zero => intro a; simp
        | succ k ih => intro a; rw [List.replicate_succ, List.foldl_cons, ih, Array.size_append, Nat.mul_succ]; omega
      show Array.size _ ≤ _
      rw [this]
      show 0 + x.cps.size * n.toNat ≤ x.cps.size * n.toNat
      omega
theorem title_ok {k w : Int} (h0 : 0 ≤ k) (h1 : k < 52) (w0 : 0 ≤ w) (w1 : w < 3) : Ok (m_l_title k w) txt := by
  unfold m_l_title
  have hz := szl
  refine ok_lt fun ls hls => ?_
  have hl : ls.length = 26 := by rw [hls]; decide
  have e1 := @repl_len ("x" : Str) (k % 2) (by omega)
  have e0 : ("x" : Str).length = 1 := by decide
  rw [e0] at e1
  have tl : txt ls := by rw [hls]; unfold txt; decide +kernel
  have tx : txt ("x" : Str) := by unfold txt; decide +kernel
  refine ok_bnd (P := fun y => y.length = 1 ∧ txt y) (ok_sgn (by omega) (by omega) (by omega) fun c hc => ⟨rfl, txt_one tl (List.mem_of_getElem? hc)⟩) fun y ⟨hy, ty⟩ => ?_
  refine ok_chk (repS_small (by rw [e0]; omega) (by omega) (by omega)) (ok_chk (by omega) (ok_lt fun wd hwd => ?_))
  have lw : wd.length ≤ 2 := by
    rw [hwd]
    show (Str.append _ _).length ≤ 2
    show (y.cps ++ (replS ("x" : Str) (k % 2)).cps).size ≤ 2
    rw [Array.size_append]
    show y.length + (replS ("x" : Str) (k % 2)).length ≤ 2
    omega
  have tw : txt wd := by rw [hwd]; exact txt_app ty (txt_rep tx _)
  refine ok_ite (fun _ => ok_some tw) (fun _ => ?_)
  refine ok_bnd (P := fun z => z.length ≤ 2 ∧ txt z) (ok_atI (by omega) (by simp; omega) fun z hz => ?_) fun z ⟨hz2, tz⟩ => ?_
  · have : z ∈ [("" : Str), ("q" : Str), ("zz" : Str)] := List.mem_of_getElem? hz
    simp only [List.mem_cons, List.not_mem_nil, or_false] at this
    rcases this with rfl | rfl | rfl <;> exact ⟨by decide, by unfold txt; decide +kernel⟩
  · refine ok_chk (by omega) (ok_bnd (P := fun y => y.length = 1 ∧ txt y) (ok_sgn (by omega) (by omega) (by omega) fun c hc => ⟨rfl, txt_one tl (List.mem_of_getElem? hc)⟩) fun u ⟨hu, tu⟩ => ?_)
    refine ok_chk (repS_small (by omega) (by omega) (by omega)) (ok_chk ?_ (ok_some (txt_app (txt_app tz tw) (txt_rep tu _))))
    have e2 := @repl_len u 2 (by omega)
    rw [hu] at e2
    have e3 : (z ++ wd).length = z.length + wd.length := by
      show (z.cps ++ wd.cps).size = _
      rw [Array.size_append]; rfl
    have : (1 * (2 : Int).toNat) = 2 := by decide
    omega
theorem player_ok {k m t w : Int} {ts : List Str} (h0 : 0 ≤ k) (h1 : k < 52) (w0 : 0 ≤ w) (w1 : w < 3) (ht : ts.length = 5) (hg : ∀ x ∈ ts, Good x) : Ok (m_l_player k m t ts w) (fun p => p.2.l.length ≤ 5 ∧ txt p.1 ∧ ∀ x ∈ p.2.l, txt x) := by
  unfold m_l_player
  have hz := szl
  refine ok_bnd (ok_compO (T := fun x => decide ((m / (2 ^ x.toNat : Int)) % 2 = 1)) (P := fun _ y => txt y) (fun x hx => ?_) (fun x hx _ => ?_)) fun ys ⟨y1, y2⟩ => ?_
  · obtain ⟨a, b⟩ := rng_mem hx
    have : x = 0 ∨ x = 1 ∨ x = 2 ∨ x = 3 ∨ x = 4 := by omega
    rcases this with rfl | rfl | rfl | rfl | rfl <;> exact ok_bnd (P := fun z => z = _) (ok_eq rfl rfl) fun z hz => ok_chk (div_small (by rw [hz]; decide) (by rw [hz]; decide)) (ok_some (by rw [hz]; rfl))
  · obtain ⟨a, b⟩ := rng_mem hx
    exact ok_ret (ok_atI a (by omega) fun y hy => (hg y (List.mem_of_getElem? hy)).1)
  · have hy : ys.length ≤ 5 := by
      rw [y1]
      exact Nat.le_trans (List.length_filter_le _ _) (by rw [rng_len]; decide)
    have hall : ∀ y ∈ ys, txt y := fun y hy2 => by
      obtain ⟨i, hi⟩ := List.mem_iff_getElem?.mp hy2
      obtain ⟨_, _, h⟩ := y2 i y hi
      exact h
    refine ok_chk (by omega) (ok_lt fun sm hs => ok_bnd (P := fun b => b.length ≤ 5 ∧ ∀ y ∈ b, txt y) (ok_ite (fun _ => ok_lt fun z hz => ok_some ?_) (fun _ => ok_some ?_)) fun b hb => ok_bnd (title_ok h0 h1 w0 w1) fun ti hti => ok_some ⟨hb.1, hti, hb.2⟩)
    · rw [hz, hs]; exact ⟨by rw [List.length_reverse]; exact hy, fun y h => hall y (List.mem_reverse.mp h)⟩
    · rw [hs]; exact ⟨hy, hall⟩
theorem seat_ok {a b c : Int} {ts : List Str} (b0 : 0 ≤ b) (b1 : b < 8) (c0 : 0 ≤ c) (c1 : c < 4) (ht : ts.length = 5) (hg : ∀ x ∈ ts, Good x) : Ok (m_l_seat a b c ts) (fun s => s.l.length ≤ 4 ∧ ∀ x ∈ s.l, Good x) := by
  unfold m_l_seat
  have hz := szl
  refine ok_bnd (P := fun n => 1 ≤ n ∧ n ≤ 4) (ok_atI b0 (by simp; omega) fun n hn => ?_) fun n hn => ok_lt fun many hm => ?_
  · have : n ∈ ([1, 1, 1, 1, 2, 2, 3, 4] : List Int) := List.mem_of_getElem? hn
    simp only [List.mem_cons, List.not_mem_nil, or_false] at this
    omega
  · subst hm
    refine ok_chk ⟨by omega, by omega⟩ (ok_bnd (ok_mapO (P := fun _ y => Good y) fun x hx => ?_) fun ys ⟨y1, y2⟩ => ?_)
    · obtain ⟨u, v⟩ := rng_mem hx
      refine ok_chk (mul_l (by omega) (by omega)) (ok_ret (ok_atI (by omega) (by omega) fun y hy => hg y (List.mem_of_getElem? hy)))
    · rw [rng_len_nn (by omega)] at y1
      refine ok_chk (by omega) (ok_some ⟨by show ys.length ≤ 4; omega, fun y hy => ?_⟩)
      obtain ⟨i, hi⟩ := List.mem_iff_getElem?.mp hy
      obtain ⟨_, _, h⟩ := y2 i y hi
      exact h
def can (p : Str × Tu Str) (s : Tu Str) : Bool := !s.l.any fun x => !decide (x ∈ p.2.l)
theorem can_eq (p : Str × Tu Str) (s : Tu Str) : m_can_sit p s = some (can p s) := by
  unfold m_can_sit can
  rw [foldF_any (p := fun x => !decide (x ∈ p.2.l)) (r := false) (fun x => rfl)]
  cases s.l.any (fun x => !decide (x ∈ p.2.l)) <;> rfl
theorem foldF_anyM {α ρ : Type} {p : α → Bool} {f : Unit → α → Option (Fl Unit ρ)} {r : ρ} : ∀ {xs : List α}, (∀ x ∈ xs, f () x = if p x = true then some (.rt r) else some (.nx ())) → foldF f () xs = some (if xs.any p = true then .rt r else .nx ())
  | [], _ => rfl
  | x :: xs, h => by
    unfold foldF
    rw [h x List.mem_cons_self, List.any_cons]
    cases hp : p x with
    | true => rfl
    | false => exact foldF_anyM fun y hy => h y (List.mem_cons_of_mem _ hy)
def bad (ps : List (Str × Tu Str)) (ss : List (Tu Str)) (row : List Int) (k : Int) : Bool :=
  match atI row k, atI ss k with
  | some j, some s => decide (j < 0) || (decide ((ps.length : Int) ≤ j) || (match atI ps j with
    | some p => !can p s
    | none => true))
  | _, _ => true
theorem at_in {α : Type} {xs : List α} {k : Int} (h0 : 0 ≤ k) (h1 : k < xs.length) : ∃ x, atI xs k = some x ∧ x ∈ xs ∧ xs[k.toNat]? = some x := by
  have h2 : k.toNat < xs.length := by omega
  exact ⟨xs[k.toNat], by rw [atI_get h0 h1, List.getElem?_eq_getElem h2], List.getElem_mem h2, List.getElem?_eq_getElem h2⟩
theorem seating_eq {ps : List (Str × Tu Str)} {ss : List (Tu Str)} {row : List Int} (hl : row.length ≤ 1000) : m_is_seating ps ss row = some (decide (row.length = ss.length) && (decide row.Nodup && !(rng 0 row.length).any (bad ps ss row))) := by
  refine Ok.eq ?_
  unfold m_is_seating
  have e1 : decide ((row.length : Int) = (ss.length : Int)) = decide (row.length = ss.length) := by
    rw [Bool.eq_iff_iff, decide_eq_true_iff, decide_eq_true_iff]; omega
  have e2 : decide (((dsz row : Nat) : Int) = (row.length : Int)) = decide row.Nodup := by
    rw [Bool.eq_iff_iff, decide_eq_true_iff, decide_eq_true_iff, ← dsz_eq]; omega
  rw [e1]
  by_cases hls : row.length = ss.length
  · rw [decide_eq_true hls]
    show Ok (bnd (chk _ _) _) _
    rw [chk_pos (by omega), e2]
    by_cases hn : row.Nodup
    · rw [decide_eq_true hn]
      show Ok (chk _ (bnd (foldF _ _ _) _)) _
      refine ok_chk ⟨by omega, by omega⟩ ?_
      rw [foldF_anyM (p := bad ps ss row) (r := false) fun k hk => ?_]
      · cases (rng 0 (row.length : Int)).any (bad ps ss row)
        · exact ok_some rfl
        · exact ok_some rfl
      · obtain ⟨k0, k1⟩ := mem_rng.mp hk
        obtain ⟨j, hj, _, _⟩ := at_in k0 k1
        obtain ⟨s, hs, _, _⟩ := at_in (xs := ss) k0 (by omega)
        have eb : bad ps ss row k = (decide (j < 0) || (decide ((ps.length : Int) ≤ j) || (match atI ps j with
          | some p => !can p s
          | none => true))) := by unfold bad; rw [hj, hs]
        rw [eb, hj, hs]
        show bnd (orO (decide (j < 0)) (orO (decide ((ps.length : Int) ≤ j)) (bnd (atI ps j) _))) _ = _
        by_cases h1 : j < 0
        · rw [decide_eq_true h1]; rfl
        · rw [decide_eq_false h1]
          by_cases h2 : (ps.length : Int) ≤ j
          · rw [decide_eq_true h2]; rfl
          · rw [decide_eq_false h2]
            obtain ⟨p, hp, _, _⟩ := at_in (xs := ps) (k := j) (by omega) (by omega)
            rw [hp]
            show bnd (bnd (m_can_sit p s) _) _ = if (false || (false || !can p s)) = true then some (Fl.rt false) else some (Fl.nx ())
            rw [can_eq]
            cases can p s <;> rfl
    · rw [decide_eq_false hn]
      exact ok_some rfl
  · rw [decide_eq_false hls]
    exact ok_some rfl
theorem nodup_take {row : List Int} : row.Nodup ↔ ∀ k : Nat, ∀ x, row[k]? = some x → x ∉ row.take k := by
  constructor
  · intro h k x hk hx
    obtain ⟨i, hi⟩ := List.mem_iff_getElem?.mp hx
    rw [List.getElem?_take] at hi
    split at hi
    · rename_i hik
      obtain ⟨a1, b1⟩ := List.getElem?_eq_some_iff.mp hk
      obtain ⟨a2, b2⟩ := List.getElem?_eq_some_iff.mp hi
      have := (List.getElem_inj h (h₀ := a1) (h₁ := a2)).mp (b1.trans b2.symm)
      omega
    · cases hi
  · intro h
    refine List.pairwise_iff_getElem.mpr fun i j hi hj hij e => ?_
    refine h j row[j] (List.getElem?_eq_getElem hj) ?_
    rw [← e]
    exact List.mem_iff_getElem?.mpr ⟨i, by rw [List.getElem?_take, if_pos hij, List.getElem?_eq_getElem hi]⟩
theorem lay_strs {xs : List Str} (h : ∀ x ∈ xs, txt x) : PyData.canLayAll0 (xs.map PyData.str) = true ∧ PyData.depthAll (xs.map PyData.str) = 0 := by
  induction xs with
  | nil => simp [PyData.canLayAll0, PyData.depthAll]
  | cons x r ih =>
    obtain ⟨i1, i2⟩ := ih fun y hy => h y (List.mem_cons_of_mem _ hy)
    rw [List.map_cons]
    have hx : PyData.strOk x = true := h x List.mem_cons_self
    refine ⟨?_, ?_⟩
    · unfold PyData.canLayAll0 PyData.canLay0
      rw [i1, hx]; rfl
    · unfold PyData.depthAll
      rw [i2]; simp [PyData.depth]
theorem lay_all {α : Type} [EqD α] {n : Nat} : ∀ {xs : List α}, (∀ x ∈ xs, PyData.canLay0 (EqD.toD x) = true ∧ PyData.depth (EqD.toD x) ≤ n) → PyData.canLayAll0 (xs.map EqD.toD) = true ∧ PyData.depthAll (xs.map EqD.toD) ≤ n
  | [], _ => by simp [PyData.canLayAll0, PyData.depthAll]
  | x :: r, h => by
    obtain ⟨i1, i2⟩ := lay_all fun y hy => h y (List.mem_cons_of_mem _ hy)
    obtain ⟨j1, j2⟩ := h x List.mem_cons_self
    rw [List.map_cons]
    refine ⟨?_, ?_⟩
    · unfold PyData.canLayAll0
      rw [i1, j1]; rfl
    · unfold PyData.depthAll
      omega
section
variable {κ τ : Type} [DecidableEq κ]
theorem dval_nil (j : κ) : dval ([] : List (κ × τ)) j = none := rfl
theorem dval_cons (i : κ) (x : τ) (xs : List (κ × τ)) (j : κ) : dval ((i, x) :: xs) j = if i = j then some x else dval xs j := by
  unfold dval
  rw [List.find?_cons]
  dsimp only
  by_cases h : i = j
  · rw [decide_eq_true h, if_pos h]; rfl
  · rw [decide_eq_false h, if_neg h]
theorem dval_app (xs ys : List (κ × τ)) (j : κ) : dval (xs ++ ys) j = (dval xs j).or (dval ys j) := by
  induction xs with
  | nil => rw [List.nil_append, dval_nil, Option.none_or]
  | cons z r ih =>
    obtain ⟨i, x⟩ := z
    rw [List.cons_append, dval_cons, dval_cons, ih]
    by_cases h : i = j
    · rw [if_pos h, if_pos h]; rfl
    · rw [if_neg h, if_neg h]
theorem dval_any (xs : List (κ × τ)) (k : κ) : (xs.any fun z => decide (z.1 = k)) = (dval xs k).isSome := by
  induction xs with
  | nil => rfl
  | cons z r ih =>
    obtain ⟨i, x⟩ := z
    rw [List.any_cons, dval_cons, ih]
    dsimp only
    by_cases h : i = k
    · rw [if_pos h, decide_eq_true h]; rfl
    · rw [if_neg h, decide_eq_false h, Bool.false_or]
theorem dput_new {xs : List (κ × τ)} {k : κ} {y : τ} (h : dval xs k = none) : dput xs k y = xs ++ [(k, y)] := by
  unfold dput
  rw [dval_any, h]
  rfl
theorem dval_put (xs : List (κ × τ)) (k j : κ) (y : τ) : dval (dput xs k y) j = if j = k then some y else dval xs j := by
  by_cases h : (dval xs k).isSome = true
  · unfold dput
    rw [dval_any, if_pos h]
    have key : ∀ xs : List (κ × τ), dval (xs.map fun z => if z.1 = k then (z.1, y) else z) j = if j = k then (dval xs k).map (fun _ => y) else dval xs j := by
      intro xs
      induction xs with
      | nil => rw [List.map_nil, dval_nil, dval_nil]; split <;> rfl
      | cons z r ih =>
        obtain ⟨i, x⟩ := z
        rw [List.map_cons]
        dsimp only
        by_cases hi : i = k
        · subst hi
          rw [if_pos rfl, dval_cons, dval_cons, dval_cons, ih, if_pos rfl]
          by_cases hj : j = i
          · subst hj; rw [if_pos rfl, if_pos rfl]; rfl
          · rw [if_neg hj, if_neg hj, if_neg (fun z => hj z.symm), if_neg (fun z => hj z.symm)]
        · rw [if_neg hi, dval_cons, dval_cons, dval_cons, ih, if_neg hi]
          by_cases hj : j = k
          · subst hj; rw [if_pos rfl, if_pos rfl, if_neg hi]
          · rw [if_neg hj, if_neg hj]
    rw [key]
    obtain ⟨w, hw⟩ := Option.isSome_iff_exists.mp h
    rw [hw]; rfl
  · have h0 : dval xs k = none := by
      cases hh : dval xs k with
      | none => rfl
      | some w => rw [hh] at h; exact absurd rfl h
    rw [dput_new h0, dval_app, dval_cons, dval_nil]
    by_cases hj : j = k
    · subst hj; rw [if_pos rfl, if_pos rfl, h0]; rfl
    · rw [if_neg hj, if_neg (fun z => hj z.symm), Option.or_none]
theorem dput_len (xs : List (κ × τ)) (k : κ) (y : τ) : (dput xs k y).length ≤ xs.length + 1 := by
  unfold dput
  split
  · rw [List.length_map]; omega
  · rw [List.length_append]; exact Nat.le_refl _
theorem dval_idx {xs : List (κ × τ)} {k : κ} {y : τ} (h : dval xs k = some y) : ∃ i : Nat, xs[i]? = some (k, y) := by
  induction xs with
  | nil => cases h
  | cons z r ih =>
    obtain ⟨i, x⟩ := z
    rw [dval_cons] at h
    split at h
    · rename_i e; subst e; cases h; exact ⟨0, rfl⟩
    · obtain ⟨n, hn⟩ := ih h; exact ⟨n + 1, by simpa using hn⟩
theorem dval_none_of {xs : List (κ × τ)} {k : κ} (h : ∀ z ∈ xs, z.1 ≠ k) : dval xs k = none := by
  cases hh : dval xs k with
  | none => rfl
  | some y =>
    obtain ⟨i, hi⟩ := dval_idx hh
    exact absurd rfl (h _ (List.mem_of_getElem? hi))
theorem dval_get {xs : List (κ × τ)} (hn : (xs.map (·.1)).Nodup) {i : Nat} {e : κ × τ} (h : xs[i]? = some e) : dval xs e.1 = some e.2 := by
  induction xs generalizing i with
  | nil => simp at h
  | cons z r ih =>
    obtain ⟨j, x⟩ := z
    rw [dval_cons]
    rw [List.map_cons, List.nodup_cons] at hn
    cases i with
    | zero => simp at h; subst h; rw [if_pos rfl]
    | succ i =>
      have h2 : r[i]? = some e := by simpa using h
      rw [if_neg, ih hn.2 h2]
      intro ee
      exact hn.1 (List.mem_map.mpr ⟨e, List.mem_of_getElem? h2, ee.symm⟩)
theorem dval_some_key {xs : List (κ × τ)} {k : κ} : (dval xs k).isSome = true ↔ k ∈ xs.map (·.1) := by
  rw [← dval_any, List.any_eq_true, List.mem_map]
  constructor
  · rintro ⟨z, hz, e⟩; exact ⟨z, hz, of_decide_eq_true e⟩
  · rintro ⟨z, hz, e⟩; exact ⟨z, hz, decide_eq_true e⟩
end
theorem nd_sub_len {α : Type} [DecidableEq α] : ∀ {l m : List α}, l.Nodup → (∀ x ∈ l, x ∈ m) → l.length ≤ m.length
  | [], _, _, _ => Nat.zero_le _
  | x :: r, m, hn, h => by
    rw [List.nodup_cons] at hn
    have h1 := h x List.mem_cons_self
    have h2 := nd_sub_len (l := r) (m := m.erase x) hn.2 (fun y hy => (List.mem_erase_of_ne (fun e => hn.1 (by rw [← e]; exact hy))).mpr (h y (List.mem_cons_of_mem _ hy)))
    rw [List.length_erase_of_mem h1] at h2
    have := List.length_pos_of_mem h1
    rw [List.length_cons]
    omega
theorem ok_whileN {β : Type} {c : β → Option Bool} {f : β → Option β} (I : Nat → β → Prop) {Q : β → Prop} (hc : ∀ m b, I m b → Ok (c b) (fun t => if t = true then Ok (f b) (fun b' => ∃ m', m' < m ∧ I m' b') else Q b)) : ∀ (n m : Nat) (b : β), I m b → m < n → Ok (whileO c f n b) Q
  | 0, m, b, _, h => absurd h (Nat.not_lt_zero _)
  | n + 1, m, b, hI, h => by
    unfold whileO
    refine ok_bnd (hc m b hI) fun t ht => ?_
    cases t with
    | true =>
      rw [if_pos rfl] at ht ⊢
      exact ok_bnd ht fun b' ⟨m', h1, h2⟩ => ok_whileN I hc n m' b' h2 (by omega)
    | false =>
      rw [if_neg Bool.false_ne_true] at ht ⊢
      exact ok_some ht
def Cn (ps : List (Str × Tu Str)) (ss : List (Tu Str)) (k s : Int) : Prop := 0 ≤ k ∧ k < ps.length ∧ 0 ≤ s ∧ s < ss.length ∧ ∀ p t, atI ps k = some p → atI ss s = some t → can p t = true
structure Sd (ps : List (Str × Tu Str)) (ss : List (Tu Str)) (n : Nat) (own : List (Int × Int)) (row : List (Option Int)) : Prop where
  len : row.length = ss.length
  fil : ∀ k : Nat, k < n → ∃ p : Int, row[k]? = some (some p) ∧ Cn ps ss p k
  emp : ∀ k : Nat, n ≤ k → k < ss.length → row[k]? = some none
  iff : ∀ p s : Int, dval own p = some s ↔ (0 ≤ s ∧ row[s.toNat]? = some (some p))
structure Rd0 (ps : List (Str × Tu Str)) (ss : List (Tu Str)) (own : List (Int × Int)) (first : Int) (ahead : List (Int × Int)) (reached : List Int) : Prop where
  nd : (ahead.map (·.1)).Nodup
  l0 : reached[0]? = some first
  len : reached.length = ahead.length + 1
  own : ∀ (i : Nat) (e : Int × Int), ahead[i]? = some e → ∃ s, dval own e.1 = some s ∧ reached[i + 1]? = some s
  par : ∀ (i : Nat) (e : Int × Int), ahead[i]? = some e → Cn ps ss e.1 e.2 ∧ ∃ j : Nat, j ≤ i ∧ reached[j]? = some e.2
theorem Rd0.big {ps : List (Str × Tu Str)} {ss : List (Tu Str)} {own : List (Int × Int)} {first : Int} {ahead : List (Int × Int)} {reached : List Int} (h : Rd0 ps ss own first ahead reached) : ahead.length ≤ ps.length := by
  have h1 := nd_sub_len (m := rng 0 (ps.length : Int)) h.nd (fun x hx => by
    obtain ⟨e, he, rfl⟩ := List.mem_map.mp hx
    obtain ⟨i, hi⟩ := List.mem_iff_getElem?.mp he
    have := (h.par i e hi).1
    exact mem_rng.mpr ⟨this.1, this.2.1⟩)
  rw [List.length_map, rng_len] at h1
  omega
theorem Rd0.seat {ps : List (Str × Tu Str)} {ss : List (Tu Str)} {own : List (Int × Int)} {ahead : List (Int × Int)} {reached : List Int} {n : Nat} {row : List (Option Int)} (h : Rd0 ps ss own n ahead reached) (sd : Sd ps ss n own row) (hn : n < ss.length) {s : Int} (hs : s ∈ reached) : 0 ≤ s ∧ s < ss.length := by
  obtain ⟨j, hj⟩ := List.mem_iff_getElem?.mp hs
  cases j with
  | zero => rw [h.l0] at hj; cases hj; omega
  | succ j =>
    have hl := (List.getElem?_eq_some_iff.mp hj).1
    have hl2 : j < ahead.length := by have := h.len; omega
    obtain ⟨s', h1, h2⟩ := h.own j _ (List.getElem?_eq_getElem hl2)
    rw [hj] at h2
    cases h2
    obtain ⟨a, b⟩ := (sd.iff _ _).mp h1
    have := (List.getElem?_eq_some_iff.mp b).1
    have := sd.len
    omega
theorem Rd0.ndr {ps : List (Str × Tu Str)} {ss : List (Tu Str)} {own : List (Int × Int)} {ahead : List (Int × Int)} {reached : List Int} {n : Nat} {row : List (Option Int)} (h : Rd0 ps ss own n ahead reached) (sd : Sd ps ss n own row) (hn : n < ss.length) : ∀ (i j : Nat) (s : Int), reached[i]? = some s → reached[j]? = some s → i = j := by
  have hl := h.len
  have hemp := sd.emp n (Nat.le_refl _) hn
  have key : ∀ (j : Nat) (s : Int), reached[j + 1]? = some s → ∃ e, ahead[j]? = some e ∧ dval own e.1 = some s := fun j s hj => by
    have hl1 := (List.getElem?_eq_some_iff.mp hj).1
    have hl2 : j < ahead.length := by omega
    obtain ⟨s', h1, h2⟩ := h.own j _ (List.getElem?_eq_getElem hl2)
    rw [hj] at h2
    cases h2
    exact ⟨_, List.getElem?_eq_getElem hl2, h1⟩
  intro i j s hi hj
  cases i with
  | zero =>
    cases j with
    | zero => rfl
    | succ j =>
      rw [h.l0] at hi
      cases hi
      obtain ⟨e, h1, h2⟩ := key j _ hj
      have := ((sd.iff _ _).mp h2).2
      rw [Int.toNat_natCast, hemp] at this
      cases this
  | succ i =>
    cases j with
    | zero =>
      rw [h.l0] at hj
      cases hj
      obtain ⟨e, h1, h2⟩ := key i _ hi
      have := ((sd.iff _ _).mp h2).2
      rw [Int.toNat_natCast, hemp] at this
      cases this
    | succ j =>
      obtain ⟨e, h1, h2⟩ := key i _ hi
      obtain ⟨f, g1, g2⟩ := key j _ hj
      have a1 := ((sd.iff _ _).mp h2).2
      have a2 := ((sd.iff _ _).mp g2).2
      rw [a1] at a2
      have e1 : e.1 = f.1 := Option.some.inj (Option.some.inj a2)
      have m1 : (ahead.map (·.1))[i]? = some e.1 := by rw [List.getElem?_map, h1]; rfl
      have m2 : (ahead.map (·.1))[j]? = some e.1 := by rw [List.getElem?_map, g1, e1]; rfl
      obtain ⟨b1, c1⟩ := List.getElem?_eq_some_iff.mp m1
      obtain ⟨b2, c2⟩ := List.getElem?_eq_some_iff.mp m2
      have := (List.getElem_inj h.nd (h₀ := b1) (h₁ := b2)).mp (c1.trans c2.symm)
      omega
theorem Rd0.snoc {ps : List (Str × Tu Str)} {ss : List (Tu Str)} {own : List (Int × Int)} {first : Int} {ahead : List (Int × Int)} {reached : List Int} (h : Rd0 ps ss own first ahead reached) {k s t : Int} (hk : dval ahead k = none) (hs : s ∈ reached) (hc : Cn ps ss k s) (ht : dval own k = some t) : Rd0 ps ss own first (ahead ++ [(k, s)]) (reached ++ [t]) := by
  have hl := h.len
  have key : k ∉ ahead.map (·.1) := fun hm => by
    have := dval_some_key.mpr hm
    rw [hk] at this
    cases this
  refine ⟨?_, ?_, by rw [List.length_append, List.length_append, hl]; rfl, fun i e hi => ?_, fun i e hi => ?_⟩
  · rw [List.map_append, List.nodup_append]
    refine ⟨h.nd, by simp, fun a ha b hb e => ?_⟩
    simp at hb
    exact key (by rw [← hb, ← e]; exact ha)
  · rw [List.getElem?_append_left (by omega)]; exact h.l0
  · by_cases hlt : i < ahead.length
    · rw [List.getElem?_append_left hlt] at hi
      obtain ⟨s', a, b⟩ := h.own i e hi
      exact ⟨s', a, by rw [List.getElem?_append_left (by omega)]; exact b⟩
    · have : i = ahead.length := by
        have := (List.getElem?_eq_some_iff.mp hi).1
        rw [List.length_append, List.length_singleton] at this
        omega
      subst this
      rw [List.getElem?_append_right (Nat.le_refl _), Nat.sub_self] at hi
      cases hi
      exact ⟨t, ht, by rw [← hl, List.getElem?_append_right (Nat.le_refl _), Nat.sub_self]; rfl⟩
  · by_cases hlt : i < ahead.length
    · rw [List.getElem?_append_left hlt] at hi
      obtain ⟨a, j, b, c⟩ := h.par i e hi
      exact ⟨a, j, b, by rw [List.getElem?_append_left (by omega)]; exact c⟩
    · have : i = ahead.length := by
        have := (List.getElem?_eq_some_iff.mp hi).1
        rw [List.length_append, List.length_singleton] at this
        omega
      subst this
      rw [List.getElem?_append_right (Nat.le_refl _), Nat.sub_self] at hi
      cases hi
      obtain ⟨j, hj⟩ := List.mem_iff_getElem?.mp hs
      have := (List.getElem?_eq_some_iff.mp hj).1
      exact ⟨hc, j, by omega, by rw [List.getElem?_append_left this]; exact hj⟩
def Road (ps : List (Str × Tu Str)) (ss : List (Tu Str)) (own : List (Int × Int)) (first : Int) (r : T3 (Option Int) (List (Int × Int)) (List Int)) : Prop :=
  match r.a with
  | none => Rd0 ps ss own first r.b r.c ∧ ∀ s ∈ r.c, ∀ k, Cn ps ss k s → k ∈ r.b.map (·.1)
  | some k => ∃ (ahead : List (Int × Int)) (s : Int), Rd0 ps ss own first ahead r.c ∧ dval ahead k = none ∧ s ∈ r.c ∧ Cn ps ss k s ∧ dval own k = none ∧ r.b = ahead ++ [(k, s)]
theorem road_ok {ps : List (Str × Tu Str)} {ss : List (Tu Str)} {own : List (Int × Int)} {row : List (Option Int)} {n : Nat} (hp : ps.length ≤ 1000) (hs : ss.length ≤ 1000) (sd : Sd ps ss n own row) (hn : n < ss.length) : Ok (m_road_from ps ss own n) (Road ps ss own n) := by
  unfold m_road_from
  have hz := szl
  refine ok_lt fun r0 hr0 => ok_lt fun at0 hat0 => ?_
  refine ok_bnd (P := fun o => match o with
    | .nx b => Road ps ss own n ⟨none, b.1, b.2.1⟩
    | .rt r => Road ps ss own n r) (ok_whileF (fun b => Rd0 ps ss own n b.1 b.2.1 ∧ 0 ≤ b.2.2 ∧ b.2.2 ≤ b.2.1.length ∧ ∀ (j : Nat) (s : Int), (j : Int) < b.2.2 → b.2.1[j]? = some s → ∀ k, Cn ps ss k s → k ∈ b.1.map (·.1)) (fun b => 1002 - b.2.2.toNat) ?_ _ _ ?_ (by rw [fuel_eq]; omega)) ?_
  · rintro ⟨ahead, reached, a⟩ ⟨hr, a0, a1, hx⟩
    dsimp only at hr a0 a1 hx ⊢
    have hrl := hr.len
    have hbg := hr.big
    refine ok_some ?_
    split
    · rename_i hlt
      have hlt := of_decide_eq_true hlt
      obtain ⟨s, hs1, hs2, hs3⟩ := at_in a0 hlt
      obtain ⟨sq0, sq1⟩ := hr.seat sd hn hs2
      obtain ⟨st, hst, hst2, _⟩ := at_in sq0 sq1
      refine ok_chk ⟨by omega, by omega⟩ (ok_bnd (P := fun o => match o with
        | .nx b => Rd0 ps ss own n b.1 b.2 ∧ (∃ e, ahead ++ e = b.1) ∧ (∃ e, reached ++ e = b.2) ∧ ∀ k, Cn ps ss k s → k ∈ b.1.map (·.1)
        | .rt r => Road ps ss own n r) (ok_foldF (fun i b => Rd0 ps ss own n b.1 b.2 ∧ (∃ e, ahead ++ e = b.1) ∧ (∃ e, reached ++ e = b.2) ∧ ∀ k, k < (i : Int) → Cn ps ss k s → k ∈ b.1.map (·.1)) (Road ps ss own n) ?_ ?_ ?_ ?_) ?_)
      · exact ⟨hr, ⟨[], List.append_nil _⟩, ⟨[], List.append_nil _⟩, fun k hk hc => by have := hc.1; omega⟩
      · rintro i ⟨ah, re⟩ k hk ⟨j1, ⟨e1, he1⟩, ⟨e2, he2⟩, j4⟩
        dsimp only at j1 he1 he2 j4 ⊢
        obtain ⟨ek, ekl⟩ := rng_at hk
        have k0 : 0 ≤ k := by omega
        have k1 : k < ps.length := by omega
        have hbg1 := j1.big
        have hrl1 := j1.len
        have hsr : s ∈ re := by rw [← he2]; exact List.mem_append_left _ hs2
        have hat : atI re a = some s := by
          rw [atI_get a0 (by rw [← he2, List.length_append]; omega), ← he2, List.getElem?_append_left (by omega)]
          exact hs3
        obtain ⟨p, hpk, hp2, _⟩ := at_in k0 k1
        rw [hpk, hat]
        refine ok_bnd (P := fun c => c = (!(dval ah k).isSome && can p st)) (ok_andO (fun h => ?_) (fun h => by rw [h]; rfl)) fun c hc => ?_
        · rw [h, Bool.true_and]
          show Ok (bnd (atI ss s) _) _
          rw [hst]
          show Ok (bnd (m_can_sit p st) _) _
          rw [can_eq]
          exact ok_some rfl
        · subst hc
          refine ok_bnd (P := fun o => match o with
            | .nx b => Rd0 ps ss own n b.1 b.2 ∧ (∃ e, ahead ++ e = b.1) ∧ (∃ e, reached ++ e = b.2) ∧ ∀ k', k' < ((i + 1 : Nat) : Int) → Cn ps ss k' s → k' ∈ b.1.map (·.1)
            | .rt r => Road ps ss own n r) (ok_ite (fun h => ?_) (fun h => ?_)) fun o ho => ?_
          · rw [Bool.and_eq_true, Bool.not_eq_true'] at h
            have hnone : dval ah k = none := Option.not_isSome_iff_eq_none.mp (by rw [h.1]; exact Bool.false_ne_true)
            have hcn : Cn ps ss k s := ⟨k0, k1, sq0, sq1, fun p' t' h1 h2 => by rw [hpk] at h1; rw [hst] at h2; cases h1; cases h2; exact h.2⟩
            show Ok (bnd (some s) _) _
            refine ok_bnd (P := fun z => z = s) (ok_some rfl) fun z hz1 => ?_
            subst hz1
            refine ok_chk (by omega) (ok_lt fun kv hkv => ok_ite (fun ho => ok_some ?_) (fun ho => ?_))
            · rw [Bool.not_eq_true'] at ho
              have hno : dval own k = none := Option.not_isSome_iff_eq_none.mp (by rw [ho]; exact Bool.false_ne_true)
              exact ⟨ah, z, j1, hnone, hsr, hcn, hno, by rw [hkv, dput_new hnone]⟩
            · rw [Bool.not_eq_false'] at ho
              obtain ⟨t, ht⟩ := Option.isSome_iff_exists.mp ho
              rw [ht]
              refine ok_bnd (P := fun y => y = t) (ok_some rfl) fun y hy => ?_
              subst hy
              refine ok_chk (by omega) (ok_lt fun re' hre => ok_some ?_)
              rw [hkv, hre, dput_new hnone]
              refine ⟨j1.snoc hnone hsr hcn ht, ⟨e1 ++ [(k, z)], by rw [← he1, List.append_assoc]⟩, ⟨e2 ++ [y], by rw [← he2, List.append_assoc]⟩, fun k' hk' hc' => ?_⟩
              rw [List.map_append]
              by_cases hkk : k' = k
              · exact List.mem_append_right _ (by rw [hkk]; exact List.mem_singleton.mpr rfl)
              · exact List.mem_append_left _ (j4 k' (by omega) hc')
          · refine ok_some ⟨j1, ⟨e1, he1⟩, ⟨e2, he2⟩, fun k' hk' hc' => ?_⟩
            by_cases hkk : k' = k
            · subst hkk
              rw [Bool.and_eq_false_iff, hc'.2.2.2.2 p st hpk hst, Bool.not_eq_false'] at h
              rcases h with h | h
              · exact dval_some_key.mp h
              · cases h
            · exact j4 k' (by omega) hc'
          · refine ok_go (fun b hb => ?_) (fun r hb => ?_)
            · subst hb; exact ok_some ho
            · subst hb; exact ok_some ho
      · rintro b ⟨j1, j2, j3, j4⟩
        refine ⟨j1, j2, j3, fun k hc => j4 k ?_ hc⟩
        rw [rng_len_nn (by omega)]
        have := hc.2.1
        omega
      · exact fun r h => h
      · intro o ho
        refine ok_go (fun b hb => ?_) (fun r hb => ?_)
        · subst hb
          obtain ⟨j1, ⟨e1, he1⟩, ⟨e2, he2⟩, j4⟩ := ho
          have hl2 : reached.length ≤ b.2.length := by rw [← he2, List.length_append]; omega
          have hbg1 := j1.big
          have hrl1 := j1.len
          refine ok_lt fun a' ha' => ok_some ⟨⟨j1, by dsimp only; omega, by dsimp only; omega, fun j s' hj hs' k hc => ?_⟩, by dsimp only; omega⟩
          dsimp only at hj hs' ⊢
          have hjr : j < reached.length := by omega
          rw [← he2, List.getElem?_append_left hjr] at hs'
          by_cases hja : (j : Int) < a
          · rw [← he1, List.map_append]
            exact List.mem_append_left _ (hx j s' hja hs' k hc)
          · have : j = a.toNat := by omega
            rw [this, hs3] at hs'
            cases hs'
            exact j4 k hc
        · subst hb; exact ok_some ho
    · rename_i hlt
      have hlt : ¬ a < (reached.length : Int) := by simpa using hlt
      refine ⟨hr, fun s hs k hc => ?_⟩
      obtain ⟨j, hj⟩ := List.mem_iff_getElem?.mp hs
      have := (List.getElem?_eq_some_iff.mp hj).1
      dsimp only at this
      exact hx j s (by omega) hj k hc
  · refine ⟨⟨by simp, by rw [hr0]; rfl, by rw [hr0]; rfl, fun i e h => by simp at h, fun i e h => by simp at h⟩, by dsimp only; omega, by dsimp only; omega, fun j s hj => by dsimp only at hj; omega⟩
  · intro o ho
    refine ok_go (fun b hb => ?_) (fun r hb => ?_)
    · subst hb; exact ok_some ho
    · subst hb; exact ok_some ho
theorem ixN_get {n : Nat} {i : Int} (h0 : 0 ≤ i) (h1 : i < n) : ixN n i = some i.toNat := by
  unfold ixN
  rw [if_pos h0, if_pos (by omega)]
structure Sh (ps : List (Str × Tu Str)) (ss : List (Tu Str)) (n : Nat) (own : List (Int × Int)) (row : List (Option Int)) (q : Int) : Prop where
  len : row.length = ss.length
  fil : ∀ k : Nat, k < n → ∃ p : Int, row[k]? = some (some p) ∧ Cn ps ss p k
  emp : ∀ k : Nat, n ≤ k → k < ss.length → row[k]? = some none
  iff : ∀ p s : Int, p ≠ q → (dval own p = some s ↔ (0 ≤ s ∧ row[s.toNat]? = some (some p)))
  no : ∀ k : Nat, row[k]? ≠ some (some q)
theorem getset {α : Type} {xs : List α} {i j : Nat} {x : α} (h : i < xs.length) : (xs.set i x)[j]? = if j = i then some x else xs[j]? := by
  rw [List.getElem?_set]
  by_cases e : i = j
  · subst e
    rw [if_pos rfl, if_pos h, if_pos rfl]
  · rw [if_neg e, if_neg (fun z => e z.symm)]
theorem Sh.turn {ps : List (Str × Tu Str)} {ss : List (Tu Str)} {n : Nat} {own : List (Int × Int)} {row : List (Option Int)} {q f : Int} {s : Nat} (h : Sh ps ss n own row q) (hs : row[s]? = some (some f)) (hc : Cn ps ss q s) : Sh ps ss n (dput own q s) (row.set s (some q)) f := by
  have hl := (List.getElem?_eq_some_iff.mp hs).1
  have hqf : q ≠ f := fun e => h.no s (by rw [hs, e])
  have hsn : s < n := by
    by_cases z : s < n
    · exact z
    · have := h.emp s (by omega) (by have := h.len; omega)
      rw [hs] at this
      cases this
  refine ⟨by rw [List.length_set]; exact h.len, fun k hk => ?_, fun k hk hk2 => ?_, fun p t hp => ?_, fun k hk => ?_⟩
  · rw [getset hl]
    by_cases e : k = s
    · subst e; exact ⟨q, if_pos rfl, hc⟩
    · rw [if_neg e]; exact h.fil k hk
  · rw [getset hl, if_neg (by omega)]
    exact h.emp k hk hk2
  · rw [dval_put, getset hl]
    by_cases e : p = q
    · subst e
      rw [if_pos rfl]
      constructor
      · intro z
        cases z
        rw [Int.toNat_natCast, if_pos rfl]
        exact ⟨by omega, rfl⟩
      · rintro ⟨t0, z⟩
        split at z
        · rename_i e2; rw [← e2, Int.toNat_of_nonneg t0]
        · exact absurd z (h.no _)
    · rw [if_neg e, h.iff p t e]
      by_cases e2 : t.toNat = s
      · rw [if_pos e2, e2, hs]
        constructor
        · rintro ⟨_, z⟩; exact absurd (Option.some.inj (Option.some.inj z)).symm hp
        · rintro ⟨_, z⟩; exact absurd (Option.some.inj (Option.some.inj z)).symm e
      · rw [if_neg e2]
  · rw [getset hl] at hk
    split at hk
    · exact hqf (Option.some.inj (Option.some.inj hk))
    · rename_i e
      have a1 := (h.iff f s (fun z => hqf z.symm)).mpr ⟨by omega, by rw [Int.toNat_natCast]; exact hs⟩
      have a2 := (h.iff f k (fun z => hqf z.symm)).mpr ⟨by omega, by rw [Int.toNat_natCast]; exact hk⟩
      rw [a1] at a2
      have := Option.some.inj a2
      omega
theorem Sh.last {ps : List (Str × Tu Str)} {ss : List (Tu Str)} {n : Nat} {own : List (Int × Int)} {row : List (Option Int)} {q : Int} (h : Sh ps ss n own row q) (hn : n < ss.length) (hc : Cn ps ss q n) : Sd ps ss (n + 1) (dput own q n) (row.set n (some q)) := by
  have hl : n < row.length := by rw [h.len]; exact hn
  have hem := h.emp n (Nat.le_refl _) hn
  refine ⟨by rw [List.length_set]; exact h.len, fun k hk => ?_, fun k hk hk2 => ?_, fun p t => ?_⟩
  · rw [getset hl]
    by_cases e : k = n
    · subst e; exact ⟨q, if_pos rfl, hc⟩
    · rw [if_neg e]; exact h.fil k (by omega)
  · rw [getset hl, if_neg (by omega)]
    exact h.emp k (by omega) hk2
  · rw [dval_put, getset hl]
    by_cases e : p = q
    · subst e
      rw [if_pos rfl]
      constructor
      · intro z
        cases z
        rw [Int.toNat_natCast, if_pos rfl]
        exact ⟨by omega, rfl⟩
      · rintro ⟨t0, z⟩
        split at z
        · rename_i e2; rw [← e2, Int.toNat_of_nonneg t0]
        · exact absurd z (h.no _)
    · rw [if_neg e, h.iff p t e]
      by_cases e2 : t.toNat = n
      · rw [if_pos e2, e2, hem]
        constructor
        · rintro ⟨_, z⟩; cases z
        · rintro ⟨_, z⟩; exact absurd (Option.some.inj (Option.some.inj z)).symm e
      · rw [if_neg e2]
theorem shift_ok {ps : List (Str × Tu Str)} {ss : List (Tu Str)} {own : List (Int × Int)} {row : List (Option Int)} {n : Nat} {ahead : List (Int × Int)} {reached : List Int} {k s : Int} (hp : ps.length ≤ 1000) (hs : ss.length ≤ 1000) (sd : Sd ps ss n own row) (hn : n < ss.length) (hr : Rd0 ps ss own n ahead reached) (hk : dval ahead k = none) (hsr : s ∈ reached) (hc : Cn ps ss k s) (ho : dval own k = none) (hol : own.length ≤ 1001 * n) : Ok (m_shift_along own row (ahead ++ [(k, s)]) (some k)) (fun r => Sd ps ss (n + 1) r.1 r.2 ∧ r.1.length ≤ 1001 * (n + 1)) := by
  unfold m_shift_along
  have hz := szl
  have hbg := hr.big
  have hrl := hr.len
  have knot : k ∉ ahead.map (·.1) := fun hm => by
    have := dval_some_key.mpr hm
    rw [hk] at this
    cases this
  have hnd : ((ahead ++ [(k, s)]).map (·.1)).Nodup := by
    rw [List.map_append, List.nodup_append]
    refine ⟨hr.nd, by simp, fun a ha b hb e => ?_⟩
    simp at hb
    exact knot (by rw [← hb, ← e]; exact ha)
  have hpar : ∀ (i : Nat) (e : Int × Int), (ahead ++ [(k, s)])[i]? = some e → Cn ps ss e.1 e.2 ∧ ∃ j : Nat, j ≤ i ∧ reached[j]? = some e.2 := fun i e hi => by
    by_cases hlt : i < ahead.length
    · rw [List.getElem?_append_left hlt] at hi
      exact hr.par i e hi
    · have : i = ahead.length := by
        have := (List.getElem?_eq_some_iff.mp hi).1
        rw [List.length_append, List.length_singleton] at this
        omega
      subst this
      rw [List.getElem?_append_right (Nat.le_refl _), Nat.sub_self] at hi
      cases hi
      obtain ⟨j, hj⟩ := List.mem_iff_getElem?.mp hsr
      have := (List.getElem?_eq_some_iff.mp hj).1
      exact ⟨hc, j, by omega, hj⟩
  refine ok_bnd (P := fun b => Sd ps ss (n + 1) b.2.1 b.1 ∧ b.2.1.length ≤ 1001 * (n + 1)) (ok_whileN (fun m b => m + b.2.1.length ≤ 1001 * (n + 1) ∧ m ≤ 1001 ∧ match b.2.2 with
    | none => Sd ps ss (n + 1) b.2.1 b.1
    | some q => ∃ (i : Nat) (e : Int × Int), m = i + 1 ∧ (ahead ++ [(k, s)])[i]? = some e ∧ e.1 = q ∧ Sh ps ss n b.2.1 b.1 q ∧ ∀ (j : Nat) (t : Int), j ≤ i → reached[j]? = some t → b.1[t.toNat]? = row[t.toNat]?) ?_ _ (ahead.length + 1) _ ?_ (by rw [fuel_eq]; omega)) ?_
  · rintro m ⟨row1, own1, q1⟩ ⟨hm, hm2, hI⟩
    dsimp only at hm hI ⊢
    refine ok_some ?_
    cases q1 with
    | none =>
      rw [if_neg (show ¬ (none : Option Int).isSome = true by decide)]
      exact ⟨hI, by omega⟩
    | some q =>
      obtain ⟨i, e, rfl, hi, rfl, sh, un⟩ := hI
      obtain ⟨hcn, j, hji, hj⟩ := hpar i e hi
      have hdv := dval_get hnd hi
      rw [if_pos (show (some e.1).isSome = true from rfl)]
      refine ok_bnd (P := fun z => z = e.1) (ok_some rfl) fun z hz1 => ?_
      subst hz1
      refine ok_bnd (P := fun z => z = e.2) (ok_eq hdv rfl) fun z hz1 => ok_lt fun z2 hz2 => ?_
      subst hz1
      subst hz2
      obtain ⟨c1, c2, c3, c4, c5⟩ := hcn
      have hlen := sh.len
      obtain ⟨f, hf, _, hf2⟩ := at_in (xs := row1) c3 (by omega)
      refine ok_bnd (P := fun z => z = f) (ok_eq hf rfl) fun z hz1 => ok_lt fun z2 hz2 => ?_
      subst hz1
      subst hz2
      refine ok_bnd (P := fun z => z = e.2.toNat) (ok_eq (ixN_get c3 (by omega)) rfl) fun z hz1 => ok_lt fun ls hls => ?_
      subst hz1
      subst hls
      refine ok_bnd (P := fun z => z = e.1) (ok_some rfl) fun z hz1 => ?_
      subst hz1
      refine ok_chk (by omega) (ok_lt fun kv hkv => ok_lt fun pl hpl => ok_some ?_)
      subst hkv
      subst hpl
      have hkl := dput_len own1 e.1 e.2
      have hse : ((e.2.toNat : Nat) : Int) = e.2 := Int.toNat_of_nonneg c3
      have hcn' : Cn ps ss e.1 ((e.2.toNat : Nat) : Int) := by rw [hse]; exact ⟨c1, c2, c3, c4, c5⟩
      have hun := un j e.2 hji hj
      rw [hf2] at hun
      cases j with
      | zero =>
        rw [hr.l0] at hj
        have hj := Option.some.inj hj
        have hjn : e.2.toNat = n := by omega
        rw [hjn, sd.emp n (Nat.le_refl _) hn] at hun
        have hun := Option.some.inj hun
        subst hun
        refine ⟨0, by omega, by dsimp only; omega, by omega, ?_⟩
        dsimp only
        have := sh.last hn (by rw [hjn] at hcn'; exact hcn')
        rw [hjn, ← hj]
        exact this
      | succ j =>
        have hjl := (List.getElem?_eq_some_iff.mp hj).1
        have hja : j < ahead.length := by omega
        obtain ⟨t, o1, o2⟩ := hr.own j _ (List.getElem?_eq_getElem hja)
        rw [hj] at o2
        have o2 := Option.some.inj o2
        subst o2
        have o3 := ((sd.iff _ _).mp o1).2
        rw [o3] at hun
        have hun := Option.some.inj hun
        subst hun
        refine ⟨j + 1, by omega, by dsimp only; omega, by omega, ?_⟩
        dsimp only
        refine ⟨j, ahead[j], rfl, by rw [List.getElem?_append_left hja, List.getElem?_eq_getElem hja], rfl, ?_, fun j' t' hj' ht' => ?_⟩
        · have := sh.turn hf2 hcn'
          rw [hse] at this
          exact this
        · have hts : t' ≠ e.2 := fun z => by
            have := hr.ndr sd hn j' (j + 1) e.2 (by rw [← z]; exact ht') hj
            omega
          obtain ⟨t0, _⟩ := hr.seat sd hn (List.mem_of_getElem? ht')
          rw [getset (by omega), if_neg (by omega)]
          exact un j' t' (by omega) ht'
  · dsimp only
    refine ⟨by omega, by omega, ahead.length, (k, s), rfl, by rw [List.getElem?_append_right (Nat.le_refl _), Nat.sub_self]; rfl, rfl, ⟨sd.len, sd.fil, sd.emp, fun p t _ => sd.iff p t, fun i hi => ?_⟩, fun _ _ _ _ => rfl⟩
    have := (sd.iff k i).mpr ⟨by omega, by rw [Int.toNat_natCast]; exact hi⟩
    rw [ho] at this
    cases this
  · exact fun b hb => ok_some hb
def Told (ps : List (Str × Tu Str)) (ss : List (Tu Str)) (r : Str × List (Option Int)) : Prop :=
  (r.1 = ("seated" : Str) ∧ ∃ own, Sd ps ss ss.length own r.2) ∨ (r.1 = ("short" : Str) ∧ ∃ (n : Nat) (own : List (Int × Int)) (row : List (Option Int)) (ahead : List (Int × Int)) (reached : List Int), n < ss.length ∧ Sd ps ss n own row ∧ Rd0 ps ss own n ahead reached ∧ (∀ s ∈ reached, ∀ k, Cn ps ss k s → k ∈ ahead.map (·.1)) ∧ r.2 = (sortI reached).map some)
theorem seat_all_ok {ps : List (Str × Tu Str)} {ss : List (Tu Str)} (hp : ps.length ≤ 1000) (hs : ss.length ≤ 1000) : Ok (m_seat_all ps ss) (Told ps ss) := by
  unfold m_seat_all
  have hz := szl
  have er : repl (ss.length : Int) [(none : Option Int)] = List.replicate ss.length none := by
    rw [repl_one]; rfl
  rw [er]
  refine ok_chk ⟨by omega, by omega, by show 1 * _ ≤ _; omega⟩ (ok_lt fun r0 hr0 => ok_chk ⟨by omega, by omega⟩ (ok_bnd (P := fun o => match o with
    | .nx b => Sd ps ss ss.length b.1 b.2
    | .rt r => Told ps ss r) (ok_foldF (fun i b => Sd ps ss i b.1 b.2 ∧ b.1.length ≤ 1001 * i) (Told ps ss) ?_ ?_ ?_ ?_) ?_))
  · subst hr0
    refine ⟨⟨List.length_replicate, fun k hk => absurd hk (Nat.not_lt_zero _), fun k _ hk => by rw [List.getElem?_replicate, if_pos hk], fun p s => ⟨fun h => (by cases h), fun ⟨_, h⟩ => ?_⟩⟩, Nat.zero_le _⟩
    dsimp only at h
    rw [List.getElem?_replicate] at h
    split at h <;> cases h
  · rintro i ⟨own, row⟩ x hx ⟨sd, hl⟩
    dsimp only at sd hl ⊢
    obtain ⟨e1, e2⟩ := rng_at hx
    have hi : i < ss.length := by omega
    rw [show x = (i : Int) by omega]
    refine ok_bnd (P := Road ps ss own i) (road_ok hp hs sd hi) fun r hr => ?_
    obtain ⟨a, b, c⟩ := r
    cases a with
    | none => exact ok_some (.inr ⟨rfl, i, own, row, b, c, hi, sd, hr.1, hr.2, rfl⟩)
    | some k =>
      obtain ⟨ahead, s, h1, h2, h3, h4, h5, h6⟩ := hr
      dsimp only at h1 h2 h3 h4 h5 h6 ⊢
      rw [h6]
      show Ok (bnd (m_shift_along own row (ahead ++ [(k, s)]) (some k)) _) _
      exact ok_bnd (shift_ok hp hs sd hi h1 h2 h3 h4 h5 hl) fun r hr => ok_some hr
  · rintro b ⟨h1, h2⟩
    rw [rng_len_nn (by omega), Int.toNat_natCast] at h1
    exact h1
  · exact fun r h => h
  · intro o ho
    refine ok_go (fun b hb => ?_) (fun r hb => ?_)
    · subst hb; exact ok_some (.inl ⟨rfl, _, ho⟩)
    · subst hb; exact ok_some ho
def gg (xs : List Int) (p : Int) : Int := xs.getD p.toNat 0
theorem at_gg {xs : List Int} {p : Int} (h0 : 0 ≤ p) (h1 : p < xs.length) : atI xs p = some (gg xs p) := by
  unfold gg
  rw [atI_get h0 h1, List.getD_eq_getElem?_getD, List.getElem?_eq_getElem (by omega)]; rfl
theorem gg_set {xs : List Int} {j : Nat} {v k : Int} (hj : j < xs.length) (h0 : 0 ≤ k) : gg (xs.set j v) k = if k = j then v else gg xs k := by
  unfold gg
  rw [List.getD_eq_getElem?_getD, List.getElem?_set]
  by_cases h : k = j
  · rw [if_pos (show j = k.toNat by omega), if_pos (by omega), if_pos h]; rfl
  · rw [if_neg (show ¬ j = k.toNat by omega), if_neg h, List.getD_eq_getElem?_getD]
theorem dput_keys {τ : Type} (xs : List (Int × τ)) (k : Int) (y : τ) : (dput xs k y).map (·.1) = if (dval xs k).isSome = true then xs.map (·.1) else xs.map (·.1) ++ [k] := by
  unfold dput
  rw [dval_any]
  split
  · rw [List.map_map]
    refine List.map_congr_left fun z _ => ?_
    show (if z.1 = k then (z.1, y) else z).1 = z.1
    split <;> rfl
  · rw [List.map_append]; rfl
theorem dput_nd {τ : Type} {xs : List (Int × τ)} {k : Int} {y : τ} (h : (xs.map (·.1)).Nodup) : ((dput xs k y).map (·.1)).Nodup := by
  rw [dput_keys]
  split
  · exact h
  · rename_i hk
    rw [List.nodup_append]
    refine ⟨h, by simp, fun a ha b hb e => ?_⟩
    simp at hb
    exact hk (dval_some_key.mpr (by rw [← hb, ← e]; exact ha))
theorem dval_take {τ : Type} {xs : List (Int × τ)} (hn : (xs.map (·.1)).Nodup) {i : Nat} {e : Int × τ} (h : xs[i]? = some e) (k : Int) : dval (xs.take i) e.1 = none ∧ dval (xs.take (i + 1)) k = if k = e.1 then some e.2 else dval (xs.take i) k := by
  have hnone : dval (xs.take i) e.1 = none := by
    refine dval_none_of fun z hz ez => ?_
    obtain ⟨j, hj⟩ := List.mem_iff_getElem?.mp hz
    rw [List.getElem?_take] at hj
    split at hj
    · rename_i hji
      have m1 : (xs.map (·.1))[i]? = some e.1 := by rw [List.getElem?_map, h]; rfl
      have m2 : (xs.map (·.1))[j]? = some e.1 := by rw [List.getElem?_map, hj, ← ez]; rfl
      obtain ⟨b1, c1⟩ := List.getElem?_eq_some_iff.mp m1
      obtain ⟨b2, c2⟩ := List.getElem?_eq_some_iff.mp m2
      have := (List.getElem_inj hn (h₀ := b1) (h₁ := b2)).mp (c1.trans c2.symm)
      omega
    · cases hj
  refine ⟨hnone, ?_⟩
  have e1 : xs.take (i + 1) = xs.take i ++ [(e.1, e.2)] := by
    rw [List.take_add_one, h]; rfl
  rw [e1, dval_app, dval_cons, dval_nil]
  by_cases hk : k = e.1
  · subst hk
    rw [if_pos rfl, if_pos rfl, hnone]; rfl
  · rw [if_neg hk, if_neg (fun z => hk z.symm), Option.or_none]
def cst (cs : List (Dc Int Int)) (s k : Int) : Option Int := match atI cs s with
  | some d => dval d.l k
  | none => none
def Cs (n : Nat) (cs : List (Dc Int Int)) : Prop := ∀ d ∈ cs, (d.l.map (·.1)).Nodup ∧ ∀ z ∈ d.l, 0 ≤ z.1 ∧ z.1 < n
def slk (P : R_Prices) (sl : List (Int × Int)) (s k : Int) : Option Int := match cst P.costs s k with
  | none => dval sl k
  | some c => match dval sl k with
    | none => some (c - gg P.of_seat s - gg P.of_player k)
    | some x => some (if c - gg P.of_seat s - gg P.of_player k < x then c - gg P.of_seat s - gg P.of_player k else x)
def ahd (P : R_Prices) (sl ah : List (Int × Int)) (s k : Int) : Option Int := match cst P.costs s k with
  | none => dval ah k
  | some c => match dval sl k with
    | none => some s
    | some x => if c - gg P.of_seat s - gg P.of_player k < x then some s else dval ah k
theorem slacks_ok {P : R_Prices} {n : Nat} (hn : n ≤ 1000) (hc : Cs n P.costs) (hv : P.of_player.length = n) (hu : P.of_seat.length = P.costs.length) {sl ah : List (Int × Int)} {s : Int} (s0 : 0 ≤ s) (s1 : s < P.costs.length) (l1 : sl.length ≤ 2000000) (l2 : ah.length ≤ 2000000) (nd : (sl.map (·.1)).Nodup) :
    Ok (m_Prices_slacks P sl ah s) (fun r => (∀ k, dval r.1 k = slk P sl s k) ∧ (∀ k, dval r.2 k = ahd P sl ah s k) ∧ (r.1.map (·.1)).Nodup ∧ r.1.length ≤ sl.length + n ∧ r.2.length ≤ ah.length + n) := by
  unfold m_Prices_slacks
  have hz := szl
  obtain ⟨d, hd, hdm, _⟩ := at_in s0 s1
  obtain ⟨dn, dr⟩ := hc d hdm
  have hcst : ∀ k, cst P.costs s k = dval d.l k := fun k => by unfold cst; rw [hd]
  have hdl : d.l.length ≤ n := by
    have h1 := nd_sub_len (m := rng 0 (n : Int)) dn (fun x hx => by
      obtain ⟨z, hz, rfl⟩ := List.mem_map.mp hx
      exact mem_rng.mpr (dr z hz))
    rw [List.length_map, rng_len] at h1
    omega
  rw [hd]
  refine ok_bnd (P := fun x => x = d) (ok_some rfl) fun d' e => ?_
  subst e
  refine ok_bnd (P := fun r : List (Int × Int) × List (Int × Int) => (∀ k, dval r.1 k = slk P sl s k) ∧ (∀ k, dval r.2 k = ahd P sl ah s k) ∧ (r.1.map (·.1)).Nodup ∧ r.1.length ≤ sl.length + n ∧ r.2.length ≤ ah.length + n) (ok_foldO (fun i r => (∀ k, dval r.1 k = if (dval (d'.l.take i) k).isSome = true then slk P sl s k else dval sl k) ∧ (∀ k, dval r.2 k = if (dval (d'.l.take i) k).isSome = true then ahd P sl ah s k else dval ah k) ∧ (r.1.map (·.1)).Nodup ∧ r.1.length ≤ sl.length + i ∧ r.2.length ≤ ah.length + i) ?_ ?_ ?_) fun r hr => ok_some hr
  · exact ⟨fun k => rfl, fun k => rfl, nd, Nat.le_refl _, Nat.le_refl _⟩
  · rintro i ⟨a, b⟩ ⟨k, c⟩ hx ⟨i1, i2, i3, i4, i5⟩
    dsimp only at i1 i2 i3 i4 i5 ⊢
    have hi := (List.getElem?_eq_some_iff.mp hx).1
    have hdk : dval d'.l k = some c := dval_get dn hx
    have htk := dval_take dn hx
    dsimp only at htk
    obtain ⟨k0, k1⟩ := dr _ (List.mem_of_getElem? hx)
    dsimp only at k0 k1
    rw [at_gg (xs := P.of_seat) s0 (by omega), at_gg (xs := P.of_player) k0 (by omega)]
    refine ok_bnd (P := fun x => x = gg P.of_seat s) (ok_some rfl) fun u hu1 => ok_bnd (P := fun x => x = gg P.of_player k) (ok_some rfl) fun v hv1 => ok_lt fun left hleft => ?_
    subst hu1 hv1
    have ea : dval a k = dval sl k := by rw [i1, (htk k).1]; rfl
    have eb : dval b k = dval ah k := by rw [i2, (htk k).1]; rfl
    have es : slk P sl s k = match dval sl k with
      | none => some left
      | some x => some (if left < x then left else x) := by
      unfold slk
      rw [hcst, hdk, hleft]
    have eh : ahd P sl ah s k = match dval sl k with
      | none => some s
      | some x => if left < x then some s else dval ah k := by
      unfold ahd
      rw [hcst, hdk, hleft]
    have key : ∀ (cnd : Bool) (a' b' : List (Int × Int)), (∀ j, j ≠ k → dval a' j = dval a j) → (∀ j, j ≠ k → dval b' j = dval b j) → dval a' k = slk P sl s k → dval b' k = ahd P sl ah s k →
        (∀ j, dval a' j = if (dval (d'.l.take (i + 1)) j).isSome = true then slk P sl s j else dval sl j) ∧ (∀ j, dval b' j = if (dval (d'.l.take (i + 1)) j).isSome = true then ahd P sl ah s j else dval ah j) := by
      intro cnd a' b' h1 h2 h3 h4
      refine ⟨fun j => ?_, fun j => ?_⟩
      · rw [(htk j).2]
        by_cases hj : j = k
        · subst hj; rw [if_pos rfl, h3]; rfl
        · rw [if_neg hj, h1 j hj, i1]
      · rw [(htk j).2]
        by_cases hj : j = k
        · subst hj; rw [if_pos rfl, h4]; rfl
        · rw [if_neg hj, h2 j hj, i2]
    have hp1 := dput_len a k left
    have hp2 := dput_len b k s
    refine ok_bnd (P := fun q => q = match dval sl k with
      | none => true
      | some x => decide (left < x)) ?_ fun q hq => ok_bnd (P := fun r : List (Int × Int) × List (Int × Int) => (∀ j, dval r.1 j = if (dval (d'.l.take (i + 1)) j).isSome = true then slk P sl s j else dval sl j) ∧ (∀ j, dval r.2 j = if (dval (d'.l.take (i + 1)) j).isSome = true then ahd P sl ah s j else dval ah j) ∧ (r.1.map (·.1)).Nodup ∧ r.1.length ≤ sl.length + (i + 1) ∧ r.2.length ≤ ah.length + (i + 1)) (ok_ite (fun h => ok_chk (by omega) (ok_lt fun a' ha' => ok_chk (by omega) (ok_lt fun b' hb' => ok_some ?_))) (fun h => ok_some ?_)) fun r hr => ok_some hr
    · rw [ea]
      cases hsl : dval sl k with
      | none => exact ok_some rfl
      | some x => exact ok_some rfl
    · subst ha' hb'
      obtain ⟨g1, g2⟩ := key true _ _ (fun j hj => by rw [dval_put, if_neg hj]) (fun j hj => by rw [dval_put, if_neg hj]) (by
        rw [dval_put, if_pos rfl, es]
        rw [h] at hq
        cases hsl : dval sl k with
        | none => rfl
        | some x => rw [hsl] at hq; dsimp only at hq ⊢; rw [if_pos (of_decide_eq_true hq.symm)]) (by
        rw [dval_put, if_pos rfl, eh]
        rw [h] at hq
        cases hsl : dval sl k with
        | none => rfl
        | some x => rw [hsl] at hq; dsimp only at hq ⊢; rw [if_pos (of_decide_eq_true hq.symm)])
      exact ⟨g1, g2, dput_nd i3, by dsimp only; omega, by dsimp only; omega⟩
    · rw [h] at hq
      obtain ⟨g1, g2⟩ := key true a b (fun _ _ => rfl) (fun _ _ => rfl) (by
        rw [ea, es]
        cases hsl : dval sl k with
        | none => rw [hsl] at hq; cases hq
        | some x => rw [hsl] at hq; dsimp only at hq ⊢; rw [if_neg (of_decide_eq_false hq.symm)]) (by
        rw [eb, eh]
        cases hsl : dval sl k with
        | none => rw [hsl] at hq; cases hq
        | some x => rw [hsl] at hq; dsimp only at hq ⊢; rw [if_neg (of_decide_eq_false hq.symm)])
      exact ⟨g1, g2, i3, by dsimp only; omega, by dsimp only; omega⟩
  · rintro r ⟨i1, i2, i3, i4, i5⟩
    rw [List.take_length] at i1 i2
    refine ⟨fun k => ?_, fun k => ?_, i3, by omega, by omega⟩
    · rw [i1]
      cases hdk : dval d'.l k with
      | none => show dval sl k = _; unfold slk; rw [hcst, hdk]
      | some c => rfl
    · rw [i2]
      cases hdk : dval d'.l k with
      | none => show dval ah k = _; unfold ahd; rw [hcst, hdk]
      | some c => rfl
def nb (sl : List (Int × Int)) (x : Int) : Option Int → Bool
  | none => true
  | some p => match dval sl p with
    | some y => decide (x < y)
    | none => false
theorem nb_some {sl : List (Int × Int)} {x p y : Int} (h : dval sl p = some y) : nb sl x (some p) = decide (x < y) := by simp [nb, h]
def Near (sl : List (Int × Int)) (done : List Int) (ks : List Int) : Option Int → Prop
  | none => ∀ k ∈ ks, k ∈ done
  | some p => p ∈ ks ∧ p ∉ done ∧ ∃ x, dval sl p = some x ∧ ∀ k ∈ ks, k ∉ done → ∀ y, dval sl k = some y → x ≤ y
theorem nearest_ok {P : R_Prices_u} {sl : List (Int × Int)} {done : List Int} : Ok (m_Prices_nearest P sl done) (Near sl done (sl.map (·.1))) := by
  unfold m_Prices_nearest
  refine ok_lt fun b0 hb0 => ok_bnd (P := Near sl done (sl.map (·.1))) (ok_foldO (fun i b => Near sl done ((sl.map (·.1)).take i) b) ?_ ?_ ?_) fun b hb => ok_some hb
  · subst hb0
    intro k hk
    simp at hk
  · rintro i b k hx hb
    obtain ⟨x, hx2⟩ := Option.isSome_iff_exists.mp (dval_some_key.mpr (List.mem_of_getElem? hx))
    have et : (sl.map (·.1)).take (i + 1) = (sl.map (·.1)).take i ++ [k] := by rw [List.take_add_one, hx]; rfl
    rw [et]
    refine ok_bnd (P := fun q => q = (!decide (k ∈ done) && nb sl x b)) (ok_andO (fun h => ?_) (fun h => by rw [h]; rfl)) fun q hq => ok_bnd (P := fun b' => Near sl done ((sl.map (·.1)).take i ++ [k]) b') (ok_ite (fun h => ok_lt fun z hz => ok_some ?_) (fun h => ok_some ?_)) fun b' hb' => ok_some hb'
    · rw [h, Bool.true_and]
      cases b with
      | none => exact ok_ret (ok_some rfl)
      | some p =>
        obtain ⟨p1, p2, y, hy, hmin⟩ := hb
        rw [hx2, nb_some hy]
        show Ok (bnd (bnd (dval sl p) fun g => some (decide (x < g))) fun c => some c) _
        rw [hy]
        exact ok_some rfl
    · rw [hz]
      rw [h] at hq
      have hq := hq.symm
      rw [Bool.and_eq_true, Bool.not_eq_true', decide_eq_false_iff_not] at hq
      refine ⟨List.mem_append_right _ (List.mem_singleton.mpr rfl), hq.1, x, hx2, fun j hj hjd y hy => ?_⟩
      rcases List.mem_append.mp hj with hj | hj
      · cases b with
        | none => exact absurd (hb j hj) hjd
        | some p =>
          obtain ⟨p1, p2, y2, hy2, hmin⟩ := hb
          have h2 := hq.2
          rw [nb_some hy2] at h2
          have h2 := of_decide_eq_true h2
          have := hmin j hj hjd y hy
          omega
      · rw [List.mem_singleton.mp hj, hx2] at hy
        cases hy
        exact Int.le_refl _
    · rw [h] at hq
      have hq := hq.symm
      cases b with
      | none =>
        have hq : (!decide (k ∈ done) && true) = false := hq
        rw [Bool.and_true, Bool.not_eq_false', decide_eq_true_iff] at hq
        intro j hj
        rcases List.mem_append.mp hj with hj | hj
        · exact hb j hj
        · rw [List.mem_singleton.mp hj]; exact hq
      | some p =>
        obtain ⟨p1, p2, y2, hy2, hmin⟩ := hb
        refine ⟨List.mem_append_left _ p1, p2, y2, hy2, fun j hj hjd y hy => ?_⟩
        rcases List.mem_append.mp hj with hj | hj
        · exact hmin j hj hjd y hy
        · rw [List.mem_singleton.mp hj] at hjd hy
          rw [nb_some hy2, decide_eq_false hjd] at hq
          have hq : decide (x < y2) = false := hq
          have := of_decide_eq_false hq
          rw [hx2] at hy
          cases hy
          omega
  · intro b hb
    rw [List.take_length] at hb
    exact hb
theorem nodup_take_mem {xs : List Int} (hn : xs.Nodup) {i : Nat} {x : Int} (h : xs[i]? = some x) : x ∉ xs.take i := fun hm => by
  obtain ⟨j, hj⟩ := List.mem_iff_getElem?.mp hm
  rw [List.getElem?_take] at hj
  split at hj
  · rename_i hji
    obtain ⟨b1, c1⟩ := List.getElem?_eq_some_iff.mp h
    obtain ⟨b2, c2⟩ := List.getElem?_eq_some_iff.mp hj
    have := (List.getElem_inj hn (h₀ := b1) (h₁ := b2)).mp (c1.trans c2.symm)
    omega
  · cases hj
theorem take_snoc {α : Type} {xs : List α} {i : Nat} {x : α} (h : xs[i]? = some x) : xs.take (i + 1) = xs.take i ++ [x] := by rw [List.take_add_one, h]; rfl
structure Rai (P P' : R_Prices) (seats done : List Int) (step : Int) : Prop where
  cs : P'.costs = P.costs
  sb : P'.seat_by = P.seat_by
  rw_ : P'.row = P.row
  ul : P'.of_seat.length = P.of_seat.length
  vl : P'.of_player.length = P.of_player.length
  u : ∀ s, 0 ≤ s → gg P'.of_seat s = gg P.of_seat s + if s ∈ seats then step else 0
  v : ∀ k, 0 ≤ k → gg P'.of_player k = gg P.of_player k - if k ∈ done then step else 0
theorem raised_ok {P : R_Prices} {seats done : List Int} {step : Int} (h1 : seats.Nodup) (h2 : ∀ s ∈ seats, 0 ≤ s ∧ s < P.of_seat.length) (h3 : done.Nodup) (h4 : ∀ k ∈ done, 0 ≤ k ∧ k < P.of_player.length) : Ok (m_Prices_raised P seats done step) (fun P' => Rai P P' seats done step) := by
  unfold m_Prices_raised
  refine ok_bnd (P := fun P1 => Rai P P1 seats [] step) (ok_foldO (fun i P1 => Rai P P1 (seats.take i) [] step) ?_ ?_ ?_) fun P1 hP1 => ok_bnd (P := fun P' => Rai P P' seats done step) (ok_foldO (fun i P' => Rai P P' seats (done.take i) step) ?_ ?_ ?_) fun P' hP' => ok_some hP'
  · exact ⟨rfl, rfl, rfl, rfl, rfl, fun s _ => by simp, fun k _ => by simp⟩
  · rintro i P1 s hs h
    obtain ⟨s0, s1⟩ := h2 s (List.mem_of_getElem? hs)
    have hul := h.ul
    have hnm := nodup_take_mem h1 hs
    rw [at_gg (xs := P1.of_seat) s0 (by omega)]
    refine ok_bnd (P := fun z => z = gg P1.of_seat s) (ok_some rfl) fun z hz => ok_bnd (P := fun j => j = s.toNat) (ok_eq (ixN_get s0 (by omega)) rfl) fun j hj => ok_lt fun ls hls => ok_some ?_
    subst hz hj hls
    refine ⟨h.cs, h.sb, h.rw_, by rw [List.length_set]; exact hul, h.vl, fun t t0 => ?_, h.v⟩
    rw [take_snoc hs, gg_set (by omega) t0, h.u s s0, if_neg hnm, Int.add_zero]
    by_cases e : t = s
    · subst e
      rw [if_pos (by omega), if_pos (List.mem_append_right _ (List.mem_singleton.mpr rfl))]
    · rw [if_neg (by omega), h.u t t0]
      congr 1
      by_cases e2 : t ∈ seats.take i
      · rw [if_pos e2, if_pos (List.mem_append_left _ e2)]
      · rw [if_neg e2, if_neg]
        intro hm
        rcases List.mem_append.mp hm with hm | hm
        · exact e2 hm
        · exact e (List.mem_singleton.mp hm)
  · intro P1 hP1
    rw [List.take_length] at hP1
    exact hP1
  · exact ⟨hP1.cs, hP1.sb, hP1.rw_, hP1.ul, hP1.vl, hP1.u, fun k k0 => by rw [hP1.v k k0]; simp⟩
  · rintro i P' k hk h
    obtain ⟨k0, k1⟩ := h4 k (List.mem_of_getElem? hk)
    have hvl := h.vl
    have hnm := nodup_take_mem h3 hk
    rw [at_gg (xs := P'.of_player) k0 (by omega)]
    refine ok_bnd (P := fun z => z = gg P'.of_player k) (ok_some rfl) fun z hz => ok_bnd (P := fun j => j = k.toNat) (ok_eq (ixN_get k0 (by omega)) rfl) fun j hj => ok_lt fun ls hls => ok_some ?_
    subst hz hj hls
    refine ⟨h.cs, h.sb, h.rw_, h.ul, by rw [List.length_set]; exact hvl, h.u, fun t t0 => ?_⟩
    rw [take_snoc hk, gg_set (by omega) t0, h.v k k0, if_neg hnm, Int.sub_zero]
    by_cases e : t = k
    · subst e
      rw [if_pos (by omega), if_pos (List.mem_append_right _ (List.mem_singleton.mpr rfl))]
    · rw [if_neg (by omega), h.v t t0]
      congr 1
      by_cases e2 : t ∈ done.take i
      · rw [if_pos e2, if_pos (List.mem_append_left _ e2)]
      · rw [if_neg e2, if_neg]
        intro hm
        rcases List.mem_append.mp hm with hm | hm
        · exact e2 hm
        · exact e (List.mem_singleton.mp hm)
  · intro P' hP'
    rw [List.take_length] at hP'
    exact hP'
theorem lower_ok {sl : List (Int × Int)} {done : List Int} {step : Int} (nd : (sl.map (·.1)).Nodup) (hl : sl.length ≤ 2000000) : Ok (foldO (fun (b2794 : (List (Int × Int))) (x2796 : Int) =>
 (bnd (if (!decide (x2796 ∈ done)) = true then
 (bnd (dval b2794 x2796) fun got2852 => (chk ((b2794).length < sizeLine) (lt ((dput b2794 x2796 (got2852 - step)) : (List (Int × Int))) fun kv2850 =>
 (some kv2850))))
 else
 (some b2794) : Option ((List (Int × Int)))) fun b2838 =>
 (some b2838))) sl (List.map (fun (z : Int × Int) => z.1) sl)) (fun sl' => (∀ k, dval sl' k = if k ∈ done then dval sl k else (dval sl k).map (· - step)) ∧ sl'.map (·.1) = sl.map (·.1)) := by
  have hz := szl
  refine ok_foldO (fun i b => (∀ k, dval b k = if k ∈ done then dval sl k else if k ∈ (sl.map (·.1)).take i then (dval sl k).map (· - step) else dval sl k) ∧ b.map (·.1) = sl.map (·.1)) ⟨fun k => by simp, rfl⟩ ?_ ?_
  · rintro i b k hk ⟨h1, h2⟩
    have hlen : b.length = sl.length := by
      have := congrArg List.length h2
      rw [List.length_map, List.length_map] at this
      exact this
    have hkey : k ∈ b.map (·.1) := by rw [h2]; exact List.mem_of_getElem? hk
    obtain ⟨y, hy⟩ := Option.isSome_iff_exists.mp (dval_some_key.mpr hkey)
    have hnm := nodup_take_mem nd hk
    refine ok_bnd (P := fun b' : List (Int × Int) => (∀ j, dval b' j = if j ∈ done then dval sl j else if j ∈ (sl.map (·.1)).take (i + 1) then (dval sl j).map (· - step) else dval sl j) ∧ b'.map (·.1) = sl.map (·.1)) (ok_ite (fun h => ?_) (fun h => ok_some ⟨fun j => ?_, h2⟩)) fun b' hb' => ok_some hb'
    · rw [Bool.not_eq_true', decide_eq_false_iff_not] at h
      have hsl : dval sl k = some y := by
        have := h1 k
        rw [if_neg h, if_neg hnm, hy] at this
        exact this.symm
      rw [hy]
      refine ok_bnd (P := fun z => z = y) (ok_some rfl) fun z hz1 => ok_chk (by omega) (ok_lt fun kv hkv => ok_some ⟨fun j => ?_, ?_⟩)
      · subst hz1 hkv
        rw [take_snoc hk, dval_put]
        by_cases e : j = k
        · subst e
          rw [if_pos rfl, if_neg h, if_pos (List.mem_append_right _ (List.mem_singleton.mpr rfl)), hsl]; rfl
        · rw [if_neg e, h1 j]
          by_cases e2 : j ∈ done
          · rw [if_pos e2, if_pos e2]
          · rw [if_neg e2, if_neg e2]
            by_cases e3 : j ∈ (sl.map (·.1)).take i
            · rw [if_pos e3, if_pos (List.mem_append_left _ e3)]
            · rw [if_neg e3, if_neg]
              intro hm
              rcases List.mem_append.mp hm with hm | hm
              · exact e3 hm
              · exact e (List.mem_singleton.mp hm)
      · rw [hkv, dput_keys, if_pos (dval_some_key.mpr hkey)]
        exact h2
    · have h : k ∈ done := by simpa using h
      rw [take_snoc hk, h1 j]
      by_cases e2 : j ∈ done
      · rw [if_pos e2, if_pos e2]
      · have e : j ≠ k := fun z => e2 (by rw [z]; exact h)
        rw [if_neg e2, if_neg e2]
        by_cases e3 : j ∈ (sl.map (·.1)).take i
        · rw [if_pos e3, if_pos (List.mem_append_left _ e3)]
        · rw [if_neg e3, if_neg]
          intro hm
          rcases List.mem_append.mp hm with hm | hm
          · exact e3 hm
          · exact e (List.mem_singleton.mp hm)
  · rintro b ⟨h1, h2⟩
    refine ⟨fun k => ?_, h2⟩
    rw [h1, List.take_of_length_le (Nat.le_refl _)]
    by_cases e2 : k ∈ done
    · rw [if_pos e2, if_pos e2]
    · rw [if_neg e2, if_neg e2]
      by_cases e3 : k ∈ sl.map (·.1)
      · rw [if_pos e3]
      · rw [if_neg e3]
        have : dval sl k = none := Option.not_isSome_iff_eq_none.mp fun z => e3 (dval_some_key.mp z)
        rw [this]; rfl
structure Sg (T : Int → Int → Prop) (L n : Nat) (own : List (Int × Int)) (row : List (Option Int)) : Prop where
  len : row.length = L
  fil : ∀ k : Nat, k < n → ∃ p : Int, row[k]? = some (some p) ∧ T p k
  emp : ∀ k : Nat, n ≤ k → k < L → row[k]? = some none
  iff : ∀ p s : Int, dval own p = some s ↔ (0 ≤ s ∧ row[s.toNat]? = some (some p))
theorem Sg.mono {T T' : Int → Int → Prop} {L n : Nat} {own : List (Int × Int)} {row : List (Option Int)} (h : Sg T L n own row) (k : ∀ (p : Int) (s : Nat), row[s]? = some (some p) → T p s → T' p s) : Sg T' L n own row :=
  ⟨h.len, fun j hj => let ⟨p, h1, h2⟩ := h.fil j hj; ⟨p, h1, k p j h1 h2⟩, h.emp, h.iff⟩
structure Shg (T : Int → Int → Prop) (L n : Nat) (own : List (Int × Int)) (row : List (Option Int)) (q : Int) : Prop where
  len : row.length = L
  fil : ∀ k : Nat, k < n → ∃ p : Int, row[k]? = some (some p) ∧ T p k
  emp : ∀ k : Nat, n ≤ k → k < L → row[k]? = some none
  iff : ∀ p s : Int, p ≠ q → (dval own p = some s ↔ (0 ≤ s ∧ row[s.toNat]? = some (some p)))
  no : ∀ k : Nat, row[k]? ≠ some (some q)
theorem Shg.turn {T : Int → Int → Prop} {L n : Nat} {own : List (Int × Int)} {row : List (Option Int)} {q f : Int} {s : Nat} (h : Shg T L n own row q) (hs : row[s]? = some (some f)) (hc : T q s) : Shg T L n (dput own q s) (row.set s (some q)) f := by
  have hl := (List.getElem?_eq_some_iff.mp hs).1
  have hqf : q ≠ f := fun e => h.no s (by rw [hs, e])
  have hsn : s < n := by
    by_cases z : s < n
    · exact z
    · have := h.emp s (by omega) (by have := h.len; omega)
      rw [hs] at this
      cases this
  refine ⟨by rw [List.length_set]; exact h.len, fun k hk => ?_, fun k hk hk2 => ?_, fun p t hp => ?_, fun k hk => ?_⟩
  · rw [getset hl]
    by_cases e : k = s
    · subst e; exact ⟨q, if_pos rfl, hc⟩
    · rw [if_neg e]; exact h.fil k hk
  · rw [getset hl, if_neg (by omega)]
    exact h.emp k hk hk2
  · rw [dval_put, getset hl]
    by_cases e : p = q
    · subst e
      rw [if_pos rfl]
      constructor
      · intro z
        cases z
        rw [Int.toNat_natCast, if_pos rfl]
        exact ⟨by omega, rfl⟩
      · rintro ⟨t0, z⟩
        split at z
        · rename_i e2; rw [← e2, Int.toNat_of_nonneg t0]
        · exact absurd z (h.no _)
    · rw [if_neg e, h.iff p t e]
      by_cases e2 : t.toNat = s
      · rw [if_pos e2, e2, hs]
        constructor
        · rintro ⟨_, z⟩; exact absurd (Option.some.inj (Option.some.inj z)).symm hp
        · rintro ⟨_, z⟩; exact absurd (Option.some.inj (Option.some.inj z)).symm e
      · rw [if_neg e2]
  · rw [getset hl] at hk
    split at hk
    · exact hqf (Option.some.inj (Option.some.inj hk))
    · rename_i e
      have a1 := (h.iff f s (fun z => hqf z.symm)).mpr ⟨by omega, by rw [Int.toNat_natCast]; exact hs⟩
      have a2 := (h.iff f k (fun z => hqf z.symm)).mpr ⟨by omega, by rw [Int.toNat_natCast]; exact hk⟩
      rw [a1] at a2
      have := Option.some.inj a2
      omega
theorem Shg.last {T : Int → Int → Prop} {L n : Nat} {own : List (Int × Int)} {row : List (Option Int)} {q : Int} (h : Shg T L n own row q) (hn : n < L) (hc : T q n) : Sg T L (n + 1) (dput own q n) (row.set n (some q)) := by
  have hl : n < row.length := by rw [h.len]; exact hn
  have hem := h.emp n (Nat.le_refl _) hn
  refine ⟨by rw [List.length_set]; exact h.len, fun k hk => ?_, fun k hk hk2 => ?_, fun p t => ?_⟩
  · rw [getset hl]
    by_cases e : k = n
    · subst e; exact ⟨q, if_pos rfl, hc⟩
    · rw [if_neg e]; exact h.fil k (by omega)
  · rw [getset hl, if_neg (by omega)]
    exact h.emp k (by omega) hk2
  · rw [dval_put, getset hl]
    by_cases e : p = q
    · subst e
      rw [if_pos rfl]
      constructor
      · intro z
        cases z
        rw [Int.toNat_natCast, if_pos rfl]
        exact ⟨by omega, rfl⟩
      · rintro ⟨t0, z⟩
        split at z
        · rename_i e2; rw [← e2, Int.toNat_of_nonneg t0]
        · exact absurd z (h.no _)
    · rw [if_neg e, h.iff p t e]
      by_cases e2 : t.toNat = n
      · rw [if_pos e2, e2, hem]
        constructor
        · rintro ⟨_, z⟩; cases z
        · rintro ⟨_, z⟩; exact absurd (Option.some.inj (Option.some.inj z)).symm e
      · rw [if_neg e2]
structure Way (T : Int → Int → Prop) (own ahead : List (Int × Int)) (n : Nat) (done seats : List Int) : Prop where
  nd : done.Nodup
  l0 : seats[0]? = some (n : Int)
  len : seats.length = done.length + 1
  own : ∀ (i : Nat) (d : Int), done[i]? = some d → ∃ s, dval own d = some s ∧ seats[i + 1]? = some s
  par : ∀ (i : Nat) (d : Int), done[i]? = some d → ∃ (s : Int) (j : Nat), dval ahead d = some s ∧ T d s ∧ j ≤ i ∧ seats[j]? = some s
theorem Way.ndr {T : Int → Int → Prop} {own ahead : List (Int × Int)} {n L : Nat} {done seats : List Int} {row : List (Option Int)} (h : Way T own ahead n done seats) (sd : Sg T L n own row) (hn : n < L) : ∀ (i j : Nat) (s : Int), seats[i]? = some s → seats[j]? = some s → i = j := by
  have hl := h.len
  have hemp := sd.emp n (Nat.le_refl _) hn
  have key : ∀ (j : Nat) (s : Int), seats[j + 1]? = some s → ∃ d, done[j]? = some d ∧ dval own d = some s := fun j s hj => by
    have hl1 := (List.getElem?_eq_some_iff.mp hj).1
    have hl2 : j < done.length := by omega
    obtain ⟨s', h1, h2⟩ := h.own j _ (List.getElem?_eq_getElem hl2)
    rw [hj] at h2
    cases h2
    exact ⟨_, List.getElem?_eq_getElem hl2, h1⟩
  have no : ∀ (j : Nat), seats[j + 1]? ≠ some (n : Int) := fun j hj => by
    obtain ⟨d, h1, h2⟩ := key j _ hj
    have := ((sd.iff _ _).mp h2).2
    rw [Int.toNat_natCast, hemp] at this
    cases this
  intro i j s hi hj
  cases i with
  | zero =>
    rw [h.l0] at hi
    cases hi
    cases j with
    | zero => rfl
    | succ j => exact absurd hj (no j)
  | succ i =>
    cases j with
    | zero =>
      rw [h.l0] at hj
      cases hj
      exact absurd hi (no i)
    | succ j =>
      obtain ⟨e, h1, h2⟩ := key i _ hi
      obtain ⟨f, g1, g2⟩ := key j _ hj
      have a1 := ((sd.iff _ _).mp h2).2
      have a2 := ((sd.iff _ _).mp g2).2
      rw [a1] at a2
      have e1 : e = f := Option.some.inj (Option.some.inj a2)
      rw [← e1] at g1
      obtain ⟨b1, c1⟩ := List.getElem?_eq_some_iff.mp h1
      obtain ⟨b2, c2⟩ := List.getElem?_eq_some_iff.mp g1
      have := (List.getElem_inj h.nd (h₀ := b1) (h₁ := b2)).mp (c1.trans c2.symm)
      omega
theorem Way.rng {T : Int → Int → Prop} {own ahead : List (Int × Int)} {n L : Nat} {done seats : List Int} {row : List (Option Int)} (h : Way T own ahead n done seats) (sd : Sg T L n own row) (hn : n < L) {s : Int} (hs : s ∈ seats) : 0 ≤ s ∧ s < L ∧ (s = n ∨ s < n) := by
  obtain ⟨j, hj⟩ := List.mem_iff_getElem?.mp hs
  cases j with
  | zero => rw [h.l0] at hj; cases hj; omega
  | succ j =>
    have hl := (List.getElem?_eq_some_iff.mp hj).1
    have hl2 : j < done.length := by have := h.len; omega
    obtain ⟨s', h1, h2⟩ := h.own j _ (List.getElem?_eq_getElem hl2)
    rw [hj] at h2
    cases h2
    obtain ⟨a, b⟩ := (sd.iff _ _).mp h1
    have := (List.getElem?_eq_some_iff.mp b).1
    have := sd.len
    refine ⟨a, by omega, ?_⟩
    by_cases hq : s < n
    · exact .inr hq
    · have := sd.emp s.toNat (by omega) (by omega)
      rw [b] at this
      cases this
theorem pshift_ok {T : Int → Int → Prop} {P : R_Prices} {ahead : List (Int × Int)} {n L : Nat} {done seats : List Int} {k s : Int} (hT : ∀ k s, T k s → 0 ≤ s ∧ s < L) (sd : Sg T L n P.seat_by P.row) (hn : n < L) (w : Way T P.seat_by ahead n done seats) (hd : done.length ≤ 1000) (hkd : k ∉ done) (hk : dval ahead k = some s) (hsr : s ∈ seats) (hc : T k s) (ho : dval P.seat_by k = none) (hol : P.seat_by.length ≤ 1001 * n) (hL : L ≤ 1000) :
    Ok (m_Prices_shift P ahead (some k)) (fun P' => P'.costs = P.costs ∧ P'.of_seat = P.of_seat ∧ P'.of_player = P.of_player ∧ Sg T L (n + 1) P'.seat_by P'.row ∧ P'.seat_by.length ≤ 1001 * (n + 1) ∧ ∀ k, dval P'.seat_by k = none → dval P.seat_by k = none) := by
  unfold m_Prices_shift
  have hz := szl
  have hrl := w.len
  have hnd : (done ++ [k]).Nodup := by
    rw [List.nodup_append]
    refine ⟨w.nd, by simp, fun a ha b hb e => ?_⟩
    simp at hb
    exact hkd (by rw [← hb, ← e]; exact ha)
  have hpar : ∀ (i : Nat) (d : Int), (done ++ [k])[i]? = some d → ∃ (s : Int) (j : Nat), dval ahead d = some s ∧ T d s ∧ j ≤ i ∧ seats[j]? = some s := fun i d hi => by
    by_cases hlt : i < done.length
    · rw [List.getElem?_append_left hlt] at hi
      exact w.par i d hi
    · have : i = done.length := by
        have := (List.getElem?_eq_some_iff.mp hi).1
        rw [List.length_append, List.length_singleton] at this
        omega
      subst this
      rw [List.getElem?_append_right (Nat.le_refl _), Nat.sub_self] at hi
      cases hi
      obtain ⟨j, hj⟩ := List.mem_iff_getElem?.mp hsr
      have := (List.getElem?_eq_some_iff.mp hj).1
      exact ⟨s, j, hk, hc, by omega, hj⟩
  refine ok_bnd (P := fun b => b.1.costs = P.costs ∧ b.1.of_seat = P.of_seat ∧ b.1.of_player = P.of_player ∧ Sg T L (n + 1) b.1.seat_by b.1.row ∧ b.1.seat_by.length ≤ 1001 * (n + 1) ∧ ∀ k, dval b.1.seat_by k = none → dval P.seat_by k = none) (ok_whileN (fun m (b : R_Prices × Option Int) => m + b.1.seat_by.length ≤ 1001 * (n + 1) ∧ m ≤ 1001 ∧ (b.1.costs = P.costs ∧ b.1.of_seat = P.of_seat ∧ b.1.of_player = P.of_player ∧ ∀ k, dval b.1.seat_by k = none → dval P.seat_by k = none) ∧ match b.2 with
    | none => Sg T L (n + 1) b.1.seat_by b.1.row
    | some q => ∃ (i : Nat), m = i + 1 ∧ (done ++ [k])[i]? = some q ∧ Shg T L n b.1.seat_by b.1.row q ∧ ∀ (j : Nat) (t : Int), j ≤ i → seats[j]? = some t → b.1.row[t.toNat]? = P.row[t.toNat]?) ?_ _ (done.length + 1) _ ?_ (by rw [fuel_eq]; omega)) ?_
  · rintro m ⟨P1, q1⟩ ⟨hm, hm2, hsame, hI⟩
    dsimp only at hm hsame hI ⊢
    refine ok_some ?_
    cases q1 with
    | none =>
      rw [if_neg (show ¬ (none : Option Int).isSome = true by decide)]
      exact ⟨hsame.1, hsame.2.1, hsame.2.2.1, hI, by omega, hsame.2.2.2⟩
    | some q =>
      obtain ⟨i, rfl, hi, sh, un⟩ := hI
      obtain ⟨se, j, hdv, hcn, hji, hj⟩ := hpar i q hi
      rw [if_pos (show (some q).isSome = true from rfl)]
      refine ok_bnd (P := fun z => q = z) (ok_some rfl) fun z hz1 => ?_
      subst hz1
      refine ok_bnd (P := fun z => se = z) (ok_eq hdv rfl) fun z hz1 => ok_lt fun z2 hz2 => ?_
      subst hz1
      have hz2 := hz2.symm
      subst hz2
      obtain ⟨c3, c4⟩ := hT _ _ hcn
      have hlen := sh.len
      obtain ⟨f, hf, _, hf2⟩ := at_in (xs := P1.row) c3 (by omega)
      refine ok_bnd (P := fun z => f = z) (ok_eq hf rfl) fun z hz1 => ok_lt fun z2 hz2 => ?_
      subst hz1
      have hz2 := hz2.symm
      subst hz2
      refine ok_bnd (P := fun z => z = se.toNat) (ok_eq (ixN_get c3 (by omega)) rfl) fun z hz1 => ok_lt fun ls hls => ?_
      subst hz1
      subst hls
      refine ok_bnd (P := fun z => q = z) (ok_some rfl) fun z hz1 => ?_
      subst hz1
      refine ok_chk (by omega) (ok_lt fun kv hkv => ok_lt fun pl hpl => ok_some ?_)
      subst hkv
      subst hpl
      have hkl := dput_len P1.seat_by q se
      have hsame : P1.costs = P.costs ∧ P1.of_seat = P.of_seat ∧ P1.of_player = P.of_player ∧ ∀ k, dval (dput P1.seat_by q se) k = none → dval P.seat_by k = none := ⟨hsame.1, hsame.2.1, hsame.2.2.1, fun k hk => by
        rw [dval_put] at hk
        split at hk
        · cases hk
        · exact hsame.2.2.2 k hk⟩
      have hse : ((se.toNat : Nat) : Int) = se := Int.toNat_of_nonneg c3
      have hcn' : T q ((se.toNat : Nat) : Int) := by rw [hse]; exact hcn
      have hun := un j se hji hj
      rw [hf2] at hun
      cases j with
      | zero =>
        rw [w.l0] at hj
        have hj := Option.some.inj hj
        have hjn : se.toNat = n := by omega
        rw [hjn, sd.emp n (Nat.le_refl _) hn] at hun
        have hun := Option.some.inj hun
        subst hun
        refine ⟨0, by omega, by dsimp only; omega, by omega, hsame, ?_⟩
        dsimp only
        have := sh.last hn (by rw [hjn] at hcn'; exact hcn')
        rw [hjn, ← hj]
        exact this
      | succ j =>
        have hjl := (List.getElem?_eq_some_iff.mp hj).1
        have hja : j < done.length := by omega
        obtain ⟨t, o1, o2⟩ := w.own j _ (List.getElem?_eq_getElem hja)
        rw [hj] at o2
        have o2 := Option.some.inj o2
        subst o2
        have o3 := ((sd.iff _ _).mp o1).2
        rw [o3] at hun
        have hun := Option.some.inj hun
        subst hun
        refine ⟨j + 1, by omega, by dsimp only; omega, by omega, hsame, ?_⟩
        dsimp only
        refine ⟨j, rfl, by rw [List.getElem?_append_left hja, List.getElem?_eq_getElem hja], ?_, fun j' t' hj' ht' => ?_⟩
        · have := sh.turn hf2 hcn'
          rw [hse] at this
          exact this
        · have hts : t' ≠ se := fun z => by
            have := w.ndr sd hn j' (j + 1) se (by rw [← z]; exact ht') hj
            omega
          obtain ⟨t0, _⟩ := w.rng sd hn (List.mem_of_getElem? ht')
          rw [getset (by omega), if_neg (by omega)]
          exact un j' t' (by omega) ht'
  · dsimp only
    refine ⟨by omega, by omega, ⟨rfl, rfl, rfl, fun _ h => h⟩, done.length, rfl, by rw [List.getElem?_append_right (Nat.le_refl _), Nat.sub_self]; rfl, ⟨sd.len, sd.fil, sd.emp, fun p t _ => sd.iff p t, fun i hi => ?_⟩, fun _ _ _ _ => rfl⟩
    have := (sd.iff k i).mpr ⟨by omega, by rw [Int.toNat_natCast]; exact hi⟩
    rw [ho] at this
    cases this
  · exact fun b hb => ok_some hb
def TT (n : Nat) (P : R_Prices) (k s : Int) : Prop := 0 ≤ k ∧ k < n ∧ 0 ≤ s ∧ s < P.costs.length ∧ cst P.costs s k = some (gg P.of_seat s + gg P.of_player k)
theorem cst_rng {n : Nat} {cs : List (Dc Int Int)} {s k c : Int} (h : Cs n cs) (e : cst cs s k = some c) : 0 ≤ k ∧ k < n := by
  unfold cst at e
  cases hd : atI cs s with
  | none => rw [hd] at e; cases e
  | some d =>
    rw [hd] at e
    have e : dval d.l k = some c := e
    have hm : d ∈ cs := by
      unfold atI at hd
      obtain ⟨i, h1, h2⟩ := Option.bind_eq_some_iff.mp hd
      exact List.mem_of_getElem? h2
    obtain ⟨i, hi⟩ := dval_idx e
    exact (h d hm).2 _ (List.mem_of_getElem? hi)
structure Pr (n m : Nat) (P : R_Prices) : Prop where
  n1 : n ≤ 1000
  l1 : P.costs.length ≤ 1000
  cs : Cs n P.costs
  ul : P.of_seat.length = P.costs.length
  vl : P.of_player.length = n
  sg : Sg (TT n P) P.costs.length m P.seat_by P.row
  feas : ∀ s k c : Int, 0 ≤ s → s < m → cst P.costs s k = some c → gg P.of_seat s + gg P.of_player k ≤ c
  vn : ∀ k : Int, 0 ≤ k → gg P.of_player k ≤ 0
  v0 : ∀ k : Int, 0 ≤ k → dval P.seat_by k = none → gg P.of_player k = 0
  sl : P.seat_by.length ≤ 1001 * m
structure Fl0 (n m : Nat) (P : R_Prices) (sl ah : List (Int × Int)) (done seats : List Int) : Prop where
  pr : Pr n m P
  w : Way (TT n P) P.seat_by ah m done seats
  ff : done ≠ [] → ∀ k c : Int, cst P.costs m k = some c → gg P.of_seat m + gg P.of_player k ≤ c
  s0 : ∀ k ∈ done, dval sl k = some 0
  s1 : ∀ k x : Int, k ∉ done → dval sl k = some x → ∃ s c : Int, dval ah k = some s ∧ s ∈ seats ∧ cst P.costs s k = some c ∧ x = c - gg P.of_seat s - gg P.of_player k
  s2 : ∀ s ∈ seats, ∀ k c : Int, cst P.costs s k = some c → ∃ x, dval sl k = some x ∧ (k ∉ done → x ≤ c - gg P.of_seat s - gg P.of_player k)
  nd : (sl.map (·.1)).Nodup
  b1 : sl.length ≤ 1001 * (done.length + 1)
  b2 : ah.length ≤ 1001 * (done.length + 1)
theorem Fl0.dl {n m : Nat} {P : R_Prices} {sl ah : List (Int × Int)} {done seats : List Int} (h : Fl0 n m P sl ah done seats) : done.length ≤ n := by
  have h1 := nd_sub_len (m := rng 0 (n : Int)) h.w.nd (fun x hx => by
    obtain ⟨i, hi⟩ := List.mem_iff_getElem?.mp hx
    obtain ⟨s, j, _, t, _⟩ := h.w.par i x hi
    exact mem_rng.mpr ⟨t.1, t.2.1⟩)
  rw [rng_len] at h1
  omega
theorem Way.both {T : Int → Int → Prop} {own ahead : List (Int × Int)} {n L : Nat} {done seats : List Int} {row : List (Option Int)} (h : Way T own ahead n done seats) (sd : Sg T L n own row) (hn : n < L) {k : Int} {s : Nat} (hr : row[s]? = some (some k)) : k ∈ done ↔ (s : Int) ∈ seats := by
  have e := (sd.iff k s).mpr ⟨by omega, by rw [Int.toNat_natCast]; exact hr⟩
  constructor
  · intro hk
    obtain ⟨i, hi⟩ := List.mem_iff_getElem?.mp hk
    obtain ⟨t, h1, h2⟩ := h.own i k hi
    rw [e] at h1
    cases h1
    exact List.mem_of_getElem? h2
  · intro hs
    obtain ⟨j, hj⟩ := List.mem_iff_getElem?.mp hs
    cases j with
    | zero =>
      rw [h.l0] at hj
      have := Option.some.inj hj
      have : n = s := by omega
      subst this
      rw [sd.emp n (Nat.le_refl _) hn] at hr
      cases hr
    | succ j =>
      have hl := (List.getElem?_eq_some_iff.mp hj).1
      have hl2 : j < done.length := by have := h.len; omega
      obtain ⟨t, h1, h2⟩ := h.own j _ (List.getElem?_eq_getElem hl2)
      rw [hj] at h2
      cases h2
      have a := ((sd.iff _ _).mp h1).2
      rw [Int.toNat_natCast, hr] at a
      have : k = done[j] := Option.some.inj (Option.some.inj a)
      rw [this]
      exact List.getElem_mem hl2
theorem Fl0.step {n m : Nat} {P P' : R_Prices} {sl sl' ah : List (Int × Int)} {done seats : List Int} {p step : Int} (h : Fl0 n m P sl ah done seats) (hm : m < P.costs.length) (hpd : p ∉ done) (hp : dval sl p = some step) (hmin : ∀ k, k ∉ done → ∀ y, dval sl k = some y → step ≤ y) (r : Rai P P' seats done step)
    (hsl : ∀ k, dval sl' k = if k ∈ done then dval sl k else (dval sl k).map (· - step)) (hkeys : sl'.map (·.1) = sl.map (·.1)) :
    Fl0 n m P' sl' ah done seats ∧ (∀ k c : Int, cst P'.costs m k = some c → gg P'.of_seat m + gg P'.of_player k ≤ c) ∧ ∃ s, dval ah p = some s ∧ s ∈ seats ∧ TT n P' p s ∧ dval sl' p = some 0 := by
  obtain ⟨pr, w, ff, s0, s1, s2, nd, b1, b2⟩ := h
  have rng := fun {s : Int} (hs : s ∈ seats) => w.rng pr.sg hm hs
  have hmS : (m : Int) ∈ seats := List.mem_of_getElem? w.l0
  have hU : ∀ s, s ∈ seats → gg P'.of_seat s = gg P.of_seat s + step := fun s hs => by rw [r.u s (rng hs).1, if_pos hs]
  have hU2 : ∀ s, 0 ≤ s → s ∉ seats → gg P'.of_seat s = gg P.of_seat s := fun s h0 hs => by rw [r.u s h0, if_neg hs, Int.add_zero]
  have hV : ∀ k, 0 ≤ k → k ∈ done → gg P'.of_player k = gg P.of_player k - step := fun k h0 hk => by rw [r.v k h0, if_pos hk]
  have hV2 : ∀ k, 0 ≤ k → k ∉ done → gg P'.of_player k = gg P.of_player k := fun k h0 hk => by rw [r.v k h0, if_neg hk, Int.sub_zero]
  have hnn : done ≠ [] → 0 ≤ step := fun hd => by
    obtain ⟨s, c, a1, a2, a3, a4⟩ := s1 p step hpd hp
    rcases (rng a2).2.2 with e | e
    · have := ff hd p c (by rw [← e]; exact a3)
      rw [e] at a4
      omega
    · have := pr.feas s p c (rng a2).1 e a3
      omega
  have tree : ∀ s k c : Int, s ∈ seats → cst P.costs s k = some c → (k ∈ done → gg P.of_seat s + gg P.of_player k ≤ c) → gg P'.of_seat s + gg P'.of_player k ≤ c := fun s k c hs hc hd => by
    have k0 := (cst_rng pr.cs hc).1
    by_cases hk : k ∈ done
    · rw [hU s hs, hV k k0 hk]
      have := hd hk
      omega
    · obtain ⟨x, x1, x2⟩ := s2 s hs k c hc
      have := x2 hk
      have := hmin k hk x x1
      rw [hU s hs, hV2 k k0 hk]
      omega
  have keep : ∀ k s, (k ∈ done ↔ s ∈ seats) → TT n P k s → TT n P' k s := fun k s hb t => by
    obtain ⟨t1, t2, t3, t4, t5⟩ := t
    refine ⟨t1, t2, t3, by rw [r.cs]; exact t4, ?_⟩
    rw [r.cs, t5]
    congr 1
    by_cases hk : k ∈ done
    · rw [hU s (hb.mp hk), hV k t1 hk]; omega
    · rw [hU2 s t3 (fun z => hk (hb.mpr z)), hV2 k t1 hk]
  have ff' : ∀ k c : Int, cst P'.costs m k = some c → gg P'.of_seat m + gg P'.of_player k ≤ c := fun k c hc => by
    rw [r.cs] at hc
    exact tree m k c hmS hc fun hk => ff (fun e => by rw [e] at hk; simp at hk) k c hc
  have hsl0 : dval sl' p = some 0 := by
    rw [hsl, if_neg hpd, hp]
    show some (step - step) = some 0
    rw [Int.sub_self]
  have w' : Way (TT n P') P'.seat_by ah m done seats := ⟨w.nd, w.l0, w.len, fun i d hi => by rw [r.sb]; exact w.own i d hi, fun i d hi => by
    obtain ⟨s, j, a1, a2, a3, a4⟩ := w.par i d hi
    exact ⟨s, j, a1, keep d s ⟨fun _ => List.mem_of_getElem? a4, fun _ => List.mem_of_getElem? hi⟩ a2, a3, a4⟩⟩
  refine ⟨⟨⟨pr.n1, by rw [r.cs]; exact pr.l1, by rw [r.cs]; exact pr.cs, by rw [r.ul, r.cs]; exact pr.ul, by rw [r.vl]; exact pr.vl, ?_, ?_, ?_, ?_, by rw [r.sb]; exact pr.sl⟩, w', fun _ => ff', ?_, ?_, ?_, by rw [hkeys]; exact nd, ?_, b2⟩, ff', ?_⟩
  · rw [r.cs, r.sb, r.rw_]
    refine pr.sg.mono fun k s hr t => keep k s ?_ t
    exact w.both pr.sg hm hr
  · intro s k c h0 h1 hc
    rw [r.cs] at hc
    by_cases hs : s ∈ seats
    · exact tree s k c hs hc fun _ => pr.feas s k c h0 h1 hc
    · have := pr.feas s k c h0 h1 hc
      have k0 := (cst_rng pr.cs hc).1
      rw [hU2 s h0 hs]
      by_cases hk : k ∈ done
      · have := hnn (fun e => by rw [e] at hk; simp at hk)
        rw [hV k k0 hk]; omega
      · rw [hV2 k k0 hk]; exact this
  · intro k k0
    have := pr.vn k k0
    by_cases hk : k ∈ done
    · have := hnn (fun e => by rw [e] at hk; simp at hk)
      rw [hV k k0 hk]; omega
    · rw [hV2 k k0 hk]; exact this
  · intro k k0 hk
    rw [r.sb] at hk
    have hkd : k ∉ done := fun z => by
      obtain ⟨i, hi⟩ := List.mem_iff_getElem?.mp z
      obtain ⟨s, a, _⟩ := w.own i k hi
      rw [hk] at a
      cases a
    rw [hV2 k k0 hkd]
    exact pr.v0 k k0 hk
  · intro k hk
    rw [hsl, if_pos hk]
    exact s0 k hk
  · intro k x hk hx
    rw [hsl, if_neg hk] at hx
    obtain ⟨y, hy, e⟩ := Option.map_eq_some_iff.mp hx
    obtain ⟨s, c, a1, a2, a3, a4⟩ := s1 k y hk hy
    have k0 := (cst_rng pr.cs a3).1
    refine ⟨s, c, a1, a2, by rw [r.cs]; exact a3, ?_⟩
    rw [hU s a2, hV2 k k0 hk]
    omega
  · intro s hs k c hc
    rw [r.cs] at hc
    obtain ⟨x, x1, x2⟩ := s2 s hs k c hc
    by_cases hk : k ∈ done
    · exact ⟨x, by rw [hsl, if_pos hk]; exact x1, fun z => absurd hk z⟩
    · have k0 := (cst_rng pr.cs hc).1
      refine ⟨x - step, by rw [hsl, if_neg hk, x1]; rfl, fun _ => ?_⟩
      have := x2 hk
      rw [hU s hs, hV2 k k0 hk]
      omega
  · have := congrArg List.length hkeys
    rw [List.length_map, List.length_map] at this
    omega
  · obtain ⟨s, c, a1, a2, a3, a4⟩ := s1 p step hpd hp
    obtain ⟨k0, k1⟩ := cst_rng pr.cs a3
    refine ⟨s, a1, a2, ⟨k0, k1, (rng a2).1, by rw [r.cs]; exact (rng a2).2.1, ?_⟩, hsl0⟩
    rw [r.cs, a3, hU s a2, hV2 p k0 hpd]
    congr 1
    omega
theorem Way.snd {T : Int → Int → Prop} {own ahead : List (Int × Int)} {n L : Nat} {done seats : List Int} {row : List (Option Int)} (h : Way T own ahead n done seats) (sd : Sg T L n own row) (hn : n < L) : seats.Nodup := by
  refine List.pairwise_iff_getElem.mpr fun i j hi hj hij e => ?_
  have := h.ndr sd hn i j _ (List.getElem?_eq_getElem hi) (by rw [List.getElem?_eq_getElem hj, e])
  omega
theorem slk_none {P : R_Prices} {sl : List (Int × Int)} {s k : Int} (h : cst P.costs s k = none) : slk P sl s k = dval sl k := by
  unfold slk; rw [h]
theorem ahd_none {P : R_Prices} {sl ah : List (Int × Int)} {s k : Int} (h : cst P.costs s k = none) : ahd P sl ah s k = dval ah k := by
  unfold ahd; rw [h]
theorem slk_new {P : R_Prices} {sl : List (Int × Int)} {s k c : Int} (h : cst P.costs s k = some c) (h2 : dval sl k = none) : slk P sl s k = some (c - gg P.of_seat s - gg P.of_player k) := by
  unfold slk; rw [h, h2]
theorem ahd_new {P : R_Prices} {sl ah : List (Int × Int)} {s k c : Int} (h : cst P.costs s k = some c) (h2 : dval sl k = none) : ahd P sl ah s k = some s := by
  unfold ahd; rw [h, h2]
theorem slk_old {P : R_Prices} {sl : List (Int × Int)} {s k c x : Int} (h : cst P.costs s k = some c) (h2 : dval sl k = some x) : slk P sl s k = some (if c - gg P.of_seat s - gg P.of_player k < x then c - gg P.of_seat s - gg P.of_player k else x) := by
  unfold slk; rw [h, h2]
theorem ahd_old {P : R_Prices} {sl ah : List (Int × Int)} {s k c x : Int} (h : cst P.costs s k = some c) (h2 : dval sl k = some x) : ahd P sl ah s k = if c - gg P.of_seat s - gg P.of_player k < x then some s else dval ah k := by
  unfold ahd; rw [h, h2]
theorem Fl0.start {n m : Nat} {P : R_Prices} (pr : Pr n m P) (hm : m < P.costs.length) {sl ah : List (Int × Int)} (h1 : ∀ k, dval sl k = slk P [] m k) (h2 : ∀ k, dval ah k = ahd P [] [] m k) (nd : (sl.map (·.1)).Nodup) (b1 : sl.length ≤ n) (b2 : ah.length ≤ n) : Fl0 n m P sl ah [] [(m : Int)] := by
  have hn1 := pr.n1
  refine ⟨pr, ⟨List.nodup_nil, rfl, rfl, fun i d h => by simp at h, fun i d h => by simp at h⟩, fun h => absurd rfl h, fun k hk => by simp at hk, fun k x _ hx => ?_, fun s hs k c hc => ?_, nd, by simp; omega, by simp; omega⟩
  · rw [h1] at hx
    cases hc : cst P.costs m k with
    | none => rw [slk_none hc] at hx; cases hx
    | some c =>
      rw [slk_new hc rfl] at hx
      exact ⟨m, c, by rw [h2, ahd_new hc rfl], List.mem_singleton.mpr rfl, hc, (Option.some.inj hx).symm⟩
  · rw [List.mem_singleton.mp hs] at hc ⊢
    exact ⟨_, by rw [h1, slk_new hc rfl], fun _ => Int.le_refl _⟩
theorem Fl0.more {n m : Nat} {P : R_Prices} {sl ah sl' ah' : List (Int × Int)} {done seats : List Int} {p s0 t : Int} (h : Fl0 n m P sl ah done seats) (hm : m < P.costs.length) (hff : ∀ k c : Int, cst P.costs m k = some c → gg P.of_seat m + gg P.of_player k ≤ c) (hpd : p ∉ done) (a1 : dval ah p = some s0) (a2 : s0 ∈ seats) (a3 : TT n P p s0) (a4 : dval sl p = some 0) (ht : dval P.seat_by p = some t)
    (h1 : ∀ k, dval sl' k = slk P sl t k) (h2 : ∀ k, dval ah' k = ahd P sl ah t k) (nd : (sl'.map (·.1)).Nodup) (b1 : sl'.length ≤ sl.length + n) (b2 : ah'.length ≤ ah.length + n) : Fl0 n m P sl' ah' (done ++ [p]) (seats ++ [t]) := by
  have hn1 := h.pr.n1
  have hb1 := h.b1
  have hb2 := h.b2
  obtain ⟨t0, tr⟩ := (h.pr.sg.iff p t).mp ht
  have htm : t < m := by
    by_cases hq : t < m
    · exact hq
    · have hl := (List.getElem?_eq_some_iff.mp tr).1
      have := h.pr.sg.len
      have := h.pr.sg.emp t.toNat (by omega) (by omega)
      rw [tr] at this
      cases this
  have zero : ∀ k, dval sl k = some 0 → dval sl' k = some 0 ∧ dval ah' k = dval ah k := fun k hk => by
    cases hc : cst P.costs t k with
    | none => exact ⟨by rw [h1, slk_none hc, hk], by rw [h2, ahd_none hc]⟩
    | some c =>
      have := h.pr.feas t k c t0 htm hc
      exact ⟨by rw [h1, slk_old hc hk, if_neg (by omega)], by rw [h2, ahd_old hc hk, if_neg (by omega)]⟩
  have hlen := h.w.len
  refine ⟨h.pr, ⟨?_, ?_, by rw [List.length_append, List.length_append, hlen]; rfl, fun i d hi => ?_, fun i d hi => ?_⟩, fun _ => hff, fun k hk => ?_, fun k x hk hx => ?_, fun s hs k c hc => ?_, nd, by rw [List.length_append, List.length_singleton]; omega, by rw [List.length_append, List.length_singleton]; omega⟩
  · rw [List.nodup_append]
    refine ⟨h.w.nd, by simp, fun a ha b hb e => ?_⟩
    simp at hb
    exact hpd (by rw [← hb, ← e]; exact ha)
  · rw [List.getElem?_append_left (by omega)]; exact h.w.l0
  · by_cases hlt : i < done.length
    · rw [List.getElem?_append_left hlt] at hi
      obtain ⟨s', a, b⟩ := h.w.own i d hi
      exact ⟨s', a, by rw [List.getElem?_append_left (by omega)]; exact b⟩
    · have : i = done.length := by
        have := (List.getElem?_eq_some_iff.mp hi).1
        rw [List.length_append, List.length_singleton] at this
        omega
      subst this
      rw [List.getElem?_append_right (Nat.le_refl _), Nat.sub_self] at hi
      cases hi
      exact ⟨t, ht, by rw [← hlen, List.getElem?_append_right (Nat.le_refl _), Nat.sub_self]; rfl⟩
  · by_cases hlt : i < done.length
    · rw [List.getElem?_append_left hlt] at hi
      obtain ⟨s', j, a, b, c, e⟩ := h.w.par i d hi
      exact ⟨s', j, by rw [(zero d (h.s0 d (List.mem_of_getElem? hi))).2]; exact a, b, c, by rw [List.getElem?_append_left (by omega)]; exact e⟩
    · have : i = done.length := by
        have := (List.getElem?_eq_some_iff.mp hi).1
        rw [List.length_append, List.length_singleton] at this
        omega
      subst this
      rw [List.getElem?_append_right (Nat.le_refl _), Nat.sub_self] at hi
      cases hi
      obtain ⟨j, hj⟩ := List.mem_iff_getElem?.mp a2
      have := (List.getElem?_eq_some_iff.mp hj).1
      exact ⟨s0, j, by rw [(zero p a4).2]; exact a1, a3, by omega, by rw [List.getElem?_append_left this]; exact hj⟩
  · rcases List.mem_append.mp hk with hk | hk
    · exact (zero k (h.s0 k hk)).1
    · rw [List.mem_singleton.mp hk]; exact (zero p a4).1
  · have hkd : k ∉ done := fun z => hk (List.mem_append_left _ z)
    rw [h1] at hx
    cases hc : cst P.costs t k with
    | none =>
      rw [slk_none hc] at hx
      obtain ⟨s, c, e1, e2, e3, e4⟩ := h.s1 k x hkd hx
      exact ⟨s, c, by rw [h2, ahd_none hc]; exact e1, List.mem_append_left _ e2, e3, e4⟩
    | some c =>
      cases hs : dval sl k with
      | none =>
        rw [slk_new hc hs] at hx
        exact ⟨t, c, by rw [h2, ahd_new hc hs], List.mem_append_right _ (List.mem_singleton.mpr rfl), hc, (Option.some.inj hx).symm⟩
      | some y =>
        rw [slk_old hc hs] at hx
        have hx := Option.some.inj hx
        by_cases hlt : c - gg P.of_seat t - gg P.of_player k < y
        · rw [if_pos hlt] at hx
          exact ⟨t, c, by rw [h2, ahd_old hc hs, if_pos hlt], List.mem_append_right _ (List.mem_singleton.mpr rfl), hc, hx.symm⟩
        · rw [if_neg hlt] at hx
          obtain ⟨s, c', e1, e2, e3, e4⟩ := h.s1 k y hkd hs
          exact ⟨s, c', by rw [h2, ahd_old hc hs, if_neg hlt]; exact e1, List.mem_append_left _ e2, e3, by omega⟩
  · rcases List.mem_append.mp hs with hs | hs
    · obtain ⟨x, x1, x2⟩ := h.s2 s hs k c hc
      cases hct : cst P.costs t k with
      | none => exact ⟨x, by rw [h1, slk_none hct]; exact x1, fun hk => x2 fun z => hk (List.mem_append_left _ z)⟩
      | some c' =>
        refine ⟨_, by rw [h1, slk_old hct x1], fun hk => ?_⟩
        have := x2 fun z => hk (List.mem_append_left _ z)
        split <;> omega
    · rw [List.mem_singleton.mp hs] at hc ⊢
      cases hsl : dval sl k with
      | none => exact ⟨_, by rw [h1, slk_new hc hsl], fun _ => Int.le_refl _⟩
      | some y =>
        refine ⟨_, by rw [h1, slk_old hc hsl], fun _ => ?_⟩
        split <;> omega
def Hall (cs : List (Dc Int Int)) : Prop := ∃ done seats : List Int, seats.Nodup ∧ seats.length = done.length + 1 ∧ ∀ s ∈ seats, 0 ≤ s ∧ s < cs.length ∧ ∀ k c, cst cs s k = some c → k ∈ done
theorem fill_ok {n m : Nat} {P : R_Prices} (pr : Pr n m P) (hm : m < P.costs.length) : Ok (m_Prices_fill P m) (fun P' => P'.costs = P.costs ∧ (Pr n (m + 1) P' ∨ Hall P.costs)) := by
  unfold m_Prices_fill
  have hz := szl
  have hn1 := pr.n1
  have hl1 := pr.l1
  refine ok_lt fun d0 hd0 => ok_lt fun s0 hs0 => ok_bnd (slacks_ok (P := P) (n := n) (sl := []) (ah := []) (s := (m : Int)) hn1 pr.cs pr.vl pr.ul (by omega) (by omega) (by simp) (by simp) (by simp)) fun r0 ⟨k1, k2, k3, k4, k5⟩ => ok_bnd (nearest_ok (sl := r0.1) (done := d0)) fun pl hpl => ?_
  subst hd0 hs0
  refine ok_bnd (P := fun o => match o with
    | .nx b => b.1.costs = P.costs ∧ Hall P.costs
    | .rt P' => P'.costs = P.costs ∧ Pr n (m + 1) P') (ok_whileF (fun b => b.1.costs = P.costs ∧ Fl0 n m b.1 b.2.1 b.2.2.2.2.1 b.2.2.1 b.2.2.2.1 ∧ Near b.2.1 b.2.2.1 (b.2.1.map (·.1)) b.2.2.2.2.2) (fun b => 1002 - b.2.2.1.length) ?_ _ _ ⟨rfl, Fl0.start pr hm k1 k2 k3 (by simpa using k4) (by simpa using k5), hpl⟩ (by rw [fuel_eq]; dsimp only; omega)) ?_
  · rintro ⟨P1, sl, done, seats, ah, q⟩ ⟨hcs, fl, near⟩
    dsimp only at hcs fl near ⊢
    have hdl := fl.dl
    have hm1 : m < P1.costs.length := by rw [hcs]; exact hm
    refine ok_some ?_
    cases q with
    | none =>
      rw [if_neg (show ¬ (none : Option Int).isSome = true by decide)]
      refine ⟨hcs, done, seats, fl.w.snd fl.pr.sg hm1, fl.w.len, fun s hs => ?_⟩
      obtain ⟨g1, g2, _⟩ := fl.w.rng fl.pr.sg hm1 hs
      refine ⟨g1, by rw [← hcs]; exact g2, fun k c hc => ?_⟩
      obtain ⟨x, x1, _⟩ := fl.s2 s hs k c (by rw [hcs]; exact hc)
      exact near k (dval_some_key.mp (by rw [x1]; rfl))
    | some p =>
      obtain ⟨p1, p2, step, p3, p4⟩ := near
      rw [if_pos (show (some p).isSome = true from rfl)]
      refine ok_bnd (P := fun z => p = z) (ok_some rfl) fun z hz1 => ?_
      subst hz1
      refine ok_bnd (P := fun z => step = z) (ok_eq p3 rfl) fun z hz1 => ok_lt fun z2 hz2 => ?_
      subst hz1
      have hz2 := hz2.symm
      subst hz2
      refine ok_bnd (raised_ok (P := P1) (fl.w.snd fl.pr.sg hm1) (fun s hs => ⟨(fl.w.rng fl.pr.sg hm1 hs).1, by rw [fl.pr.ul]; exact (fl.w.rng fl.pr.sg hm1 hs).2.1⟩) fl.w.nd (fun k hk => by
        obtain ⟨i, hi⟩ := List.mem_iff_getElem?.mp hk
        obtain ⟨s, j, _, t, _⟩ := fl.w.par i k hi
        exact ⟨t.1, by rw [fl.pr.vl]; exact t.2.1⟩)) fun P2 hP2 => ok_bnd (lower_ok (step := step) fl.nd (by have := fl.b1; omega)) fun sl2 ⟨g1, g2⟩ => ?_
      obtain ⟨fl2, ff2, s, e1, e2, e3, e4⟩ := fl.step hm1 p2 p3 (fun k hk y hy => p4 k (dval_some_key.mp (by rw [hy]; rfl)) hk y hy) hP2 g1 g2
      have hcs2 : P2.costs = P.costs := by rw [hP2.cs]; exact hcs
      have hm2 : m < P2.costs.length := by rw [hcs2]; exact hm
      refine ok_bnd (P := fun z => p = z) (ok_some rfl) fun z hz1 => ?_
      subst hz1
      refine ok_ite (fun h => ?_) (fun h => ?_)
      · have hno : dval P2.seat_by p = none := Option.not_isSome_iff_eq_none.mp (by rw [Bool.not_eq_true'] at h; rw [h]; exact Bool.false_ne_true)
        refine ok_bnd (pshift_ok (T := TT n P2) (P := P2) (L := P2.costs.length) (fun k s t => ⟨t.2.2.1, t.2.2.2.1⟩) fl2.pr.sg hm2 fl2.w (by omega) p2 e1 e2 e3 hno fl2.pr.sl fl2.pr.l1) fun P3 ⟨q1, q2, q3, q4, q5, q6⟩ => ok_some ⟨by dsimp only; rw [q1, hcs2], ?_⟩
        have hTT : TT n P3 = TT n P2 := by
          funext k s
          unfold TT
          rw [q1, q2, q3]
        refine ⟨hn1, by dsimp only; rw [q1]; exact fl2.pr.l1, by dsimp only; rw [q1]; exact fl2.pr.cs, by dsimp only; rw [q2, q1]; exact fl2.pr.ul, by dsimp only; rw [q3]; exact fl2.pr.vl, ?_, fun s k c h0 h1 hc => ?_, fun k k0 => ?_, fun k k0 hk => ?_, q5⟩
        · show Sg (TT n P3) P3.costs.length (m + 1) P3.seat_by P3.row
          rw [hTT, q1]; exact q4
        · dsimp only at hc ⊢
          rw [q1] at hc
          rw [q2, q3]
          by_cases hs : s = m
          · rw [hs] at hc ⊢; exact ff2 k c hc
          · exact fl2.pr.feas s k c h0 (by omega) hc
        · dsimp only; rw [q3]; exact fl2.pr.vn k k0
        · dsimp only at hk ⊢; rw [q3]; exact fl2.pr.v0 k k0 (q6 k hk)
      · rw [Bool.not_eq_false'] at h
        obtain ⟨t, ht⟩ := Option.isSome_iff_exists.mp h
        obtain ⟨t0, tr⟩ := (fl2.pr.sg.iff p t).mp ht
        have hl := (List.getElem?_eq_some_iff.mp tr).1
        have hrl := fl2.pr.sg.len
        have hb1 := fl2.b1
        have hb2 := fl2.b2
        have hwl := fl2.w.len
        refine ok_bnd (P := fun z => p = z) (ok_some rfl) fun z hz1 => ?_
        subst hz1
        refine ok_chk (by omega) (ok_lt fun dn hdn => ok_bnd (P := fun z => p = z) (ok_some rfl) fun z hz1 => ?_)
        subst hz1
        refine ok_bnd (P := fun z => t = z) (ok_eq ht rfl) fun z hz1 => ok_chk (by omega) (ok_lt fun sn hsn => ok_bnd (P := fun z => p = z) (ok_some rfl) fun z2 hz2 => ?_)
        subst hz1
        subst hz2
        refine ok_bnd (P := fun z => t = z) (ok_eq ht rfl) fun z hz1 => ?_
        subst hz1
        refine ok_bnd (slacks_ok (P := P2) (n := n) (sl := sl2) (ah := ah) (s := t) hn1 fl2.pr.cs fl2.pr.vl fl2.pr.ul t0 (by omega) (by omega) (by omega) fl2.nd) fun r2 ⟨k1, k2, k3, k4, k5⟩ => ok_bnd (nearest_ok (sl := r2.1) (done := dn)) fun q2 hq2 => ok_some ?_
        subst hdn hsn
        exact ⟨⟨hcs2, fl2.more hm2 ff2 p2 e1 e2 e3 e4 ht k1 k2 k3 k4 k5, hq2⟩, by dsimp only; rw [List.length_append, List.length_singleton]; omega⟩
  · intro o ho
    refine ok_go (fun b hb => ?_) (fun r hb => ?_)
    · subst hb; exact ok_some ⟨ho.1, .inr ho.2⟩
    · subst hb; exact ok_some ⟨ho.1, .inl ho.2⟩
def cv (sat : List (Int × Int)) (k s : Int) : Int := (if (!decide (dval sat k = some s)) = true then (1 : Int) else 0) - (if (dval sat k).isSome = true then (1 : Int) else 0)
def haleL (n : Nat) (ill : List Int) : List Int := (rng 0 n).filter fun x => !decide (x ∈ ill)
structure CI (ps : List (Str × Tu Str)) (ss : List (Tu Str)) (row ill : List Int) (C : R_Costs) : Prop where
  sat : ∀ k s : Int, dval C.sat k = some s ↔ (0 ≤ s ∧ row[s.toNat]? = some k)
  hale : C.hale = haleL ps.length ill
  len : C.costs.length = ss.length
  cs : Cs ps.length C.costs
  cst : ∀ s k c : Int, 0 ≤ s → (cst C.costs s k = some c ↔ (k ∈ haleL ps.length ill ∧ Cn ps ss k s ∧ c = cv C.sat k s))
theorem atI_neg {α : Type} {xs : List α} {i : Int} {x : α} (h0 : 0 ≤ i) (h : atI xs i = some x) : xs[i.toNat]? = some x ∧ i < xs.length := by
  by_cases h1 : i < xs.length
  · rw [atI_get h0 h1] at h; exact ⟨h, h1⟩
  · unfold atI ixN at h
    rw [if_pos h0, if_neg (by omega)] at h
    cases h
theorem hale_mem {n : Nat} {ill : List Int} {k : Int} : k ∈ haleL n ill ↔ (0 ≤ k ∧ k < n) ∧ k ∉ ill := by
  unfold haleL
  rw [List.mem_filter, mem_rng, Bool.not_eq_true', decide_eq_false_iff_not]
theorem costs_ok {ps : List (Str × Tu Str)} {ss : List (Tu Str)} {row ill : List Int} (hp : ps.length ≤ 1000) (hs : ss.length ≤ 1000) (hr : row.length ≤ 1000) (hnd : row.Nodup) : Ok (m_Costs_init ps ss row ill) (CI ps ss row ill) := by
  unfold m_Costs_init
  have hz := szl
  have hfl := List.length_filter_le (fun x : Int => !decide (x ∈ ill)) (rng 0 (ps.length : Int))
  rw [rng_len] at hfl
  have hfm : (List.map (fun (x : Int) => x) (List.filter (fun (x : Int) => (!decide (x ∈ ill))) (rng 0 ((ps).length : Int)))) = haleL ps.length ill := by rw [List.map_id']; rfl
  rw [hfm]
  have hhl : (haleL ps.length ill).length ≤ ps.length := by unfold haleL; omega
  have hhn : (haleL ps.length ill).Nodup := (rng_nodup _ _).filter _
  refine ok_chk ⟨by omega, by omega⟩ (ok_bnd (P := fun b : R_Costs_1 => ∀ k s : Int, dval b.sat k = some s ↔ (0 ≤ s ∧ row[s.toNat]? = some k)) (ok_foldO (fun i (b : R_Costs_1) => (∀ k s : Int, dval b.sat k = some s ↔ (0 ≤ s ∧ s < i ∧ row[s.toNat]? = some k)) ∧ b.sat.length ≤ i) ?_ ?_ ?_) fun b1 hb1 => ok_chk ⟨by omega, by omega⟩ (ok_chk (by omega) (ok_chk ⟨by omega, by omega⟩ ?_)))
  · refine ⟨fun k s => ⟨fun h => (by cases h), fun h => ?_⟩, Nat.le_refl _⟩
    have := h.2.1
    have := h.1
    omega
  · rintro i b x hx ⟨h1, h2⟩
    obtain ⟨e1, e2⟩ := rng_at hx
    have hi : i < row.length := by omega
    have hat : atI row x = some row[i] := by rw [e1, Int.zero_add, atI_nat (List.getElem?_eq_getElem hi)]
    refine ok_bnd (P := fun z => row[i] = z) (ok_eq hat rfl) fun z hz1 => ok_chk (by omega) (ok_lt fun kv hkv => ok_some ?_)
    subst hz1 hkv
    have hkl := dput_len b.sat row[i] x
    refine ⟨fun k s => ?_, by dsimp only; omega⟩
    show dval (dput b.sat row[i] x) k = some s ↔ _
    rw [dval_put]
    by_cases hk : k = row[i]
    · rw [if_pos hk]
      constructor
      · intro h
        cases h
        refine ⟨by omega, by omega, ?_⟩
        rw [hk, show x.toNat = i by omega]
        exact List.getElem?_eq_getElem hi
      · rintro ⟨s0, s1, s2⟩
        rw [hk] at s2
        obtain ⟨b2, c2⟩ := List.getElem?_eq_some_iff.mp s2
        have := (List.getElem_inj hnd (h₀ := b2) (h₁ := hi)).mp c2
        congr 1; omega
    · rw [if_neg hk, h1]
      constructor
      · rintro ⟨s0, s1, s2⟩; exact ⟨s0, by omega, s2⟩
      · rintro ⟨s0, s1, s2⟩
        refine ⟨s0, ?_, s2⟩
        by_cases hq : s < i
        · exact hq
        · rw [show s.toNat = i by omega, List.getElem?_eq_getElem hi] at s2
          exact absurd (Option.some.inj s2).symm hk
  · rintro b ⟨h1, _⟩ k s
    rw [h1, rng_len_nn (by omega)]
    constructor
    · rintro ⟨s0, _, s2⟩; exact ⟨s0, s2⟩
    · rintro ⟨s0, s2⟩
      have := (List.getElem?_eq_some_iff.mp s2).1
      exact ⟨s0, by omega, s2⟩
  · refine ok_bnd (P := fun C : R_Costs => CI ps ss row ill C) (ok_foldO (fun i (C : R_Costs) => C.sat = b1.sat ∧ C.hale = haleL ps.length ill ∧ C.costs.length = i ∧ ∀ (j : Nat) (d : Dc Int Int), C.costs[j]? = some d → (d.l.map (·.1)).Nodup ∧ ∀ k c : Int, dval d.l k = some c ↔ (k ∈ haleL ps.length ill ∧ Cn ps ss k j ∧ c = cv b1.sat k j)) ?_ ?_ ?_) fun C hC => ok_some hC
    · exact ⟨rfl, rfl, rfl, fun j d h => by simp at h⟩
    · rintro i C x hx ⟨c1, c2, c3, c4⟩
      obtain ⟨e1, e2⟩ := rng_at hx
      have hi : i < ss.length := by omega
      have hxi : x = (i : Int) := by omega
      rw [c2]
      refine ok_bnd (P := fun t : List (Int × Int) => (t.map (·.1)).Nodup ∧ ∀ k c : Int, dval t k = some c ↔ (k ∈ haleL ps.length ill ∧ Cn ps ss k i ∧ c = cv b1.sat k i)) (ok_foldO (fun q (t : List (Int × Int)) => (t.map (·.1)).Nodup ∧ t.length ≤ q ∧ ∀ k c : Int, dval t k = some c ↔ (k ∈ (haleL ps.length ill).take q ∧ Cn ps ss k i ∧ c = cv b1.sat k i)) ?_ ?_ ?_) fun t ⟨t1, t2⟩ => ok_chk (by omega) (ok_lt fun ls hls => ok_some ?_)
      · exact ⟨List.nodup_nil, Nat.le_refl _, fun k c => ⟨fun h => (by cases h), fun h => by simp at h⟩⟩
      · rintro q t k hk ⟨t1, t2, t3⟩
        obtain ⟨⟨k0, k1⟩, _⟩ := hale_mem.mp (List.mem_of_getElem? hk)
        obtain ⟨p, hpk, _, _⟩ := at_in (xs := ps) k0 k1
        obtain ⟨st, hst, _, _⟩ := at_in (xs := ss) (k := x) (by omega) (by omega)
        have hq := (List.getElem?_eq_some_iff.mp hk).1
        have hcan : can p st = true ↔ Cn ps ss k i := by
          constructor
          · intro h
            refine ⟨k0, k1, by omega, by omega, fun p' t' h1 h2 => ?_⟩
            rw [hpk] at h1
            rw [← hxi, hst] at h2
            cases h1
            cases h2
            exact h
          · intro h
            exact h.2.2.2.2 p st hpk (by rw [← hxi]; exact hst)
        have hnm := nodup_take_mem hhn hk
        rw [hpk, hst]
        refine ok_bnd (P := fun z => p = z) (ok_some rfl) fun z hz1 => ok_bnd (P := fun z => st = z) (ok_some rfl) fun z2 hz2 => ?_
        subst hz1 hz2
        rw [can_eq]
        refine ok_bnd (P := fun z => can p st = z) (ok_some rfl) fun z hz1 => ?_
        subst hz1
        refine ok_bnd (P := fun t' : List (Int × Int) => (t'.map (·.1)).Nodup ∧ t'.length ≤ q + 1 ∧ ∀ k c : Int, dval t' k = some c ↔ (k ∈ (haleL ps.length ill).take (q + 1) ∧ Cn ps ss k i ∧ c = cv b1.sat k i)) (ok_ite (fun h => ?_) (fun h => ok_some ?_)) fun t' ht' => ok_some ht'
        · refine ok_bnd (P := fun z => z = _) (ok_some rfl) fun z hz1 => ok_bnd (P := fun z => z = _) (ok_some rfl) fun z2 hz2 => ok_chk (by omega) (ok_lt fun kv hkv => ok_some ?_)
          have hval : z - z2 = cv b1.sat k i := by rw [hz1, hz2, c1, hxi]; rfl
          rw [hkv, hval]
          have hkl := dput_len t k (cv b1.sat k i)
          refine ⟨dput_nd t1, by omega, fun j c => ?_⟩
          rw [dval_put, take_snoc hk]
          by_cases hj : j = k
          · subst hj
            rw [if_pos rfl]
            constructor
            · intro hc
              cases hc
              exact ⟨List.mem_append_right _ (List.mem_singleton.mpr rfl), hcan.mp h, rfl⟩
            · rintro ⟨_, _, rfl⟩; rfl
          · rw [if_neg hj, t3]
            constructor
            · rintro ⟨a, b, c'⟩; exact ⟨List.mem_append_left _ a, b, c'⟩
            · rintro ⟨a, b, c'⟩
              refine ⟨?_, b, c'⟩
              rcases List.mem_append.mp a with a | a
              · exact a
              · exact absurd (List.mem_singleton.mp a) hj
        · refine ⟨t1, by omega, fun j c => ?_⟩
          rw [t3, take_snoc hk]
          constructor
          · rintro ⟨a, b, c'⟩; exact ⟨List.mem_append_left _ a, b, c'⟩
          · rintro ⟨a, b, c'⟩
            refine ⟨?_, b, c'⟩
            rcases List.mem_append.mp a with a | a
            · exact a
            · rw [List.mem_singleton.mp a] at b
              rw [hcan.mpr b] at h
              cases h
      · rintro t ⟨t1, _, t3⟩
        rw [List.take_length] at t3
        exact ⟨t1, t3⟩
      · subst hls
        refine ⟨c1, rfl, by rw [List.length_append, List.length_singleton, c3], fun j d hj => ?_⟩
        by_cases hlt : j < C.costs.length
        · rw [List.getElem?_append_left hlt] at hj
          exact c4 j d hj
        · have : j = C.costs.length := by
            have := (List.getElem?_eq_some_iff.mp hj).1
            rw [List.length_append, List.length_singleton] at this
            omega
          subst this
          rw [List.getElem?_append_right (Nat.le_refl _), Nat.sub_self] at hj
          cases hj
          rw [c3]
          exact ⟨t1, t2⟩
    · rintro C ⟨c1, c2, c3, c4⟩
      rw [rng_len_nn (by omega), Int.toNat_natCast] at c3
      refine ⟨by rw [c1]; exact hb1, c2, c3, fun d hd => ?_, fun s k c s0 => ?_⟩
      · obtain ⟨j, hj⟩ := List.mem_iff_getElem?.mp hd
        obtain ⟨d1, d2⟩ := c4 j d hj
        refine ⟨d1, fun z hz1 => ?_⟩
        obtain ⟨q, hq⟩ := List.mem_iff_getElem?.mp hz1
        have := ((d2 z.1 z.2).mp (dval_get d1 hq)).1
        exact (hale_mem.mp this).1
      · by_cases s1 : s < C.costs.length
        · obtain ⟨d, hd, _, hd2⟩ := at_in s0 s1
          obtain ⟨d1, d2⟩ := c4 _ d hd2
          have : cst C.costs s k = dval d.l k := by unfold cst; rw [hd]
          rw [this, d2, show ((s.toNat : Nat) : Int) = s from Int.toNat_of_nonneg s0, c1]
        · have : atI C.costs s = none := by
            unfold atI ixN
            rw [if_pos s0, if_neg (by omega)]; rfl
          have : cst C.costs s k = none := by unfold cst; rw [this]
          rw [this]
          constructor
          · intro h; cases h
          · rintro ⟨_, b, _⟩
            have := b.2.2.2.1
            omega
theorem pinit_ok {n : Nat} {cs : List (Dc Int Int)} (h : Cs n cs) (hn : n ≤ 1000) (hl : cs.length ≤ 1000) : Ok (m_Prices_init cs n) (fun P => P.costs = cs ∧ Pr n 0 P) := by
  unfold m_Prices_init
  have e1 : repl (cs.length : Int) [(0 : Int)] = List.replicate cs.length 0 := by rw [repl_one]; rfl
  have e2 : repl (n : Int) [(0 : Int)] = List.replicate n 0 := by rw [repl_one]; rfl
  have e3 : repl (cs.length : Int) [(none : Option Int)] = List.replicate cs.length none := by rw [repl_one]; rfl
  have hz := szl
  rw [e1, e2, e3]
  have g0 : ∀ (m : Nat) (k : Int), gg (List.replicate m 0) k = 0 := fun m k => by
    unfold gg
    rw [List.getD_eq_getElem?_getD, List.getElem?_replicate]
    split <;> rfl
  refine ok_chk ⟨by omega, by omega, by show 1 * _ ≤ _; omega⟩ (ok_chk ⟨by omega, by omega, by show 1 * _ ≤ _; omega⟩ (ok_chk ⟨by omega, by omega, by show 1 * _ ≤ _; omega⟩ (ok_some ⟨rfl, hn, hl, h, List.length_replicate, List.length_replicate, ⟨List.length_replicate, fun k hk => absurd hk (Nat.not_lt_zero _), fun k _ hk => ?_, fun p s => ⟨fun h => (by cases h), fun ⟨_, h⟩ => ?_⟩⟩, fun s k c h0 h1 => by omega, fun k _ => by rw [g0]; exact Int.le_refl _, fun k _ _ => g0 _ _, Nat.zero_le _⟩)))
  · show (List.replicate cs.length none)[k]? = _
    rw [List.getElem?_replicate, if_pos hk]
  · have h : (List.replicate cs.length (none : Option Int))[s.toNat]? = some (some p) := h
    rw [List.getElem?_replicate] at h
    split at h <;> cases h
def WW (ps : List (Str × Tu Str)) (ss : List (Tu Str)) (row : List Int) : Bool := decide (row.length = ss.length) && (decide row.Nodup && !(rng 0 row.length).any (bad ps ss row))
def noP (n : Nat) (x : Int) : Bool := decide (x < 0) || decide ((n : Int) ≤ x)
theorem foldF_first {α ρ : Type} {p : α → Bool} {g : α → ρ} : ∀ {xs : List α} {f : Unit → α → Option (Fl Unit ρ)}, (∀ x ∈ xs, f () x = if p x = true then some (.rt (g x)) else some (.nx ())) → foldF f () xs = some (match xs.find? p with
    | some x => .rt (g x)
    | none => .nx ())
  | [], _, _ => rfl
  | x :: xs, f, h => by
    unfold foldF
    rw [h x List.mem_cons_self, List.find?_cons]
    cases hp : p x with
    | true => rfl
    | false => exact foldF_first fun y hy => h y (List.mem_cons_of_mem _ hy)
theorem short_ok {ps : List (Str × Tu Str)} {ss : List (Tu Str)} {ill : List Int} (hp : ps.length ≤ 1000) (hs : ss.length ≤ 1000) : Ok (m_short_by ps ss ill) (fun l => ∃ hps : List (Str × Tu Str), hps.length = (haleL ps.length ill).length ∧ (∀ (i : Nat) (y : Str × Tu Str), hps[i]? = some y → ∃ x, (haleL ps.length ill)[i]? = some x ∧ atI ps x = some y) ∧
    ((l = [] ∧ ∃ own row, Sd hps ss ss.length own row) ∨ (l ≠ [] ∧ Told hps ss (("short" : Str), l)))) := by
  unfold m_short_by
  have hz := szl
  have hfl := List.length_filter_le (fun x : Int => !decide (x ∈ ill)) (rng 0 (ps.length : Int))
  rw [rng_len] at hfl
  refine ok_chk ⟨by omega, by omega⟩ (ok_bnd (ok_compO (T := fun x => !decide (x ∈ ill)) (P := fun x y => atI ps x = some y) (fun x _ => ok_some rfl) (fun x hx _ => ?_)) fun ys ⟨y1, y2⟩ => ok_chk (by omega) (ok_lt fun hps hhps => ?_))
  · obtain ⟨x0, x1⟩ := mem_rng.mp hx
    obtain ⟨p, hpk, _, _⟩ := at_in (xs := ps) x0 x1
    exact ok_ret ⟨p, hpk, hpk⟩
  · subst hhps
    refine ok_bnd (P := Told hps ss) (seat_all_ok (show hps.length ≤ 1000 by omega) hs) fun r hr => ?_
    refine ok_ite (fun h => ok_some ⟨hps, y1, y2, ?_⟩) (fun h => ok_some ⟨hps, y1, y2, .inl ⟨rfl, ?_⟩⟩)
    · have h := of_decide_eq_true h
      rcases hr with ⟨e, _⟩ | ⟨e, hr⟩
      · rw [e] at h; exact absurd h (by decide)
      · refine .inr ⟨?_, .inr ⟨rfl, hr⟩⟩
        obtain ⟨n, own, row, ahead, reached, _, _, hrd, _, e2⟩ := hr
        intro e3
        rw [e3] at e2
        have := congrArg List.length e2
        rw [List.length_map, (sort_perm reached).length_eq, hrd.len] at this
        simp at this
    · have h := of_decide_eq_false h
      rcases hr with ⟨_, own, sd⟩ | ⟨e, _⟩
      · exact ⟨own, r.2, sd⟩
      · exact absurd e h
theorem inj_len {α β : Type} [DecidableEq β] : ∀ {l : List α} {m : List β} (f : α → β), l.Nodup → (∀ x ∈ l, ∀ y ∈ l, f x = f y → x = y) → (∀ x ∈ l, f x ∈ m) → l.length ≤ m.length := by
  intro l m f hn hi hm
  have h1 : (l.map f).Nodup := by
    refine List.pairwise_map.mpr (List.Pairwise.imp_of_mem (fun {x y} hx hy h e => h (hi x hx y hy e)) hn)
  have := nd_sub_len (m := m) h1 (fun y hy => by
    obtain ⟨x, hx, rfl⟩ := List.mem_map.mp hy
    exact hm x hx)
  rw [List.length_map] at this
  exact this
theorem no_hall {ps hps : List (Str × Tu Str)} {ss : List (Tu Str)} {row ill : List Int} {C : R_Costs} (ci : CI ps ss row ill C) {own : List (Int × Int)} {row2 : List (Option Int)} (hh : ∀ (i : Nat) (y : Str × Tu Str), hps[i]? = some y → ∃ x, (haleL ps.length ill)[i]? = some x ∧ atI ps x = some y) (sd : Sd hps ss ss.length own row2) : ¬ Hall C.costs := by
  rintro ⟨done, seats, hn, hl, hall⟩
  have hhn : (haleL ps.length ill).Nodup := (rng_nodup _ _).filter _
  have ex : ∀ s ∈ seats, ∃ (k q : Int), row2[s.toNat]? = some (some q) ∧ 0 ≤ q ∧ (haleL ps.length ill)[q.toNat]? = some k ∧ k ∈ done := fun s hs => by
    obtain ⟨s0, s1, s2⟩ := hall s hs
    rw [ci.len] at s1
    obtain ⟨q, q1, q2⟩ := sd.fil s.toNat (by omega)
    rw [Int.toNat_of_nonneg s0] at q2
    obtain ⟨c0, c1, _, _, c4⟩ := q2
    obtain ⟨y, hy, _, hy2⟩ := at_in (xs := hps) c0 c1
    obtain ⟨k, k1, k2⟩ := hh _ y hy2
    have hk := hale_mem.mp (List.mem_of_getElem? k1)
    refine ⟨k, q, q1, c0, k1, s2 k _ ((ci.cst s k _ s0).mpr ⟨List.mem_of_getElem? k1, ⟨hk.1.1, hk.1.2, s0, s1, fun p t h1 h2 => ?_⟩, rfl⟩)⟩
    rw [k2] at h1
    cases h1
    exact c4 _ t hy h2
  let f : Int → Int := fun s => if h : s ∈ seats then (ex s h).choose else 0
  have hf : ∀ s (h : s ∈ seats), f s = (ex s h).choose := fun s h => dif_pos h
  have := inj_len (l := seats) (m := done) f hn (fun s hs t ht e => by
    rw [hf s hs, hf t ht] at e
    obtain ⟨q, q1, q2, q3, _⟩ := (ex s hs).choose_spec
    obtain ⟨r, r1, r2, r3, _⟩ := (ex t ht).choose_spec
    rw [← e] at r3
    obtain ⟨b1, d1⟩ := List.getElem?_eq_some_iff.mp q3
    obtain ⟨b2, d2⟩ := List.getElem?_eq_some_iff.mp r3
    have e1 := (List.getElem_inj hhn (h₀ := b1) (h₁ := b2)).mp (d1.trans d2.symm)
    have e2 : q = r := by omega
    rw [← e2] at r1
    have a1 := (sd.iff q s).mpr ⟨(hall s hs).1, q1⟩
    have a2 := (sd.iff q t).mpr ⟨(hall t ht).1, r1⟩
    rw [a1] at a2
    exact Option.some.inj a2) (fun s hs => by
    rw [hf s hs]
    obtain ⟨_, _, _, _, h⟩ := (ex s hs).choose_spec
    exact h)
  omega
def Moved (ps : List (Str × Tu Str)) (ss : List (Tu Str)) (row ill : List Int) (x : (Str × List (Option Int)) ⊕ (T5 Str Int (List (Option Int)) (List Int) (List Int))) : Prop :=
  match x with
  | .inl q => q.1 = ("short" : Str) ∧ ∃ hps : List (Str × Tu Str), hps.length = (haleL ps.length ill).length ∧ (∀ (i : Nat) (y : Str × Tu Str), hps[i]? = some y → ∃ x, (haleL ps.length ill)[i]? = some x ∧ atI ps x = some y) ∧ Told hps ss (("short" : Str), q.2)
  | .inr q => q.a = ("moved" : Str) ∧ ∃ (C : R_Costs) (P : R_Prices), CI ps ss row ill C ∧ P.costs = C.costs ∧ Pr ps.length ss.length P ∧ q.c = P.row ∧ q.d = P.of_seat ∧ q.b = q.d.sum + q.e.sum ∧ q.e.length = ps.length ∧
      ∀ k : Int, 0 ≤ k → k < ps.length → gg q.e k = if k ∈ haleL ps.length ill then gg P.of_player k + (if (dval C.sat k).isSome = true then (1 : Int) else 0) else 0
theorem moved_ok {ps : List (Str × Tu Str)} {ss : List (Tu Str)} {row ill : List Int} (hp : ps.length ≤ 1000) (hs : ss.length ≤ 1000) (hr : row.length ≤ 1000) : Ok (m_fewest_moved ps ss row ill) (fun r => if WW ps ss row = true then (match ill.find? (noP ps.length) with
    | some x => r = Rz.er (Er.pi "NoPlayer" "place" x)
    | none => ∃ x, r = Rz.ok x ∧ Moved ps ss row ill x) else r = Rz.er (Er.pl "NoSeating")) := by
  unfold m_fewest_moved
  have hz := szl
  rw [seating_eq hr]
  refine ok_bnd (P := fun z => WW ps ss row = z) (ok_some rfl) fun w hw => ok_ite (fun h => ok_some ?_) (fun h => ?_)
  · rw [Bool.not_eq_true'] at h
    rw [hw, h, if_neg Bool.false_ne_true]
  · rw [Bool.not_eq_false'] at h
    refine Ok.imp (P := fun r => match ill.find? (noP ps.length) with
      | some x => r = Rz.er (Er.pi "NoPlayer" "place" x)
      | none => ∃ x, r = Rz.ok x ∧ Moved ps ss row ill x) ?_ (fun r hr => by rw [hw, h, if_pos rfl]; exact hr)
    have hW : WW ps ss row = true := by rw [hw, h]
    unfold WW at hW
    rw [Bool.and_eq_true, Bool.and_eq_true] at hW
    have hnd : row.Nodup := of_decide_eq_true hW.2.1
    rw [foldF_first (p := noP ps.length) (g := fun x => Rz.er (Er.pi "NoPlayer" "place" x)) (fun x _ => rfl)]
    cases hfd : ill.find? (noP ps.length) with
    | some x => exact ok_some rfl
    | none =>
      refine ok_bnd (P := fun o => o = .nx ()) (ok_some rfl) fun o ho => ?_
      subst ho
      rw [go_nx]
      refine ok_bnd (short_ok (ill := ill) hp hs) fun l ⟨hps, l1, l2, l3⟩ => ok_lt fun sh hsh => ok_ite (fun h => ok_some ⟨_, rfl, rfl, hps, l1, l2, ?_⟩) (fun h => ?_)
      · rw [Bool.not_eq_true', decide_eq_false_iff_not] at h
        rcases l3 with ⟨e, _⟩ | ⟨_, t⟩
        · exact absurd (hsh.trans e) h
        · rw [hsh]; exact t
      · rw [Bool.not_eq_false', decide_eq_true_iff] at h
        obtain ⟨own, row2, sd⟩ : ∃ own row, Sd hps ss ss.length own row := by
          rcases l3 with ⟨_, t⟩ | ⟨e, _⟩
          · exact t
          · exact absurd (hsh.symm.trans h) e
        have hfl := List.length_filter_le (fun x : Int => !decide (x ∈ ill)) (rng 0 (ps.length : Int))
        refine ok_bnd (P := CI ps ss row ill) (costs_ok hp hs hr hnd) fun C hC => ok_bnd (P := fun P => P.costs = C.costs ∧ Pr ps.length 0 P) (pinit_ok hC.cs hp (by rw [hC.len]; exact hs)) fun P0 ⟨p1, p2⟩ => ok_chk ⟨by omega, by omega⟩ (ok_bnd (P := fun P => P.costs = C.costs ∧ Pr ps.length ss.length P) (ok_foldO (fun i P => P.costs = C.costs ∧ Pr ps.length i P) ⟨p1, p2⟩ ?_ ?_) fun P ⟨q1, q2⟩ => ok_chk ⟨by omega, by omega⟩ (ok_chk (by rw [List.length_map, rng_len]; omega) (ok_lt fun op hop => ?_)))
        · rintro i P x hx ⟨i1, i2⟩
          obtain ⟨e1, e2⟩ := rng_at hx
          rw [show x = (i : Int) by omega]
          refine ok_bnd (P := fun P' => P'.costs = P.costs ∧ (Pr ps.length (i + 1) P' ∨ Hall P.costs)) (fill_ok i2 (by rw [i1, hC.len]; omega)) fun P' ⟨j1, j2⟩ => ok_some ⟨j1.trans i1, ?_⟩
          rcases j2 with j2 | j2
          · exact j2
          · rw [i1] at j2
            exact absurd j2 (no_hall hC l2 sd)
        · rintro P ⟨i1, i2⟩
          rw [rng_len_nn (by omega), Int.toNat_natCast] at i2
          exact ⟨i1, i2⟩
        · have hopl : op.length = ps.length := by rw [hop, List.length_map, rng_len]; omega
          have hop0 : ∀ k : Int, gg op k = 0 := fun k => by
            rw [hop]
            unfold gg
            rw [List.getD_eq_getElem?_getD, List.getElem?_map]
            cases (rng 0 (ps.length : Int))[k.toNat]? <;> rfl
          have hhn : (haleL ps.length ill).Nodup := (rng_nodup _ _).filter _
          rw [hC.hale]
          refine ok_bnd (P := fun b : List Int => b.length = ps.length ∧ ∀ k : Int, 0 ≤ k → k < ps.length → gg b k = if k ∈ haleL ps.length ill then gg P.of_player k + (if (dval C.sat k).isSome = true then (1 : Int) else 0) else 0) (ok_foldO (fun i (b : List Int) => b.length = ps.length ∧ ∀ k : Int, 0 ≤ k → k < ps.length → gg b k = if k ∈ (haleL ps.length ill).take i then gg P.of_player k + (if (dval C.sat k).isSome = true then (1 : Int) else 0) else 0) ⟨hopl, fun k _ _ => by rw [hop0]; simp⟩ ?_ ?_) fun b ⟨b1, b2⟩ => ok_lt fun many hmany => ok_some ⟨_, rfl, rfl, C, P, hC, q1, q2, rfl, rfl, hmany, b1, b2⟩
          · rintro i b k hk ⟨b1, b2⟩
            obtain ⟨⟨k0, k1⟩, _⟩ := hale_mem.mp (List.mem_of_getElem? hk)
            rw [at_gg (xs := P.of_player) k0 (by rw [q2.vl]; exact k1)]
            refine ok_bnd (P := fun z => z = gg P.of_player k) (ok_some rfl) fun z hz1 => ok_bnd (P := fun z => z = if (dval C.sat k).isSome = true then (1 : Int) else 0) (ok_some rfl) fun z2 hz2 => ok_bnd (P := fun j => j = k.toNat) (ok_eq (ixN_get k0 (by omega)) rfl) fun j hj => ok_lt fun ls hls => ok_some ?_
            subst hj
            rw [hls, hz1, hz2]
            refine ⟨by rw [List.length_set]; exact b1, fun t t0 t1 => ?_⟩
            rw [gg_set (by omega) t0, take_snoc hk]
            by_cases e : t = k
            · subst e
              rw [if_pos (by omega), if_pos (List.mem_append_right _ (List.mem_singleton.mpr rfl))]
            · rw [if_neg (by omega), b2 t t0 t1]
              by_cases e2 : t ∈ (haleL ps.length ill).take i
              · rw [if_pos e2, if_pos (List.mem_append_left _ e2)]
              · rw [if_neg e2, if_neg]
                intro hm
                rcases List.mem_append.mp hm with hm | hm
                · exact e2 hm
                · exact e (List.mem_singleton.mp hm)
          · rintro b ⟨b1, b2⟩
            rw [List.take_length] at b2
            exact ⟨b1, b2⟩
theorem lcan_eq {p : Str × Tu Str} {s : Tu Str} (hg : s.l.length ≤ 4 ∧ ∀ x ∈ s.l, txt x) : m_l_can p s = some (can p s) := by
  unfold m_l_can
  have hz := szl
  have hfl := List.length_filter_le (fun x => !decide (x ∈ p.2.l)) s.l
  rw [List.map_id', chk_pos (by omega), chk_pos (shp_strs fun x hx => hg.2 x (List.mem_filter.mp hx).1), chk_pos (shp_strs fun x hx => by simp at hx)]
  congr 1
  unfold can
  rw [Bool.eq_iff_iff, decide_eq_true_iff, List.filter_eq_nil_iff, Bool.not_eq_true', List.any_eq_false]
def Ps (ps : List (Str × Tu Str)) : Prop := ∀ p ∈ ps, p.2.l.length ≤ 5 ∧ txt p.1 ∧ ∀ x ∈ p.2.l, txt x
def Ss (ss : List (Tu Str)) : Prop := ∀ s ∈ ss, s.l.length ≤ 4 ∧ ∀ x ∈ s.l, txt x
theorem lseat_eq {ps : List (Str × Tu Str)} {ss : List (Tu Str)} {row : List Int} (hl : row.length ≤ 1000) (hg : ∀ s ∈ ss, s.l.length ≤ 4 ∧ ∀ x ∈ s.l, txt x) : m_l_is_seating ps ss row = some (WW ps ss row) := by
  unfold WW
  refine Ok.eq ?_
  unfold m_l_is_seating
  have hz := szl
  have e1 : decide ((row.length : Int) = (ss.length : Int)) = decide (row.length = ss.length) := by
    rw [Bool.eq_iff_iff, decide_eq_true_iff, decide_eq_true_iff]; omega
  rw [e1]
  by_cases hls : row.length = ss.length
  · rw [decide_eq_true hls]
    show Ok (chk _ (bnd (foldF _ _ _) _)) _
    refine ok_chk ⟨by omega, by omega⟩ ?_
    rw [foldF_anyM (p := fun k => bad ps ss row k || (match atI row k with
      | some j => decide (j ∈ row.take k.toNat)
      | none => true)) (r := false) fun k hk => ?_]
    · have e3 : ((rng 0 (row.length : Int)).any fun k => bad ps ss row k || (match atI row k with
          | some j => decide (j ∈ row.take k.toNat)
          | none => true)) = !(decide row.Nodup && !(rng 0 (row.length : Int)).any (bad ps ss row)) := by
        rw [Bool.eq_iff_iff, Bool.not_and, Bool.not_not, Bool.or_eq_true, Bool.not_eq_true', decide_eq_false_iff_not, List.any_eq_true, List.any_eq_true, nodup_take]
        constructor
        · rintro ⟨k, hk, h⟩
          rw [Bool.or_eq_true] at h
          rcases h with h | h
          · exact .inr ⟨k, hk, h⟩
          · obtain ⟨k0, k1⟩ := mem_rng.mp hk
            obtain ⟨j, hj, _, hj2⟩ := at_in k0 k1
            rw [hj] at h
            exact .inl fun z => z k.toNat j hj2 (of_decide_eq_true h)
        · rintro (h | ⟨k, hk, h⟩)
          · refine Classical.byContradiction fun hc => h fun k x hx hx2 => hc ⟨(k : Int), ?_, ?_⟩
            · have := (List.getElem?_eq_some_iff.mp hx).1
              exact mem_rng.mpr ⟨by omega, by omega⟩
            · have h5 := (List.getElem?_eq_some_iff.mp hx).1
              have : atI row (k : Int) = some x := by rw [atI_get (by omega) (by omega), Int.toNat_natCast]; exact hx
              rw [this, Int.toNat_natCast, Bool.or_eq_true]
              exact .inr (decide_eq_true hx2)
          · exact ⟨k, hk, by rw [h]; rfl⟩
      rw [e3]
      cases (decide row.Nodup && !(rng 0 (row.length : Int)).any (bad ps ss row))
      · exact ok_some rfl
      · exact ok_some rfl
    · obtain ⟨k0, k1⟩ := mem_rng.mp hk
      obtain ⟨j, hj, _, _⟩ := at_in k0 k1
      obtain ⟨s, hs, hsm, _⟩ := at_in (xs := ss) k0 (by omega)
      have hcut : cut row none (some k) = row.take k.toNat := by
        have := cut_hi row k.toNat
        rw [show ((k.toNat : Nat) : Int) = k by omega] at this
        exact this
      have eb : bad ps ss row k = (decide (j < 0) || (decide ((ps.length : Int) ≤ j) || (match atI ps j with
        | some p => !can p s
        | none => true))) := by unfold bad; rw [hj, hs]
      rw [eb, hj, hs, hcut]
      show bnd (orO (!(decide ((0 : Int) ≤ j) && decide (j < (ps.length : Int)))) (orO (decide (j ∈ row.take k.toNat)) (bnd (atI ps j) fun p => bnd (m_l_can p s) fun c => some (!c)))) _ = _
      by_cases h1 : j < 0
      · rw [decide_eq_false (show ¬ (0 : Int) ≤ j by omega), decide_eq_true h1]; rfl
      · by_cases h2 : (ps.length : Int) ≤ j
        · rw [decide_eq_false (show ¬ j < (ps.length : Int) by omega), Bool.and_false, decide_eq_false h1, decide_eq_true h2]; rfl
        · rw [decide_eq_true (show (0 : Int) ≤ j by omega), decide_eq_true (show j < (ps.length : Int) by omega), decide_eq_false h1, decide_eq_false h2]
          obtain ⟨p, hp, _, _⟩ := at_in (xs := ps) (k := j) (by omega) (by omega)
          rw [hp]
          show bnd (orO (decide (j ∈ row.take k.toNat)) (bnd (m_l_can p s) fun c => some (!c))) _ = if ((false || (false || !can p s)) || decide (j ∈ row.take k.toNat)) = true then some (Fl.rt false) else some (Fl.nx ())
          rw [lcan_eq (hg s hsm)]
          by_cases h3 : j ∈ row.take k.toNat
          · rw [decide_eq_true h3]
            cases can p s <;> rfl
          · rw [decide_eq_false h3]
            cases can p s <;> rfl
  · rw [decide_eq_false hls]
    exact ok_some rfl

theorem shp4 {ps : List (Str × Tu Str)} {ss : List (Tu Str)} {row ill : List Int} (hp2 : Ps ps) (hs2 : Ss ss) : shp (⟨ps, ss, row, ill⟩ : HL4 (List (Str × Tu Str)) (List (Tu Str)) (List Int) (List Int)) := by
  have hp3 : ∀ p ∈ ps, PyData.canLay0 (EqD.toD p) = true ∧ PyData.depth (EqD.toD p) ≤ 2 := fun p hp => by
    obtain ⟨_, t1, t2⟩ := hp2 p hp
    obtain ⟨l1, l2⟩ := lay_strs t2
    show PyData.canLay0 (.tuple [.str p.1, .tuple (p.2.l.map PyData.str)]) = true ∧ PyData.depth (.tuple [.str p.1, .tuple (p.2.l.map PyData.str)]) ≤ 2
    have t1 : PyData.strOk p.1 = true := t1
    refine ⟨by simp [PyData.canLay0, PyData.canLayAll0, l1, t1], by simp [PyData.depth, PyData.depthAll, l2]⟩
  have hs3 : ∀ s ∈ ss, PyData.canLay0 (EqD.toD s) = true ∧ PyData.depth (EqD.toD s) ≤ 2 := fun s hs => by
    obtain ⟨l1, l2⟩ := lay_strs (hs2 s hs).2
    show PyData.canLay0 (.tuple (s.l.map PyData.str)) = true ∧ PyData.depth (.tuple (s.l.map PyData.str)) ≤ 2
    refine ⟨by simp [PyData.canLay0, l1], by simp [PyData.depth, l2]⟩
  have hi : ∀ (xs : List Int), ∀ x ∈ xs, PyData.canLay0 (EqD.toD x) = true ∧ PyData.depth (EqD.toD x) ≤ 0 := fun xs x _ => by
    show PyData.canLay0 (.int x) = true ∧ PyData.depth (.int x) ≤ 0
    simp [PyData.canLay0, PyData.depth]
  obtain ⟨p1, p2⟩ := lay_all hp3
  obtain ⟨s1, s2⟩ := lay_all hs3
  obtain ⟨r1, r2⟩ := lay_all (hi row)
  obtain ⟨i1, i2⟩ := lay_all (hi ill)
  unfold shp SeqAt.shaped
  show (PyData.canLay0 (.list [.list (ps.map EqD.toD), .list (ss.map EqD.toD), .list (row.map EqD.toD), .list (ill.map EqD.toD)]) && decide (PyData.depth (.list [.list (ps.map EqD.toD), .list (ss.map EqD.toD), .list (row.map EqD.toD), .list (ill.map EqD.toD)]) ≤ 64)) = true
  rw [Bool.and_eq_true, decide_eq_true_iff]
  refine ⟨by simp [PyData.canLay0, PyData.canLayAll0, p1, s1, r1, i1], by simp only [PyData.depth, PyData.depthAll]; omega⟩
def tld (ps : List (Str × Tu Str)) (ss : List (Tu Str)) (row ill : List Int) : Tu An := if WW ps ss row = true then (match ill.find? (noP ps.length) with
  | some x => ⟨[An.s ("player" : Str), An.i x, An.b true]⟩
  | none => ⟨[An.s ("told" : Str), An.i 0]⟩) else ⟨[An.s ("seating" : Str), An.b true]⟩
theorem told_eq {ps : List (Str × Tu Str)} {ss : List (Tu Str)} {row ill : List Int} (hp : ps.length ≤ 1000) (hs : ss.length ≤ 1000) (hr : row.length ≤ 1000) : m_l_told ps ss row ill = some (tld ps ss row ill) := by
  obtain ⟨r, e, h⟩ := moved_ok (ill := ill) hp hs hr
  unfold m_l_told
  have e : a_fewest_moved (ps, ss, row, ill, ()) = some r := e
  unfold tld
  by_cases hW : WW ps ss row = true
  · rw [if_pos hW] at h ⊢
    cases hf : ill.find? (noP ps.length) with
    | some x =>
      rw [hf] at h
      have h : r = Rz.er (Er.pi "NoPlayer" "place" x) := h
      show tb (a_fewest_moved (ps, ss, row, ill, ())) _ _ = _
      rw [e, h]
      rfl
    | none =>
      rw [hf] at h
      obtain ⟨y, h, _⟩ := h
      show tb (a_fewest_moved (ps, ss, row, ill, ())) _ _ = _
      rw [e, h]
      rfl
  · rw [if_neg hW] at h ⊢
    show tb (a_fewest_moved (ps, ss, row, ill, ())) _ _ = _
    rw [e, h]
    show chk _ _ = _
    rw [chk_pos (by rfl)]
    rfl
theorem an_refl (x : An) : PyData.eqv (ToD.td x) (ToD.td x) = true := by
  cases x with
  | b x => exact (EqD.eqv x x).mpr rfl
  | i x => exact (EqD.eqv x x).mpr rfl
  | o x => exact (EqD.eqv x x).mpr rfl
  | s x => exact (EqD.eqv x x).mpr rfl
  | l x => exact (EqD.eqv x x).mpr rfl
  | ls x => exact (EqD.eqv x x).mpr rfl
  | ts x => exact (EqD.eqv x x).mpr rfl
theorem tan_refl (x : Tu An) : eqvD x x = true := by
  obtain ⟨l⟩ := x
  show PyData.eqvAll (l.map ToD.td) (l.map ToD.td) = true
  induction l with
  | nil => rfl
  | cons y r ih =>
    show (PyData.eqv (ToD.td y) (ToD.td y) && PyData.eqvAll (r.map ToD.td) (r.map ToD.td)) = true
    rw [an_refl, ih]; rfl
theorem shp_t1 : shpD (⟨[An.s ("seating" : Str), An.b true]⟩ : Tu An) := by
  unfold shpD; decide +kernel
theorem shp_t2 : shpD (⟨[An.s ("told" : Str), An.i 0]⟩ : Tu An) := by
  unfold shpD; decide +kernel
theorem shp_t3 (x : Int) : shpD (⟨[An.s ("player" : Str), An.i x, An.b true]⟩ : Tu An) := by
  unfold shpD SeqAt.shaped
  have h : PyData.strOk ("player" : Str) = true := by decide +kernel
  show (PyData.canLay0 (.tuple [.str ("player" : Str), .int x, EqD.toD true]) && decide (PyData.depth (.tuple [.str ("player" : Str), .int x, EqD.toD true]) ≤ 64)) = true
  have h2 : PyData.canLay0 (EqD.toD true) = true ∧ PyData.depth (EqD.toD true) = 0 := by decide +kernel
  rw [Bool.and_eq_true, decide_eq_true_iff]
  refine ⟨by simp [PyData.canLay0, PyData.canLayAll0, h, h2.1], by simp [PyData.depth, PyData.depthAll, h2.2]⟩
theorem asked_ok {ps : List (Str × Tu Str)} {ss : List (Tu Str)} {row ill : List Int} (hp : ps.length ≤ 1000) (hs : ss.length ≤ 1000) (hr : row.length ≤ 1000) (hi : ill.length ≤ 1000) (hp2 : Ps ps) (hs2 : Ss ss) : Ok (m_l_asked ps ss row ill) (· = true) := by
  unfold m_l_asked
  have hz := szl
  rw [told_eq hp hs hr, lseat_eq hr hs2]
  refine ok_lt fun kept hk => ok_bnd (P := fun t => tld ps ss row ill = t) (ok_some rfl) fun t ht => ok_lt fun t2 ht2 => ?_
  subst hk ht
  have ht2 := ht2.symm
  subst ht2
  refine ok_chk (shp4 hp2 hs2) (ok_chk (shp4 hp2 hs2) ?_)
  rw [decide_eq_true (show (⟨ps, ss, row, ill⟩ : HL4 (List (Str × Tu Str)) (List (Tu Str)) (List Int) (List Int)) = ⟨ps, ss, row, ill⟩ from rfl)]
  rw [if_neg (show ¬ (!true) = true by decide)]
  refine ok_bnd (P := fun w => WW ps ss row = w) (ok_some rfl) fun w hw => ok_ite (fun h => ?_) (fun h => ?_)
  · rw [Bool.not_eq_true'] at h
    have e : tld ps ss row ill = ⟨[An.s ("seating" : Str), An.b true]⟩ := by
      unfold tld
      rw [hw, h, if_neg Bool.false_ne_true]
    rw [e]
    exact ok_chk shp_t1 (ok_chk shp_t1 (ok_some (tan_refl _)))
  · rw [Bool.not_eq_false'] at h
    have hfn : (fun (x3856 : Int) => (!(decide ((0 : Int) ≤ x3856) && decide (x3856 < ((ps).length : Int))))) = noP ps.length := by
      funext x
      unfold noP
      by_cases h1 : x < 0
      · rw [decide_eq_true h1, decide_eq_false (show ¬ (0 : Int) ≤ x by omega)]; rfl
      · rw [decide_eq_false h1, decide_eq_true (show (0 : Int) ≤ x by omega)]
        by_cases h2 : x < ps.length
        · rw [decide_eq_true h2, decide_eq_false (show ¬ (ps.length : Int) ≤ x by omega)]; rfl
        · rw [decide_eq_false h2, decide_eq_true (show (ps.length : Int) ≤ x by omega)]; rfl
    rw [hfn, List.map_id']
    have hfl := List.length_filter_le (noP ps.length) ill
    have hhd := List.head?_filter (l := ill) (p := noP ps.length)
    refine ok_chk (by omega) (ok_lt fun bl hbl => ?_)
    rw [← hbl] at hhd
    cases bl with
    | nil =>
      have e : tld ps ss row ill = ⟨[An.s ("told" : Str), An.i 0]⟩ := by
        unfold tld
        rw [hw, h, if_pos rfl, ← hhd]; rfl
      rw [e]
      exact ok_chk shp_t2 (ok_chk shp_t2 (ok_some (tan_refl _)))
    | cons y r =>
      have e : tld ps ss row ill = ⟨[An.s ("player" : Str), An.i y, An.b true]⟩ := by
        unfold tld
        rw [hw, h, if_pos rfl, ← hhd]; rfl
      rw [e]
      rw [if_pos (show (!decide (y :: r = ([] : List Int))) = true by simp)]
      exact ok_bnd (P := fun z => z = y) (ok_eq (show atI (y :: r) 0 = some y from (atI_get (Int.le_refl 0) (by rw [List.length_cons]; omega)).trans rfl) rfl) fun z hz1 => by
        rw [hz1]
        exact ok_chk (shp_t3 y) (ok_chk (shp_t3 y) (ok_some (tan_refl _)))
theorem seats_ok (cell : Int) {most : Int} {ts : List Str} (m0 : 0 ≤ most) (m1 : most ≤ 34) (hR : RepOk most ([5, 8, 4] : List Int).length) (hL : (([(most + (1 : Int))] : List Int)).length + ((repl most ([(5 : Int), (8 : Int), (4 : Int)] : List Int))).length ≤ 1000) (hD : ∀ n ∈ (([(most + 1 : Int)] : List Int) ++ repl most [5, 8, 4]), 0 < n ∧ n < 100000000)
    (k1 : ∀ k : Nat, (k : Int) < most → (([(most + 1 : Int)] : List Int) ++ repl most [5, 8, 4])[1 + 3 * k]? = some 5) (k2 : ∀ k : Nat, (k : Int) < most → (([(most + 1 : Int)] : List Int) ++ repl most [5, 8, 4])[2 + 3 * k]? = some 8) (k3 : ∀ k : Nat, (k : Int) < most → (([(most + 1 : Int)] : List Int) ++ repl most [5, 8, 4])[3 + 3 * k]? = some 4) (ht : ts.length = 5) (hg : ∀ x ∈ ts, Good x) : Ok (m_l_seats cell most ts) (fun ss => (ss.length : Int) ≤ most ∧ Ss ss) := by
  unfold m_l_seats
  have hz := szl
  refine ok_chk hR (ok_chk (by omega) (ok_bnd (draws_ok hD (by rw [List.length_append]; exact hL)) fun ds hds => ok_lt fun ds' h => ?_))
  subst h
  refine ok_bnd (ok_draw hds 0 rfl (Q := fun d => 0 ≤ d ∧ d < most + 1) fun d a b => ⟨a, b⟩) fun d ⟨d0, d1⟩ => ok_chk ⟨by omega, by omega⟩ (ok_bnd (ok_mapO (P := fun _ s => s.l.length ≤ 4 ∧ ∀ x ∈ s.l, txt x) fun x hx => ?_) fun ys ⟨y1, y2⟩ => ?_)
  · obtain ⟨x0, x1⟩ := mem_rng.mp hx
    obtain ⟨k, rfl⟩ : ∃ k : Nat, x = (k : Int) := ⟨x.toNat, by omega⟩
    have a1 := ok_draw hds (1 + 3 * k) (k1 k (by omega)) (Q := fun d => 0 ≤ d ∧ d < 5) fun d a b => ⟨a, b⟩
    have a2 := ok_draw hds (2 + 3 * k) (k2 k (by omega)) (Q := fun d => 0 ≤ d ∧ d < 8) fun d a b => ⟨a, b⟩
    have a3 := ok_draw hds (3 + 3 * k) (k3 k (by omega)) (Q := fun d => 0 ≤ d ∧ d < 4) fun d a b => ⟨a, b⟩
    rw [show ((1 + 3 * k : Nat) : Int) = 1 + 3 * (k : Int) by omega] at a1
    rw [show ((2 + 3 * k : Nat) : Int) = 2 + 3 * (k : Int) by omega] at a2
    rw [show ((3 + 3 * k : Nat) : Int) = 3 + 3 * (k : Int) by omega] at a3
    exact ok_bnd a1 fun a ha => ok_bnd a2 fun b hb => ok_bnd a3 fun c hc => ok_ret ((seat_ok hb.1 hb.2 hc.1 hc.2 ht hg).imp fun s ⟨h1, h2⟩ => ⟨h1, fun x hx => (h2 x hx).1⟩)
  · rw [rng_len_nn d0] at y1
    refine ok_chk (by omega) (ok_some ⟨by omega, fun p hp => ?_⟩)
    obtain ⟨i, hi⟩ := List.mem_iff_getElem?.mp hp
    obtain ⟨_, _, h⟩ := y2 i p hi
    exact h
theorem all_lt {P : Nat → Prop} {m : Int} (n : Nat) (hm : m = n) (h : ∀ k, k < n → P k) : ∀ k : Nat, (k : Int) < m → P k := fun k hk => h k (by omega)

theorem bent_ok {cell : Int} {ps : List (Str × Tu Str)} {row : List Int} (hp : ps.length ≤ 100) (hr : row.length ≤ 100) : Ok (m_l_bent cell ps row) (fun r => r.length ≤ 1000) := by
  unfold m_l_bent
  have hz := szl
  have cl := @cut_len_le Int row
  refine ok_bnd (draws_ok (fun n hn => ?_) (by show 4 ≤ 1000; omega)) fun ds hds => ok_lt fun ds' h => ?_
  · simp only [List.mem_cons, List.not_mem_nil, or_false] at hn
    omega
  subst h
  refine ok_bnd (ok_draw hds 1 rfl (Q := fun d => 0 ≤ d ∧ d < 8) fun d a b => ⟨a, b⟩) fun d1 hd1 => ok_chk (by omega) (ok_lt fun pl hpl => ok_bnd (ok_draw hds 2 rfl (Q := fun _ => True) fun _ _ _ => trivial) fun d2 _ => ok_lt fun place _ => ok_bnd (ok_draw hds 3 rfl (Q := fun _ => True) fun _ _ _ => trivial) fun d3 _ => ok_bnd (P := fun _ => True) (ok_ite (fun _ => ?_) (fun _ => ok_some trivial)) fun pc _ => ok_bnd (ok_draw hds 0 rfl (Q := fun _ => True) fun _ _ _ => trivial) fun d0 _ => ok_ite (fun _ => ?_) (fun _ => ok_bnd (ok_draw hds 0 rfl (Q := fun _ => True) fun _ _ _ => trivial) fun d0 _ => ok_ite (fun _ => ?_) (fun _ => ok_bnd (ok_draw hds 0 rfl (Q := fun _ => True) fun _ _ _ => trivial) fun d0 _ => ok_ite (fun _ => ?_) (fun _ => ok_bnd (ok_draw hds 0 rfl (Q := fun _ => True) fun _ _ _ => trivial) fun d0 _ => ok_ite (fun _ => ?_) (fun _ => ok_some (by omega))))))
  · exact ok_bnd (ok_draw hds 1 rfl (Q := fun _ => True) fun _ _ _ => trivial) fun d _ => ok_bnd (P := fun _ => True) (ok_atI (by omega) (by simp; omega) fun _ _ => trivial) fun _ _ => ok_lt fun _ _ => ok_some trivial
  · have c1 := cl none (some pl)
    have c2 := cl (some (pl + 1)) none
    refine ok_chk (by rw [List.length_singleton]; omega) (ok_chk (by rw [List.length_append, List.length_singleton]; omega) (ok_some (by rw [List.length_append, List.length_append, List.length_singleton]; omega)))
  · have c1 := cl none (some pl)
    have c2 := cl (some pl) none
    refine ok_chk (by rw [List.length_singleton]; omega) (ok_chk (by rw [List.length_append, List.length_singleton]; omega) (ok_some (by rw [List.length_append, List.length_append, List.length_singleton]; omega)))
  · have c1 := cl none (some pl)
    have c2 := cl (some (pl + 1)) none
    refine ok_chk (by omega) (ok_some (by rw [List.length_append]; omega))
  · have c1 := cl none (some pl)
    have c2 := cl (some pl) (some (pl + 1))
    have c3 := cl (some pl) none
    refine ok_chk (by omega) (ok_chk (by rw [List.length_append]; omega) (ok_some (by rw [List.length_append, List.length_append]; omega)))
theorem ill_ok {cell many : Int} (m0 : 0 ≤ many) (m1 : many ≤ 40) : Ok (m_l_ill cell many) (fun r => r.length ≤ 100) := by
  unfold m_l_ill
  have hz := szl
  have k1 : ∀ k : Nat, k < 40 → (([(4 : Int)] : List Int) ++ repl 40 [5])[1 + k]? = some 5 := by decide
  refine ok_chk ⟨by decide, by decide, by decide⟩ (ok_chk (by decide) (ok_bnd (draws_ok (by decide) (by decide)) fun ds hds => ok_lt fun ds' h => ok_chk ⟨by omega, by omega⟩ ?_))
  subst h
  have hT : ∀ x ∈ rng 0 many, ∃ b : Bool, (bnd (atI ds' ((1 : Int) + x)) fun at1081 => (bnd (atI ds' (0 : Int)) fun at1082 => (bnd (atI ([(0 : Int), (0 : Int), (1 : Int), (2 : Int)] : List Int) at1082) fun at1083 => (some (decide (at1081 ≤ at1083)))))) = some b := fun x hx => by
    obtain ⟨x0, x1⟩ := mem_rng.mp hx
    obtain ⟨k, rfl⟩ : ∃ k : Nat, x = k := ⟨x.toNat, by omega⟩
    have a1 := ok_draw hds (1 + k) (k1 k (by omega)) (Q := fun _ => True) fun _ _ _ => trivial
    rw [show ((1 + k : Nat) : Int) = 1 + (k : Int) by omega] at a1
    obtain ⟨r, hr, _⟩ := ok_bnd a1 fun d _ => ok_bnd (ok_draw hds 0 rfl (Q := fun d => 0 ≤ d ∧ d < 4) fun d a b => ⟨a, b⟩) fun e he => ok_bnd (P := fun _ => True) (ok_atI (xs := [(0 : Int), 0, 1, 2]) he.1 (by simp; omega) fun _ _ => trivial) fun z _ => ok_some (x := decide (d ≤ z)) (P := fun _ => True) trivial
    exact ⟨r, hr⟩
  refine ok_bnd (ok_compO (T := fun x => (bnd (atI ds' ((1 : Int) + x)) fun at1081 => (bnd (atI ds' (0 : Int)) fun at1082 => (bnd (atI ([(0 : Int), (0 : Int), (1 : Int), (2 : Int)] : List Int) at1082) fun at1083 => (some (decide (at1081 ≤ at1083)))))).getD false) (P := fun _ _ => True) (fun x hx => by
    obtain ⟨b, hb⟩ := hT x hx
    exact ⟨b, hb, by rw [hb]; rfl⟩) (fun x hx _ => ok_some trivial)) fun ys ⟨y1, _⟩ => ?_
  have hyl : ys.length ≤ 40 := by
    rw [y1]
    refine Nat.le_trans (List.length_filter_le _ _) ?_
    rw [rng_len]; omega
  have c1 := cut_len_le ys none (some 1)
  refine ok_chk (by omega) (ok_lt fun il hil => ok_bnd (ok_draw hds 0 rfl (Q := fun _ => True) fun _ _ _ => trivial) fun d _ => ok_bnd (P := fun r => r.length ≤ 100) (ok_ite (fun _ => ?_) (fun _ => ok_some (by rw [hil]; omega))) fun r hr => ok_some hr)
  subst hil
  exact ok_chk (by rw [List.length_reverse]; omega) (ok_lt fun r hr => ok_some (by rw [hr, List.length_append, List.length_reverse]; omega))
theorem strange_ok {cell : Int} {ps : List (Str × Tu Str)} {ill : List Int} (hi : ill.length ≤ 100) : Ok (m_l_strange cell ps ill) (fun r => r.length ≤ 1000) := by
  unfold m_l_strange
  have hz := szl
  have cl := @cut_len_le Int ill
  refine ok_bnd (draws_ok (by decide) (by decide)) fun ds hds => ok_lt fun ds' h => ok_lt fun many hmany => ok_lt fun st hst => ?_
  subst h
  have hstl : st.length = 3 := by rw [hst]; rfl
  refine ok_bnd (ok_draw hds 1 rfl (Q := fun d => 0 ≤ d ∧ d < 8) fun d a b => ⟨a, b⟩) fun d1 hd1 => ok_chk (by omega) (ok_lt fun pl hpl => ok_bnd (ok_draw hds 0 rfl (Q := fun _ => True) fun _ _ _ => trivial) fun d0 _ => ok_ite (fun _ => ?_) (fun _ => ok_bnd (ok_draw hds 0 rfl (Q := fun _ => True) fun _ _ _ => trivial) fun d0 _ => ok_ite (fun _ => ?_) (fun _ => ok_some (by omega))))
  · have c1 := cl none (some pl)
    have c2 := cl (some pl) none
    refine ok_bnd (ok_draw hds 2 rfl (Q := fun d => 0 ≤ d ∧ d < 3) fun d a b => ⟨a, b⟩) fun d2 hd2 => ok_bnd (P := fun _ => True) (ok_atI (by omega) (by omega) fun _ _ => trivial) fun z _ => ok_chk (by rw [List.length_singleton]; omega) (ok_chk (by rw [List.length_append, List.length_singleton]; omega) (ok_some (by rw [List.length_append, List.length_append, List.length_singleton]; omega)))
  · have c1 := cl none (some pl)
    have c2 := cl (some pl) none
    refine ok_bnd (ok_draw hds 2 rfl (Q := fun d => 0 ≤ d ∧ d < 3) fun d a b => ⟨a, b⟩) fun d2 hd2 => ok_bnd (P := fun _ => True) (ok_atI (by omega) (by omega) fun _ _ => trivial) fun z _ => ok_chk (by rw [List.length_singleton]; omega) (ok_chk (by rw [List.length_append, List.length_singleton]; omega) (ok_lt fun bd hbd => ?_))
    have hbl : bd.length ≤ 201 := by rw [hbd, List.length_append, List.length_append, List.length_singleton]; omega
    refine ok_bnd (ok_draw hds 3 rfl (Q := fun d => 0 ≤ d ∧ d < 8) fun d a b => ⟨a, b⟩) fun d3 hd3 => ok_chk (by omega) (ok_lt fun ag hag => ok_bnd (ok_draw hds 4 rfl (Q := fun d => 0 ≤ d ∧ d < 3) fun d a b => ⟨a, b⟩) fun d4 hd4 => ok_bnd (P := fun _ => True) (ok_atI (by omega) (by omega) fun _ _ => trivial) fun z2 _ => ?_)
    have c3 := cut_len_le bd none (some ag)
    have c4 := cut_len_le bd (some ag) none
    refine ok_chk (by rw [List.length_singleton]; omega) (ok_chk (by rw [List.length_append, List.length_singleton]; omega) (ok_some (by rw [List.length_append, List.length_append, List.length_singleton]; omega)))
theorem mask_ok {s : Tu Str} {ts : List Str} (ht : ts.length = 5) : Ok (m_l_mask s ts) (fun _ => True) := by
  unfold m_l_mask
  refine ok_lt fun z _ => ok_bnd (P := fun _ => True) (ok_foldO (fun _ _ => True) trivial (fun i b x hx _ => ?_) (fun _ _ => trivial)) fun o _ => ok_some trivial
  obtain ⟨e1, e2⟩ := rng_at hx
  exact ok_bnd (P := fun _ => True) (ok_atI (by omega) (by omega) fun _ _ => trivial) fun t _ => ok_bnd (P := fun _ => True) (ok_ite (fun _ => ok_bnd (P := fun _ => True) (ok_atI (by omega) (by simp; omega) fun _ _ => trivial) fun _ _ => ok_lt fun _ _ => ok_some trivial) (fun _ => ok_some trivial)) fun _ _ => ok_some trivial
theorem wider_ok {a b : Int} : Ok (m_l_wider a b) (fun _ => True) := by
  unfold m_l_wider
  refine ok_lt fun z _ => ok_bnd (P := fun _ => True) (ok_foldO (fun _ _ => True) trivial (fun i b x hx _ => ?_) (fun _ _ => trivial)) fun o _ => ok_some trivial
  have hm := List.mem_of_getElem? hx
  simp only [List.mem_cons, List.not_mem_nil, or_false] at hm
  exact ok_chk (div_small (by omega) (by omega)) (ok_chk (div_small (by omega) (by omega)) (ok_bnd (P := fun _ => True) (ok_ite (fun _ => ok_lt fun _ _ => ok_some trivial) (fun _ => ok_some trivial)) fun _ _ => ok_some trivial))
theorem band_ok (ns : List Int) : Ok (m_l_band ns 6 3) (fun b => b.a.length ≤ 40 ∧ Ps b.a ∧ b.b.length ≤ 34 ∧ Ss b.b ∧ b.c.length ≤ 34) := by
  unfold m_l_band
  have hz := szl
  refine ok_bnd (cell_ok ns (by decide)) fun c0 _ => ok_bnd (draws_ok (by decide) (by decide)) fun ds hds => ok_lt fun ds' h => ?_
  subst h
  refine ok_bnd (ok_draw hds 0 rfl (Q := fun d => 0 ≤ d ∧ d < 3) fun d a b => ⟨a, b⟩) fun d0 _ => ok_bnd (tools_ok d0) fun ts ⟨ht1, ht2⟩ => ok_lt fun ts' h => ?_
  subst h
  refine ok_bnd (cell_ok ns (by decide)) fun c1 _ => ok_bnd (P := fun ss : List (Tu Str) => ss.length ≤ 6 ∧ Ss ss) ?_ fun ss ⟨hs1, hs2⟩ => ok_lt fun ss' h => ?_
  · exact (seats_ok c1 (most := 6) (by decide) (by decide) ⟨by decide, by decide, by decide⟩ (by decide) (by decide) (fun k hk => (show ∀ k : Nat, k < 6 → (([(6 + 1 : Int)] : List Int) ++ repl 6 [5, 8, 4])[1 + 3 * k]? = some 5 by decide) k (by omega)) (fun k hk => (show ∀ k : Nat, k < 6 → (([(6 + 1 : Int)] : List Int) ++ repl 6 [5, 8, 4])[2 + 3 * k]? = some 8 by decide) k (by omega)) (fun k hk => (show ∀ k : Nat, k < 6 → (([(6 + 1 : Int)] : List Int) ++ repl 6 [5, 8, 4])[3 + 3 * k]? = some 4 by decide) k (by omega)) ht1 ht2).imp fun ss h => ⟨by omega, h.2⟩
  subst h
  have hk1 : ∀ k : Nat, k < 9 → (([(3 + 1 : Int)] : List Int) ++ repl (6 + 3) [32, 32, 4])[1 + 3 * k]? = some 32 := by decide
  have hk2 : ∀ k : Nat, k < 9 → (([(3 + 1 : Int)] : List Int) ++ repl (6 + 3) [32, 32, 4])[2 + 3 * k]? = some 32 := by decide
  have hk3 : ∀ k : Nat, k < 9 → (([(3 + 1 : Int)] : List Int) ++ repl (6 + 3) [32, 32, 4])[3 + 3 * k]? = some 4 := by decide
  refine ok_bnd (cell_ok ns (by decide)) fun c2 _ => ok_chk ⟨by decide, by decide, by decide⟩ (ok_chk (by decide) (ok_bnd (draws_ok (by decide) (by decide)) fun es hes => ok_lt fun es' h => ?_))
  subst h
  have dr1 : ∀ x : Int, 0 ≤ x → x < 9 → Ok (atI es' (1 + 3 * x)) (fun d => 0 ≤ d ∧ d < 32) := fun x x0 x1 => by
    obtain ⟨k, rfl⟩ : ∃ k : Nat, x = k := ⟨x.toNat, by omega⟩
    have := ok_draw hes (1 + 3 * k) (hk1 k (by omega)) (Q := fun d => 0 ≤ d ∧ d < 32) fun d a b => ⟨a, b⟩
    rw [show ((1 + 3 * k : Nat) : Int) = 1 + 3 * (k : Int) by omega] at this
    exact this
  have dr2 : ∀ x : Int, 0 ≤ x → x < 9 → Ok (atI es' (2 + 3 * x)) (fun d => 0 ≤ d ∧ d < 32) := fun x x0 x1 => by
    obtain ⟨k, rfl⟩ : ∃ k : Nat, x = k := ⟨x.toNat, by omega⟩
    have := ok_draw hes (2 + 3 * k) (hk2 k (by omega)) (Q := fun d => 0 ≤ d ∧ d < 32) fun d a b => ⟨a, b⟩
    rw [show ((2 + 3 * k : Nat) : Int) = 2 + 3 * (k : Int) by omega] at this
    exact this
  have dr3 : ∀ x : Int, 0 ≤ x → x < 9 → Ok (atI es' (3 + 3 * x)) (fun d => 0 ≤ d ∧ d < 4) := fun x x0 x1 => by
    obtain ⟨k, rfl⟩ : ∃ k : Nat, x = k := ⟨x.toNat, by omega⟩
    have := ok_draw hes (3 + 3 * k) (hk3 k (by omega)) (Q := fun d => 0 ≤ d ∧ d < 4) fun d a b => ⟨a, b⟩
    rw [show ((3 + 3 * k : Nat) : Int) = 3 + 3 * (k : Int) by omega] at this
    exact this
  refine ok_bnd (ok_draw hes 0 rfl (Q := fun d => 0 ≤ d ∧ d < 4) fun d a b => ⟨a, b⟩) fun e0 he0 => ok_chk ⟨by omega, by omega, by omega, by omega, by omega⟩ (ok_lt fun left hleft => ?_)
  have hll : (left.length : Int) = ss'.length + e0 := by rw [hleft, rng_len]; omega
  have er : repl (left.length : Int) [(0 : Int)] = List.replicate left.length 0 := by rw [repl_one]; rfl
  rw [er]
  refine ok_chk ⟨by omega, by omega, by show 1 * _ ≤ _; omega⟩ (ok_lt fun masks hmasks => ok_lt fun row hrow => ok_chk ⟨by omega, by omega⟩ ?_)
  refine ok_bnd (P := fun b : List Int × List Int × List Int => (b.1.length + ss'.length = left.length) ∧ (∀ x ∈ b.1, 0 ≤ x ∧ x < left.length) ∧ b.2.1.length = ss'.length ∧ b.2.2.length = left.length) (ok_foldO (fun i (b : List Int × List Int × List Int) => (b.1.length + i = left.length) ∧ (∀ x ∈ b.1, 0 ≤ x ∧ x < left.length) ∧ b.2.1.length = i ∧ b.2.2.length = left.length) ⟨rfl, fun x hx => ?_, by rw [hrow]; rfl, by rw [hmasks, List.length_replicate]⟩ ?_ ?_) fun b ⟨b1, b2, b3, b4⟩ => ?_
  · dsimp only at hx
    rw [hleft] at hx
    have := mem_rng.mp hx
    omega
  · rintro i ⟨lf, rw_, mk⟩ x hx ⟨i1, i2, i3, i4⟩
    dsimp only at i1 i2 i3 i4 ⊢
    obtain ⟨e1, e2⟩ := rng_at hx
    obtain ⟨s, hs, _, _⟩ := at_in (xs := ss') (k := x) (by omega) (by omega)
    refine ok_bnd (dr1 x (by omega) (by omega)) fun a ha => ok_chk (by omega) ?_
    have m0 := Int.emod_nonneg a (show (lf.length : Int) ≠ 0 by omega)
    have m1 := Int.emod_lt_of_pos a (show (0 : Int) < lf.length by omega)
    refine ok_bnd (popAt_ok m0 m1 (by omega)) fun pp hpp => ok_chk (by omega) (ok_lt fun rw2 hrw2 => ?_)
    have hpm := i2 pp.1 (hpp.mem_iff.mp List.mem_cons_self)
    have hpl := hpp.length_eq
    rw [List.length_cons] at hpl
    rw [hs]
    refine ok_bnd (P := fun _ => True) (ok_some trivial) fun s' _ => ok_bnd (mask_ok ht1) fun mm _ => ok_bnd (dr2 x (by omega) (by omega)) fun d2 hd2 => ok_bnd (dr3 x (by omega) (by omega)) fun d3 hd3 => ok_chk (mul_l (by omega) (by omega)) (ok_bnd wider_ok fun wd _ => ok_bnd (P := fun j => j = pp.1.toNat) (ok_eq (ixN_get hpm.1 (by omega)) rfl) fun j hj => ok_lt fun ls hls => ok_some ?_)
    refine ⟨by dsimp only; omega, fun y hy => i2 y (hpp.mem_iff.mp (List.mem_cons_of_mem _ hy)), by dsimp only; rw [hrw2, List.length_append, List.length_singleton, i3], by dsimp only; rw [hls, List.length_set]; exact i4⟩
  · rintro b ⟨b1, b2, b3, b4⟩
    rw [rng_len_nn (by omega), Int.toNat_natCast] at b1 b3
    exact ⟨b1, b2, b3, b4⟩
  · refine ok_chk ⟨by omega, by omega⟩ (ok_bnd (P := fun m : List Int => m.length = left.length) (ok_foldO (fun _ (m : List Int) => m.length = left.length) b4 (fun i m x hx hm => ?_) (fun m hm => hm)) fun m hm => ok_chk ⟨by omega, by omega⟩ ?_)
    · obtain ⟨e1, e2⟩ := rng_at hx
      obtain ⟨y, hy, hym, _⟩ := at_in (xs := b.1) (k := x) (by omega) (by omega)
      have := b2 y hym
      refine ok_bnd (dr1 (ss'.length + x) (by omega) (by omega)) fun a ha => ok_bnd (P := fun z => z = y) (ok_eq hy rfl) fun z hz1 => ok_bnd (P := fun j => j = y.toNat) (ok_eq (by rw [hz1]; exact ixN_get this.1 (by omega)) rfl) fun j hj => ok_lt fun ls hls => ok_some (by rw [hls, List.length_set]; exact hm)
    · refine ok_bnd (ok_mapO (P := fun _ p => p.2.l.length ≤ 5 ∧ txt p.1 ∧ ∀ x ∈ p.2.l, txt x) fun x hx => ?_) fun ys ⟨y1, y2⟩ => ?_
      · obtain ⟨x0, x1⟩ := mem_rng.mp hx
        exact ok_bnd (P := fun _ => True) (ok_atI x0 x1 fun _ _ => trivial) fun mk _ => ok_bnd (ok_draw hds 1 rfl (Q := fun d => 0 ≤ d ∧ d < 3) fun d a b => ⟨a, b⟩) fun w hw => ok_ret (player_ok x0 (by omega) hw.1 hw.2 ht1 ht2)
      · rw [rng_len_nn (by omega)] at y1
        refine ok_chk (by omega) (ok_lt fun pl hpl => ok_some ⟨by dsimp only; rw [hpl]; omega, fun p hp => ?_, by dsimp only; omega, hs2, by dsimp only; omega⟩)
        dsimp only at hp
        rw [hpl] at hp
        obtain ⟨i, hi⟩ := List.mem_iff_getElem?.mp hp
        obtain ⟨_, _, h⟩ := y2 i p hi
        exact h
theorem law_true : ∀ ns : List Int, ns.length ≤ 63 → a_law (ns, ()) = some true := by
  intro ns hn
  refine Ok.eq ?_
  show Ok (m_law ns) _
  unfold m_law
  have hcl := cut_len_le ns (some 3) (some 35)
  refine ok_bnd (band_ok ns) fun b ⟨b1, b2, b3, b4, b5⟩ => ok_lt fun u hu => ok_chk ⟨by omega, by omega⟩ (ok_bnd (P := fun o => o = .nx ()) (foldF_ok (fun x hx => ?_) rfl) fun o ho => by subst ho; exact ok_some rfl)
  subst hu
  obtain ⟨x0, x1⟩ := mem_rng.mp hx
  refine ok_bnd (cell_ok ns (by omega)) fun c1 _ => ok_lt fun cell hcell => ok_bnd (cell_ok ns (by omega)) fun c2 _ => ok_lt fun other hother => ok_bnd (ill_ok (by omega) (by omega)) fun il hil => ok_bnd (strange_ok hil) fun st hst => ok_lt fun ih hih => ok_bnd (bent_ok (by omega) (by omega)) fun bt hbt => ?_
  subst hih
  refine ok_bnd (asked_ok (by omega) (by omega) hbt hst b2 b4) fun a ha => ?_
  subst ha
  rw [if_neg (show ¬ (!true) = true by decide)]
  refine ok_bnd (asked_ok (by omega) (by omega) (by omega) hst b2 b4) fun a ha => ?_
  subst ha
  exact ok_some rfl

end K33

open PySem PySem.W PySem.Calls PyProof.Rows
set_option maxHeartbeats 0 in
theorem PySem.Challenge.cw_deskpairs_k33_moves_refused_holds : PySem.Challenge.rw_deskpairs_k33_moves_refused.Holds := by
  w_on; o_law
  refine HandSHeadRun.head_any (r := OpenLaw.row PySem.Challenge.rw_deskpairs_k33_moves_refused) (q := view (OpenLaw.row PySem.Challenge.rw_deskpairs_k33_moves_refused).prog [45]) (H := K33.hk) (ob := K33.ob) (M := 8640) (loose := K33.loose) (d := HandSHeadRun.topDef (OpenLaw.row PySem.Challenge.rw_deskpairs_k33_moves_refused).prog 45) (kwd := []) K33.ob_eq
    (by kernel_rfl) (fun s => by kernel_rfl) K33.run (by kernel_rfl) (by kernel_rfl) (by kernel_rfl) (by rfl) (by first | assumption | decide +kernel) (by decide +kernel) ⟨rfl, rfl, rfl, rfl, rfl, by decide +kernel⟩ ?hw ?hc
  case hw => w_witness2
  case hc =>
    refine L2.walk_ofE (l := PySem.Challenge.rw_deskpairs_k33_moves_refused) (n := 63) (k := 8) (x := "_law_script") (CX := L2.CX0) rfl (by decide) (by kernel_rfl) ⟨rfl, by decide, by decide⟩ ?F (fun _ _ _ _ z => z)
    intro w mg fa h Y G hmg0
    obtain ⟨K, KX, c, TB⟩ := Y
    have hmg : mg ("law" : PySem.Str) = some (.ref fa) := by
      have e : (HandSHeadRun.topDef (OpenLaw.row PySem.Challenge.rw_deskpairs_k33_moves_refused).prog 45).name = ("law" : PySem.Str) := by kernel_rfl
      rw [← e]
      exact hmg0
    obtain ⟨fd, hb, hF⟩ := K33.facts (P := (PySem.Challenge.rw_deskpairs_k33_moves_refused).prog) (w := w) KX G hmg c TB
    exact ⟨K, fd, Dy.spLaw K, KX, hb, fun H a ns hl _ hS => ⟨a, ns, rfl, hS, hl, fun _ => rfl⟩, fun base h1 h2 => Dy.law_of (hF base h1 h2) K33.law_true⟩

