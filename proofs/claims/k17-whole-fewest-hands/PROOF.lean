import PyProof.Rows.All
import Wide.All
import OpenK.AllK
import Wide.FinOn
import HandS.ForMost
import HandS.Codes
import HandS.Wide
import HandS.SortInts
import HandS.Conv
import HandS.IsInst
import HandS.Defaults
import HandS.Head0
import HandS.Head1
import HandS.Head2
import HandS.HeadEnd
import HandS.HeadHook1
import HandS.HeadHook2
import HandS.Zip
import HandS.Exc
import HandS.TryOnly
import HandS.ExcOwn
import HandS.WordsExc
import HandS.ExcInit
import HandS.ExcIs
import HandS.ExcField
import HandS.Style
import HandS.TupAny
import HandS.More
import HandS.Replace
import HandS.Dict
import HandS.Iter
import HandS.WordsDict
import HandS.Rev
import KE.KDictList
import HandS.Comp
import HandS.TupLen
import PyProof.StrLawsChain
import PyProof.StrLawsTight
import PyProof.Rows.StrSplitJoin
import PyProof.Rows.StrSplitAre
import PyProof.Rows.StrItems
import HandS.Strs
import HandS.SetFor
import PySem.Challenge.RW_deskpairs_k17_whole_fewest_hands
set_option Elab.async false
set_option linter.all false
set_option maxRecDepth 100000
namespace Dy
open PySem PySem.Spec PyProof.Rows L2

structure S where
  F : Hp
  H : Hp
  sub : ∀ a o, F a = some o → H a = some o
abbrev Fle (F F' : Hp) : Prop := ∀ a o, F a = some o → F' a = some o
theorem Fle.refl (F : Hp) : Fle F F := fun _ _ h => h
theorem Fle.trans {F G I : Hp} (a : Fle F G) (b : Fle G I) : Fle F I := fun x o h => b x o (a x o h)
structure Ex (s t : S) : Prop where
  f : Fle s.F t.F
  h : ∀ a o, s.H a = some o → t.H a = some o
  n : ∀ a o, s.H a = some o → s.F a = none → t.F a = none
theorem Ex.refl (s : S) : Ex s s := ⟨fun _ _ h => h, fun _ _ h => h, fun _ _ _ h => h⟩
theorem Ex.trans {s t u : S} (a : Ex s t) (b : Ex t u) : Ex s u :=
  ⟨fun x o h => b.f x o (a.f x o h), fun x o h => b.h x o (a.h x o h), fun x o h n => b.n x o (a.h x o h) (a.n x o h n)⟩
theorem fr_back {s t : S} (e : Ex s t) {p : Addr} (h : t.H p = none) : s.H p = none := by
  cases q : s.H p with
  | none => rfl
  | some o => rw [e.h p o q] at h; cases h
theorem fF {s : S} {p : Addr} (h : s.H p = none) : s.F p = none := by
  cases q : s.F p with
  | none => rfl
  | some o => rw [s.sub p o q] at h; cases h
def S.newF (s : S) (p : Addr) (o : HO) (h : s.H p = none) : S := ⟨upd s.F p o, upd s.H p o, fun a u q => by
  unfold upd at q ⊢
  split
  · rename_i e; rw [if_pos e] at q; exact q
  · rename_i e; rw [if_neg e] at q; exact s.sub a u q⟩
def S.newO (s : S) (p : Addr) (o : HO) (h : s.H p = none) : S := ⟨s.F, upd s.H p o, fun a u q => by
  rw [upd_ne (ne_of_none (s.sub a u q) h)]; exact s.sub a u q⟩
def S.put (s : S) (p : Addr) (o : HO) (h : s.F p = none) : S := ⟨s.F, upd s.H p o, fun a u q => by
  rw [upd_ne (ne_of_none q h)]; exact s.sub a u q⟩
theorem Ex.newF {s : S} {p : Addr} {o : HO} (h : s.H p = none) : Ex s (s.newF p o h) :=
  ⟨fun a u q => by show upd s.F p o a = some u; rw [upd_ne (ne_of_none (s.sub a u q) h)]; exact q,
   fun a u q => by show upd s.H p o a = some u; rw [upd_ne (ne_of_none q h)]; exact q,
   fun a u q n => by show upd s.F p o a = none; rw [upd_ne (ne_of_none q h)]; exact n⟩
theorem Ex.newO {s : S} {p : Addr} {o : HO} (h : s.H p = none) : Ex s (s.newO p o h) :=
  ⟨fun a u q => q, fun a u q => by show upd s.H p o a = some u; rw [upd_ne (ne_of_none q h)]; exact q, fun a u q n => n⟩
structure Mx (P : Addr → Prop) (s t : S) : Prop where
  f : Fle s.F t.F
  h : ∀ a o, s.H a = some o → ¬ P a → t.H a = some o
  n : ∀ a o, s.H a = some o → s.F a = none → t.F a = none
  d : ∀ a o, s.H a = some o → ∃ u, t.H a = some u
theorem Ex.mx {P : Addr → Prop} {s t : S} (e : Ex s t) : Mx P s t := ⟨e.f, fun a o h _ => e.h a o h, e.n, fun a o h => ⟨o, e.h a o h⟩⟩
theorem Mx.trans {P : Addr → Prop} {s t u : S} (a : Mx P s t) (b : Mx P t u) : Mx P s u :=
  ⟨fun x o h => b.f x o (a.f x o h), fun x o h n => b.h x o (a.h x o h n) n,
   fun x o h n => by obtain ⟨v, hv⟩ := a.d x o h; exact b.n x v hv (a.n x o h n),
   fun x o h => by obtain ⟨v, hv⟩ := a.d x o h; exact b.d x v hv⟩
theorem Mx.put {s : S} {p : Addr} {o : HO} (h : s.F p = none) : Mx (· = p) s (s.put p o h) :=
  ⟨fun a u q => q, fun a u q n => by show upd s.H p o a = some u; rw [upd_ne n]; exact q, fun a u q n => n,
   fun a u q => by
    by_cases e : a = p
    · exact ⟨o, by rw [e]; exact upd_same⟩
    · exact ⟨u, by show upd s.H p o a = some u; rw [upd_ne e]; exact q⟩⟩
theorem Mx.fr_back {P : Addr → Prop} {s t : S} (e : Mx P s t) {p : Addr} (h : t.H p = none) : s.H p = none := by
  cases q : s.H p with
  | none => rfl
  | some o => obtain ⟨u, z⟩ := e.d p o q; rw [z] at h; cases h
theorem Ex.mu {s t u : S} {P : Addr → Prop} (a : Ex s t) (b : Mx P t u) (h : ∀ p, P p → s.H p = none) : Ex s u :=
  ⟨fun x o q => b.f x o (a.f x o q), fun x o q => b.h x o (a.h x o q) fun z => (by rw [h x z] at q; cases q), fun x o q n => b.n x o (a.h x o q) (a.n x o q n)⟩
theorem Ex.mu1 {s t u : S} {p : Addr} (a : Ex s t) (b : Mx (· = p) t u) (h : s.H p = none) : Ex s u := a.mu b fun _ e => e ▸ h

class Enc (α : Type) where
  rep : PySem.W.Frag → Hp → V → α → Prop
  mono : ∀ {K : PySem.W.Frag} {F F' : Hp} {v : V} {x : α}, Fle F F' → rep K F v x → rep K F' v x
open Enc (rep)
def Reps {α : Type} [Enc α] (K : PySem.W.Frag) (F : Hp) : List V → List α → Prop
  | [], [] => True
  | v :: vs, x :: xs => rep K F v x ∧ Reps K F vs xs
  | _, _ => False
section
variable {α β : Type} [Enc α] [Enc β] {K : PySem.W.Frag} {F F' : Hp}
theorem Reps.mono (e : Fle F F') : ∀ {vs : List V} {xs : List α}, Reps K F vs xs → Reps K F' vs xs
  | [], [], _ => trivial
  | _ :: _, _ :: _, ⟨h, t⟩ => ⟨Enc.mono e h, Reps.mono e t⟩
  | [], _ :: _, h => h.elim
  | _ :: _, [], h => h.elim
theorem Reps.len : ∀ {vs : List V} {xs : List α}, Reps K F vs xs → vs.length = xs.length
  | [], [], _ => rfl
  | _ :: _, _ :: _, ⟨_, t⟩ => congrArg (· + 1) (Reps.len t)
  | [], _ :: _, h => h.elim
  | _ :: _, [], h => h.elim
theorem Reps.get : ∀ {vs : List V} {xs : List α} {i : Nat} {x : α}, Reps K F vs xs → xs[i]? = some x → ∃ v, vs[i]? = some v ∧ rep K F v x
  | [], [], _, _, _, e => by simp at e
  | v :: _, y :: _, 0, x, ⟨h, _⟩, e => by
    have : y = x := Option.some.inj e
    subst this
    exact ⟨v, rfl, h⟩
  | _ :: vs, _ :: xs, i + 1, x, ⟨_, t⟩, e => by
    obtain ⟨v, h1, h2⟩ := Reps.get (i := i) t (by simpa using e)
    exact ⟨v, by simpa using h1, h2⟩
  | [], _ :: _, _, _, h, _ => h.elim
  | _ :: _, [], _, _, h, _ => h.elim
theorem Reps.get' : ∀ {vs : List V} {xs : List α} {i : Nat} {v : V}, Reps K F vs xs → vs[i]? = some v → ∃ x, xs[i]? = some x ∧ rep K F v x
  | [], [], _, _, _, e => by simp at e
  | v :: _, y :: _, 0, w, ⟨h, _⟩, e => by
    have : v = w := Option.some.inj e
    subst this
    exact ⟨y, rfl, h⟩
  | _ :: vs, _ :: xs, i + 1, w, ⟨_, t⟩, e => by
    obtain ⟨x, h1, h2⟩ := Reps.get' (i := i) t (by simpa using e)
    exact ⟨x, by simpa using h1, h2⟩
  | [], _ :: _, _, _, h, _ => h.elim
  | _ :: _, [], _, _, h, _ => h.elim
theorem Reps.app : ∀ {vs ws : List V} {xs ys : List α}, Reps K F vs xs → Reps K F ws ys → Reps K F (vs ++ ws) (xs ++ ys)
  | [], _, [], _, _, t => t
  | _ :: _, _, _ :: _, _, ⟨h, t⟩, u => ⟨h, Reps.app t u⟩
  | [], _, _ :: _, _, h, _ => h.elim
  | _ :: _, _, [], _, h, _ => h.elim
theorem Reps.snoc {vs : List V} {xs : List α} {v : V} {x : α} (h : Reps K F vs xs) (r : rep K F v x) : Reps K F (vs ++ [v]) (xs ++ [x]) := h.app ⟨r, trivial⟩
theorem Reps.take : ∀ {vs : List V} {xs : List α} (n : Nat), Reps K F vs xs → Reps K F (vs.take n) (xs.take n)
  | _, _, 0, _ => by rw [List.take_zero, List.take_zero]; trivial
  | [], [], _ + 1, _ => trivial
  | _ :: _, _ :: _, n + 1, ⟨h, t⟩ => ⟨h, Reps.take n t⟩
  | [], _ :: _, _ + 1, h => h.elim
  | _ :: _, [], _ + 1, h => h.elim
theorem Reps.drop : ∀ {vs : List V} {xs : List α} (n : Nat), Reps K F vs xs → Reps K F (vs.drop n) (xs.drop n)
  | _, _, 0, h => h
  | [], [], _ + 1, _ => trivial
  | _ :: _, _ :: _, n + 1, ⟨_, t⟩ => Reps.drop n t
  | [], _ :: _, _ + 1, h => h.elim
  | _ :: _, [], _ + 1, h => h.elim
theorem Reps.set : ∀ {vs : List V} {xs : List α} {v : V} {x : α} (i : Nat), Reps K F vs xs → rep K F v x → Reps K F (vs.set i v) (xs.set i x)
  | [], [], _, _, _, _, _ => trivial
  | _ :: _, _ :: _, _, _, 0, ⟨_, t⟩, r => ⟨r, t⟩
  | _ :: _, _ :: _, _, _, i + 1, ⟨h, t⟩, r => ⟨h, Reps.set i t r⟩
  | [], _ :: _, _, _, _, h, _ => h.elim
  | _ :: _, [], _, _, _, h, _ => h.elim
theorem Reps.erase : ∀ {vs : List V} {xs : List α} (i : Nat), Reps K F vs xs → Reps K F (vs.eraseIdx i) (xs.eraseIdx i)
  | [], [], _, _ => trivial
  | _ :: _, _ :: _, 0, ⟨_, t⟩ => t
  | _ :: _, _ :: _, i + 1, ⟨h, t⟩ => ⟨h, Reps.erase i t⟩
  | [], _ :: _, _, h => h.elim
  | _ :: _, [], _, h => h.elim
theorem Reps.rev : ∀ {vs : List V} {xs : List α}, Reps K F vs xs → Reps K F vs.reverse xs.reverse
  | [], [], _ => trivial
  | _ :: _, _ :: _, ⟨h, t⟩ => by rw [List.reverse_cons, List.reverse_cons]; exact (Reps.rev t).snoc h
  | [], _ :: _, h => h.elim
  | _ :: _, [], h => h.elim
theorem Reps.mem : ∀ {vs : List V} {xs : List α} {x : α}, Reps K F vs xs → x ∈ xs → ∃ v, v ∈ vs ∧ rep K F v x
  | v :: _, y :: _, x, ⟨h, t⟩, e => by
    rcases List.mem_cons.mp e with rfl | e
    · exact ⟨v, List.mem_cons_self, h⟩
    · obtain ⟨w, a, b⟩ := Reps.mem t e
      exact ⟨w, List.mem_cons_of_mem _ a, b⟩
  | [], _ :: _, _, h, _ => h.elim
theorem Reps.repl {v : V} {x : α} (r : rep K F v x) : ∀ n : Nat, Reps K F (List.replicate n v) (List.replicate n x)
  | 0 => trivial
  | n + 1 => ⟨r, Reps.repl r n⟩
end
instance : Enc Int := ⟨fun _ _ v x => v = .int x, fun _ h => h⟩
instance : Enc Bool := ⟨fun _ _ v x => v = .bl x, fun _ h => h⟩
instance : Enc Str := ⟨fun _ _ v x => v = .str x, fun _ h => h⟩
instance : Enc Unit := ⟨fun _ _ v _ => v = .non, fun _ h => h⟩
class Opn (α : Type) extends Enc α where
  notNon : ∀ {K : PySem.W.Frag} {F : Hp} {x : α}, ¬ rep K F .non x
instance : Opn Int := ⟨fun {K F x} h => nomatch (show V.non = V.int x from h)⟩
instance : Opn Str := ⟨fun {K F x} h => nomatch (show V.non = V.str x from h)⟩
instance : Opn Bool := ⟨fun {K F x} h => nomatch (show V.non = V.bl x from h)⟩
instance {α : Type} [Enc α] : Enc (Option α) := ⟨fun K F v x => match x with | none => v = .non | some y => rep K F v y, fun {K F F' v x} e h => by
  cases x with
  | none => exact h
  | some y => exact Enc.mono (α := α) e h⟩
theorem sql_mono {K : PySem.W.Frag} {F F' : Hp} {a : Addr} {vs : List V} (e : Fle F F') (h : SqL K F a vs) : SqL K F' a vs := by
  rcases h with (h | ⟨o, h⟩) | h
  · exact .inl (.inl (e _ _ h))
  · exact .inl (.inr ⟨o, e _ _ h⟩)
  · exact .inr h
theorem sqt_mono {K : PySem.W.Frag} {F F' : Hp} {a : Addr} {vs : List V} (e : Fle F F') (h : SqT K F a vs) : SqT K F' a vs := by
  rcases h with (h | ⟨o, h⟩) | h
  · exact .inl (.inl (e _ _ h))
  · exact .inl (.inr ⟨o, e _ _ h⟩)
  · exact .inr h
def RepL {α : Type} [Enc α] (K : PySem.W.Frag) (F : Hp) (v : V) (xs : List α) : Prop := ∃ a vs, v = .ref a ∧ SqL K F a vs ∧ Reps K F vs xs
instance {α : Type} [Enc α] : Enc (List α) := ⟨RepL, fun e h => by
  obtain ⟨a, vs, rfl, h1, h2⟩ := h
  exact ⟨a, vs, rfl, sql_mono e h1, h2.mono e⟩⟩
structure T1 (α : Type) where
  a : α
deriving DecidableEq
structure T3 (α β γ : Type) where
  a : α
  b : β
  c : γ
deriving DecidableEq
structure T4 (α β γ δ : Type) where
  a : α
  b : β
  c : γ
  d : δ
deriving DecidableEq
structure T5 (α β γ δ ε : Type) where
  a : α
  b : β
  c : γ
  d : δ
  e : ε
deriving DecidableEq
structure Tu (α : Type) where
  l : List α
deriving DecidableEq
instance {α β : Type} [Enc α] [Enc β] : Enc (α × β) := ⟨fun K F v x => ∃ p v1 v2, v = .ref p ∧ SqT K F p [v1, v2] ∧ rep K F v1 x.1 ∧ rep K F v2 x.2, fun e h => by
  obtain ⟨p, v1, v2, rfl, h0, h1, h2⟩ := h
  exact ⟨p, v1, v2, rfl, sqt_mono e h0, Enc.mono e h1, Enc.mono e h2⟩⟩
instance {α : Type} [Enc α] : Enc (T1 α) := ⟨fun K F v x => ∃ p v1, v = .ref p ∧ SqT K F p [v1] ∧ rep K F v1 x.a, fun e h => by
  obtain ⟨p, v1, rfl, h0, h1⟩ := h
  exact ⟨p, v1, rfl, sqt_mono e h0, Enc.mono e h1⟩⟩
instance {α β γ : Type} [Enc α] [Enc β] [Enc γ] : Enc (T3 α β γ) := ⟨fun K F v x => ∃ p v1 v2 v3, v = .ref p ∧ SqT K F p [v1, v2, v3] ∧ rep K F v1 x.a ∧ rep K F v2 x.b ∧ rep K F v3 x.c, fun e h => by
  obtain ⟨p, v1, v2, v3, rfl, h0, h1, h2, h3⟩ := h
  exact ⟨p, v1, v2, v3, rfl, sqt_mono e h0, Enc.mono e h1, Enc.mono e h2, Enc.mono e h3⟩⟩
instance {α β γ δ : Type} [Enc α] [Enc β] [Enc γ] [Enc δ] : Enc (T4 α β γ δ) := ⟨fun K F v x => ∃ p v1 v2 v3 v4, v = .ref p ∧ SqT K F p [v1, v2, v3, v4] ∧ rep K F v1 x.a ∧ rep K F v2 x.b ∧ rep K F v3 x.c ∧ rep K F v4 x.d, fun e h => by
  obtain ⟨p, v1, v2, v3, v4, rfl, h0, h1, h2, h3, h4⟩ := h
  exact ⟨p, v1, v2, v3, v4, rfl, sqt_mono e h0, Enc.mono e h1, Enc.mono e h2, Enc.mono e h3, Enc.mono e h4⟩⟩
instance {α β γ δ ε : Type} [Enc α] [Enc β] [Enc γ] [Enc δ] [Enc ε] : Enc (T5 α β γ δ ε) := ⟨fun K F v x => ∃ p v1 v2 v3 v4 v5, v = .ref p ∧ SqT K F p [v1, v2, v3, v4, v5] ∧ rep K F v1 x.a ∧ rep K F v2 x.b ∧ rep K F v3 x.c ∧ rep K F v4 x.d ∧ rep K F v5 x.e, fun e h => by
  obtain ⟨p, v1, v2, v3, v4, v5, rfl, h0, h1, h2, h3, h4, h5⟩ := h
  exact ⟨p, v1, v2, v3, v4, v5, rfl, sqt_mono e h0, Enc.mono e h1, Enc.mono e h2, Enc.mono e h3, Enc.mono e h4, Enc.mono e h5⟩⟩
def RepT {α : Type} [Enc α] (K : PySem.W.Frag) (F : Hp) (v : V) (xs : List α) : Prop := ∃ a vs, v = .ref a ∧ SqT K F a vs ∧ Reps K F vs xs
instance {α : Type} [Enc α] : Enc (Tu α) := ⟨fun K F v x => RepT K F v x.l, fun e h => by
  obtain ⟨a, vs, rfl, h1, h2⟩ := h
  exact ⟨a, vs, rfl, sqt_mono e h1, h2.mono e⟩⟩
instance {α : Type} [Enc α] : Opn (List α) := ⟨fun h => by obtain ⟨_, _, e, _⟩ := h; cases e⟩
instance {α : Type} [Enc α] : Opn (Tu α) := ⟨fun h => by obtain ⟨_, _, e, _⟩ := h; cases e⟩
class Flat (α : Type) extends Enc α where
  toV : α → V
  iff : ∀ {K : PySem.W.Frag} {F : Hp} {v : V} {x : α}, rep K F v x ↔ v = toV x
  flat : ∀ x, flatV (toV x) = true
  inj : ∀ x y, eqV (toV x) (toV y) = true ↔ x = y
open Flat (toV)
instance : Flat Int := ⟨V.int, Iff.rfl, fun _ => rfl, fun x y => by show (x == y) = true ↔ _; simp⟩
instance : Flat Bool := ⟨V.bl, Iff.rfl, fun _ => rfl, fun x y => by show (x == y) = true ↔ _; simp⟩
instance : Flat Str := ⟨V.str, Iff.rfl, fun _ => rfl, fun x y => by show (x == y) = true ↔ _; simp⟩
instance : Flat (Option Int) := ⟨fun x => match x with | none => .non | some i => .int i, fun {K F v x} => by cases x <;> exact Iff.rfl, fun x => by cases x <;> rfl, fun x y => by
  cases x <;> cases y <;> simp [eqV]⟩
instance : Flat (Option Str) := ⟨fun x => match x with | none => .non | some i => .str i, fun {K F v x} => by cases x <;> exact Iff.rfl, fun x => by cases x <;> rfl, fun x y => by
  cases x <;> cases y <;> simp [eqV]⟩
section
variable {α : Type} [Flat α] {K : PySem.W.Frag} {F : Hp}
theorem Reps.flat : ∀ {vs : List V} {xs : List α}, Reps K F vs xs → vs = xs.map toV
  | [], [], _ => rfl
  | _ :: _, _ :: _, ⟨h, t⟩ => by rw [List.map_cons, ← Flat.iff.mp h, ← Reps.flat t]
  | [], _ :: _, h => h.elim
  | _ :: _, [], h => h.elim
theorem Reps.of_flat : ∀ (xs : List α), Reps K F (xs.map toV) xs
  | [] => trivial
  | _ :: xs => ⟨Flat.iff.mpr rfl, Reps.of_flat xs⟩
theorem flat_all (xs : List α) : (xs.map toV).all flatV = true := by
  rw [List.all_eq_true]
  intro v hv
  obtain ⟨x, _, rfl⟩ := List.mem_map.mp hv
  exact Flat.flat x
theorem inV_flat [DecidableEq α] (x : α) (xs : List α) : inV (toV x) (xs.map toV) = decide (x ∈ xs) := by
  rw [Bool.eq_iff_iff, decide_eq_true_eq]
  unfold inV
  rw [List.any_eq_true]
  constructor
  · rintro ⟨v, hv, e⟩
    obtain ⟨y, hy, rfl⟩ := List.mem_map.mp hv
    rw [Flat.inj] at e
    rw [← e]; exact hy
  · intro h
    exact ⟨_, List.mem_map.mpr ⟨x, h, rfl⟩, (Flat.inj x x).mpr rfl⟩
end
def nst : Expr → Bool
  | .Starred _ _ => false
  | _ => true
theorem star_cons {e : Expr} {es : List Expr} {env : Env} (h : nst e = true) : starEach (e :: es) env = (false, eval e env) :: starEach es env := by
  cases e <;> first | rfl | cases h
end Dy

namespace Dy
open PySem PySem.Spec L2
open PyProof.Rows hiding St
open Enc (rep)
open Flat (toV)

@[irreducible] def Hold (p : Prop) : Prop := p
theorem Hold.run {p : Prop} (h : Hold p) : p := by unfold Hold at h; exact h
theorem Hold.mk {p : Prop} (h : p) : Hold p := by unfold Hold; exact h
def WE (X : Cx) (e : Expr) : TE := fun σ H Q => Hold (∀ (pins : List (Addr × Obj)) (s : Shared), Inv X pins σ H s → wpAny (model X.prog X.w) X.A (eval e X.env) (EP X pins σ Q) X.xe s)
def WT (X : Cx) (e : Expr) : TT := fun σ H Q => Hold (∀ (pins : List (Addr × Obj)) (s : Shared), Inv X pins σ H s → wpAny (model X.prog X.w) X.A (isTrue e X.env (eval e X.env)) (TP X pins σ Q) X.xe s)
def WW (X : Cx) (e : Expr) : TT := fun σ H Q => Hold (∀ (whole : Sem Value) (pins : List (Addr × Obj)) (s : Shared), Inv X pins σ H s → wpAny (model X.prog X.w) X.A (isTrue e X.env whole) (TP X pins σ Q) X.xe s)
def WA (X : Cx) (es : List Expr) : TA := fun σ H Q => Hold (∀ (pos : Pos) (pins : List (Addr × Obj)) (s : Shared), Inv X pins σ H s → wpAny (model X.prog X.w) X.A (spliced (backTo pos (starEach es X.env))) (AP X pins σ Q) X.xe s)
def WSs (X : Cx) (ss : List Stmt) : TS := fun D σ H => Hold (∀ (pins : List (Addr × Obj)) (s : Shared), Inv X pins σ H s → wpAny (model X.prog X.w) X.A (execs ss X.env) (SP X pins D) X.xe s)
theorem pe_we {X : Cx} {e : Expr} : PE X e (WE X e) := ⟨fun pins s _ _ _ I h => Hold.run h pins s I⟩
theorem pt_wt {X : Cx} {e : Expr} : PT X e (WT X e) := ⟨fun pins s _ _ _ I h => Hold.run h pins s I⟩
theorem pw_ww {X : Cx} {e : Expr} : PW X e (WW X e) := ⟨fun whole pins s _ _ _ I h => Hold.run h whole pins s I⟩
theorem pa_wa {X : Cx} {es : List Expr} : PA X es (WA X es) := ⟨fun pos pins s _ _ _ I h => Hold.run h pos pins s I⟩
theorem pss_ws {X : Cx} {ss : List Stmt} : PSs X ss (WSs X ss) := ⟨fun pins s _ _ _ I h => Hold.run h pins s I⟩
theorem pe_im {X : Cx} {e : Expr} {t : TE} (h : ∀ σ H Q, t σ H Q → WE X e σ H Q) : PE X e t := ⟨fun pins s σ H Q I q => Hold.run (h σ H Q q) pins s I⟩
theorem pt_im {X : Cx} {e : Expr} {t : TT} (h : ∀ σ H Q, t σ H Q → WT X e σ H Q) : PT X e t := ⟨fun pins s σ H Q I q => Hold.run (h σ H Q q) pins s I⟩
theorem pss_im {X : Cx} {ss : List Stmt} {t : TS} (h : ∀ D σ H, t D σ H → WSs X ss D σ H) : PSs X ss t := ⟨fun pins s σ H D I q => Hold.run (h D σ H q) pins s I⟩
theorem we_of {X : Cx} {e : Expr} {t : TE} {σ : St} {H : Hp} {Q : VK} (h : PE X e t) (q : t σ H Q) : WE X e σ H Q := Hold.mk fun pins s I => h.run pins s σ H Q I q
theorem wt_of {X : Cx} {e : Expr} {t : TT} {σ : St} {H : Hp} {Q : Bool → Hp → Prop} (h : PT X e t) (q : t σ H Q) : WT X e σ H Q := Hold.mk fun pins s I => h.run pins s σ H Q I q
theorem ww_of {X : Cx} {e : Expr} {t : TT} {σ : St} {H : Hp} {Q : Bool → Hp → Prop} (h : PW X e t) (q : t σ H Q) : WW X e σ H Q := Hold.mk fun w pins s I => h.run w pins s σ H Q I q
theorem wa_of {X : Cx} {es : List Expr} {t : TA} {σ : St} {H : Hp} {Q : List V → Hp → Prop} (h : PA X es t) (q : t σ H Q) : WA X es σ H Q := Hold.mk fun pos pins s I => h.run pos pins s σ H Q I q
theorem ws_of {X : Cx} {ss : List Stmt} {t : TS} {D : Ends} {σ : St} {H : Hp} (h : PSs X ss t) (q : t D σ H) : WSs X ss D σ H := Hold.mk fun pins s I => h.run pins s σ H D I q
theorem WSs.imp {X : Cx} {ss : List Stmt} {D D' : Ends} {σ : St} {H : Hp} (h : WSs X ss D σ H) (h1 : ∀ σ H, D.nx σ H → D'.nx σ H) (h2 : ∀ v H, D.rt v H → D'.rt v H) (h3 : ∀ σ H, D.bk σ H → D'.bk σ H) (h4 : ∀ σ H, D.ct σ H → D'.ct σ H) : WSs X ss D' σ H := Hold.mk fun pins s I => thn (Hold.run h pins s I) fun f s1 q => by
  cases f with
  | next => obtain ⟨a, b, c, d⟩ := q; exact ⟨a, b, c, h1 _ _ d⟩
  | brk => obtain ⟨a, b, c, d⟩ := q; exact ⟨a, b, c, h3 _ _ d⟩
  | cont => obtain ⟨a, b, c, d⟩ := q; exact ⟨a, b, c, h4 _ _ d⟩
  | ret u => obtain ⟨a, b, c, d, e, f⟩ := q; exact ⟨a, b, c, d, e, h2 _ _ f⟩

section
variable {α β γ δ : Type} [Enc α] [Enc β] [Enc γ] [Enc δ]
def Ev (X : Cx) (e : Expr) (σ : St) (s : S) (x : α) : Prop := ∀ s1, Ex s s1 → ∀ Q : VK, (∀ v s2, Ex s1 s2 → rep X.K s2.F v x → Q v s2.H) → WE X e σ s1.H Q
def RepR (K : PySem.W.Frag) (s : S) (v : V) (xs : List α) : Prop := ∃ a vs, v = .ref a ∧ SqL K s.H a vs ∧ Reps K s.F vs xs
def EvR (X : Cx) (e : Expr) (σ : St) (s : S) (xs : List α) : Prop := ∀ s1, Ex s s1 → ∀ Q : VK, (∀ v s2, Ex s1 s2 → RepR X.K s2 v xs → Q v s2.H) → WE X e σ s1.H Q
def Own (K : PySem.W.Frag) (s : S) (p : Addr) (xs : List α) : Prop := s.F p = none ∧ ∃ vs, s.H p = some (.lst vs) ∧ Reps K s.F vs xs
def EvN (X : Cx) (e : Expr) (σ : St) (s : S) (xs : List α) : Prop := ∀ s1, Ex s s1 → ∀ Q : VK, (∀ p s2, Ex s1 s2 → s1.H p = none → Own X.K s2 p xs → Q (.ref p) s2.H) → WE X e σ s1.H Q
def EvT (X : Cx) (e : Expr) (σ : St) (s : S) (b : Bool) : Prop := ∀ s1, Ex s s1 → ∀ Q : Bool → Hp → Prop, (∀ s2, Ex s1 s2 → Q b s2.H) → WT X e σ s1.H Q
def EvW (X : Cx) (e : Expr) (σ : St) (s : S) (b : Bool) : Prop := ∀ s1, Ex s s1 → ∀ Q : Bool → Hp → Prop, (∀ s2, Ex s1 s2 → Q b s2.H) → WW X e σ s1.H Q
structure EvB (X : Cx) (e : Expr) (σ : St) (s : S) (b : Bool) : Prop where
  v : Ev X e σ s b
  t : EvT X e σ s b
structure EvC (X : Cx) (e : Expr) (σ : St) (s : S) (b : Bool) : Prop where
  v : Ev X e σ s b
  w : EvW X e σ s b
end
class EncA (A : Type) where
  repA : PySem.W.Frag → Hp → List V → A → Prop
  monoA : ∀ {K : PySem.W.Frag} {F F' : Hp} {vs : List V} {x : A}, Fle F F' → repA K F vs x → repA K F' vs x
open EncA (repA)
instance : EncA Unit := ⟨fun _ _ vs _ => vs = [], fun _ h => h⟩
instance {α A : Type} [Enc α] [EncA A] : EncA (α × A) := ⟨fun K F vs x => ∃ v r, vs = v :: r ∧ rep K F v x.1 ∧ repA K F r x.2, fun e h => by
  obtain ⟨v, r, rfl, h1, h2⟩ := h
  exact ⟨v, r, rfl, Enc.mono e h1, EncA.monoA e h2⟩⟩
def EvA {A : Type} [EncA A] (X : Cx) (es : List Expr) (σ : St) (s : S) (a : A) : Prop := ∀ s1, Ex s s1 → ∀ Q : List V → Hp → Prop, (∀ vs s2, Ex s1 s2 → repA X.K s2.F vs a → Q vs s2.H) → WA X es σ s1.H Q

section
variable {α β γ δ : Type} [Enc α] [Enc β] [Enc γ] [Enc δ] {X : Cx} {σ : St} {s t : S} {e a b c : Expr} {es : List Expr} {pos p0 p1 p2 p3 : Pos}
theorem Own.frz {K : PySem.W.Frag} {p : Addr} {xs : List α} (h : Own K s p xs) : ∃ s' : S, s'.H = s.H ∧ Fle s.F s'.F ∧ (∀ q, q ≠ p → s'.F q = s.F q) ∧ rep K s'.F (.ref p) xs := by
  obtain ⟨hn, vs, hp, r⟩ := h
  have f : Fle s.F (upd s.F p (.lst vs)) := fun a o q => by rw [upd_ne (ne_of_none q hn)]; exact q
  refine ⟨⟨upd s.F p (.lst vs), s.H, fun a o q => ?_⟩, rfl, f, fun q hq => upd_ne hq, p, vs, rfl, .inl (.inl upd_same), r.mono f⟩
  unfold upd at q
  split at q
  · rename_i e; cases q; rw [e]; exact hp
  · exact s.sub a o q
theorem Own.ex {K : PySem.W.Frag} {p : Addr} {xs : List α} (h : Own K s p xs) (e : Ex s t) : Own K t p xs := by
  obtain ⟨hn, vs, hp, r⟩ := h
  exact ⟨e.n _ _ hp hn, vs, e.h _ _ hp, r.mono e.f⟩
theorem Own.mx {K : PySem.W.Frag} {p : Addr} {P : Addr → Prop} {xs : List α} (h : Own K s p xs) (e : Mx P s t) (n : ¬ P p) : Own K t p xs := by
  obtain ⟨hn, vs, hp, r⟩ := h
  exact ⟨e.n _ _ hp hn, vs, e.h _ _ hp n, r.mono e.f⟩
theorem Own.ne {K : PySem.W.Frag} {p q : Addr} {xs : List α} (h : Own K s p xs) (n : s.H q = none) : p ≠ q := by
  obtain ⟨_, vs, hp, _⟩ := h
  exact ne_of_none hp n
theorem Own.r {K : PySem.W.Frag} {p : Addr} {xs : List α} (h : Own K s p xs) : RepR K s (.ref p) xs := by
  obtain ⟨hn, vs, hp, r⟩ := h
  exact ⟨p, vs, rfl, .inl (.inl hp), r⟩
theorem RepR.ex {K : PySem.W.Frag} {v : V} {xs : List α} (h : RepR K s v xs) (e : Ex s t) : RepR K t v xs := by
  obtain ⟨p, vs, rfl, h1, h2⟩ := h
  exact ⟨p, vs, rfl, sql_mono e.h h1, h2.mono e.f⟩
theorem rep_r {K : PySem.W.Frag} {v : V} {xs : List α} (h : rep K s.F v xs) : RepR K s v xs := by
  obtain ⟨p, vs, rfl, h1, h2⟩ := h
  exact ⟨p, vs, rfl, sql_mono s.sub h1, h2⟩
theorem Ev.mono {x : α} (h : Ev X e σ s x) (k : Ex s t) : Ev X e σ t x := fun s1 k1 Q q => h s1 (k.trans k1) Q q
theorem EvT.mono {x : Bool} (h : EvT X e σ s x) (k : Ex s t) : EvT X e σ t x := fun s1 k1 Q q => h s1 (k.trans k1) Q q
theorem Ev.r {xs : List α} (h : Ev X e σ s xs) : EvR X e σ s xs := fun s1 k Q q => h s1 k Q fun v s2 k2 r => q v s2 k2 (rep_r r)
theorem EvN.r {xs : List α} (h : EvN X e σ s xs) : EvR X e σ s xs := fun s1 k Q q => h s1 k Q fun p s2 k2 _ o => q (.ref p) s2 k2 o.r
theorem frz_ex {K : PySem.W.Frag} {p : Addr} {xs : List α} (k : Ex s t) (n : s.H p = none) (o : Own K t p xs) : ∃ t' : S, t'.H = t.H ∧ Ex s t' ∧ rep K t'.F (.ref p) xs := by
  obtain ⟨t', h1, h2, h3, h4⟩ := o.frz
  refine ⟨t', h1, ⟨k.f.trans h2, fun a u q => by rw [h1]; exact k.h a u q, fun a u q m => ?_⟩, h4⟩
  have : a ≠ p := ne_of_none q n
  rw [h3 a this]
  exact k.n a u q m
theorem EvN.ev {xs : List α} (h : EvN X e σ s xs) : Ev X e σ s xs := fun s1 k Q q => h s1 k Q fun p s2 k2 n o => by
  obtain ⟨t', h1, h2, h3⟩ := frz_ex k2 n o
  rw [← h1]
  exact q _ t' h2 h3
theorem Ev.cast {x y : α} (h : Ev X e σ s x) (k : x = y) : Ev X e σ s y := k ▸ h

theorem ev_var (i : Nat) {v : V} {x : α} {n : Str} (h : σ[i]? = some (some v)) (r : rep X.K s.F v x) (hN : X.N[i]? = some n := by rfl) (hv : Vis X.env.scope n := by first | exact Or.inl rfl | exact Or.inr (Or.inl rfl) | exact Or.inr (Or.inr rfl)) (hd : (n == ("__debug__" : Str)) = false := by decide)
    (hcd : (n == ("__classdict__" : Str)) = false := by decide) : Ev X (.Name n pos) σ s x := fun s1 k Q q => we_of (pe_var hN hv hd hcd) ⟨v, h, q v s1 (Ex.refl _) (Enc.mono k.f r)⟩
theorem ev_varR (i : Nat) {p : Addr} {xs : List α} {n : Str} (h : σ[i]? = some (some (.ref p))) (r : Own X.K s p xs) (hN : X.N[i]? = some n := by rfl) (hv : Vis X.env.scope n := by first | exact Or.inl rfl | exact Or.inr (Or.inl rfl) | exact Or.inr (Or.inr rfl)) (hd : (n == ("__debug__" : Str)) = false := by decide)
    (hcd : (n == ("__classdict__" : Str)) = false := by decide) : EvR X (.Name n pos) σ s xs := fun s1 k Q q => we_of (pe_var hN hv hd hcd) ⟨_, h, q _ s1 (Ex.refl _) (r.ex k).r⟩
theorem ev_int {i : Int} {j} : Ev X (.Constant (.int i) j pos) σ s i := fun s1 k Q q => we_of pe_int (q _ s1 (Ex.refl _) rfl)
theorem ev_bl {i : Bool} {j} : Ev X (.Constant (.bool i) j pos) σ s i := fun s1 k Q q => we_of pe_bl (q _ s1 (Ex.refl _) rfl)
theorem ev_str {i : Str} {j} : Ev X (.Constant (.str i) j pos) σ s i := fun s1 k Q q => we_of pe_str (q _ s1 (Ex.refl _) rfl)
theorem ev_non {j} : Ev X (.Constant .none j pos) σ s () := fun s1 k Q q => we_of pe_non (q _ s1 (Ex.refl _) rfl)
theorem ev_nonO {j} : Ev X (.Constant .none j pos) σ s (none : Option α) := fun s1 k Q q => we_of pe_non (q _ s1 (Ex.refl _) rfl)
theorem ev_some {x : α} (h : Ev X e σ s x) : Ev X e σ s (some x) := h
theorem ev_glob {n : Str} {x : α} (h : ∃ v u, X.mg n = some u ∧ RelV v u ∧ ∀ F, rep X.K F v x) (hg : Gl X n := by rfl) (hd : (n == ("__debug__" : Str)) = false := by decide) : Ev X (.Name n pos) σ s x := fun s1 k Q q => by
  obtain ⟨v, u, h1, h2, h3⟩ := h
  exact we_of (pe_glob hg h1 h2 hd) (q v s1 (Ex.refl _) (h3 _))

theorem ev_op {op : Operator} {r : R2} {x : α} {y : β} {z : γ} (ho : OpR X (binaryOp op) r) (ha : Ev X a σ s x) (hb : Ev X b σ s y)
    (hr : ∀ v u s2, rep X.K s2.F v x → rep X.K s2.F u y → ∀ Q : VK, (∀ v' s3, Ex s2 s3 → rep X.K s3.F v' z → Q v' s3.H) → r v u s2.H Q) : Ev X (.BinOp a op b pos) σ s z := fun s1 k Q q =>
  we_of (pe_op ho pe_we pe_we) (ha s1 k _ fun v s2 k2 r2 => hb s2 (k.trans k2) _ fun u s3 k3 r3 => hr v u s3 (Enc.mono k3.f r2) r3 Q fun w s4 k4 r4 => q w s4 ((k2.trans k3).trans k4) r4)
theorem ev_I0 {op : Operator} {g : Int → Int → V} {x y : Int} {z : γ} (ho : OpR X (binaryOp op) (rI0 g)) (ha : Ev X a σ s x) (hb : Ev X b σ s y) (hz : ∀ K F, rep K F (g x y) z) : Ev X (.BinOp a op b pos) σ s z :=
  ev_op ho ha hb fun v u s2 hv hu Q q => ⟨x, y, hv, hu, q _ s2 (Ex.refl _) (hz _ _)⟩
theorem ev_I {op : Operator} {C : Int → Int → Prop} {g : Int → Int → V} {x y : Int} {z : γ} (ho : OpR X (binaryOp op) (rI C g)) (ha : Ev X a σ s x) (hb : Ev X b σ s y) (hc : C x y) (hz : ∀ K F, rep K F (g x y) z) : Ev X (.BinOp a op b pos) σ s z :=
  ev_op ho ha hb fun v u s2 hv hu Q q => ⟨x, y, hv, hu, hc, q _ s2 (Ex.refl _) (hz _ _)⟩
theorem ev_add {x y : Int} (ha : Ev X a σ s x) (hb : Ev X b σ s y) : Ev X (.BinOp a .Add b pos) σ s (x + y) := ev_I0 op_add ha hb fun _ _ => rfl
theorem ev_sub {x y : Int} (ha : Ev X a σ s x) (hb : Ev X b σ s y) : Ev X (.BinOp a .Sub b pos) σ s (x - y) := ev_I0 op_sub ha hb fun _ _ => rfl
def MulOk (x y : Int) : Prop := CMul x y ∨ CMulW x y
theorem ev_mul {x y : Int} (ha : Ev X a σ s x) (hb : Ev X b σ s y) (hc : MulOk x y) : Ev X (.BinOp a .Mult b pos) σ s (x * y) := by
  rcases hc with hc | hc
  · exact ev_I op_mul ha hb hc fun _ _ => rfl
  · exact ev_I op_mulW ha hb hc fun _ _ => rfl
theorem ev_mod {x y : Int} (ha : Ev X a σ s x) (hb : Ev X b σ s y) (hc : 0 < y) : Ev X (.BinOp a .Mod b pos) σ s (x % y) := ev_I op_mod ha hb hc fun _ _ => rfl
def DivOk (y : Int) : Prop := 0 < y ∧ y.natAbs.log2 < 9000
theorem ev_div {x y : Int} (ha : Ev X a σ s x) (hb : Ev X b σ s y) (hc : DivOk y) : Ev X (.BinOp a .FloorDiv b pos) σ s (x / y) := ev_I op_fdivW ha hb hc fun _ _ => rfl
theorem ev_pow {x y : Int} (ha : Ev X a σ s x) (hb : Ev X b σ s y) (hc : CPow x y) : Ev X (.BinOp a .Pow b pos) σ s (x ^ y.toNat) := ev_I op_pow ha hb hc fun _ _ => rfl
theorem ev_adds {x y : Str} (ha : Ev X a σ s x) (hb : Ev X b σ s y) (hc : x.length + y.length ≤ sizeLine) : Ev X (.BinOp a .Add b pos) σ s (x ++ y) :=
  ev_op op_add_str ha hb fun v u s2 hv hu Q q => ⟨x, y, hv, hu, hc, q _ s2 (Ex.refl _) rfl⟩
theorem ev_neg {x : Int} (ha : Ev X a σ s x) : Ev X (.UnaryOp .USub a pos) σ s (-x) := fun s1 k Q q =>
  we_of (pe_un un_neg pe_we) (ha s1 k _ fun v s2 k2 r2 => ⟨x, r2, q _ s2 k2 rfl⟩)

theorem atI_rep {K : PySem.W.Frag} {F : Hp} {vs : List V} {xs : List α} {i : Int} {x : α} (r : Reps K F vs xs) (h : atI xs i = some x) : ∃ v, atI vs i = some v ∧ rep K F v x := by
  unfold atI at h ⊢
  rw [r.len]
  cases hj : ixN xs.length i with
  | none => rw [hj] at h; cases h
  | some j =>
    rw [hj] at h
    obtain ⟨v, h1, h2⟩ := r.get (i := j) h
    exact ⟨v, h1, h2⟩
theorem ev_ix {xs : List α} {i : Int} {x : α} (ha : EvR X a σ s xs) (hb : Ev X b σ s i) (h : atI xs i = some x) (hp : PlainIx b := by intro _ _; rfl) : Ev X (.Subscript a b pos) σ s x := fun s1 k Q q =>
  we_of (pe_ix ix_list pe_we pe_we hp) (ha s1 k _ fun v s2 k2 r2 => hb s2 (k.trans k2) _ fun u s3 k3 r3 => by
    obtain ⟨p, vs, rfl, h1, h2⟩ := r2.ex k3
    obtain ⟨w, h3, h4⟩ := atI_rep h2 h
    exact ⟨p, vs, i, w, rfl, r3, h1, h3, q w s3 (k2.trans k3) h4⟩)
theorem ev_ixT {xs : Tu α} {i : Int} {x : α} (ha : Ev X a σ s xs) (hb : Ev X b σ s i) (h : atI xs.l i = some x) (hp : PlainIx b := by intro _ _; rfl) : Ev X (.Subscript a b pos) σ s x := fun s1 k Q q =>
  we_of (pe_ix ix_tup pe_we pe_we hp) (ha s1 k _ fun v s2 k2 r2 => hb s2 (k.trans k2) _ fun u s3 k3 r3 => by
    obtain ⟨p, vs, rfl, h1, h2⟩ := Enc.mono (α := Tu α) k3.f r2
    obtain ⟨w, h3, h4⟩ := atI_rep h2 h
    exact ⟨p, vs, i, w, rfl, r3, sqt_mono s3.sub h1, h3, q w s3 (k2.trans k3) h4⟩)
theorem ev_ixP {x : β} {i : Int} {y : α} (ha : Ev X a σ s x) (hb : Ev X b σ s i) (h : ∀ {F : Hp} {v : V}, rep X.K F v x → ∃ p vs w, v = .ref p ∧ SqT X.K F p vs ∧ atI vs i = some w ∧ rep X.K F w y) (hp : PlainIx b := by intro _ _; rfl) : Ev X (.Subscript a b pos) σ s y := fun s1 k Q q =>
  we_of (pe_ix ix_tup pe_we pe_we hp) (ha s1 k _ fun v s2 k2 r2 => hb s2 (k.trans k2) _ fun u s3 k3 r3 => by
    obtain ⟨p, vs, w, rfl, h1, h2, h3⟩ := h (Enc.mono k3.f r2)
    exact ⟨p, vs, i, w, rfl, r3, sqt_mono s3.sub h1, h2, q w s3 (k2.trans k3) h3⟩)
theorem p2_0 {K : PySem.W.Frag} {x : α × β} {F : Hp} {v : V} (h : rep K F v x) : ∃ p vs w, v = .ref p ∧ SqT K F p vs ∧ atI vs 0 = some w ∧ rep K F w x.1 := by
  obtain ⟨p, v1, v2, rfl, h0, h1, h2⟩ := h
  exact ⟨p, _, v1, rfl, h0, rfl, h1⟩
theorem p2_1 {K : PySem.W.Frag} {x : α × β} {F : Hp} {v : V} (h : rep K F v x) : ∃ p vs w, v = .ref p ∧ SqT K F p vs ∧ atI vs 1 = some w ∧ rep K F w x.2 := by
  obtain ⟨p, v1, v2, rfl, h0, h1, h2⟩ := h
  exact ⟨p, _, v2, rfl, h0, rfl, h2⟩
theorem p3_0 {K : PySem.W.Frag} {x : T3 α β γ} {F : Hp} {v : V} (h : rep K F v x) : ∃ p vs w, v = .ref p ∧ SqT K F p vs ∧ atI vs 0 = some w ∧ rep K F w x.a := by
  obtain ⟨p, v1, v2, v3, rfl, h0, h1, h2, h3⟩ := h
  exact ⟨p, _, v1, rfl, h0, rfl, h1⟩
theorem p3_1 {K : PySem.W.Frag} {x : T3 α β γ} {F : Hp} {v : V} (h : rep K F v x) : ∃ p vs w, v = .ref p ∧ SqT K F p vs ∧ atI vs 1 = some w ∧ rep K F w x.b := by
  obtain ⟨p, v1, v2, v3, rfl, h0, h1, h2, h3⟩ := h
  exact ⟨p, _, v2, rfl, h0, rfl, h2⟩
theorem p3_2 {K : PySem.W.Frag} {x : T3 α β γ} {F : Hp} {v : V} (h : rep K F v x) : ∃ p vs w, v = .ref p ∧ SqT K F p vs ∧ atI vs 2 = some w ∧ rep K F w x.c := by
  obtain ⟨p, v1, v2, v3, rfl, h0, h1, h2, h3⟩ := h
  exact ⟨p, _, v3, rfl, h0, rfl, h3⟩
def sgn (x : Str) (i : Int) : Option Str := if x.length ≤ sizeLine then (atI x.cps.toList i).map fun c => ⟨#[c]⟩ else none
theorem ev_ixS {x : Str} {i : Int} {y : Str} (ha : Ev X a σ s x) (hb : Ev X b σ s i) (h : sgn x i = some y) (hp : PlainIx b := by intro _ _; rfl) : Ev X (.Subscript a b pos) σ s y := fun s1 k Q q =>
  we_of (pe_ix ix_str pe_we pe_we hp) (ha s1 k _ fun v s2 k2 r2 => hb s2 (k.trans k2) _ fun u s3 k3 r3 => by
    unfold sgn at h
    split at h
    · rename_i hz
      obtain ⟨c, h1, h2⟩ := Option.map_eq_some_iff.mp h
      exact ⟨x, i, c, r2, r3, hz, h1, q _ s3 (k2.trans k3) (by rw [h2]; rfl)⟩
    · cases h)
end
end Dy

namespace Dy
open PySem PySem.Spec L2
open PyProof.Rows hiding St
open Enc (rep)
open Flat (toV)
open EncA (repA)

section
variable {α β γ δ : Type} [Enc α] [Enc β] [Enc γ] [Enc δ] {X : Cx} {σ : St} {s t : S} {e a b c : Expr} {es : List Expr} {pos p0 p1 p2 p3 : Pos}

theorem et_v {x : Bool} (h : Ev X e σ s x) (he : ∀ whole, isTrue e X.env whole = (do let v ← whole; standAt e.pos; holding [v] (truthy v)) := by intro _; rfl) : EvT X e σ s x := fun s1 k Q q =>
  wt_of (pt_val pe_we he) (h s1 k _ fun v s2 k2 r => ⟨x, r, q s2 k2⟩)
theorem eb_v {x : Bool} (h : Ev X e σ s x) (he : ∀ whole, isTrue e X.env whole = (do let v ← whole; standAt e.pos; holding [v] (truthy v)) := by intro _; rfl) : EvB X e σ s x := ⟨h, et_v h he⟩
theorem EvW.tt {x : Bool} (h : EvW X e σ s x) : EvT X e σ s x := fun s1 k Q q => wt_of pw_ww.pt (h s1 k Q q)
theorem EvC.bb {x : Bool} (h : EvC X e σ s x) : EvB X e σ s x := ⟨h.v, h.w.tt⟩
theorem EvB.cast {x y : Bool} (h : EvB X e σ s x) (k : x = y) : EvB X e σ s y := k ▸ h
theorem ec_and1 {x : Bool} (h : EvB X a σ s x) : EvC X (.BoolOp .And [a] pos) σ s x :=
  ⟨fun s1 k Q q => we_of (pe_one pe_we) (h.v s1 k Q q), fun s1 k Q q => ww_of (pw_and1 pt_wt) (h.t s1 k Q q)⟩
theorem ec_or1 {x : Bool} (h : EvB X a σ s x) : EvC X (.BoolOp .Or [a] pos) σ s x :=
  ⟨fun s1 k Q q => we_of (pe_one pe_we) (h.v s1 k Q q), fun s1 k Q q => ww_of (pw_or1 pt_wt) (h.t s1 k Q q)⟩
theorem ec_and {x y : Bool} (h : EvB X a σ s x) (h2 : x = true → EvC X (.BoolOp .And (b :: es) pos) σ s y) : EvC X (.BoolOp .And (a :: b :: es) pos) σ s (x && y) :=
  ⟨fun s1 k Q q => we_of (pe_and pe_we pe_we) (h.v s1 k _ fun v s2 k2 r => ⟨x, r, by
    cases x with
    | true => exact iteT ((h2 rfl).v s2 (k.trans k2) Q fun v s3 k3 r3 => q v s3 (k2.trans k3) r3)
    | false => exact iteF (q _ s2 k2 rfl)⟩),
   fun s1 k Q q => ww_of (pw_and pt_wt pw_ww) (h.t s1 k _ fun s2 k2 => by
    cases x with
    | true => exact iteT ((h2 rfl).w s2 (k.trans k2) Q fun s3 k3 => q s3 (k2.trans k3))
    | false => exact iteF (q s2 k2))⟩
theorem ec_or {x y : Bool} (h : EvB X a σ s x) (h2 : x = false → EvC X (.BoolOp .Or (b :: es) pos) σ s y) : EvC X (.BoolOp .Or (a :: b :: es) pos) σ s (x || y) :=
  ⟨fun s1 k Q q => we_of (pe_or pe_we pe_we) (h.v s1 k _ fun v s2 k2 r => ⟨x, r, by
    cases x with
    | true => exact iteT (q _ s2 k2 rfl)
    | false => exact iteF ((h2 rfl).v s2 (k.trans k2) Q fun v s3 k3 r3 => q v s3 (k2.trans k3) r3)⟩),
   fun s1 k Q q => ww_of (pw_or pt_wt pw_ww) (h.t s1 k _ fun s2 k2 => by
    cases x with
    | true => exact iteT (q s2 k2)
    | false => exact iteF ((h2 rfl).w s2 (k.trans k2) Q fun s3 k3 => q s3 (k2.trans k3)))⟩
theorem eb_not {x : Bool} (h : EvB X a σ s x) : EvB X (.UnaryOp .Not a pos) σ s (!x) :=
  ⟨fun s1 k Q q => we_of (pe_not pe_we) (h.v s1 k _ fun v s2 k2 r => ⟨x, r, q _ s2 k2 rfl⟩), fun s1 k Q q => wt_of (pt_not pt_wt) (h.t s1 k _ fun s2 k2 => q s2 k2)⟩
theorem ev_ifE {x : Bool} {y z : α} (h : EvT X c σ s x) (h1 : x = true → Ev X a σ s y) (h2 : x = false → Ev X b σ s z) : Ev X (.IfExp c a b pos) σ s (if x = true then y else z) := fun s1 k Q q =>
  we_of (pe_ifExp pt_wt pe_we pe_we) (h s1 k _ fun s2 k2 => by
    cases x with
    | true => exact iteT (h1 rfl s2 (k.trans k2) Q fun v s3 k3 r => q v s3 (k2.trans k3) r)
    | false => exact iteF (h2 rfl s2 (k.trans k2) Q fun v s3 k3 r => q v s3 (k2.trans k3) r))

theorem eb_cmp {op : CmpOp} {r : R2} {x : α} {y : β} {z : Bool} (ho : OpR X (compareOp op) r) (ha : Ev X a σ s x) (hb : Ev X b σ s y)
    (hr : ∀ (v u : V) (s2 : S), rep X.K s2.F v x → rep X.K s2.F u y → ∀ Q : VK, Q (.bl z) s2.H → r v u s2.H Q) (hm : behindInMarks op b = false) : EvB X (.Compare a [op] [b] pos) σ s z :=
  ⟨fun s1 k Q q => we_of (pe_cmpR ho pe_we pe_we hm) (ha s1 k _ fun v s2 k2 r2 => hb s2 (k.trans k2) _ fun u s3 k3 r3 => hr v u s3 (Enc.mono k3.f r2) r3 Q (q _ s3 (k2.trans k3) rfl)),
   fun s1 k Q q => wt_of (pt_cmpR ho pe_we pe_we hm) (ha s1 k _ fun v s2 k2 r2 => hb s2 (k.trans k2) _ fun u s3 k3 r3 => hr v u s3 (Enc.mono k3.f r2) r3 _ ⟨z, rfl, q s3 (k2.trans k3)⟩)⟩
theorem eb_cmpR {op : CmpOp} {r : R2} {x : α} {ys : List β} {z : Bool} (ho : OpR X (compareOp op) r) (ha : Ev X a σ s x) (hb : EvR X b σ s ys)
    (hr : ∀ (v u : V) (s2 : S), rep X.K s2.F v x → RepR X.K s2 u ys → ∀ Q : VK, Q (.bl z) s2.H → r v u s2.H Q) (hm : behindInMarks op b = false) : EvB X (.Compare a [op] [b] pos) σ s z :=
  ⟨fun s1 k Q q => we_of (pe_cmpR ho pe_we pe_we hm) (ha s1 k _ fun v s2 k2 r2 => hb s2 (k.trans k2) _ fun u s3 k3 r3 => hr v u s3 (Enc.mono k3.f r2) r3 Q (q _ s3 (k2.trans k3) rfl)),
   fun s1 k Q q => wt_of (pt_cmpR ho pe_we pe_we hm) (ha s1 k _ fun v s2 k2 r2 => hb s2 (k.trans k2) _ fun u s3 k3 r3 => hr v u s3 (Enc.mono k3.f r2) r3 _ ⟨z, rfl, q s3 (k2.trans k3)⟩)⟩
theorem eb_cmpRR {op : CmpOp} {r : R2} {xs : List α} {ys : List β} {z : Bool} (ho : OpR X (compareOp op) r) (ha : EvR X a σ s xs) (hb : EvR X b σ s ys)
    (hr : ∀ (v u : V) (s2 : S), RepR X.K s2 v xs → RepR X.K s2 u ys → ∀ Q : VK, Q (.bl z) s2.H → r v u s2.H Q) (hm : behindInMarks op b = false) : EvB X (.Compare a [op] [b] pos) σ s z :=
  ⟨fun s1 k Q q => we_of (pe_cmpR ho pe_we pe_we hm) (ha s1 k _ fun v s2 k2 r2 => hb s2 (k.trans k2) _ fun u s3 k3 r3 => hr v u s3 (r2.ex k3) r3 Q (q _ s3 (k2.trans k3) rfl)),
   fun s1 k Q q => wt_of (pt_cmpR ho pe_we pe_we hm) (ha s1 k _ fun v s2 k2 r2 => hb s2 (k.trans k2) _ fun u s3 k3 r3 => hr v u s3 (r2.ex k3) r3 _ ⟨z, rfl, q s3 (k2.trans k3)⟩)⟩
theorem eb_I0 {op : CmpOp} {g : Int → Int → V} {x y : Int} {z : Bool} (ho : OpR X (compareOp op) (rI0 g)) (hg : g x y = .bl z) (hm : behindInMarks op b = false) (ha : Ev X a σ s x) (hb : Ev X b σ s y) : EvB X (.Compare a [op] [b] pos) σ s z :=
  eb_cmp ho ha hb (fun v u s2 hv hu Q q => ⟨x, y, hv, hu, by rw [hg]; exact q⟩) hm
theorem eb_lt {x y : Int} (ha : Ev X a σ s x) (hb : Ev X b σ s y) : EvB X (.Compare a [.Lt] [b] pos) σ s (decide (x < y)) := eb_I0 op_lt rfl (nomark _) ha hb
theorem eb_le {x y : Int} (ha : Ev X a σ s x) (hb : Ev X b σ s y) : EvB X (.Compare a [.LtE] [b] pos) σ s (decide (x ≤ y)) := eb_I0 op_le rfl (nomark _) ha hb
theorem eb_gt {x y : Int} (ha : Ev X a σ s x) (hb : Ev X b σ s y) : EvB X (.Compare a [.Gt] [b] pos) σ s (decide (y < x)) := eb_I0 op_gt rfl (nomark _) ha hb
theorem eb_ge {x y : Int} (ha : Ev X a σ s x) (hb : Ev X b σ s y) : EvB X (.Compare a [.GtE] [b] pos) σ s (decide (y ≤ x)) := eb_I0 op_ge rfl (nomark _) ha hb
class Eqs (α : Type) extends Flat α where
  sc : ∀ x y : α, scal (toV x) (toV y) = true
  ij : ∀ x y : α, toV x = toV y ↔ x = y
instance : Eqs Int := { sc := fun _ _ => rfl, ij := fun x y => by show V.int x = V.int y ↔ _; simp }
instance : Eqs Bool := { sc := fun _ _ => rfl, ij := fun x y => by show V.bl x = V.bl y ↔ _; simp }
instance : Eqs Str := { sc := fun _ _ => rfl, ij := fun x y => by show V.str x = V.str y ↔ _; simp }
theorem eb_eq {ε : Type} [Eqs ε] [DecidableEq ε] {x y : ε} (ha : Ev X a σ s x) (hb : Ev X b σ s y) : EvB X (.Compare a [.Eq] [b] pos) σ s (decide (x = y)) :=
  eb_cmp op_eq ha hb (fun v u s2 hv hu Q q => by
    rw [Flat.iff.mp hv, Flat.iff.mp hu]
    refine ⟨Eqs.sc x y, ?_⟩
    rw [show decide (toV x = toV y) = decide (x = y) from decide_eq_decide.mpr (Eqs.ij x y)]
    exact q) (nomark _)
theorem eb_ne {ε : Type} [Eqs ε] [DecidableEq ε] {x y : ε} (ha : Ev X a σ s x) (hb : Ev X b σ s y) : EvB X (.Compare a [.NotEq] [b] pos) σ s (!decide (x = y)) :=
  eb_cmp op_ne ha hb (fun v u s2 hv hu Q q => by
    rw [Flat.iff.mp hv, Flat.iff.mp hu]
    refine ⟨Eqs.sc x y, ?_⟩
    rw [show decide (toV x = toV y) = decide (x = y) from decide_eq_decide.mpr (Eqs.ij x y)]
    exact q) (nomark _)
theorem eb_isN {o : Type} [Opn o] {x : Option o} {j} (ha : Ev X a σ s x) : EvB X (.Compare a [.Is] [.Constant .none j p1] pos) σ s x.isNone :=
  eb_cmp op_isN ha ev_non (fun v u s2 hv hu Q q => by
    refine ⟨hu, ?_⟩
    have : decide (v = V.non) = x.isNone := by
      cases x with
      | none => cases (show v = V.non from hv); rfl
      | some y => exact decide_eq_false fun z => Opn.notNon (z ▸ (show rep X.K s2.F v y from hv))
    rw [this]; exact q) (nomark _)
theorem eb_notN {o : Type} [Opn o] {x : Option o} {j} (ha : Ev X a σ s x) : EvB X (.Compare a [.IsNot] [.Constant .none j p1] pos) σ s x.isSome :=
  eb_cmp op_notN ha ev_non (fun v u s2 hv hu Q q => by
    refine ⟨hu, ?_⟩
    have : (!decide (v = V.non)) = x.isSome := by
      cases x with
      | none => cases (show v = V.non from hv); rfl
      | some y => rw [decide_eq_false fun z => Opn.notNon (z ▸ (show rep X.K s2.F v y from hv))]; rfl
    rw [this]; exact q) (nomark _)
theorem eb_in {ε : Type} [Eqs ε] [DecidableEq ε] {x : ε} {xs : List ε} (ha : Ev X a σ s x) (hb : EvR X b σ s xs) (hm : behindInMarks .In b = false := by rfl) : EvB X (.Compare a [.In] [b] pos) σ s (decide (x ∈ xs)) :=
  eb_cmpR op_in_seq ha hb (fun v u s2 hv hu Q q => by
    obtain ⟨p, vs, rfl, h1, h2⟩ := hu
    rw [Flat.iff.mp hv]
    obtain rfl := h2.flat
    refine ⟨p, _, rfl, .inl h1, Flat.flat x, flat_all xs, ?_⟩
    rw [inV_flat]; exact q) hm
theorem eb_notIn {ε : Type} [Eqs ε] [DecidableEq ε] {x : ε} {xs : List ε} (ha : Ev X a σ s x) (hb : EvR X b σ s xs) (hm : behindInMarks .NotIn b = false := by rfl) : EvB X (.Compare a [.NotIn] [b] pos) σ s (!decide (x ∈ xs)) :=
  eb_cmpR op_notIn_seq ha hb (fun v u s2 hv hu Q q => by
    obtain ⟨p, vs, rfl, h1, h2⟩ := hu
    rw [Flat.iff.mp hv]
    obtain rfl := h2.flat
    refine ⟨p, _, rfl, .inl h1, Flat.flat x, flat_all xs, ?_⟩
    rw [inV_flat]; exact q) hm
theorem eb_inT {ε : Type} [Eqs ε] [DecidableEq ε] {x : ε} {xs : Tu ε} (ha : Ev X a σ s x) (hb : Ev X b σ s xs) (hm : behindInMarks .In b = false := by rfl) : EvB X (.Compare a [.In] [b] pos) σ s (decide (x ∈ xs.l)) :=
  eb_cmp op_in_seq ha hb (fun v u s2 hv hu Q q => by
    obtain ⟨p, vs, rfl, h1, h2⟩ := hu
    rw [Flat.iff.mp hv]
    obtain rfl := h2.flat
    refine ⟨p, _, rfl, .inr (sqt_mono s2.sub h1), Flat.flat x, flat_all xs.l, ?_⟩
    rw [inV_flat]; exact q) hm
theorem eb_notInT {ε : Type} [Eqs ε] [DecidableEq ε] {x : ε} {xs : Tu ε} (ha : Ev X a σ s x) (hb : Ev X b σ s xs) (hm : behindInMarks .NotIn b = false := by rfl) : EvB X (.Compare a [.NotIn] [b] pos) σ s (!decide (x ∈ xs.l)) :=
  eb_cmp op_notIn_seq ha hb (fun v u s2 hv hu Q q => by
    obtain ⟨p, vs, rfl, h1, h2⟩ := hu
    rw [Flat.iff.mp hv]
    obtain rfl := h2.flat
    refine ⟨p, _, rfl, .inr (sqt_mono s2.sub h1), Flat.flat x, flat_all xs.l, ?_⟩
    rw [inV_flat]; exact q) hm
def inS (x y : Str) : Bool := !(Builtin.Str.occurrences y x 0 y.length 1).isEmpty
theorem eb_inS {x y : Str} (ha : Ev X a σ s x) (hb : Ev X b σ s y) (hm : behindInMarks .In b = false := by rfl) : EvB X (.Compare a [.In] [b] pos) σ s (inS x y) :=
  eb_cmp op_in_str ha hb (fun v u s2 hv hu Q q => ⟨x, y, hv, hu, q⟩) hm
theorem eb_notInS {x y : Str} (ha : Ev X a σ s x) (hb : Ev X b σ s y) (hm : behindInMarks .NotIn b = false := by rfl) : EvB X (.Compare a [.NotIn] [b] pos) σ s (!inS x y) :=
  eb_cmp op_notIn_str ha hb (fun v u s2 hv hu Q q => ⟨x, y, hv, hu, q⟩) hm
theorem eb_chain {op op' : CmpOp} {g g' : Int → Int → V} {x y z : Int} {k1 k2 : Bool} (ho : OpR X (compareOp op) (rI0 g)) (hg : g x y = .bl k1) (ho' : OpR X (compareOp op') (rI0 g')) (hg' : g' y z = .bl k2) (ha : Ev X a σ s x) (hb : Ev X b σ s y) (hc : Ev X c σ s z)
    (hm : lastMarks [op, op'] [b, c] = false := by with_unfolding_all rfl) : EvB X (.Compare a [op, op'] [b, c] pos) σ s (k1 && k2) :=
  ⟨fun s1 k Q q => we_of (pe_chain ho ho' pe_we pe_we pe_we hm) (ha s1 k _ fun v s2 j2 r2 => hb s2 (k.trans j2) _ fun u s3 j3 r3 => ⟨x, y, r2, r3, k1, hg, by
    cases k1 with
    | true => exact iteT (hc s3 ((k.trans j2).trans j3) _ fun w s4 j4 r4 => ⟨y, z, r3, r4, by rw [hg']; exact q _ s4 ((j2.trans j3).trans j4) rfl⟩)
    | false => exact iteF (q _ s3 (j2.trans j3) rfl)⟩),
   fun s1 k Q q => wt_of (pt_chain ho ho' pe_we pe_we pe_we hm) (ha s1 k _ fun v s2 j2 r2 => hb s2 (k.trans j2) _ fun u s3 j3 r3 => ⟨x, y, r2, r3, k1, hg, by
    cases k1 with
    | true => exact iteT (hc s3 ((k.trans j2).trans j3) _ fun w s4 j4 r4 => ⟨y, z, r3, r4, by rw [hg']; exact ⟨_, rfl, q s4 ((j2.trans j3).trans j4)⟩⟩)
    | false => exact iteF ⟨_, rfl, q s3 (j2.trans j3)⟩⟩)⟩

theorem ea_nil : EvA X [] σ s () := fun s1 k Q q => wa_of pa_nil (q [] s1 (Ex.refl _) rfl)
theorem ea_cons {A : Type} [EncA A] {x : α} {r : A} (h : Ev X e σ s x) (hr : EvA X es σ s r) (hs : starEach (e :: es) X.env = (false, eval e X.env) :: starEach es X.env := by exact star_cons rfl) : EvA X (e :: es) σ s (x, r) := fun s1 k Q q =>
  wa_of (pa_cons pe_we pa_wa hs) (h s1 k _ fun v s2 k2 r2 => hr s2 (k.trans k2) _ fun vs s3 k3 r3 => q _ s3 (k2.trans k3) ⟨v, vs, rfl, Enc.mono k3.f r2, r3⟩)
theorem ev_B1 {id : String} {n : Str} {r : List V → Hp → VK → Prop} {x : β} {y : α} (hc : CallR X (.builtin id) r) (hg : Gl X n) (hm : X.mg n = none) (hv : bootBuiltins n = some (.builtin id)) (ha : Ev X e σ s x)
    (hr : ∀ (v : V) (s2 : S), rep X.K s2.F v x → ∀ Q : VK, (∀ w s3, Ex s2 s3 → rep X.K s3.F w y → Q w s3.H) → r [v] s2.H Q) (hn : n ≠ "__name__" := by decide) (hdb : (n == ("__debug__" : Str)) = false := by decide)
    (he : starEach [e] X.env = (false, eval e X.env) :: starEach [] X.env := by rfl) (hpl : (backTo pos (starEach [] X.env)).any (·.1) = false := by rfl) : Ev X (.Call (.Name n p0) [e] [] pos) σ s y := fun s1 k Q q =>
  we_of (pe_callB hc hg hm hv (pa_cons pe_we pa_nil he) hn hdb he hpl) (ha s1 k _ fun v s2 k2 r2 => hr v s2 r2 Q fun w s3 k3 r3 => q w s3 (k2.trans k3) r3)
theorem ev_BR {id : String} {n : Str} {r : List V → Hp → VK → Prop} {xs : List β} {y : α} (hc : CallR X (.builtin id) r) (hg : Gl X n) (hm : X.mg n = none) (hv : bootBuiltins n = some (.builtin id)) (ha : EvR X e σ s xs)
    (hr : ∀ (v : V) (s2 : S), RepR X.K s2 v xs → ∀ Q : VK, (∀ w s3, Ex s2 s3 → rep X.K s3.F w y → Q w s3.H) → r [v] s2.H Q) (hn : n ≠ "__name__" := by decide) (hdb : (n == ("__debug__" : Str)) = false := by decide)
    (he : starEach [e] X.env = (false, eval e X.env) :: starEach [] X.env := by rfl) (hpl : (backTo pos (starEach [] X.env)).any (·.1) = false := by rfl) : Ev X (.Call (.Name n p0) [e] [] pos) σ s y := fun s1 k Q q =>
  we_of (pe_callB hc hg hm hv (pa_cons pe_we pa_nil he) hn hdb he hpl) (ha s1 k _ fun v s2 k2 r2 => hr v s2 r2 Q fun w s3 k3 r3 => q w s3 (k2.trans k3) r3)
theorem ev_len {xs : List β} (hm : X.mg "len" = none) (ha : EvR X e σ s xs) (hg : Gl X "len" := by rfl) (he : starEach [e] X.env = (false, eval e X.env) :: starEach [] X.env := by rfl) (hpl : (backTo pos (starEach [] X.env)).any (·.1) = false := by rfl) : Ev X (.Call (.Name "len" p0) [e] [] pos) σ s (xs.length : Int) :=
  ev_BR call_len_seq hg hm boot_len ha (fun v s2 r2 Q q => by
    obtain ⟨p, vs, rfl, h1, h2⟩ := r2
    exact ⟨p, vs, rfl, .inl h1, q _ s2 (Ex.refl _) (by rw [h2.len]; rfl)⟩) (he := he) (hpl := hpl)
theorem ev_lenT {xs : Tu β} (hm : X.mg "len" = none) (ha : Ev X e σ s xs) (hg : Gl X "len" := by rfl) (he : starEach [e] X.env = (false, eval e X.env) :: starEach [] X.env := by rfl) (hpl : (backTo pos (starEach [] X.env)).any (·.1) = false := by rfl) : Ev X (.Call (.Name "len" p0) [e] [] pos) σ s (xs.l.length : Int) :=
  ev_B1 call_len_seq hg hm boot_len ha (fun v s2 r2 Q q => by
    obtain ⟨p, vs, rfl, h1, h2⟩ := r2
    exact ⟨p, vs, rfl, .inr (sqt_mono s2.sub h1), q _ s2 (Ex.refl _) (by rw [h2.len]; rfl)⟩) (he := he) (hpl := hpl)
theorem ev_lenS {x : Str} (hm : X.mg "len" = none) (hz : x.length ≤ sizeLine) (ha : Ev X e σ s x) (hg : Gl X "len" := by rfl) (he : starEach [e] X.env = (false, eval e X.env) :: starEach [] X.env := by rfl) (hpl : (backTo pos (starEach [] X.env)).any (·.1) = false := by rfl) : Ev X (.Call (.Name "len" p0) [e] [] pos) σ s (x.length : Int) :=
  ev_B1 call_len_str hg hm boot_len ha (fun v s2 r2 Q q => ⟨x, by rw [show v = V.str x from r2], hz, q _ s2 (Ex.refl _) rfl⟩) (he := he) (hpl := hpl)
theorem ev_sum {xs : List Int} (hm : X.mg "sum" = none) (ha : EvR X e σ s xs) (hc : X.calm = true := by rfl) (hg : Gl X "sum" := by rfl) (he : starEach [e] X.env = (false, eval e X.env) :: starEach [] X.env := by rfl) (hpl : (backTo pos (starEach [] X.env)).any (·.1) = false := by rfl) : Ev X (.Call (.Name "sum" p0) [e] [] pos) σ s xs.sum :=
  ev_BR (cr_sum hc) hg hm (by decide +kernel) ha (fun v s2 r2 Q q => by
    obtain ⟨p, vs, rfl, h1, h2⟩ := r2
    rw [h2.flat] at h1
    exact ⟨p, xs, rfl, h1, q _ s2 (Ex.refl _) rfl⟩) (he := he) (hpl := hpl)
theorem ev_all {xs : List Bool} (hm : X.mg "all" = none) (ha : EvR X e σ s xs) (hc : X.calm = true := by rfl) (hg : Gl X "all" := by rfl) (he : starEach [e] X.env = (false, eval e X.env) :: starEach [] X.env := by rfl) (hpl : (backTo pos (starEach [] X.env)).any (·.1) = false := by rfl) : Ev X (.Call (.Name "all" p0) [e] [] pos) σ s (xs.all id) :=
  ev_BR (cr_all hc) hg hm (by decide +kernel) ha (fun v s2 r2 Q q => by
    obtain ⟨p, vs, rfl, h1, h2⟩ := r2
    rw [h2.flat] at h1
    exact ⟨p, xs, rfl, h1, q _ s2 (Ex.refl _) rfl⟩) (he := he) (hpl := hpl)
theorem ev_any {xs : List Bool} (hm : X.mg "any" = none) (ha : EvR X e σ s xs) (hc : X.calm = true := by rfl) (hg : Gl X "any" := by rfl) (he : starEach [e] X.env = (false, eval e X.env) :: starEach [] X.env := by rfl) (hpl : (backTo pos (starEach [] X.env)).any (·.1) = false := by rfl) : Ev X (.Call (.Name "any" p0) [e] [] pos) σ s (xs.any id) :=
  ev_BR (cr_any hc) hg hm (by decide +kernel) ha (fun v s2 r2 Q q => by
    obtain ⟨p, vs, rfl, h1, h2⟩ := r2
    rw [h2.flat] at h1
    exact ⟨p, xs, rfl, h1, q _ s2 (Ex.refl _) rfl⟩) (he := he) (hpl := hpl)
def minL : List Int → Option Int
  | [] => none
  | x :: xs => some (xs.foldl min x)
def maxL : List Int → Option Int
  | [] => none
  | x :: xs => some (xs.foldl max x)
theorem foldl_min (xs : List Int) : ∀ x : Int, (xs.foldl min x ∈ x :: xs) ∧ ∀ y ∈ x :: xs, xs.foldl min x ≤ y := by
  induction xs with
  | nil => intro x; exact ⟨by simp, fun y hy => by simp at hy; simp [hy]⟩
  | cons a r ih =>
    intro x
    obtain ⟨h1, h2⟩ := ih (min x a)
    refine ⟨?_, fun y hy => ?_⟩
    · rw [List.foldl_cons]
      rcases List.mem_cons.mp h1 with h | h
      · rw [h]
        by_cases hx : x ≤ a
        · rw [Int.min_eq_left hx]; exact List.mem_cons_self
        · rw [Int.min_eq_right (by omega)]; exact List.mem_cons_of_mem _ List.mem_cons_self
      · exact List.mem_cons_of_mem _ (List.mem_cons_of_mem _ h)
    · rw [List.foldl_cons]
      have h3 := h2 (min x a) List.mem_cons_self
      rcases List.mem_cons.mp hy with rfl | hy
      · exact Int.le_trans h3 (Int.min_le_left _ _)
      · rcases List.mem_cons.mp hy with rfl | hy
        · exact Int.le_trans h3 (Int.min_le_right _ _)
        · exact h2 y (List.mem_cons_of_mem _ hy)
theorem foldl_max (xs : List Int) : ∀ x : Int, (xs.foldl max x ∈ x :: xs) ∧ ∀ y ∈ x :: xs, y ≤ xs.foldl max x := by
  induction xs with
  | nil => intro x; exact ⟨by simp, fun y hy => by simp at hy; simp [hy]⟩
  | cons a r ih =>
    intro x
    obtain ⟨h1, h2⟩ := ih (max x a)
    refine ⟨?_, fun y hy => ?_⟩
    · rw [List.foldl_cons]
      rcases List.mem_cons.mp h1 with h | h
      · rw [h]
        by_cases hx : a ≤ x
        · rw [Int.max_eq_left hx]; exact List.mem_cons_self
        · rw [Int.max_eq_right (by omega)]; exact List.mem_cons_of_mem _ List.mem_cons_self
      · exact List.mem_cons_of_mem _ (List.mem_cons_of_mem _ h)
    · rw [List.foldl_cons]
      have h3 := h2 (max x a) List.mem_cons_self
      rcases List.mem_cons.mp hy with rfl | hy
      · exact Int.le_trans (Int.le_max_left _ _) h3
      · rcases List.mem_cons.mp hy with rfl | hy
        · exact Int.le_trans (Int.le_max_right _ _) h3
        · exact h2 y (List.mem_cons_of_mem _ hy)
theorem minL_of {xs : List Int} {m : Int} (h1 : m ∈ xs) (h2 : ∀ y ∈ xs, m ≤ y) : minL xs = some m := by
  cases xs with
  | nil => simp at h1
  | cons x r =>
    obtain ⟨h3, h4⟩ := foldl_min r x
    exact congrArg some (Int.le_antisymm (h4 m h1) (h2 _ h3))
theorem maxL_of {xs : List Int} {m : Int} (h1 : m ∈ xs) (h2 : ∀ y ∈ xs, y ≤ m) : maxL xs = some m := by
  cases xs with
  | nil => simp at h1
  | cons x r =>
    obtain ⟨h3, h4⟩ := foldl_max r x
    exact congrArg some (Int.le_antisymm (h2 _ h3) (h4 m h1))
theorem ev_min {xs : List Int} {m : Int} (hm : X.mg "min" = none) (ha : EvR X e σ s xs) (h : minL xs = some m) (hc : X.calm = true := by rfl) (hg : Gl X "min" := by rfl) (he : starEach [e] X.env = (false, eval e X.env) :: starEach [] X.env := by rfl) (hpl : (backTo pos (starEach [] X.env)).any (·.1) = false := by rfl) : Ev X (.Call (.Name "min" p0) [e] [] pos) σ s m :=
  ev_BR (cr_min hc) hg hm (by decide +kernel) ha (fun v s2 r2 Q q => by
    obtain ⟨p, vs, rfl, h1, h2⟩ := r2
    rw [h2.flat] at h1
    refine ⟨p, xs, rfl, h1, ?_, fun z hz1 hz2 => ?_⟩
    · cases xs with
      | nil => cases h
      | cons _ _ => exact Nat.succ_pos _
    · rw [minL_of hz1 hz2] at h
      cases h
      exact q _ s2 (Ex.refl _) rfl) (he := he) (hpl := hpl)
theorem ev_max {xs : List Int} {m : Int} (hm : X.mg "max" = none) (ha : EvR X e σ s xs) (h : maxL xs = some m) (hc : X.calm = true := by rfl) (hg : Gl X "max" := by rfl) (he : starEach [e] X.env = (false, eval e X.env) :: starEach [] X.env := by rfl) (hpl : (backTo pos (starEach [] X.env)).any (·.1) = false := by rfl) : Ev X (.Call (.Name "max" p0) [e] [] pos) σ s m :=
  ev_BR (cr_max hc) hg hm (by decide +kernel) ha (fun v s2 r2 Q q => by
    obtain ⟨p, vs, rfl, h1, h2⟩ := r2
    rw [h2.flat] at h1
    refine ⟨p, xs, rfl, h1, ?_, fun z hz1 hz2 => ?_⟩
    · cases xs with
      | nil => cases h
      | cons _ _ => exact Nat.succ_pos _
    · rw [maxL_of hz1 hz2] at h
      cases h
      exact q _ s2 (Ex.refl _) rfl) (he := he) (hpl := hpl)
theorem ev_min2 {x y : Int} (hm : X.mg "min" = none) (ha : Ev X a σ s x) (hb : Ev X b σ s y) (hc : X.calm = true := by rfl) (hg : Gl X "min" := by rfl) (he : starEach [a, b] X.env = (false, eval a X.env) :: starEach [b] X.env := by rfl) (he2 : starEach [b] X.env = (false, eval b X.env) :: starEach [] X.env := by rfl) (hpl : (backTo pos (starEach [b] X.env)).any (·.1) = false := by rfl) : Ev X (.Call (.Name "min" p0) [a, b] [] pos) σ s (min x y) := fun s1 k Q q =>
  we_of (pe_callB (call_min2 hc) hg hm (by decide +kernel) (pa_cons pe_we (pa_cons pe_we pa_nil he2) he) (he := he) (hpl := hpl)) (ha s1 k _ fun v s2 k2 r2 => hb s2 (k.trans k2) _ fun u s3 k3 r3 =>
    ⟨x, y, by rw [show v = V.int x from r2, show u = V.int y from r3], q _ s3 (k2.trans k3) (by
      show V.int _ = V.int _
      by_cases h : y < x
      · rw [if_pos h, Int.min_eq_right (by omega)]
      · rw [if_neg h, Int.min_eq_left (by omega)])⟩)
theorem ev_max2 {x y : Int} (hm : X.mg "max" = none) (ha : Ev X a σ s x) (hb : Ev X b σ s y) (hc : X.calm = true := by rfl) (hg : Gl X "max" := by rfl) (he : starEach [a, b] X.env = (false, eval a X.env) :: starEach [b] X.env := by rfl) (he2 : starEach [b] X.env = (false, eval b X.env) :: starEach [] X.env := by rfl) (hpl : (backTo pos (starEach [b] X.env)).any (·.1) = false := by rfl) : Ev X (.Call (.Name "max" p0) [a, b] [] pos) σ s (max x y) := fun s1 k Q q =>
  we_of (pe_callB (call_max2 hc) hg hm (by decide +kernel) (pa_cons pe_we (pa_cons pe_we pa_nil he2) he) (he := he) (hpl := hpl)) (ha s1 k _ fun v s2 k2 r2 => hb s2 (k.trans k2) _ fun u s3 k3 r3 =>
    ⟨x, y, by rw [show v = V.int x from r2, show u = V.int y from r3], q _ s3 (k2.trans k3) (by
      show V.int _ = V.int _
      by_cases h : y > x
      · rw [if_pos h, Int.max_eq_right (by omega)]
      · rw [if_neg h, Int.max_eq_left (by omega)])⟩)
theorem ev_T1 {T : String} {n : Str} {r : List V → Hp → VK → Prop} {x : β} {y : α} (hc : CallR X (.type T) r) (hg : Gl X n) (hm : X.mg n = none) (hv : bootBuiltins n = some (.type T)) (ha : Ev X e σ s x)
    (hr : ∀ (v : V) (s2 : S), rep X.K s2.F v x → ∀ Q : VK, (∀ w s3, Ex s2 s3 → rep X.K s3.F w y → Q w s3.H) → r [v] s2.H Q) (hn : n ≠ "__name__" := by decide) (hdb : (n == ("__debug__" : Str)) = false := by decide)
    (he : starEach [e] X.env = (false, eval e X.env) :: starEach [] X.env := by rfl) (hpl : (backTo pos (starEach [] X.env)).any (·.1) = false := by rfl) : Ev X (.Call (.Name n p0) [e] [] pos) σ s y := fun s1 k Q q =>
  we_of (pe_callTy hc hg hm hv (pa_cons pe_we pa_nil he) hn hdb he hpl) (ha s1 k _ fun v s2 k2 r2 => hr v s2 r2 Q fun w s3 k3 r3 => q w s3 (k2.trans k3) r3)
theorem ev_intB {x : Bool} (hm : X.mg "int" = none) (ha : Ev X e σ s x) (hg : Gl X "int" := by rfl) (he : starEach [e] X.env = (false, eval e X.env) :: starEach [] X.env := by rfl) (hpl : (backTo pos (starEach [] X.env)).any (·.1) = false := by rfl) : Ev X (.Call (.Name "int" p0) [e] [] pos) σ s (if x = true then (1 : Int) else 0) :=
  ev_T1 call_int1 hg hm (by decide +kernel) ha (fun v s2 r2 Q q => .inr ⟨x, by rw [show v = V.bl x from r2], q _ s2 (Ex.refl _) rfl⟩) (he := he) (hpl := hpl)
theorem ev_intS {x : Str} {n : Int} (hm : X.mg "int" = none) (ha : Ev X e σ s x) (h : PySem.intText? x = some n) (hl : x.length ≤ 640) (hg : Gl X "int" := by rfl) (he : starEach [e] X.env = (false, eval e X.env) :: starEach [] X.env := by rfl) (hpl : (backTo pos (starEach [] X.env)).any (·.1) = false := by rfl) : Ev X (.Call (.Name "int" p0) [e] [] pos) σ s n :=
  ev_T1 call_int_str hg hm (by decide +kernel) ha (fun v s2 r2 Q q => ⟨x, n, by rw [show v = V.str x from r2], h, hl, q _ s2 (Ex.refl _) rfl⟩) (he := he) (hpl := hpl)
theorem ev_strI {x : Int} (hm : X.mg "str" = none) (h : x.natAbs.log2 < 1920) (ha : Ev X e σ s x) (hg : Gl X "str" := by rfl) (he : starEach [e] X.env = (false, eval e X.env) :: starEach [] X.env := by rfl) (hpl : (backTo pos (starEach [] X.env)).any (·.1) = false := by rfl) : Ev X (.Call (.Name "str" p0) [e] [] pos) σ s (toString x : Str) :=
  ev_T1 call_str_int hg hm (by decide +kernel) ha (fun v s2 r2 Q q => ⟨x, by rw [show v = V.int x from r2], h, q _ s2 (Ex.refl _) rfl⟩) (he := he) (hpl := hpl)
end
end Dy

namespace Dy
open PySem PySem.Spec L2
open PyProof.Rows hiding St
open Enc (rep)
open Flat (toV)
open EncA (repA)

section
variable {α β γ δ ζ : Type} [Enc α] [Enc β] [Enc γ] [Enc δ] [Enc ζ] {X : Cx} {σ : St} {s t : S} {e a b c : Expr} {es : List Expr} {pos p0 p1 p2 p3 : Pos}

def EvE (X : Cx) (es : List Expr) (σ : St) (s : S) (xs : List α) : Prop := ∀ s1, Ex s s1 → ∀ Q : List V → Hp → Prop, (∀ vs s2, Ex s1 s2 → Reps X.K s2.F vs xs → Q vs s2.H) → WA X es σ s1.H Q
theorem ee_nil : EvE X [] σ s ([] : List α) := fun s1 k Q q => wa_of pa_nil (q [] s1 (Ex.refl _) trivial)
theorem ee_cons {x : α} {xs : List α} (h : Ev X e σ s x) (hr : EvE X es σ s xs) (hs : starEach (e :: es) X.env = (false, eval e X.env) :: starEach es X.env := by exact star_cons rfl) : EvE X (e :: es) σ s (x :: xs) := fun s1 k Q q =>
  wa_of (pa_cons pe_we pa_wa hs) (h s1 k _ fun v s2 k2 r2 => hr s2 (k.trans k2) _ fun vs s3 k3 r3 => q _ s3 (k2.trans k3) ⟨Enc.mono k3.f r2, r3⟩)
theorem own_new {K : PySem.W.Frag} {p : Addr} {vs : List V} {xs : List α} (h : s.H p = none) (r : Reps K s.F vs xs) : Own K (s.newO p (.lst vs) h) p xs := ⟨(fF h : s.F p = none), vs, upd_same, r⟩
theorem en_list {xs : List α} (h : EvE X es σ s xs) (hz : xs.length ≤ sizeLine := by decide) : EvN X (.List es pos) σ s xs := fun s1 k Q q =>
  we_of (pe_lst pa_wa) (h s1 k _ fun vs s2 k2 r2 => ⟨by rw [r2.len]; exact hz, fun p hp => q p (s2.newO p (.lst vs) hp) (k2.trans (Ex.newO hp)) (fr_back k2 hp) (own_new hp r2)⟩)
theorem tup_new {K : PySem.W.Frag} {p : Addr} {vs : List V} (h : s.H p = none) : SqT K (s.newF p (.tup vs) h).F p vs := .inl (.inl upd_same)
theorem ev_tu {xs : List α} (h : EvE X es σ s xs) (hz : xs.length ≤ sizeLine := by decide) {n} : Ev X (.Tuple es n pos) σ s (⟨xs⟩ : Tu α) := fun s1 k Q q =>
  we_of (pe_tup pa_wa) (h s1 k _ fun vs s2 k2 r2 => ⟨by rw [r2.len]; exact hz, fun p hp => q _ (s2.newF p (.tup vs) hp) (k2.trans (Ex.newF hp)) ⟨p, vs, rfl, tup_new hp, r2.mono (Ex.newF hp).f⟩⟩)
theorem ev_t1 {x : α} {n} (h : EvA X es σ s (x, ())) : Ev X (.Tuple es n pos) σ s (⟨x⟩ : T1 α) := fun s1 k Q q =>
  we_of (pe_tup pa_wa) (h s1 k _ fun vs s2 k2 r2 => by
    obtain ⟨v1, _, rfl, r1, rfl⟩ := r2
    refine ⟨show _ ≤ 2 ^ 24 by simp, fun p hp => q _ (s2.newF p _ hp) (k2.trans (Ex.newF hp)) ⟨p, v1, rfl, tup_new hp, Enc.mono (Ex.newF hp).f r1⟩⟩)
theorem ev_t2 {x : α} {y : β} {n} (h : EvA X es σ s (x, y, ())) : Ev X (.Tuple es n pos) σ s (x, y) := fun s1 k Q q =>
  we_of (pe_tup pa_wa) (h s1 k _ fun vs s2 k2 r2 => by
    obtain ⟨v1, _, rfl, r1, v2, _, rfl, r2, rfl⟩ := r2
    refine ⟨show _ ≤ 2 ^ 24 by simp, fun p hp => q _ (s2.newF p _ hp) (k2.trans (Ex.newF hp)) ⟨p, v1, v2, rfl, tup_new hp, Enc.mono (Ex.newF hp).f r1, Enc.mono (Ex.newF hp).f r2⟩⟩)
theorem ev_t3 {x : α} {y : β} {z : γ} {n} (h : EvA X es σ s (x, y, z, ())) : Ev X (.Tuple es n pos) σ s (⟨x, y, z⟩ : T3 α β γ) := fun s1 k Q q =>
  we_of (pe_tup pa_wa) (h s1 k _ fun vs s2 k2 r2 => by
    obtain ⟨v1, _, rfl, r1, v2, _, rfl, r2, v3, _, rfl, r3, rfl⟩ := r2
    refine ⟨show _ ≤ 2 ^ 24 by simp, fun p hp => q _ (s2.newF p _ hp) (k2.trans (Ex.newF hp)) ⟨p, v1, v2, v3, rfl, tup_new hp, Enc.mono (Ex.newF hp).f r1, Enc.mono (Ex.newF hp).f r2, Enc.mono (Ex.newF hp).f r3⟩⟩)
theorem ev_t4 {x : α} {y : β} {z : γ} {u : δ} {n} (h : EvA X es σ s (x, y, z, u, ())) : Ev X (.Tuple es n pos) σ s (⟨x, y, z, u⟩ : T4 α β γ δ) := fun s1 k Q q =>
  we_of (pe_tup pa_wa) (h s1 k _ fun vs s2 k2 r2 => by
    obtain ⟨v1, _, rfl, r1, v2, _, rfl, r2, v3, _, rfl, r3, v4, _, rfl, r4, rfl⟩ := r2
    refine ⟨show _ ≤ 2 ^ 24 by simp, fun p hp => q _ (s2.newF p _ hp) (k2.trans (Ex.newF hp)) ⟨p, v1, v2, v3, v4, rfl, tup_new hp, Enc.mono (Ex.newF hp).f r1, Enc.mono (Ex.newF hp).f r2, Enc.mono (Ex.newF hp).f r3, Enc.mono (Ex.newF hp).f r4⟩⟩)
theorem ev_t5 {x : α} {y : β} {z : γ} {u : δ} {w : ζ} {n} (h : EvA X es σ s (x, y, z, u, w, ())) : Ev X (.Tuple es n pos) σ s (⟨x, y, z, u, w⟩ : T5 α β γ δ ζ) := fun s1 k Q q =>
  we_of (pe_tup pa_wa) (h s1 k _ fun vs s2 k2 r2 => by
    obtain ⟨v1, _, rfl, r1, v2, _, rfl, r2, v3, _, rfl, r3, v4, _, rfl, r4, v5, _, rfl, r5, rfl⟩ := r2
    refine ⟨show _ ≤ 2 ^ 24 by simp, fun p hp => q _ (s2.newF p _ hp) (k2.trans (Ex.newF hp)) ⟨p, v1, v2, v3, v4, v5, rfl, tup_new hp, Enc.mono (Ex.newF hp).f r1, Enc.mono (Ex.newF hp).f r2, Enc.mono (Ex.newF hp).f r3, Enc.mono (Ex.newF hp).f r4, Enc.mono (Ex.newF hp).f r5⟩⟩)

theorem en_T1 {n : Str} {T : String} {r : List V → Hp → VK → Prop} {xs : List β} {ys : List α} (hc : CallR X (.type T) r) (hg : Gl X n) (hm : X.mg n = none) (hv : bootBuiltins n = some (.type T)) (ha : EvR X e σ s xs)
    (hr : ∀ (v : V) (s2 : S), RepR X.K s2 v xs → ∀ Q : VK, (∀ p s3, Ex s2 s3 → s2.H p = none → Own X.K s3 p ys → Q (.ref p) s3.H) → r [v] s2.H Q) (hn : n ≠ "__name__" := by decide) (hdb : (n == ("__debug__" : Str)) = false := by decide)
    (he : starEach [e] X.env = (false, eval e X.env) :: starEach [] X.env := by rfl) (hpl : (backTo pos (starEach [] X.env)).any (·.1) = false := by rfl) : EvN X (.Call (.Name n p0) [e] [] pos) σ s ys := fun s1 k Q q =>
  we_of (pe_callTy hc hg hm hv (pa_cons pe_we pa_nil he) hn hdb he hpl) (ha s1 k _ fun v s2 k2 r2 => hr v s2 r2 Q fun w s3 k3 n3 r3 => q w s3 (k2.trans k3) (fr_back k2 n3) r3)
theorem en_copy {xs : List α} (hm : X.mg "list" = none) (ha : EvR X e σ s xs) (hg : Gl X "list" := by rfl) (he : starEach [e] X.env = (false, eval e X.env) :: starEach [] X.env := by rfl) (hpl : (backTo pos (starEach [] X.env)).any (·.1) = false := by rfl) : EvN X (.Call (.Name "list" p0) [e] [] pos) σ s xs :=
  en_T1 call_list_of hg hm (by decide +kernel) ha (fun v s2 r2 Q q => by
    obtain ⟨p, vs, rfl, h1, h2⟩ := r2
    exact ⟨p, vs, rfl, .inl h1, fun l hl => q l (s2.newO l _ hl) (Ex.newO hl) hl (own_new hl h2)⟩) (he := he) (hpl := hpl)
theorem en_copyT {xs : Tu α} (hm : X.mg "list" = none) (ha : Ev X e σ s xs) (hg : Gl X "list" := by rfl) (he : starEach [e] X.env = (false, eval e X.env) :: starEach [] X.env := by rfl) (hpl : (backTo pos (starEach [] X.env)).any (·.1) = false := by rfl) : EvN X (.Call (.Name "list" p0) [e] [] pos) σ s xs.l := fun s1 k Q q =>
  we_of (pe_callTy call_list_of hg hm (by decide +kernel) (pa_cons pe_we pa_nil he) (he := he) (hpl := hpl)) (ha s1 k _ fun v s2 k2 r2 => by
    obtain ⟨p, vs, rfl, h1, h2⟩ := r2
    exact ⟨p, vs, rfl, .inr (sqt_mono s2.sub h1), fun l hl => q l (s2.newO l _ hl) (k2.trans (Ex.newO hl)) (fr_back k2 hl) (own_new hl h2)⟩)
theorem ev_tuple {xs : List α} (hm : X.mg "tuple" = none) (ha : EvR X e σ s xs) (hg : Gl X "tuple" := by rfl) (he : starEach [e] X.env = (false, eval e X.env) :: starEach [] X.env := by rfl) (hpl : (backTo pos (starEach [] X.env)).any (·.1) = false := by rfl) : Ev X (.Call (.Name "tuple" p0) [e] [] pos) σ s (⟨xs⟩ : Tu α) := fun s1 k Q q =>
  we_of (pe_callTy call_tuple_of hg hm (by decide +kernel) (pa_cons pe_we pa_nil he) (he := he) (hpl := hpl)) (ha s1 k _ fun v s2 k2 r2 => by
    obtain ⟨p, vs, rfl, h1, h2⟩ := r2
    exact ⟨p, vs, rfl, .inl ⟨h1, fun l hl => q _ (s2.newF l _ hl) (k2.trans (Ex.newF hl)) ⟨l, vs, rfl, tup_new hl, h2.mono (Ex.newF hl).f⟩⟩⟩)
theorem ev_tupleT {xs : Tu α} (hm : X.mg "tuple" = none) (ha : Ev X e σ s xs) (hg : Gl X "tuple" := by rfl) (he : starEach [e] X.env = (false, eval e X.env) :: starEach [] X.env := by rfl) (hpl : (backTo pos (starEach [] X.env)).any (·.1) = false := by rfl) : Ev X (.Call (.Name "tuple" p0) [e] [] pos) σ s xs := fun s1 k Q q =>
  we_of (pe_callTy call_tuple_of hg hm (by decide +kernel) (pa_cons pe_we pa_nil he) (he := he) (hpl := hpl)) (ha s1 k _ fun v s2 k2 r2 => by
    obtain ⟨p, vs, rfl, h1, h2⟩ := r2
    exact ⟨p, vs, rfl, .inr ⟨sqt_mono s2.sub h1, q _ s2 k2 ⟨p, vs, rfl, h1, h2⟩⟩⟩)
def rng (a b : Int) : List Int := (List.range (b - a).toNat).map fun i : Nat => a + (i : Int)
theorem rgV_rng (a b : Int) : rgV a b = (rng a b).map V.int := by
  unfold rgV rng
  rw [List.map_map]; rfl
theorem en_listRg1 {n : Int} (hm : X.mg "list" = none) (hr : X.mg "range" = none) (ha : Ev X e σ s n) (hz : RgOk 0 n) (hc : X.calm = true := by rfl) (hg : Gl X "list" := by rfl) (hgr : Gl X "range" := by rfl)
    (he : starEach [e] X.env = (false, eval e X.env) :: starEach [] X.env := by rfl) (he2 : starEach [.Call (.Name "range" p1) [e] [] p2] X.env = (false, eval (.Call (.Name "range" p1) [e] [] p2) X.env) :: starEach [] X.env := by rfl) :
    EvN X (.Call (.Name "list" p0) [.Call (.Name "range" p1) [e] [] p2] [] pos) σ s (rng 0 n) := fun s1 k Q q =>
  we_of (pe_listRg hc hg hm (prg_1 hgr hr pe_we he) he2) (ha s1 k _ fun v s2 k2 r2 => ⟨n, r2, hz, fun l hl => q l (s2.newO l _ hl) (k2.trans (Ex.newO hl)) (fr_back k2 hl) (own_new hl (by rw [rgV_rng]; exact Reps.of_flat _))⟩)
theorem en_listRg2 {m n : Int} (hm : X.mg "list" = none) (hr : X.mg "range" = none) (ha : Ev X a σ s m) (hb : Ev X b σ s n) (hz : RgOk m n) (hc : X.calm = true := by rfl) (hg : Gl X "list" := by rfl) (hgr : Gl X "range" := by rfl)
    (he : starEach [a, b] X.env = (false, eval a X.env) :: starEach [b] X.env := by rfl) (heb : starEach [b] X.env = (false, eval b X.env) :: starEach [] X.env := by rfl) (hpl : (backTo p2 (starEach [b] X.env)).any (·.1) = false := by rfl)
    (he2 : starEach [.Call (.Name "range" p1) [a, b] [] p2] X.env = (false, eval (.Call (.Name "range" p1) [a, b] [] p2) X.env) :: starEach [] X.env := by rfl) :
    EvN X (.Call (.Name "list" p0) [.Call (.Name "range" p1) [a, b] [] p2] [] pos) σ s (rng m n) := fun s1 k Q q =>
  we_of (pe_listRg hc hg hm (prg_2 hgr hr pe_we pe_we he heb hpl) he2) (ha s1 k _ fun v s2 k2 r2 => hb s2 (k.trans k2) _ fun u s3 k3 r3 => ⟨m, n, r2, r3, hz, fun l hl => q l (s3.newO l _ hl) ((k2.trans k3).trans (Ex.newO hl)) (fr_back (k2.trans k3) hl) (own_new hl (by rw [rgV_rng]; exact Reps.of_flat _))⟩)
def cut {τ : Type} (xs : List τ) (lo hi : Option Int) : List τ := (xs.drop (HT.sIx xs.length 0 lo)).take (HT.sIx xs.length xs.length hi - HT.sIx xs.length 0 lo)
theorem Reps.cut {K : PySem.W.Frag} {F : Hp} {vs : List V} {xs : List α} (r : Reps K F vs xs) (lo hi : Option Int) : Reps K F (cutV vs lo hi) (Dy.cut xs lo hi) := by
  unfold cutV Dy.cut
  rw [r.len]
  exact (r.drop _).take _
def EvO (X : Cx) (o : Option Expr) (σ : St) (s : S) (x : Option Int) : Prop := match o, x with
  | none, none => True
  | some e, some i => Ev X e σ s i
  | _, _ => False
theorem po_evo {o : Option Expr} {x : Option Int} (h : EvO X o σ s x) : ∃ t, PO X o t ∧ ∀ s1, Ex s s1 → ∀ Q : Option Int → Hp → Prop, (∀ s2, Ex s1 s2 → Q x s2.H) → t σ s1.H Q := by
  cases o with
  | none =>
    cases x with
    | none => exact ⟨_, po_none, fun s1 k Q q => q s1 (Ex.refl _)⟩
    | some i => exact h.elim
  | some e =>
    cases x with
    | none => exact h.elim
    | some i => exact ⟨_, po_some pe_we, fun s1 k Q q => (show Ev X e σ s i from h) s1 k _ fun v s2 k2 r2 => ⟨i, r2, q s2 k2⟩⟩
theorem eo_none : EvO X none σ s none := trivial
theorem eo_some {i : Int} (h : Ev X e σ s i) : EvO X (some e) σ s (some i) := h
theorem en_slice {xs : List α} {lo hi : Option Expr} {l h : Option Int} (ha : EvR X a σ s xs) (hl : EvO X lo σ s l) (hh : EvO X hi σ s h) : EvN X (.Subscript a (.Slice lo hi none p2) pos) σ s (cut xs l h) := fun s1 k Q q => by
  obtain ⟨tl, pl, ql⟩ := po_evo hl
  obtain ⟨th, ph, qh⟩ := po_evo hh
  refine we_of (pe_slice sl_list pe_we pl ph) (ha s1 k _ fun v s2 k2 r2 => ql s2 (k.trans k2) _ fun s3 k3 => qh s3 ((k.trans k2).trans k3) _ fun s4 k4 => ?_)
  obtain ⟨p, vs, rfl, h1, h2⟩ := (r2.ex k3).ex k4
  exact ⟨p, vs, rfl, h1, fun l hl => q l (s4.newO l _ hl) (((k2.trans k3).trans k4).trans (Ex.newO hl)) (fr_back ((k2.trans k3).trans k4) hl) (own_new hl (h2.cut _ _))⟩
theorem ev_sliceS {x : Str} {lo hi : Option Expr} {l h : Option Int} (hz : x.length ≤ sizeLine) (ha : Ev X a σ s x) (hl : EvO X lo σ s l) (hh : EvO X hi σ s h) : Ev X (.Subscript a (.Slice lo hi none p2) pos) σ s (cutS x l h) := fun s1 k Q q => by
  obtain ⟨tl, pl, ql⟩ := po_evo hl
  obtain ⟨th, ph, qh⟩ := po_evo hh
  exact we_of (pe_slice sl_str pe_we pl ph) (ha s1 k _ fun v s2 k2 r2 => ql s2 (k.trans k2) _ fun s3 k3 => qh s3 ((k.trans k2).trans k3) _ fun s4 k4 => ⟨x, r2, hz, q _ s4 ((k2.trans k3).trans k4) rfl⟩)
theorem op_catS : OpR X (binaryOp .Add) (fun x y H Q => ∃ l b xs zs, x = .ref l ∧ y = .ref b ∧ SqL X.K H l xs ∧ SqL X.K H b zs ∧ xs.length + zs.length ≤ sizeLine ∧ ∀ p, H p = none → Q (.ref p) (upd H p (.lst (xs ++ zs)))) := by
  intro pins s σ H x y v u Q I rx ry h
  obtain ⟨l, b, xs, zs, rfl, rfl, hH, hB, hz, q⟩ := h
  cases rx
  cases ry
  obtain ⟨its, r, ⟨⟨cls, dd, data, sl⟩, n, ho, hc, hd0, hd⟩, z1⟩ := I.list hH
  obtain ⟨its2, r2, ⟨⟨cls2, dd2, data2, sl2⟩, n2, ho2, hc2, hd02, hd2⟩, z2⟩ := I.list hB
  simp only at hc hd hc2 hd2 hd0 hd02
  subst hc hd hc2 hd2 hd0 hd02
  have e : its.toArray ++ its2.toArray = (its ++ its2).toArray := by simp
  have h1 := r.length
  have h2 := r2.length
  refine concat_meets ⟨_, ho, rfl⟩ ⟨_, ho2, rfl⟩ noFill_list_add seq_list_add PySem.F.slot_list_add PySem.F.entry_list_add (PySem.F.args_list_add_2 _ _) (list_addW l b its.toArray its2.toArray n n2 none none sl sl2 (by rw [List.size_toArray, List.size_toArray]; omega)) ⟨ho, ho2, ?_⟩
  rw [e]
  exact ⟨.ref _, _, I.lnew (t' := s.toks) (r.append r2) (by rw [List.length_append]; omega), rfl, q _ I.fresh⟩
theorem en_cat {xs ys : List α} (ha : EvR X a σ s xs) (hb : EvR X b σ s ys) (hz : xs.length + ys.length ≤ sizeLine) : EvN X (.BinOp a .Add b pos) σ s (xs ++ ys) := fun s1 k Q q =>
  we_of (pe_op op_catS pe_we pe_we) (ha s1 k _ fun v s2 k2 r2 => hb s2 (k.trans k2) _ fun u s3 k3 r3 => by
    obtain ⟨p, vs, rfl, h1, h2⟩ := r2.ex k3
    obtain ⟨p', ws, rfl, h3, h4⟩ := r3
    exact ⟨p, p', vs, ws, rfl, rfl, h1, h3, by rw [h2.len, h4.len]; exact hz, fun l hl => q l (s3.newO l _ hl) ((k2.trans k3).trans (Ex.newO hl)) (fr_back (k2.trans k3) hl) (own_new hl (h2.app h4))⟩)
def repl {τ : Type} (n : Int) (xs : List τ) : List τ := (List.replicate n.toNat xs).flatten
theorem Reps.repF {K : PySem.W.Frag} {F : Hp} {vs : List V} {xs : List α} (r : Reps K F vs xs) (n : Nat) : Reps K F (List.replicate n vs).flatten (List.replicate n xs).flatten := by
  induction n with
  | zero => exact trivial
  | succ n ih => rw [List.replicate_succ, List.replicate_succ, List.flatten_cons, List.flatten_cons]; exact r.app ih
def RepOk (n : Int) (l : Nat) : Prop := -(2 ^ 63) ≤ n ∧ n < 2 ^ 63 ∧ l * n.toNat ≤ sizeLine
theorem en_rep {xs : List α} {n : Int} (ha : EvN X a σ s xs) (hb : ∀ t, Ex s t → Ev X b σ t n) (hz : RepOk n xs.length) : EvN X (.BinOp a .Mult b pos) σ s (repl n xs) := fun s1 k Q q =>
  we_of (pe_op op_rep pe_we pe_we) (ha s1 k _ fun p s2 k2 n2 o2 => hb s2 (k.trans k2) s2 (Ex.refl _) _ fun u s3 k3 r3 => by
    obtain ⟨_, vs, h1, h2⟩ := o2.ex k3
    exact ⟨p, n, vs, rfl, r3, h1, hz.1, hz.2.1, by rw [h2.len]; exact hz.2.2, fun l hl => q l (s3.newO l _ hl) ((k2.trans k3).trans (Ex.newO hl)) (fr_back (k2.trans k3) hl) (own_new hl (h2.repF _))⟩)
theorem en_sorted {xs : List Int} (hm : X.mg "sorted" = none) (ha : EvR X e σ s xs) (hg : Gl X "sorted" := by rfl) (he : starEach [e] X.env = (false, eval e X.env) :: starEach [] X.env := by rfl) (hpl : (backTo pos (starEach [] X.env)).any (·.1) = false := by rfl) :
    EvN X (.Call (.Name "sorted" p0) [e] [] pos) σ s (xs.mergeSort (fun x y => decide (x ≤ y))) := fun s1 k Q q =>
  we_of (pe_callB cr_sortedI hg hm (by decide +kernel) (pa_cons pe_we pa_nil he) (he := he) (hpl := hpl)) (ha s1 k _ fun v s2 k2 r2 => by
    obtain ⟨p, vs, rfl, h1, h2⟩ := r2
    rw [h2.flat] at h1
    refine ⟨p, xs, rfl, h1, fun ys l hp hs hl => ?_⟩
    have e1 : ys = xs.mergeSort (fun x y => decide (x ≤ y)) := by
      refine List.Perm.eq_of_pairwise (le := fun x y : Int => x ≤ y) (fun a b _ _ h h' => Int.le_antisymm h h') hs ?_ (hp.trans (List.mergeSort_perm _ _).symm)
      have := List.pairwise_mergeSort (le := fun x y : Int => decide (x ≤ y)) (fun a b c h1 h2 => by simp at *; omega) (fun a b => by simp; omega) xs
      exact this.imp (by simp)
    subst e1
    exact q l (s2.newO l _ hl) (k2.trans (Ex.newO hl)) (fr_back k2 hl) (own_new hl (Reps.of_flat _)))
theorem en_split {x y : Str} (ha : Ev X a σ s x) (hb : Ev X b σ s y) (h1 : (y.length == 0) = false) (h2 : x.length + 2 ≤ sizeLine) (hs : starEach [b] X.env = [(false, eval b X.env)] := by rfl) (hbase : attributeBase a "split" X.env (eval a X.env) = eval a X.env := by rfl) (hline : (p1.endLine == pos.line) = true := by rfl) :
    EvN X (.Call (.Attribute a "split" p1) [b] [] pos) σ s (Txt.split x y) := fun s1 k Q q =>
  we_of (pe_split pe_we pe_we hs hbase hline) (ha s1 k _ fun v s2 k2 r2 => ⟨⟨x, r2⟩, hb s2 (k.trans k2) _ fun u s3 k3 r3 => ⟨x, y, r2, by rw [show u = V.str y from r3], h1, h2, fun l hl =>
    q l (s3.newO l _ hl) ((k2.trans k3).trans (Ex.newO hl)) (fr_back (k2.trans k3) hl) (own_new hl (Reps.of_flat _))⟩⟩)
def JnOk (x : Str) (ys : List Str) : Prop := (ys.map (·.length)).sum + ys.length * x.length ≤ 16777216
theorem ev_join {x : Str} {ys : List Str} (ha : Ev X a σ s x) (hb : EvR X b σ s ys) (h : JnOk x ys) (hs : starEach [b] X.env = [(false, eval b X.env)] := by rfl) (hbase : attributeBase a "join" X.env (eval a X.env) = eval a X.env := by rfl) (hline : (p1.endLine == pos.line) = true := by rfl) :
    Ev X (.Call (.Attribute a "join" p1) [b] [] pos) σ s (Txt.join x ys) := fun s1 k Q q =>
  we_of (pe_join pe_we pe_we hs hbase hline) (ha s1 k _ fun v s2 k2 r2 => ⟨⟨x, r2⟩, hb s2 (k.trans k2) _ fun u s3 k3 r3 => by
    obtain ⟨p, vs, rfl, h1, h2⟩ := r3
    obtain rfl := h2.flat
    exact ⟨x, p, ys, r2, rfl, .inl h1, h, q _ s3 (k2.trans k3) rfl⟩⟩)
def ixOf {τ : Type} [DecidableEq τ] (x : τ) : List τ → Option Nat
  | [] => none
  | y :: ys => if y = x then some 0 else (ixOf x ys).map (· + 1)
theorem ixOf_some {τ : Type} [DecidableEq τ] {x : τ} : ∀ {ys : List τ} {j : Nat}, ixOf x ys = some j → ys[j]? = some x ∧ ∀ m z, m < j → ys[m]? = some z → z ≠ x
  | [], _, h => by cases h
  | y :: ys, j, h => by
    unfold ixOf at h
    split at h
    · rename_i e; cases h; exact ⟨by simp [e], fun m z hm => absurd hm (Nat.not_lt_zero _)⟩
    · rename_i e
      obtain ⟨i, h1, rfl⟩ := Option.map_eq_some_iff.mp h
      obtain ⟨h2, h3⟩ := ixOf_some h1
      refine ⟨by simpa using h2, fun m z hm hz => ?_⟩
      cases m with
      | zero => simp at hz; subst hz; exact e
      | succ m => exact h3 m z (by omega) (by simpa using hz)
theorem ev_index {ε : Type} [Eqs ε] [DecidableEq ε] {x : ε} {xs : List ε} {j : Nat} (ha : EvR X a σ s xs) (hb : Ev X b σ s x) (h : ixOf x xs = some j)
    (hbase : attributeBase a "index" X.env (eval a X.env) = eval a X.env := by rfl)
    (hfew : ((backTo pos (starEach [b] X.env)).all (fun x => !x.1) && (backToKw pos (keywordEach [] X.env)).all (fun x => x.1.isSome) && decide (([b] : List Expr).length + ([] : List Keyword).length + (if ([] : List Keyword).isEmpty then 0 else 1) < 30)) = true := by rfl)
    (hline : (p1.endLine == pos.line) = true := by rfl) (hs : starEach [b] X.env = (false, eval b X.env) :: starEach [] X.env := by rfl) (hplain : (backTo pos (starEach [] X.env)).any (·.1) = false := by rfl) :
    Ev X (.Call (.Attribute a "index" p1) [b] [] pos) σ s (j : Int) := fun s1 k Q q =>
  we_of (pe_bm PySem.F.plainAttrs_list PySem.F.slot_list_index PySem.F.type_list_index mt_index pe_we (pa_cons pe_we pa_nil hs) hbase hfew hline hs hplain) (ha s1 k _ fun v s2 k2 r2 => by
    obtain ⟨p, vs, rfl, h1, h2⟩ := r2
    obtain rfl := h2.flat
    refine ⟨.inl ⟨rfl, _, h1⟩, hb s2 (k.trans k2) _ fun u s3 k3 r3 => ?_⟩
    rw [Flat.iff.mp r3]
    obtain ⟨h3, h4⟩ := ixOf_some h
    refine ⟨p, _, toV x, j, toV x, rfl, rfl, sql_mono k3.h h1, Flat.flat x, flat_all xs, by rw [List.getElem?_map, h3]; rfl, (Flat.inj x x).mpr rfl, fun m z hm hz => ?_, q _ s3 (k2.trans k3) rfl⟩
    rw [List.getElem?_map] at hz
    obtain ⟨y, h5, rfl⟩ := Option.map_eq_some_iff.mp hz
    exact Bool.eq_false_iff.mpr fun z => h4 m y hm h5 ((Flat.inj y x).mp z))

structure Cal (P : Program) (w : World) (K : PySem.W.Frag) (mg : Str → Option Value) (base : Heap) (CX : CXT) (k : Nat) (x : Str) (q : Sp) : Prop where
  ex : ∃ (f : Addr) (fd : FuncData) (ps : List Str), FnOk P w K mg base CX k f fd ps q ∧ mg x = some (.ref f) ∧ PySem.W.keepIn K (.ref f) = true ∧ Binds K fd ps []
theorem pe_c0 {n : Str} {k j : Nat} {q : Sp} {ta : TA} (C : Cal X.prog X.w X.K X.mg X.base CX0 k n q) (hr : Room j X.A) (hk : k ≤ j) (hg : Gl X n) (ha : PA X (e :: es) ta) (hdb : (n == ("__debug__" : Str)) = false := by decide)
    (he : starEach (e :: es) X.env = (false, eval e X.env) :: starEach es X.env := by rfl) (hpl : (backTo pos (starEach es X.env)).any (·.1) = false := by rfl) : PE X (.Call (.Name n p0) (e :: es) [] pos) (tCall q [] E0 ta) := by
  obtain ⟨f, fd, ps, F, hm, kp, b⟩ := C.ex
  exact pe_call F (hr.mono hk) hg hm kp b .nil pass0 ha hdb he hpl
def sp {A : Type} [EncA A] {ρ : Type} [Enc ρ] (K : PySem.W.Frag) (m : A → Option ρ) : Sp := fun vs H Q _ => ∃ (s : S) (x : A) (r : ρ), s.H = H ∧ repA K s.F vs x ∧ m x = some r ∧ ∀ v s', Ex s s' → rep K s'.F v r → Q v s'.H
def spN {A : Type} [EncA A] {ρ : Type} [Enc ρ] (K : PySem.W.Frag) (m : A → Option (List ρ)) : Sp := fun vs H Q _ => ∃ (s : S) (x : A) (r : List ρ), s.H = H ∧ repA K s.F vs x ∧ m x = some r ∧ ∀ p s', Ex s s' → s.H p = none → Own K s' p r → Q (.ref p) s'.H
theorem ev_call {A : Type} [EncA A] {m : A → Option α} {n : Str} {k j : Nat} {x : A} {r : α} (C : Cal X.prog X.w X.K X.mg X.base CX0 k n (sp X.K m)) (hr : Room j X.A) (hk : k ≤ j) (ha : EvA X (e :: es) σ s x) (h : m x = some r) (hg : Gl X n := by rfl)
    (hdb : (n == ("__debug__" : Str)) = false := by decide) (he : starEach (e :: es) X.env = (false, eval e X.env) :: starEach es X.env := by rfl) (hpl : (backTo pos (starEach es X.env)).any (·.1) = false := by rfl) : Ev X (.Call (.Name n p0) (e :: es) [] pos) σ s r := fun s1 k1 Q q =>
  we_of (pe_c0 C hr hk hg pa_wa hdb he hpl) (ha s1 k1 _ fun vs s2 k2 r2 => ⟨s2, x, r, rfl, by rw [List.append_nil]; exact r2, h, fun v s3 k3 r3 => q v s3 (k2.trans k3) r3⟩)
theorem en_call {A : Type} [EncA A] {m : A → Option (List α)} {n : Str} {k j : Nat} {x : A} {r : List α} (C : Cal X.prog X.w X.K X.mg X.base CX0 k n (spN X.K m)) (hr : Room j X.A) (hk : k ≤ j) (ha : EvA X (e :: es) σ s x) (h : m x = some r) (hg : Gl X n := by rfl)
    (hdb : (n == ("__debug__" : Str)) = false := by decide) (he : starEach (e :: es) X.env = (false, eval e X.env) :: starEach es X.env := by rfl) (hpl : (backTo pos (starEach es X.env)).any (·.1) = false := by rfl) : EvN X (.Call (.Name n p0) (e :: es) [] pos) σ s r := fun s1 k1 Q q =>
  we_of (pe_c0 C hr hk hg pa_wa hdb he hpl) (ha s1 k1 _ fun vs s2 k2 r2 => ⟨s2, x, r, rfl, by rw [List.append_nil]; exact r2, h, fun v s3 k3 n3 r3 => q v s3 (k2.trans k3) (fr_back k2 n3) r3⟩)
end
end Dy

namespace Dy
open PySem PySem.Spec L2
open PyProof.Rows hiding St
open Enc (rep)
open Flat (toV)
open EncA (repA)

noncomputable def chk {α : Type} (c : Prop) (m : Option α) : Option α := open Classical in if c then m else none
theorem chk_pos {α : Type} {c : Prop} {m : Option α} (h : c) : chk c m = m := by unfold chk; exact if_pos h
theorem chkE {α : Type} {c : Prop} {m : Option α} {r : α} (h : chk c m = some r) : c ∧ m = some r := by
  unfold chk at h
  split at h
  · rename_i hc; exact ⟨hc, h⟩
  · cases h
def lt {α β : Type} (x : α) (f : α → Option β) : Option β := f x
theorem ltE {α β : Type} {x : α} {f : α → Option β} {r : β} (h : lt x f = some r) : ∃ y, y = x ∧ f y = some r := ⟨x, rfl, h⟩
abbrev bnd {α β : Type} (m : Option α) (f : α → Option β) : Option β := m.bind f
theorem bndE {α β : Type} {m : Option α} {f : α → Option β} {r : β} (h : bnd m f = some r) : ∃ y, m = some y ∧ f y = some r := by
  cases m with
  | none => cases h
  | some y => exact ⟨y, rfl, h⟩
theorem iteE1 {α : Type} {b : Bool} {m k : Option α} {r : α} (h : (if b = true then m else k) = some r) (e : b = true) : m = some r := by rw [if_pos e] at h; exact h
theorem iteE2 {α : Type} {b : Bool} {m k : Option α} {r : α} (h : (if b = true then m else k) = some r) (e : b = false) : k = some r := by rw [if_neg (by rw [e]; exact Bool.false_ne_true)] at h; exact h
def andO (a : Bool) (m : Option Bool) : Option Bool := if a = true then m else some false
def orO (a : Bool) (m : Option Bool) : Option Bool := if a = true then some true else m
theorem andE {a r : Bool} {m : Option Bool} (h : andO a m = some r) : (a = true → m = some r) ∧ (a = false → r = false) := by
  unfold andO at h
  cases a with
  | true => exact ⟨fun _ => h, fun z => Bool.noConfusion z⟩
  | false => exact ⟨fun z => Bool.noConfusion z, fun _ => (Option.some.inj h).symm⟩
theorem orE {a r : Bool} {m : Option Bool} (h : orO a m = some r) : (a = false → m = some r) ∧ (a = true → r = true) := by
  unfold orO at h
  cases a with
  | false => exact ⟨fun _ => h, fun z => Bool.noConfusion z⟩
  | true => exact ⟨fun z => Bool.noConfusion z, fun _ => (Option.some.inj h).symm⟩
inductive Fl (β ρ : Type) where
  | nx (b : β)
  | rt (r : ρ)
def foldO {α β : Type} (f : β → α → Option β) : β → List α → Option β
  | b, [] => some b
  | b, x :: r => (f b x).bind fun b' => foldO f b' r
def foldF {α β ρ : Type} (f : β → α → Option (Fl β ρ)) : β → List α → Option (Fl β ρ)
  | b, [] => some (.nx b)
  | b, x :: r => (f b x).bind fun o => match o with
    | .nx b' => foldF f b' r
    | .rt v => some (.rt v)
def whileO {β : Type} (c : β → Option Bool) (f : β → Option β) : Nat → β → Option β
  | 0, _ => none
  | n + 1, b => (c b).bind fun t => if t = true then (f b).bind fun b' => whileO c f n b' else some b
def whileF {β ρ : Type} (c : β → Option Bool) (f : β → Option (Fl β ρ)) : Nat → β → Option (Fl β ρ)
  | 0, _ => none
  | n + 1, b => (c b).bind fun t => if t = true then (f b).bind fun o => (match o with
    | .nx b' => whileF c f n b'
    | .rt v => some (.rt v)) else some (.nx b)
def compO {α β : Type} (t : α → Option Bool) (f : α → Option β) : List α → Option (List β)
  | [] => some []
  | x :: r => (t x).bind fun b => if b = true then (f x).bind fun y => (compO t f r).bind fun ys => some (y :: ys) else compO t f r
theorem compO_pure {α β : Type} (t : α → Bool) (f : α → β) : ∀ xs : List α, compO (fun x => some (t x)) (fun x => some (f x)) xs = some ((xs.filter t).map f)
  | [] => rfl
  | x :: r => by
    unfold compO
    rw [Option.bind_some, compO_pure t f r, List.filter_cons]
    split
    · rfl
    · rfl
theorem compO_map {α β : Type} (f : α → β) : ∀ xs : List α, compO (fun _ => some true) (fun x => some (f x)) xs = some (xs.map f)
  | [] => rfl
  | x :: r => by
    unfold compO
    rw [Option.bind_some, compO_map f r]
    rfl
def mapO {α β : Type} (f : α → Option β) (xs : List α) : Option (List β) := compO (fun _ => some true) f xs

def WI (X : Cx) (tg iter : Expr) : TI := fun σ H R => Hold (∀ (pins : List (Addr × Obj)) (s : Shared), Inv X pins σ H s →
  wpAny (model X.prog X.w) X.A (eval iter X.env) (fun v s1 => wpAny (model X.prog X.w) X.A (pyIter v) (PIE X pins σ tg R) X.xe s1) X.xe s)
theorem pi_wi {X : Cx} {tg iter : Expr} : PI X tg iter (WI X tg iter) := ⟨fun pins s _ _ _ I h => Hold.run h pins s I⟩
theorem wi_of {X : Cx} {tg iter : Expr} {t : TI} {σ : St} {H : Hp} {R : It → Hp → Prop} (h : PI X tg iter t) (q : t σ H R) : WI X tg iter σ H R := Hold.mk fun pins s I => h.run pins s σ H R I q
section
variable {α β γ δ : Type} [Enc α] [Enc β] [Enc γ] [Enc δ] {X : Cx} {σ : St} {s t : S} {e a b c tg : Expr} {es : List Expr} {pos p0 p1 p2 p3 : Pos}
structure Walk (K : PySem.W.Frag) (F : Hp) (J : It) (xs : List α) : Prop where
  go : ∀ (i : Nat) (t : S) (x : α), Fle F t.F → xs[i]? = some x → J.go i t.H ∧ ∀ v H', J.yld i t.H v H' → ∃ t' : S, t'.H = H' ∧ Ex t t' ∧ rep K t'.F v x
  stop : ∀ (i : Nat) (t : S), Fle F t.F → xs.length ≤ i → J.stop i t.H
def EvI (X : Cx) (tg e : Expr) (σ : St) (s : S) (xs : List α) : Prop := ∀ s1, Ex s s1 → ∀ R : It → Hp → Prop, (∀ J s2, Ex s1 s2 → Walk X.K s2.F J xs → R J s2.H) → WI X tg e σ s1.H R
theorem ei_list {xs : List α} (h : Ev X e σ s xs) : EvI X tg e σ s xs := fun s1 k R q =>
  wi_of (pi_list pe_we) (h s1 k _ fun v s2 k2 r2 => by
    obtain ⟨p, vs, rfl, h1, h2⟩ := r2
    refine ⟨p, rfl, ⟨vs, sql_mono s2.sub h1⟩, q _ s2 k2 ⟨fun i t x f hx => ?_, fun i t f hi => ⟨vs, sql_mono t.sub (sql_mono f h1), by rw [h2.len]; exact hi⟩⟩⟩
    obtain ⟨v, h3, h4⟩ := h2.get hx
    refine ⟨⟨vs, v, sql_mono t.sub (sql_mono f h1), h3⟩, fun w H' ⟨e1, hy⟩ => ⟨t, e1.symm, Ex.refl _, ?_⟩⟩
    have := hy vs (sql_mono t.sub (sql_mono f h1))
    rw [h3] at this
    cases this
    exact Enc.mono f h4)
theorem ei_tup {xs : Tu α} (h : Ev X e σ s xs) : EvI X tg e σ s xs.l := fun s1 k R q =>
  wi_of (pi_tup pe_we) (h s1 k _ fun v s2 k2 r2 => by
    obtain ⟨p, vs, rfl, h1, h2⟩ := r2
    refine ⟨p, rfl, ⟨vs, sqt_mono s2.sub h1⟩, q _ s2 k2 ⟨fun i t x f hx => ?_, fun i t f hi => ⟨vs, sqt_mono t.sub (sqt_mono f h1), by rw [h2.len]; exact hi⟩⟩⟩
    obtain ⟨v, h3, h4⟩ := h2.get hx
    refine ⟨⟨vs, v, sqt_mono t.sub (sqt_mono f h1), h3⟩, fun w H' ⟨e1, hy⟩ => ⟨t, e1.symm, Ex.refl _, ?_⟩⟩
    have := hy vs (sqt_mono t.sub (sqt_mono f h1))
    rw [h3] at this
    cases this
    exact Enc.mono f h4)
theorem rng_get {a b : Int} {i : Nat} {x : Int} (h : (rng a b)[i]? = some x) : i < (b - a).toNat ∧ x = a + (i : Int) := by
  unfold rng at h
  rw [List.getElem?_map] at h
  obtain ⟨j, h1, rfl⟩ := Option.map_eq_some_iff.mp h
  obtain ⟨h2, h3⟩ := List.getElem?_eq_some_iff.mp h1
  rw [List.length_range] at h2
  rw [List.getElem_range] at h3
  subst h3
  exact ⟨h2, rfl⟩
theorem rng_len (a b : Int) : (rng a b).length = (b - a).toNat := by unfold rng; rw [List.length_map, List.length_range]
theorem walk_rng {K : PySem.W.Frag} {F : Hp} {a b : Int} : Walk K F (Itr a (b - a).toNat) (rng a b) :=
  ⟨fun i t x f hx => ⟨(rng_get hx).1, fun v H' ⟨e1, e2⟩ => ⟨t, e1.symm, Ex.refl _, by rw [e2, (rng_get hx).2]; rfl⟩⟩, fun i t f hi => by rw [rng_len] at hi; exact hi⟩
def RgB (x : Int) : Prop := -(2 ^ 62) ≤ x ∧ x < 2 ^ 62
theorem ei_range1 {n : Int} (hm : X.mg "range" = none) (h : Ev X e σ s n) (hb : RgB n) (hg : Gl X "range" := by rfl) (hs : starEach [e] X.env = [(false, eval e X.env)] := by rfl) (hs2 : starEach [e] X.env = (false, eval e X.env) :: starEach [] X.env := by rfl) :
    EvI X tg (.Call (.Name "range" p0) [e] [] pos) σ s (rng 0 n) := fun s1 k R q =>
  wi_of (pi_range1 hg hm (pa_cons pe_we pa_nil hs2) hs) (h s1 k _ fun v s2 k2 r2 => ⟨n, by rw [show v = V.int n from r2], hb.1, hb.2, q _ s2 k2 (by
    have := walk_rng (K := X.K) (F := s2.F) (a := 0) (b := n)
    rw [Int.sub_zero] at this
    exact this)⟩)
theorem ei_range2 {m n : Int} (hm : X.mg "range" = none) (ha : Ev X a σ s m) (hb : Ev X b σ s n) (h1 : RgB m) (h2 : RgB n) (hg : Gl X "range" := by rfl) (hs : starEach [a, b] X.env = [(false, eval a X.env), (false, eval b X.env)] := by rfl) (hs2 : starEach [b] X.env = [(false, eval b X.env)] := by rfl)
    (hs3 : starEach [a, b] X.env = (false, eval a X.env) :: starEach [b] X.env := by rfl) (hs4 : starEach [b] X.env = (false, eval b X.env) :: starEach [] X.env := by rfl) :
    EvI X tg (.Call (.Name "range" p0) [a, b] [] pos) σ s (rng m n) := fun s1 k R q =>
  wi_of (pi_range2 hg hm (pa_cons pe_we (pa_cons pe_we pa_nil hs4) hs3) hs hs2) (ha s1 k _ fun v s2 k2 r2 => hb s2 (k.trans k2) _ fun u s3 k3 r3 => ⟨m, n, by rw [show v = V.int m from r2, show u = V.int n from r3], ⟨h1.1, h1.2, h2.1, h2.2⟩, q _ s3 (k2.trans k3) walk_rng⟩)
def chars (x : Str) : List Str := x.cps.toList.map fun c => ⟨#[c]⟩
theorem ei_str {x : Str} (h : Ev X e σ s x) : EvI X tg e σ s (chars x) := fun s1 k R q =>
  wi_of (pi_str pe_we) (h s1 k _ fun v s2 k2 r2 => ⟨x, r2, q _ s2 k2 ⟨fun i t y f hy => by
    unfold chars at hy
    rw [List.getElem?_map] at hy
    obtain ⟨c, h1, rfl⟩ := Option.map_eq_some_iff.mp hy
    have h1' : x.cps[i]? = some c := by simpa using h1
    refine ⟨?_, fun v H' ⟨e1, d, h2, h3⟩ => ⟨t, e1.symm, Ex.refl _, ?_⟩⟩
    · obtain ⟨z, _⟩ := Array.getElem?_eq_some_iff.mp h1'
      exact z
    · rw [h1'] at h2
      cases h2
      exact h3, fun i t f hi => by
    unfold chars at hi
    rw [List.length_map, Array.length_toList] at hi
    exact hi⟩⟩)
end

structure Tgt {α : Type} [Enc α] (K : PySem.W.Frag) (g : TG) (B : Hp → α → St → St → Prop) : Prop where
  run : ∀ (t : S) (v : V) (x : α) (σ : St) (Q : St → Hp → Prop), rep K t.F v x → (∀ σ2, B t.F x σ σ2 → Q σ2 t.H) → g v σ t.H Q
def BN {α : Type} [Enc α] (K : PySem.W.Frag) (j : Nat) : Hp → α → St → St → Prop := fun F x σ σ2 => ∃ v, rep K F v x ∧ σ2 = σ.set j (some v)
def B2 {α β : Type} [Enc α] [Enc β] (K : PySem.W.Frag) (i j : Nat) : Hp → α × β → St → St → Prop := fun F x σ σ2 => ∃ v w, rep K F v x.1 ∧ rep K F w x.2 ∧ σ2 = (σ.set i (some v)).set j (some w)
def B3 {α β γ : Type} [Enc α] [Enc β] [Enc γ] (K : PySem.W.Frag) (i j k : Nat) : Hp → T3 α β γ → St → St → Prop := fun F x σ σ2 => ∃ v w u, rep K F v x.a ∧ rep K F w x.b ∧ rep K F u x.c ∧ σ2 = ((σ.set i (some v)).set j (some w)).set k (some u)
theorem tg_n {α : Type} [Enc α] {K : PySem.W.Frag} {j : Nat} : Tgt (α := α) K (gName j) (BN K j) := ⟨fun t v x σ Q r h => h _ ⟨v, r, rfl⟩⟩
theorem tg_2 {α β : Type} [Enc α] [Enc β] {K : PySem.W.Frag} {i j : Nat} : Tgt (α := α × β) K (gTup K 2 (gCons (gName i) (gCons (gName j) gNil))) (B2 K i j) := ⟨fun t v x σ Q r h => by
  obtain ⟨p, v1, v2, rfl, h0, h1, h2⟩ := r
  exact ⟨p, _, rfl, sqt_mono t.sub h0, rfl, v1, _, rfl, v2, _, rfl, rfl, h _ ⟨v1, v2, h1, h2, rfl⟩⟩⟩
theorem tg_3 {α β γ : Type} [Enc α] [Enc β] [Enc γ] {K : PySem.W.Frag} {i j k : Nat} : Tgt (α := T3 α β γ) K (gTup K 3 (gCons (gName i) (gCons (gName j) (gCons (gName k) gNil)))) (B3 K i j k) := ⟨fun t v x σ Q r h => by
  obtain ⟨p, v1, v2, v3, rfl, h0, h1, h2, h3⟩ := r
  exact ⟨p, _, rfl, sqt_mono t.sub h0, rfl, v1, _, rfl, v2, _, rfl, v3, _, rfl, rfl, h _ ⟨v1, v2, v3, h1, h2, h3, rfl⟩⟩⟩

section
variable {α β : Type} [Enc α] [Enc β] {X : Cx} {σ : St} {s : S} {elt tg iter c : Expr} {ifs : List Expr} {scope : Scope} {own : List (Str × Nat)} {pos : Pos}
abbrev Blk (X : Cx) (scope : Scope) (s0 : Shared) (H0 : Hp) (C : Addr) (cl : List (Str × Addr)) (fp : List Addr) : Cx := X.blk s0 H0 scope (compEnvC scope cl C X.env) fp
theorem comp_read {xs : List α} {ys : List β} {t : α → Option Bool} {f : α → Option β} {g : TG} {B : Hp → α → St → St → Prop} {tt : TT} (hc : X.calm = true) (hN : X.N.Nodup) (hi : EvI X tg iter σ s xs) (ok : BlkOk X.N X.env.scope scope own)
    (hg : ∀ s0 H0 C cl fp, PG (Blk X scope s0 H0 C cl fp) tg g) (T : Tgt (α := α) X.K g B) (htt : ∀ s0 H0 C cl fp, PTs (Blk X scope s0 H0 C cl fp) ifs tt) (hf : compO t f xs = some ys) (hz : ys.length ≤ sizeLine)
    (hw : ∀ (F : Hp) (x : α) σ2, B F x (wipe σ (own.map (·.2))) σ2 → wipe σ2 (own.map (·.2)) = wipe σ (own.map (·.2)))
    (ht : ∀ (x : α) (b : Bool) (s1 : S) (σ2 : St) (Q : Bool → Hp → Prop), x ∈ xs → Ex s s1 → B s1.F x (wipe σ (own.map (·.2))) σ2 → t x = some b → (∀ s2, Ex s1 s2 → Q b s2.H) → tt σ2 s1.H Q)
    (he : ∀ (x : α) (y : β) (s1 : S) (σ2 : St), x ∈ xs → Ex s s1 → B s1.F x (wipe σ (own.map (·.2))) σ2 → t x = some true → f x = some y → ∀ s0 H0 C cl fp, Ev (Blk X scope s0 H0 C cl fp) elt σ2 s1 y)
    (s1 : S) (k : Ex s s1) (Q : VK) (q : ∀ p s2, Ex s1 s2 → s1.H p = none → Own X.K s2 p ys → Q (.ref p) s2.H) : tLc (WI X tg iter) g tt (fun σ H Q => ∀ s0 H0 C cl fp, WE (Blk X scope s0 H0 C cl fp) elt σ H Q) (own.map (·.2)) σ s1.H Q := by
  refine hi s1 k _ fun J s2 k2 W => ?_
  intro D hD
  refine ⟨fun i m H => ∃ (u : S) (pre : List β) (vs : List V), u.H = H ∧ m = xs.length - i ∧ Ex s2 u ∧ u.F D = none ∧ u.H D = some (.lst vs) ∧ Reps X.K u.F vs pre ∧ (∃ suf, compO t f (xs.drop i) = some suf ∧ pre ++ suf = ys), ⟨xs.length, s2.newO D (.lst []) hD, [], [], rfl, rfl, Ex.newO hD, (fF hD : s2.F D = none), upd_same, trivial, ys, hf, rfl⟩, ?_⟩
  rintro i m H ⟨u, pre, vs, rfl, rfl, ku, n1, n2, n3, suf, h1, h2⟩
  by_cases hi' : i < xs.length
  · right
    have hx : xs[i]? = some xs[i] := List.getElem?_eq_getElem hi'
    obtain ⟨g1, g2⟩ := W.go i u xs[i] ku.f hx
    refine ⟨g1, fun H' => ∃ m', m' < xs.length - i ∧ ∃ (u : S) (pre : List β) (vs : List V), u.H = H' ∧ m' = xs.length - (i + 1) ∧ Ex s2 u ∧ u.F D = none ∧ u.H D = some (.lst vs) ∧ Reps X.K u.F vs pre ∧ (∃ suf, compO t f (xs.drop (i + 1)) = some suf ∧ pre ++ suf = ys), fun H' z => z, fun v H' hy => ?_⟩
    obtain ⟨u', rfl, ku', rv⟩ := g2 v H' hy
    refine T.run u' v xs[i] _ _ rv fun σ2 hB => ⟨hw _ _ _ hB, ?_⟩
    rw [List.drop_eq_getElem_cons hi'] at h1
    unfold compO at h1
    cases hb : t xs[i] with
    | none => rw [hb] at h1; cases h1
    | some b =>
      rw [hb, Option.bind_some] at h1
      have mem : xs[i] ∈ xs := List.getElem_mem hi'
      have base : Ex s u' := (k.trans k2).trans (ku.trans ku')
      refine ht xs[i] b u' σ2 _ mem base hB hb fun u3 k3 => ?_
      have hlt : xs.length - (i + 1) < xs.length - i := by omega
      have kk : Ex u u3 := ku'.trans k3
      cases b with
      | false =>
        rw [if_neg Bool.false_ne_true] at h1 ⊢
        exact ⟨_, hlt, u3, pre, vs, rfl, rfl, ku.trans kk, kk.n _ _ n2 n1, kk.h _ _ n2, n3.mono kk.f, suf, h1, h2⟩
      | true =>
        rw [if_pos rfl] at h1 ⊢
        cases hfx : f xs[i] with
        | none => rw [hfx] at h1; cases h1
        | some y =>
          rw [hfx, Option.bind_some] at h1
          cases hr : compO t f (xs.drop (i + 1)) with
          | none => rw [hr] at h1; cases h1
          | some suf' =>
            rw [hr] at h1
            cases h1
            intro s0 H0 C cl fp
            refine he xs[i] y u' σ2 mem base hB hb hfx s0 H0 C cl fp u3 k3 _ fun w u4 k4 r4 => ?_
            have k5 : Ex u u4 := kk.trans k4
            have hD4 : u4.H D = some (.lst vs) := k5.h _ _ n2
            have hF4 : u4.F D = none := k5.n _ _ n2 n1
            have hlen : vs.length < sizeLine := by
              have e1 := n3.len
              have e2 : ys.length = pre.length + (suf'.length + 1) := by rw [← h2, List.length_append, List.length_cons]
              omega
            refine ⟨vs, hD4, hlen, _, hlt, u4.put D (.lst (vs ++ [w])) hF4, pre ++ [y], vs ++ [w], rfl, rfl, (ku.trans k5).mu1 (Mx.put hF4) hD, hF4, upd_same, (n3.mono k5.f).snoc r4, suf', rfl, by rw [List.append_assoc]; exact h2⟩
  · left
    have hd : xs.drop i = [] := List.drop_eq_nil_of_le (by omega)
    rw [hd] at h1
    cases h1
    refine ⟨W.stop i u ku.f (by omega), q D u (k2.trans ku) (fr_back k2 hD) ⟨n1, vs, n2, ?_⟩⟩
    rw [← h2, List.append_nil]
    exact n3
structure EvL (X : Cx) (elt tg iter : Expr) (ifs : List Expr) (scope : Scope) (σ : St) (s : S) (ys : List β) : Prop where
  calm : X.calm = true
  nd : X.N.Nodup
  fs : ∀ x, foldedSetIterable iter X.env x = pure x
  ex : ∃ (own : List (Str × Nat)) (g : TG) (tt : TT), BlkOk X.N X.env.scope scope own ∧ (∀ s0 H0 C cl fp, PG (Blk X scope s0 H0 C cl fp) tg g) ∧ (∀ s0 H0 C cl fp, PTs (Blk X scope s0 H0 C cl fp) ifs tt) ∧
    ∀ s1, Ex s s1 → ∀ Q : VK, (∀ p s2, Ex s1 s2 → s1.H p = none → Own X.K s2 p ys → Q (.ref p) s2.H) → tLc (WI X tg iter) g tt (fun σ H Q => ∀ s0 H0 C cl fp, WE (Blk X scope s0 H0 C cl fp) elt σ H Q) (own.map (·.2)) σ s1.H Q
theorem EvL.n {ys : List β} (h : EvL X elt tg iter ifs scope σ s ys) : EvN X (.ListComp elt [⟨tg, iter, ifs, 0⟩] scope pos) σ s ys := fun s1 k Q q => by
  obtain ⟨own, g, tt, h1, h2, h3, h4⟩ := h.ex
  exact we_of (pe_lc h.calm h.nd pi_wi h1 h2 h3 (fun s0 H0 C cl fp => pe_im fun _ _ _ h => h s0 H0 C cl fp) h.fs) (h4 s1 k Q q)
theorem do_setL (i : Nat) {ys : List β} {n : Str} {py : Pos} {rest : List Stmt} {D : Ends} {spos : Pos} (h : EvL X elt tg iter ifs scope σ s ys) (k : ∀ p s1, Ex s s1 → s.H p = none → Own X.K s1 p ys → WSs X rest D (σ.set i (some (.ref p))) s1.H) (hk : X.env.scope.kind = .function) (hy : X.env.scope.names.lookup n = some .local)
    (hl : (py.line == pos.line) = true := by rfl) (ha : (scope.names.any fun (m, k) => m == n && (k == .local || k == .cell)) = false := by decide +kernel) (hi : X.N[i]? = some n := by rfl) :
    WSs X (.Assign [.Name n py] (.ListComp elt [⟨tg, iter, ifs, 0⟩] scope pos) spos :: rest) D σ s.H := by
  obtain ⟨own, g, tt, h1, h2, h3, h4⟩ := h.ex
  exact ws_of (pss_cons (ps_setLc (te := fun σ H Q => ∀ s0 H0 C cl fp, WE (Blk X scope s0 H0 C cl fp) elt σ H Q) h.calm h.nd hi hy (sw_true hk hy hl ha) pi_wi h1 h2 h3 (fun s0 H0 C cl fp => pe_im fun _ _ _ h => h s0 H0 C cl fp) h.fs) pss_ws) (h4 s (Ex.refl _) (fun x H1 => WSs X rest D (σ.set i (some x)) H1) fun p s2 k2 n2 o2 => k p s2 k2 n2 o2)
theorem wipe_set {τ : St} {j : Nat} {o : Option V} : ∀ {vs : List Nat}, j ∈ vs → wipe (τ.set j o) vs = wipe τ vs
  | v :: vs, h => by
    show (wipe (τ.set j o) vs).set v none = (wipe τ vs).set v none
    by_cases e : j ∈ vs
    · rw [wipe_set e]
    · have : j = v := by
        rcases List.mem_cons.mp h with z | z
        · exact z
        · exact absurd z e
      subst this
      have : ∀ {ws : List Nat} {τ : St}, j ∉ ws → wipe (τ.set j o) ws = (wipe τ ws).set j o := by
        intro ws
        induction ws with
        | nil => intro τ _; rfl
        | cons a r ih =>
          intro τ h
          show (wipe (τ.set j o) r).set a none = ((wipe τ r).set a none).set j o
          rw [ih fun z => h (List.mem_cons_of_mem _ z), List.set_comm _ _ (fun z => h (by rw [z]; exact List.mem_cons_self))]
      rw [this e, List.set_set]
theorem wipe_wipe {τ : St} : ∀ {vs ws : List Nat}, (∀ v ∈ vs, v ∈ ws) → wipe (wipe τ vs) ws = wipe τ ws
  | [], _, _ => rfl
  | v :: vs, ws, h => by
    show wipe ((wipe τ vs).set v none) ws = wipe τ ws
    rw [wipe_set (h v List.mem_cons_self)]
    exact wipe_wipe fun u hu => h u (List.mem_cons_of_mem _ hu)
theorem en_comp0 {xs : List α} {ys : List β} {f : α → Option β} {j : Nat} {n : Str} {py : Pos} (hc : X.calm = true) (hN : X.N.Nodup) (hi : EvI X (.Name n py) iter σ s xs) (ok : BlkOk X.N X.env.scope scope own) (hj : X.N[j]? = some n)
    (hjo : j ∈ own.map (·.2)) (hg : ∀ s0 H0 C cl fp, PG (Blk X scope s0 H0 C cl fp) (.Name n py) (gName j)) (hf : mapO f xs = some ys) (hz : ys.length ≤ sizeLine)
    (he : ∀ (x : α) (y : β) (v : V) (s1 : S), x ∈ xs → Ex s s1 → rep X.K s1.F v x → f x = some y → ∀ s0 H0 C cl fp, Ev (Blk X scope s0 H0 C cl fp) elt ((wipe σ (own.map (·.2))).set j (some v)) s1 y)
    (hs : ∀ x, foldedSetIterable iter X.env x = pure x := by intro _; rfl) : EvL X elt (.Name n py) iter [] scope σ s ys :=
  ⟨hc, hN, hs, own, _, _, ok, hg, fun _ _ _ _ _ => pts_nil, fun s1 k Q q => comp_read (t := fun _ => some true) hc hN hi ok hg tg_n (fun _ _ _ _ _ => pts_nil) hf hz (fun F x σ2 ⟨v, _, e⟩ => by rw [e, wipe_set hjo]; exact wipe_wipe fun _ z => z)
    (fun x b s1 σ2 Q _ _ _ hb q => by cases hb; exact q s1 (Ex.refl _)) (fun x y s1 σ2 hx k ⟨v, r, e⟩ _ hfx => by subst e; exact he x y v s1 hx k r hfx) s1 k Q q⟩
theorem en_comp1 {xs : List α} {ys : List β} {t : α → Option Bool} {f : α → Option β} {j : Nat} {n : Str} {py : Pos} (hc : X.calm = true) (hN : X.N.Nodup) (hi : EvI X (.Name n py) iter σ s xs) (ok : BlkOk X.N X.env.scope scope own) (hj : X.N[j]? = some n)
    (hjo : j ∈ own.map (·.2)) (hg : ∀ s0 H0 C cl fp, PG (Blk X scope s0 H0 C cl fp) (.Name n py) (gName j)) (hf : compO t f xs = some ys) (hz : ys.length ≤ sizeLine)
    (ht : ∀ (x : α) (b : Bool) (v : V) (s1 : S), x ∈ xs → Ex s s1 → rep X.K s1.F v x → t x = some b → ∀ s0 H0 C cl fp, EvT (Blk X scope s0 H0 C cl fp) c ((wipe σ (own.map (·.2))).set j (some v)) s1 b)
    (he : ∀ (x : α) (y : β) (v : V) (s1 : S), x ∈ xs → Ex s s1 → rep X.K s1.F v x → t x = some true → f x = some y → ∀ s0 H0 C cl fp, Ev (Blk X scope s0 H0 C cl fp) elt ((wipe σ (own.map (·.2))).set j (some v)) s1 y)
    (hs : ∀ x, foldedSetIterable iter X.env x = pure x := by intro _; rfl) : EvL X elt (.Name n py) iter [c] scope σ s ys :=
  ⟨hc, hN, hs, own, _, _, ok, hg, fun s0 H0 C cl fp => pts_one (pt_im fun _ _ _ h => h s0 H0 C cl fp), fun s1 k Q q => comp_read (tt := fun σ H Q => ∀ s0 H0 C cl fp, WT (Blk X scope s0 H0 C cl fp) c σ H Q) hc hN hi ok hg tg_n (fun s0 H0 C cl fp => pts_one (pt_im fun _ _ _ h => h s0 H0 C cl fp)) hf hz (fun F x σ2 ⟨v, _, e⟩ => by rw [e, wipe_set hjo]; exact wipe_wipe fun _ z => z)
    (fun x b s1 σ2 Q hx k ⟨v, r, e⟩ hb q => by subst e; intro s0 H0 C cl fp; exact ht x b v s1 hx k r hb s0 H0 C cl fp s1 (Ex.refl _) Q q) (fun x y s1 σ2 hx k ⟨v, r, e⟩ htx hfx => by subst e; exact he x y v s1 hx k r htx hfx) s1 k Q q⟩
end
end Dy

namespace Dy
open PySem PySem.Spec L2
open PyProof.Rows hiding St
open Enc (rep)
open Flat (toV)
open EncA (repA)

abbrev MD (D : Ends) (M : St → S → Prop) : Ends := { D with nx := fun σ H => ∃ s : S, s.H = H ∧ M σ s }
abbrev ND (D : Ends) : Ends := { D with nx := fun _ _ => False }
abbrev LD (D : Ends) (M : St → S → Prop) : Ends := { nx := fun σ H => ∃ s : S, s.H = H ∧ M σ s, rt := D.rt }
abbrev RD (Q : VK) : Ends := { nx := fun _ H' => Q .non H', rt := Q }
section
variable {α β γ δ : Type} [Enc α] [Enc β] [Enc γ] [Enc δ] {X : Cx} {σ : St} {s t : S} {e a b c tg iter : Expr} {es : List Expr} {pos p0 p1 p2 p3 : Pos} {D : Ends} {rest A B : List Stmt}
theorem do_nil (h : D.nx σ s.H) : WSs X [] D σ s.H := ws_of pss_nil h
theorem do_cons {st : Stmt} {ts : TS} (h : PS X st ts) (q : ts { D with nx := fun σ' H' => WSs X rest D σ' H' } σ s.H) : WSs X (st :: rest) D σ s.H := ws_of (pss_cons h pss_ws) q
theorem do_set (i : Nat) {x : α} {n : Str} {py : Pos} (h : Ev X e σ s x) (k : ∀ v s1, Ex s s1 → rep X.K s1.F v x → WSs X rest D (σ.set i (some v)) s1.H) (hN : X.N.Nodup) (hx : Loc X.env.scope n := by first | exact Or.inl rfl | exact Or.inr rfl) (hi : X.N[i]? = some n := by rfl)
    (hs : swapsWith e (some (.Name n py)) pos.line X.env = pure false := by rfl) (hf : X.fn n = true ∨ X.env.scope.names.lookup n = some .local := by first | exact .inl rfl | exact .inr rfl) : WSs X (.Assign [.Name n py] e pos :: rest) D σ s.H :=
  do_cons (ps_set hN hi hx pe_we hs hf) (h s (Ex.refl _) _ fun v s1 k1 r => k v s1 k1 r)
theorem do_setN (i : Nat) {xs : List α} {n : Str} {py : Pos} (h : EvN X e σ s xs) (k : ∀ p s1, Ex s s1 → s.H p = none → Own X.K s1 p xs → WSs X rest D (σ.set i (some (.ref p))) s1.H) (hN : X.N.Nodup) (hx : Loc X.env.scope n := by first | exact Or.inl rfl | exact Or.inr rfl) (hi : X.N[i]? = some n := by rfl)
    (hs : swapsWith e (some (.Name n py)) pos.line X.env = pure false := by rfl) (hf : X.fn n = true ∨ X.env.scope.names.lookup n = some .local := by first | exact .inl rfl | exact .inr rfl) : WSs X (.Assign [.Name n py] e pos :: rest) D σ s.H :=
  do_cons (ps_set hN hi hx pe_we hs hf) (h s (Ex.refl _) _ fun v s1 k1 n1 r => k v s1 k1 n1 r)
theorem do_ret {x : α} (h : Ev X e σ s x) (k : ∀ v s1, Ex s s1 → rep X.K s1.F v x → D.rt v s1.H) : WSs X (.Return (some e) pos :: rest) D σ s.H :=
  do_cons (ps_ret pe_we) (h s (Ex.refl _) _ fun v s1 k1 r => k v s1 k1 r)
theorem do_retN {xs : List α} (h : EvN X e σ s xs) (k : ∀ p s1, Ex s s1 → s.H p = none → Own X.K s1 p xs → D.rt (.ref p) s1.H) : WSs X (.Return (some e) pos :: rest) D σ s.H :=
  do_cons (ps_ret pe_we) (h s (Ex.refl _) _ fun v s1 k1 n1 r => k v s1 k1 n1 r)
theorem do_retO (i : Nat) {p : Addr} {n : Str} (h : σ[i]? = some (some (.ref p))) (k : D.rt (.ref p) s.H) (hN : X.N[i]? = some n := by rfl) (hv : Vis X.env.scope n := by first | exact Or.inl rfl | exact Or.inr (Or.inl rfl) | exact Or.inr (Or.inr rfl)) (hd : (n == ("__debug__" : Str)) = false := by decide)
    (hcd : (n == ("__classdict__" : Str)) = false := by decide) : WSs X (.Return (some (.Name n p0)) pos :: rest) D σ s.H :=
  do_cons (ps_ret (pe_var hN hv hd hcd)) ⟨_, h, k⟩
theorem do_if {x : Bool} (hc : EvT X c σ s x) (M : St → S → Prop) (h1 : x = true → ∀ s1, Ex s s1 → WSs X A (MD D M) σ s1.H) (h2 : x = false → ∀ s1, Ex s s1 → WSs X B (MD D M) σ s1.H)
    (h3 : ∀ σ' s', M σ' s' → WSs X rest D σ' s'.H) : WSs X (.If c A B pos :: rest) D σ s.H :=
  do_cons (ps_if pt_wt pss_ws pss_ws) (hc s (Ex.refl _) _ fun s1 k => by
    cases x with
    | true => exact iteT ((h1 rfl s1 k).imp (fun σ' H' ⟨s', e, m⟩ => e ▸ h3 σ' s' m) (fun _ _ q => q) (fun _ _ q => q) fun _ _ q => q)
    | false => exact iteF ((h2 rfl s1 k).imp (fun σ' H' ⟨s', e, m⟩ => e ▸ h3 σ' s' m) (fun _ _ q => q) (fun _ _ q => q) fun _ _ q => q))
theorem do_ifR {x : Bool} (hc : EvT X c σ s x) (h1 : x = true → ∀ s1, Ex s s1 → WSs X A (ND D) σ s1.H) (h2 : x = false → ∀ s1, Ex s s1 → WSs X rest D σ s1.H) : WSs X (.If c A [] pos :: rest) D σ s.H :=
  do_cons (ps_if pt_wt pss_ws pss_nil) (hc s (Ex.refl _) _ fun s1 k => by
    cases x with
    | true => exact iteT ((h1 rfl s1 k).imp (fun _ _ z => z.elim) (fun _ _ q => q) (fun _ _ q => q) fun _ _ q => q)
    | false => exact iteF (h2 rfl s1 k))
theorem do_ifRR {x : Bool} (hc : EvT X c σ s x) (h1 : x = true → ∀ s1, Ex s s1 → WSs X A (ND D) σ s1.H) (h2 : x = false → ∀ s1, Ex s s1 → WSs X B (ND D) σ s1.H) : WSs X (.If c A B pos :: rest) D σ s.H :=
  do_cons (ps_if pt_wt pss_ws pss_ws) (hc s (Ex.refl _) _ fun s1 k => by
    cases x with
    | true => exact iteT ((h1 rfl s1 k).imp (fun _ _ z => z.elim) (fun _ _ q => q) (fun _ _ q => q) fun _ _ q => q)
    | false => exact iteF ((h2 rfl s1 k).imp (fun _ _ z => z.elim) (fun _ _ q => q) (fun _ _ q => q) fun _ _ q => q))

theorem st_set {l : St} {i : Nat} {v : V} (h : l[i]? = some (some v)) : l[i]? = some (some v) := h
theorem do_append (i : Nat) {p : Addr} {n : Str} {xs : List α} {x : α} (hσ : σ[i]? = some (some (.ref p))) (o : Own X.K s p xs) (he : Ev X e σ s x) (hz : xs.length < sizeLine)
    (k : ∀ s1, Mx (· = p) s s1 → Own X.K s1 p (xs ++ [x]) → WSs X rest D σ s1.H)
    (hN : X.N[i]? = some n := by rfl) (hv : Vis X.env.scope n := by first | exact Or.inl rfl | exact Or.inr (Or.inl rfl) | exact Or.inr (Or.inr rfl)) (hd : (n == ("__debug__" : Str)) = false := by decide) (hcd : (n == ("__classdict__" : Str)) = false := by decide)
    (hbase : attributeBase (.Name n p0) "append" X.env (eval (.Name n p0) X.env) = eval (.Name n p0) X.env := by rfl)
    (hfew : ((backTo p2 (starEach [e] X.env)).all (fun x => !x.1) && (backToKw p2 (keywordEach [] X.env)).all (fun x => x.1.isSome) && decide (([e] : List Expr).length + ([] : List Keyword).length + (if ([] : List Keyword).isEmpty then 0 else 1) < 30)) = true := by rfl)
    (hline : (p1.endLine == p2.line) = true := by rfl) (hs : starEach [e] X.env = (false, eval e X.env) :: starEach [] X.env := by rfl) (hplain : (backTo p2 (starEach [] X.env)).any (·.1) = false := by rfl)
    (hsw : swapsWith (.Call (.Attribute (.Name n p0) "append" p1) [e] [] p2) none p3.line X.env = pure false := by rfl) :
    WSs X (.Expr (.Call (.Attribute (.Name n p0) "append" p1) [e] [] p2) p3 :: rest) D σ s.H :=
  do_cons (ps_expr (pe_bm PySem.F.plainAttrs_list PySem.F.slot_list_append PySem.F.type_list_append mt_append (pe_var hN hv hd hcd) (pa_cons pe_we pa_nil hs) hbase hfew hline hs hplain) hsw) (by
    obtain ⟨h1, vs, h2, h3⟩ := id o
    refine ⟨_, hσ, .inl ⟨rfl, vs, .inl (.inl h2)⟩, he s (Ex.refl _) _ fun v s1 k1 r1 => ?_⟩
    have f1 := k1.n _ _ h2 h1
    have g1 := k1.h _ _ h2
    refine ⟨p, vs, v, rfl, rfl, g1, by rw [h3.len]; exact hz, ?_⟩
    exact k (s1.put p (.lst (vs ++ [v])) f1) (k1.mx.trans (Mx.put f1)) ⟨f1, _, upd_same, (h3.mono k1.f).snoc r1⟩)
theorem do_extend (i : Nat) {p : Addr} {n : Str} {xs ys : List α} (hσ : σ[i]? = some (some (.ref p))) (o : Own X.K s p xs) (he : EvN X e σ s ys) (hz : xs.length + ys.length ≤ sizeLine)
    (k : ∀ s1, Mx (· = p) s s1 → Own X.K s1 p (xs ++ ys) → WSs X rest D σ s1.H)
    (hN : X.N[i]? = some n := by rfl) (hv : Vis X.env.scope n := by first | exact Or.inl rfl | exact Or.inr (Or.inl rfl) | exact Or.inr (Or.inr rfl)) (hd : (n == ("__debug__" : Str)) = false := by decide) (hcd : (n == ("__classdict__" : Str)) = false := by decide)
    (hbase : attributeBase (.Name n p0) "extend" X.env (eval (.Name n p0) X.env) = eval (.Name n p0) X.env := by rfl)
    (hfew : ((backTo p2 (starEach [e] X.env)).all (fun x => !x.1) && (backToKw p2 (keywordEach [] X.env)).all (fun x => x.1.isSome) && decide (([e] : List Expr).length + ([] : List Keyword).length + (if ([] : List Keyword).isEmpty then 0 else 1) < 30)) = true := by rfl)
    (hline : (p1.endLine == p2.line) = true := by rfl) (hs : starEach [e] X.env = (false, eval e X.env) :: starEach [] X.env := by rfl) (hplain : (backTo p2 (starEach [] X.env)).any (·.1) = false := by rfl)
    (hsw : swapsWith (.Call (.Attribute (.Name n p0) "extend" p1) [e] [] p2) none p3.line X.env = pure false := by rfl) :
    WSs X (.Expr (.Call (.Attribute (.Name n p0) "extend" p1) [e] [] p2) p3 :: rest) D σ s.H :=
  do_cons (ps_expr (pe_bm PySem.F.plainAttrs_list PySem.F.slot_list_extend PySem.F.type_list_extend mt_extend (pe_var hN hv hd hcd) (pa_cons pe_we pa_nil hs) hbase hfew hline hs hplain) hsw) (by
    obtain ⟨h1, vs, h2, h3⟩ := id o
    refine ⟨_, hσ, .inl ⟨rfl, vs, .inl (.inl h2)⟩, he s (Ex.refl _) _ fun q s1 k1 n1 o1 => ?_⟩
    obtain ⟨_, ws, h4, h5⟩ := o1
    have f1 := k1.n _ _ h2 h1
    have g1 := k1.h _ _ h2
    refine ⟨p, q, vs, ws, rfl, rfl, g1, h4, by rw [h3.len, h5.len]; exact hz, ?_⟩
    exact k (s1.put p (.lst (vs ++ ws)) f1) (k1.mx.trans (Mx.put f1)) ⟨f1, _, upd_same, (h3.mono k1.f).app h5⟩)
theorem do_setItem (i : Nat) {p : Addr} {n : Str} {xs : List α} {x : α} {z : Int} {j : Nat} (hσ : σ[i]? = some (some (.ref p))) (o : Own X.K s p xs) (he : Ev X e σ s x) (hi : Ev X a σ s z) (hj : ixN xs.length z = some j)
    (k : ∀ s1, Mx (· = p) s s1 → Own X.K s1 p (xs.set j x) → WSs X rest D σ s1.H)
    (hN : X.N[i]? = some n := by rfl) (hv : Vis X.env.scope n := by first | exact Or.inl rfl | exact Or.inr (Or.inl rfl) | exact Or.inr (Or.inr rfl)) (hd : (n == ("__debug__" : Str)) = false := by decide) (hcd : (n == ("__classdict__" : Str)) = false := by decide)
    (ha : ∀ v, assign (.Subscript (.Name n p0) a p1) X.env v = (do
      let ov ← holding [v] (eval (.Name n p0) X.env)
      let iv ← holding [v, ov] (eval a X.env)
      standAt p1
      holding [v, ov, iv] (setItem ov iv v)
      release [v, ov, iv] []) := by intro _; rfl)
    (hs : swapsWithSole [.Subscript (.Name n p0) a p1] e pos.line X.env = pure false := by rfl) (hw : swappedStores [.Subscript (.Name n p0) a p1] e X.env = pure none := by rfl)
    (h1 : (assignEach [.Subscript (.Name n p0) a p1] X.env).map (·.2) = [assign (.Subscript (.Name n p0) a p1) X.env] := by rfl) :
    WSs X (.Assign [.Subscript (.Name n p0) a p1] e pos :: rest) D σ s.H :=
  do_cons (ps_asg pe_we (pg_sub (pe_var hN hv hd hcd) pe_we set_list ha) hs hw h1) (by
    obtain ⟨f0, vs, h2, h3⟩ := id o
    refine he s (Ex.refl _) _ fun v s1 k1 r1 => ⟨_, hσ, hi s1 k1 _ fun u s2 k2 r2 => ?_⟩
    have k3 := k1.trans k2
    have f1 := k3.n _ _ h2 f0
    have g1 := k3.h _ _ h2
    refine ⟨p, vs, z, j, rfl, r2, g1, by rw [h3.len]; exact hj, ?_⟩
    exact k (s2.put p (.lst (vs.set j v)) f1) (k3.mx.trans (Mx.put f1)) ⟨f1, _, upd_same, (h3.mono k3.f).set j (Enc.mono k2.f r1)⟩)
theorem do_frz {p : Addr} {xs : List α} {ss : List Stmt} (o : Own X.K s p xs) (k : ∀ s' : S, s'.H = s.H → Fle s.F s'.F → (∀ q, q ≠ p → s'.F q = s.F q) → rep X.K s'.F (.ref p) xs → WSs X ss D σ s'.H) : WSs X ss D σ s.H := by
  obtain ⟨s', h1, h2, h3, h4⟩ := o.frz
  have := k s' h1 h2 h3 h4
  rw [h1] at this
  exact this

theorem foldO_drop {τ υ : Type} {f : υ → τ → Option υ} {b b1 : υ} {xs : List τ} {i : Nat} (hi : i < xs.length) (h : foldO f b (xs.drop i) = some b1) : ∃ b', f b xs[i] = some b' ∧ foldO f b' (xs.drop (i + 1)) = some b1 := by
  rw [List.drop_eq_getElem_cons hi] at h
  exact bndE h
theorem do_for_core {τ : Type} [Enc τ] {xs : List τ} {body : List Stmt} {g : TG} {B : Hp → τ → St → St → Prop} (hp : PassesOwn (model X.prog X.w) X.A X.env X.xe) (hc : X.calm = true) (hi : EvI X tg iter σ s xs) (hg : PG X tg g) (T : Tgt (α := τ) X.K g B)
    (R : Nat → St → S → Prop) (h0 : ∀ s1, Ex s s1 → R 0 σ s1)
    (hb : ∀ s1, Ex s s1 → ∀ (i : Nat) (x : τ) (σ' σ2 : St) (t t' : S), xs[i]? = some x → Fle s1.F t.F → R i σ' t → Ex t t' → B t'.F x σ' σ2 → WSs X body (LD D fun σ s => Fle t'.F s.F ∧ R (i + 1) σ s) σ2 t'.H)
    (hd : ∀ s1, Ex s s1 → ∀ σ' t, Fle s1.F t.F → R xs.length σ' t → WSs X rest D σ' t.H)
    (hs : ∀ x, foldedSetIterable iter X.env x = pure x := by intro _; rfl) : WSs X (.For tg iter body [] pos :: rest) D σ s.H :=
  do_cons (ps_for hp hc pi_wi hg pss_ws hs) (hi s (Ex.refl _) _ fun J s1 k1 W => by
    refine ⟨fun i m σ' H' => ∃ t : S, t.H = H' ∧ m = xs.length - i ∧ i ≤ xs.length ∧ Fle s1.F t.F ∧ R i σ' t, ⟨xs.length, s1, rfl, rfl, Nat.zero_le _, Fle.refl _, h0 s1 k1⟩, ?_⟩
    rintro i m σ' H' ⟨t, rfl, rfl, hle, f, r⟩
    by_cases hlt : i < xs.length
    · right
      obtain ⟨g1, g2⟩ := W.go i t xs[i] f (List.getElem?_eq_getElem hlt)
      refine ⟨g1, fun σ' H' => ∃ u : S, u.H = H' ∧ Fle s1.F u.F ∧ R (i + 1) σ' u, fun σ' H' ⟨u, e1, f1, r1⟩ => ⟨xs.length - (i + 1), by omega, u, e1, rfl, hlt, f1, r1⟩, fun v H' hy => ?_⟩
      obtain ⟨t', rfl, kt, rv⟩ := g2 v H' hy
      refine T.run t' v xs[i] _ _ rv fun σ2 hB => ?_
      have := hb s1 k1 i xs[i] σ' σ2 t t' (List.getElem?_eq_getElem hlt) f r kt hB
      exact this.imp (fun σ3 H3 ⟨u, e1, f1, r1⟩ => ⟨u, e1, (f.trans kt.f).trans f1, r1⟩) (fun _ _ q => q) (fun _ _ q => q.elim) (fun _ _ q => q.elim)
    · left
      have e : i = xs.length := by omega
      subst e
      exact ⟨W.stop _ t f (Nat.le_refl _), hd s1 k1 σ' t f r⟩)
theorem do_forO {τ υ : Type} [Enc τ] {xs : List τ} {f : υ → τ → Option υ} {b0 b1 : υ} {body : List Stmt} {g : TG} {B : Hp → τ → St → St → Prop} (hp : PassesOwn (model X.prog X.w) X.A X.env X.xe) (hc : X.calm = true) (hi : EvI X tg iter σ s xs) (hg : PG X tg g) (T : Tgt (α := τ) X.K g B)
    (hf : foldO f b0 xs = some b1) (R : υ → St → S → Prop) (h0 : ∀ s1, Ex s s1 → R b0 σ s1)
    (hb : ∀ s1, Ex s s1 → ∀ (x : τ) (b b' : υ) (σ' σ2 : St) (t t' : S), x ∈ xs → f b x = some b' → Fle s1.F t.F → R b σ' t → Ex t t' → B t'.F x σ' σ2 → WSs X body (LD D fun σ s => Fle t'.F s.F ∧ R b' σ s) σ2 t'.H)
    (hd : ∀ s1, Ex s s1 → ∀ σ' t, Fle s1.F t.F → R b1 σ' t → WSs X rest D σ' t.H)
    (hs : ∀ x, foldedSetIterable iter X.env x = pure x := by intro _; rfl) : WSs X (.For tg iter body [] pos :: rest) D σ s.H :=
  do_for_core hp hc hi hg T (fun i σ' t => ∃ b, foldO f b (xs.drop i) = some b1 ∧ R b σ' t) (fun s1 k => ⟨b0, hf, h0 s1 k⟩)
    (fun s1 k i x σ' σ2 t t' hx fl ⟨b, h1, h2⟩ kt hB => by
      obtain ⟨hlt, rfl⟩ := List.getElem?_eq_some_iff.mp hx
      obtain ⟨b', h3, h4⟩ := foldO_drop hlt h1
      exact (hb s1 k xs[i] b b' σ' σ2 t t' (List.getElem_mem hlt) h3 fl h2 kt hB).imp (fun σ3 H3 ⟨u, e1, f1, r1⟩ => ⟨u, e1, f1, b', h4, r1⟩) (fun _ _ q => q) (fun _ _ q => q.elim) (fun _ _ q => q.elim))
    (fun s1 k σ' t fl ⟨b, h1, h2⟩ => by
      rw [List.drop_length] at h1
      cases h1
      exact hd s1 k σ' t fl h2) hs
theorem foldF_drop {τ υ ρ : Type} {f : υ → τ → Option (Fl υ ρ)} {b : υ} {o : Fl υ ρ} {xs : List τ} {i : Nat} (hi : i < xs.length) (h : foldF f b (xs.drop i) = some o) : ∃ q, f b xs[i] = some q ∧ (∀ b', q = .nx b' → foldF f b' (xs.drop (i + 1)) = some o) ∧ ∀ r, q = .rt r → o = .rt r := by
  rw [List.drop_eq_getElem_cons hi] at h
  obtain ⟨q, h1, h2⟩ := bndE h
  refine ⟨q, h1, fun b' e => by subst e; exact h2, fun r e => by subst e; exact (Option.some.inj h2).symm⟩
theorem do_forF {τ υ ρ : Type} [Enc τ] {xs : List τ} {f : υ → τ → Option (Fl υ ρ)} {b0 : υ} {o : Fl υ ρ} {body : List Stmt} {g : TG} {B : Hp → τ → St → St → Prop} (hp : PassesOwn (model X.prog X.w) X.A X.env X.xe) (hc : X.calm = true) (hi : EvI X tg iter σ s xs) (hg : PG X tg g) (T : Tgt (α := τ) X.K g B)
    (hf : foldF f b0 xs = some o) (R : υ → St → S → Prop) (h0 : ∀ s1, Ex s s1 → R b0 σ s1)
    (hb : ∀ s1, Ex s s1 → ∀ (x : τ) (b : υ) (q : Fl υ ρ) (σ' σ2 : St) (t t' : S), x ∈ xs → f b x = some q → (∀ r, q = .rt r → o = .rt r) → Fle s1.F t.F → R b σ' t → Ex t t' → B t'.F x σ' σ2 → WSs X body (LD D fun σ s => ∃ b', q = .nx b' ∧ Fle t'.F s.F ∧ R b' σ s) σ2 t'.H)
    (hd : ∀ s1, Ex s s1 → ∀ b1 σ' t, o = .nx b1 → Fle s1.F t.F → R b1 σ' t → WSs X rest D σ' t.H)
    (hs : ∀ x, foldedSetIterable iter X.env x = pure x := by intro _; rfl) : WSs X (.For tg iter body [] pos :: rest) D σ s.H :=
  do_for_core hp hc hi hg T (fun i σ' t => ∃ b, foldF f b (xs.drop i) = some o ∧ R b σ' t) (fun s1 k => ⟨b0, hf, h0 s1 k⟩)
    (fun s1 k i x σ' σ2 t t' hx fl ⟨b, h1, h2⟩ kt hB => by
      obtain ⟨hlt, rfl⟩ := List.getElem?_eq_some_iff.mp hx
      obtain ⟨q, h3, h4, h5⟩ := foldF_drop hlt h1
      exact (hb s1 k xs[i] b q σ' σ2 t t' (List.getElem_mem hlt) h3 h5 fl h2 kt hB).imp (fun σ3 H3 ⟨u, e1, b', e2, f1, r1⟩ => ⟨u, e1, f1, b', h4 b' e2, r1⟩) (fun _ _ q => q) (fun _ _ q => q.elim) (fun _ _ q => q.elim))
    (fun s1 k σ' t fl ⟨b, h1, h2⟩ => by
      rw [List.drop_length] at h1
      cases h1
      exact hd s1 k b σ' t rfl fl h2) hs
theorem do_whileO {υ : Type} {cf : υ → Option Bool} {f : υ → Option υ} {n : Nat} {b0 b1 : υ} {body : List Stmt} (hp : PassesOwn (model X.prog X.w) X.A X.env X.xe) (hf : whileO cf f n b0 = some b1) (R : υ → St → S → Prop) (h0 : R b0 σ s)
    (hc : ∀ (b : υ) (x : Bool) (σ' : St) (t : S), cf b = some x → Fle s.F t.F → R b σ' t → EvT X c σ' t x)
    (hb : ∀ (b b' : υ) (σ' : St) (t t' : S), cf b = some true → f b = some b' → Fle s.F t.F → R b σ' t → Ex t t' → WSs X body (LD D fun σ s => Fle t'.F s.F ∧ R b' σ s) σ' t'.H)
    (hd : ∀ σ' t t', cf b1 = some false → Fle s.F t.F → R b1 σ' t → Ex t t' → WSs X rest D σ' t'.H) : WSs X (.While c body [] pos :: rest) D σ s.H :=
  do_cons (ps_while hp pt_wt pss_ws) (by
    refine ⟨fun m σ' H' => ∃ (t : S) (b : υ), t.H = H' ∧ Fle s.F t.F ∧ whileO cf f m b = some b1 ∧ R b σ' t, ⟨n, s, b0, rfl, Fle.refl _, hf, h0⟩, ?_⟩
    rintro m σ' H' ⟨t, b, rfl, fl, h1, h2⟩
    cases m with
    | zero => cases h1
    | succ m =>
      obtain ⟨x, h3, h4⟩ := bndE h1
      refine hc b x σ' t h3 fl h2 t (Ex.refl _) _ fun t' kt => ?_
      cases x with
      | true =>
        refine iteT ?_
        rw [if_pos rfl] at h4
        obtain ⟨b', h5, h6⟩ := bndE h4
        refine ⟨fun σ3 H3 => ∃ u : S, u.H = H3 ∧ Fle s.F u.F ∧ R b' σ3 u, fun σ3 H3 ⟨u, e1, f1, r1⟩ => ⟨m, Nat.lt_succ_self _, u, b', e1, f1, h6, r1⟩, ?_⟩
        exact (hb b b' σ' t t' h3 h5 fl h2 kt).imp (fun σ3 H3 ⟨u, e1, f1, r1⟩ => ⟨u, e1, (fl.trans kt.f).trans f1, r1⟩) (fun _ _ q => q) (fun _ _ q => q.elim) (fun _ _ q => q.elim)
      | false =>
        refine iteF ?_
        rw [if_neg Bool.false_ne_true] at h4
        cases h4
        exact hd σ' t t' h3 fl h2 kt)
end
end Dy

namespace Dy
open PySem PySem.Spec L2
open PyProof.Rows hiding St
open Enc (rep)
open Flat (toV)
open EncA (repA)

section
variable {P : Program} {w : World} {K : PySem.W.Frag} {mg : Str → Option Value} {base : Heap}
abbrev FunP (K : PySem.W.Frag) (x : Str) (st : Stmt) (f : Addr) (fd : FuncData) : Prop := FunD K x x (defArgs st) (defBody st) (defScope st) [] [] f fd
theorem mk_fn {A ρ : Type} [EncA A] [Enc ρ] {m : A → Option ρ} {x : Str} {st : Stmt} {f : Addr} {fd : FuncData} {N ps : List Str} {k : Nat} (F : FunP K x st f fd) (Sc : FnScope N ps (defScope st))
    (hl : ∀ (F : Hp) (vs : List V) (a : A), repA K F vs a → vs.length = ps.length)
    (body : ∀ (cdv : Value) (A' : Around) (outer : List Env) (s0 : Shared) (H0 : Hp) (E0 : XK), Room k (A'.deeper (envOfC x (defScope st) s0.heap.objs.size f cdv)) → ∀ (s : S) (vs : List V) (a : A) (r : ρ) (Q : VK), repA K s.F vs a → m a = some r →
      (∀ v s', Ex s s' → rep K s'.F v r → Q v s'.H) → WSs (cxOf CX0 P w K mg base N x (defScope st) f cdv A' outer s0 H0 E0).nox (defBody st) (RD Q) (start N vs) s.H) : FnOk P w K mg base CX0 (k + 1) f fd ps (sp K m) :=
  F.ok Sc (fun vs H Q E ⟨s, a, r, _, h, _⟩ => hl s.F vs a h) (fun cdv A' outer s0 H0 vs Q E hr ⟨s, a, r, e, h1, h2, h3⟩ => ⟨_, pss_ws.nox, by
    have := body cdv A' outer s0 H0 E hr s vs a r Q h1 h2 h3
    rw [e] at this
    exact this⟩)
theorem mk_cal {A ρ : Type} [EncA A] [Enc ρ] {m : A → Option ρ} {x : Str} {st : Stmt} {f : Addr} {fd : FuncData} {N ps : List Str} {k : Nat} (F : FunP K x st f fd) (hm : mg x = some (.ref f)) (b : Binds K fd ps []) (Sc : FnScope N ps (defScope st))
    (hl : ∀ (F : Hp) (vs : List V) (a : A), repA K F vs a → vs.length = ps.length)
    (body : ∀ (cdv : Value) (A' : Around) (outer : List Env) (s0 : Shared) (H0 : Hp) (E0 : XK), Room k (A'.deeper (envOfC x (defScope st) s0.heap.objs.size f cdv)) → ∀ (s : S) (vs : List V) (a : A) (r : ρ) (Q : VK), repA K s.F vs a → m a = some r →
      (∀ v s', Ex s s' → rep K s'.F v r → Q v s'.H) → WSs (cxOf CX0 P w K mg base N x (defScope st) f cdv A' outer s0 H0 E0).nox (defBody st) (RD Q) (start N vs) s.H) : Cal P w K mg base CX0 (k + 1) x (sp K m) :=
  ⟨f, fd, ps, F.ok Sc (fun vs H Q E ⟨s, a, r, _, h, _⟩ => hl s.F vs a h) (fun cdv A' outer s0 H0 vs Q E hr ⟨s, a, r, e, h1, h2, h3⟩ => ⟨_, pss_ws.nox, by
    have := body cdv A' outer s0 H0 E hr s vs a r Q h1 h2 h3
    rw [e] at this
    exact this⟩), hm, F.kp, b⟩
theorem mk_calN {A ρ : Type} [EncA A] [Enc ρ] {m : A → Option (List ρ)} {x : Str} {st : Stmt} {f : Addr} {fd : FuncData} {N ps : List Str} {k : Nat} (F : FunP K x st f fd) (hm : mg x = some (.ref f)) (b : Binds K fd ps []) (Sc : FnScope N ps (defScope st))
    (hl : ∀ (F : Hp) (vs : List V) (a : A), repA K F vs a → vs.length = ps.length)
    (body : ∀ (cdv : Value) (A' : Around) (outer : List Env) (s0 : Shared) (H0 : Hp) (E0 : XK), Room k (A'.deeper (envOfC x (defScope st) s0.heap.objs.size f cdv)) → ∀ (s : S) (vs : List V) (a : A) (r : List ρ) (Q : VK), repA K s.F vs a → m a = some r →
      (∀ p s', Ex s s' → s.H p = none → Own K s' p r → Q (.ref p) s'.H) → WSs (cxOf CX0 P w K mg base N x (defScope st) f cdv A' outer s0 H0 E0).nox (defBody st) (RD Q) (start N vs) s.H) : Cal P w K mg base CX0 (k + 1) x (spN K m) :=
  ⟨f, fd, ps, F.ok Sc (fun vs H Q E ⟨s, a, r, _, h, _⟩ => hl s.F vs a h) (fun cdv A' outer s0 H0 vs Q E hr ⟨s, a, r, e, h1, h2, h3⟩ => ⟨_, pss_ws.nox, by
    have := body cdv A' outer s0 H0 E hr s vs a r Q h1 h2 h3
    rw [e] at this
    exact this⟩), hm, F.kp, b⟩
theorem len1 {α : Type} [Enc α] (F : Hp) (vs : List V) (a : α × Unit) (h : repA K F vs a) : vs.length = 1 := by obtain ⟨_, _, rfl, _, rfl⟩ := h; rfl
theorem len2 {α β : Type} [Enc α] [Enc β] (F : Hp) (vs : List V) (a : α × β × Unit) (h : repA K F vs a) : vs.length = 2 := by obtain ⟨_, _, rfl, _, _, _, rfl, _, rfl⟩ := h; rfl
theorem len3 {α β γ : Type} [Enc α] [Enc β] [Enc γ] (F : Hp) (vs : List V) (a : α × β × γ × Unit) (h : repA K F vs a) : vs.length = 3 := by obtain ⟨_, _, rfl, _, _, _, rfl, _, _, _, rfl, _, rfl⟩ := h; rfl
theorem len4 {α β γ δ : Type} [Enc α] [Enc β] [Enc γ] [Enc δ] (F : Hp) (vs : List V) (a : α × β × γ × δ × Unit) (h : repA K F vs a) : vs.length = 4 := by obtain ⟨_, _, rfl, _, _, _, rfl, _, _, _, rfl, _, _, _, rfl, _, rfl⟩ := h; rfl
theorem len5 {α β γ δ ε : Type} [Enc α] [Enc β] [Enc γ] [Enc δ] [Enc ε] (F : Hp) (vs : List V) (a : α × β × γ × δ × ε × Unit) (h : repA K F vs a) : vs.length = 5 := by obtain ⟨_, _, rfl, _, _, _, rfl, _, _, _, rfl, _, _, _, rfl, _, _, _, rfl, _, rfl⟩ := h; rfl
theorem len6 {α β γ δ ε ζ : Type} [Enc α] [Enc β] [Enc γ] [Enc δ] [Enc ε] [Enc ζ] (F : Hp) (vs : List V) (a : α × β × γ × δ × ε × ζ × Unit) (h : repA K F vs a) : vs.length = 6 := by obtain ⟨_, _, rfl, _, _, _, rfl, _, _, _, rfl, _, _, _, rfl, _, _, _, rfl, _, _, _, rfl, _, rfl⟩ := h; rfl
end

class Ty (α : Type) extends Enc α where
  ty : α → String
  is : ∀ {K : PySem.W.Frag} {F H : Hp} {v : V} {x : α}, rep K F v x → Fle F H → TyX K H v (.type (ty x))
theorem sql_ty {K : PySem.W.Frag} {H : Hp} {p : Addr} {vs : List V} (h : SqL K H p vs) : TyX K H (.ref p) (.type "list") := by
  rcases h with (h | ⟨o, h⟩) | ⟨o, its, n, h, hc, _⟩
  · exact .base (.lst h)
  · exact .base (.frz h)
  · exact .kList h hc
theorem sqt_ty {K : PySem.W.Frag} {H : Hp} {p : Addr} {vs : List V} (h : SqT K H p vs) : TyX K H (.ref p) (.type "tuple") := by
  rcases h with (h | ⟨o, h⟩) | ⟨o, its, n, h, hc, _⟩
  · exact .base (.tup h)
  · exact .fTuple h
  · exact .kTuple h hc
instance : Ty Int := ⟨fun _ => "int", fun {K F H v x} h _ => by rw [show v = V.int x from h]; exact .base (.int _)⟩
instance : Ty Bool := ⟨fun _ => "bool", fun {K F H v x} h _ => by rw [show v = V.bl x from h]; exact .base (.bl _)⟩
instance : Ty Str := ⟨fun _ => "str", fun {K F H v x} h _ => by rw [show v = V.str x from h]; exact .base (.str _)⟩
instance {α : Type} [Ty α] : Ty (Option α) := ⟨fun x => match x with | none => "NoneType" | some y => Ty.ty y, fun {K F H v x} h f => by
  cases x with
  | none => rw [show v = V.non from h]; exact .base .non
  | some y => exact Ty.is (α := α) h f⟩
instance {α : Type} [Enc α] : Ty (List α) := ⟨fun _ => "list", fun h f => by
  obtain ⟨p, vs, rfl, h1, _⟩ := h
  exact sql_ty (sql_mono f h1)⟩
instance {α : Type} [Enc α] : Ty (Tu α) := ⟨fun _ => "tuple", fun h f => by
  obtain ⟨p, vs, rfl, h1, _⟩ := h
  exact sqt_ty (sqt_mono f h1)⟩
instance {α β : Type} [Enc α] [Enc β] : Ty (α × β) := ⟨fun _ => "tuple", fun h f => by
  obtain ⟨p, v1, v2, rfl, h1, _⟩ := h
  exact sqt_ty (sqt_mono f h1)⟩
instance {α : Type} [Enc α] : Ty (T1 α) := ⟨fun _ => "tuple", fun h f => by
  obtain ⟨p, v1, rfl, h1, _⟩ := h
  exact sqt_ty (sqt_mono f h1)⟩
instance {α β γ : Type} [Enc α] [Enc β] [Enc γ] : Ty (T3 α β γ) := ⟨fun _ => "tuple", fun h f => by
  obtain ⟨p, v1, v2, v3, rfl, h1, _⟩ := h
  exact sqt_ty (sqt_mono f h1)⟩
instance {α β γ δ : Type} [Enc α] [Enc β] [Enc γ] [Enc δ] : Ty (T4 α β γ δ) := ⟨fun _ => "tuple", fun h f => by
  obtain ⟨p, v1, v2, v3, v4, rfl, h1, _⟩ := h
  exact sqt_ty (sqt_mono f h1)⟩
instance {α β γ δ ε : Type} [Enc α] [Enc β] [Enc γ] [Enc δ] [Enc ε] : Ty (T5 α β γ δ ε) := ⟨fun _ => "tuple", fun h f => by
  obtain ⟨p, v1, v2, v3, v4, v5, rfl, h1, _⟩ := h
  exact sqt_ty (sqt_mono f h1)⟩
section
variable {α β : Type} {X : Cx} {σ : St} {s : S} {a b : Expr} {pos p0 p1 p2 p3 : Pos}
theorem ev_isi [Ty α] {x : α} {n : Str} {T : String} {r : Bool} (hm : X.mg "isinstance" = none) (hn : X.mg n = none) (hv : bootBuiltins n = some (.type T)) (ha : Ev X a σ s x) (h : kitB (Ty.ty x) T = some r)
    (hg : Gl X "isinstance" := by rfl) (hgn : Gl X n := by rfl) (he : starEach [a, .Name n p1] X.env = (false, eval a X.env) :: starEach [.Name n p1] X.env := by rfl) (he2 : starEach [.Name n p1] X.env = (false, eval (.Name n p1) X.env) :: starEach [] X.env := by rfl) (hpl : (backTo pos (starEach [.Name n p1] X.env)).any (·.1) = false := by rfl)
    (hnn : n ≠ "__name__" := by decide) (hnd : (n == ("__debug__" : Str)) = false := by decide) :
    Ev X (.Call (.Name "isinstance" p0) [a, .Name n p1] [] pos) σ s r := fun s1 k Q q =>
  we_of (pe_callB call_isi hg hm (by decide +kernel) (pa_cons pe_we (pa_cons (pe_bltn (v := .ty T) hgn hn hv rfl hnn hnd) pa_nil he2) he) (he := he) (hpl := hpl)) (ha s1 k _ fun v s2 k2 r2 =>
    ⟨v, .ty T, .type (Ty.ty x), .type T, r, rfl, .ty T, Ty.is r2 s2.sub, kit_ty h, q _ s2 k2 rfl⟩)

class EqD (α : Type) extends Enc α where
  toD : α → PyData
  dp : ∀ {K : PySem.W.Frag} {F H : Hp} {v : V} {x : α}, rep K F v x → Fle F H → Dp K H v (toD x)
  eqv : ∀ x y : α, PyData.eqv (toD x) (toD y) = true ↔ x = y
def DpR {α : Type} [EqD α] {K : PySem.W.Frag} {F H : Hp} (f : Fle F H) : ∀ {vs : List V} {xs : List α}, Reps K F vs xs → DpAll K H vs (xs.map EqD.toD)
  | [], [], _ => .nil
  | _ :: _, _ :: _, ⟨h, t⟩ => .cons (EqD.dp h f) (DpR f t)
  | [], _ :: _, h => h.elim
  | _ :: _, [], h => h.elim
theorem eqv_all {α : Type} [EqD α] : ∀ xs ys : List α, PyData.eqvAll (xs.map EqD.toD) (ys.map EqD.toD) = true ↔ xs = ys
  | [], [] => by simp [PyData.eqvAll]
  | [], _ :: _ => by simp [PyData.eqvAll]
  | _ :: _, [] => by simp [PyData.eqvAll]
  | x :: xs, y :: ys => by
    show (PyData.eqv (EqD.toD x) (EqD.toD y) && PyData.eqvAll (xs.map EqD.toD) (ys.map EqD.toD)) = true ↔ _
    rw [Bool.and_eq_true, EqD.eqv, eqv_all xs ys]
    simp
instance : EqD Int := ⟨PyData.int, fun {K F H v x} h _ => by rw [show v = V.int x from h]; exact .int _, fun x y => by show (x == y) = true ↔ _; simp⟩
instance : EqD Bool := ⟨PyData.bool, fun {K F H v x} h _ => by rw [show v = V.bl x from h]; exact .bl _, fun x y => by show (x == y) = true ↔ _; simp⟩
instance : EqD Str := ⟨PyData.str, fun {K F H v x} h _ => by rw [show v = V.str x from h]; exact .str _, fun x y => by show (x == y) = true ↔ _; simp⟩
instance : EqD (Option Int) := ⟨fun x => match x with | none => .none | some i => .int i, fun {K F H v x} h _ => by
  cases x with
  | none => rw [show v = V.non from h]; exact .non
  | some i => rw [show v = V.int i from h]; exact .int _, fun x y => by cases x <;> cases y <;> simp [PyData.eqv]⟩
instance : EqD (Option Str) := ⟨fun x => match x with | none => .none | some i => .str i, fun {K F H v x} h _ => by
  cases x with
  | none => rw [show v = V.non from h]; exact .non
  | some i => rw [show v = V.str i from h]; exact .str _, fun x y => by cases x <;> cases y <;> simp [PyData.eqv]⟩
instance {α : Type} [EqD α] : EqD (List α) := ⟨fun xs => .list (xs.map EqD.toD), fun h f => by
  obtain ⟨p, vs, rfl, h1, h2⟩ := h
  exact .lst (sql_mono f h1) (DpR f h2), fun x y => eqv_all x y⟩
instance {α : Type} [EqD α] : EqD (Tu α) := ⟨fun xs => .tuple (xs.l.map EqD.toD), fun h f => by
  obtain ⟨p, vs, rfl, h1, h2⟩ := h
  exact .tup (sqt_mono f h1) (DpR f h2), fun x y => by
    obtain ⟨x⟩ := x
    obtain ⟨y⟩ := y
    show PyData.eqvAll _ _ = true ↔ _
    rw [eqv_all]; simp⟩
instance {α β : Type} [EqD α] [EqD β] : EqD (α × β) := ⟨fun x => .tuple [EqD.toD x.1, EqD.toD x.2], fun h f => by
  obtain ⟨p, v1, v2, rfl, h0, h1, h2⟩ := h
  exact .tup (sqt_mono f h0) (.cons (EqD.dp h1 f) (.cons (EqD.dp h2 f) .nil)), fun x y => by
    obtain ⟨x1, x2⟩ := x
    obtain ⟨y1, y2⟩ := y
    show (PyData.eqv _ _ && (PyData.eqv _ _ && true)) = true ↔ _
    rw [Bool.and_eq_true, Bool.and_eq_true, EqD.eqv, EqD.eqv]; simp⟩
instance {α β γ : Type} [EqD α] [EqD β] [EqD γ] : EqD (T3 α β γ) := ⟨fun x => .tuple [EqD.toD x.a, EqD.toD x.b, EqD.toD x.c], fun h f => by
  obtain ⟨p, v1, v2, v3, rfl, h0, h1, h2, h3⟩ := h
  exact .tup (sqt_mono f h0) (.cons (EqD.dp h1 f) (.cons (EqD.dp h2 f) (.cons (EqD.dp h3 f) .nil))), fun x y => by
    obtain ⟨x1, x2, x3⟩ := x
    obtain ⟨y1, y2, y3⟩ := y
    show (PyData.eqv _ _ && (PyData.eqv _ _ && (PyData.eqv _ _ && true))) = true ↔ _
    rw [Bool.and_eq_true, Bool.and_eq_true, Bool.and_eq_true, EqD.eqv, EqD.eqv, EqD.eqv]; simp⟩
instance {α : Type} [EqD α] : EqD (T1 α) := ⟨fun x => .tuple [EqD.toD x.a], fun h f => by
  obtain ⟨p, v1, rfl, h0, h1⟩ := h
  exact .tup (sqt_mono f h0) (.cons (EqD.dp h1 f) .nil), fun x y => by
    obtain ⟨x1⟩ := x
    obtain ⟨y1⟩ := y
    show (PyData.eqv _ _ && true) = true ↔ _
    rw [Bool.and_eq_true, EqD.eqv]; simp⟩
def shp {α : Type} [EqD α] (x : α) : Prop := SeqAt.shaped (EqD.toD x) = true
theorem eqv_dec {α : Type} [EqD α] [DecidableEq α] (x y : α) : PyData.eqv (EqD.toD x) (EqD.toD y) = decide (x = y) := by
  rw [Bool.eq_iff_iff, EqD.eqv, decide_eq_true_eq]
theorem repR_d {α : Type} [EqD α] {K : PySem.W.Frag} {v : V} {xs : List α} (h : RepR K s v xs) : Dp K s.H v (EqD.toD xs) := by
  obtain ⟨p, vs, rfl, h1, h2⟩ := h
  exact .lst h1 (DpR s.sub h2)
theorem hu64 {j : Nat} (hr : Room j X.A) : X.A.units + 64 < cLine := by
  have := hr.un
  omega
theorem eb_eqD [EqD α] [DecidableEq α] {x y : α} {j : Nat} (hr : Room j X.A) (ha : Ev X a σ s x) (hb : Ev X b σ s y) (h1 : shp x) (h2 : shp y) : EvB X (.Compare a [.Eq] [b] pos) σ s (decide (x = y)) :=
  eb_cmp (op_eqD (hu64 hr)) ha hb (fun v u s2 hv hu Q q => ⟨_, _, EqD.dp hv s2.sub, EqD.dp hu s2.sub, h1, h2, by rw [eqv_dec]; exact q⟩) (nomark _)
theorem eb_neD [EqD α] [DecidableEq α] {x y : α} {j : Nat} (hr : Room j X.A) (ha : Ev X a σ s x) (hb : Ev X b σ s y) (h1 : shp x) (h2 : shp y) : EvB X (.Compare a [.NotEq] [b] pos) σ s (!decide (x = y)) :=
  eb_cmp (op_neD (hu64 hr)) ha hb (fun v u s2 hv hu Q q => ⟨_, _, EqD.dp hv s2.sub, EqD.dp hu s2.sub, h1, h2, by rw [eqv_dec]; exact q⟩) (nomark _)
theorem eb_eqL [EqD α] [DecidableEq α] {x y : List α} {j : Nat} (hr : Room j X.A) (ha : EvR X a σ s x) (hb : EvR X b σ s y) (h1 : shp x) (h2 : shp y) : EvB X (.Compare a [.Eq] [b] pos) σ s (decide (x = y)) :=
  eb_cmpRR (op_eqD (hu64 hr)) ha hb (fun v u s2 hv hu Q q => ⟨_, _, repR_d hv, repR_d hu, h1, h2, by rw [eqv_dec]; exact q⟩) (nomark _)
theorem eb_neL [EqD α] [DecidableEq α] {x y : List α} {j : Nat} (hr : Room j X.A) (ha : EvR X a σ s x) (hb : EvR X b σ s y) (h1 : shp x) (h2 : shp y) : EvB X (.Compare a [.NotEq] [b] pos) σ s (!decide (x = y)) :=
  eb_cmpRR (op_neD (hu64 hr)) ha hb (fun v u s2 hv hu Q q => ⟨_, _, repR_d hv, repR_d hu, h1, h2, by rw [eqv_dec]; exact q⟩) (nomark _)
end

class Shp (α : Type) (n : outParam Nat) extends EqD α where
  ok : ∀ x : α, PyData.canLay0 (EqD.toD x) = true ∧ PyData.depth (EqD.toD x) ≤ n
theorem shp_all {α : Type} {n : Nat} [Shp α n] : ∀ xs : List α, PyData.canLayAll0 (xs.map EqD.toD) = true ∧ PyData.depthAll (xs.map EqD.toD) ≤ n
  | [] => ⟨by simp [PyData.canLayAll0], by simp [PyData.depthAll]⟩
  | x :: xs => by
    obtain ⟨h1, h2⟩ := shp_all xs
    obtain ⟨h3, h4⟩ := Shp.ok x
    refine ⟨?_, ?_⟩
    · show PyData.canLayAll0 (EqD.toD x :: xs.map EqD.toD) = true
      unfold PyData.canLayAll0
      rw [h3, h1]; rfl
    · show PyData.depthAll (EqD.toD x :: xs.map EqD.toD) ≤ n
      unfold PyData.depthAll
      omega
instance : Shp Int 0 := ⟨fun x => ⟨by show PyData.canLay0 (.int x) = true; unfold PyData.canLay0; rfl, by show PyData.depth (.int x) ≤ 0; unfold PyData.depth; omega⟩⟩
instance : Shp Bool 0 := ⟨fun x => ⟨by show PyData.canLay0 (.bool x) = true; unfold PyData.canLay0; rfl, by show PyData.depth (.bool x) ≤ 0; unfold PyData.depth; omega⟩⟩
instance : Shp (Option Int) 0 := ⟨fun x => by
  cases x with
  | none => exact ⟨by show PyData.canLay0 .none = true; unfold PyData.canLay0; rfl, by show PyData.depth .none ≤ 0; unfold PyData.depth; omega⟩
  | some i => exact ⟨by show PyData.canLay0 (.int i) = true; unfold PyData.canLay0; rfl, by show PyData.depth (.int i) ≤ 0; unfold PyData.depth; omega⟩⟩
instance {α : Type} {n : Nat} [Shp α n] : Shp (List α) (n + 1) := ⟨fun x => by
  obtain ⟨h1, h2⟩ := shp_all x
  refine ⟨?_, ?_⟩
  · show PyData.canLay0 (.list (x.map EqD.toD)) = true
    unfold PyData.canLay0; exact h1
  · show PyData.depth (.list (x.map EqD.toD)) ≤ n + 1
    unfold PyData.depth; omega⟩
instance {α : Type} {n : Nat} [Shp α n] : Shp (Tu α) (n + 1) := ⟨fun x => by
  obtain ⟨h1, h2⟩ := shp_all x.l
  refine ⟨?_, ?_⟩
  · show PyData.canLay0 (.tuple (x.l.map EqD.toD)) = true
    unfold PyData.canLay0; exact h1
  · show PyData.depth (.tuple (x.l.map EqD.toD)) ≤ n + 1
    unfold PyData.depth; omega⟩
instance {α β : Type} {n m : Nat} [Shp α n] [Shp β m] : Shp (α × β) (n + m + 1) := ⟨fun x => by
  obtain ⟨h1, h2⟩ := Shp.ok x.1
  obtain ⟨h3, h4⟩ := Shp.ok x.2
  refine ⟨?_, ?_⟩
  · show PyData.canLay0 (.tuple [EqD.toD x.1, EqD.toD x.2]) = true
    simp [PyData.canLay0, PyData.canLayAll0, h1, h3]
  · show PyData.depth (.tuple [EqD.toD x.1, EqD.toD x.2]) ≤ n + m + 1
    simp [PyData.depth, PyData.depthAll]
    omega⟩
instance {α : Type} {n : Nat} [Shp α n] : Shp (T1 α) (n + 1) := ⟨fun x => by
  obtain ⟨h1, h2⟩ := Shp.ok x.a
  refine ⟨?_, ?_⟩
  · show PyData.canLay0 (.tuple [EqD.toD x.a]) = true
    simp [PyData.canLay0, PyData.canLayAll0, h1]
  · show PyData.depth (.tuple [EqD.toD x.a]) ≤ n + 1
    simp [PyData.depth, PyData.depthAll]
    omega⟩
theorem shp_of {α : Type} {n : Nat} [Shp α n] (x : α) (h : n ≤ 64 := by decide) : shp x := by
  obtain ⟨h1, h2⟩ := Shp.ok x
  unfold shp SeqAt.shaped
  rw [h1, decide_eq_true (Nat.le_trans h2 h)]; rfl

def spLaw (K : PySem.W.Frag) : Sp := fun vs H Q _ => ∃ (a : Addr) (ns : List Int), vs = [.ref a] ∧ SqL K H a (ns.map V.int) ∧ ns.length ≤ 63 ∧ ∀ H', Q (.bl true) H'
theorem law_of {P : Program} {w : World} {K : PySem.W.Frag} {mg : Str → Option Value} {base : Heap} {CX : CXT} {k : Nat} {f : Addr} {fd : FuncData} {ps : List Str} {m : List Int × Unit → Option Bool} (F : FnOk P w K mg base CX k f fd ps (sp K m)) (h : ∀ ns : List Int, ns.length ≤ 63 → m (ns, ()) = some true) : FnOk P w K mg base CX k f fd ps (spLaw K) :=
  F.imp fun vs H Q E ⟨a, ns, e, hs, hl, q⟩ => by
    subst e
    exact ⟨⟨H, H, fun _ _ h => h⟩, (ns, ()), true, rfl, ⟨.ref a, [], rfl, ⟨a, ns.map V.int, rfl, hs, Reps.of_flat ns⟩, rfl⟩, h ns hl, fun v s' _ r => by rw [show v = V.bl true from r]; exact q _⟩
end Dy

namespace Dy
open PySem PySem.Spec L2
open PyProof.Rows hiding St
open Enc (rep)
open Flat (toV)
open EncA (repA)

def strI (x : Int) : Str := toString x
noncomputable def sortI (xs : List Int) : List Int := xs.mergeSort (fun x y => decide (x ≤ y))
def Fl.go {β ρ γ : Type} (o : Fl β ρ) (k : β → γ) (e : ρ → γ) : γ := match o with
  | .nx b => k b
  | .rt r => e r
@[irreducible] def fuel : Nat := 1000000
theorem rng_mem {a b x : Int} (h : x ∈ rng a b) : a ≤ x ∧ x < b := by
  obtain ⟨i, hi⟩ := List.mem_iff_getElem?.mp h
  obtain ⟨h1, h2⟩ := rng_get hi
  omega
theorem frzE {s0 s s' : S} {p : Addr} (E : Ex s0 s) (n : s0.H p = none) (h1 : s'.H = s.H) (h2 : Fle s.F s'.F) (h3 : ∀ q, q ≠ p → s'.F q = s.F q) : Ex s0 s' :=
  ⟨E.f.trans h2, fun a o h => by rw [h1]; exact E.h a o h, fun a o h m => by rw [h3 a (ne_of_none h n)]; exact E.n a o h m⟩
theorem ownFrz {α : Type} [Enc α] {K : PySem.W.Frag} {s s' : S} {p q : Addr} {xs : List α} (o : Own K s q xs) (hne : q ≠ p) (h1 : s'.H = s.H) (h2 : Fle s.F s'.F) (h3 : ∀ q, q ≠ p → s'.F q = s.F q) : Own K s' q xs := by
  obtain ⟨hn, vs, hp, r⟩ := o
  exact ⟨by rw [h3 q hne]; exact hn, vs, by rw [h1]; exact hp, r.mono h2⟩
section
variable {α β γ δ ε : Type} [Enc α] [Enc β] [Enc γ] [Enc δ] [Enc ε] {X : Cx} {σ : St} {s t : S} {e a b c tg iter : Expr} {es : List Expr} {pos p0 p1 p2 p3 : Pos} {D : Ends} {rest A B body : List Stmt}
theorem ec_andO {x r : Bool} (h : EvB X a σ s x) (h2 : x = true → EvC X (.BoolOp .And (b :: es) pos) σ s r) (h3 : x = false → r = false) : EvC X (.BoolOp .And (a :: b :: es) pos) σ s r := by
  cases x with
  | true => exact (ec_and h h2 : EvC X _ σ s (true && r))
  | false =>
    have := ec_and (y := false) (es := es) (b := b) (pos := pos) h (fun z => Bool.noConfusion z)
    rw [h3 rfl]
    exact this
theorem ec_orO {x r : Bool} (h : EvB X a σ s x) (h2 : x = false → EvC X (.BoolOp .Or (b :: es) pos) σ s r) (h3 : x = true → r = true) : EvC X (.BoolOp .Or (a :: b :: es) pos) σ s r := by
  cases x with
  | false => exact (ec_or h h2 : EvC X _ σ s (false || r))
  | true =>
    have := ec_or (y := true) (es := es) (b := b) (pos := pos) h (fun z => Bool.noConfusion z)
    rw [h3 rfl]
    exact this
theorem et_tru {xs : List α} (h : EvR X e σ s xs) (he : ∀ whole, isTrue e X.env whole = (do let v ← whole; standAt e.pos; holding [v] (truthy v)) := by intro _; rfl) : EvT X e σ s (!xs.isEmpty) := fun s1 k Q q =>
  wt_of (pt_truth pe_we he) (h s1 k _ fun v s2 k2 r => by
    obtain ⟨p, vs, rfl, h1, h2⟩ := r
    refine ⟨_, .inl ⟨vs, h1, ?_⟩, q s2 k2⟩
    have := h2.len
    cases vs <;> cases xs <;> simp at this ⊢)
theorem isi_optT {τ : Type} [Ty τ] (x : Option τ) {T : String} (h1 : ∀ y : τ, kitB (Ty.ty y) T = some true) (h2 : kitB "NoneType" T = some false) : kitB (Ty.ty x) T = some x.isSome := by
  cases x with
  | none => exact h2
  | some y => exact h1 y
theorem isi_optF {τ : Type} [Ty τ] (x : Option τ) {T : String} (h1 : ∀ y : τ, kitB (Ty.ty y) T = some false) (h2 : kitB "NoneType" T = some false) : kitB (Ty.ty x) T = some false := by
  cases x with
  | none => exact h2
  | some y => exact h1 y
theorem en_rev {xs : List α} {k q1 q2 q3} (ha : EvR X e σ s xs) : EvN X (.Subscript e (.Slice none none (some (.UnaryOp .USub (.Constant (.int 1) k q1) q2)) q3) pos) σ s xs.reverse := fun s1 k1 Q q =>
  we_of (pe_revL pe_we) (ha s1 k1 _ fun v s2 k2 r2 => by
    obtain ⟨p, vs, rfl, h1, h2⟩ := r2
    exact ⟨p, vs, rfl, h1, fun l hl => q l (s2.newO l _ hl) (k2.trans (Ex.newO hl)) (fr_back k2 hl) (own_new hl h2.rev)⟩)
theorem do_drop {x : α} (h : Ev X e σ s x) (k : ∀ s1, Ex s s1 → WSs X rest D σ s1.H) (hs : swapsWith e none pos.line X.env = pure false := by rfl) : WSs X (.Expr e pos :: rest) D σ s.H :=
  do_cons (ps_expr pe_we hs) (h s (Ex.refl _) _ fun v s1 k1 r => k s1 k1)
theorem do_unp2 (i j : Nat) {x : α × β} (h : Ev X e σ s x) (k : ∀ v w s1, Ex s s1 → rep X.K s1.F v x.1 → rep X.K s1.F w x.2 → WSs X rest D ((σ.set i (some v)).set j (some w)) s1.H)
    (hg : PG X tg (gTup X.K 2 (gCons (gName i) (gCons (gName j) gNil)))) (hs : swapsWithSole [tg] e pos.line X.env = pure false := by rfl) (hw : swappedStores [tg] e X.env = pure none := by rfl)
    (h1 : (assignEach [tg] X.env).map (·.2) = [assign tg X.env] := by rfl) : WSs X (.Assign [tg] e pos :: rest) D σ s.H :=
  do_cons (ps_asg pe_we hg hs hw h1) (h s (Ex.refl _) _ fun v s1 k1 r => by
    obtain ⟨p, v1, v2, rfl, h0, h1, h2⟩ := r
    exact ⟨p, _, rfl, sqt_mono s1.sub h0, rfl, v1, _, rfl, v2, _, rfl, rfl, k v1 v2 s1 k1 h1 h2⟩)
theorem do_unp3 (i j l : Nat) {x : T3 α β γ} (h : Ev X e σ s x) (k : ∀ v w u s1, Ex s s1 → rep X.K s1.F v x.a → rep X.K s1.F w x.b → rep X.K s1.F u x.c → WSs X rest D (((σ.set i (some v)).set j (some w)).set l (some u)) s1.H)
    (hg : PG X tg (gTup X.K 3 (gCons (gName i) (gCons (gName j) (gCons (gName l) gNil))))) (hs : swapsWithSole [tg] e pos.line X.env = pure false := by rfl) (hw : swappedStores [tg] e X.env = pure none := by rfl)
    (h1 : (assignEach [tg] X.env).map (·.2) = [assign tg X.env] := by rfl) : WSs X (.Assign [tg] e pos :: rest) D σ s.H :=
  do_cons (ps_asg pe_we hg hs hw h1) (h s (Ex.refl _) _ fun v s1 k1 r => by
    obtain ⟨p, v1, v2, v3, rfl, h0, h1, h2, h3⟩ := r
    exact ⟨p, _, rfl, sqt_mono s1.sub h0, rfl, v1, _, rfl, v2, _, rfl, v3, _, rfl, rfl, k v1 v2 v3 s1 k1 h1 h2 h3⟩)
theorem do_whileF {υ ρ : Type} {cf : υ → Option Bool} {f : υ → Option (Fl υ ρ)} {n : Nat} {b0 : υ} {o : Fl υ ρ} (hp : PassesOwn (model X.prog X.w) X.A X.env X.xe) (hf : whileF cf f n b0 = some o) (R : υ → St → S → Prop) (h0 : R b0 σ s)
    (hc : ∀ (b : υ) (x : Bool) (σ' : St) (t : S), cf b = some x → Fle s.F t.F → R b σ' t → EvT X c σ' t x)
    (hb : ∀ (b : υ) (q : Fl υ ρ) (σ' : St) (t t' : S), cf b = some true → f b = some q → (∀ r, q = .rt r → o = .rt r) → Fle s.F t.F → R b σ' t → Ex t t' → WSs X body (LD D fun σ s => ∃ b', q = .nx b' ∧ Fle t'.F s.F ∧ R b' σ s) σ' t'.H)
    (hd : ∀ b1 σ' t t', o = .nx b1 → cf b1 = some false → Fle s.F t.F → R b1 σ' t → Ex t t' → WSs X rest D σ' t'.H) : WSs X (.While c body [] pos :: rest) D σ s.H :=
  do_cons (ps_while hp pt_wt pss_ws) (by
    refine ⟨fun m σ' H' => ∃ (t : S) (b : υ), t.H = H' ∧ Fle s.F t.F ∧ whileF cf f m b = some o ∧ R b σ' t, ⟨n, s, b0, rfl, Fle.refl _, hf, h0⟩, ?_⟩
    rintro m σ' H' ⟨t, b, rfl, fl, h1, h2⟩
    cases m with
    | zero => cases h1
    | succ m =>
      obtain ⟨x, h3, h4⟩ := bndE h1
      refine hc b x σ' t h3 fl h2 t (Ex.refl _) _ fun t' kt => ?_
      cases x with
      | true =>
        refine iteT ?_
        rw [if_pos rfl] at h4
        obtain ⟨q, h5, h6⟩ := bndE h4
        refine ⟨fun σ3 H3 => ∃ b', q = .nx b' ∧ ∃ u : S, u.H = H3 ∧ Fle s.F u.F ∧ R b' σ3 u, fun σ3 H3 ⟨b', e0, u, e1, f1, r1⟩ => ⟨m, Nat.lt_succ_self _, u, b', e1, f1, by subst e0; exact h6, r1⟩, ?_⟩
        exact (hb b q σ' t t' h3 h5 (fun r e0 => by subst e0; exact (Option.some.inj h6).symm) fl h2 kt).imp (fun σ3 H3 ⟨u, e1, b', e2, f1, r1⟩ => ⟨b', e2, u, e1, (fl.trans kt.f).trans f1, r1⟩) (fun _ _ q => q) (fun _ _ q => q.elim) (fun _ _ q => q.elim)
      | false =>
        refine iteF ?_
        rw [if_neg Bool.false_ne_true] at h4
        cases h4
        exact hd b σ' t t' rfl h3 fl h2 kt)
end
end Dy

namespace Dy
open PySem PySem.Spec L2
open PyProof.Rows hiding St

def Ok {α : Type} (m : Option α) (P : α → Prop) : Prop := ∃ r, m = some r ∧ P r
section
variable {α β γ ρ : Type}
theorem Ok.imp {m : Option α} {P Q : α → Prop} (h : Ok m P) (k : ∀ r, P r → Q r) : Ok m Q := let ⟨r, e, p⟩ := h; ⟨r, e, k r p⟩
theorem Ok.eq {m : Option α} {x : α} (h : Ok m (· = x)) : m = some x := by obtain ⟨r, e, rfl⟩ := h; exact e
theorem ok_eq {m : Option α} {x : α} {P : α → Prop} (h : m = some x) (p : P x) : Ok m P := ⟨x, h, p⟩
theorem ok_some {x : α} {P : α → Prop} (p : P x) : Ok (some x) P := ⟨x, rfl, p⟩
theorem ok_bnd {m : Option α} {f : α → Option β} {P : α → Prop} {Q : β → Prop} (h : Ok m P) (k : ∀ r, P r → Ok (f r) Q) : Ok (bnd m f) Q := by
  obtain ⟨r, e, p⟩ := h
  subst e
  exact k r p
theorem ok_chk {c : Prop} {m : Option α} {Q : α → Prop} (h : c) (k : Ok m Q) : Ok (chk c m) Q := by rw [chk_pos h]; exact k
theorem ok_lt {x : α} {f : α → Option β} {Q : β → Prop} (k : ∀ y, y = x → Ok (f y) Q) : Ok (lt x f) Q := k x rfl
theorem ok_ite {b : Bool} {m k : Option α} {Q : α → Prop} (h1 : b = true → Ok m Q) (h2 : b = false → Ok k Q) : Ok (if b = true then m else k) Q := by
  cases b with
  | true => exact h1 rfl
  | false => exact h2 rfl
theorem ok_andO {a : Bool} {m : Option Bool} {Q : Bool → Prop} (h1 : a = true → Ok m Q) (h2 : a = false → Q false) : Ok (andO a m) Q := by
  cases a with
  | true => exact h1 rfl
  | false => exact ⟨false, rfl, h2 rfl⟩
theorem ok_orO {a : Bool} {m : Option Bool} {Q : Bool → Prop} (h1 : a = false → Ok m Q) (h2 : a = true → Q true) : Ok (orO a m) Q := by
  cases a with
  | false => exact h1 rfl
  | true => exact ⟨true, rfl, h2 rfl⟩
theorem ok_foldO {f : β → α → Option β} (I : Nat → β → Prop) : ∀ {xs : List α} {b : β} {Q : β → Prop}, I 0 b → (∀ i b x, xs[i]? = some x → I i b → Ok (f b x) (I (i + 1))) → (∀ b, I xs.length b → Q b) → Ok (foldO f b xs) Q := by
  have key : ∀ (xs : List α) (b : β) (k : Nat), I k b → (∀ i b x, xs[i]? = some x → I (k + i) b → Ok (f b x) (I (k + i + 1))) → Ok (foldO f b xs) (I (k + xs.length)) := by
    intro xs
    induction xs with
    | nil => intro b k h _; exact ⟨b, rfl, h⟩
    | cons x r ih =>
      intro b k h hs
      refine ok_bnd (hs 0 b x rfl h) fun b' h' => ?_
      have := ih b' (k + 1) h' (fun i b y hy hI => by
        have := hs (i + 1) b y (by simpa using hy) (by rw [show k + (i + 1) = k + 1 + i by omega]; exact hI)
        rw [show k + (i + 1) + 1 = k + 1 + i + 1 by omega] at this
        exact this)
      rw [List.length_cons, show k + (r.length + 1) = k + 1 + r.length by omega]
      exact this
  intro xs b Q h0 hs hd
  have := key xs b 0 h0 (fun i b x hx hI => by
    have := hs i b x hx (by rw [Nat.zero_add] at hI; exact hI)
    rw [Nat.zero_add]; exact this)
  rw [Nat.zero_add] at this
  exact this.imp hd
theorem ok_foldF {f : β → α → Option (Fl β ρ)} (I : Nat → β → Prop) (Rr : ρ → Prop) : ∀ {xs : List α} {b : β} {Q : Fl β ρ → Prop}, I 0 b → (∀ i b x, xs[i]? = some x → I i b → Ok (f b x) (fun o => match o with | .nx b' => I (i + 1) b' | .rt r => Rr r)) →
    (∀ b, I xs.length b → Q (.nx b)) → (∀ r, Rr r → Q (.rt r)) → Ok (foldF f b xs) Q := by
  have key : ∀ (xs : List α) (b : β) (k : Nat), I k b → (∀ i b x, xs[i]? = some x → I (k + i) b → Ok (f b x) (fun o => match o with | .nx b' => I (k + i + 1) b' | .rt r => Rr r)) → Ok (foldF f b xs) (fun o => match o with | .nx b' => I (k + xs.length) b' | .rt r => Rr r) := by
    intro xs
    induction xs with
    | nil => intro b k h _; exact ⟨.nx b, rfl, h⟩
    | cons x r ih =>
      intro b k h hs
      refine ok_bnd (hs 0 b x rfl h) fun o h' => ?_
      cases o with
      | rt r => exact ⟨.rt r, rfl, h'⟩
      | nx b' =>
        have := ih b' (k + 1) h' (fun i b y hy hI => by
          have := hs (i + 1) b y (by simpa using hy) (by rw [show k + (i + 1) = k + 1 + i by omega]; exact hI)
          rw [show k + (i + 1) + 1 = k + 1 + i + 1 by omega] at this
          exact this)
        rw [List.length_cons, show k + (r.length + 1) = k + 1 + r.length by omega]
        exact this
  intro xs b Q h0 hs hd hr
  have := key xs b 0 h0 (fun i b x hx hI => by
    have := hs i b x hx (by rw [Nat.zero_add] at hI; exact hI)
    rw [Nat.zero_add]; exact this)
  rw [Nat.zero_add] at this
  refine this.imp fun o h => ?_
  cases o with
  | nx b => exact hd b h
  | rt r => exact hr r h
theorem ok_go {o : Fl β ρ} {k : β → Option γ} {e : ρ → Option γ} {Q : γ → Prop} (h1 : ∀ b, o = .nx b → Ok (k b) Q) (h2 : ∀ r, o = .rt r → Ok (e r) Q) : Ok (o.go k e) Q := by
  cases o with
  | nx b => exact h1 b rfl
  | rt r => exact h2 r rfl
theorem ok_compO {t : α → Option Bool} {f : α → Option β} {P : α → β → Prop} {T : α → Bool} : ∀ {xs : List α}, (∀ x ∈ xs, Ok (t x) (· = T x)) → (∀ x ∈ xs, T x = true → Ok (f x) (P x)) → Ok (compO t f xs) (fun ys => ys.length = (xs.filter T).length ∧ ∀ (i : Nat) (y : β), ys[i]? = some y → ∃ x, (xs.filter T)[i]? = some x ∧ P x y)
  | [], _, _ => ⟨[], rfl, rfl, fun i y h => by simp at h⟩
  | x :: r, h1, h2 => by
    unfold compO
    refine ok_bnd (h1 x List.mem_cons_self) fun b hb => ?_
    subst hb
    have ih := ok_compO (xs := r) (fun z hz => h1 z (List.mem_cons_of_mem _ hz)) (fun z hz => h2 z (List.mem_cons_of_mem _ hz))
    refine ok_ite (fun hb => ?_) (fun hb => ?_)
    · refine ok_bnd (h2 x List.mem_cons_self hb) fun y hy => ?_
      refine ok_bnd ih fun ys ⟨e1, e2⟩ => ok_some ?_
      rw [List.filter_cons, if_pos hb]
      refine ⟨by simp [e1], fun i z hz => ?_⟩
      cases i with
      | zero => simp at hz; subst hz; exact ⟨x, rfl, hy⟩
      | succ i => exact e2 i z (by simpa using hz)
    · rw [List.filter_cons, if_neg (by rw [hb]; exact Bool.false_ne_true)]
      exact ih
theorem ok_mapO {f : α → Option β} {P : α → β → Prop} {xs : List α} (h : ∀ x ∈ xs, Ok (f x) (P x)) : Ok (mapO f xs) (fun ys => ys.length = xs.length ∧ ∀ (i : Nat) (y : β), ys[i]? = some y → ∃ x, xs[i]? = some x ∧ P x y) := by
  have := ok_compO (t := fun _ => some true) (T := fun _ => true) (xs := xs) (fun x _ => ok_some rfl) (fun x hx _ => h x hx)
  rw [show xs.filter (fun _ => true) = xs from List.filter_eq_self.mpr (fun _ _ => rfl)] at this
  exact this
theorem mapO_eq {f : α → Option β} {g : α → β} : ∀ {xs : List α}, (∀ x ∈ xs, f x = some (g x)) → mapO f xs = some (xs.map g)
  | [], _ => rfl
  | x :: r, h => by
    have ih := mapO_eq (xs := r) (fun z hz => h z (List.mem_cons_of_mem _ hz))
    unfold mapO at ih ⊢
    unfold compO
    rw [Option.bind_some, if_pos rfl, h x List.mem_cons_self, Option.bind_some, ih]
    rfl
theorem compO_eq {t : α → Option Bool} {T : α → Bool} {f : α → Option β} {g : α → β} : ∀ {xs : List α}, (∀ x ∈ xs, t x = some (T x)) → (∀ x ∈ xs, T x = true → f x = some (g x)) → compO t f xs = some ((xs.filter T).map g)
  | [], _, _ => rfl
  | x :: r, h1, h2 => by
    have ih := compO_eq (xs := r) (fun z hz => h1 z (List.mem_cons_of_mem _ hz)) (fun z hz => h2 z (List.mem_cons_of_mem _ hz))
    unfold compO
    rw [h1 x List.mem_cons_self, Option.bind_some, List.filter_cons]
    cases hT : T x with
    | true => rw [if_pos rfl, if_pos rfl, h2 x List.mem_cons_self hT, Option.bind_some, ih]; rfl
    | false => rw [if_neg Bool.false_ne_true, if_neg Bool.false_ne_true, ih]
theorem foldO_eq {f : β → α → Option β} {g : β → α → β} : ∀ {xs : List α} {b : β}, (∀ b, ∀ x ∈ xs, f b x = some (g b x)) → foldO f b xs = some (xs.foldl g b)
  | [], _, _ => rfl
  | x :: r, b, h => by
    unfold foldO
    rw [h b x List.mem_cons_self, Option.bind_some, foldO_eq (xs := r) (fun b z hz => h b z (List.mem_cons_of_mem _ hz))]
    rfl
theorem ok_whileO {c : β → Option Bool} {f : β → Option β} (I : β → Prop) (μ : β → Nat) {Q : β → Prop} (hc : ∀ b, I b → Ok (c b) (fun t => if t = true then Ok (f b) (fun b' => I b' ∧ μ b' < μ b) else Q b)) : ∀ (n : Nat) (b : β), I b → μ b < n → Ok (whileO c f n b) Q
  | 0, b, _, h => absurd h (Nat.not_lt_zero _)
  | n + 1, b, hI, h => by
    unfold whileO
    refine ok_bnd (hc b hI) fun t ht => ?_
    cases t with
    | true =>
      rw [if_pos rfl] at ht ⊢
      exact ok_bnd ht fun b' ⟨h1, h2⟩ => ok_whileO I μ hc n b' h1 (by omega)
    | false =>
      rw [if_neg Bool.false_ne_true] at ht ⊢
      exact ok_some ht
theorem ok_whileF {c : β → Option Bool} {f : β → Option (Fl β ρ)} (I : β → Prop) (μ : β → Nat) {Q : Fl β ρ → Prop} (hc : ∀ b, I b → Ok (c b) (fun t => if t = true then Ok (f b) (fun o => match o with | .nx b' => I b' ∧ μ b' < μ b | .rt r => Q (.rt r)) else Q (.nx b))) : ∀ (n : Nat) (b : β), I b → μ b < n → Ok (whileF c f n b) Q
  | 0, b, _, h => absurd h (Nat.not_lt_zero _)
  | n + 1, b, hI, h => by
    unfold whileF
    refine ok_bnd (hc b hI) fun t ht => ?_
    cases t with
    | true =>
      rw [if_pos rfl] at ht ⊢
      refine ok_bnd ht fun o ho => ?_
      cases o with
      | nx b' => exact ok_whileF I μ hc n b' ho.1 (by have := ho.2; omega)
      | rt r => exact ok_some ho
    | false =>
      rw [if_neg Bool.false_ne_true] at ht ⊢
      exact ok_some ht
theorem fuel_eq : fuel = 1000000 := by unfold fuel; rfl
theorem mul_l {x y : Int} (h1 : -1000000000000000000 < x) (h2 : x < 1000000000000000000) : MulOk x y := .inl (.inl ⟨by omega, by omega⟩)
theorem mul_r {x y : Int} (h1 : -1000000000000000000 < y) (h2 : y < 1000000000000000000) : MulOk x y := .inl (.inr ⟨by omega, by omega⟩)
set_option exponentiation.threshold 10000 in
theorem div_small {y : Int} (h1 : 0 < y) (h2 : y < 1000000000000000000) : DivOk y := ⟨h1, PySem.Flt.log2_lt_of (by decide) (show y.natAbs < 2 ^ 9000 from Nat.lt_of_lt_of_le (show y.natAbs < 2 ^ 64 by omega) (Nat.pow_le_pow_right (by decide) (by decide)))⟩
theorem szl : sizeLine = 16777216 := rfl
theorem atI_get {xs : List α} {i : Int} (h0 : 0 ≤ i) (h1 : i < xs.length) : atI xs i = xs[i.toNat]? := by
  unfold atI ixN
  rw [if_pos h0, if_pos h1]; rfl
theorem ok_atI {xs : List α} {i : Int} {Q : α → Prop} (h0 : 0 ≤ i) (h1 : i < xs.length) (h : ∀ x, xs[i.toNat]? = some x → Q x) : Ok (atI xs i) Q := by
  rw [atI_get h0 h1]
  have hl : i.toNat < xs.length := by omega
  exact ⟨xs[i.toNat], List.getElem?_eq_getElem hl, h _ (List.getElem?_eq_getElem hl)⟩
theorem cut_len_le (xs : List α) (lo hi : Option Int) : (cut xs lo hi).length ≤ xs.length := by
  unfold cut
  rw [List.length_take, List.length_drop]
  omega
theorem cut_hi (xs : List α) (n : Nat) : cut xs none (some (n : Int)) = xs.take n := by
  unfold cut
  rw [HT.sIx_none, show HT.sIx xs.length xs.length (some (n : Int)) = min n xs.length from HT.sIx_nat xs.length xs.length n]
  simp only [List.drop_zero, Nat.sub_zero]
  by_cases h : n ≤ xs.length
  · rw [Nat.min_eq_left h]
  · rw [Nat.min_eq_right (by omega), List.take_of_length_le (Nat.le_refl _), List.take_of_length_le (by omega)]
theorem rng_len_nn {n : Int} (h : 0 ≤ n) : (rng 0 n).length = n.toNat := by rw [rng_len]; congr 1; omega
theorem rng_at {a b : Int} {i : Nat} {x : Int} (h : (rng a b)[i]? = some x) : x = a + (i : Int) ∧ a + (i : Int) < b := by
  obtain ⟨h1, h2⟩ := rng_get h
  omega
end
theorem chars_len (x : Str) : (chars x).length = x.length := by
  unfold chars
  rw [List.length_map, Array.length_toList]; rfl
theorem join_len0 (ys : List Str) : (Txt.join ("" : Str) ys).length = (ys.map (·.length)).sum := by
  have h : ∀ z : Str, z.length = (TL.tl z).length := fun z => by show z.cps.size = z.cps.toList.length; rw [Array.length_toList]
  have key : ∀ ps : List (List Nat), (TL.joinL [] ps).length = (ps.map List.length).sum := by
    intro ps
    induction ps with
    | nil => rfl
    | cons p r ih =>
      cases r with
      | nil => simp [TL.joinL]
      | cons q r =>
        have e : TL.joinL [] (p :: q :: r) = p ++ ([] ++ TL.joinL [] (q :: r)) := by simp [TL.joinL]
        rw [e, List.nil_append, List.length_append, ih]; rfl
  rw [h, TL.join_eq, TL.tl_join, show TL.tl ("" : Str) = [] from rfl, key, List.map_map]
  exact congrArg List.sum (List.map_congr_left fun z _ => (h z).symm)
theorem sum_ones {ys : List Str} (h : ∀ y ∈ ys, y.length = 1) : (ys.map (·.length)).sum = ys.length := by
  induction ys with
  | nil => rfl
  | cons y r ih =>
    rw [List.map_cons, List.sum_cons, ih fun z hz => h z (List.mem_cons_of_mem _ hz), h y List.mem_cons_self, List.length_cons]
    omega
theorem foldF_any {α ρ : Type} {p : α → Bool} {f : Unit → α → Option (Fl Unit ρ)} {r : ρ} (h : ∀ x, f () x = if p x = true then some (.rt r) else some (.nx ())) : ∀ xs : List α, foldF f () xs = some (if xs.any p = true then .rt r else .nx ())
  | [] => rfl
  | x :: xs => by
    unfold foldF
    rw [h x, List.any_cons]
    cases hp : p x with
    | true => rfl
    | false =>
      rw [if_neg Bool.false_ne_true]
      show foldF f () xs = _
      rw [foldF_any h xs, Bool.false_or]
end Dy

namespace Dy
open PySem PySem.Spec L2
open PyProof.Rows hiding St
open Enc (rep)
open Flat (toV)
open EncA (repA)

section
variable {α β γ δ : Type} [Enc α] [Enc β] [Enc γ] [Enc δ] {X : Cx} {σ : St} {s t : S} {e a b c tg iter : Expr} {es : List Expr} {pos p0 p1 p2 p3 : Pos} {D : Ends} {rest A B body : List Stmt}
def RepS (x : Str) (n : Int) : Prop := PySem.MulOk x n
@[irreducible] def replS (x : Str) (n : Int) : Str := Txt.mul x n
theorem op_repStr : OpR X (binaryOp .Mult) (fun x y H Q => ∃ z n, x = .str z ∧ y = .int n ∧ RepS z n ∧ Q (.str (replS z n)) H) := by
  intro pins s σ H x y v u Q I rx ry h
  obtain ⟨z, n, rfl, rfl, hok, q⟩ := h
  obtain ⟨t, rfl⟩ := rx
  obtain ⟨t', rfl⟩ := ry
  unfold replS at q
  exact PySem.SB.mul hok fun t' k => ⟨.str _, H, I.tok _, ⟨_, rfl⟩, q⟩
theorem ev_repS {x : Str} {n : Int} (ha : Ev X a σ s x) (hb : Ev X b σ s n) (h : RepS x n) : Ev X (.BinOp a .Mult b pos) σ s (replS x n) :=
  ev_op op_repStr ha hb fun v u s2 hv hu Q q => ⟨x, n, hv, hu, h, q _ s2 (Ex.refl _) rfl⟩
theorem repS_small {x : Str} {n : Int} (h0 : x.length ≤ 1000) (h1 : n ≤ 1000) (h2 : -1000 ≤ n) : RepS x n := by
  refine ⟨by rw [Bool.or_eq_false_iff]; exact ⟨decide_eq_false (by omega), decide_eq_false (by omega)⟩, fun h3 _ => ?_, fun h3 _ => ?_⟩
  · intro h
    have : (2 ^ 63 - 1) / n ≥ 1000 := by
      refine (Int.le_ediv_iff_mul_le (by omega)).mpr ?_
      omega
    omega
  · unfold Builtin.Str.tooLong
    have : x.length * n.toNat ≤ 1000 * 1000 := Nat.mul_le_mul h0 (by omega)
    refine decide_eq_false ?_
    have := szl
    omega
def stepN (a b c : Int) : Nat := if a < b then ((b - a - 1) / c + 1).toNat else 0
def rngS (a b c : Int) : List Int := (List.range (stepN a b c)).map fun i : Nat => a + (i : Int) * c
def RgS (a b c : Int) : Prop := (-(2 ^ 61) ≤ a ∧ a < 2 ^ 61) ∧ (-(2 ^ 61) ≤ b ∧ b < 2 ^ 61) ∧ 0 < c ∧ c < 1000000
theorem rgC_of {a b c : Int} (h : RgS a b c) : RgC a b c (stepN a b c) := by
  obtain ⟨⟨h1, h2⟩, ⟨h3, h4⟩, h5, h6⟩ := h
  have hs : Builtin.Range.rangeSize a b c = (stepN a b c : Nat) := by
    unfold Builtin.Range.rangeSize stepN
    rw [if_pos h5]
    split
    · have : 0 ≤ (b - a - 1) / c := Int.ediv_nonneg (by omega) (by omega)
      omega
    · rfl
  refine ⟨by omega, by omega, ?_, hs⟩
  have e1 : a < b → c * ((b - a - 1) / c) ≤ b - a - 1 := fun _ => Int.mul_ediv_self_le (by omega)
  have e2 : a < b → 0 ≤ (b - a - 1) / c := fun _ => Int.ediv_nonneg (by omega) (by omega)
  have e3 : a < b → (b - a - 1) / c ≤ b - a - 1 := fun _ => by
    refine Int.ediv_le_self _ (by omega)
  unfold Builtin.Range.small
  unfold Builtin.Range.rangeSize
  simp only [Builtin.Range.rangeFitsLong, Bool.and_eq_true, Bool.or_eq_true, decide_eq_true_eq, beq_iff_eq, if_pos h5]
  split
  · rename_i hlt
    have e1 := e1 hlt
    have e2 := e2 hlt
    have e3 := e3 hlt
    generalize hq : (b - a - 1) / c = q at *
    have e4 : c * q = q * c := Int.mul_comm _ _
    have e5 : (q + 1) * c = q * c + c := by rw [Int.add_mul]; omega
    have e6 : 0 ≤ c * q := Int.mul_nonneg (by omega) e2
    refine ⟨?_, ?_⟩ <;> omega
  · omega
theorem rngS_get {a b c : Int} {i : Nat} {x : Int} (h : (rngS a b c)[i]? = some x) : i < stepN a b c ∧ x = a + (i : Int) * c := by
  unfold rngS at h
  rw [List.getElem?_map] at h
  obtain ⟨j, h1, rfl⟩ := Option.map_eq_some_iff.mp h
  obtain ⟨h2, h3⟩ := List.getElem?_eq_some_iff.mp h1
  rw [List.length_range] at h2
  rw [List.getElem_range] at h3
  subst h3
  exact ⟨h2, rfl⟩
theorem rngS_len (a b c : Int) : (rngS a b c).length = stepN a b c := by unfold rngS; rw [List.length_map, List.length_range]
theorem ei_range3 {x y z : Int} (hm : X.mg "range" = none) (ha : Ev X a σ s x) (hb : Ev X b σ s y) (hc : Ev X c σ s z) (h : RgS x y z) (hg : Gl X "range" := by rfl)
    (hs : starEach [a, b, c] X.env = (false, eval a X.env) :: starEach [b, c] X.env := by rfl) (hs2 : starEach [b, c] X.env = (false, eval b X.env) :: starEach [c] X.env := by rfl) (hs3 : starEach [c] X.env = (false, eval c X.env) :: starEach [] X.env := by rfl) (hpl : (backTo pos (starEach [b, c] X.env)).any (·.1) = false := by rfl) :
    EvI X tg (.Call (.Name "range" p0) [a, b, c] [] pos) σ s (rngS x y z) := fun s1 k R q =>
  wi_of (pi_range3 hg hm (pa_cons pe_we (pa_cons pe_we (pa_cons pe_we pa_nil hs3) hs2) hs) hs hpl) (ha s1 k _ fun v s2 k2 r2 => hb s2 (k.trans k2) _ fun u s3 k3 r3 => hc s3 ((k.trans k2).trans k3) _ fun w s4 k4 r4 =>
    ⟨x, y, z, stepN x y z, by rw [show v = V.int x from r2, show u = V.int y from r3, show w = V.int z from r4], rgC_of h, q _ s4 ((k2.trans k3).trans k4) ⟨fun i t w f hw => ⟨(rngS_get hw).1, fun v' H' ⟨e1, e2⟩ => ⟨t, e1.symm, Ex.refl _, by rw [e2, (rngS_get hw).2]; rfl⟩⟩, fun i t f hi => by rw [rngS_len] at hi; exact hi⟩⟩)
theorem ev_isiR {xs : List α} {n : Str} {T : String} {r : Bool} (hm : X.mg "isinstance" = none) (hn : X.mg n = none) (hv : bootBuiltins n = some (.type T)) (ha : EvR X a σ s xs) (h : kitB "list" T = some r)
    (hg : Gl X "isinstance" := by rfl) (hgn : Gl X n := by rfl) (he : starEach [a, .Name n p1] X.env = (false, eval a X.env) :: starEach [.Name n p1] X.env := by rfl) (he2 : starEach [.Name n p1] X.env = (false, eval (.Name n p1) X.env) :: starEach [] X.env := by rfl) (hpl : (backTo pos (starEach [.Name n p1] X.env)).any (·.1) = false := by rfl)
    (hnn : n ≠ "__name__" := by decide) (hnd : (n == ("__debug__" : Str)) = false := by decide) :
    Ev X (.Call (.Name "isinstance" p0) [a, .Name n p1] [] pos) σ s r := fun s1 k Q q =>
  we_of (pe_callB call_isi hg hm (by decide +kernel) (pa_cons pe_we (pa_cons (pe_bltn (v := .ty T) hgn hn hv rfl hnn hnd) pa_nil he2) he) (he := he) (hpl := hpl)) (ha s1 k _ fun v s2 k2 r2 => by
    obtain ⟨p, vs, rfl, h1, _⟩ := r2
    exact ⟨.ref p, .ty T, .type "list", .type T, r, rfl, .ty T, sql_ty h1, kit_ty h, q _ s2 k2 rfl⟩)
theorem eb_isB {x y : Bool} (ha : Ev X a σ s x) (hb : Ev X b σ s y) : EvB X (.Compare a [.Is] [b] pos) σ s (decide (x = y)) :=
  eb_cmp op_isBl ha hb (fun v u s2 hv hu Q q => ⟨x, y, hv, hu, q⟩) (nomark _)
theorem eb_isnotB {x y : Bool} (ha : Ev X a σ s x) (hb : Ev X b σ s y) : EvB X (.Compare a [.IsNot] [b] pos) σ s (!decide (x = y)) :=
  eb_cmp op_notBl ha hb (fun v u s2 hv hu Q q => ⟨x, y, hv, hu, q⟩) (nomark _)
theorem ev_sliceT {x : Tu α} {lo hi : Option Expr} {l h : Option Int} (ha : Ev X a σ s x) (hl : EvO X lo σ s l) (hh : EvO X hi σ s h) : Ev X (.Subscript a (.Slice lo hi none p2) pos) σ s (Tu.mk (cut x.l l h)) := fun s1 k Q q => by
  obtain ⟨tl, pl, ql⟩ := po_evo hl
  obtain ⟨th, ph, qh⟩ := po_evo hh
  refine we_of (pe_slice sl_tupA pe_we pl ph) (ha s1 k _ fun v s2 k2 r2 => ql s2 (k.trans k2) _ fun s3 k3 => qh s3 ((k.trans k2).trans k3) _ fun s4 k4 => ?_)
  obtain ⟨p, vs, rfl, h1, h2⟩ := Enc.mono (α := Tu α) (k3.trans k4).f r2
  have kk := (k2.trans k3).trans k4
  refine ⟨p, vs, rfl, sqt_mono s4.sub h1, fun hw => ?_, fun _ l hl => q _ (s4.newF l _ hl) (kk.trans (Ex.newF hl)) ⟨l, _, rfl, tup_new hl, (h2.cut _ _).mono (Ex.newF hl).f⟩⟩
  refine q _ s4 kk ⟨p, vs, rfl, h1, ?_⟩
  have e : cut x.l l h = x.l := by
    unfold cut
    rw [← h2.len, hw.1, hw.2, List.drop_zero, Nat.sub_zero, h2.len, List.take_length]
  show Reps _ _ vs (cut x.l l h)
  rw [e]; exact h2
def popN (n : Nat) (i : Int) : Option Nat := if -(2 ^ 63) ≤ i ∧ i < 2 ^ 63 then seqIndex? i n else none
theorem seqIx_lt {n : Nat} {i : Int} {k : Nat} (h : seqIndex? i n = some k) : k < n := by
  unfold seqIndex? at h
  dsimp only at h
  split at h <;> split at h
  all_goals first | (rename_i h2; simp only [Bool.and_eq_true, decide_eq_true_eq] at h2; cases h; omega) | cases h
theorem do_popAt (i : Nat) {p : Addr} {n : Str} {xs : List α} {z : Int} {j : Nat} (hσ : σ[i]? = some (some (.ref p))) (o : Own X.K s p xs) (he : Ev X e σ s z) (hj : popN xs.length z = some j)
    (k : ∀ s1, Mx (· = p) s s1 → Own X.K s1 p (xs.eraseIdx j) → WSs X rest D σ s1.H)
    (hN : X.N[i]? = some n := by rfl) (hv : Vis X.env.scope n := by first | exact Or.inl rfl | exact Or.inr (Or.inl rfl) | exact Or.inr (Or.inr rfl)) (hd : (n == ("__debug__" : Str)) = false := by decide) (hcd : (n == ("__classdict__" : Str)) = false := by decide)
    (hbase : attributeBase (.Name n p0) "pop" X.env (eval (.Name n p0) X.env) = eval (.Name n p0) X.env := by rfl)
    (hfew : ((backTo p2 (starEach [e] X.env)).all (fun x => !x.1) && (backToKw p2 (keywordEach [] X.env)).all (fun x => x.1.isSome) && decide (([e] : List Expr).length + ([] : List Keyword).length + (if ([] : List Keyword).isEmpty then 0 else 1) < 30)) = true := by rfl)
    (hline : (p1.endLine == p2.line) = true := by rfl) (hs : starEach [e] X.env = (false, eval e X.env) :: starEach [] X.env := by rfl) (hplain : (backTo p2 (starEach [] X.env)).any (·.1) = false := by rfl)
    (hsw : swapsWith (.Call (.Attribute (.Name n p0) "pop" p1) [e] [] p2) none p3.line X.env = pure false := by rfl) :
    WSs X (.Expr (.Call (.Attribute (.Name n p0) "pop" p1) [e] [] p2) p3 :: rest) D σ s.H :=
  do_cons (ps_expr (pe_bm PySem.F.plainAttrs_list PySem.F.slot_list_pop PySem.F.type_list_pop mt_popAt (pe_var hN hv hd hcd) (pa_cons pe_we pa_nil hs) hbase hfew hline hs hplain) hsw) (by
    obtain ⟨h1, vs, h2, h3⟩ := id o
    refine ⟨_, hσ, .inl ⟨rfl, vs, .inl (.inl h2)⟩, he s (Ex.refl _) _ fun v s1 k1 r1 => ?_⟩
    have f1 := k1.n _ _ h2 h1
    have g1 := k1.h _ _ h2
    unfold popN at hj
    split at hj
    · rename_i hb
      have hlt : j < vs.length := by rw [h3.len]; exact seqIx_lt hj
      refine ⟨p, vs, z, j, vs[j], rfl, by rw [show v = V.int z from r1], g1, hb.1, hb.2, by rw [h3.len]; exact hj, List.getElem?_eq_getElem hlt, ?_⟩
      exact k (s1.put p (.lst (vs.eraseIdx j)) f1) (k1.mx.trans (Mx.put f1)) ⟨f1, _, upd_same, (h3.mono k1.f).erase j⟩
    · cases hj)
def InsOk (i : Int) (n : Nat) : Prop := 0 ≤ i ∧ i < 2 ^ 63 ∧ n < sizeLine
def insI {τ : Type} (xs : List τ) (i : Int) (x : τ) : List τ := xs.take i.toNat ++ [x] ++ xs.drop i.toNat
theorem do_insert (i : Nat) {p : Addr} {n : Str} {xs : List α} {z : Int} {x : α} (hσ : σ[i]? = some (some (.ref p))) (o : Own X.K s p xs) (ha : Ev X a σ s z) (hb : Ev X b σ s x) (hj : InsOk z xs.length)
    (k : ∀ s1, Mx (· = p) s s1 → Own X.K s1 p (insI xs z x) → WSs X rest D σ s1.H)
    (hN : X.N[i]? = some n := by rfl) (hv : Vis X.env.scope n := by first | exact Or.inl rfl | exact Or.inr (Or.inl rfl) | exact Or.inr (Or.inr rfl)) (hd : (n == ("__debug__" : Str)) = false := by decide) (hcd : (n == ("__classdict__" : Str)) = false := by decide)
    (hbase : attributeBase (.Name n p0) "insert" X.env (eval (.Name n p0) X.env) = eval (.Name n p0) X.env := by rfl)
    (hfew : ((backTo p2 (starEach [a, b] X.env)).all (fun x => !x.1) && (backToKw p2 (keywordEach [] X.env)).all (fun x => x.1.isSome) && decide (([a, b] : List Expr).length + ([] : List Keyword).length + (if ([] : List Keyword).isEmpty then 0 else 1) < 30)) = true := by rfl)
    (hline : (p1.endLine == p2.line) = true := by rfl) (hs : starEach [a, b] X.env = (false, eval a X.env) :: starEach [b] X.env := by rfl) (hs2 : starEach [b] X.env = (false, eval b X.env) :: starEach [] X.env := by rfl) (hplain : (backTo p2 (starEach [b] X.env)).any (·.1) = false := by rfl)
    (hsw : swapsWith (.Call (.Attribute (.Name n p0) "insert" p1) [a, b] [] p2) none p3.line X.env = pure false := by rfl) :
    WSs X (.Expr (.Call (.Attribute (.Name n p0) "insert" p1) [a, b] [] p2) p3 :: rest) D σ s.H :=
  do_cons (ps_expr (pe_bm PySem.F.plainAttrs_list PySem.F.slot_list_insert PySem.F.type_list_insert mt_insert (pe_var hN hv hd hcd) (pa_cons pe_we (pa_cons pe_we pa_nil hs2) hs) hbase hfew hline hs hplain) hsw) (by
    obtain ⟨h1, vs, h2, h3⟩ := id o
    refine ⟨_, hσ, .inl ⟨rfl, vs, .inl (.inl h2)⟩, ha s (Ex.refl _) _ fun u s1 k1 r1 => hb s1 k1 _ fun v s2 k2 r2 => ?_⟩
    have kk := k1.trans k2
    have f1 := kk.n _ _ h2 h1
    have g1 := kk.h _ _ h2
    refine ⟨p, vs, z, v, rfl, by rw [show u = V.int z from r1], g1, by rw [h3.len]; exact hj.2.2, hj.1, hj.2.1, ?_⟩
    exact k (s2.put p (.lst (vs.take z.toNat ++ [v] ++ vs.drop z.toNat)) f1) (kk.mx.trans (Mx.put f1)) ⟨f1, _, upd_same, (((h3.mono kk.f).take _).snoc r2).app ((h3.mono kk.f).drop _)⟩)
theorem do_reverse (i : Nat) {p : Addr} {n : Str} {xs : List α} (hσ : σ[i]? = some (some (.ref p))) (o : Own X.K s p xs)
    (k : ∀ s1, Mx (· = p) s s1 → Own X.K s1 p xs.reverse → WSs X rest D σ s1.H)
    (hN : X.N[i]? = some n := by rfl) (hv : Vis X.env.scope n := by first | exact Or.inl rfl | exact Or.inr (Or.inl rfl) | exact Or.inr (Or.inr rfl)) (hd : (n == ("__debug__" : Str)) = false := by decide) (hcd : (n == ("__classdict__" : Str)) = false := by decide)
    (hbase : attributeBase (.Name n p0) "reverse" X.env (eval (.Name n p0) X.env) = eval (.Name n p0) X.env := by rfl) (hline : (p1.endLine == p2.line) = true := by rfl)
    (hsw : swapsWith (.Call (.Attribute (.Name n p0) "reverse" p1) [] [] p2) none p3.line X.env = pure false := by rfl) :
    WSs X (.Expr (.Call (.Attribute (.Name n p0) "reverse" p1) [] [] p2) p3 :: rest) D σ s.H :=
  do_cons (ps_expr (pe_bm0 PySem.F.plainAttrs_list PySem.F.slot_list_reverse PySem.F.type_list_reverse mt_reverse (pe_var hN hv hd hcd) hbase hline) hsw) (by
    obtain ⟨h1, vs, h2, h3⟩ := id o
    refine ⟨_, hσ, .inl ⟨rfl, vs, .inl (.inl h2)⟩, p, vs, rfl, rfl, h2, ?_⟩
    exact k (s.put p (.lst vs.reverse) h1) (Mx.put h1) ⟨h1, _, upd_same, h3.rev⟩)
theorem do_clear (i : Nat) {p : Addr} {n : Str} {xs : List α} (hσ : σ[i]? = some (some (.ref p))) (o : Own X.K s p xs)
    (k : ∀ s1, Mx (· = p) s s1 → Own X.K s1 p ([] : List α) → WSs X rest D σ s1.H)
    (hN : X.N[i]? = some n := by rfl) (hv : Vis X.env.scope n := by first | exact Or.inl rfl | exact Or.inr (Or.inl rfl) | exact Or.inr (Or.inr rfl)) (hd : (n == ("__debug__" : Str)) = false := by decide) (hcd : (n == ("__classdict__" : Str)) = false := by decide)
    (hbase : attributeBase (.Name n p0) "clear" X.env (eval (.Name n p0) X.env) = eval (.Name n p0) X.env := by rfl) (hline : (p1.endLine == p2.line) = true := by rfl)
    (hsw : swapsWith (.Call (.Attribute (.Name n p0) "clear" p1) [] [] p2) none p3.line X.env = pure false := by rfl) :
    WSs X (.Expr (.Call (.Attribute (.Name n p0) "clear" p1) [] [] p2) p3 :: rest) D σ s.H :=
  do_cons (ps_expr (pe_bm0 PySem.F.plainAttrs_list PySem.F.slot_list_clear PySem.F.type_list_clear mt_clear (pe_var hN hv hd hcd) hbase hline) hsw) (by
    obtain ⟨h1, vs, h2, h3⟩ := id o
    refine ⟨_, hσ, .inl ⟨rfl, vs, .inl (.inl h2)⟩, p, vs, rfl, rfl, h2, ?_⟩
    exact k (s.put p (.lst []) h1) (Mx.put h1) ⟨h1, _, upd_same, trivial⟩)
theorem ev_catT {x y : Tu α} (ha : Ev X a σ s x) (hb : Ev X b σ s y) (hz : x.l.length + y.l.length ≤ sizeLine) : Ev X (.BinOp a .Add b pos) σ s (Tu.mk (x.l ++ y.l)) := fun s1 k Q q =>
  we_of (pe_op op_catA pe_we pe_we) (ha s1 k _ fun v s2 k2 r2 => hb s2 (k.trans k2) _ fun u s3 k3 r3 => by
    obtain ⟨p, vs, rfl, h1, h2⟩ := Enc.mono (α := Tu α) k3.f r2
    obtain ⟨p', ws, rfl, h3, h4⟩ := r3
    have kk := k2.trans k3
    refine ⟨p, p', vs, ws, rfl, rfl, sqt_mono s3.sub h1, sqt_mono s3.sub h3, by rw [h2.len, h4.len]; exact hz, fun e => ?_, fun _ e => ?_, fun _ _ l hl => q _ (s3.newF l _ hl) (kk.trans (Ex.newF hl)) ⟨l, _, rfl, tup_new hl, (h2.app h4).mono (Ex.newF hl).f⟩⟩
    · refine q _ s3 kk ⟨p', ws, rfl, h3, ?_⟩
      subst e
      have e2 : x.l = [] := List.length_eq_zero_iff.mp h2.len.symm
      show Reps _ _ ws (x.l ++ y.l)
      rw [e2]; exact h4
    · refine q _ s3 kk ⟨p, vs, rfl, h1, ?_⟩
      subst e
      have e2 : y.l = [] := List.length_eq_zero_iff.mp h4.len.symm
      show Reps _ _ vs (x.l ++ y.l)
      rw [e2, List.append_nil]; exact h2)
end
theorem foldO_app {α β : Type} {N : Nat} {f : List β → α → Option (List β)} {g : α → β} : ∀ {xs : List α} {b : List β}, (∀ b x, b.length < N → x ∈ xs → f b x = some (b ++ [g x])) → b.length + xs.length ≤ N → foldO f b xs = some (b ++ xs.map g)
  | [], b, _, _ => by simp [foldO]
  | x :: r, b, h, hl => by
    rw [List.length_cons] at hl
    unfold foldO
    rw [h b x (by omega) List.mem_cons_self, Option.bind_some, foldO_app (xs := r) (b := b ++ [g x]) (fun b y hb hy => h b y hb (List.mem_cons_of_mem _ hy)) (by rw [List.length_append, List.length_singleton]; omega)]
    simp
theorem atI_map {α β : Type} {f : α → β} {xs : List α} {i : Int} {x : α} (h : atI xs i = some x) : atI (xs.map f) i = some (f x) := by
  unfold atI at h ⊢
  rw [List.length_map]
  cases hj : ixN xs.length i with
  | none => rw [hj] at h; cases h
  | some j =>
    rw [hj] at h
    show (xs.map f)[j]? = _
    rw [List.getElem?_map]
    have : xs[j]? = some x := h
    rw [this]; rfl
theorem foldF_none {α ρ : Type} {f : Unit → α → Option (Fl Unit ρ)} : ∀ {xs : List α}, (∀ x ∈ xs, f () x = some (.nx ())) → foldF f () xs = some (.nx ())
  | [], _ => rfl
  | x :: r, h => by
    unfold foldF
    rw [h x List.mem_cons_self]
    exact foldF_none fun y hy => h y (List.mem_cons_of_mem _ hy)
theorem foldF_ok {α ρ : Type} {f : Unit → α → Option (Fl Unit ρ)} {xs : List α} {Q : Fl Unit ρ → Prop} (h : ∀ x ∈ xs, Ok (f () x) (· = .nx ())) (q : Q (.nx ())) : Ok (foldF f () xs) Q :=
  ⟨_, foldF_none fun x hx => (h x hx).eq, q⟩
def Drawn (sizes ds : List Int) : Prop := ds.length = sizes.length ∧ ∀ (j : Nat) (d n : Int), ds[j]? = some d → sizes[j]? = some n → 0 ≤ d ∧ d < n
theorem ok_draw {sizes ds : List Int} (h : Drawn sizes ds) (k : Nat) {n : Int} (hk : sizes[k]? = some n) {Q : Int → Prop} (q : ∀ d, 0 ≤ d → d < n → Q d) : Ok (atI ds (k : Int)) Q := by
  obtain ⟨h1, h2⟩ := h
  have hlt : k < ds.length := by rw [h1]; exact (List.getElem?_eq_some_iff.mp hk).1
  refine ok_atI (by omega) (by omega) fun d hd => ?_
  rw [show (k : Int).toNat = k by omega] at hd
  obtain ⟨a, b⟩ := h2 k d n hd hk
  exact q d a b
theorem ok_sgn {x : Str} {i : Int} {Q : Str → Prop} (hz : x.length ≤ sizeLine) (h0 : 0 ≤ i) (h1 : i < x.length) (h : ∀ c, x.cps.toList[i.toNat]? = some c → Q ⟨#[c]⟩) : Ok (sgn x i) Q := by
  unfold sgn
  rw [if_pos hz]
  have hl : i.toNat < x.cps.toList.length := by
    rw [Array.length_toList]
    show i.toNat < x.length
    omega
  rw [atI_get h0 (by rw [Array.length_toList]; show i < (x.length : Int); exact h1), List.getElem?_eq_getElem hl]
  exact ok_some (h _ (List.getElem?_eq_getElem hl))
theorem bnd_some {α : Type} (m : Option α) : (bnd m fun x => some x) = m := by cases m <;> rfl
theorem ok_ret {α : Type} {m : Option α} {P : α → Prop} (h : Ok m P) : Ok (bnd m fun x => some x) P := by rw [bnd_some]; exact h
def txt (x : Str) : Prop := PyData.strOk x = true
theorem shp_strs {xs : List Str} (h : ∀ x ∈ xs, txt x) : shp xs := by
  unfold shp SeqAt.shaped
  have h1 : PyData.canLay0 (EqD.toD xs) = true := by
    show PyData.canLay0 (.list (xs.map PyData.str)) = true
    unfold PyData.canLay0
    induction xs with
    | nil => simp [PyData.canLayAll0]
    | cons x r ih =>
      rw [List.map_cons]
      unfold PyData.canLayAll0
      rw [ih fun y hy => h y (List.mem_cons_of_mem _ hy)]
      show (PyData.canLay0 (.str x) && true) = true
      unfold PyData.canLay0
      rw [show PyData.strOk x = true from h x List.mem_cons_self]; rfl
  have h2 : PyData.depth (EqD.toD xs) ≤ 64 := by
    show PyData.depth (.list (xs.map PyData.str)) ≤ 64
    unfold PyData.depth
    have : PyData.depthAll (xs.map PyData.str) = 0 := by
      clear h h1
      induction xs with
      | nil => simp [PyData.depthAll]
      | cons x r ih => rw [List.map_cons]; unfold PyData.depthAll; rw [ih]; simp [PyData.depth]
    omega
  rw [h1, decide_eq_true h2]; rfl
end Dy

namespace Dy
open PySem PySem.Spec L2
open PyProof.Rows hiding St
open Enc (rep)
open Flat (toV)
open EncA (repA)

def S.back (s t : S) (h : Fle s.F t.F) : S := ⟨s.F, t.H, fun a o q => t.sub a o (h a o q)⟩
theorem backE {s0 s t : S} (h : Fle s.F t.F) (E : Ex s0 s) (E' : Ex s0 t) : Ex s0 (s.back t h) := ⟨E.f, E'.h, E.n⟩
theorem backOwn {α : Type} [Enc α] {K : PySem.W.Frag} {s s1 t : S} {p : Addr} {xs : List α} (h : Fle s.F t.F) (o : Own K s p xs) (h1 : s1.F p = s.H p) (h2 : Fle s1.F t.F) : Own K (s.back t h) p xs := by
  obtain ⟨n, vs, e, r⟩ := o
  exact ⟨n, vs, t.sub _ _ (h2 _ _ (h1.trans e)), r⟩
theorem backOwn2 {α : Type} [Flat α] {K : PySem.W.Frag} {s t : S} {q : Addr} {xs : List α} (h : Fle s.F t.F) (o : Own K t q xs) : Own K (s.back t h) q xs := by
  obtain ⟨n, vs, e, r⟩ := o
  refine ⟨?_, vs, e, ?_⟩
  · show s.F q = none
    cases z : s.F q with
    | none => rfl
    | some u => rw [h _ _ z] at n; cases n
  · rw [r.flat]; exact Reps.of_flat xs
theorem backFlat {α : Type} [Flat α] {K : PySem.W.Frag} {s t : S} {v : V} {x : α} (h : Fle s.F t.F) (r : rep K t.F v x) : rep K (s.back t h).F v x := Flat.iff.mpr (Flat.iff.mp r)
section
variable {α β γ δ : Type} [Enc α] [Enc β] [Enc γ] [Enc δ] {X : Cx} {σ : St} {s t : S} {e a b c tg iter : Expr} {es : List Expr} {pos p0 p1 p2 p3 p4 p5 : Pos} {D : Ends} {rest A B body : List Stmt}
theorem do_frz2 {p : Addr} {xs : List α} {ss : List Stmt} (o : Own X.K s p xs) (k : ∀ s' : S, s'.H = s.H → Fle s.F s'.F → (∀ q, q ≠ p → s'.F q = s.F q) → rep X.K s'.F (.ref p) xs → s'.F p = s.H p → WSs X ss D σ s'.H) : WSs X ss D σ s.H := by
  obtain ⟨hn, vs, hp, r⟩ := o
  have f : Fle s.F (upd s.F p (.lst vs)) := fun a o q => by rw [upd_ne (ne_of_none q hn)]; exact q
  exact k ⟨upd s.F p (.lst vs), s.H, fun a o q => by
    unfold upd at q
    split at q
    · rename_i e; cases q; rw [e]; exact hp
    · exact s.sub a o q⟩ rfl f (fun q hq => upd_ne hq) ⟨p, vs, rfl, .inl (.inl upd_same), r.mono f⟩ (by show upd s.F p (.lst vs) p = _; rw [upd_same, hp])
theorem do_back {ss : List Stmt} (s : S) {t : S} (h : Fle s.F t.F) (k : WSs X ss D σ (s.back t h).H) : WSs X ss D σ t.H := k

section
variable {p : Addr} {n : Str} {xs : List α}
theorem we_pop (i : Nat) {z : Int} {j : Nat} {y : α} {Q : VK} (hσ : σ[i]? = some (some (.ref p))) (o : Own X.K s p xs) (he : Ev X e σ s z) (hj : popN xs.length z = some j) (hy : xs[j]? = some y)
    (k : ∀ v s1, Mx (· = p) s s1 → Own X.K s1 p (xs.eraseIdx j) → rep X.K s1.F v y → Q v s1.H)
    (hN : X.N[i]? = some n := by rfl) (hv : Vis X.env.scope n := by first | exact Or.inl rfl | exact Or.inr (Or.inl rfl) | exact Or.inr (Or.inr rfl)) (hd : (n == ("__debug__" : Str)) = false := by decide) (hcd : (n == ("__classdict__" : Str)) = false := by decide)
    (hbase : attributeBase (.Name n p0) "pop" X.env (eval (.Name n p0) X.env) = eval (.Name n p0) X.env := by rfl)
    (hfew : ((backTo p2 (starEach [e] X.env)).all (fun x => !x.1) && (backToKw p2 (keywordEach [] X.env)).all (fun x => x.1.isSome) && decide (([e] : List Expr).length + ([] : List Keyword).length + (if ([] : List Keyword).isEmpty then 0 else 1) < 30)) = true := by rfl)
    (hline : (p1.endLine == p2.line) = true := by rfl) (hs : starEach [e] X.env = (false, eval e X.env) :: starEach [] X.env := by rfl) (hplain : (backTo p2 (starEach [] X.env)).any (·.1) = false := by rfl) :
    WE X (.Call (.Attribute (.Name n p0) "pop" p1) [e] [] p2) σ s.H Q :=
  we_of (pe_bm PySem.F.plainAttrs_list PySem.F.slot_list_pop PySem.F.type_list_pop mt_popAt (pe_var hN hv hd hcd) (pa_cons pe_we pa_nil hs) hbase hfew hline hs hplain) (by
    obtain ⟨h1, vs, h2, h3⟩ := id o
    refine ⟨_, hσ, .inl ⟨rfl, vs, .inl (.inl h2)⟩, he s (Ex.refl _) _ fun v s1 k1 r1 => ?_⟩
    have f1 := k1.n _ _ h2 h1
    have g1 := k1.h _ _ h2
    unfold popN at hj
    split at hj
    · rename_i hb
      obtain ⟨w, hw, rw'⟩ := (h3.mono k1.f).get hy
      refine ⟨p, vs, z, j, w, rfl, by rw [show v = V.int z from r1], g1, hb.1, hb.2, by rw [h3.len]; exact hj, hw, ?_⟩
      exact k w (s1.put p (.lst (vs.eraseIdx j)) f1) (k1.mx.trans (Mx.put f1)) ⟨f1, _, upd_same, (h3.mono k1.f).erase j⟩ rw'
    · cases hj)
end
def popAt {τ : Type} (xs : List τ) (z : Int) : Option (τ × List τ) := (popN xs.length z).bind fun j => (xs[j]?).map fun y => (y, xs.eraseIdx j)
theorem popAt_some {τ : Type} {xs ys : List τ} {z : Int} {y : τ} (h : popAt xs z = some (y, ys)) : ∃ j, popN xs.length z = some j ∧ xs[j]? = some y ∧ ys = xs.eraseIdx j := by
  unfold popAt at h
  obtain ⟨j, h1, h2⟩ := bndE h
  obtain ⟨w, h3, h4⟩ := Option.map_eq_some_iff.mp h2
  cases h4
  exact ⟨j, h1, h3, rfl⟩
theorem do_setPop (i l : Nat) {p : Addr} {n m : Str} {xs ys : List α} {z : Int} {y : α} {py : Pos} (hσ : σ[i]? = some (some (.ref p))) (o : Own X.K s p xs) (he : Ev X e σ s z) (hj : popAt xs z = some (y, ys))
    (k : ∀ v s1, Mx (· = p) s s1 → Own X.K s1 p ys → rep X.K s1.F v y → WSs X rest D (σ.set l (some v)) s1.H)
    (hnd : X.N.Nodup) (hN : X.N[i]? = some n := by rfl) (hv : Vis X.env.scope n := by first | exact Or.inl rfl | exact Or.inr (Or.inl rfl) | exact Or.inr (Or.inr rfl)) (hd : (n == ("__debug__" : Str)) = false := by decide) (hcd : (n == ("__classdict__" : Str)) = false := by decide)
    (hbase : attributeBase (.Name n p0) "pop" X.env (eval (.Name n p0) X.env) = eval (.Name n p0) X.env := by rfl)
    (hfew : ((backTo p2 (starEach [e] X.env)).all (fun x => !x.1) && (backToKw p2 (keywordEach [] X.env)).all (fun x => x.1.isSome) && decide (([e] : List Expr).length + ([] : List Keyword).length + (if ([] : List Keyword).isEmpty then 0 else 1) < 30)) = true := by rfl)
    (hline : (p1.endLine == p2.line) = true := by rfl) (hs : starEach [e] X.env = (false, eval e X.env) :: starEach [] X.env := by rfl) (hplain : (backTo p2 (starEach [] X.env)).any (·.1) = false := by rfl)
    (hx : Loc X.env.scope m := by first | exact Or.inl rfl | exact Or.inr rfl) (hi : X.N[l]? = some m := by rfl)
    (hsw : swapsWith (.Call (.Attribute (.Name n p0) "pop" p1) [e] [] p2) (some (.Name m py)) pos.line X.env = pure false := by rfl) (hf : X.fn m = true ∨ X.env.scope.names.lookup m = some .local := by first | exact .inl rfl | exact .inr rfl) :
    WSs X (.Assign [.Name m py] (.Call (.Attribute (.Name n p0) "pop" p1) [e] [] p2) pos :: rest) D σ s.H := by
  obtain ⟨j, h1, h2, rfl⟩ := popAt_some hj
  exact do_cons (ps_set hnd hi hx pe_we hsw hf) (we_pop i hσ o he h1 h2 (fun v s1 m1 o1 r1 => k v s1 m1 o1 r1) hN hv hd hcd hbase hfew hline hs hplain)
theorem do_appPop (i l : Nat) {p q : Addr} {n m : Str} {xs ys zs : List α} {z : Int} {y : α} {py : Pos} (hσ : σ[i]? = some (some (.ref p))) (hσ2 : σ[l]? = some (some (.ref q))) (hpq : q ≠ p) (o : Own X.K s p xs) (o2 : Own X.K s q zs) (hz : zs.length < sizeLine) (he : Ev X e σ s z) (hj : popAt xs z = some (y, ys))
    (k : ∀ s1, Mx (fun a => a = p ∨ a = q) s s1 → Own X.K s1 p ys → Own X.K s1 q (zs ++ [y]) → WSs X rest D σ s1.H)
    (hN : X.N[i]? = some n := by rfl) (hv : Vis X.env.scope n := by first | exact Or.inl rfl | exact Or.inr (Or.inl rfl) | exact Or.inr (Or.inr rfl)) (hd : (n == ("__debug__" : Str)) = false := by decide) (hcd : (n == ("__classdict__" : Str)) = false := by decide)
    (hbase : attributeBase (.Name n p0) "pop" X.env (eval (.Name n p0) X.env) = eval (.Name n p0) X.env := by rfl)
    (hfew : ((backTo p2 (starEach [e] X.env)).all (fun x => !x.1) && (backToKw p2 (keywordEach [] X.env)).all (fun x => x.1.isSome) && decide (([e] : List Expr).length + ([] : List Keyword).length + (if ([] : List Keyword).isEmpty then 0 else 1) < 30)) = true := by rfl)
    (hline : (p1.endLine == p2.line) = true := by rfl) (hs : starEach [e] X.env = (false, eval e X.env) :: starEach [] X.env := by rfl) (hplain : (backTo p2 (starEach [] X.env)).any (·.1) = false := by rfl)
    (hN2 : X.N[l]? = some m := by rfl) (hv2 : Vis X.env.scope m := by first | exact Or.inl rfl | exact Or.inr (Or.inl rfl) | exact Or.inr (Or.inr rfl)) (hd2 : (m == ("__debug__" : Str)) = false := by decide) (hcd2 : (m == ("__classdict__" : Str)) = false := by decide)
    (hbase2 : attributeBase (.Name m py) "append" X.env (eval (.Name m py) X.env) = eval (.Name m py) X.env := by rfl)
    (hfew2 : ((backTo p4 (starEach [.Call (.Attribute (.Name n p0) "pop" p1) [e] [] p2] X.env)).all (fun x => !x.1) && (backToKw p4 (keywordEach [] X.env)).all (fun x => x.1.isSome) && decide (([.Call (.Attribute (.Name n p0) "pop" p1) [e] [] p2] : List Expr).length + ([] : List Keyword).length + (if ([] : List Keyword).isEmpty then 0 else 1) < 30)) = true := by rfl)
    (hline2 : (p3.endLine == p4.line) = true := by rfl) (hs2 : starEach [.Call (.Attribute (.Name n p0) "pop" p1) [e] [] p2] X.env = (false, eval (.Call (.Attribute (.Name n p0) "pop" p1) [e] [] p2) X.env) :: starEach [] X.env := by rfl) (hplain2 : (backTo p4 (starEach [] X.env)).any (·.1) = false := by rfl)
    (hsw : swapsWith (.Call (.Attribute (.Name m py) "append" p3) [.Call (.Attribute (.Name n p0) "pop" p1) [e] [] p2] [] p4) none p5.line X.env = pure false := by rfl) :
    WSs X (.Expr (.Call (.Attribute (.Name m py) "append" p3) [.Call (.Attribute (.Name n p0) "pop" p1) [e] [] p2] [] p4) p5 :: rest) D σ s.H := by
  obtain ⟨j, h1, h2, rfl⟩ := popAt_some hj
  refine do_cons (ps_expr (pe_bm PySem.F.plainAttrs_list PySem.F.slot_list_append PySem.F.type_list_append mt_append (pe_var hN2 hv2 hd2 hcd2) (pa_cons pe_we pa_nil hs2) hbase2 hfew2 hline2 hs2 hplain2) hsw) ?_
  obtain ⟨g1, vs, g2, g3⟩ := id o2
  refine ⟨_, hσ2, .inl ⟨rfl, vs, .inl (.inl g2)⟩, we_pop i hσ o he h1 h2 (fun v s1 m1 o1 r1 => ?_) hN hv hd hcd hbase hfew hline hs hplain⟩
  obtain ⟨f1, ws, f2, f3⟩ := o2.mx m1 hpq
  refine ⟨q, ws, v, rfl, rfl, f2, by rw [f3.len]; exact hz, ?_⟩
  have m2 : Mx (fun a => a = p ∨ a = q) s1 (s1.put q (.lst (ws ++ [v])) f1) := ⟨(Mx.put f1).f, fun a u h nn => (Mx.put f1).h a u h fun z => nn (.inr z), (Mx.put f1).n, (Mx.put f1).d⟩
  have m0 : Mx (fun a => a = p ∨ a = q) s s1 := ⟨m1.f, fun a u h nn => m1.h a u h fun z => nn (.inl z), m1.n, m1.d⟩
  refine k (s1.put q (.lst (ws ++ [v])) f1) (m0.trans m2) (o1.mx (Mx.put f1) fun z => hpq z.symm) ⟨f1, _, upd_same, f3.snoc r1⟩
theorem Ex.mu2 {s t u : S} {p q : Addr} (a : Ex s t) (b : Mx (fun a => a = p ∨ a = q) t u) (h : s.H p = none) (h2 : s.H q = none) : Ex s u := a.mu b fun _ e => e.elim (fun z => z ▸ h) fun z => z ▸ h2
def popAll {σ τ : Type} (f : List τ → σ → Option Int) : List τ → List σ → Option (List τ)
  | _, [] => some []
  | l, x :: r => (f l x).bind fun z => (popAt l z).bind fun y => (popAll f y.2 r).bind fun ys => some (y.1 :: ys)
theorem do_retPop (i j : Nat) {τ : Type} [Enc τ] {zs : List τ} {xs ys : List α} {f : List α → τ → Option Int} {p : Addr} {n x : Str} {px : Pos} {ie : Expr} {scope : Scope} {own : List (Str × Nat)} (hc : X.calm = true) (hN : X.N.Nodup) (hi : EvI X (.Name x px) iter σ s zs) (o : Own X.K s p xs) (ok : BlkOk X.N X.env.scope scope own)
    (hj : X.N[j]? = some x) (hjo : j ∈ own.map (·.2)) (hg : ∀ s0 H0 C cl fp, PG (Blk X scope s0 H0 C cl fp) (.Name x px) (gName j)) (hσ : ∀ v, ((wipe σ (own.map (·.2))).set j (some v))[i]? = some (some (.ref p))) (hf : popAll f xs zs = some ys) (hz : ys.length ≤ sizeLine)
    (he : ∀ (l : List α) (y : τ) (z : Int) (v : V) (s1 : S), y ∈ zs → Mx (· = p) s s1 → Own X.K s1 p l → rep X.K s1.F v y → f l y = some z → ∀ s0 H0 C cl fp, Ev (Blk X scope s0 H0 C cl fp) ie ((wipe σ (own.map (·.2))).set j (some v)) s1 z)
    (k : ∀ q s1, Mx (· = p) s s1 → s.H q = none → Own X.K s1 q ys → D.rt (.ref q) s1.H)
    (hNi : X.N[i]? = some n := by rfl)
    (hv : ∀ s0 H0 C cl fp, Vis (Blk X scope s0 H0 C cl fp).env.scope n := by intros; first | exact Or.inl rfl | exact Or.inr (Or.inl rfl) | exact Or.inr (Or.inr rfl)) (hd : (n == ("__debug__" : Str)) = false := by decide) (hcd : (n == ("__classdict__" : Str)) = false := by decide)
    (hbase : ∀ s0 H0 C cl fp, attributeBase (.Name n p0) "pop" (Blk X scope s0 H0 C cl fp).env (eval (.Name n p0) (Blk X scope s0 H0 C cl fp).env) = eval (.Name n p0) (Blk X scope s0 H0 C cl fp).env := by intros; rfl)
    (hfew : ∀ s0 H0 C cl fp, ((backTo p2 (starEach [ie] (Blk X scope s0 H0 C cl fp).env)).all (fun x => !x.1) && (backToKw p2 (keywordEach [] (Blk X scope s0 H0 C cl fp).env)).all (fun x => x.1.isSome) && decide (([ie] : List Expr).length + ([] : List Keyword).length + (if ([] : List Keyword).isEmpty then 0 else 1) < 30)) = true := by intros; rfl)
    (hline : (p1.endLine == p2.line) = true := by rfl) (hs1 : ∀ s0 H0 C cl fp, starEach [ie] (Blk X scope s0 H0 C cl fp).env = (false, eval ie (Blk X scope s0 H0 C cl fp).env) :: starEach [] (Blk X scope s0 H0 C cl fp).env := by intros; rfl) (hplain : ∀ s0 H0 C cl fp, (backTo p2 (starEach [] (Blk X scope s0 H0 C cl fp).env)).any (·.1) = false := by intros; rfl)
    (hs : ∀ x, foldedSetIterable iter X.env x = pure x := by intro _; rfl) : WSs X (.Return (some (.ListComp (.Call (.Attribute (.Name n p0) "pop" p1) [ie] [] p2) [⟨.Name x px, iter, [], 0⟩] scope p3)) pos :: rest) D σ s.H := by
  have hpe : PE X (.ListComp (.Call (.Attribute (.Name n p0) "pop" p1) [ie] [] p2) [⟨.Name x px, iter, [], 0⟩] scope p3) (tLc (WI X (.Name x px) iter) (gName j) tYes (fun σ H Q => ∀ s0 H0 C cl fp, WE (Blk X scope s0 H0 C cl fp) (.Call (.Attribute (.Name n p0) "pop" p1) [ie] [] p2) σ H Q) (own.map (·.2))) :=
    pe_lc hc hN pi_wi ok hg (fun s0 H0 C cl fp => pts_nil) (fun s0 H0 C cl fp => pe_im fun _ _ _ h => h s0 H0 C cl fp) hs
  refine do_cons (ps_ret hpe) ?_
  refine (show EvI X (.Name x px) iter σ s zs from hi) s (Ex.refl _) _ fun J s2 k2 W => ?_
  intro Dd hD
  have o2 : Own X.K s2 p xs := o.ex k2
  have hne : p ≠ Dd := Own.ne o2 hD
  refine ⟨fun i m H => ∃ (u : S) (pre l : List α) (vs : List V), u.H = H ∧ m = zs.length - i ∧ Mx (· = p) s2 u ∧ Own X.K u p l ∧ u.F Dd = none ∧ u.H Dd = some (.lst vs) ∧ Reps X.K u.F vs pre ∧ (∃ suf, popAll f l (zs.drop i) = some suf ∧ pre ++ suf = ys), ⟨zs.length, s2.newO Dd (.lst []) hD, [], xs, [], rfl, rfl, (Ex.newO hD).mx, o2.ex (Ex.newO hD), (fF hD : s2.F Dd = none), upd_same, trivial, ys, hf, rfl⟩, ?_⟩
  rintro i' m H ⟨u, pre, l, vs, rfl, rfl, ku, ol, n1, n2, n3, suf, h1, h2⟩
  by_cases hi' : i' < zs.length
  · right
    obtain ⟨g1, g2⟩ := W.go i' u zs[i'] ku.f (List.getElem?_eq_getElem hi')
    refine ⟨g1, fun H' => ∃ m', m' < zs.length - i' ∧ ∃ (u : S) (pre l : List α) (vs : List V), u.H = H' ∧ m' = zs.length - (i' + 1) ∧ Mx (· = p) s2 u ∧ Own X.K u p l ∧ u.F Dd = none ∧ u.H Dd = some (.lst vs) ∧ Reps X.K u.F vs pre ∧ (∃ suf, popAll f l (zs.drop (i' + 1)) = some suf ∧ pre ++ suf = ys), fun H' z => z, fun v H' hy => ?_⟩
    obtain ⟨u', rfl, ku', rv⟩ := g2 v H' hy
    refine ⟨by show wipe ((wipe σ (own.map (·.2))).set j (some v)) (own.map (·.2)) = _; rw [wipe_set hjo]; exact wipe_wipe fun _ z => z, ?_⟩
    unfold tYes
    dsimp only
    rw [if_pos rfl]
    rw [List.drop_eq_getElem_cons hi'] at h1
    unfold popAll at h1
    obtain ⟨z, hz1, h1⟩ := bndE h1
    obtain ⟨⟨y, l'⟩, hz2, h1⟩ := bndE h1
    obtain ⟨suf', hz3, h1⟩ := bndE h1
    cases h1
    obtain ⟨jj, e1, e2, e3⟩ := popAt_some hz2
    subst e3
    have kk : Mx (· = p) s u' := (k2.mx.trans ku).trans ku'.mx
    intro s0 H0 C cl fp
    refine we_pop (X := Blk X scope s0 H0 C cl fp) (e := ie) i (hσ v) (ol.ex ku') (he l zs[i'] z v u' (List.getElem_mem hi') kk (ol.ex ku') rv hz1 s0 H0 C cl fp) e1 e2 (fun w u4 m4 o4 r4 => ?_) hNi (hv s0 H0 C cl fp) hd hcd (hbase s0 H0 C cl fp) (hfew s0 H0 C cl fp) hline (hs1 s0 H0 C cl fp) (hplain s0 H0 C cl fp)
    have k5 : Mx (· = p) u u4 := ku'.mx.trans m4
    have hD4 : u4.H Dd = some (.lst vs) := k5.h _ _ n2 fun z => hne z.symm
    have hF4 : u4.F Dd = none := k5.n _ _ n2 n1
    have hlen : vs.length < sizeLine := by
      have e1 := n3.len
      have e2 : ys.length = pre.length + (suf'.length + 1) := by rw [← h2, List.length_append, List.length_cons]
      omega
    have hlt : zs.length - (i' + 1) < zs.length - i' := by omega
    have md : Mx (· = p) s2 (u4.put Dd (.lst (vs ++ [w])) hF4) := ⟨(ku.trans k5).f, fun a ob h nn => by
      show upd u4.H Dd _ a = some ob
      rw [upd_ne (ne_of_none h hD)]; exact (ku.trans k5).h a ob h nn, (ku.trans k5).n, fun a ob h => by
      obtain ⟨ob', h'⟩ := (ku.trans k5).d a ob h
      exact ⟨ob', by show upd u4.H Dd _ a = some ob'; rw [upd_ne (ne_of_none h hD)]; exact h'⟩⟩
    exact ⟨vs, hD4, hlen, _, hlt, u4.put Dd (.lst (vs ++ [w])) hF4, pre ++ [y], _, vs ++ [w], rfl, rfl, md, o4.mx (Mx.put hF4) hne, hF4, upd_same, (n3.mono k5.f).snoc r4, suf', hz3, by rw [List.append_assoc]; exact h2⟩
  · left
    have hd : zs.drop i' = [] := List.drop_eq_nil_of_le (by omega)
    rw [hd] at h1
    cases h1
    refine ⟨W.stop i' u ku.f (by omega), k Dd u (k2.mx.trans ku) (fr_back k2 hD) ⟨n1, vs, n2, ?_⟩⟩
    rw [← h2, List.append_nil]
    exact n3
end
end Dy

namespace Dy
open PySem PySem.Spec L2
open PyProof.Rows hiding St

theorem php : ∀ (n : Nat) (l : List Nat), l.Nodup → (∀ x ∈ l, x < n) → l.length ≤ n
  | 0, [], _, _ => Nat.le_refl _
  | 0, x :: _, _, h => absurd (h x List.mem_cons_self) (Nat.not_lt_zero _)
  | n + 1, l, hn, h => by
    by_cases hm : n ∈ l
    · have h1 := php n (l.erase n) (hn.erase n) (fun x hx => by
        have h2 := h x (List.mem_of_mem_erase hx)
        have h3 : x ≠ n := (hn.mem_erase_iff.mp hx).1
        omega)
      rw [List.length_erase_of_mem hm] at h1
      omega
    · have := php n l hn (fun x hx => by
        have h2 := h x hx
        have h3 : x ≠ n := fun e => hm (e ▸ hx)
        omega)
      omega
theorem mem_rng {a b x : Int} : x ∈ rng a b ↔ a ≤ x ∧ x < b := by
  constructor
  · exact rng_mem
  · intro ⟨h1, h2⟩
    unfold rng
    refine List.mem_map.mpr ⟨(x - a).toNat, List.mem_range.mpr (by omega), by omega⟩
theorem rng_nodup (a b : Int) : (rng a b).Nodup := by
  unfold rng
  refine List.Pairwise.map _ (fun x y h e => h (by omega)) List.nodup_range
theorem rng_sorted (a b : Int) : (rng a b).Pairwise (· ≤ ·) := by
  unfold rng
  refine List.Pairwise.map _ (fun x y h => ?_) List.pairwise_lt_range
  omega
theorem sort_perm (xs : List Int) : (sortI xs).Perm xs := List.mergeSort_perm _ _
theorem sort_of_perm {xs ys : List Int} (h : xs.Perm ys) (hs : ys.Pairwise (· ≤ ·)) : sortI xs = ys := by
  refine List.Perm.eq_of_pairwise (le := fun x y : Int => x ≤ y) (fun a b _ _ h h' => Int.le_antisymm h h') ?_ hs ((sort_perm xs).trans h)
  have := List.pairwise_mergeSort (le := fun x y : Int => decide (x ≤ y)) (fun a b c h1 h2 => by simp at *; omega) (fun a b => by simp; omega) xs
  exact this.imp (by simp)
theorem perm_rng {l : List Int} {n : Nat} (h1 : l.Nodup) (h2 : l.length = n) (h3 : ∀ x ∈ l, 0 ≤ x ∧ x < n) : l.Perm (rng 0 n) := by
  refine (List.perm_ext_iff_of_nodup h1 (rng_nodup 0 n)).mpr fun a => ⟨fun h => mem_rng.mpr (h3 a h), fun h => ?_⟩
  obtain ⟨a0, a1⟩ := mem_rng.mp h
  refine Classical.byContradiction fun hn => ?_
  have h4 : ((a :: l).map Int.toNat).Nodup := by
    refine List.Pairwise.map (R := fun x y => x ≠ y ∧ 0 ≤ x ∧ 0 ≤ y) _ (fun x y ⟨h, p, q⟩ e => h (by omega)) ?_
    refine List.pairwise_cons.mpr ⟨fun x hx => ⟨fun e => hn (e ▸ hx), a0, (h3 x hx).1⟩, ?_⟩
    refine List.Pairwise.imp_of_mem (fun {x y} hx hy h => ⟨h, (h3 x hx).1, (h3 y hy).1⟩) h1
  have h5 := php n _ h4 (fun x hx => by
    obtain ⟨y, hy, rfl⟩ := List.mem_map.mp hx
    rcases List.mem_cons.mp hy with rfl | hy
    · omega
    · have := h3 y hy; omega)
  simp at h5
  omega
def nxt (o : List Int) (x : Int) : Int := o.getD x.toNat 0
def it (o : List Int) : Nat → Int → Int
  | 0, x => x
  | k + 1, x => nxt o (it o k x)
theorem it_add (o : List Int) (a b : Nat) (x : Int) : it o (a + b) x = it o a (it o b x) := by
  induction a with
  | zero => rw [Nat.zero_add]; rfl
  | succ a ih => rw [Nat.succ_add]; show nxt o _ = nxt o _; rw [ih]
theorem it_one (o : List Int) (x : Int) : it o 1 x = nxt o x := rfl
theorem it_comm (o : List Int) (a b : Nat) (x : Int) : it o a (it o b x) = it o b (it o a x) := by rw [← it_add, ← it_add, Nat.add_comm]
structure IsOrd (o : List Int) : Prop where
  l1 : 1 ≤ o.length
  l2 : o.length ≤ 40
  pm : o.Perm (rng 0 o.length)
theorem isOrd_sort {o : List Int} (h1 : 1 ≤ o.length) (h2 : o.length ≤ 40) (h3 : sortI o = rng 0 o.length) : IsOrd o := ⟨h1, h2, by rw [← h3]; exact (sort_perm o).symm⟩
section
variable {o : List Int}
theorem IsOrd.sort (h : IsOrd o) : sortI o = rng 0 o.length := sort_of_perm h.pm (rng_sorted _ _)
theorem IsOrd.nd (h : IsOrd o) : o.Nodup := h.pm.nodup_iff.mpr (rng_nodup _ _)
theorem IsOrd.mem (h : IsOrd o) {x : Int} : x ∈ o ↔ 0 ≤ x ∧ x < o.length := h.pm.mem_iff.trans mem_rng
theorem nxt_get {x : Int} (h0 : 0 ≤ x) (h1 : x < o.length) : o[x.toNat]? = some (nxt o x) := by
  unfold nxt
  have : x.toNat < o.length := by omega
  rw [List.getElem?_eq_getElem this, List.getD_eq_getElem?_getD, List.getElem?_eq_getElem this]; rfl
theorem nxt_at {x : Int} (h0 : 0 ≤ x) (h1 : x < o.length) : atI o x = some (nxt o x) := by rw [atI_get h0 h1, nxt_get h0 h1]
theorem IsOrd.nxt (h : IsOrd o) {x : Int} (h0 : 0 ≤ x) (h1 : x < o.length) : 0 ≤ Dy.nxt o x ∧ Dy.nxt o x < o.length := h.mem.mp (List.mem_of_getElem? (nxt_get h0 h1))
theorem IsOrd.it (h : IsOrd o) {x : Int} (h0 : 0 ≤ x) (h1 : x < o.length) : ∀ k, 0 ≤ Dy.it o k x ∧ Dy.it o k x < o.length
  | 0 => ⟨h0, h1⟩
  | k + 1 => h.nxt (h.it h0 h1 k).1 (h.it h0 h1 k).2
theorem IsOrd.inj (h : IsOrd o) {x y : Int} (x0 : 0 ≤ x) (x1 : x < o.length) (y0 : 0 ≤ y) (y1 : y < o.length) (e : Dy.nxt o x = Dy.nxt o y) : x = y := by
  have h1 := nxt_get x0 x1
  have h2 := nxt_get y0 y1
  rw [← e] at h2
  obtain ⟨a1, b1⟩ := List.getElem?_eq_some_iff.mp h1
  obtain ⟨a2, b2⟩ := List.getElem?_eq_some_iff.mp h2
  have := (List.getElem_inj h.nd (i := x.toNat) (j := y.toNat) (h₀ := a1) (h₁ := a2)).mp (b1.trans b2.symm)
  omega
theorem IsOrd.itInj (h : IsOrd o) : ∀ (k : Nat) {x y : Int}, 0 ≤ x → x < o.length → 0 ≤ y → y < o.length → Dy.it o k x = Dy.it o k y → x = y
  | 0, _, _, _, _, _, _, e => e
  | k + 1, _, _, x0, x1, y0, y1, e => h.itInj k x0 x1 y0 y1 (h.inj (h.it x0 x1 k).1 (h.it x0 x1 k).2 (h.it y0 y1 k).1 (h.it y0 y1 k).2 e)
theorem least {p : Nat → Prop} : ∀ n, p n → ∃ m, m ≤ n ∧ p m ∧ ∀ k, k < m → ¬ p k := by
  intro n
  induction n using Nat.strongRecOn with
  | _ n ih =>
    intro h
    by_cases hk : ∃ k, k < n ∧ p k
    · obtain ⟨k, h1, h2⟩ := hk
      obtain ⟨m, h3, h4, h5⟩ := ih k h1 h2
      exact ⟨m, by omega, h4, h5⟩
    · exact ⟨n, Nat.le_refl _, h, fun k hk' hp => hk ⟨k, hk', hp⟩⟩
theorem IsOrd.cycle (h : IsOrd o) {x : Int} (h0 : 0 ≤ x) (h1 : x < o.length) : ∃ L, 1 ≤ L ∧ L ≤ o.length ∧ Dy.it o L x = x ∧ ∀ k, 0 < k → k < L → Dy.it o k x ≠ x := by
  have ex : ∃ L, 1 ≤ L ∧ L ≤ o.length ∧ Dy.it o L x = x := by
    refine Classical.byContradiction fun hn => ?_
    have hne : ∀ i j, i < j → j ≤ o.length → Dy.it o i x ≠ Dy.it o j x := fun i j hij hj e => by
      refine hn ⟨j - i, by omega, by omega, ?_⟩
      have e2 : Dy.it o i x = Dy.it o i (Dy.it o (j - i) x) := by rw [← it_add, show i + (j - i) = j by omega]; exact e
      have := h.it h0 h1 (j - i)
      exact (h.itInj i h0 h1 this.1 this.2 e2).symm
    have h2 : ((List.range (o.length + 1)).map fun k => (Dy.it o k x).toNat).Nodup := by
      refine List.Pairwise.map (R := fun a b => a < b ∧ b ≤ o.length) _ (fun a b ⟨p, q⟩ e => ?_) ?_
      · have e1 := h.it h0 h1 a
        have e2 := h.it h0 h1 b
        exact hne a b p q (by omega)
      · refine List.Pairwise.imp_of_mem (fun {a b} ha hb hlt => ⟨hlt, by have := List.mem_range.mp hb; omega⟩) List.pairwise_lt_range
    have h3 := php o.length _ h2 (fun y hy => by
      obtain ⟨k, _, rfl⟩ := List.mem_map.mp hy
      have := h.it h0 h1 k
      omega)
    rw [List.length_map, List.length_range] at h3
    omega
  obtain ⟨L, a, b, c⟩ := ex
  obtain ⟨m, m1, ⟨m2, m3, m4⟩, m5⟩ := least (p := fun L => 1 ≤ L ∧ L ≤ o.length ∧ Dy.it o L x = x) L ⟨a, b, c⟩
  exact ⟨m, m2, m3, m4, fun k k0 k1 e => m5 k k1 ⟨by omega, by omega, e⟩⟩
theorem it_mul {L : Nat} {x : Int} (h : Dy.it o L x = x) : ∀ q, Dy.it o (L * q) x = x
  | 0 => rfl
  | q + 1 => by rw [Nat.mul_succ, it_add, h, it_mul h q]
theorem it_mod {L : Nat} {x : Int} (h : Dy.it o L x = x) (m : Nat) : Dy.it o (m % L) x = Dy.it o m x := by
  conv => rhs; rw [← Nat.mod_add_div m L, it_add, it_mul h]
def srv (o : List Int) (m : Nat) : List Int := (rng 0 o.length).map (Dy.it o m)
theorem srv_len (o : List Int) (m : Nat) : (srv o m).length = o.length := by unfold srv; rw [List.length_map, rng_len]; omega
theorem rng_getE {a b : Int} {i : Nat} (h : i < (b - a).toNat) : (rng a b)[i]? = some (a + (i : Int)) := by
  unfold rng
  rw [List.getElem?_map, List.getElem?_range h]; rfl
theorem srv_at {m : Nat} {x : Int} (h0 : 0 ≤ x) (h1 : x < o.length) : atI (srv o m) x = some (Dy.it o m x) := by
  rw [atI_get h0 (by rw [srv_len]; exact h1)]
  unfold srv
  rw [List.getElem?_map, rng_getE (by omega)]
  show some (Dy.it o m (0 + (x.toNat : Int))) = _
  rw [show (0 : Int) + (x.toNat : Int) = x by omega]
theorem srv_perm (h : IsOrd o) (m : Nat) : (srv o m).Perm (rng 0 o.length) := by
  refine perm_rng ?_ (srv_len o m) (fun x hx => ?_)
  · refine List.Pairwise.map (R := fun (a b : Int) => a ≠ b ∧ (0 ≤ a ∧ a < (o.length : Int)) ∧ 0 ≤ b ∧ b < (o.length : Int)) _ (fun a b ⟨p, q, r⟩ e => p (h.itInj m q.1 q.2 r.1 r.2 e)) ?_
    exact List.Pairwise.imp_of_mem (fun {a b} ha hb hne => ⟨hne, mem_rng.mp ha, mem_rng.mp hb⟩) (rng_nodup _ _)
  · obtain ⟨y, hy, rfl⟩ := List.mem_map.mp hx
    obtain ⟨a, b⟩ := mem_rng.mp hy
    exact h.it a b m
theorem srv_mem (h : IsOrd o) {m : Nat} {x : Int} (hx : x ∈ srv o m) : 0 ≤ x ∧ x < o.length := mem_rng.mp ((srv_perm h m).mem_iff.mp hx)
theorem srv_zero (o : List Int) : srv o 0 = rng 0 o.length := by
  unfold srv
  have : (Dy.it o 0 : Int → Int) = id := by funext x; rfl
  rw [this, List.map_id]
theorem srv_one (o : List Int) : srv o 1 = o := by
  refine List.ext_getElem? fun i => ?_
  unfold srv
  rw [List.getElem?_map]
  by_cases h : i < o.length
  · rw [rng_getE (by omega)]
    show some (Dy.nxt o (0 + (i : Int))) = _
    have := nxt_get (o := o) (x := (i : Int)) (by omega) (by omega)
    rw [show (0 : Int) + (i : Int) = (i : Int) by omega, ← this]
    congr 1
  · rw [List.getElem?_eq_none (by rw [rng_len]; omega), List.getElem?_eq_none (by omega)]; rfl
theorem srv_add (a b : Nat) : (srv o a).map (Dy.it o b) = srv o (b + a) := by
  unfold srv
  rw [List.map_map]
  exact List.map_congr_left fun x _ => (it_add o b a x).symm
end
theorem erase_perm {τ : Type} : ∀ (l : List τ) (i : Nat) (h : i < l.length), (l[i] :: l.eraseIdx i).Perm l
  | [], i, h => absurd h (Nat.not_lt_zero _)
  | x :: xs, 0, _ => List.Perm.refl _
  | x :: xs, i + 1, h => (List.Perm.swap x _ _).trans (List.Perm.cons x (erase_perm xs i (Nat.lt_of_succ_lt_succ h)))
theorem popAt_ok {τ : Type} {l : List τ} {z : Int} (h0 : 0 ≤ z) (h1 : z < l.length) (h2 : l.length < 1000000) : Ok (popAt l z) (fun r => (r.1 :: r.2).Perm l) := by
  unfold popAt popN seqIndex?
  have hl : z.toNat < l.length := by omega
  rw [if_pos ⟨by omega, by omega⟩]
  simp only
  rw [show (if z < 0 then z + (l.length : Int) else z) = z from if_neg (by omega), if_pos (by rw [Bool.and_eq_true]; exact ⟨decide_eq_true h0, decide_eq_true h1⟩), Option.bind_some, List.getElem?_eq_getElem hl]
  exact ok_some (erase_perm l _ hl)
theorem ok_popAll {σ τ : Type} {f : List τ → σ → Option Int} : ∀ {xs : List σ} {l : List τ}, (∀ l' x, l' ≠ [] → l'.length ≤ l.length → x ∈ xs → Ok (f l' x) (fun z => 0 ≤ z ∧ z < l'.length)) → xs.length ≤ l.length → l.length < 1000000 → Ok (popAll f l xs) (fun ys => ys.length = xs.length ∧ ∃ r, (ys ++ r).Perm l)
  | [], l, _, _, _ => ⟨[], rfl, rfl, l, List.Perm.refl _⟩
  | x :: xs, l, h, hl, hz => by
    rw [List.length_cons] at hl
    have hne : l ≠ [] := fun e => by subst e; simp at hl
    unfold popAll
    refine ok_bnd (h l x hne (Nat.le_refl _) List.mem_cons_self) fun z ⟨z0, z1⟩ => ok_bnd (popAt_ok z0 z1 hz) fun r hr => ?_
    have hlen : r.2.length + 1 = l.length := by have := hr.length_eq; rw [List.length_cons] at this; exact this
    refine ok_bnd (ok_popAll (fun l' y hn hl' hy => h l' y hn (by omega) (List.mem_cons_of_mem _ hy)) (by omega) (by omega)) fun ys ⟨e1, r', e2⟩ => ok_some ⟨by rw [List.length_cons, List.length_cons, e1], r', ?_⟩
    exact (List.Perm.cons r.1 e2).trans hr
theorem repl_one {τ : Type} (n : Int) (x : τ) : repl n [x] = List.replicate n.toNat x := by
  unfold repl
  exact List.flatten_replicate_singleton
end Dy

namespace Dy
open PySem PySem.Spec L2
open PyProof.Rows hiding St
instance {α β : Type} [Enc α] [Enc β] : Opn (α × β) := ⟨fun h => by obtain ⟨_, _, _, e, _⟩ := h; cases e⟩
instance {α β γ : Type} [Enc α] [Enc β] [Enc γ] : Opn (T3 α β γ) := ⟨fun h => by obtain ⟨_, _, _, _, e, _⟩ := h; cases e⟩
instance {α β γ : Type} {n m k : Nat} [Shp α n] [Shp β m] [Shp γ k] : Shp (T3 α β γ) (n + m + k + 1) := ⟨fun x => by
  obtain ⟨h1, h2⟩ := Shp.ok x.a
  obtain ⟨h3, h4⟩ := Shp.ok x.b
  obtain ⟨h5, h6⟩ := Shp.ok x.c
  refine ⟨?_, ?_⟩
  · show PyData.canLay0 (.tuple [EqD.toD x.a, EqD.toD x.b, EqD.toD x.c]) = true
    simp [PyData.canLay0, PyData.canLayAll0, h1, h3, h5]
  · show PyData.depth (.tuple [EqD.toD x.a, EqD.toD x.b, EqD.toD x.c]) ≤ n + m + k + 1
    simp [PyData.depth, PyData.depthAll]
    omega⟩
section
variable {X : Cx} {K : PySem.W.Frag} {a b e : Expr} {σ : St} {s : S} {p0 p1 p2 pos : Pos} {α β : Type} [Enc α] [Enc β]
def ixS (x y : Str) : Option Nat := (Builtin.Str.occurrences y x 0 y.length 1).head?
theorem ev_indexS {x y : Str} {j : Nat} (ha : Ev X a σ s y) (hb : Ev X b σ s x) (h : ixS x y = some j)
    (hs : starEach [b] X.env = [(false, eval b X.env)] := by rfl) (hbase : attributeBase a "index" X.env (eval a X.env) = eval a X.env := by rfl) (hline : (p1.endLine == pos.line) = true := by rfl) :
    Ev X (.Call (.Attribute a "index" p1) [b] [] pos) σ s (j : Int) := fun s1 k Q q =>
  we_of (pe_m1 PySem.F.slot_str_index PySem.F.type_str_index mt_sindex pe_we pe_we hs hbase hline) (ha s1 k _ fun v s2 k2 r2 => ⟨⟨y, r2⟩, hb s2 (k.trans k2) _ fun u s3 k3 r3 => by
    unfold ixS at h
    obtain ⟨rest, hr⟩ : ∃ rest, Builtin.Str.occurrences y x 0 y.length 1 = j :: rest := by
      cases ho : Builtin.Str.occurrences y x 0 y.length 1 with
      | nil => rw [ho] at h; cases h
      | cons i rest => rw [ho] at h; cases h; exact ⟨rest, rfl⟩
    exact ⟨y, x, j, rest, r2, by rw [show u = V.str x from r3], hr, q _ s3 (k2.trans k3) rfl⟩⟩)
end
section
variable {α α' α'' β : Type} [Enc α] [Enc α'] [Enc α''] [Enc β] {X : Cx} {σ : St} {s : S} {elt tg iter c : Expr} {ifs : List Expr} {scope : Scope} {own : List (Str × Nat)} {pos : Pos}
theorem ev_some' {e : Expr} {x : Option α} {y : α} (ha : Ev X e σ s x) (h : x = some y) : Ev X e σ s y := fun s1 k Q q => by
  subst h
  exact ha s1 k Q fun v s2 k2 r2 => q v s2 k2 r2
theorem en_comp0P {xs : List (α × α')} {ys : List β} {f : α × α' → Option β} {i j : Nat} (hc : X.calm = true) (hN : X.N.Nodup) (hi : EvI X tg iter σ s xs) (ok : BlkOk X.N X.env.scope scope own)
    (hio : i ∈ own.map (·.2)) (hjo : j ∈ own.map (·.2)) (hg : ∀ s0 H0 C cl fp, PG (Blk X scope s0 H0 C cl fp) tg (gTup X.K 2 (gCons (gName i) (gCons (gName j) gNil)))) (hf : mapO f xs = some ys) (hz : ys.length ≤ sizeLine)
    (he : ∀ (x : α × α') (y : β) (v u : V) (s1 : S), x ∈ xs → Ex s s1 → Enc.rep X.K s1.F v x.1 → Enc.rep X.K s1.F u x.2 → f x = some y → ∀ s0 H0 C cl fp, Ev (Blk X scope s0 H0 C cl fp) elt (((wipe σ (own.map (·.2))).set i (some v)).set j (some u)) s1 y)
    (hs : ∀ x, foldedSetIterable iter X.env x = pure x := by intro _; rfl) : EvL X elt tg iter [] scope σ s ys :=
  ⟨hc, hN, hs, own, _, _, ok, hg, fun _ _ _ _ _ => pts_nil, fun s1 k Q q => comp_read (t := fun _ => some true) hc hN hi ok hg tg_2 (fun _ _ _ _ _ => pts_nil) hf hz (fun F x σ2 ⟨v, u, _, _, e⟩ => by rw [e, wipe_set hjo, wipe_set hio]; exact wipe_wipe fun _ z => z)
    (fun x b s1 σ2 Q _ _ _ hb q => by cases hb; exact q s1 (Ex.refl _)) (fun x y s1 σ2 hx k ⟨v, u, r, r', e⟩ _ hfx => by subst e; exact he x y v u s1 hx k r r' hfx) s1 k Q q⟩
theorem en_comp1P {xs : List (α × α')} {ys : List β} {t : α × α' → Option Bool} {f : α × α' → Option β} {i j : Nat} (hc : X.calm = true) (hN : X.N.Nodup) (hi : EvI X tg iter σ s xs) (ok : BlkOk X.N X.env.scope scope own)
    (hio : i ∈ own.map (·.2)) (hjo : j ∈ own.map (·.2)) (hg : ∀ s0 H0 C cl fp, PG (Blk X scope s0 H0 C cl fp) tg (gTup X.K 2 (gCons (gName i) (gCons (gName j) gNil)))) (hf : compO t f xs = some ys) (hz : ys.length ≤ sizeLine)
    (ht : ∀ (x : α × α') (b : Bool) (v u : V) (s1 : S), x ∈ xs → Ex s s1 → Enc.rep X.K s1.F v x.1 → Enc.rep X.K s1.F u x.2 → t x = some b → ∀ s0 H0 C cl fp, EvT (Blk X scope s0 H0 C cl fp) c (((wipe σ (own.map (·.2))).set i (some v)).set j (some u)) s1 b)
    (he : ∀ (x : α × α') (y : β) (v u : V) (s1 : S), x ∈ xs → Ex s s1 → Enc.rep X.K s1.F v x.1 → Enc.rep X.K s1.F u x.2 → t x = some true → f x = some y → ∀ s0 H0 C cl fp, Ev (Blk X scope s0 H0 C cl fp) elt (((wipe σ (own.map (·.2))).set i (some v)).set j (some u)) s1 y)
    (hs : ∀ x, foldedSetIterable iter X.env x = pure x := by intro _; rfl) : EvL X elt tg iter [c] scope σ s ys :=
  ⟨hc, hN, hs, own, _, _, ok, hg, fun s0 H0 C cl fp => pts_one (pt_im fun _ _ _ h => h s0 H0 C cl fp), fun s1 k Q q => comp_read (tt := fun σ H Q => ∀ s0 H0 C cl fp, WT (Blk X scope s0 H0 C cl fp) c σ H Q) hc hN hi ok hg tg_2 (fun s0 H0 C cl fp => pts_one (pt_im fun _ _ _ h => h s0 H0 C cl fp)) hf hz (fun F x σ2 ⟨v, u, _, _, e⟩ => by rw [e, wipe_set hjo, wipe_set hio]; exact wipe_wipe fun _ z => z)
    (fun x b s1 σ2 Q hx k ⟨v, u, r, r', e⟩ hb q => by subst e; intro s0 H0 C cl fp; exact ht x b v u s1 hx k r r' hb s0 H0 C cl fp s1 (Ex.refl _) Q q) (fun x y s1 σ2 hx k ⟨v, u, r, r', e⟩ htx hfx => by subst e; exact he x y v u s1 hx k r r' htx hfx) s1 k Q q⟩
end
end Dy

namespace Dy
open PySem PySem.Spec L2
open PyProof.Rows hiding St
open Enc (rep)
open EncA (repA)

inductive Er where
  | pl (c : Str)
  | pi (c f : Str) (i : Int)
  | ps (c f x : Str)
def Er.c : Er → Str
  | .pl c => c
  | .pi c _ _ => c
  | .ps c _ _ => c
inductive Rz (ρ : Type) where
  | ok (r : ρ)
  | er (e : Er)
def tb {α β : Type} (m : Option (Rz α)) (h : Er → Option β) (k : α → Option β) : Option β := match m with
  | none => none
  | some (.ok r) => k r
  | some (.er e) => h e
theorem tbE {α β : Type} {m : Option (Rz α)} {h : Er → Option β} {k : α → Option β} {o : β} (hm : tb m h k = some o) : (∃ e, m = some (.er e) ∧ h e = some o) ∨ ∃ r, m = some (.ok r) ∧ k r = some o := by
  cases m with
  | none => cases hm
  | some x => cases x with
    | ok r => exact .inr ⟨r, rfl, hm⟩
    | er e => exact .inl ⟨e, rfl, hm⟩
def ExR (K : PySem.W.Frag) (F : Hp) (e : Er) (cls : Value) (d : Option Addr) : Prop := match e with
  | .pl c => cls = .ref (He.ga K c) ∧ d = none
  | .pi c f i => cls = .ref (He.ga K c) ∧ ∃ dd, d = some dd ∧ F dd = some (.xd [(f, V.int i)])
  | .ps c f x => cls = .ref (He.ga K c) ∧ ∃ dd, d = some dd ∧ F dd = some (.xd [(f, V.str x)])
theorem exR_cls {K : PySem.W.Frag} {F : Hp} {e : Er} {cls : Value} {d : Option Addr} (h : ExR K F e cls d) : cls = .ref (He.ga K e.c) := by
  cases e with
  | pl c => exact h.1
  | pi c f i => exact h.1
  | ps c f x => exact h.1
theorem ExR.mono {K : PySem.W.Frag} {F F' : Hp} {e : Er} {cls : Value} {d : Option Addr} (k : Fle F F') (h : ExR K F e cls d) : ExR K F' e cls d := by
  cases e with
  | pl c => exact h
  | pi c f i => obtain ⟨h1, dd, h2, h3⟩ := h; exact ⟨h1, dd, h2, k _ _ h3⟩
  | ps c f x => obtain ⟨h1, dd, h2, h3⟩ := h; exact ⟨h1, dd, h2, k _ _ h3⟩
def RzQ {ρ : Type} [Enc ρ] (K : PySem.W.Frag) (s : S) (o : Rz ρ) (Q : VK) (E : XK) : Prop := match o with
  | .ok r => ∀ v s', Ex s s' → rep K s'.F v r → Q v s'.H
  | .er e => ∀ cls d s', Ex s s' → ExR K s'.F e cls d → E cls d s'.H
def spR {A : Type} [EncA A] {ρ : Type} [Enc ρ] (K : PySem.W.Frag) (m : A → Option (Rz ρ)) : Sp := fun vs H Q E => ∃ (s : S) (x : A) (o : Rz ρ), s.H = H ∧ repA K s.F vs x ∧ m x = some o ∧ RzQ K s o Q E
section
variable {X : Cx} {σ : St} {s : S} {e : Expr} {es : List Expr} {p0 p1 p2 pos : Pos} {α : Type} [Enc α]
theorem ev_callR {A : Type} [EncA A] {m : A → Option (Rz α)} {n : Str} {k j : Nat} {x : A} {r : α} (C : Cal X.prog X.w X.K X.mg X.base (L2.CX X.prog X.w) k n (spR X.K m)) (hr : Room j X.A) (hk : k ≤ j) (ha : EvA X (e :: es) σ s x) (h : m x = some (.ok r)) (hg : Gl X n := by rfl)
    (hdb : (n == ("__debug__" : Str)) = false := by decide) (he : starEach (e :: es) X.env = (false, eval e X.env) :: starEach es X.env := by rfl) (hpl : (backTo pos (starEach es X.env)).any (·.1) = false := by rfl) : Ev X (.Call (.Name n p0) (e :: es) [] pos) σ s r := fun s1 k1 Q q => by
  obtain ⟨f, fd, ps, F, hm, kp, b⟩ := C.ex
  refine we_of (pe_callS (E := fun _ _ _ _ => False) F (hr.mono hk) hg hm kp b (fun σ' pins H sh ev s' I c => ?_) pa_wa hdb he hpl) (ha s1 k1 _ fun vs s2 k2 r2 => ⟨s2, x, .ok r, rfl, r2, h, fun v s3 k3 r3 => q v s3 (k2.trans k3) r3⟩)
  obtain ⟨_, _, _, _, _, _, _, _, _, _, _, _, hf⟩ := c
  exact hf.elim
def EvX (X : Cx) (e : Expr) (σ : St) (s : S) : Prop := ∀ s1, Ex s s1 → ∀ Q, WE X e σ s1.H Q
theorem EvX.ev (h : EvX X e σ s) (x : α) : Ev X e σ s x := fun s1 k Q _ => h s1 k Q
theorem evX_call {A : Type} [EncA A] {ρ : Type} [Enc ρ] {m : A → Option (Rz ρ)} {n : Str} {k j : Nat} {x : A} {er : Er} {W : WX} (C : Cal X.prog X.w X.K X.mg X.base (L2.CX X.prog X.w) k n (spR X.K m)) (tk : Takes X W) (hr : Room j X.A) (hk : k ≤ j) (ha : EvA X (e :: es) σ s x) (h : m x = some (.er er))
    (hw : ∀ cls d s2, Ex s s2 → ExR X.K s2.F er cls d → W cls d σ s2.H) (hg : Gl X n := by rfl)
    (hdb : (n == ("__debug__" : Str)) = false := by decide) (he : starEach (e :: es) X.env = (false, eval e X.env) :: starEach es X.env := by rfl) (hpl : (backTo pos (starEach es X.env)).any (·.1) = false := by rfl) : EvX X (.Call (.Name n p0) (e :: es) [] pos) σ s := fun s1 k1 Q => by
  obtain ⟨f, fd, ps, F, hm, kp, b⟩ := C.ex
  exact we_of (pe_callS (E := L2.WE W) F (hr.mono hk) hg hm kp b (fun σ' => passAt tk σ') pa_wa hdb he hpl) (ha s1 k1 _ fun vs s2 k2 r2 => ⟨s2, x, .er er, rfl, r2, h, fun cls d s3 k3 r3 => hw cls d s3 ((k1.trans k2).trans k3) r3⟩)
inductive Nv where
  | nv
instance : Enc Nv := ⟨fun _ _ _ _ => False, fun _ h => h⟩
theorem nv_elim {K : PySem.W.Frag} {F : Hp} {v : V} {x : Nv} {p : Prop} (h : rep K F v x) : p := (show False from h).elim
theorem nv2_elim {β : Type} [Enc β] {K : PySem.W.Frag} {F : Hp} {v : V} {x : β × Nv} {p : Prop} (h : rep K F v x) : p := by
  obtain ⟨_, _, _, _, _, _, h⟩ := h
  exact (show False from h).elim
end
section
variable {P : Program} {w : World} {K : PySem.W.Frag} {mg : Str → Option Value} {base : Heap}
theorem mk_calR {A ρ : Type} [EncA A] [Enc ρ] {m : A → Option (Rz ρ)} {x : Str} {st : Stmt} {f : Addr} {fd : FuncData} {N ps : List Str} {k : Nat} (F : FunP K x st f fd) (hm : mg x = some (.ref f)) (b : Binds K fd ps []) (Sc : FnScope N ps (defScope st))
    (hl : ∀ (F : Hp) (vs : List V) (a : A), repA K F vs a → vs.length = ps.length)
    (body : ∀ (cdv : Value) (A' : Around) (outer : List Env) (s0 : Shared) (H0 : Hp) (E0 : XK), Room k (A'.deeper (envOfC x (defScope st) s0.heap.objs.size f cdv)) → ∀ (s : S) (vs : List V) (a : A) (o : Rz ρ) (Q : VK), repA K s.F vs a → m a = some o →
      RzQ K s o Q E0 → WSs (cxOf (L2.CX P w) P w K mg base N x (defScope st) f cdv A' outer s0 H0 E0) (defBody st) (RD Q) (start N vs) s.H) : Cal P w K mg base (L2.CX P w) (k + 1) x (spR K m) :=
  ⟨f, fd, ps, F.ok Sc (fun vs H Q E ⟨s, a, r, _, h, _⟩ => hl s.F vs a h) (fun cdv A' outer s0 H0 vs Q E hr ⟨s, a, o, e, h1, h2, h3⟩ => ⟨_, pss_ws, by
    have := body cdv A' outer s0 H0 E hr s vs a o Q h1 h2 h3
    rw [e] at this
    exact this⟩), hm, F.kp, b⟩
end
structure ExcF (K : PySem.W.Frag) (mg : Str → Option Value) (c : Str) : Prop where
  q : PySem.W.excIn K (He.ga K c) He.veBase "ValueError.__new__" = true
  kp : PySem.W.keepIn K (.ref (He.ga K c)) = true
  sb : PySem.W.subIn K (.ref (He.ga K c)) (.type "BaseException") = some true
  ty : PySem.W.typeIn K (.ref (He.ga K c)) = some (.type "type")
  gl : mg c = some (.ref (He.ga K c))
section
variable {X : Cx} {σ : St} {s : S} {D : Ends} {rest : List Stmt} {W : WX}
theorem do_raise0 {c m : Str} {j : Nat} {p p2 pos pos' : Pos} (T : ExcF X.K X.mg c) (tk : Takes X W) (h : W (.ref (He.ga X.K c)) none σ s.H) (hc : X.calm = true := by rfl) (hg : Gl X c := by rfl) (hdb : (c == ("__debug__" : Str)) = false := by decide) :
    WSs X (.Raise (some (.Call (.Name c p) [.Constant (.str m) j p2] [] pos)) none pos' :: rest) D σ s.H :=
  do_cons (ps_raise hc tk (pmk_own F.excBase_ValueError T.q T.gl T.kp (raises_own T.sb T.ty) hg hdb)) h
theorem do_tryAs (i : Nat) {x n : Str} {c : Value} {body suite : List Stmt} {b₀ : Stmt} {np pos pos' : Pos} {Wout : WX} (hN : X.N.Nodup) (hcN : Names X x c) (tk : Takes X Wout)
    (h : ∀ pn xe, Takes (X.tr pn xe) (wAs X.K c i (fun a cls d D σ H => ∀ (oe : Obj) (pn : List (Addr × Obj)), Zc cls d oe → (∃ vs, oe.data = .fields vs) → WSs (X.suite a ((a, oe) :: pn)) (b₀ :: suite) D σ H) Wout { D with nx := fun σ' H' => WSs X rest D σ' H' }) → PassesOwn (model X.prog X.w) X.A X.env xe →
      WSs (X.tr pn xe) body { D with nx := fun σ' H' => WSs X rest D σ' H' } σ s.H)
    (hs : X.stack = X.env :: X.outer := by rfl) (hf : X.env.frame = some X.env.locals := by rfl) (hi : X.N[i]? = some n := by rfl) (hln : X.env.kindOf n = some .local := by rfl) :
    WSs X (.Try body [.ExceptHandler (some (.Name x np)) (some n) (b₀ :: suite) pos'] [] [] pos :: rest) D σ s.H :=
  do_cons (ps_try_as (tb := fun W D σ H => ∀ pn xe, Takes (X.tr pn xe) W → PassesOwn (model X.prog X.w) X.A X.env xe → WSs (X.tr pn xe) body D σ H) (ts := fun a cls d D σ H => ∀ (oe : Obj) (pn : List (Addr × Obj)), Zc cls d oe → (∃ vs, oe.data = .fields vs) → WSs (X.suite a ((a, oe) :: pn)) (b₀ :: suite) D σ H)
    hs hf hN hi hln hcN tk (fun W pn xe t po => pss_im fun D σ H hh => hh pn xe t po) (fun a oe cls d pn hz hv => pss_im fun D σ H hh => hh oe pn hz hv)) h
end
end Dy

namespace Dy
open PySem PySem.Spec L2
open PyProof.Rows hiding St
open Enc (rep)
open EncA (repA)

section
open PySem.W PySem.Calls
variable {prog : Program} {w : World} {A : Around} {E : Value → Shared → Prop} {K : Frag} {x D : Addr} {ox : Obj} {od : Option Obj}
theorem cls_bind (T : ExcC K D) : findObj K D od "__class__" = some (.bind (.builtin "getset_descriptor.__get__") (.builtin "object.__class__")) := by
  obtain ⟨cd, hc⟩ := Option.isSome_iff_exists.mp (show (clsIn K D).isSome = true by obtain ⟨cd, hc, _⟩ := any_some T.hd; rw [hc]; rfl)
  unfold findObj
  rw [hc, Option.bind_some, T.ha, Option.bind_some]
  simp [T.hn, T.ht]
theorem asks_cls {s : Shared} {Q : Option Value → Shared → Prop} (T : ExcC K D) (X : K.In s.heap) (I : PySem.W.InstAt s.heap x ox D od) (h : Q (some (.ref D)) { s with toks := s.toks + 1 }) : wpAny (model prog w) A (getAttr? (.ref x) "__class__") Q E s := by
  obtain ⟨hp, g, d, t, os⟩ := s
  have l0 := I.type (M := model prog w)
  have l1 := looks_findIn (M := model prog w) X T.hg
  have l2 := looks_findIn (M := model prog w) X T.hk
  have l3 := looks_find (M := model prog w) X I (cls_bind T)
  have sub : Looks (model prog w) hp (isInstance (.ref x) (.type "BaseException")) true := l0.andThen (looks_subIn X T.hs)
  unfold getAttr? getAttrBy? getAttrBy
  refine wpAny_bind (wpAny_mkText (wpAny_bind (wpAny_attempt (wpAny_holding (wpAny_bind (l0.at (wpAny_bind (l1.at ?_))))))))
  have no : (onTheHeap (Value.ref D) && Value.builtin "BaseException.__getattribute__" == Value.builtin "object.__getattribute__") = false := by
    rw [show (Value.builtin "BaseException.__getattribute__" == Value.builtin "object.__getattribute__") = false by decide +kernel]; rfl
  show wpAny _ _ (if (onTheHeap (Value.ref D) && Value.builtin "BaseException.__getattribute__" == Value.builtin "object.__getattribute__") = true then _ else _) _ _ _
  rw [no, if_neg Bool.false_ne_true]
  unfold getAttrByItsOwn hookBefore
  refine wpAny_bind ?_
  rw [if_pos (show onTheHeap (Value.ref D) = true from rfl)]
  refine l2.at (wpAny_bind (wpAny_attempt (wpAny_holding ?_)))
  unfold callGetattribute
  rw [show (false && onTheHeap (Value.builtin "BaseException.__getattribute__")) = false from rfl, if_neg Bool.false_ne_true]
  unfold boundAndCalled
  rw [PySem.F.excAttr_ValueError.ga.bind (.ref x)]
  refine wpAny_bind (wpAny_pure ?_)
  show wpAny _ _ (call (.builtin "BaseException.__getattribute__") [.ref x, .str "__class__" t]) _ _ _
  refine wpAny_call (codeAny_call_builtin PySem.F.excAttr_ValueError.ga.plain PySem.F.entry_bexc_ga ?_)
  refine @check_slot (model prog w) _ _ ⟨hp, g, d, t + 1, os⟩ "BaseException.__getattribute__" "BaseException" "__getattribute__" (.ref x) [.str "__class__" t] [] _ (by decide +kernel) (by decide +kernel) sub (PySem.F.args_bexc_ga (.ref x) (.str "__class__" t)) ?_
  unfold Builtin.«object.__getattribute__»
  refine wpAny_bind (wpAny_of_eq (a := ((Value.ref x : Value), [Value.str "__class__" t])) (by first | rfl | (simp only [slotArgs]; rfl)) ?_)
  refine wpAny_bind (wpAny_pure (wpAny_bind (l0.at (wpAny_bind (l3.at ?_)))))
  show wpAny _ _ (holding [Value.builtin "object.__class__"] (call (.builtin "getset_descriptor.__get__") [.builtin "object.__class__", .ref x, .ref D]) >>= ret) _ _ _
  refine wpAny_bind (wpAny_holding (wpAny_call (class_get (s := ⟨hp, g, d, t + 1, os⟩) (ox := ox) (od := od) X I T.hm (wpAny_pure ?_))))
  show wpAny _ _ (handedOut (.ref D)) _ _ _
  rw [handedOut_of (v := .ref D) rfl]
  first
    | exact wpAny_pure (wpAny_pure h)
    | exact wpAny_pure h
    | exact wpAny_pure (wpAny_bind (wpAny_pure (wpAny_pure h)))
theorem cls_at (T : ExcC K D) : ∃ c' d' cd' sl', K.lookup D = some ⟨c', d', .cls cd', sl'⟩ := by
  obtain ⟨cd, hc, _⟩ := any_some T.hd
  unfold clsIn at hc
  split at hc
  · rename_i c' d' cd' sl' ho
    exact ⟨c', d', cd', sl', ho⟩
  · cases hc
def InstE (a D : Addr) (oe : Obj) : Heap → Prop := fun h => ∃ od, PySem.W.InstAt h a oe D od
theorem kit_exc (T : ExcC K D) : KitX K (.ref x) (.ref D) (InstE x D ox) where
  ty := fun _ _ _ ⟨_, I⟩ => I.type
  it := fun _ _ X _ => by
    obtain ⟨_, _, _, _, ho⟩ := cls_at T
    intro A' Q' E' s' k q
    unfold isType loadHead
    exact wpAny_bind (wpAny_loadPart (k _ _ (X _ _ ho)) (wpAny_pure q))
  ne := fun h tp dd its n sl X htp => by
    obtain ⟨_, _, _, _, ho⟩ := cls_at T
    refine Bool.eq_false_iff.mpr fun q => ?_
    obtain rfl : D = tp := Value.ref.inj (beq_iff_eq.mp q)
    cases (X _ _ ho).symm.trans htp
  ca := fun X ⟨_, I⟩ k => asks_cls T X I k
end

structure Rw where
  v : V
instance : Enc Rw := ⟨fun _ _ v x => v = x.v, fun _ h => h⟩
theorem rw_reps {K : PySem.W.Frag} {F : Hp} : ∀ {vs : List V} {xs : List Rw}, Reps K F vs xs → vs = xs.map (·.v)
  | [], [], _ => rfl
  | _ :: _, _ :: _, ⟨h, t⟩ => by rw [List.map_cons, ← rw_reps t, show _ = _ from h]
  | [], _ :: _, h => h.elim
  | _ :: _, [], h => h.elim
def clsR (K : PySem.W.Frag) (c : Str) : V := if c = ("ValueError" : Str) then .ty "ValueError" else .ref (He.ga K c)
def clsV (K : PySem.W.Frag) (c : Str) : Value := if c = ("ValueError" : Str) then .type "ValueError" else .ref (He.ga K c)
theorem cls_cv (K : PySem.W.Frag) (c : Str) : ClsV (clsR K c) (clsV K c) := by
  unfold clsR clsV
  split
  · exact .ty _
  · exact .own _
theorem cls_all (K : PySem.W.Frag) : ∀ cs : List Str, Paired ClsV (cs.map (clsR K)) (cs.map (clsV K))
  | [] => .nil
  | c :: cs => .cons (cls_cv K c) (cls_all K cs)
def excCB (K : PySem.W.Frag) (D : Addr) : Bool := xfB K D && (He.eqO (PySem.W.findIn K (.ref D) "__class__") (some (some (.builtin "object.__class__"))) && (He.eqO (PySem.W.specialIn K (.builtin "object.__class__") "__get__") (some (some (.builtin "getset_descriptor.__get__"))) &&
  (decide (PySem.W.takesIn K (.builtin "object.__class__") = some true) && decide (PySem.W.mroIn K D (.type "object") = some true))))
theorem excCB_ok {K : PySem.W.Frag} {D : Addr} (h : excCB K D = true) : ExcC K D := by
  unfold excCB at h
  obtain ⟨h0, h⟩ := He.ba h
  obtain ⟨h5, h⟩ := He.ba h
  obtain ⟨h6, h⟩ := He.ba h
  obtain ⟨h7, h8⟩ := He.ba h
  unfold xfB at h0
  obtain ⟨h1, h0⟩ := He.ba h0
  obtain ⟨h2, h0⟩ := He.ba h0
  obtain ⟨h3, h4⟩ := He.ba h0
  exact ⟨of_decide_eq_true h1, of_decide_eq_true h2, of_decide_eq_true h3, h4, He.eqO_ok h5, He.eqO_ok h6, of_decide_eq_true h7, of_decide_eq_true h8⟩
structure ETab where
  ds : List Str
  fl : List (Str × Str)
  is : List ((Str × Str) × Bool)
  ex : List ((Str × Str) × Bool)
def lk (d c : Str) : List ((Str × Str) × Bool) → Option Bool
  | [] => none
  | q :: r => if q.1 = (d, c) then some q.2 else lk d c r
theorem lk_mem {d c : Str} {b : Bool} : ∀ {l : List ((Str × Str) × Bool)}, lk d c l = some b → ((d, c), b) ∈ l
  | [], h => by cases h
  | q :: r, h => by
    unfold lk at h
    split at h
    · rename_i e
      cases h
      rw [← e]
      exact List.mem_cons_self
    · exact List.mem_cons_of_mem _ (lk_mem h)
def ETab.ok (t : ETab) (K : PySem.W.Frag) : Bool := ((t.ds.all fun d => excCB K (He.ga K d)) && t.fl.all fun q => He.eqO (PySem.W.findIn K (.ref (He.ga K q.1)) q.2) (some none)) && ((t.is.all fun q => decide (PySem.W.kitOne K (.ref (He.ga K q.1.1)) (clsV K q.1.2) = some q.2)) && t.ex.all fun q => decide (PySem.W.exmOne K (.ref (He.ga K q.1.1)) (clsV K q.1.2) = some q.2))
def isE (t : ETab) (e : Er) (c : Str) : Option Bool := if e.c ∈ t.ds then lk e.c c t.is else none
def isEs (t : ETab) (e : Er) : List Str → Option Bool
  | [] => some false
  | c :: r => (isE t e c).bind fun b => if b = true then some true else isEs t e r
def exE (t : ETab) (e : Er) (c : Str) : Option Bool := lk e.c c t.ex
def erI (t : ETab) (e : Er) (f : Str) : Option Int := match e with
  | .pi c g i => if g = f ∧ (c, g) ∈ t.fl ∧ c ∈ t.ds then some i else none
  | _ => none
def erS (t : ETab) (e : Er) (f : Str) : Option Str := match e with
  | .ps c g x => if g = f ∧ (c, g) ∈ t.fl ∧ c ∈ t.ds then some x else none
  | _ => none
section
variable {K : PySem.W.Frag} {t : ETab}
theorem ETab.ds_ok (h : t.ok K = true) {d : Str} (hd : d ∈ t.ds) : ExcC K (He.ga K d) := by
  unfold ETab.ok at h
  exact excCB_ok (List.all_eq_true.mp (He.ba (He.ba h).1).1 d hd)
theorem ETab.xf_ok (h : t.ok K = true) {d : Str} (hd : d ∈ t.ds) : XfC K (He.ga K d) := by
  unfold ETab.ok at h
  have := List.all_eq_true.mp (He.ba (He.ba h).1).1 d hd
  unfold excCB at this
  exact xfB_ok (He.ba this).1
theorem ETab.fl_ok (h : t.ok K = true) {d f : Str} (hd : (d, f) ∈ t.fl) : PySem.W.findIn K (.ref (He.ga K d)) f = some none := by
  unfold ETab.ok at h
  exact He.eqO_ok (List.all_eq_true.mp (He.ba (He.ba h).1).2 _ hd)
theorem ETab.is_ok (h : t.ok K = true) {d c : Str} {b : Bool} (hl : lk d c t.is = some b) : PySem.W.kitOne K (.ref (He.ga K d)) (clsV K c) = some b := by
  unfold ETab.ok at h
  exact of_decide_eq_true (List.all_eq_true.mp (He.ba (He.ba h).2).1 _ (lk_mem hl))
theorem ETab.ex_ok (h : t.ok K = true) {d c : Str} {b : Bool} (hl : lk d c t.ex = some b) : PySem.W.exmOne K (.ref (He.ga K d)) (clsV K c) = some b := by
  unfold ETab.ok at h
  exact of_decide_eq_true (List.all_eq_true.mp (He.ba (He.ba h).2).2 _ (lk_mem hl))
theorem exE_ok (h : t.ok K = true) {e : Er} {c : Str} {b : Bool} {cls : Value} {d : Option Addr} {F : Hp} (he : ExR K F e cls d) (hl : exE t e c = some b) : PySem.W.exmOne K cls (clsV K c) = some b := by
  rw [exR_cls he]
  exact ETab.ex_ok h hl
end
section
variable {X : Cx} {σ : St} {s : S} {e : Expr} {es : List Expr} {p0 p1 p2 p3 pos : Pos} {a : Addr} {oe : Obj} {pn : List (Addr × Obj)}
theorem exc_inst {D : Addr} {d : Option Addr} {pins : List (Addr × Obj)} {σ : St} {H : Hp} {sh : Shared} (hz : Zc (.ref D) d oe) (hf : ∃ vs, oe.data = .fields vs) (hd : ∀ dd, d = some dd → ∃ fs, H dd = some (.xd fs)) (I : Inv (X.suite a ((a, oe) :: pn)) pins σ H sh) : InstE a D oe sh.heap := by
  obtain ⟨hget, _⟩ := I.pin (a, oe) (List.mem_append.mpr (.inl List.mem_cons_self))
  obtain ⟨vs, hv⟩ := hf
  cases d with
  | none =>
    exact ⟨none, hget, hz.1, by unfold PySem.W.notCls; rw [hv], by rw [hz.2]; trivial⟩
  | some dd =>
    obtain ⟨fs, he⟩ := hd dd rfl
    obtain ⟨mA, hns, _⟩ := (show ObjOk X.prog X.w H sh.heap dd (.xd fs) from I.hok dd _ he)
    obtain ⟨od, ho, _⟩ := lookIn_ns hns
    exact ⟨some od, hget, hz.1, by unfold PySem.W.notCls; rw [hv], by rw [hz.2]; exact ho⟩
theorem call_isE1 {D : Addr} {d : Option Addr} (C : ExcC X.K D) (hz : Zc (.ref D) d oe) (hf : ∃ vs, oe.data = .fields vs) : CallR (X.suite a ((a, oe) :: pn)) (.builtin "isinstance") (fun xs H Q => (∀ dd, d = some dd → ∃ fs, H dd = some (.xd fs)) ∧ ∃ (c : V) (cv : Value) (b : Bool), xs = [.ref a, c] ∧ ClsV c cv ∧ PySem.W.kitOne X.K (.ref D) cv = some b ∧ Q (.bl b) H) := by
  intro pins s σ H xs us Q I r h
  obtain ⟨hd, c, cv, b, rfl, k, e, q⟩ := h
  obtain ⟨u1, u2, rfl, r1, r2⟩ := vals2 r
  cases (show u1 = Value.ref a from r1)
  have e2 := k.eq r2
  subst e2
  exact PySem.W.kia_one (kit_exc C) I.kIn (exc_inst hz hf hd I) e (fun z => nomatch z) fun tk => ⟨.bl b, H, I.kept (t' := tk) fun _ _ z => z, rfl, q⟩
theorem call_isET {D : Addr} {d : Option Addr} (C : ExcC X.K D) (hz : Zc (.ref D) d oe) (hf : ∃ vs, oe.data = .fields vs) : CallR (X.suite a ((a, oe) :: pn)) (.builtin "isinstance") (fun xs H Q => (∀ dd, d = some dd → ∃ fs, H dd = some (.xd fs)) ∧ ∃ (tp : Addr) (cs : List V) (us : List Value) (b : Bool), xs = [.ref a, .ref tp] ∧ H tp = some (.tup cs) ∧ Paired ClsV cs us ∧ PySem.W.kitAny X.K (.ref D) us = some b ∧ Q (.bl b) H) := by
  intro pins s σ H xs us Q I r h
  obtain ⟨hd, tp, cs, ws, b, rfl, hT, k, e, q⟩ := h
  obtain ⟨u1, u2, rfl, r1, r2⟩ := vals2 r
  cases (show u1 = Value.ref a from r1)
  cases (show u2 = Value.ref tp from r2)
  obtain ⟨_, its, rv, o, h1, h2, n, h3⟩ := (show ObjOk X.prog X.w H s.heap tp (.tup cs) from I.hok tp _ hT)
  have e3 := ClsV.all k rv
  subst e3
  obtain ⟨oc, od, dt, sl⟩ := o
  simp only at h2 h3
  subst h2 h3
  exact PySem.W.kia_tup (kit_exc C) I.kIn (exc_inst hz hf hd I) h1 e (fun z => nomatch z) fun tk => ⟨.bl b, H, I.kept (t' := tk) fun _ _ z => z, rfl, q⟩
theorem exR_xd {K : PySem.W.Frag} {F : Hp} {e : Er} {cls : Value} {d : Option Addr} (h : ExR K F e cls d) : ∀ dd, d = some dd → ∃ fs, F dd = some (.xd fs) := fun dd e1 => by
  cases e with
  | pl c => rw [h.2] at e1; cases e1
  | pi c f i => obtain ⟨_, d2, h2, h3⟩ := h; rw [h2] at e1; cases e1; exact ⟨_, h3⟩
  | ps c f x => obtain ⟨_, d2, h2, h3⟩ := h; rw [h2] at e1; cases e1; exact ⟨_, h3⟩
theorem kit_any {K : PySem.W.Frag} {t : ETab} (h : t.ok K = true) {er : Er} : ∀ {cs : List Str} {b : Bool}, isEs t er cs = some b → PySem.W.kitAny K (.ref (He.ga K er.c)) (cs.map (clsV K)) = some b
  | [], b, e => e
  | c :: r, b, e => by
    unfold isEs isE at e
    by_cases hd : er.c ∈ t.ds
    · rw [if_pos hd] at e
      cases hl : lk er.c c t.is with
      | none => rw [hl] at e; cases e
      | some b1 =>
        rw [hl] at e
        have k1 := ETab.is_ok h hl
        rw [List.map_cons]
        unfold PySem.W.kitAny
        rw [k1]
        cases b1 with
        | true => exact e
        | false => exact kit_any h e
    · rw [if_neg hd] at e; cases e
theorem ev_cls {c : Str} (h : (c ≠ ("ValueError" : Str) ∧ X.mg c = some (.ref (He.ga X.K c))) ∨ (c = ("ValueError" : Str) ∧ X.mg c = none)) (hg : Gl X c := by rfl) (hd : (c == ("__debug__" : Str)) = false := by decide) : Ev X (.Name c pos) σ s (Rw.mk (clsR X.K c)) := by
  rcases h with ⟨h1, h2⟩ | ⟨h1, h2⟩
  · have : clsR X.K c = .ref (He.ga X.K c) := if_neg h1
    rw [this]
    exact ev_glob ⟨.ref (He.ga X.K c), _, h2, rfl, fun _ => rfl⟩ hg hd
  · subst h1
    exact fun s1 k Q q => we_of (pe_bltn (v := .ty "ValueError") hg h2 PyProof.Rows.Boot.«ValueError» rfl (by decide) (by decide)) (q _ s1 (Ex.refl _) rfl)
theorem ev_isE {c : Str} {er : Er} {d : Option Addr} {b : Bool} {t : ETab} (h : t.ok X.K = true) (hl : isE t er c = some b) (hz : Zc (.ref (He.ga X.K er.c)) d oe) (hf : ∃ vs, oe.data = .fields vs) (hx : ExR X.K s.F er (.ref (He.ga X.K er.c)) d) (hm : X.mg "isinstance" = none)
    (ha : Ev (X.suite a ((a, oe) :: pn)) e σ s (Rw.mk (.ref a))) (hb : Ev (X.suite a ((a, oe) :: pn)) (.Name c p1) σ s (Rw.mk (clsR X.K c))) (hg : Gl (X.suite a ((a, oe) :: pn)) "isinstance" := by rfl)
    (he : starEach [e, .Name c p1] X.env = (false, eval e X.env) :: starEach [.Name c p1] X.env := by rfl) (he2 : starEach [.Name c p1] X.env = (false, eval (.Name c p1) X.env) :: starEach [] X.env := by rfl) (hpl : (backTo pos (starEach [.Name c p1] X.env)).any (·.1) = false := by rfl) :
    Ev (X.suite a ((a, oe) :: pn)) (.Call (.Name "isinstance" p0) [e, .Name c p1] [] pos) σ s b := fun s1 k Q q => by
  unfold isE at hl
  by_cases hd : er.c ∈ t.ds
  · rw [if_pos hd] at hl
    refine we_of (pe_callB (call_isE1 (d := d) (ETab.ds_ok h hd) hz hf) hg hm (by decide +kernel) (pa_cons pe_we (pa_cons pe_we pa_nil he2) he) (he := he) (hpl := hpl)) (ha s1 k _ fun v s2 k2 r2 => hb s2 (k.trans k2) _ fun u s3 k3 r3 => ?_)
    cases (show v = .ref a from r2)
    cases (show u = clsR X.K c from r3)
    exact ⟨fun dd e1 => by
      obtain ⟨fs, z⟩ := exR_xd hx dd e1
      exact ⟨fs, s3.sub _ _ (((k.trans k2).trans k3).f _ _ z)⟩, clsR X.K c, clsV X.K c, b, rfl, cls_cv X.K c, ETab.is_ok h hl, q _ s3 (k2.trans k3) rfl⟩
  · rw [if_neg hd] at hl; cases hl
theorem ev_xfI {f : Str} {er : Er} {d : Option Addr} {i : Int} {t : ETab} (h : t.ok X.K = true) (hl : erI t er f = some i) (hz : Zc (.ref (He.ga X.K er.c)) d oe) (hf : ∃ vs, oe.data = .fields vs) (hx : ExR X.K s.F er (.ref (He.ga X.K er.c)) d)
    (ha : Ev (X.suite a ((a, oe) :: pn)) e σ s (Rw.mk (.ref a))) (hb : attributeBase e f X.env (eval e X.env) = eval e X.env := by rfl) : Ev (X.suite a ((a, oe) :: pn)) (.Attribute e f pos) σ s i := fun s1 k Q q => by
  cases er with
  | pl c => cases hl
  | ps c g x => cases hl
  | pi c g j =>
    unfold erI at hl
    dsimp only at hl
    split at hl
    · rename_i hh
      obtain ⟨rfl, h2, h3⟩ := hh
      cases hl
      obtain ⟨_, dd, rfl, h5⟩ := hx
      refine we_of (pe_xf (ETab.xf_ok h h3) (ETab.fl_ok h h2) hz hf pe_we hb) (ha s1 k _ fun v s2 k2 r2 => ?_)
      cases (show v = .ref a from r2)
      exact ⟨rfl, rfl, dd, _, _, rfl, s2.sub _ _ ((k.trans k2).f _ _ h5), by simp, q _ s2 k2 rfl⟩
    · cases hl
theorem ev_xfS {f : Str} {er : Er} {d : Option Addr} {x : Str} {t : ETab} (h : t.ok X.K = true) (hl : erS t er f = some x) (hz : Zc (.ref (He.ga X.K er.c)) d oe) (hf : ∃ vs, oe.data = .fields vs) (hx : ExR X.K s.F er (.ref (He.ga X.K er.c)) d)
    (ha : Ev (X.suite a ((a, oe) :: pn)) e σ s (Rw.mk (.ref a))) (hb : attributeBase e f X.env (eval e X.env) = eval e X.env := by rfl) : Ev (X.suite a ((a, oe) :: pn)) (.Attribute e f pos) σ s x := fun s1 k Q q => by
  cases er with
  | pl c => cases hl
  | pi c g x => cases hl
  | ps c g j =>
    unfold erS at hl
    dsimp only at hl
    split at hl
    · rename_i hh
      obtain ⟨rfl, h2, h3⟩ := hh
      cases hl
      obtain ⟨_, dd, rfl, h5⟩ := hx
      refine we_of (pe_xf (ETab.xf_ok h h3) (ETab.fl_ok h h2) hz hf pe_we hb) (ha s1 k _ fun v s2 k2 r2 => ?_)
      cases (show v = .ref a from r2)
      exact ⟨rfl, rfl, dd, _, _, rfl, s2.sub _ _ ((k.trans k2).f _ _ h5), by simp, q _ s2 k2 rfl⟩
    · cases hl
theorem isEs_ds {t : ETab} {er : Er} {c : Str} {r : List Str} {b : Bool} (h : isEs t er (c :: r) = some b) : er.c ∈ t.ds := by
  unfold isEs isE at h
  by_cases hd : er.c ∈ t.ds
  · exact hd
  · rw [if_neg hd] at h; cases h
theorem names_of {c : Str} (h : X.mg c = some (.ref (He.ga X.K c))) (hg : Gl X c := by rfl) (hd : (c == ("__debug__" : Str)) = false := by decide) (hv : c ≠ ("ValueError" : Str) := by decide) : Names X c (clsV X.K c) := ⟨hg, hd, .inl (by rw [h]; exact congrArg some (if_neg hv).symm)⟩
theorem takes_false : Takes X (fun _ _ _ _ => False) := fun u s' ⟨_, _, _, _, _, _, _, _, _, _, _, _, _, _, _, _, h⟩ => h.elim
theorem ev_isEs {c0 : Str} {cr : List Str} {er : Er} {d : Option Addr} {cs : List Str} {b : Bool} {t : ETab} {n} (h : t.ok X.K = true) (hl : isEs t er cs = some b) (hz : Zc (.ref (He.ga X.K er.c)) d oe) (hf : ∃ vs, oe.data = .fields vs) (hx : ExR X.K s.F er (.ref (He.ga X.K er.c)) d) (hm : X.mg "isinstance" = none)
    (ha : Ev (X.suite a ((a, oe) :: pn)) e σ s (Rw.mk (.ref a))) (hb : EvE (X.suite a ((a, oe) :: pn)) es σ s (cs.map fun c => Rw.mk (clsR X.K c))) (hc : cs.length ≤ 1000) (e0 : cs = c0 :: cr := by rfl) (hg : Gl (X.suite a ((a, oe) :: pn)) "isinstance" := by rfl)
    (he : starEach [e, .Tuple es n p1] X.env = (false, eval e X.env) :: starEach [.Tuple es n p1] X.env := by rfl) (he2 : starEach [.Tuple es n p1] X.env = (false, eval (.Tuple es n p1) X.env) :: starEach [] X.env := by rfl) (hpl : (backTo pos (starEach [.Tuple es n p1] X.env)).any (·.1) = false := by rfl) :
    Ev (X.suite a ((a, oe) :: pn)) (.Call (.Name "isinstance" p0) [e, .Tuple es n p1] [] pos) σ s b := fun s1 k Q q =>
  we_of (pe_callB (call_isET (d := d) (ETab.ds_ok h (isEs_ds (by rw [e0] at hl; exact hl))) hz hf) hg hm (by decide +kernel) (pa_cons pe_we (pa_cons (pe_tup pa_wa) pa_nil he2) he) (he := he) (hpl := hpl)) (ha s1 k _ fun v s2 k2 r2 => hb s2 (k.trans k2) _ fun us s3 k3 r3 => by
    cases (show v = .ref a from r2)
    have e := rw_reps r3
    have e2 : us = cs.map (clsR X.K) := by rw [e, List.map_map]; rfl
    subst e2
    refine ⟨by rw [List.length_map, sizeLine_eq]; omega, fun p hp => ⟨fun dd e1 => ?_, p, _, cs.map (clsV X.K), b, rfl, upd_same, cls_all X.K cs, kit_any h hl, q _ (s3.newF p (.tup (cs.map (clsR X.K))) hp) ((k2.trans k3).trans (Ex.newF hp)) rfl⟩⟩
    obtain ⟨fs, z⟩ := exR_xd hx dd e1
    exact ⟨fs, (s3.newF p _ hp).sub _ _ ((((k.trans k2).trans k3).trans (Ex.newF hp)).f _ _ z)⟩)
end
section
variable {X : Cx} {σ : St} {s : S} {D : Ends} {rest : List Stmt} {e : Expr} {pos : Pos}
theorem do_dropX (h : EvX X e σ s) (hs : swapsWith e none pos.line X.env = pure false := by rfl) : WSs X (.Expr e pos :: rest) D σ s.H :=
  do_cons (ps_expr pe_we hs) (h s (Ex.refl _) _)
theorem do_retX (h : EvX X e σ s) : WSs X (.Return (some e) pos :: rest) D σ s.H := do_cons (ps_ret pe_we) (h s (Ex.refl _) _)
theorem do_setX (i : Nat) {n : Str} {py : Pos} (h : EvX X e σ s) (hN : X.N.Nodup) (hx : Loc X.env.scope n := by first | exact Or.inl rfl | exact Or.inr rfl) (hi : X.N[i]? = some n := by rfl)
    (hs : swapsWith e (some (.Name n py)) pos.line X.env = pure false := by rfl) (hf : X.fn n = true ∨ X.env.scope.names.lookup n = some .local := by first | exact .inl rfl | exact .inr rfl) : WSs X (.Assign [.Name n py] e pos :: rest) D σ s.H :=
  do_cons (ps_set hN hi hx pe_we hs hf) (h s (Ex.refl _) _)
theorem do_unpX (i j : Nat) {tg : Expr} (h : EvX X e σ s) (hg : PG X tg (gTup X.K 2 (gCons (gName i) (gCons (gName j) gNil)))) (hs : swapsWithSole [tg] e pos.line X.env = pure false := by rfl) (hw : swappedStores [tg] e X.env = pure none := by rfl)
    (h1 : (assignEach [tg] X.env).map (·.2) = [assign tg X.env] := by rfl) : WSs X (.Assign [tg] e pos :: rest) D σ s.H :=
  do_cons (ps_asg pe_we hg hs hw h1) (h s (Ex.refl _) _)
theorem was_of {K : PySem.W.Frag} {c : Value} {i : Nat} {ts : Addr → Value → Option Addr → TS} {Wout : WX} {cls : Value} {d : Option Addr} {σ : St} {H : Hp} (h1 : PySem.W.exmOne K cls c = some true)
    (h2 : ∀ a, H a = none → ts a cls d { nx := fun σ' H' => D.nx (σ'.set i none) H', rt := D.rt, bk := fun σ' H' => D.bk (σ'.set i none) H', ct := fun σ' H' => D.ct (σ'.set i none) H' } (σ.set i (some (.ref a))) H) : wAs K c i ts Wout D cls d σ H := ⟨true, h1, fun _ => h2, fun z => nomatch z⟩
theorem do_ifC {c : Expr} {A B : List Stmt} {x : Bool} (hc : EvT X c σ s x) (h1 : x = true → ∀ s1, Ex s s1 → WSs X A { D with nx := fun σ' H' => WSs X rest D σ' H' } σ s1.H) (h2 : x = false → ∀ s1, Ex s s1 → WSs X B { D with nx := fun σ' H' => WSs X rest D σ' H' } σ s1.H) : WSs X (.If c A B pos :: rest) D σ s.H :=
  do_cons (ps_if pt_wt pss_ws pss_ws) (hc s (Ex.refl _) _ fun s1 k => by
    cases x with
    | true => exact iteT (h1 rfl s1 k)
    | false => exact iteF (h2 rfl s1 k))
end

section
variable {α : Type} [Enc α] {X : Cx} {σ : St} {s : S} {a b : Expr} {pos : Pos}
theorem en_repO {p : Addr} {xs : List α} {n : Int} (ha : Ev X a σ s (Rw.mk (.ref p))) (o : Own X.K s p xs) (hb : ∀ t, Ex s t → Ev X b σ t n) (hz : RepOk n xs.length) : EvN X (.BinOp a .Mult b pos) σ s (repl n xs) := fun s1 k Q q =>
  we_of (pe_op op_rep pe_we pe_we) (ha s1 k _ fun v s2 k2 r2 => by
    cases (show v = V.ref p from r2)
    exact hb s2 (k.trans k2) s2 (Ex.refl _) _ fun u s3 k3 r3 => by
      obtain ⟨_, vs, h1, h2⟩ := o.ex ((k.trans k2).trans k3)
      exact ⟨p, n, vs, rfl, r3, h1, hz.1, hz.2.1, by rw [h2.len]; exact hz.2.2, fun l hl => q l (s3.newO l _ hl) ((k2.trans k3).trans (Ex.newO hl)) (fr_back (k2.trans k3) hl) (own_new hl (h2.repF _))⟩)
end
theorem goN {β ρ γ : Type} {b : β} {k : β → γ} {e : ρ → γ} {r : γ} (h : Fl.go (Fl.nx b) k e = r) : k b = r := h
def obsX (n : Nat) (fa : List He.Fa) (fn : List He.DefD) (gs : PySem.W.Frag → Bool) (g : Addr → Option Obj) : Bool × He.AlD := (gs (He.frG g (He.asD g n)), He.obsDG n fa fn g)
def hookX (n : Nat) (fa : List He.Fa) (fn : List He.DefD) (gs : PySem.W.Frag → Bool) : PySem.W.Hook where
  α := Bool × He.AlD
  obs := fun s => obsX n fa fn gs s.heap.get?
  val := fun _ => (true, He.valD fn)
  says := fun _ h => ∃ K : PySem.W.Frag, K.In h ∧ He.SaysD fa fn K ∧ gs K = true
  of := fun _ _ e => ⟨_, He.frG_in, congrArg (fun z : Bool × He.AlD => z.2) e, congrArg (fun z : Bool × He.AlD => z.1) e⟩
  keeps := fun _ _ _ ⟨K, hK, c, d⟩ k => ⟨K, PySem.W.Frag.In.keeps hK k, c, d⟩
theorem obsX_eq {n : Nat} {fa : List He.Fa} {fn : List He.DefD} {gs : PySem.W.Frag → Bool} {g : Addr → Option Obj} {s : Shared} (h : ∀ a, g a = s.heap.get? a) : obsX n fa fn gs g = (hookX n fa fn gs).obs s := by
  have e : g = s.heap.get? := funext h
  rw [e] <;> rfl
end Dy

namespace Dy
open PySem PySem.Spec L2
open PyProof.Rows hiding St
open Enc (rep)
open EncA (repA)

def oexB (K : PySem.W.Frag) (C : Addr) : Bool := match K.lookup C with
  | some ⟨.type "type", _, .cls cd, sl⟩ => (match cd.mro, sl.toList with
    | .ref C' :: bm, [_, _, _, _, some (.builtin n), _] => C' == C && (n == "ValueError.__new__" && (!cd.hasDel && (cd.hasDict && PySem.HandSPX.refsVE bm)))
    | _, _ => false)
  | _ => false
theorem oexB_ok {K : PySem.W.Frag} {C : Addr} (h : oexB K C = true) : ∃ nm q N bs bm sn sub ab col dd k0 k1 k2 k3 k5, K.lookup C = some (excClassObj nm q C N bs bm true sn sub ab col dd k0 k1 k2 k3 k5 "ValueError.__new__") ∧ PySem.HandSPX.refsVE bm = true := by
  unfold oexB at h
  split at h
  · rename_i dd cd sl ho
    split at h
    · rename_i C' bm k0 k1 k2 k3 n k5 hm hs
      simp only [Bool.and_eq_true, beq_iff_eq, Bool.not_eq_true'] at h
      obtain ⟨rfl, rfl, h1, h2, h3⟩ := h
      obtain ⟨nm, bs, mro, ns, qn, hd, sn, sub, ab, col, del⟩ := cd
      dsimp only at hm h1 h2
      subst hm h1 h2
      obtain ⟨l⟩ := sl
      simp only at hs
      subst hs
      exact ⟨nm, qn, ns, bs, bm, sn, sub, ab, col, dd, k0, k1, k2, k3, k5, ho, h3⟩
    · cases h
  · cases h
def payB (K : PySem.W.Frag) (c f : Str) : Bool := oexB K (He.ga K c) && (He.eqO (PySem.W.findIn K (.ref (He.ga K c)) "__setattr__") (some (some (.builtin "object.__setattr__"))) && (decide (PySem.W.subIn K (.ref (He.ga K c)) (.type "BaseException") = some true) && (decide (PySem.W.typeIn K (.ref (He.ga K c)) = some (.type "type")) &&
  (PySem.W.keepIn K (.ref (He.ga K c)) && (He.eqO (PySem.W.findIn K (.ref (He.ga K c)) "__init__") (some (some (.ref (He.fAd K (c, some "__init__"))))) && (decide (PySem.W.typeIn K (.ref (He.fAd K (c, some "__init__"))) = some (.type "function")) && He.eqO (PySem.W.findIn K (.ref (He.ga K c)) f) (some none)))))))
structure PayF (K : PySem.W.Frag) (c f : Str) : Prop where
  o : OexC K (He.ga K c)
  i : PySem.W.findIn K (.ref (He.ga K c)) "__init__" = some (some (.ref (He.fAd K (c, some "__init__"))))
  t : PySem.W.typeIn K (.ref (He.fAd K (c, some "__init__"))) = some (.type "function")
  n : PySem.W.findIn K (.ref (He.ga K c)) f = some none
theorem payB_ok {K : PySem.W.Frag} {c f : Str} (h : payB K c f = true) : PayF K c f := by
  unfold payB at h
  obtain ⟨h1, h⟩ := He.ba h
  obtain ⟨h2, h⟩ := He.ba h
  obtain ⟨h3, h⟩ := He.ba h
  obtain ⟨h4, h⟩ := He.ba h
  obtain ⟨h5, h⟩ := He.ba h
  obtain ⟨h6, h⟩ := He.ba h
  obtain ⟨h7, h8⟩ := He.ba h
  exact ⟨⟨oexB_ok h1, He.eqO_ok h2, of_decide_eq_true h3, of_decide_eq_true h4, h5⟩, He.eqO_ok h6, of_decide_eq_true h7, He.eqO_ok h8⟩
def spInit (K : PySem.W.Frag) (f : Str) : Sp := fun vs H Q _ => ∃ (a C : Addr) (v : V), vs = [.ref a, v] ∧ H a = some (exo a C none) ∧ OexC K C ∧ PySem.W.findIn K (.ref C) f = some none ∧ ∀ dx, H dx = none → dx ≠ a → Q .non (upd (upd H dx (exd dx [(f, v)])) a (exo a C (some dx)))
section
variable {P : Program} {w : World} {K : PySem.W.Frag} {mg : Str → Option Value} {base : Heap}
theorem mk_init {f x : Str} {ar : Arguments} {sc : Scope} {q : Str} {fI : Addr} {fd : FuncData} {k : Nat} {p1 p2 p3 p4 : Pos} (F : FunD K "__init__" q ar [.Assign [.Attribute (.Name "self" p1) f p2] (.Name x p3) p4] sc [] [] fI fd) (Sc : FnScope ["self", x] ["self", x] sc)
    (hv : ∀ (cdv : Value) (A' : Around) (outer : List Env) (s0 : Shared) (H0 : Hp) (E0 : XK), Vis (cxOf CX0 P w K mg base ["self", x] q sc fI cdv A' outer s0 H0 E0).nox.env.scope "self" ∧ Vis (cxOf CX0 P w K mg base ["self", x] q sc fI cdv A' outer s0 H0 E0).nox.env.scope x ∧
      swapsWith (.Name x p3) (some (.Attribute (.Name "self" p1) f p2)) p4.line (cxOf CX0 P w K mg base ["self", x] q sc fI cdv A' outer s0 H0 E0).nox.env = pure false)
    (hx : (x == ("__debug__" : Str)) = false := by decide) (hx2 : (x == ("__classdict__" : Str)) = false := by decide) : FnOk P w K mg base CX0 (k + 1) fI fd ["self", x] (spInit K f) :=
  F.ok Sc (fun vs H Q E ⟨a, C, v, e, _⟩ => by rw [e]; rfl) (fun cdv A' outer s0 H0 vs Q E hr ⟨a, C, v, e, h1, h2, h3, h4⟩ => by
    obtain ⟨v1, v2, v3⟩ := hv cdv A' outer s0 H0 E
    subst e
    exact ⟨_, PSs.nox (pss_cons (ps_ost (pe_var (i := 0) rfl v1 (by decide) (by decide)) (pe_var (i := 1) rfl v2 hx hx2) v3) pss_nil), v, rfl, .ref a, rfl, a, C, rfl, h2, h3, .inl ⟨h1, fun dx n ne => h4 dx n ne⟩⟩)
end
section
variable {X : Cx} {σ : St} {s : S} {D : Ends} {rest : List Stmt} {W : WX} {e : Expr}
theorem do_raiseI {c f : Str} {fd : FuncData} {ps : List Str} {k j : Nat} {i : Int} {p pos pos' : Pos} (T : PayF X.K c f) (gC : X.mg c = some (.ref (He.ga X.K c))) (F1 : FnOk X.prog X.w X.K X.mg X.base CX0 k (He.fAd X.K (c, some "__init__")) fd ps (spInit X.K f)) (hb : Binds X.K fd ps [])
    (tk : Takes X W) (hr : Room j X.A) (hk : k + 1 ≤ j) (ha : Ev X e σ s i) (h : ∀ d s1, Ex s s1 → s1.F d = some (.xd [(f, V.int i)]) → W (.ref (He.ga X.K c)) (some d) σ s1.H)
    (hc : X.calm = true := by rfl) (hg : Gl X c := by rfl) (hdb : (c == ("__debug__" : Str)) = false := by decide) (he : starEach [e] X.env = (false, eval e X.env) :: starEach [] X.env := by rfl) (hpl : (backTo pos (starEach [] X.env)).any (·.1) = false := by rfl) :
    WSs X (.Raise (some (.Call (.Name c p) [e] [] pos)) none pos' :: rest) D σ s.H :=
  do_cons (ps_raise hc tk (pmk_oex T.o T.i T.t F1 (hr.mono hk) hb .nil pass0 hg gC (pa_cons pe_we pa_nil he) hdb he hpl)) (ha s (Ex.refl _) _ fun v s2 k2 r2 => by
    obtain rfl : v = V.int i := r2
    refine ⟨by simp, fun a hna => ⟨a, He.ga X.K c, V.int i, rfl, upd_same, T.o, T.n, fun dx h1 h2 => ?_⟩⟩
    have hdx : s2.H dx = none := by rw [upd_ne h2] at h1; exact h1
    refine ⟨rfl, dx, _, upd_same, by rw [upd_ne h2, upd_same], hdx, ?_⟩
    have eH : upd (del (upd (upd (upd s2.H a (exo a (He.ga X.K c) none)) dx (exd dx [(f, V.int i)])) a (exo a (He.ga X.K c) (some dx))) a) dx (.xd [(f, V.int i)]) = (s2.newF dx (.xd [(f, V.int i)]) hdx).H := by
      funext b
      show _ = upd s2.H dx (.xd [(f, V.int i)]) b
      by_cases hb1 : b = dx
      · subst hb1; rw [upd_same, upd_same]
      · rw [upd_ne hb1, upd_ne hb1]
        by_cases hb2 : b = a
        · subst hb2; rw [del_same, hna]
        · rw [del_ne hb2, upd_ne hb2, upd_ne hb1, upd_ne hb2]
    rw [eH]
    exact h dx _ (k2.trans (Ex.newF hdx)) upd_same)
end
def InitOk (P : Program) (w : World) (K : PySem.W.Frag) (mg : Str → Option Value) (base : Heap) (c f : Str) : Prop := ∃ (fd : FuncData) (ps : List Str), FnOk P w K mg base CX0 1 (He.fAd K (c, some "__init__")) fd ps (spInit K f) ∧ Binds K fd ps []
section
variable {α : Type} [Enc α] {X : Cx} {σ : St} {s : S} {e : Expr}
theorem ev_t2u {x : α × α} (h : Ev X e σ s x) : Ev X e σ s (⟨[x.1, x.2]⟩ : Tu α) := fun s1 k Q q => h s1 k Q fun v s2 k2 r => q v s2 k2 (by
  obtain ⟨p, v1, v2, rfl, h0, h1, h2⟩ := r
  exact ⟨p, [v1, v2], rfl, h0, h1, h2, trivial⟩)
end
class Arity (α : Type) (n : outParam Nat) extends Enc α where
  ar : ∀ {K : PySem.W.Frag} {F : Hp} {v : V} {x : α}, rep K F v x → ∃ p vs, v = .ref p ∧ SqT K F p vs ∧ vs.length = n
instance {α β : Type} [Enc α] [Enc β] : Arity (α × β) 2 := ⟨fun h => by
  obtain ⟨p, v1, v2, e, h, _⟩ := h
  exact ⟨p, _, e, h, rfl⟩⟩
instance {α β γ : Type} [Enc α] [Enc β] [Enc γ] : Arity (T3 α β γ) 3 := ⟨fun h => by
  obtain ⟨p, v1, v2, v3, e, h, _⟩ := h
  exact ⟨p, _, e, h, rfl⟩⟩
section
variable {α : Type} {X : Cx} {σ : St} {s : S} {e : Expr} {p0 pos : Pos}
theorem ev_lenA {n : Nat} [Arity α n] {x : α} (hm : X.mg "len" = none) (ha : Ev X e σ s x) (hg : Gl X "len" := by rfl) (he : starEach [e] X.env = (false, eval e X.env) :: starEach [] X.env := by rfl) (hpl : (backTo pos (starEach [] X.env)).any (·.1) = false := by rfl) : Ev X (.Call (.Name "len" p0) [e] [] pos) σ s (n : Int) :=
  ev_B1 call_len_seq hg hm boot_len ha (fun v s2 r2 Q q => by
    obtain ⟨p, vs, rfl, h1, h2⟩ := Arity.ar r2
    exact ⟨p, vs, rfl, .inr (sqt_mono s2.sub h1), q _ s2 (Ex.refl _) (by rw [h2]; rfl)⟩) (he := he) (hpl := hpl)
end
end Dy

namespace Dy
open PySem PySem.Spec L2
open PyProof.Rows hiding St
open Enc (rep)

def dsz (ns : List Int) : Nat := (PyProof.Rows.firstMet (fun i => ns.getD i 0) ns.length).length
section
variable {X : Cx} {a : Expr} {ta : TE} {p p2 q pos : Pos}
def tDsz (K : PySem.W.Frag) (ta : TE) : TE := fun σ H Q => ta σ H fun x H1 => ∃ (l : Addr) (ns : List Int), x = .ref l ∧ SqL K H1 l (ns.map V.int) ∧ ns.length ≤ 4000 ∧ dsz ns ≤ ns.length ∧ Q (.int (dsz ns : Nat)) H1
theorem pe_dsz (hg : Gl X "len") (hm : X.mg "len" = none) (hg2 : Gl X "set") (hm2 : X.mg "set" = none) (ha : PE X a ta) (hc : X.calm = true := by rfl)
    (na : starEach [a] X.env = (false, eval a X.env) :: starEach [] X.env := by rfl) : PE X (.Call (.Name "len" p) [.Call (.Name "set" p2) [a] [] q] [] pos) (tDsz X.K ta) := by
  refine ⟨fun pins s σ H Q I h => ?_⟩
  refine Call_ (ld_blt I hg hm boot_len (PyProof.Rows.callWith_builtin1 (PyProof.Rows.args_cons (Call_ (ld_blt I hg2 hm2 boot_set (PyProof.Rows.callWith_type1 (PyProof.Rows.args_cons (thn (ha.run pins s σ H _ I h) fun v s1 ⟨x, H1, I1, r1, l, ns, e, hq, hl, hd0, q1⟩ => PyProof.Rows.args_nil ?_) na) na rfl))) rfl) rfl rfl))
  subst e
  cases r1
  obtain ⟨its, r, pl, hz⟩ := I1.list hq
  have hlen : its.toArray.size = ns.length := by rw [List.size_toArray, ← r.length, List.length_map]
  refine call_set_list (I1.ok.hd hc) pl.isList (by simpa using RZ.intsAre_vals r) (by rw [hlen]; unfold scanBound; omega) fun h' tk hS hk => PyProof.Rows.args_nil ?_
  rw [hlen] at hS
  obtain ⟨o, es, ep, t, ho, hex, hd, _, _, _, hf, hn⟩ := hS
  have I2 : Inv X pins σ H1 { s1 with heap := h', toks := tk } := I1.kept fun b o e => hk b o (Heap.lt_size e) e
  unfold dsz at hd0 q1
  exact call_len_set ho hex hd hf (by rw [hn] <;> omega) ⟨.int (dsz ns : Nat), H1, I2.tok _, ⟨_, by rw [hn]; rfl⟩, q1⟩
theorem dsz_le (ns : List Int) : dsz ns ≤ ns.length := PyProof.Rows.firstMet_length_le _ _
variable {σ : St} {s : S}
theorem ev_dsz {xs : List Int} (hm : X.mg "len" = none) (hm2 : X.mg "set" = none) (ha : EvR X a σ s xs) (hz : xs.length ≤ 4000) (hc : X.calm = true := by rfl) (hg : Gl X "len" := by rfl) (hg2 : Gl X "set" := by rfl) (na : starEach [a] X.env = (false, eval a X.env) :: starEach [] X.env := by rfl) :
    Ev X (.Call (.Name "len" p) [.Call (.Name "set" p2) [a] [] q] [] pos) σ s ((dsz xs : Nat) : Int) := fun s1 k Q qq =>
  we_of (pe_dsz hg hm hg2 hm2 pe_we hc na) (ha s1 k _ fun v s2 k2 r2 => by
    obtain ⟨p, vs, rfl, h1, h2⟩ := r2
    obtain rfl := h2.flat
    exact ⟨p, xs, rfl, h1, hz, dsz_le xs, qq _ s2 k2 rfl⟩)
end
theorem fm_inv (ns : List Int) : ∀ i, i ≤ ns.length → (∀ x, x ∈ PyProof.Rows.firstMet (fun i => ns.getD i 0) i ↔ x ∈ ns.take i) ∧ ((PyProof.Rows.firstMet (fun i => ns.getD i 0) i).length = i ↔ (ns.take i).Nodup)
  | 0, _ => by
    rw [PyProof.Rows.firstMet_zero]
    simp
  | i + 1, h => by
    obtain ⟨h1, h2⟩ := fm_inv ns i (by omega)
    have h3 := PyProof.Rows.firstMet_length_le (fun i => ns.getD i 0) i
    have e1 : ns.getD i 0 = ns[i] := by rw [List.getD_eq_getElem?_getD, List.getElem?_eq_getElem (by omega)]; rfl
    have e2 : ns.take (i + 1) = ns.take i ++ [ns[i]] := by rw [List.take_add_one, List.getElem?_eq_getElem (by omega)]; rfl
    rw [PyProof.Rows.firstMet_succ, e2]
    generalize PyProof.Rows.firstMet (fun i => ns.getD i 0) i = m at *
    have e3 : PyProof.Rows.step_dedup m (ns.getD i 0) = if ns[i] ∈ m then m else m ++ [ns[i]] := by
      unfold PyProof.Rows.step_dedup
      rw [e1]
      have e4 : (m.any fun x => x == ns[i]) = true ↔ ns[i] ∈ m := by
        rw [List.any_eq_true]
        exact ⟨fun ⟨y, hy, ey⟩ => eq_of_beq ey ▸ hy, fun hm => ⟨_, hm, beq_self_eq_true _⟩⟩
      by_cases hm : ns[i] ∈ m
      · rw [if_pos hm, if_pos (e4.mpr hm)]
      · rw [if_neg hm, if_neg (fun z => hm (e4.mp z))]
    show (∀ x, x ∈ PyProof.Rows.step_dedup m (ns.getD i 0) ↔ _) ∧ ((PyProof.Rows.step_dedup m (ns.getD i 0)).length = i + 1 ↔ _)
    rw [e3]
    by_cases hm : ns[i] ∈ m
    · rw [if_pos hm]
      have hm2 := (h1 _).mp hm
      refine ⟨fun x => ?_, fun e => by omega, fun hn => ?_⟩
      · rw [List.mem_append, h1, List.mem_singleton]
        exact ⟨.inl, fun z => z.elim id fun z => z ▸ hm2⟩
      · exact absurd rfl ((List.nodup_append.mp hn).2.2 _ hm2 _ (List.mem_singleton.mpr rfl))
    · rw [if_neg hm]
      have hm2 : ns[i] ∉ ns.take i := fun z => hm ((h1 _).mpr z)
      refine ⟨fun x => by rw [List.mem_append, List.mem_append, h1], fun e => ?_, fun hn => ?_⟩
      · rw [List.length_append, List.length_singleton] at e
        refine List.nodup_append.mpr ⟨h2.mp (by omega), by simp, fun a ha b hb e => ?_⟩
        rw [List.mem_singleton.mp hb] at e
        exact hm2 (e ▸ ha)
      · rw [List.length_append, List.length_singleton, h2.mpr (List.nodup_append.mp hn).1]
theorem dsz_eq (ns : List Int) : dsz ns = ns.length ↔ ns.Nodup := by
  have := (fm_inv ns ns.length (Nat.le_refl _)).2
  rw [List.take_length] at this
  exact this
structure HL2 (α β : Type) where
  a : α
  b : β
deriving DecidableEq
instance {α β : Type} [Enc α] [Enc β] : Enc (HL2 α β) := ⟨fun K F v x => ∃ p v1 v2, v = .ref p ∧ SqL K F p [v1, v2] ∧ rep K F v1 x.a ∧ rep K F v2 x.b, fun e h => by
  obtain ⟨p, v1, v2, rfl, h0, h1, h2⟩ := h
  exact ⟨p, v1, v2, rfl, sql_mono e h0, Enc.mono e h1, Enc.mono e h2⟩⟩
instance {α β : Type} [EqD α] [EqD β] : EqD (HL2 α β) := ⟨fun x => .list [EqD.toD x.a, EqD.toD x.b], fun h f => by
  obtain ⟨p, v1, v2, rfl, h0, h1, h2⟩ := h
  exact .lst (sql_mono f h0) (.cons (EqD.dp h1 f) (.cons (EqD.dp h2 f) .nil)), fun x y => by
    obtain ⟨x1, x2⟩ := x
    obtain ⟨y1, y2⟩ := y
    show (PyData.eqv _ _ && (PyData.eqv _ _ && true)) = true ↔ _
    rw [Bool.and_eq_true, Bool.and_eq_true, EqD.eqv, EqD.eqv]; simp⟩
section
variable {α β : Type} [Enc α] [Enc β] {X : Cx} {σ : St} {s : S} {es : List Expr} {pos : Pos}
theorem ev_hl2 {x : α} {y : β} (h : EvA X es σ s (x, y, ())) : Ev X (.List es pos) σ s (⟨x, y⟩ : HL2 α β) := fun s1 k Q q =>
  we_of (pe_lst pa_wa) (h s1 k _ fun vs s2 k2 r2 => by
    obtain ⟨v1, _, rfl, r1, v2, _, rfl, r2, rfl⟩ := r2
    exact ⟨show _ ≤ 2 ^ 24 by simp, fun p hp => q _ (s2.newF p (.lst [v1, v2]) hp) (k2.trans (Ex.newF hp)) ⟨p, v1, v2, rfl, .inl (.inl upd_same), Enc.mono (Ex.newF hp).f r1, Enc.mono (Ex.newF hp).f r2⟩⟩)
end
def relS (scope sc : Scope) : Scope := { scope with names := scope.names.map fun (n, k) => if (k == .free && sc.kind == .function && sc.names.lookup n == some .cell) then (n, .cell) else (n, k) }
theorem blkOk_n {N : List Str} {scope1 sc0 scope : Scope} {env : Env} {own : List (Str × Nat)} (e : env.scope = sc0) (h : blkC N (relS scope1 sc0) scope own = true) : BlkOk N (relabel scope1 env) scope own := by
  have : relabel scope1 env = relS scope1 sc0 := by subst e; rfl
  rw [this]
  exact blkOk_by h
end Dy

namespace Dy
open PySem PySem.Spec L2
open PyProof.Rows hiding St
open Enc (rep)

inductive An where
  | b (x : Bool)
  | i (x : Int)
  | o (x : Option Int)
  | s (x : Str)
  | l (xs : List Int)
  | ls (xs : List Str)
  | ts (xs : Tu Str)
instance : Enc An := ⟨fun K F v x => match x with
  | .b x => rep K F v x
  | .i x => rep K F v x
  | .o x => rep K F v x
  | .s x => rep K F v x
  | .l x => rep K F v x
  | .ls x => rep K F v x
  | .ts x => rep K F v x, fun {K F F' v x} e h => by
  cases x with
  | b x => exact Enc.mono (α := Bool) e h
  | i x => exact Enc.mono (α := Int) e h
  | o x => exact Enc.mono (α := Option Int) e h
  | s x => exact Enc.mono (α := Str) e h
  | l x => exact Enc.mono (α := List Int) e h
  | ls x => exact Enc.mono (α := List Str) e h
  | ts x => exact Enc.mono (α := Tu Str) e h⟩
class ToD (α : Type) extends Enc α where
  td : α → PyData
  tdp : ∀ {K : PySem.W.Frag} {F H : Hp} {v : V} {x : α}, rep K F v x → Fle F H → Dp K H v (td x)
instance : ToD An := ⟨fun x => match x with
  | .b x => EqD.toD x
  | .i x => EqD.toD x
  | .o x => EqD.toD x
  | .s x => EqD.toD x
  | .l x => EqD.toD x
  | .ls x => EqD.toD x
  | .ts x => EqD.toD x, fun {K F H v x} h f => by
  cases x with
  | b x => exact EqD.dp (α := Bool) h f
  | i x => exact EqD.dp (α := Int) h f
  | o x => exact EqD.dp (α := Option Int) h f
  | s x => exact EqD.dp (α := Str) h f
  | l x => exact EqD.dp (α := List Int) h f
  | ls x => exact EqD.dp (α := List Str) h f
  | ts x => exact EqD.dp (α := Tu Str) h f⟩
instance {α : Type} [EqD α] : ToD (α × An) := ⟨fun x => .tuple [EqD.toD x.1, ToD.td x.2], fun h f => by
  obtain ⟨p, v1, v2, rfl, h0, h1, h2⟩ := h
  exact .tup (sqt_mono f h0) (.cons (EqD.dp h1 f) (.cons (ToD.tdp h2 f) .nil))⟩
def eqvD {α : Type} [ToD α] (x y : α) : Bool := PyData.eqv (ToD.td x) (ToD.td y)
def shpD {α : Type} [ToD α] (x : α) : Prop := SeqAt.shaped (ToD.td x) = true
section
variable {α : Type} {X : Cx} {σ : St} {s : S} {a b e : Expr} {pos : Pos}
theorem eb_eqV [ToD α] {x y : α} {j : Nat} (hr : Room j X.A) (ha : Ev X a σ s x) (hb : Ev X b σ s y) (h1 : shpD x) (h2 : shpD y) : EvB X (.Compare a [.Eq] [b] pos) σ s (eqvD x y) :=
  eb_cmp (op_eqD (hu64 hr)) ha hb (fun v u s2 hv hu Q q => ⟨_, _, ToD.tdp hv s2.sub, ToD.tdp hu s2.sub, h1, h2, q⟩) (nomark _)
theorem eb_neV [ToD α] {x y : α} {j : Nat} (hr : Room j X.A) (ha : Ev X a σ s x) (hb : Ev X b σ s y) (h1 : shpD x) (h2 : shpD y) : EvB X (.Compare a [.NotEq] [b] pos) σ s (!eqvD x y) :=
  eb_cmp (op_neD (hu64 hr)) ha hb (fun v u s2 hv hu Q q => ⟨_, _, ToD.tdp hv s2.sub, ToD.tdp hu s2.sub, h1, h2, q⟩) (nomark _)
theorem an_b {x : Bool} (h : Ev X e σ s x) : Ev X e σ s (An.b x) := h
theorem an_i {x : Int} (h : Ev X e σ s x) : Ev X e σ s (An.i x) := h
theorem an_o {x : Option Int} (h : Ev X e σ s x) : Ev X e σ s (An.o x) := h
theorem an_s {x : Str} (h : Ev X e σ s x) : Ev X e σ s (An.s x) := h
theorem an_l {x : List Int} (h : Ev X e σ s x) : Ev X e σ s (An.l x) := h
theorem an_ls {x : List Str} (h : Ev X e σ s x) : Ev X e σ s (An.ls x) := h
theorem an_ts {x : Tu Str} (h : Ev X e σ s x) : Ev X e σ s (An.ts x) := h
def anB : An → Option Bool
  | .b x => some x
  | _ => none
theorem ev_anB {x : An} {y : Bool} (h : Ev X e σ s x) (hy : anB x = some y) : Ev X e σ s y := by
  cases x with
  | b z => cases hy; exact h
  | _ => cases hy
end
end Dy

namespace Dy
open PySem PySem.Spec L2
open PyProof.Rows hiding St
open Enc (rep)
open Flat (toV)
open EncA (repA)

structure OA where
  p : PySem.W.Frag → Hp → Hp → (Addr → Prop) → Prop
  mono : ∀ {K : PySem.W.Frag} {F F' H : Hp} {P : Addr → Prop}, Fle F F' → p K F H P → p K F' H P
  loc : ∀ {K : PySem.W.Frag} {F H H' : Hp} {P : Addr → Prop}, (∀ a, P a → H' a = H a) → p K F H P → p K F H' P
  dom : ∀ {K : PySem.W.Frag} {F H : Hp} {P : Addr → Prop} {a : Addr}, p K F H P → P a → ∃ o, H a = some o
def top : OA := ⟨fun _ _ _ P => ∀ a, ¬ P a, fun _ h => h, fun _ h => h, fun h q => absurd q (h _)⟩
def fz {α : Type} [Enc α] (v : V) (x : α) : OA := ⟨fun K F _ P => rep K F v x ∧ ∀ a, ¬ P a, fun e h => ⟨Enc.mono e h.1, h.2⟩, fun _ h => h, fun h q => absurd q (h.2 _)⟩
def ol {α : Type} [Enc α] (p : Addr) (xs : List α) : OA := ⟨fun K F H P => (∀ a, P a ↔ a = p) ∧ ∃ vs, H p = some (.lst vs) ∧ Reps K F vs xs, fun e ⟨h0, vs, h1, h2⟩ => ⟨h0, vs, h1, h2.mono e⟩,
  fun e ⟨h0, vs, h1, h2⟩ => ⟨h0, vs, by rw [e p ((h0 p).mpr rfl)]; exact h1, h2⟩, fun ⟨h0, vs, h1, h2⟩ q => ⟨_, (congrArg _ ((h0 _).mp q)).trans h1⟩⟩
class DKey (κ : Type) extends Eqs κ where
  dec : DecidableEq κ
  toK : κ → Key
  kv : ∀ k, kV (toK k) = toV k
  kinj : ∀ a b, toK a = toK b ↔ a = b
instance : DKey Int := { dec := inferInstance, toK := Sum.inl, kv := fun _ => rfl, kinj := fun a b => ⟨fun h => Sum.inl.inj h, fun h => by rw [h]⟩ }
instance : DKey Str := { dec := inferInstance, toK := Sum.inr, kv := fun _ => rfl, kinj := fun a b => ⟨fun h => Sum.inr.inj h, fun h => by rw [h]⟩ }
def KReps {κ α : Type} [DKey κ] [Enc α] (K : PySem.W.Frag) (F : Hp) : List (Key × V) → List (κ × α) → Prop
  | [], [] => True
  | (k, v) :: r, (j, x) :: xs => k = DKey.toK j ∧ rep K F v x ∧ KReps K F r xs
  | _, _ => False
theorem KReps.mono {κ α : Type} [DKey κ] [Enc α] {K : PySem.W.Frag} {F F' : Hp} (e : Fle F F') : ∀ {kv : List (Key × V)} {xs : List (κ × α)}, KReps K F kv xs → KReps K F' kv xs
  | [], [], _ => trivial
  | _ :: _, _ :: _, ⟨h1, h2, t⟩ => ⟨h1, Enc.mono e h2, KReps.mono e t⟩
  | [], _ :: _, h => h.elim
  | _ :: _, [], h => h.elim
theorem KReps.len {κ α : Type} [DKey κ] [Enc α] {K : PySem.W.Frag} {F : Hp} : ∀ {kv : List (Key × V)} {xs : List (κ × α)}, KReps K F kv xs → kv.length = xs.length
  | [], [], _ => rfl
  | _ :: _, _ :: _, ⟨_, _, t⟩ => congrArg (· + 1) (KReps.len t)
  | [], _ :: _, h => h.elim
  | _ :: _, [], h => h.elim
def od {κ α : Type} [DKey κ] [Enc α] (p : Addr) (xs : List (κ × α)) : OA := ⟨fun K F H P => (∀ a, P a ↔ a = p) ∧ ∃ kv, H p = some (.dK kv) ∧ KReps K F kv xs, fun e ⟨h0, vs, h1, h2⟩ => ⟨h0, vs, h1, h2.mono e⟩,
  fun e ⟨h0, vs, h1, h2⟩ => ⟨h0, vs, by rw [e p ((h0 p).mpr rfl)]; exact h1, h2⟩, fun ⟨h0, vs, h1, h2⟩ q => ⟨_, (congrArg _ ((h0 _).mp q)).trans h1⟩⟩
def odl {κ α : Type} [DKey κ] [Enc α] (p : Addr) (o : Obj) (kv : List (Key × V)) (xs : List (κ × α)) : OA := ⟨fun K F H P => (∀ a, P a ↔ a = p) ∧ H p = some (.frz o (.dK kv)) ∧ KReps K F kv xs, fun e ⟨h0, h1, h2⟩ => ⟨h0, h1, h2.mono e⟩,
  fun e ⟨h0, h1, h2⟩ => ⟨h0, by rw [e p ((h0 p).mpr rfl)]; exact h1, h2⟩, fun ⟨h0, h1, h2⟩ q => ⟨_, (congrArg _ ((h0 _).mp q)).trans h1⟩⟩
def cell (p : Addr) (c : Str) (fs : List (Str × V)) : OA := ⟨fun K F H P => ∃ dx, (∀ a, P a ↔ (a = p ∨ a = dx)) ∧ H p = some (.ins (He.ga K c) dx fs) ∧ H dx = some (.own p), fun e h => h,
  fun e ⟨dx, h0, h1, h2⟩ => ⟨dx, h0, by rw [e p ((h0 p).mpr (.inl rfl))]; exact h1, by rw [e dx ((h0 dx).mpr (.inr rfl))]; exact h2⟩, fun ⟨dx, h0, h1, h2⟩ q => by
    rcases (h0 _).mp q with rfl | rfl
    · exact ⟨_, h1⟩
    · exact ⟨_, h2⟩⟩

structure Mz (P : Addr → Prop) (s t : S) : Prop where
  f : Fle s.F t.F
  h : ∀ a o, s.H a = some o → ¬ P a → t.H a = some o
  n : ∀ a o, s.H a = some o → ¬ P a → s.F a = none → t.F a = none
  d : ∀ a o, s.H a = some o → ∃ u, t.H a = some u
theorem Mx.z {P : Addr → Prop} {s t : S} (m : Mx P s t) : Mz P s t := ⟨m.f, m.h, fun a o h _ q => m.n a o h q, m.d⟩
theorem Ex.z {P : Addr → Prop} {s t : S} (e : Ex s t) : Mz P s t := e.mx.z
theorem Mz.trans {P : Addr → Prop} {s t u : S} (a : Mz P s t) (b : Mz P t u) : Mz P s u :=
  ⟨fun x o h => b.f x o (a.f x o h), fun x o h n => b.h x o (a.h x o h n) n,
   fun x o h p n => by obtain ⟨v, hv⟩ := a.d x o h; exact b.n x v hv p (a.n x o h p n),
   fun x o h => by obtain ⟨v, hv⟩ := a.d x o h; exact b.d x v hv⟩
theorem Mz.fr_back {P : Addr → Prop} {s t : S} (e : Mz P s t) {p : Addr} (h : t.H p = none) : s.H p = none := by
  cases q : s.H p with
  | none => rfl
  | some o => obtain ⟨u, z⟩ := e.d p o q; rw [z] at h; cases h
structure Iv (K : PySem.W.Frag) (P0 : Addr → Prop) (s0 s : S) (L : List OA) : Prop where
  m : Mz P0 s0 s
  o : ∃ φ : Nat → Addr → Prop, (∀ (i : Nat) (A : OA), L[i]? = some A → A.p K s.F s.H (φ i)) ∧ (∀ (i j : Nat) (a : Addr), φ i a → φ j a → i = j) ∧ (∀ (i : Nat) (a : Addr), φ i a → s.F a = none ∧ (P0 a ∨ s0.H a = none) ∧ i < L.length)
section
variable {α β κ : Type} [Enc α] [Enc β] [DKey κ] {K : PySem.W.Frag} {P0 : Addr → Prop} {s0 s s1 t : S} {L M : List OA}
theorem Iv.fz (h : Iv K P0 s0 s L) (i : Nat) {v : V} {x : α} (e : L[i]? = some (Dy.fz v x) := by rfl) : rep K s.F v x := by
  obtain ⟨φ, h1, _⟩ := h.o
  exact (h1 i _ e).1
theorem Iv.ol (h : Iv K P0 s0 s L) (i : Nat) {p : Addr} {xs : List α} (e : L[i]? = some (Dy.ol p xs) := by rfl) : Own K s p xs := by
  obtain ⟨φ, h1, h2, h3⟩ := h.o
  obtain ⟨q, vs, hp, r⟩ := h1 i _ e
  exact ⟨(h3 i p ((q p).mpr rfl)).1, vs, hp, r⟩
theorem Iv.at (h : Iv K P0 s0 s L) (i : Nat) {A : OA} (e : L[i]? = some A := by rfl) : ∃ P, A.p K s.F s.H P ∧ ∀ a, P a → s.F a = none := by
  obtain ⟨φ, h1, h2, h3⟩ := h.o
  exact ⟨φ i, h1 i A e, fun a q => (h3 i a q).1⟩
theorem Iv.ex (h : Iv K P0 s0 s L) (e : Ex s s1) : Iv K P0 s0 s1 L := by
  obtain ⟨φ, h1, h2, h3⟩ := h.o
  refine ⟨h.m.trans e.z, φ, fun i A hA => ?_, h2, fun i a q => ?_⟩
  · have h4 := h1 i A hA
    exact A.mono e.f (A.loc (fun a q => by
      obtain ⟨o, ho⟩ := A.dom h4 q
      rw [ho]; exact e.h _ _ ho) h4)
  · obtain ⟨h5, h6, h7⟩ := h3 i a q
    obtain ⟨A, hA⟩ : ∃ A, L[i]? = some A := ⟨L[i], List.getElem?_eq_getElem h7⟩
    obtain ⟨o, ho⟩ := A.dom (h1 i A hA) q
    exact ⟨e.n _ _ ho h5, h6, h7⟩
theorem Iv.upd (h : Iv K P0 s0 s L) (i : Nat) {A A' : OA} (hA : L[i]? = some A) (st : ∀ P, A.p K s.F s.H P → (∀ a, P a → s.F a = none) → ∃ P', A'.p K s1.F s1.H P' ∧ (∀ a, P' a → s1.F a = none ∧ (P a ∨ s.H a = none)) ∧ Mz P s s1) : Iv K P0 s0 s1 (L.set i A') := by
  obtain ⟨φ, h1, h2, h3⟩ := h.o
  obtain ⟨P', g1, g2, g3⟩ := st (φ i) (h1 i A hA) fun a q => (h3 i a q).1
  have hi : i < L.length := (List.getElem?_eq_some_iff.mp hA).1
  have old : ∀ j a, φ j a → ∃ o, s.H a = some o := fun j a q => by
    obtain ⟨_, _, h7⟩ := h3 j a q
    exact (L[j]).dom (h1 j _ (List.getElem?_eq_getElem h7)) q
  have m1 : Mz P0 s0 s1 := by
    refine ⟨h.m.f.trans g3.f, fun a o q n => g3.h _ _ (h.m.h a o q n) fun z => ?_, fun a o q np n => ?_, fun a o q => ?_⟩
    · rcases (h3 i a z).2.1 with w | w
      · exact n w
      · rw [w] at q; cases q
    · obtain ⟨u, hu⟩ := h.m.d a o q
      exact g3.n a u hu (fun z => by
        rcases (h3 i a z).2.1 with w | w
        · exact np w
        · rw [w] at q; cases q) (h.m.n a o q np n)
    · obtain ⟨u, hu⟩ := h.m.d a o q
      exact g3.d a u hu
  refine ⟨m1, fun j a => if j = i then P' a else φ j a, fun j B hB => ?_, fun j k a => ?_, fun j a => ?_⟩
  · by_cases e : j = i
    · subst e
      rw [List.getElem?_set_self hi] at hB
      cases hB
      simpa using g1
    · rw [List.getElem?_set_ne (Ne.symm e)] at hB
      simp only [e, if_false]
      have h4 := h1 j B hB
      exact B.mono g3.f (B.loc (fun a q => by
        obtain ⟨o, ho⟩ := B.dom h4 q
        rw [ho]; exact g3.h _ _ ho fun z => e (h2 _ _ _ q z)) h4)
  · intro q r
    by_cases e : j = i <;> by_cases e2 : k = i
    · rw [e, e2]
    · exfalso
      simp only [e, if_true] at q
      simp only [e2, if_false] at r
      rcases (g2 a q).2 with z | z
      · exact e2 (h2 _ _ _ r z)
      · obtain ⟨o, ho⟩ := old k a r
        rw [z] at ho; cases ho
    · exfalso
      simp only [e, if_false] at q
      simp only [e2, if_true] at r
      rcases (g2 a r).2 with z | z
      · exact e (h2 _ _ _ q z)
      · obtain ⟨o, ho⟩ := old j a q
        rw [z] at ho; cases ho
    · simp only [e, if_false] at q
      simp only [e2, if_false] at r
      exact h2 _ _ _ q r
  · intro q
    rw [List.length_set]
    by_cases e : j = i
    · simp only [e, if_true] at q
      obtain ⟨z1, z2⟩ := g2 a q
      refine ⟨z1, ?_, by rw [e]; exact hi⟩
      rcases z2 with z | z
      · exact (h3 i a z).2.1
      · refine .inr ?_
        exact h.m.fr_back z
    · simp only [e, if_false] at q
      obtain ⟨z1, z2, z3⟩ := h3 j a q
      obtain ⟨o, ho⟩ := old j a q
      exact ⟨g3.n _ _ ho (fun z => e (h2 _ _ _ q z)) z1, z2, z3⟩
theorem Iv.put (h : Iv K P0 s0 s L) (i : Nat) {A' : OA} (e : Ex s s1) (st : ∃ P', A'.p K s1.F s1.H P' ∧ ∀ a, P' a → s1.F a = none ∧ s.H a = none) : Iv K P0 s0 s1 (L.set i A') := by
  by_cases hi : i < L.length
  case neg => rw [List.set_eq_of_length_le (by omega)]; exact h.ex e
  refine h.upd i (List.getElem?_eq_getElem hi) fun P _ _ => ?_
  obtain ⟨P', g1, g2⟩ := st
  exact ⟨P', g1, fun a q => ⟨(g2 a q).1, .inr (g2 a q).2⟩, e.z⟩
theorem Iv.sf (h : Iv K P0 s0 s L) (i : Nat) {v : V} {x y : α} (e : Ex s s1) (r : rep K s1.F v x) (q : y = x) : Iv K P0 s0 s1 (L.set i (Dy.fz v y)) := by
  subst q
  exact h.put i e ⟨fun _ => False, ⟨r, fun _ z => z⟩, fun _ z => z.elim⟩
theorem Iv.sl (h : Iv K P0 s0 s L) (i : Nat) {p : Addr} {xs ys : List α} (e : Ex s s1) (n : s.H p = none) (o : Own K s1 p xs) (q : ys = xs) : Iv K P0 s0 s1 (L.set i (Dy.ol p ys)) := by
  subst q
  obtain ⟨o1, vs, o2, o3⟩ := o
  exact h.put i e ⟨fun a => a = p, ⟨fun _ => Iff.rfl, vs, o2, o3⟩, fun a z => by rw [z]; exact ⟨o1, n⟩⟩
theorem Iv.ml (h : Iv K P0 s0 s L) (i : Nat) {p : Addr} {xs : List α} {ys zs : List β} (m : Mx (· = p) s s1) (o : Own K s1 p ys) (q : zs = ys) (hA : L[i]? = some (Dy.ol p xs) := by rfl) : Iv K P0 s0 s1 (L.set i (Dy.ol p zs)) := by
  subst q
  obtain ⟨o1, vs, o2, o3⟩ := o
  refine h.upd i hA fun P hP _ => ⟨P, ?_, ?_, ?_⟩
  · exact ⟨hP.1, vs, o2, o3⟩
  · intro a z
    rw [(hP.1 a).mp z]
    exact ⟨o1, .inl ((hP.1 p).mpr rfl)⟩
  · exact ⟨m.f, fun a o q n => m.h a o q fun z => n ((hP.1 a).mpr z), fun a o q _ z => m.n a o q z, m.d⟩
def pick (L : List OA) (js : List (Option Nat)) : List OA := js.map fun o => match o with | none => top | some i => L.getD i top
theorem Iv.sel (h : Iv K P0 s0 s L) (js : List (Option Nat)) (hn : (js.filterMap id).Nodup) (hM : pick L js = M) : Iv K P0 s0 s M := by
  subst hM
  obtain ⟨φ, h1, h2, h3⟩ := h.o
  refine ⟨h.m, fun k a => ∃ i, js[k]? = some (some i) ∧ φ i a, fun k A hA => ?_, fun k l a ⟨i, e1, q1⟩ ⟨j, e2, q2⟩ => ?_, fun k a ⟨i, e1, q1⟩ => ?_⟩
  · unfold pick at hA
    rw [List.getElem?_map] at hA
    obtain ⟨o, e1, e2⟩ := Option.map_eq_some_iff.mp hA
    cases o with
    | none =>
      subst e2
      intro a ⟨i, e3, _⟩
      rw [e1] at e3; cases e3
    | some i =>
      dsimp only at e2
      have eφ : (fun a => ∃ j, js[k]? = some (some j) ∧ φ j a) = φ i := by
        funext a
        apply propext
        constructor
        · rintro ⟨j, e3, q⟩
          rw [e1] at e3
          cases e3
          exact q
        · exact fun q => ⟨i, e1, q⟩
      show A.p K s.F s.H (fun a => ∃ j, js[k]? = some (some j) ∧ φ j a)
      rw [eφ]
      cases hg : L[i]? with
      | none =>
        rw [List.getD_eq_getElem?_getD, hg] at e2
        subst e2
        intro a q
        have := (h3 i a q).2.2
        rw [List.getElem?_eq_getElem this] at hg
        cases hg
      | some B =>
        rw [List.getD_eq_getElem?_getD, hg] at e2
        subst e2
        exact h1 i B hg
  · have := h2 _ _ _ q1 q2
    subst this
    have key : ∀ (js : List (Option Nat)) (k l : Nat), (js.filterMap id).Nodup → js[k]? = some (some i) → js[l]? = some (some i) → k = l := by
      intro js
      induction js with
      | nil => intro k l _ e; cases e
      | cons x r ih =>
        intro k l hn e1 e2
        cases x with
        | none =>
          cases k with
          | zero => cases e1
          | succ k =>
            cases l with
            | zero => cases e2
            | succ l => exact congrArg (· + 1) (ih k l (by simpa using hn) (by simpa using e1) (by simpa using e2))
        | some y =>
          have hn' : y ∉ r.filterMap id ∧ (r.filterMap id).Nodup := by simpa using hn
          have mem : ∀ k, r[k]? = some (some i) → i ∈ r.filterMap id := fun k e => List.mem_filterMap.mpr ⟨some i, List.mem_of_getElem? e, rfl⟩
          cases k with
          | zero =>
            cases l with
            | zero => rfl
            | succ l =>
              have : y = i := by simpa using e1
              exact absurd (mem l (by simpa using e2)) (this ▸ hn'.1)
          | succ k =>
            cases l with
            | zero =>
              have : y = i := by simpa using e2
              exact absurd (mem k (by simpa using e1)) (this ▸ hn'.1)
            | succ l => exact congrArg (· + 1) (ih k l hn'.2 (by simpa using e1) (by simpa using e2))
    exact key js k l hn e1 e2
  · obtain ⟨z1, z2, z3⟩ := h3 i a q1
    refine ⟨z1, z2, ?_⟩
    unfold pick
    rw [List.length_map]
    exact (List.getElem?_eq_some_iff.mp e1).1
theorem Iv.tops (n : Nat) (s : S) : Iv K P0 s s (List.replicate n top) := by
  refine ⟨(Ex.refl s).z, fun _ _ => False, fun i A hA => ?_, fun _ _ _ z => z.elim, fun _ _ z => z.elim⟩
  have := List.mem_of_getElem? hA
  rw [List.eq_of_mem_replicate this]
  exact fun _ z => z
theorem Iv.exx (h : Iv K (fun _ => False) s0 s L) : Ex s0 s := ⟨h.m.f, fun a o q => h.m.h a o q fun z => z, fun a o q n => h.m.n a o q (fun z => z) n⟩
theorem Iv.frz (h : Iv K P0 s0 s L) (i : Nat) {p : Addr} {xs : List α} (hA : L[i]? = some (Dy.ol p xs) := by rfl) : ∃ s' : S, s'.H = s.H ∧ Fle s.F s'.F ∧ Iv K P0 s0 s' (L.set i (Dy.fz (.ref p) xs)) := by
  obtain ⟨s', h1, h2, h3, h4⟩ := (h.ol i hA).frz
  refine ⟨s', h1, h2, ?_⟩
  obtain ⟨φ, g1, g2, g3⟩ := h.o
  have hi : i < L.length := (List.getElem?_eq_some_iff.mp hA).1
  have hp : φ i p := ((g1 i _ hA).1 p).mpr rfl
  refine ⟨⟨h.m.f.trans h2, fun a o q n => by rw [h1]; exact h.m.h a o q n, fun a o q np n => ?_, fun a o q => by rw [h1]; exact h.m.d a o q⟩, fun j a => if j = i then False else φ j a, fun j B hB => ?_, fun j k a q r => ?_, fun j a q => ?_⟩
  · have ne : a ≠ p := fun z => by
      subst z
      rcases (g3 i a hp).2.1 with w | w
      · exact np w
      · rw [w] at q; cases q
    rw [h3 a ne]
    exact h.m.n a o q np n
  · by_cases e : j = i
    · subst e
      rw [List.getElem?_set_self hi] at hB
      cases hB
      exact ⟨h4, fun a => by simp⟩
    · rw [List.getElem?_set_ne (Ne.symm e)] at hB
      simp only [e, if_false]
      rw [h1]
      exact B.mono h2 (g1 j B hB)
  · by_cases e : j = i
    · simp only [e, if_true] at q
    · by_cases e2 : k = i
      · simp only [e2, if_true] at r
      · simp only [e, if_false] at q
        simp only [e2, if_false] at r
        exact g2 _ _ _ q r
  · by_cases e : j = i
    · simp only [e, if_true] at q
    · simp only [e, if_false] at q
      obtain ⟨z1, z2, z3⟩ := g3 j a q
      have ne : a ≠ p := fun z => e (g2 _ _ _ q (z ▸ hp))
      exact ⟨by rw [h3 a ne]; exact z1, z2, by rw [List.length_set]; exact z3⟩
structure Ro (K : PySem.W.Frag) (P0 : Addr → Prop) (s0 : S) (R : List OA) : Prop where
  o : ∀ (i : Nat) (A : OA), R[i]? = some A → ∃ P, A.p K s0.F s0.H P ∧ ∀ a, P a → ¬ P0 a
theorem OA.stay {A : OA} {P : Addr → Prop} (h : A.p K s.F s.H P) (m : Mz P0 s t) (n : ∀ a, P a → ¬ P0 a) : A.p K t.F t.H P :=
  A.mono m.f (A.loc (fun a q => by
    obtain ⟨o, ho⟩ := A.dom h q
    rw [ho]; exact m.h _ _ ho (n a q)) h)
theorem Iv.ro (h : Iv K P0 s0 s L) {R : List OA} (r : Ro K P0 s0 R) (i : Nat) {A : OA} (e : R[i]? = some A := by rfl) : ∃ P, A.p K s.F s.H P := by
  obtain ⟨P, h1, h2⟩ := r.o i A e
  exact ⟨P, OA.stay h1 h.m h2⟩
def rem (L : List OA) (ks : List Nat) : List OA := L.mapIdx fun i A => if i ∈ ks then top else A
def rsel (L R0 : List OA) (rs : List (Nat ⊕ Nat)) : List OA := rs.map fun z => match z with | .inl i => L.getD i top | .inr j => R0.getD j top
theorem call_in (h : Iv K P0 s0 s L) {R0 : List OA} (ro : Ro K P0 s0 R0) (ks : List Nat) (hn : ks.Nodup) (hk : ∀ k ∈ ks, k < L.length) (Lf : List OA) (hf : ∀ A ∈ Lf, A.p K s.F s.H (fun _ => False)) (rs : List (Nat ⊕ Nat)) (hrs : ∀ i, Sum.inl i ∈ rs → i ∉ ks) :
    ∃ P1, Iv K P1 s s (ks.map (fun k => L.getD k top) ++ Lf) ∧ Ro K P1 s (rsel L R0 rs) ∧ (ks = [] → ∀ a, ¬ P1 a) ∧ ∀ s' L', Iv K P1 s s' L' → Iv K P0 s0 s' (rem L ks ++ L') := by
  obtain ⟨φ, h1, h2, h3⟩ := h.o
  refine ⟨fun a => ∃ k ∈ ks, φ k a, ⟨(Ex.refl s).z, fun i a => ∃ k, ks[i]? = some k ∧ φ k a, fun i A hA => ?_, fun i j a ⟨k, e1, q1⟩ ⟨l, e2, q2⟩ => ?_, fun i a ⟨k, e1, q1⟩ => ?_⟩, ⟨fun i A hA => ?_⟩, fun e a w => (by obtain ⟨k, hk, _⟩ := w; rw [e] at hk; cases hk), fun s' L' iv => ?_⟩
  · by_cases hi : i < ks.length
    · rw [List.getElem?_append_left (by rw [List.length_map]; exact hi), List.getElem?_map, List.getElem?_eq_getElem hi, Option.map_some] at hA
      have hA := Option.some.inj hA
      have hkl := hk ks[i] (List.getElem_mem hi)
      rw [List.getD_eq_getElem?_getD, List.getElem?_eq_getElem hkl, Option.getD_some] at hA
      have eφ : (fun a => ∃ k, ks[i]? = some k ∧ φ k a) = φ ks[i] := by
        funext a
        apply propext
        rw [List.getElem?_eq_getElem hi]
        exact ⟨fun ⟨k, e, q⟩ => by cases e; exact q, fun q => ⟨_, rfl, q⟩⟩
      show A.p K s.F s.H (fun a => ∃ k, ks[i]? = some k ∧ φ k a)
      rw [eφ, ← hA]
      exact h1 _ _ (List.getElem?_eq_getElem hkl)
    · rw [List.getElem?_append_right (by rw [List.length_map]; omega)] at hA
      have eφ : (fun a => ∃ k, ks[i]? = some k ∧ φ k a) = fun _ => False := by
        funext a
        apply propext
        rw [List.getElem?_eq_none (by omega)]
        exact ⟨fun w => (by obtain ⟨k, e, _⟩ := w; cases e), fun z => z.elim⟩
      show A.p K s.F s.H (fun a => ∃ k, ks[i]? = some k ∧ φ k a)
      rw [eφ]
      exact hf A (List.mem_of_getElem? hA)
  · obtain ⟨hi, ei⟩ := List.getElem?_eq_some_iff.mp e1
    obtain ⟨hj, ej⟩ := List.getElem?_eq_some_iff.mp e2
    have e := h2 _ _ _ q1 q2
    rw [← ei, ← ej] at e
    exact (List.getElem_inj hn).mp e
  · exact ⟨(h3 k a q1).1, .inl ⟨k, List.mem_of_getElem? e1, q1⟩, by rw [List.length_append, List.length_map]; have := (List.getElem?_eq_some_iff.mp e1).1; omega⟩
  · unfold rsel at hA
    rw [List.getElem?_map] at hA
    obtain ⟨z, e1, e2⟩ := Option.map_eq_some_iff.mp hA
    have hz := List.mem_of_getElem? e1
    have tp : top.p K s.F s.H (fun _ => False) := fun _ z => z
    cases z with
    | inl i =>
      by_cases hi : i < L.length
      · have e3 : L[i]? = some A := by
          rw [List.getElem?_eq_getElem hi]
          simp only [List.getD_eq_getElem?_getD, List.getElem?_eq_getElem hi, Option.getD_some] at e2
          rw [e2]
        exact ⟨φ i, h1 i A e3, fun a q ⟨k, hk, q2⟩ => hrs i hz (h2 _ _ _ q q2 ▸ hk)⟩
      · simp only [List.getD_eq_getElem?_getD, List.getElem?_eq_none (Nat.le_of_not_lt hi), Option.getD_none] at e2
        rw [← e2]
        exact ⟨_, tp, fun _ z => z.elim⟩
    | inr j =>
      by_cases hj : j < R0.length
      · have e3 : R0[j]? = some A := by
          rw [List.getElem?_eq_getElem hj]
          simp only [List.getD_eq_getElem?_getD, List.getElem?_eq_getElem hj, Option.getD_some] at e2
          rw [e2]
        obtain ⟨P, g1, g2⟩ := ro.o j A e3
        refine ⟨P, OA.stay g1 h.m g2, fun a q ⟨k, hk, q2⟩ => ?_⟩
        rcases (h3 k a q2).2.1 with w | w
        · exact g2 a q w
        · obtain ⟨o, ho⟩ := A.dom g1 q
          rw [w] at ho; cases ho
      · simp only [List.getD_eq_getElem?_getD, List.getElem?_eq_none (Nat.le_of_not_lt hj), Option.getD_none] at e2
        rw [← e2]
        exact ⟨_, tp, fun _ z => z.elim⟩
  · obtain ⟨φ', g1, g2, g3⟩ := iv.o
    have hP : ∀ a o, s0.H a = some o → ¬ P0 a → ¬ ∃ k ∈ ks, φ k a := fun a o q np ⟨k, _, q2⟩ => by
      rcases (h3 k a q2).2.1 with w | w
      · exact np w
      · rw [w] at q; cases q
    have hlen : (rem L ks).length = L.length := by unfold rem; rw [List.length_mapIdx]
    refine ⟨⟨h.m.f.trans iv.m.f, fun a o q n => iv.m.h a o (h.m.h a o q n) (hP a o q n), fun a o q np n => ?_, fun a o q => ?_⟩, fun i a => if i < L.length then (i ∉ ks ∧ φ i a) else φ' (i - L.length) a, fun i A hA => ?_, fun i j a q r => ?_, fun i a q => ?_⟩
    · obtain ⟨u, hu⟩ := h.m.d a o q
      exact iv.m.n a u hu (hP a o q np) (h.m.n a o q np n)
    · obtain ⟨u, hu⟩ := h.m.d a o q
      exact iv.m.d a u hu
    · by_cases hi : i < L.length
      · rw [List.getElem?_append_left (by omega)] at hA
        unfold rem at hA
        rw [List.getElem?_mapIdx, List.getElem?_eq_getElem hi, Option.map_some] at hA
        have hA := Option.some.inj hA
        simp only [hi, if_true]
        by_cases hik : i ∈ ks
        · rw [if_pos hik] at hA
          rw [← hA]
          exact fun a ⟨z, _⟩ => z hik
        · rw [if_neg hik] at hA
          show A.p K s'.F s'.H (fun a => i ∉ ks ∧ φ i a)
          have eφ : (fun a => i ∉ ks ∧ φ i a) = φ i := by
            funext a
            apply propext
            exact ⟨fun z => z.2, fun z => ⟨hik, z⟩⟩
          rw [eφ, ← hA]
          exact OA.stay (h1 i _ (List.getElem?_eq_getElem hi)) iv.m fun a q ⟨k, hk, q2⟩ => hik (h2 _ _ _ q q2 ▸ hk)
      · rw [List.getElem?_append_right (by omega), hlen] at hA
        simp only [hi, if_false]
        exact g1 _ A hA
    · have apart : ∀ i j a, i < L.length → i ∉ ks → φ i a → φ' j a → False := fun i j a hi hik q r => by
        rcases (g3 j a r).2.1 with ⟨k, hk, q2⟩ | w
        · exact hik (h2 _ _ _ q q2 ▸ hk)
        · obtain ⟨o, ho⟩ := (L[i]).dom (h1 i _ (List.getElem?_eq_getElem hi)) q
          rw [w] at ho; cases ho
      by_cases hi : i < L.length <;> by_cases hj : j < L.length
      · simp only [hi, if_true] at q
        simp only [hj, if_true] at r
        exact h2 _ _ _ q.2 r.2
      · simp only [hi, if_true] at q
        simp only [hj, if_false] at r
        exact (apart _ _ _ hi q.1 q.2 r).elim
      · simp only [hi, if_false] at q
        simp only [hj, if_true] at r
        exact (apart _ _ _ hj r.1 r.2 q).elim
      · simp only [hi, if_false] at q
        simp only [hj, if_false] at r
        have := g2 _ _ _ q r
        omega
    · rw [List.length_append, hlen]
      by_cases hi : i < L.length
      · simp only [hi, if_true] at q
        obtain ⟨z1, z2, z3⟩ := h3 i a q.2
        obtain ⟨o, ho⟩ := (L[i]).dom (h1 i _ (List.getElem?_eq_getElem hi)) q.2
        exact ⟨iv.m.n a o ho (fun ⟨k, hk, q2⟩ => q.1 (h2 _ _ _ q.2 q2 ▸ hk)) z1, z2, by omega⟩
      · simp only [hi, if_false] at q
        obtain ⟨z1, z2, z3⟩ := g3 _ a q
        refine ⟨z1, ?_, by omega⟩
        rcases z2 with ⟨k, hk, q2⟩ | w
        · exact (h3 k a q2).2.1
        · exact .inr (h.m.fr_back w)
theorem Iv.fresh (h : Iv K (fun _ => False) s0 s L) (i : Nat) {p : Addr} {xs : List α} (e : L[i]? = some (Dy.ol p xs) := by rfl) : s0.H p = none := by
  obtain ⟨φ, h1, h2, h3⟩ := h.o
  obtain ⟨q, vs, hp, r⟩ := h1 i _ e
  rcases (h3 i p ((q p).mpr rfl)).2.1 with w | w
  · exact w.elim
  · exact w
theorem do_frzI {X : Cx} {σ : L2.St} {D : Ends} {ss : List Stmt} (h : Iv X.K P0 s0 s L) (i : Nat) {p : Addr} {xs : List α} (hA : L[i]? = some (Dy.ol p xs)) (k : ∀ s', Fle s.F s'.F → Iv X.K P0 s0 s' (L.set i (Dy.fz (.ref p) xs)) → WSs X ss D σ s'.H) : WSs X ss D σ s.H := by
  obtain ⟨s', h1, h2, h3⟩ := h.frz i hA
  rw [← h1]
  exact k s' h2 h3
end
end Dy

namespace Dy
open PySem PySem.Spec L2
open PyProof.Rows hiding St
open Enc (rep)
open Flat (toV)
open EncA (repA)

section
variable {κ τ : Type} [DecidableEq κ]
def dval (xs : List (κ × τ)) (k : κ) : Option τ := (xs.find? fun z => decide (z.1 = k)).map (·.2)
def dput (xs : List (κ × τ)) (k : κ) (y : τ) : List (κ × τ) := if (xs.any fun z => decide (z.1 = k)) = true then xs.map fun z => if z.1 = k then (z.1, y) else z else xs ++ [(k, y)]
def ddrop (xs : List (κ × τ)) (k : κ) : List (κ × τ) := xs.filter fun z => decide (z.1 ≠ k)
end
section
variable {κ α : Type} [DKey κ] [DecidableEq κ] [Enc α] {K : PySem.W.Frag} {F F' : Hp}
theorem toK_dec (a b : κ) : decide (DKey.toK a = DKey.toK b) = decide (a = b) := decide_eq_decide.mpr (DKey.kinj a b)
theorem KReps.val {k : κ} : ∀ {kv : List (Key × V)} {xs : List (κ × α)}, KReps K F kv xs → match dval xs k with
    | none => valV kv (DKey.toK k) = none
    | some x => ∃ v, valV kv (DKey.toK k) = some v ∧ rep K F v x
  | [], [], _ => rfl
  | (j, v) :: r, (i, x) :: xs, ⟨e, h, t⟩ => by
    subst e
    unfold dval valV
    rw [List.find?_cons, List.find?_cons]
    dsimp only
    rw [toK_dec i k]
    cases decide (i = k) with
    | true => exact ⟨v, rfl, h⟩
    | false => exact KReps.val (k := k) t
  | [], _ :: _, h => h.elim
  | _ :: _, [], h => h.elim
theorem KReps.any {k : κ} : ∀ {kv : List (Key × V)} {xs : List (κ × α)}, KReps K F kv xs → (kv.any fun z => decide (z.1 = DKey.toK k)) = xs.any fun z => decide (z.1 = k)
  | [], [], _ => rfl
  | (j, v) :: r, (i, x) :: xs, ⟨e, h, t⟩ => by
    subst e
    rw [List.any_cons, List.any_cons, KReps.any (k := k) t, toK_dec i k]
  | [], _ :: _, h => h.elim
  | _ :: _, [], h => h.elim
theorem KReps.app : ∀ {kv kw : List (Key × V)} {xs ys : List (κ × α)}, KReps K F kv xs → KReps K F kw ys → KReps K F (kv ++ kw) (xs ++ ys)
  | [], _, [], _, _, h => h
  | _ :: _, _, _ :: _, _, ⟨e, h, t⟩, w => ⟨e, h, KReps.app t w⟩
  | [], _, _ :: _, _, h, _ => h.elim
  | _ :: _, _, [], _, h, _ => h.elim
theorem KReps.repl {k : κ} {v : V} {y : α} (r : rep K F v y) : ∀ {kv : List (Key × V)} {xs : List (κ × α)}, KReps K F kv xs → KReps K F (kv.map fun z => if z.1 = DKey.toK k then (z.1, v) else z) (xs.map fun z => if z.1 = k then (z.1, y) else z)
  | [], [], _ => trivial
  | (j, u) :: kv, (i, x) :: xs, ⟨e, h, t⟩ => by
    subst e
    rw [List.map_cons, List.map_cons]
    dsimp only
    by_cases hh : i = k
    · rw [if_pos hh, if_pos (by rw [hh])]
      exact ⟨rfl, r, KReps.repl r t⟩
    · rw [if_neg hh, if_neg (fun z => hh ((DKey.kinj i k).mp z))]
      exact ⟨rfl, h, KReps.repl r t⟩
  | [], _ :: _, h => h.elim
  | _ :: _, [], h => h.elim
theorem KReps.put {k : κ} {v : V} {y : α} {kv : List (Key × V)} {xs : List (κ × α)} (h : KReps K F kv xs) (r : rep K F v y) : KReps K F (putK kv (DKey.toK k) v) (dput xs k y) := by
  unfold putK dput
  rw [h.any (k := k)]
  split
  · exact h.repl r
  · exact h.app ⟨rfl, r, trivial⟩
theorem KReps.drop {k : κ} : ∀ {kv : List (Key × V)} {xs : List (κ × α)}, KReps K F kv xs → KReps K F (dropK kv (DKey.toK k)) (ddrop xs k)
  | [], [], _ => trivial
  | (j, v) :: r, (i, x) :: xs, ⟨e, h, t⟩ => by
    subst e
    unfold dropK ddrop
    rw [List.filter_cons, List.filter_cons]
    dsimp only
    by_cases hh : i = k
    · rw [if_neg (by simp [hh]), if_neg (by simp [hh])]
      exact KReps.drop t
    · rw [if_pos (by simpa using fun z => hh ((DKey.kinj i k).mp z)), if_pos (by simpa using hh)]
      exact ⟨rfl, h, KReps.drop t⟩
  | [], _ :: _, h => h.elim
  | _ :: _, [], h => h.elim
theorem KReps.get : ∀ {kv : List (Key × V)} {xs : List (κ × α)} {i : Nat} {z : κ × α}, KReps K F kv xs → xs[i]? = some z → ∃ v, kv[i]? = some (DKey.toK z.1, v) ∧ rep K F v z.2
  | [], [], _, _, _, e => by simp at e
  | (j, v) :: _, (i, x) :: _, 0, z, ⟨e, h, _⟩, e2 => by
    have : (i, x) = z := Option.some.inj e2
    subst this
    exact ⟨v, by rw [e]; rfl, h⟩
  | _ :: kv, _ :: xs, i + 1, z, ⟨_, _, t⟩, e => by
    obtain ⟨v, h1, h2⟩ := KReps.get (i := i) t (by simpa using e)
    exact ⟨v, by simpa using h1, h2⟩
  | [], _ :: _, _, _, h, _ => h.elim
  | _ :: _, [], _, _, h, _ => h.elim
theorem KReps.keys : ∀ {kv : List (Key × V)} {xs : List (κ × α)}, KReps K F kv xs → Reps K F (kv.map fun z => kV z.1) (xs.map (·.1))
  | [], [], _ => trivial
  | (j, v) :: _, (i, x) :: _, ⟨e, _, t⟩ => by
    subst e
    exact ⟨Flat.iff.mpr (DKey.kv i), KReps.keys t⟩
  | [], _ :: _, h => h.elim
  | _ :: _, [], h => h.elim
end
def RepD {κ α : Type} [DKey κ] [Enc α] (K : PySem.W.Frag) (s : S) (p : Addr) (xs : List (κ × α)) : Prop := ∃ kv, Rd s.H p (.dK kv) ∧ KReps K s.F kv xs
def OwnD {κ α : Type} [DKey κ] [Enc α] (K : PySem.W.Frag) (s : S) (p : Addr) (xs : List (κ × α)) : Prop := s.F p = none ∧ ∃ kv, s.H p = some (.dK kv) ∧ KReps K s.F kv xs
def CellAt (s : S) (K : PySem.W.Frag) (p : Addr) (c : Str) (fs : List (Str × V)) : Prop := ∃ dx, s.H p = some (.ins (He.ga K c) dx fs)
section
variable {α β κ : Type} [Enc α] [Enc β] [DKey κ] {K : PySem.W.Frag} {P0 : Addr → Prop} {s0 s s1 t : S} {L M R : List OA}
theorem Rd.ex {p : Addr} {u : HO} (h : Rd s.H p u) (e : Ex s t) : Rd t.H p u := h.elim (fun z => .inl (e.h _ _ z)) fun ⟨o, z⟩ => .inr ⟨o, e.h _ _ z⟩
theorem RepD.ex {p : Addr} {xs : List (κ × α)} (h : RepD K s p xs) (e : Ex s t) : RepD K t p xs := by
  obtain ⟨kv, h1, h2⟩ := h
  exact ⟨kv, Rd.ex h1 e, h2.mono e.f⟩
theorem OwnD.r {p : Addr} {xs : List (κ × α)} (h : OwnD K s p xs) : RepD K s p xs := by
  obtain ⟨_, kv, h1, h2⟩ := h
  exact ⟨kv, .inl h1, h2⟩
theorem CellAt.ex {p : Addr} {c : Str} {fs : List (Str × V)} (h : CellAt s K p c fs) (e : Ex s t) : CellAt t K p c fs := by
  obtain ⟨dx, h1⟩ := h
  exact ⟨dx, e.h _ _ h1⟩
theorem OwnD.ex {p : Addr} {xs : List (κ × α)} (h : OwnD K s p xs) (e : Ex s t) : OwnD K t p xs := by
  obtain ⟨h0, kv, h1, h2⟩ := h
  exact ⟨e.n _ _ h1 h0, kv, e.h _ _ h1, h2.mono e.f⟩
theorem Iv.od (h : Iv K P0 s0 s L) (i : Nat) {p : Addr} {xs : List (κ × α)} (e : L[i]? = some (Dy.od p xs) := by rfl) : OwnD K s p xs := by
  obtain ⟨P, ⟨h0, kv, h1, h2⟩, h3⟩ := h.at i e
  exact ⟨h3 p ((h0 p).mpr rfl), kv, h1, h2⟩
theorem Iv.odl (h : Iv K P0 s0 s L) (i : Nat) {p : Addr} {o : Obj} {kv : List (Key × V)} {xs : List (κ × α)} (e : L[i]? = some (Dy.odl p o kv xs) := by rfl) : s.F p = none ∧ s.H p = some (.frz o (.dK kv)) ∧ KReps K s.F kv xs := by
  obtain ⟨P, ⟨h0, h1, h2⟩, h3⟩ := h.at i e
  exact ⟨h3 p ((h0 p).mpr rfl), h1, h2⟩
theorem Iv.odr (h : Iv K P0 s0 s L) (i : Nat) {p : Addr} {o : Obj} {kv : List (Key × V)} {xs : List (κ × α)} (e : L[i]? = some (Dy.odl p o kv xs) := by rfl) : RepD K s p xs := ⟨kv, .inr ⟨o, (h.odl i e).2.1⟩, (h.odl i e).2.2⟩
theorem Iv.cell (h : Iv K P0 s0 s L) (i : Nat) {p : Addr} {c : Str} {fs : List (Str × V)} (e : L[i]? = some (Dy.cell p c fs) := by rfl) : CellAt s K p c fs := by
  obtain ⟨P, ⟨dx, h0, h1, h2⟩, h3⟩ := h.at i e
  exact ⟨dx, h1⟩
theorem Iv.rol (h : Iv K P0 s0 s L) (r : Ro K P0 s0 R) (i : Nat) {p : Addr} {xs : List α} (e : R[i]? = some (Dy.ol p xs) := by rfl) : RepR K s (.ref p) xs := by
  obtain ⟨P, h0, vs, h1, h2⟩ := h.ro r i e
  exact ⟨p, vs, rfl, .inl (.inl h1), h2⟩
theorem Iv.rod (h : Iv K P0 s0 s L) (r : Ro K P0 s0 R) (i : Nat) {p : Addr} {xs : List (κ × α)} (e : R[i]? = some (Dy.od p xs) := by rfl) : RepD K s p xs := by
  obtain ⟨P, h0, kv, h1, h2⟩ := h.ro r i e
  exact ⟨kv, .inl h1, h2⟩
theorem Iv.rcell (h : Iv K P0 s0 s L) (r : Ro K P0 s0 R) (i : Nat) {p : Addr} {c : Str} {fs : List (Str × V)} (e : R[i]? = some (Dy.cell p c fs) := by rfl) : CellAt s K p c fs := by
  obtain ⟨P, dx, h0, h1, h2⟩ := h.ro r i e
  exact ⟨dx, h1⟩
theorem Iv.rfz (h : Iv K P0 s0 s L) (r : Ro K P0 s0 R) (i : Nat) {v : V} {x : α} (e : R[i]? = some (Dy.fz v x) := by rfl) : rep K s.F v x := by
  obtain ⟨P, h0, h1⟩ := h.ro r i e
  exact h0
theorem Iv.sd (h : Iv K P0 s0 s L) (i : Nat) {p : Addr} {xs ys : List (κ × α)} (e : Ex s s1) (n : s.H p = none) (o : OwnD K s1 p xs) (q : ys = xs) : Iv K P0 s0 s1 (L.set i (Dy.od p ys)) := by
  subst q
  obtain ⟨o1, vs, o2, o3⟩ := o
  exact h.put i e ⟨fun a => a = p, ⟨fun _ => Iff.rfl, vs, o2, o3⟩, fun a z => by rw [z]; exact ⟨o1, n⟩⟩
theorem Iv.md (h : Iv K P0 s0 s L) (i : Nat) {p : Addr} {xs : List (κ × α)} {ys zs : List (κ × β)} (m : Mx (· = p) s s1) (o : OwnD K s1 p ys) (q : zs = ys) (hA : L[i]? = some (Dy.od p xs) := by rfl) : Iv K P0 s0 s1 (L.set i (Dy.od p zs)) := by
  subst q
  obtain ⟨o1, vs, o2, o3⟩ := o
  refine h.upd i hA fun P hP _ => ⟨P, ?_, ?_, ?_⟩
  · exact ⟨hP.1, vs, o2, o3⟩
  · intro a z
    rw [(hP.1 a).mp z]
    exact ⟨o1, .inl ((hP.1 p).mpr rfl)⟩
  · exact ⟨m.f, fun a o q n => m.h a o q fun z => n ((hP.1 a).mpr z), fun a o q _ z => m.n a o q z, m.d⟩
def lockS (s : S) (p : Addr) (u : HO) (h : s.F p = none) : S := s.put p u h
theorem Iv.lock (h : Iv K P0 s0 s L) (i : Nat) {p : Addr} {kv : List (Key × V)} {xs : List (κ × α)} (o : Obj) (hA : L[i]? = some (Dy.od p xs)) (hf : s.F p = none) (h1 : s.H p = some (.dK kv)) (h2 : KReps K s.F kv xs) : Iv K P0 s0 (s.put p (.frz o (.dK kv)) hf) (L.set i (Dy.odl p o kv xs)) :=
  h.upd i hA fun P hP _ => ⟨P, ⟨hP.1, upd_same, h2⟩, fun a z => by rw [(hP.1 a).mp z]; exact ⟨hf, .inl ((hP.1 p).mpr rfl)⟩, by
    have m : Mx (· = p) s (s.put p (.frz o (.dK kv)) hf) := Mx.put hf
    exact ⟨m.f, fun a o q n => m.h a o q fun z => n ((hP.1 a).mpr z), fun a o q _ z => m.n a o q z, m.d⟩⟩
theorem Iv.unlock (h : Iv K P0 s0 s L) (i : Nat) {p : Addr} {o : Obj} {kv : List (Key × V)} {xs : List (κ × α)} (hA : L[i]? = some (Dy.odl p o kv xs)) : ∃ s' : S, s'.H = L2.upd s.H p (.dK kv) ∧ s'.F = s.F ∧ Iv K P0 s0 s' (L.set i (Dy.od p xs)) := by
  obtain ⟨hf, h1, h2⟩ := h.odl i hA
  refine ⟨s.put p (.dK kv) hf, rfl, rfl, h.upd i hA fun P hP _ => ⟨P, ⟨hP.1, kv, upd_same, h2⟩, fun a z => by rw [(hP.1 a).mp z]; exact ⟨hf, .inl ((hP.1 p).mpr rfl)⟩, ?_⟩⟩
  have m : Mx (· = p) s (s.put p (.dK kv) hf) := Mx.put hf
  exact ⟨m.f, fun a o q n => m.h a o q fun z => n ((hP.1 a).mpr z), fun a o q _ z => m.n a o q z, m.d⟩
end
section
variable {α β γ κ : Type} [Enc α] [Enc β] [Enc γ] [DKey κ] [DecidableEq κ] {X : Cx} {σ : L2.St} {P0 : Addr → Prop} {s0 s t : S} {L : List OA} {e a b c o i : Expr} {es : List Expr} {pos p0 p1 p2 p3 : Pos} {D : Ends} {rest : List Stmt} {n : Str} {p : Addr}
theorem ev_raw {v : V} {x : α} (h : Ev X e σ s (Rw.mk v)) (r : rep X.K s.F v x) : Ev X e σ s x := fun s1 k Q q => h s1 k Q fun u s2 k2 e1 => by
  cases (show u = v from e1)
  exact q v s2 k2 (Enc.mono (k.trans k2).f r)
theorem er_raw {p : Addr} {xs : List α} (h : Ev X e σ s (Rw.mk (.ref p))) (r : RepR X.K s (.ref p) xs) : EvR X e σ s xs := fun s1 k Q q => h s1 k Q fun u s2 k2 e1 => by
  cases (show u = V.ref p from e1)
  exact q _ s2 k2 (r.ex (k.trans k2))
theorem raw_var (i : Nat) {v : V} (h : σ[i]? = some (some v)) (hN : X.N[i]? = some n := by rfl) (hv : Vis X.env.scope n := by first | exact Or.inl rfl | exact Or.inr (Or.inl rfl) | exact Or.inr (Or.inr rfl)) (hd : (n == ("__debug__" : Str)) = false := by decide)
    (hcd : (n == ("__classdict__" : Str)) = false := by decide) : Ev X (.Name n pos) σ s (Rw.mk v) := ev_var i h (show rep _ _ v (Rw.mk v) from rfl) hN hv hd hcd
theorem raw_fld {f c : Str} {v : V} {fs : List (Str × V)} (h : Ev X e σ s (Rw.mk (.ref p))) (r : CellAt s X.K p c fs) (hl : fs.lookup f = some v) (hc : Cls X.K (He.ga X.K c)) (hn : NoAttr X.K (He.ga X.K c) f) (hb : attributeBase e f X.env (eval e X.env) = eval e X.env := by rfl) : Ev X (.Attribute e f pos) σ s (Rw.mk v) := fun s1 k Q q =>
  we_of (pe_fld pe_we hb) (h s1 k _ fun u s2 k2 e1 => by
    cases (show u = V.ref p from e1)
    obtain ⟨dx, h1⟩ := r.ex (k.trans k2)
    exact ⟨p, _, dx, fs, v, rfl, h1, hc, hn, hl, q v s2 k2 rfl⟩)
theorem hu1 {j : Nat} (hr : Room j X.A) : X.A.units + 1 < cLine := by have := hu64 hr; omega
theorem dget_of {K : PySem.W.Frag} {k : κ} {xs : List (κ × α)} {w : V} (r : RepD K s p xs) (hw : w = toV k) : ∃ o, DGet s.H p w o ∧ match dval xs k with | none => o = none | some x => ∃ v, o = some v ∧ rep K s.F v x := by
  obtain ⟨kv, h1, h2⟩ := r
  refine ⟨valV kv (DKey.toK k), .inl ⟨kv, DKey.toK k, h1, by rw [hw, DKey.kv], rfl⟩, ?_⟩
  have := h2.val (k := k)
  cases hd : dval xs k with
  | none => rw [hd] at this; exact this
  | some x => rw [hd] at this; exact this
theorem ev_dget {j : Nat} {k : κ} {xs : List (κ × α)} {x : α} (hr : Room j X.A) (ho : Ev X o σ s (Rw.mk (.ref p))) (r : RepD X.K s p xs) (hi : Ev X i σ s k) (h : dval xs k = some x) (hs : NoSl i := by intro _ _; rfl) : Ev X (.Subscript o i pos) σ s x := fun s1 k1 Q q =>
  we_of (pe_dget (hu1 hr) pe_we pe_we hs) (ho s1 k1 _ fun v s2 k2 e2 => hi s2 (k1.trans k2) _ fun u s3 k3 e3 => by
    cases (show v = V.ref p from e2)
    obtain ⟨o', g1, g2⟩ := dget_of (r.ex ((k1.trans k2).trans k3)) (Flat.iff.mp e3)
    rw [h] at g2
    obtain ⟨w, rfl, g3⟩ := g2
    exact ⟨p, w, rfl, g1, q w s3 (k2.trans k3) g3⟩)
theorem dval_some {xs : List (κ × α)} {k : κ} {o : Option V} {K : PySem.W.Frag} {F : Hp} (g : match dval xs k with | none => o = none | some x => ∃ v, o = some v ∧ rep K F v x) : o.isSome = (dval xs k).isSome := by
  cases hd : dval xs k with
  | none => rw [hd] at g; rw [g]; rfl
  | some x => rw [hd] at g; obtain ⟨v, rfl, _⟩ := g; rfl
theorem ev_din {j : Nat} {k : κ} {xs : List (κ × α)} (hr : Room j X.A) (hi : Ev X i σ s k) (ho : Ev X o σ s (Rw.mk (.ref p))) (r : RepD X.K s p xs) (h1 : behindInMarks .In o = false := by rfl) : EvB X (.Compare i [.In] [o] pos) σ s (dval xs k).isSome :=
  ⟨fun s1 k1 Q q => we_of (pe_cmp (pc_din (hu1 hr) pe_we pe_we) h1) (hi s1 k1 _ fun u s2 k2 e2 => ho s2 (k1.trans k2) _ fun v s3 k3 e3 => by
    cases (show v = V.ref p from e3)
    obtain ⟨o', g1, g2⟩ := dget_of (r.ex ((k1.trans k2).trans k3)) ((Flat.iff.mp (e2 : rep _ _ u k)))
    exact ⟨p, o', rfl, g1, by rw [dval_some g2]; exact q _ s3 (k2.trans k3) rfl⟩),
   fun s1 k1 Q q => wt_of (pt_cmp (pc_din (hu1 hr) pe_we pe_we) h1) (hi s1 k1 _ fun u s2 k2 e2 => ho s2 (k1.trans k2) _ fun v s3 k3 e3 => by
    cases (show v = V.ref p from e3)
    obtain ⟨o', g1, g2⟩ := dget_of (r.ex ((k1.trans k2).trans k3)) ((Flat.iff.mp (e2 : rep _ _ u k)))
    exact ⟨p, o', rfl, g1, _, by rw [dval_some g2], q s3 (k2.trans k3)⟩)⟩
theorem ev_dnotIn {j : Nat} {k : κ} {xs : List (κ × α)} (hr : Room j X.A) (hi : Ev X i σ s k) (ho : Ev X o σ s (Rw.mk (.ref p))) (r : RepD X.K s p xs) (h1 : behindInMarks .NotIn o = false := by rfl) : EvB X (.Compare i [.NotIn] [o] pos) σ s (!(dval xs k).isSome) :=
  ⟨fun s1 k1 Q q => we_of (pe_cmp (pc_dnotin (hu1 hr) pe_we pe_we) h1) (hi s1 k1 _ fun u s2 k2 e2 => ho s2 (k1.trans k2) _ fun v s3 k3 e3 => by
    cases (show v = V.ref p from e3)
    obtain ⟨o', g1, g2⟩ := dget_of (r.ex ((k1.trans k2).trans k3)) ((Flat.iff.mp (e2 : rep _ _ u k)))
    exact ⟨p, o', rfl, g1, by rw [dval_some g2]; exact q _ s3 (k2.trans k3) rfl⟩),
   fun s1 k1 Q q => wt_of (pt_cmp (pc_dnotin (hu1 hr) pe_we pe_we) h1) (hi s1 k1 _ fun u s2 k2 e2 => ho s2 (k1.trans k2) _ fun v s3 k3 e3 => by
    cases (show v = V.ref p from e3)
    obtain ⟨o', g1, g2⟩ := dget_of (r.ex ((k1.trans k2).trans k3)) ((Flat.iff.mp (e2 : rep _ _ u k)))
    exact ⟨p, o', rfl, g1, _, by rw [dval_some g2], q s3 (k2.trans k3)⟩)⟩
theorem ev_dget1 {j : Nat} {k : κ} {xs : List (κ × α)} (hr : Room j X.A) (ho : Ev X o σ s (Rw.mk (.ref p))) (r : RepD X.K s p xs) (hi : Ev X i σ s k) (m : M1 X o "get" p1 i pos := by exact ⟨rfl, rfl, rfl, rfl⟩) : Ev X (.Call (.Attribute o "get" p1) [i] [] pos) σ s (dval xs k) := fun s1 k1 Q q =>
  we_of (pe_dget1 (hu1 hr) pe_we pe_we m) (ho s1 k1 _ fun v s2 k2 e2 => by
    cases (show v = V.ref p from e2)
    refine ⟨p, rfl, ?_, hi s2 (k1.trans k2) _ fun u s3 k3 e3 => ?_⟩
    · obtain ⟨kv, h1, _⟩ := r.ex (k1.trans k2)
      exact .inl ⟨kv, h1⟩
    · obtain ⟨o', g1, g2⟩ := dget_of (r.ex ((k1.trans k2).trans k3)) (Flat.iff.mp e3)
      refine ⟨o', g1, q _ s3 (k2.trans k3) ?_⟩
      cases hd : dval xs k with
      | none => rw [hd] at g2; rw [g2]; rfl
      | some x => rw [hd] at g2; obtain ⟨w, rfl, g3⟩ := g2; exact g3)
theorem ev_dlen {xs : List (κ × α)} (hm : X.mg "len" = none) (ho : Ev X o σ s (Rw.mk (.ref p))) (r : OwnD X.K s p xs) (hg : Gl X "len" := by rfl) (he : starEach [o] X.env = (false, eval o X.env) :: starEach [] X.env := by rfl) (hpl : (backTo pos (starEach [] X.env)).any (·.1) = false := by rfl) : Ev X (.Call (.Name "len" p0) [o] [] pos) σ s (xs.length : Int) := fun s1 k1 Q q =>
  we_of (pe_callB call_lenD hg hm boot_len (pa_cons pe_we pa_nil he) (he := he) (hpl := hpl)) (ho s1 k1 _ fun v s2 k2 e2 => by
    cases (show v = V.ref p from e2)
    obtain ⟨_, kv, h1, h2⟩ := r.ex (k1.trans k2)
    exact ⟨p, kv, rfl, h1, q _ s2 k2 (by rw [h2.len]; rfl)⟩)
theorem en_dlist {xs : List (κ × α)} (hm : X.mg "list" = none) (ho : Ev X o σ s (Rw.mk (.ref p))) (r : OwnD X.K s p xs) (hc : X.calm = true := by rfl) (hg : Gl X "list" := by rfl) (he : starEach [o] X.env = (false, eval o X.env) :: starEach [] X.env := by rfl) (hpl : (backTo pos (starEach [] X.env)).any (·.1) = false := by rfl) : EvN X (.Call (.Name "list" p0) [o] [] pos) σ s (xs.map (·.1)) := fun s1 k1 Q q =>
  we_of (pe_callTy (call_list_dK hc) hg hm (by decide +kernel) (pa_cons pe_we pa_nil he) (he := he) (hpl := hpl)) (ho s1 k1 _ fun v s2 k2 e2 => by
    cases (show v = V.ref p from e2)
    obtain ⟨_, kv, h1, h2⟩ := r.ex (k1.trans k2)
    exact ⟨p, kv, rfl, h1, fun l hl => q l (s2.newO l _ hl) (k2.trans (Ex.newO hl)) (fr_back k2 hl) (own_new hl h2.keys)⟩)
def EvND (X : Cx) (e : Expr) (σ : L2.St) (s : S) (xs : List (κ × α)) : Prop := ∀ s1, Ex s s1 → ∀ Q : VK, (∀ p s2, Ex s1 s2 → s1.H p = none → OwnD X.K s2 p xs → Q (.ref p) s2.H) → WE X e σ s1.H Q
theorem en_dnew : EvND X (.Dict [] [] pos) σ s ([] : List (κ × α)) := fun s1 k1 Q q => we_of pe_dnewK fun p hp => q p (s1.newO p (.dK []) hp) (Ex.newO hp) hp ⟨(fF hp : s1.F p = none), [], upd_same, trivial⟩
theorem do_setD (i : Nat) {xs : List (κ × α)} {n : Str} {py : Pos} (h : EvND X e σ s xs) (k : ∀ p s1, Ex s s1 → s.H p = none → OwnD X.K s1 p xs → WSs X rest D (σ.set i (some (.ref p))) s1.H) (hN : X.N.Nodup) (hx : Loc X.env.scope n := by first | exact Or.inl rfl | exact Or.inr rfl) (hi : X.N[i]? = some n := by rfl)
    (hs : swapsWith e (some (.Name n py)) pos.line X.env = pure false := by rfl) (hf : X.fn n = true ∨ X.env.scope.names.lookup n = some .local := by first | exact .inl rfl | exact .inr rfl) : WSs X (.Assign [.Name n py] e pos :: rest) D σ s.H :=
  do_cons (ps_set hN hi hx pe_we hs hf) (h s (Ex.refl _) _ fun v s1 k1 n1 r => k v s1 k1 n1 r)
theorem do_dput {j : Nat} {k : κ} {xs : List (κ × α)} {y : α} (hr : Room j X.A) (ho : Ev X o σ s (Rw.mk (.ref p))) (r : OwnD X.K s p xs) (hv : Ev X e σ s y) (hi : Ev X i σ s k) (hz : xs.length < sizeLine) (kk : ∀ s1, Mx (· = p) s s1 → OwnD X.K s1 p (dput xs k y) → WSs X rest D σ s1.H)
    (hs : swapsWith e (some (.Subscript o i p1)) pos.line X.env = pure false := by rfl) : WSs X (.Assign [.Subscript o i p1] e pos :: rest) D σ s.H :=
  do_cons (ps_dput (hu1 hr) pe_we pe_we pe_we hs) (hv s (Ex.refl _) _ fun v s1 k1 e1 => ho s1 k1 _ fun u s2 k2 e2 => hi s2 (k1.trans k2) _ fun w s3 k3 e3 => by
    cases (show u = V.ref p from e2)
    have kx := (k1.trans k2).trans k3
    obtain ⟨f0, kv, h1, h2⟩ := r.ex kx
    refine ⟨p, _, rfl, .inl ⟨kv, DKey.toK k, h1, by rw [Flat.iff.mp e3, DKey.kv], by rw [h2.len]; exact hz, rfl⟩, ?_⟩
    exact kk (s3.put p (.dK (putK kv (DKey.toK k) v)) f0) (kx.mx.trans (Mx.put f0)) ⟨f0, _, upd_same, h2.put (Enc.mono (k2.trans k3).f e1)⟩)
theorem do_dpop1 {k : κ} {xs : List (κ × α)} {x : α} (ho : Ev X o σ s (Rw.mk (.ref p))) (r : OwnD X.K s p xs) (hi : Ev X i σ s k) (h : dval xs k = some x) (kk : ∀ s1, Mx (· = p) s s1 → OwnD X.K s1 p (ddrop xs k) → WSs X rest D σ s1.H)
    (m : M1 X o "pop" p1 i p2 := by exact ⟨rfl, rfl, rfl, rfl⟩) (hs : swapsWith (.Call (.Attribute o "pop" p1) [i] [] p2) none pos.line X.env = pure false := by rfl) : WSs X (.Expr (.Call (.Attribute o "pop" p1) [i] [] p2) pos :: rest) D σ s.H :=
  do_cons (ps_expr (pe_dpop1 pe_we pe_we m) hs) (ho s (Ex.refl _) _ fun u s1 k1 e1 => by
    cases (show u = V.ref p from e1)
    refine ⟨p, rfl, ?_, hi s1 k1 _ fun w s2 k2 e2 => ?_⟩
    · obtain ⟨_, kv, h1, _⟩ := r.ex k1
      exact .inl ⟨kv, .inl h1⟩
    · have kx := k1.trans k2
      obtain ⟨f0, kv, h1, h2⟩ := r.ex kx
      have := h2.val (k := k)
      rw [h] at this
      obtain ⟨v, hv, _⟩ := this
      exact ⟨kv, DKey.toK k, v, h1, by rw [Flat.iff.mp e2, DKey.kv], hv, kk (s2.put p (.dK (dropK kv (DKey.toK k))) f0) (kx.mx.trans (Mx.put f0)) ⟨f0, _, upd_same, h2.drop⟩⟩)
theorem ddrop_none {xs : List (κ × α)} {k : κ} (h : dval xs k = none) : ddrop xs k = xs := by
  unfold ddrop
  rw [List.filter_eq_self]
  intro z hz
  unfold dval at h
  rw [Option.map_eq_none_iff, List.find?_eq_none] at h
  have := h z hz
  simpa using this
theorem do_dpop2 {k : κ} {xs : List (κ × α)} {z : β} (ho : Ev X o σ s (Rw.mk (.ref p))) (r : OwnD X.K s p xs) (hi : Ev X i σ s k) (he : Ev X e σ s z) (kk : ∀ s1, Mx (· = p) s s1 → OwnD X.K s1 p (ddrop xs k) → WSs X rest D σ s1.H)
    (m : M2 X o "pop" p1 i e p2 := by exact ⟨rfl, rfl, rfl, rfl⟩) (hs : swapsWith (.Call (.Attribute o "pop" p1) [i, e] [] p2) none pos.line X.env = pure false := by rfl) : WSs X (.Expr (.Call (.Attribute o "pop" p1) [i, e] [] p2) pos :: rest) D σ s.H :=
  do_cons (ps_expr (pe_dpop2 pe_we pe_we pe_we m) hs) (ho s (Ex.refl _) _ fun u s1 k1 e1 => by
    cases (show u = V.ref p from e1)
    refine ⟨p, rfl, ?_, hi s1 k1 _ fun w s2 k2 e2 => he s2 (k1.trans k2) _ fun y s3 k3 e3 => ?_⟩
    · obtain ⟨_, kv, h1, _⟩ := r.ex k1
      exact .inl ⟨kv, .inl h1⟩
    · have kx := (k1.trans k2).trans k3
      obtain ⟨f0, kv, h1, h2⟩ := r.ex kx
      have hval := h2.val (k := k)
      refine ⟨kv, DKey.toK k, h1, by rw [Flat.iff.mp (e2 : rep _ _ w k), DKey.kv], fun v hv => ?_, fun hn => ?_⟩
      · exact kk (s3.put p (.dK (dropK kv (DKey.toK k))) f0) (kx.mx.trans (Mx.put f0)) ⟨f0, _, upd_same, h2.drop⟩
      · have hd : dval xs k = none := by
          cases hd : dval xs k with
          | none => rfl
          | some x => rw [hd] at hval; obtain ⟨v, hv, _⟩ := hval; rw [hv] at hn; cases hn
        exact kk s3 kx.mx (by rw [ddrop_none hd]; exact ⟨f0, kv, h1, h2⟩))


end
end Dy

namespace Dy
open PySem PySem.Spec L2
open PyProof.Rows hiding St
open Enc (rep)
open Flat (toV)
open EncA (repA)

section
variable {α β γ κ τ υ ρ : Type} [Enc α] [Enc β] [Enc γ] [Enc τ] [DKey κ] [DecidableEq κ] {X : Cx} {σ : L2.St} {P0 : Addr → Prop} {s0 s t : S} {L : List OA} {e a b c o i tg iter elt : Expr} {ifs : List Expr} {scope : Scope} {own : List (Str × Nat)} {es : List Expr} {pos p0 p1 p2 p3 : Pos} {D : Ends} {rest body : List Stmt} {n : Str} {p : Addr}
structure WalkG (K : PySem.W.Frag) (G : S → Prop) (J : It) (xs : List α) : Prop where
  go : ∀ (i : Nat) (t : S) (x : α), G t → xs[i]? = some x → J.go i t.H ∧ ∀ v H', J.yld i t.H v H' → ∃ t' : S, t'.H = H' ∧ Ex t t' ∧ rep K t'.F v x
  stop : ∀ (i : Nat) (t : S), G t → xs.length ≤ i → J.stop i t.H
def EvIG (X : Cx) (tg e : Expr) (σ : L2.St) (s : S) (G : S → Prop) (xs : List α) : Prop := ∀ s1, Ex s s1 → ∀ R : It → Hp → Prop, (∀ J s2, Ex s1 s2 → WalkG X.K G J xs → R J s2.H) → WI X tg e σ s1.H R
def GL (K : PySem.W.Frag) (p : Addr) (xs : List α) : S → Prop := fun t => RepR K t (.ref p) xs
def GD (K : PySem.W.Frag) (p : Addr) (o : Obj) (kv : List (Key × V)) (xs : List (κ × α)) : S → Prop := fun t => t.H p = some (.frz o (.dK kv)) ∧ KReps K t.F kv xs
theorem GL.ex {K : PySem.W.Frag} {xs : List α} (h : GL K p xs s) (e : Ex s t) : GL K p xs t := RepR.ex h e
theorem GD.ex {K : PySem.W.Frag} {o : Obj} {kv : List (Key × V)} {xs : List (κ × α)} (h : GD K p o kv xs s) (e : Ex s t) : GD K p o kv xs t := ⟨e.h _ _ h.1, h.2.mono e.f⟩
theorem ei_rawL {xs : List α} (h : Ev X e σ s (Rw.mk (.ref p))) (r : RepR X.K s (.ref p) xs) : EvIG X tg e σ s (GL X.K p xs) xs := fun s1 k R q =>
  wi_of (pi_list pe_we) (h s1 k _ fun v s2 k2 e2 => by
    cases (show v = V.ref p from e2)
    have w : WalkG X.K (GL X.K p xs) (Itl X.K p) xs := ⟨fun i t x ⟨a, vs, e, h1, h2⟩ hx => by
      cases e
      obtain ⟨v, h3, h4⟩ := h2.get hx
      refine ⟨⟨vs, v, h1, h3⟩, fun w H' ⟨e1, hy⟩ => ⟨t, e1.symm, Ex.refl _, ?_⟩⟩
      have := hy vs h1
      rw [h3] at this
      cases this
      exact h4, fun i t ⟨a, vs, e, h1, h2⟩ hi => by
      cases e
      exact ⟨vs, h1, by rw [h2.len]; exact hi⟩⟩
    obtain ⟨a, vs, e, h1, h2⟩ := r.ex (k.trans k2)
    cases e
    exact ⟨p, rfl, ⟨vs, h1⟩, q _ s2 k2 w⟩)
theorem ei_keys {ob : Obj} {kv : List (Key × V)} {xs : List (κ × α)} (h : Ev X e σ s (Rw.mk (.ref p))) (r : GD X.K p ob kv xs s) : EvIG X tg e σ s (GD X.K p ob kv xs) (xs.map (·.1)) := fun s1 k R q =>
  wi_of (pi_keys pe_we) (h s1 k _ fun v s2 k2 e2 => by
    cases (show v = V.ref p from e2)
    exact ⟨p, ob, rfl, .inl ⟨kv, (GD.ex r (k.trans k2)).1, q _ s2 k2 ⟨fun i t x g hx => by
      rw [List.getElem?_map] at hx
      obtain ⟨z, h1, h2⟩ := Option.map_eq_some_iff.mp hx
      obtain ⟨w, h3, h4⟩ := g.2.get h1
      refine ⟨⟨g.1, (List.getElem?_eq_some_iff.mp h3).1⟩, fun y H' ⟨e1, k', v', h5, h6⟩ => ⟨t, e1.symm, Ex.refl _, ?_⟩⟩
      rw [h3] at h5
      cases h5
      rw [h6, ← h2]
      exact Flat.iff.mpr (DKey.kv _), fun i t g hi => ⟨g.1, by rw [g.2.len]; rw [List.length_map] at hi; exact hi⟩⟩⟩⟩)
theorem ei_vals {ob : Obj} {kv : List (Key × V)} {xs : List (κ × α)} (h : Ev X e σ s (Rw.mk (.ref p))) (r : GD X.K p ob kv xs s) (hbase : attributeBase e "values" X.env (eval e X.env) = eval e X.env := by rfl) (hline : (p1.endLine == pos.line) = true := by rfl) : EvIG X tg (.Call (.Attribute e "values" p1) [] [] pos) σ s (GD X.K p ob kv xs) (xs.map (·.2)) := fun s1 k R q =>
  wi_of (pi_values pe_we hbase hline) (h s1 k _ fun v s2 k2 e2 => by
    cases (show v = V.ref p from e2)
    exact ⟨p, ob, kv, rfl, (GD.ex r (k.trans k2)).1, q _ s2 k2 ⟨fun i t x g hx => by
      rw [List.getElem?_map] at hx
      obtain ⟨z, h1, h2⟩ := Option.map_eq_some_iff.mp hx
      obtain ⟨w, h3, h4⟩ := g.2.get h1
      refine ⟨⟨g.1, (List.getElem?_eq_some_iff.mp h3).1⟩, fun y H' ⟨e1, k', h5⟩ => ⟨t, e1.symm, Ex.refl _, ?_⟩⟩
      rw [h3] at h5
      cases h5
      rw [← h2]
      exact h4, fun i t g hi => ⟨g.1, by rw [g.2.len]; rw [List.length_map] at hi; exact hi⟩⟩⟩)
theorem ei_items {elts : List Expr} {kk : Nat} {tpos : Pos} {ob : Obj} {kv : List (Key × V)} {xs : List (κ × α)} (h : Ev X e σ s (Rw.mk (.ref p))) (r : GD X.K p ob kv xs s) (hbase : attributeBase e "items" X.env (eval e X.env) = eval e X.env := by rfl) (hline : (p1.endLine == pos.line) = true := by rfl) : EvIG X (.Tuple elts kk tpos) (.Call (.Attribute e "items" p1) [] [] pos) σ s (GD X.K p ob kv xs) xs := fun s1 k R q =>
  wi_of (pi_items pe_we hbase hline) (h s1 k _ fun v s2 k2 e2 => by
    cases (show v = V.ref p from e2)
    exact ⟨p, ob, kv, rfl, (GD.ex r (k.trans k2)).1, q _ s2 k2 ⟨fun i t z g h1 => by
      obtain ⟨w, h3, h4⟩ := g.2.get h1
      refine ⟨⟨g.1, (List.getElem?_eq_some_iff.mp h3).1⟩, fun y H' ⟨T, k', v', h5, h6, h7, h8⟩ => ⟨t.newF T (.tup [kV k', v']) h7, h8.symm, Ex.newF h7, ?_⟩⟩
      rw [h3] at h5
      cases h5
      rw [h6]
      exact ⟨T, _, _, rfl, tup_new h7, Flat.iff.mpr (DKey.kv _), Enc.mono (Ex.newF h7).f h4⟩, fun i t g hi => ⟨g.1, by rw [g.2.len]; exact hi⟩⟩⟩)
theorem for_read {xs : List τ} {g : TG} {B : Hp → τ → St → St → Prop} {G : S → Prop} (hi : EvIG X tg iter σ s G xs) (T : Tgt (α := τ) X.K g B)
    (R : Nat → St → S → Prop) (hG : ∀ i σ' t, R i σ' t → G t) (h0 : ∀ s1, Ex s s1 → R 0 σ s1)
    (hb : ∀ (i : Nat) (x : τ) (σ' σ2 : St) (t t' : S), xs[i]? = some x → R i σ' t → Ex t t' → B t'.F x σ' σ2 → WSs X body (LD D fun σ s => R (i + 1) σ s) σ2 t'.H)
    (hd : ∀ σ' t, R xs.length σ' t → D.nx σ' t.H) : tFor (WI X tg iter) g (WSs X body) D σ s.H :=
  hi s (Ex.refl _) _ fun J s1 k1 W => by
    refine ⟨fun i m σ' H' => ∃ t : S, t.H = H' ∧ m = xs.length - i ∧ i ≤ xs.length ∧ R i σ' t, ⟨xs.length, s1, rfl, rfl, Nat.zero_le _, h0 s1 k1⟩, ?_⟩
    rintro i m σ' H' ⟨t, rfl, rfl, hle, r⟩
    by_cases hlt : i < xs.length
    · right
      obtain ⟨g1, g2⟩ := W.go i t xs[i] (hG i σ' t r) (List.getElem?_eq_getElem hlt)
      refine ⟨g1, fun σ' H' => ∃ u : S, u.H = H' ∧ R (i + 1) σ' u, fun σ' H' ⟨u, e1, r1⟩ => ⟨xs.length - (i + 1), by omega, u, e1, rfl, hlt, r1⟩, fun v H' hy => ?_⟩
      obtain ⟨t', rfl, kt, rv⟩ := g2 v H' hy
      refine T.run t' v xs[i] _ _ rv fun σ2 hB => ?_
      exact (hb i xs[i] σ' σ2 t t' (List.getElem?_eq_getElem hlt) r kt hB).imp (fun σ3 H3 ⟨u, e1, r1⟩ => ⟨u, e1, r1⟩) (fun _ _ q => q) (fun _ _ q => q.elim) (fun _ _ q => q.elim)
    · left
      have e : i = xs.length := by omega
      subst e
      exact ⟨W.stop _ t (hG _ σ' t r) (Nat.le_refl _), hd σ' t r⟩
theorem for_readO {xs : List τ} {f : υ → τ → Option υ} {b0 b1 : υ} {g : TG} {B : Hp → τ → St → St → Prop} {G : S → Prop} (hi : EvIG X tg iter σ s G xs) (T : Tgt (α := τ) X.K g B) (hf : foldO f b0 xs = some b1)
    (R : υ → St → S → Prop) (hG : ∀ b σ' t, R b σ' t → G t) (h0 : ∀ s1, Ex s s1 → R b0 σ s1)
    (hb : ∀ (x : τ) (b b' : υ) (σ' σ2 : St) (t t' : S), x ∈ xs → f b x = some b' → R b σ' t → Ex t t' → B t'.F x σ' σ2 → WSs X body (LD D fun σ s => R b' σ s) σ2 t'.H)
    (hd : ∀ σ' t, R b1 σ' t → D.nx σ' t.H) : tFor (WI X tg iter) g (WSs X body) D σ s.H :=
  for_read hi T (fun i σ' t => ∃ b, foldO f b (xs.drop i) = some b1 ∧ R b σ' t) (fun i σ' t ⟨b, _, r⟩ => hG b σ' t r) (fun s1 k => ⟨b0, hf, h0 s1 k⟩)
    (fun i x σ' σ2 t t' hx ⟨b, h1, h2⟩ kt hB => by
      obtain ⟨hlt, rfl⟩ := List.getElem?_eq_some_iff.mp hx
      obtain ⟨b', h3, h4⟩ := foldO_drop hlt h1
      exact (hb xs[i] b b' σ' σ2 t t' (List.getElem_mem hlt) h3 h2 kt hB).imp (fun σ3 H3 ⟨u, e1, r1⟩ => ⟨u, e1, b', h4, r1⟩) (fun _ _ q => q) (fun _ _ q => q.elim) (fun _ _ q => q.elim))
    (fun σ' t ⟨b, h1, h2⟩ => by
      rw [List.drop_length] at h1
      cases h1
      exact hd σ' t h2)
theorem for_readF {xs : List τ} {f : υ → τ → Option (Fl υ ρ)} {b0 : υ} {o : Fl υ ρ} {g : TG} {B : Hp → τ → St → St → Prop} {G : S → Prop} (hi : EvIG X tg iter σ s G xs) (T : Tgt (α := τ) X.K g B) (hf : foldF f b0 xs = some o)
    (R : υ → St → S → Prop) (hG : ∀ b σ' t, R b σ' t → G t) (h0 : ∀ s1, Ex s s1 → R b0 σ s1)
    (hb : ∀ (x : τ) (b : υ) (q : Fl υ ρ) (σ' σ2 : St) (t t' : S), x ∈ xs → f b x = some q → (∀ r, q = .rt r → o = .rt r) → R b σ' t → Ex t t' → B t'.F x σ' σ2 → WSs X body (LD D fun σ s => ∃ b', q = .nx b' ∧ R b' σ s) σ2 t'.H)
    (hd : ∀ b1 σ' t, o = .nx b1 → R b1 σ' t → D.nx σ' t.H) : tFor (WI X tg iter) g (WSs X body) D σ s.H :=
  for_read hi T (fun i σ' t => ∃ b, foldF f b (xs.drop i) = some o ∧ R b σ' t) (fun i σ' t ⟨b, _, r⟩ => hG b σ' t r) (fun s1 k => ⟨b0, hf, h0 s1 k⟩)
    (fun i x σ' σ2 t t' hx ⟨b, h1, h2⟩ kt hB => by
      obtain ⟨hlt, rfl⟩ := List.getElem?_eq_some_iff.mp hx
      obtain ⟨q, h3, h4, h5⟩ := foldF_drop hlt h1
      exact (hb xs[i] b q σ' σ2 t t' (List.getElem_mem hlt) h3 h5 h2 kt hB).imp (fun σ3 H3 ⟨u, e1, b', e2, r1⟩ => ⟨u, e1, b', h4 b' e2, r1⟩) (fun _ _ q => q) (fun _ _ q => q.elim) (fun _ _ q => q.elim))
    (fun σ' t ⟨b, h1, h2⟩ => by
      rw [List.drop_length] at h1
      cases h1
      exact hd b σ' t rfl h2)
theorem do_forG {g : TG} (hp : PassesOwn (model X.prog X.w) X.A X.env X.xe) (hc : X.calm = true) (hg : PG X tg g) (h : tFor (WI X tg iter) g (WSs X body) { D with nx := fun σ' H' => WSs X rest D σ' H' } σ s.H)
    (hs : ∀ x, foldedSetIterable iter X.env x = pure x := by intro _; rfl) : WSs X (.For tg iter body [] pos :: rest) D σ s.H :=
  do_cons (ps_for hp hc pi_wi hg pss_ws hs) h
abbrev LK (D : Ends) (rest : List Stmt) (X : Cx) (p : Addr) (ob : Obj) (kv : List (Key × V)) : Ends :=
  ⟨fun σ' H' => H' p = some (.frz ob (.dK kv)) ∧ WSs X rest D σ' (upd H' p (.dK kv)), fun v H' => H' p = some (.frz ob (.dK kv)) ∧ D.rt v (upd H' p (.dK kv)), fun σ' H' => H' p = some (.frz ob (.dK kv)) ∧ D.bk σ' (upd H' p (.dK kv)), fun σ' H' => H' p = some (.frz ob (.dK kv)) ∧ D.ct σ' (upd H' p (.dK kv))⟩
theorem do_forD {g : TG} {xs : List (κ × α)} (iv : Iv X.K P0 s0 s L) (i : Nat) (hA : L[i]? = some (Dy.od p xs)) (hp : PassesOwn (model X.prog X.w) X.A X.env X.xe) (hc : X.calm = true) (hg : PG X tg g)
    (h : ∀ (ob : Obj) (kv : List (Key × V)) (s1 : S), Fle s.F s1.F → Iv X.K P0 s0 s1 (L.set i (Dy.odl p ob kv xs)) → tFor (WI X tg iter) g (WSs X body) (LK D rest X p ob kv) σ s1.H)
    (hs : ∀ x, foldedSetIterable iter X.env x = pure x := by intro _; rfl) : WSs X (.For tg iter body [] pos :: rest) D σ s.H :=
  do_cons (ps_lock (ps_for hp hc pi_wi hg pss_ws hs)) (by
    obtain ⟨hf, kv, h1, h2⟩ := iv.od i hA
    exact ⟨p, .dK kv, h1, trivial, fun ob => h ob kv (s.put p (.frz ob (.dK kv)) hf) (Fle.refl _) (iv.lock i ob hA hf h1 h2)⟩)
theorem lk_nx {xs : List (κ × α)} {ob : Obj} {kv : List (Key × V)} (iv : Iv X.K P0 s0 s L) (i : Nat) (hA : L[i]? = some (Dy.odl p ob kv xs)) (k : ∀ s1, s1.F = s.F → Iv X.K P0 s0 s1 (L.set i (Dy.od p xs)) → WSs X rest D σ s1.H) : (LK D rest X p ob kv).nx σ s.H := by
  obtain ⟨s', e1, e2, iv'⟩ := iv.unlock i hA
  have := k s' e2 iv'
  rw [e1] at this
  exact ⟨(iv.odl i hA).2.1, this⟩
theorem lk_rt {xs : List (κ × α)} {ob : Obj} {kv : List (Key × V)} {v : V} (iv : Iv X.K P0 s0 s L) (i : Nat) (hA : L[i]? = some (Dy.odl p ob kv xs)) (k : ∀ s1, s1.F = s.F → Iv X.K P0 s0 s1 (L.set i (Dy.od p xs)) → D.rt v s1.H) : (LK D rest X p ob kv).rt v s.H := by
  obtain ⟨s', e1, e2, iv'⟩ := iv.unlock i hA
  have := k s' e2 iv'
  rw [e1] at this
  exact ⟨(iv.odl i hA).2.1, this⟩
theorem lk_ex {kv : List (Key × V)} {ob : Obj} {s1 : S} (hf : s.F p = none) (h1 : s.H p = some (.dK kv)) (k : Ex s s1) : ∃ (hf1 : s1.F p = none), Ex (s.put p (.frz ob (.dK kv)) hf) (s1.put p (.frz ob (.dK kv)) hf1) := by
  refine ⟨k.n _ _ h1 hf, k.f, fun a o q => ?_, fun a o q n => ?_⟩
  · by_cases e : a = p
    · subst e
      have q : upd s.H a (.frz ob (.dK kv)) a = some o := q
      rw [upd_same] at q
      show upd s1.H a _ a = _
      rw [upd_same]; exact q
    · have q : upd s.H p (.frz ob (.dK kv)) a = some o := q
      rw [upd_ne e] at q
      show upd s1.H p _ a = _
      rw [upd_ne e]; exact k.h _ _ q
  · by_cases e : a = p
    · subst e; exact k.n _ _ h1 hf
    · have q : upd s.H p (.frz ob (.dK kv)) a = some o := q
      rw [upd_ne e] at q
      exact k.n _ _ q n
theorem lk_back {kv : List (Key × V)} {ob : Obj} {s1 s2 : S} (hf : s1.F p = none) (h1 : s1.H p = some (.dK kv)) (k : Ex (s1.put p (.frz ob (.dK kv)) hf) s2) : ∃ (hf2 : s2.F p = none), s2.H p = some (.frz ob (.dK kv)) ∧ Ex s1 (s2.put p (.dK kv) hf2) := by
  have hf2 : s2.F p = none := k.n p _ (show upd s1.H p _ p = _ from upd_same) hf
  refine ⟨hf2, k.h p _ (show upd s1.H p _ p = _ from upd_same), k.f, fun a o q => ?_, fun a o q n => ?_⟩
  · by_cases e : a = p
    · subst e
      rw [h1] at q
      cases q
      exact upd_same
    · show upd s2.H p _ a = _
      rw [upd_ne e]
      exact k.h _ _ (show upd s1.H p _ a = _ by rw [upd_ne e]; exact q)
  · by_cases e : a = p
    · subst e; exact hf2
    · exact k.n a o (show upd s1.H p _ a = _ by rw [upd_ne e]; exact q) n
theorem en_lock {ys : List β} {xs : List (κ × α)} (r : OwnD X.K s p xs) (h : ∀ (ob : Obj) (kv : List (Key × V)) (s1 : S), s1.F = s.F → (∀ a o, s.H a = some o → a ≠ p → s1.H a = some o) → GD X.K p ob kv xs s1 → (∀ hf, s1 = s.put p (.frz ob (.dK kv)) hf → EvN X e σ s1 ys)) : EvN X e σ s ys := fun s1 k Q q => by
  obtain ⟨hf, kv, h1, h2⟩ := r
  refine we_of (pe_lock pe_we) ⟨p, .dK kv, k.h _ _ h1, trivial, fun ob => ?_⟩
  obtain ⟨hf1, kx⟩ := lk_ex (ob := ob) hf h1 k
  have := h ob kv (s.put p (.frz ob (.dK kv)) hf) rfl (fun a o q n => (upd_ne n).trans q) ⟨upd_same, h2⟩ hf rfl
  refine this _ kx _ fun p2 s2 k2 n2 o2 => ?_
  obtain ⟨hf2, g1, k3⟩ := lk_back hf1 (k.h _ _ h1) k2
  refine ⟨g1, ?_⟩
  have ne : p2 ≠ p := fun z => by
    have : upd s1.H p (.frz ob (.dK kv)) p2 = none := n2
    rw [z, upd_same] at this; cases this
  have n2' : s1.H p2 = none := by
    have : upd s1.H p (.frz ob (.dK kv)) p2 = none := n2
    rw [upd_ne ne] at this; exact this
  obtain ⟨o1, vs, o3, o4⟩ := o2
  exact q p2 (s2.put p (.dK kv) hf2) k3 n2' ⟨o1, vs, (upd_ne ne).trans o3, o4⟩
theorem comp_readG {xs : List α} {ys : List β} {t : α → Option Bool} {f : α → Option β} {g : TG} {B : Hp → α → St → St → Prop} {tt : TT} {G : S → Prop} (hGx : ∀ s1 s2, Ex s1 s2 → G s1 → G s2) (hG0 : G s) (hi : EvIG X tg iter σ s G xs)
    (T : Tgt (α := α) X.K g B) (hf : compO t f xs = some ys) (hz : ys.length ≤ sizeLine)
    (hw : ∀ (F : Hp) (x : α) σ2, B F x (wipe σ (own.map (·.2))) σ2 → wipe σ2 (own.map (·.2)) = wipe σ (own.map (·.2)))
    (ht : ∀ (x : α) (b : Bool) (s1 : S) (σ2 : St) (Q : Bool → Hp → Prop), x ∈ xs → Ex s s1 → B s1.F x (wipe σ (own.map (·.2))) σ2 → t x = some b → (∀ s2, Ex s1 s2 → Q b s2.H) → tt σ2 s1.H Q)
    (he : ∀ (x : α) (y : β) (s1 : S) (σ2 : St), x ∈ xs → Ex s s1 → B s1.F x (wipe σ (own.map (·.2))) σ2 → t x = some true → f x = some y → ∀ s0 H0 C cl fp, Ev (Blk X scope s0 H0 C cl fp) elt σ2 s1 y)
    (s1 : S) (k : Ex s s1) (Q : VK) (q : ∀ p s2, Ex s1 s2 → s1.H p = none → Own X.K s2 p ys → Q (.ref p) s2.H) : tLc (WI X tg iter) g tt (fun σ H Q => ∀ s0 H0 C cl fp, WE (Blk X scope s0 H0 C cl fp) elt σ H Q) (own.map (·.2)) σ s1.H Q := by
  refine hi s1 k _ fun J s2 k2 W => ?_
  intro D hD
  have hgG : ∀ u, Ex s2 u → G u := fun u ku => hGx _ _ ((k.trans k2).trans ku) hG0
  refine ⟨fun i m H => ∃ (u : S) (pre : List β) (vs : List V), u.H = H ∧ m = xs.length - i ∧ Ex s2 u ∧ u.F D = none ∧ u.H D = some (.lst vs) ∧ Reps X.K u.F vs pre ∧ (∃ suf, compO t f (xs.drop i) = some suf ∧ pre ++ suf = ys), ⟨xs.length, s2.newO D (.lst []) hD, [], [], rfl, rfl, Ex.newO hD, (fF hD : s2.F D = none), upd_same, trivial, ys, by rw [List.drop_zero]; exact hf, rfl⟩, ?_⟩
  rintro i m H ⟨u, pre, vs, rfl, rfl, ku, n1, n2, n3, suf, h1, h2⟩
  by_cases hi' : i < xs.length
  · right
    have hx : xs[i]? = some xs[i] := List.getElem?_eq_getElem hi'
    obtain ⟨g1, g2⟩ := W.go i u xs[i] (hgG u ku) hx
    refine ⟨g1, fun H' => ∃ m', m' < xs.length - i ∧ ∃ (u : S) (pre : List β) (vs : List V), u.H = H' ∧ m' = xs.length - (i + 1) ∧ Ex s2 u ∧ u.F D = none ∧ u.H D = some (.lst vs) ∧ Reps X.K u.F vs pre ∧ (∃ suf, compO t f (xs.drop (i + 1)) = some suf ∧ pre ++ suf = ys), fun H' z => z, fun v H' hy => ?_⟩
    obtain ⟨u', rfl, ku', rv⟩ := g2 v H' hy
    refine T.run u' v xs[i] _ _ rv fun σ2 hB => ⟨hw _ _ _ hB, ?_⟩
    rw [List.drop_eq_getElem_cons hi'] at h1
    unfold compO at h1
    cases hb : t xs[i] with
    | none => rw [hb] at h1; cases h1
    | some b =>
      rw [hb, Option.bind_some] at h1
      have mem : xs[i] ∈ xs := List.getElem_mem hi'
      have base : Ex s u' := (k.trans k2).trans (ku.trans ku')
      refine ht xs[i] b u' σ2 _ mem base hB hb fun u3 k3 => ?_
      have hlt : xs.length - (i + 1) < xs.length - i := by omega
      have kk : Ex u u3 := ku'.trans k3
      cases b with
      | false =>
        rw [if_neg Bool.false_ne_true] at h1 ⊢
        exact ⟨_, hlt, u3, pre, vs, rfl, rfl, ku.trans kk, kk.n _ _ n2 n1, kk.h _ _ n2, n3.mono kk.f, suf, h1, h2⟩
      | true =>
        rw [if_pos rfl] at h1 ⊢
        cases hfx : f xs[i] with
        | none => rw [hfx] at h1; cases h1
        | some y =>
          rw [hfx, Option.bind_some] at h1
          cases hr : compO t f (xs.drop (i + 1)) with
          | none => rw [hr] at h1; cases h1
          | some suf' =>
            rw [hr] at h1
            cases h1
            intro s0 H0 C cl fp
            refine he xs[i] y u' σ2 mem base hB hb hfx s0 H0 C cl fp u3 k3 _ fun w u4 k4 r4 => ?_
            have k5 : Ex u u4 := kk.trans k4
            have hD4 : u4.H D = some (.lst vs) := k5.h _ _ n2
            have hF4 : u4.F D = none := k5.n _ _ n2 n1
            have hlen : vs.length < sizeLine := by
              have e1 := n3.len
              have e2 : ys.length = pre.length + (suf'.length + 1) := by rw [← h2, List.length_append, List.length_cons]
              omega
            refine ⟨vs, hD4, hlen, _, hlt, u4.put D (.lst (vs ++ [w])) hF4, pre ++ [y], vs ++ [w], rfl, rfl, (ku.trans k5).mu1 (Mx.put hF4) hD, hF4, upd_same, (n3.mono k5.f).snoc r4, suf', rfl, by rw [List.append_assoc]; exact h2⟩
  · left
    have hd : xs.drop i = [] := List.drop_eq_nil_of_le (by omega)
    rw [hd] at h1
    cases h1
    refine ⟨W.stop i u (hgG u ku) (by omega), q D u (k2.trans ku) (fr_back k2 hD) ⟨n1, vs, n2, ?_⟩⟩
    rw [← h2, List.append_nil]
    exact n3
theorem en_comp0G {xs : List α} {ys : List β} {f : α → Option β} {j : Nat} {n : Str} {py : Pos} {G : S → Prop} (hGx : ∀ s1 s2, Ex s1 s2 → G s1 → G s2) (hG0 : G s) (hc : X.calm = true) (hN : X.N.Nodup) (hi : EvIG X (.Name n py) iter σ s G xs) (ok : BlkOk X.N X.env.scope scope own) (hj : X.N[j]? = some n)
    (hjo : j ∈ own.map (·.2)) (hg : ∀ s0 H0 C cl fp, PG (Blk X scope s0 H0 C cl fp) (.Name n py) (gName j)) (hf : mapO f xs = some ys) (hz : ys.length ≤ sizeLine)
    (he : ∀ (x : α) (y : β) (v : V) (s1 : S), x ∈ xs → Ex s s1 → rep X.K s1.F v x → f x = some y → ∀ s0 H0 C cl fp, Ev (Blk X scope s0 H0 C cl fp) elt ((wipe σ (own.map (·.2))).set j (some v)) s1 y)
    (hs : ∀ x, foldedSetIterable iter X.env x = pure x := by intro _; rfl) : EvL X elt (.Name n py) iter [] scope σ s ys :=
  ⟨hc, hN, hs, own, _, _, ok, hg, fun _ _ _ _ _ => pts_nil, fun s1 k Q q => comp_readG (t := fun _ => some true) hGx hG0 hi tg_n hf hz (fun F x σ2 ⟨v, _, e⟩ => by rw [e, wipe_set hjo]; exact wipe_wipe fun _ z => z)
    (fun x b s1 σ2 Q _ _ _ hb q => by cases hb; exact q s1 (Ex.refl _)) (fun x y s1 σ2 hx k ⟨v, r, e⟩ _ hfx => by subst e; exact he x y v s1 hx k r hfx) s1 k Q q⟩
theorem en_comp1G {xs : List α} {ys : List β} {t : α → Option Bool} {f : α → Option β} {j : Nat} {n : Str} {py : Pos} {G : S → Prop} (hGx : ∀ s1 s2, Ex s1 s2 → G s1 → G s2) (hG0 : G s) (hc : X.calm = true) (hN : X.N.Nodup) (hi : EvIG X (.Name n py) iter σ s G xs) (ok : BlkOk X.N X.env.scope scope own) (hj : X.N[j]? = some n)
    (hjo : j ∈ own.map (·.2)) (hg : ∀ s0 H0 C cl fp, PG (Blk X scope s0 H0 C cl fp) (.Name n py) (gName j)) (hf : compO t f xs = some ys) (hz : ys.length ≤ sizeLine)
    (ht : ∀ (x : α) (b : Bool) (v : V) (s1 : S), x ∈ xs → Ex s s1 → rep X.K s1.F v x → t x = some b → ∀ s0 H0 C cl fp, EvT (Blk X scope s0 H0 C cl fp) c ((wipe σ (own.map (·.2))).set j (some v)) s1 b)
    (he : ∀ (x : α) (y : β) (v : V) (s1 : S), x ∈ xs → Ex s s1 → rep X.K s1.F v x → t x = some true → f x = some y → ∀ s0 H0 C cl fp, Ev (Blk X scope s0 H0 C cl fp) elt ((wipe σ (own.map (·.2))).set j (some v)) s1 y)
    (hs : ∀ x, foldedSetIterable iter X.env x = pure x := by intro _; rfl) : EvL X elt (.Name n py) iter [c] scope σ s ys :=
  ⟨hc, hN, hs, own, _, _, ok, hg, fun s0 H0 C cl fp => pts_one (pt_im fun _ _ _ h => h s0 H0 C cl fp), fun s1 k Q q => comp_readG (tt := fun σ H Q => ∀ s0 H0 C cl fp, WT (Blk X scope s0 H0 C cl fp) c σ H Q) hGx hG0 hi tg_n hf hz (fun F x σ2 ⟨v, _, e⟩ => by rw [e, wipe_set hjo]; exact wipe_wipe fun _ z => z)
    (fun x b s1 σ2 Q hx k ⟨v, r, e⟩ hb q => by subst e; intro s0 H0 C cl fp; exact ht x b v s1 hx k r hb s0 H0 C cl fp s1 (Ex.refl _) Q q) (fun x y s1 σ2 hx k ⟨v, r, e⟩ htx hfx => by subst e; exact he x y v s1 hx k r htx hfx) s1 k Q q⟩
end
end Dy

namespace Dy
open PySem PySem.Spec L2
open PyProof.Rows hiding St
open Enc (rep)
open Flat (toV)
open EncA (repA)

def tc (p : Addr) (vs : List V) : OA := ⟨fun K F H P => (∀ a, P a ↔ a = p) ∧ H p = some (.tup vs), fun e h => h, fun e ⟨h0, h1⟩ => ⟨h0, by rw [e p ((h0 p).mpr rfl)]; exact h1⟩, fun ⟨h0, h1⟩ q => ⟨_, (congrArg _ ((h0 _).mp q)).trans h1⟩⟩
abbrev No : Addr → Prop := fun _ => False
def spI {A O : Type} (K : PySem.W.Frag) (pre : List V → A → List OA → List OA → Prop) (m : A → Option O) (ok : List V → A → O → V → List OA → Prop) (er : List V → A → O → Er → List OA → Prop) : Sp := fun vs H Q E =>
  ∃ (s : S) (P0 : Addr → Prop) (L R : List OA) (x : A) (o : O), s.H = H ∧ pre vs x L R ∧ Iv K P0 s s L ∧ Ro K P0 s R ∧ m x = some o ∧
    (∀ v s' L', ok vs x o v L' → Iv K P0 s s' L' → Q v s'.H) ∧ (∀ e cls d s' L', er vs x o e L' → Iv K P0 s s' L' → ExR K s'.F e cls d → E cls d s'.H)
def noEr {A O : Type} : List V → A → O → Er → List OA → Prop := fun _ _ _ _ _ => False
abbrev FunM (K : PySem.W.Frag) (x q : Str) (st : Stmt) (f : Addr) (fd : FuncData) : Prop := FunD K x q (defArgs st) (defBody st) (defScope st) [] [] f fd
section
variable {P : Program} {w : World} {K : PySem.W.Frag} {mg : Str → Option Value} {base : Heap} {A O : Type} {pre : List V → A → List OA → List OA → Prop} {m : A → Option O} {ok : List V → A → O → V → List OA → Prop} {er : List V → A → O → Er → List OA → Prop}
theorem mk_I {x q : Str} {st : Stmt} {f : Addr} {fd : FuncData} {N ps : List Str} {k : Nat} (F : FunM K x q st f fd) (Sc : FnScope N ps (defScope st)) (hl : ∀ vs a L R, pre vs a L R → vs.length = ps.length)
    (body : ∀ (cdv : Value) (A' : Around) (outer : List Env) (s0 : Shared) (H0 : Hp) (E0 : XK), Room k (A'.deeper (envOfC q (defScope st) s0.heap.objs.size f cdv)) → ∀ (s : S) (P0 : Addr → Prop) (L R : List OA) (vs : List V) (a : A) (o : O) (Q : VK), pre vs a L R → Iv K P0 s s L → Ro K P0 s R → m a = some o →
      (∀ v s' L', ok vs a o v L' → Iv K P0 s s' L' → Q v s'.H) → WSs (cxOf CX0 P w K mg base N q (defScope st) f cdv A' outer s0 H0 E0).nox (defBody st) (RD Q) (start N vs) s.H) : FnOk P w K mg base CX0 (k + 1) f fd ps (spI K pre m ok noEr) :=
  F.ok Sc (fun vs H Q E ⟨s, P0, L, R, a, o, _, h, _⟩ => hl vs a L R h) (fun cdv A' outer s0 H0 vs Q E hr ⟨s, P0, L, R, a, o, e, h1, h2, h3, h4, h5, _⟩ => ⟨_, pss_ws.nox, by
    have := body cdv A' outer s0 H0 E hr s P0 L R vs a o Q h1 h2 h3 h4 h5
    rw [e] at this
    exact this⟩)
theorem mk_IX {x q : Str} {st : Stmt} {f : Addr} {fd : FuncData} {N ps : List Str} {k : Nat} (F : FunM K x q st f fd) (Sc : FnScope N ps (defScope st)) (hl : ∀ vs a L R, pre vs a L R → vs.length = ps.length)
    (body : ∀ (cdv : Value) (A' : Around) (outer : List Env) (s0 : Shared) (H0 : Hp) (E0 : XK), Room k (A'.deeper (envOfC q (defScope st) s0.heap.objs.size f cdv)) → ∀ (s : S) (P0 : Addr → Prop) (L R : List OA) (vs : List V) (a : A) (o : O) (Q : VK), pre vs a L R → Iv K P0 s s L → Ro K P0 s R → m a = some o →
      (∀ v s' L', ok vs a o v L' → Iv K P0 s s' L' → Q v s'.H) → (∀ e cls d s' L', er vs a o e L' → Iv K P0 s s' L' → ExR K s'.F e cls d → E0 cls d s'.H) → WSs (cxOf (L2.CX P w) P w K mg base N q (defScope st) f cdv A' outer s0 H0 E0) (defBody st) (RD Q) (start N vs) s.H) : FnOk P w K mg base (L2.CX P w) (k + 1) f fd ps (spI K pre m ok er) :=
  F.ok Sc (fun vs H Q E ⟨s, P0, L, R, a, o, _, h, _⟩ => hl vs a L R h) (fun cdv A' outer s0 H0 vs Q E hr ⟨s, P0, L, R, a, o, e, h1, h2, h3, h4, h5, h6⟩ => ⟨_, pss_ws, by
    have := body cdv A' outer s0 H0 E hr s P0 L R vs a o Q h1 h2 h3 h4 h5 h6
    rw [e] at this
    exact this⟩)
theorem cal_of {CX : CXT} {q : Sp} {x : Str} {f : Addr} {fd : FuncData} {ps : List Str} {k : Nat} (h : FnOk P w K mg base CX k f fd ps q) (hm : mg x = some (.ref f)) (kp : PySem.W.keepIn K (.ref f) = true) (b : Binds K fd ps []) : Cal P w K mg base CX k x q := ⟨f, fd, ps, h, hm, kp, b⟩
structure CalM (P : Program) (w : World) (K : PySem.W.Frag) (mg : Str → Option Value) (base : Heap) (CX : CXT) (k : Nat) (c m : Str) (q : Sp) : Prop where
  ex : ∃ (f : Addr) (fd : FuncData) (ps : List Str), FnOk P w K mg base CX k f fd ps q ∧ Meth K (He.ga K c) m f ∧ Binds K fd ps []
structure CalC (P : Program) (w : World) (K : PySem.W.Frag) (mg : Str → Option Value) (base : Heap) (CX : CXT) (k : Nat) (c : Str) (q : Sp) : Prop where
  ex : ∃ (f : Addr) (fd : FuncData) (ps : List Str), FnOk P w K mg base CX k f fd ps q ∧ Mk K (He.ga K c) f ∧ mg c = some (.ref (He.ga K c)) ∧ Binds K fd ps []
end
section
variable {X : Cx} {CX : CXT} {k j : Nat} {f C : Addr} {fd : FuncData} {ps : List Str} {sp : Sp} {o e : Expr} {es : List Expr} {ta : TE} {t : TA} {m n : Str} {pos apos p0 : Pos} {σ : L2.St} {s : S}
def tMethS (C : Addr) (m : Str) (sp : Sp) (E : L2.St → XK) (ta : TE) (t : TA) : TE := fun σ H Q => ta σ H fun x H1 => ∃ a dx fs, x = .ref a ∧ H1 a = some (.ins C dx fs) ∧ fs.lookup m = none ∧ t σ H1 fun vs H2 => sp (x :: vs) H2 Q (E σ)
theorem pe_methX {E : L2.St → XK} {pl : Sem Bool} (he : PE X o ta) (c : Cls X.K C) (hm : Meth X.K C m f) (F : FnOk X.prog X.w X.K X.mg X.base CX k f fd ps sp) (hr : Room k X.A) (hb : Binds X.K fd ps []) (hx : ∀ σ, PassesAt CX X σ (E σ)) (ha : PA X (e :: es) t)
    (hst : starEach (e :: es) X.env = (false, eval e X.env) :: starEach es X.env := by rfl) (hpl : (backTo pos (starEach es X.env)).any (·.1) = false := by rfl)
    (ht : eval (.Call (.Attribute o m apos) (e :: es) [] pos) X.env = (do
      let ov ← eval o X.env
      standAt apos.atName
      let (f, first) ← holding [ov] (getMethod ov m pl)
      callWith pos f first (backTo pos (starEach (e :: es) X.env)) (backToKw pos (keywordEach [] X.env))) := by rfl) :
    PE X (.Call (.Attribute o m apos) (e :: es) [] pos) (tMethS C m sp E ta t) := by
  refine ⟨fun pins s σ H Q I h => ?_⟩
  refine PySem.W.methodCall_KW (pl := pl) (thn (he.run pins s σ H _ I h) fun u s1 ⟨x, H1, I1, rx, a, dx, fs, ex, ea, l, q⟩ => ?_) ht
  subst ex
  obtain rfl : u = Value.ref a := rx
  refine getmeth_ok I1 ea c hm l ?_
  refine PySem.W.callWith_K (first := [.ref a]) (h₀ := X.base) I1.ok.mod.kin hm.kp (thn (ha.run pos pins s1 σ H1 _ I1 q) fun us s2 ⟨vs, H2, I2, r, q2⟩ => ⟨I2.kIn, ?_⟩) hst hpl
  exact run_fnS (us := .ref a :: us) (vs := .ref a :: vs) F hr hb (hx σ) I2 (.cons rfl r) q2
theorem pe_methX0 {E : L2.St → XK} {pl : Sem Bool} (he : PE X o ta) (c : Cls X.K C) (hm : Meth X.K C m f) (F : FnOk X.prog X.w X.K X.mg X.base CX k f fd ps sp) (hr : Room k X.A) (hb : Binds X.K fd ps []) (hx : ∀ σ, PassesAt CX X σ (E σ))
    (ht : eval (.Call (.Attribute o m apos) [] [] pos) X.env = (do
      let ov ← eval o X.env
      standAt apos.atName
      let (f, first) ← holding [ov] (getMethod ov m pl)
      callWith pos f first (backTo pos (starEach [] X.env)) (backToKw pos (keywordEach [] X.env))) := by rfl) :
    PE X (.Call (.Attribute o m apos) [] [] pos) (tMethS C m sp E ta tNil) := by
  refine ⟨fun pins s σ H Q I h => ?_⟩
  refine PySem.W.methodCall_KW (pl := pl) (thn (he.run pins s σ H _ I h) fun u s1 ⟨x, H1, I1, rx, a, dx, fs, ex, ea, l, q⟩ => ?_) ht
  subst ex
  obtain rfl : u = Value.ref a := rx
  refine getmeth_ok I1 ea c hm l ?_
  exact PySem.W.callWith_K0 (first := [.ref a]) I1.kIn hm.kp (run_fnS (us := [.ref a]) (vs := [.ref a]) F hr hb (hx σ) I1 (.cons rfl .nil) q)
theorem run_makeS {E : XK} {pins : List (Addr × Obj)} {σ : L2.St} {H : Hp} {s : Shared} {Q : VK} {us : List Value} {vs : List V} (M : Mk X.K C f) (F : FnOk X.prog X.w X.K X.mg X.base CX k f fd ps sp) (hr : Room (k + 1) X.A) (hb : Binds X.K fd ps [])
    (hx : PassesAt CX X σ E) (I : Inv X pins σ H s) (r : Vals vs us)
    (h : ∀ x dx, H x = none → H dx = none → dx ≠ x → sp (.ref x :: vs) (upd (upd H dx (.own x)) x (.ins C dx [])) (fun v H2 => v = .non ∧ Q (.ref x) H2) E) :
    wpAny (model X.prog X.w) X.A (call (.ref C) us) (EP X pins σ Q) X.xe s := by
  have hq := h (s.heap.objs.size + 1) s.heap.objs.size (I.hok.fresh (Nat.le_succ _)) (I.hok.fresh (Nat.le_refl _)) (Nat.ne_of_lt (Nat.lt_succ_self _))
  have I2 := Inv.made (C := C) I
  have r2 : Vals (V.ref (s.heap.objs.size + 1) :: vs) (Value.ref (s.heap.objs.size + 1) :: us) := .cons rfl r
  have hl : (Value.ref (s.heap.objs.size + 1) :: us).length = ps.length := by
    have e := r2.length
    rw [F.len _ _ _ _ hq] at e
    exact e.symm
  refine wpAny_call (make_map (f := f) I.kIn M.makes M.init (beq_iff_eq.mp M.fn) (codeAny_mono (F.run _ X.stack _ _ ⟨Value.ref (s.heap.objs.size + 1) :: us, []⟩ (Value.ref (s.heap.objs.size + 1) :: us) _ _ E (hr.make C us [])
    (I2.env0.make C us []) (by
      have := hb _ (Value.ref (s.heap.objs.size + 1) :: us) I2.kIn (by rw [List.append_nil]; exact hl)
      rw [List.append_nil] at this
      exact this) r2 hq) fun r s' hq' => ?_))
  cases r with
  | error e => exact hx pins _ _ e s' I2 hq'
  | ok fl =>
    cases fl with
    | ret u =>
      obtain ⟨v, H', I3, rv, ev, q3⟩ := I2.after hq'
      subst ev
      exact ⟨rv, ⟨V.ref (s.heap.objs.size + 1), H', I3, rfl, q3⟩⟩
    | next => exact False.elim hq'
    | brk => exact False.elim hq'
    | cont => exact False.elim hq'
def tMakeS (C : Addr) (sp : Sp) (E : L2.St → XK) (t : TA) : TE := fun σ H Q => t σ H fun vs H1 => ∀ x dx, H1 x = none → H1 dx = none → dx ≠ x → sp (.ref x :: vs) (upd (upd H1 dx (.own x)) x (.ins C dx [])) (fun v H2 => v = .non ∧ Q (.ref x) H2) (E σ)
theorem pe_makeX {E : L2.St → XK} (M : Mk X.K C f) (F : FnOk X.prog X.w X.K X.mg X.base CX k f fd ps sp) (hr : Room (k + 1) X.A) (hg : Gl X n) (hm : X.mg n = some (.ref C)) (hb : Binds X.K fd ps []) (hx : ∀ σ, PassesAt CX X σ (E σ))
    (ha : PA X (e :: es) t) (hdb : (n == ("__debug__" : Str)) = false := by decide) (he : starEach (e :: es) X.env = (false, eval e X.env) :: starEach es X.env := by rfl) (hpl : (backTo pos (starEach es X.env)).any (·.1) = false := by rfl) :
    PE X (.Call (.Name n p0) (e :: es) [] pos) (tMakeS C sp E t) := by
  refine ⟨fun pins s σ H Q I h => ?_⟩
  refine wpAny_Call_Name_kw (ld_glob I hg hm ?_ hdb)
  refine PySem.W.callWith_K (h₀ := X.base) I.ok.mod.kin M.kp (thn (ha.run pos pins s σ H _ I h) fun us s1 ⟨vs, H1, I1, r, q⟩ => ⟨I1.kIn, ?_⟩) he hpl
  exact run_makeS M F hr hb (hx σ) I1 r q
theorem pe_makeX0 {E : L2.St → XK} (M : Mk X.K C f) (F : FnOk X.prog X.w X.K X.mg X.base CX k f fd ps sp) (hr : Room (k + 1) X.A) (hg : Gl X n) (hm : X.mg n = some (.ref C)) (hb : Binds X.K fd ps []) (hx : ∀ σ, PassesAt CX X σ (E σ))
    (hdb : (n == ("__debug__" : Str)) = false := by decide) : PE X (.Call (.Name n p0) [] [] pos) (tMakeS C sp E tNil) := by
  refine ⟨fun pins s σ H Q I h => ?_⟩
  refine wpAny_Call_Name_kw (ld_glob I hg hm ?_ hdb)
  exact PySem.W.callWith_K0 I.kIn M.kp (run_makeS (us := []) M F hr hb (hx σ) I .nil h)

def Calls (X : Cx) (e : Expr) (σ : L2.St) (s : S) (sp : Sp) (E : XK) (Φ : List V → S → Prop) : Prop := ∀ s1, Ex s s1 → ∀ Q : VK, (∀ vs s2, Ex s1 s2 → Φ vs s2 → sp vs s2.H Q E) → WE X e σ s1.H Q
theorem ca_fn {A : Type} [EncA A] {a : A} {E : L2.St → XK} (C : Cal X.prog X.w X.K X.mg X.base CX k n sp) (hx : ∀ σ, PassesAt CX X σ (E σ)) (hr : Room j X.A) (hk : k ≤ j) (ha : EvA X (e :: es) σ s a) (hg : Gl X n := by rfl)
    (hdb : (n == ("__debug__" : Str)) = false := by decide) (he : starEach (e :: es) X.env = (false, eval e X.env) :: starEach es X.env := by rfl) (hpl : (backTo pos (starEach es X.env)).any (·.1) = false := by rfl) : Calls X (.Call (.Name n p0) (e :: es) [] pos) σ s sp (E σ) (fun vs s2 => repA X.K s2.F vs a) := fun s1 k1 Q q => by
  obtain ⟨f, fd, ps, F, hm, kp, b⟩ := C.ex
  exact we_of (pe_callS (E := E) F (hr.mono hk) hg hm kp b hx pa_wa hdb he hpl) (ha s1 k1 _ fun vs s2 k2 r2 => q vs s2 k2 r2)
theorem ca_meth {A : Type} [EncA A] {a : A} {E : L2.St → XK} {c : Str} {p : Addr} {fs : List (Str × V)} (C : CalM X.prog X.w X.K X.mg X.base CX k c m sp) (hc : Cls X.K (He.ga X.K c)) (hx : ∀ σ, PassesAt CX X σ (E σ)) (hr : Room j X.A) (hk : k ≤ j) (ho : Ev X o σ s (Rw.mk (.ref p))) (r : CellAt s X.K p c fs) (hl : fs.lookup m = none) (ha : EvA X (e :: es) σ s a)
    {pl : Sem Bool} (hst : starEach (e :: es) X.env = (false, eval e X.env) :: starEach es X.env := by rfl) (hpl : (backTo pos (starEach es X.env)).any (·.1) = false := by rfl)
    (ht : eval (.Call (.Attribute o m apos) (e :: es) [] pos) X.env = (do
      let ov ← eval o X.env
      standAt apos.atName
      let (f, first) ← holding [ov] (getMethod ov m pl)
      callWith pos f first (backTo pos (starEach (e :: es) X.env)) (backToKw pos (keywordEach [] X.env))) := by rfl) : Calls X (.Call (.Attribute o m apos) (e :: es) [] pos) σ s sp (E σ) (fun vs s2 => ∃ ws, vs = .ref p :: ws ∧ repA X.K s2.F ws a) := fun s1 k1 Q q => by
  obtain ⟨f, fd, ps, F, hm, b⟩ := C.ex
  refine we_of (pe_methX (E := E) (pl := pl) pe_we hc hm F (hr.mono hk) b hx pa_wa hst hpl ht) (ho s1 k1 _ fun v s2 k2 e2 => ?_)
  cases (show v = V.ref p from e2)
  obtain ⟨dx, h1⟩ := r.ex (k1.trans k2)
  exact ⟨p, dx, fs, rfl, h1, hl, ha s2 (k1.trans k2) _ fun ws s3 k3 r3 => q _ s3 (k2.trans k3) ⟨ws, rfl, r3⟩⟩
theorem ca_meth0 {E : L2.St → XK} {c : Str} {p : Addr} {fs : List (Str × V)} (C : CalM X.prog X.w X.K X.mg X.base CX k c m sp) (hc : Cls X.K (He.ga X.K c)) (hx : ∀ σ, PassesAt CX X σ (E σ)) (hr : Room j X.A) (hk : k ≤ j) (ho : Ev X o σ s (Rw.mk (.ref p))) (r : CellAt s X.K p c fs) (hl : fs.lookup m = none)
    {pl : Sem Bool} (ht : eval (.Call (.Attribute o m apos) [] [] pos) X.env = (do
      let ov ← eval o X.env
      standAt apos.atName
      let (f, first) ← holding [ov] (getMethod ov m pl)
      callWith pos f first (backTo pos (starEach [] X.env)) (backToKw pos (keywordEach [] X.env))) := by rfl) : Calls X (.Call (.Attribute o m apos) [] [] pos) σ s sp (E σ) (fun vs s2 => ∃ ws, vs = .ref p :: ws ∧ repA X.K s2.F ws ()) := fun s1 k1 Q q => by
  obtain ⟨f, fd, ps, F, hm, b⟩ := C.ex
  refine we_of (pe_methX0 (E := E) (pl := pl) pe_we hc hm F (hr.mono hk) b hx ht) (ho s1 k1 _ fun v s2 k2 e2 => ?_)
  cases (show v = V.ref p from e2)
  obtain ⟨dx, h1⟩ := r.ex (k1.trans k2)
  exact ⟨p, dx, fs, rfl, h1, hl, q _ s2 k2 ⟨[], rfl, rfl⟩⟩
def CallsN (X : Cx) (e : Expr) (σ : L2.St) (s : S) (c : Str) (sp : Sp) (E : XK) (Φ : List V → S → Prop) : Prop := ∀ s1, Ex s s1 → ∀ Q : VK, (∀ vs s2, Ex s1 s2 → Φ vs s2 → ∀ x dx, s2.H x = none → s2.H dx = none → dx ≠ x → sp (.ref x :: vs) (upd (upd s2.H dx (.own x)) x (.ins (He.ga X.K c) dx [])) (fun v H2 => v = .non ∧ Q (.ref x) H2) E) → WE X e σ s1.H Q
theorem ca_make {A : Type} [EncA A] {a : A} {E : L2.St → XK} (C : CalC X.prog X.w X.K X.mg X.base CX k n sp) (hx : ∀ σ, PassesAt CX X σ (E σ)) (hr : Room j X.A) (hk : k + 1 ≤ j) (ha : EvA X (e :: es) σ s a) (hg : Gl X n := by rfl)
    (hdb : (n == ("__debug__" : Str)) = false := by decide) (he : starEach (e :: es) X.env = (false, eval e X.env) :: starEach es X.env := by rfl) (hpl : (backTo pos (starEach es X.env)).any (·.1) = false := by rfl) : CallsN X (.Call (.Name n p0) (e :: es) [] pos) σ s n sp (E σ) (fun vs s2 => repA X.K s2.F vs a) := fun s1 k1 Q q => by
  obtain ⟨f, fd, ps, F, M, hm, b⟩ := C.ex
  exact we_of (pe_makeX (E := E) M F (hr.mono hk) hg hm b hx pa_wa hdb he hpl) (ha s1 k1 _ fun vs s2 k2 r2 => fun x dx h1 h2 h3 => q vs s2 k2 r2 x dx h1 h2 h3)
theorem ca_make0 {E : L2.St → XK} (C : CalC X.prog X.w X.K X.mg X.base CX k n sp) (hx : ∀ σ, PassesAt CX X σ (E σ)) (hr : Room j X.A) (hk : k + 1 ≤ j) (hg : Gl X n := by rfl)
    (hdb : (n == ("__debug__" : Str)) = false := by decide) : CallsN X (.Call (.Name n p0) [] [] pos) σ s n sp (E σ) (fun vs s2 => repA X.K s2.F vs ()) := fun s1 k1 Q q => by
  obtain ⟨f, fd, ps, F, M, hm, b⟩ := C.ex
  exact we_of (pe_makeX0 (E := E) M F (hr.mono hk) hg hm b hx hdb) fun x dx h1 h2 h3 => q [] s1 (Ex.refl _) rfl x dx h1 h2 h3
theorem pass00 {E : L2.St → XK} : ∀ σ, PassesAt CX0 X σ (E σ) := fun σ pins H s e s' I c => c.elim
theorem passF : ∀ σ, PassesAt (L2.CX X.prog X.w) X σ ((fun _ _ _ _ => False : L2.St → XK) σ) := fun σ pins H s e s' I c => by
  obtain ⟨_, _, _, _, _, _, _, _, _, _, _, _, hf⟩ := c
  exact hf.elim
def EvK (X : Cx) (e : Expr) (σ : L2.St) (s : S) (Φ : V → S → Prop) : Prop := ∀ Q : VK, (∀ v s2, Φ v s2 → Q v s2.H) → WE X e σ s.H Q
def EvG (X : Cx) (e : Expr) (σ : L2.St) (s : S) (ok : V → List OA → Prop) : Prop := ∀ s1, Ex s s1 → ∀ Q : VK, (∀ v s2 L', ok v L' → Iv X.K No s1 s2 L' → Q v s2.H) → WE X e σ s1.H Q
end
section
variable {X : Cx} {P0 : Addr → Prop} {s0 s s1 t : S} {L R0 M : List OA} {K : PySem.W.Frag}
theorem Iv.add (h : Iv K P0 s0 s L) (g : Iv K No s s1 M) : Iv K P0 s0 s1 (L ++ M) := by
  obtain ⟨P1, _, _, h3, h4⟩ := call_in h (R0 := []) ⟨fun i A e => by cases e⟩ [] List.nodup_nil (fun k hk => by cases hk) [] (fun A hA => by cases hA) [] (fun i hi => by cases hi)
  have e0 : P1 = No := by
    funext a
    exact propext ⟨fun z => (h3 rfl a z).elim, fun z => z.elim⟩
  have := h4 s1 M (by rw [e0]; exact g)
  have er : rem L [] = L := by
    unfold rem
    apply List.ext_getElem?
    intro i
    rw [List.getElem?_mapIdx]
    cases L[i]? <;> simp
  rw [er] at this
  exact this
theorem Iv.noex (h : Iv K No s0 s L) : Ex s0 s := h.exx
theorem Iv.nil : Iv K P0 s s [] := Iv.tops 0 s
theorem Iv.cons1 {A : OA} (h : Iv K No s s1 [A]) : A :: [] = [A] := rfl
theorem ev_ivf {α : Type} [Enc α] {v : V} {x : α} (e : Ex s s1) (r : rep K s1.F v x) : Iv K No s s1 [Dy.fz v x] := (Iv.sf (Iv.tops (K := K) (P0 := No) 1 s) 0 e r rfl)
theorem ev_ivl {α : Type} [Enc α] {p : Addr} {x : List α} (e : Ex s s1) (n : s.H p = none) (o : Own K s1 p x) : Iv K No s s1 [Dy.ol p x] := (Iv.sl (Iv.tops (K := K) (P0 := No) 1 s) 0 e n o rfl)
theorem ev_ivd {α κ : Type} [DKey κ] [Enc α] {p : Addr} {x : List (κ × α)} (e : Ex s s1) (n : s.H p = none) (o : OwnD K s1 p x) : Iv K No s s1 [Dy.od p x] := (Iv.sd (Iv.tops (K := K) (P0 := No) 1 s) 0 e n o rfl)
end
section
variable {X : Cx} {CX : CXT} {k j : Nat} {e : Expr} {es : List Expr} {pos p0 p1 : Pos} {σ : L2.St} {P0 : Addr → Prop} {s0 s : S} {L R0 : List OA} {A O : Type} {pre : List V → A → List OA → List OA → Prop} {m : A → Option O} {ok : List V → A → O → V → List OA → Prop} {er : List V → A → O → Er → List OA → Prop} {x : A} {o : O} {E : XK} {Φ : List V → S → Prop} {ok' : V → List OA → Prop}
theorem eg_call (c : Calls X e σ s (spI X.K pre m ok er) E Φ) (iv : Iv X.K P0 s0 s L) (ro : Ro X.K P0 s0 R0) (rs : List (Nat ⊕ Nat))
    (hp : ∀ vs s2, Ex s s2 → Φ vs s2 → ∃ Lf, pre vs x Lf (rsel L R0 rs) ∧ (∀ A ∈ Lf, A.p X.K s2.F s2.H No) ∧ (∀ v L', ok vs x o v L' → ok' v L') ∧ (∀ e L', er vs x o e L' → False)) (hm : m x = some o) : EvG X e σ s ok' := fun s1 k1 Q q =>
  c s1 k1 Q fun vs s2 k2 φ => by
    obtain ⟨Lf, h1, h2, h3, h4⟩ := hp vs s2 (k1.trans k2) φ
    obtain ⟨P1, g1, g2, g3, g4⟩ := call_in (iv.ex (k1.trans k2)) ro [] List.nodup_nil (fun k hk => by cases hk) Lf h2 rs (fun i _ z => by cases z)
    have e0 : P1 = No := by
      funext a
      exact propext ⟨fun z => (g3 rfl a z).elim, fun z => z.elim⟩
    subst e0
    exact ⟨s2, No, Lf, _, x, o, rfl, h1, g1, g2, hm, fun v s' L' hok iv' => q v s' L' (h3 v L' hok) ⟨k2.z.trans iv'.m, by
      obtain ⟨φ, f1, f2, f3⟩ := iv'.o
      exact ⟨φ, f1, f2, fun i a z => ⟨(f3 i a z).1, (f3 i a z).2.1.elim (fun z => z.elim) (fun z => .inr (fr_back k2 z)), (f3 i a z).2.2⟩⟩⟩, fun e cls d s' L' z _ _ => (h4 e L' z).elim⟩
theorem ek_call (c : Calls X e σ s (spI X.K pre m ok er) E Φ) (iv : Iv X.K P0 s0 s L) (ro : Ro X.K P0 s0 R0) (ks : List Nat) (hn : ks.Nodup) (hk : ∀ k ∈ ks, k < L.length) (rs : List (Nat ⊕ Nat)) (hrs : ∀ i, Sum.inl i ∈ rs → i ∉ ks)
    (hp : ∀ vs s2, Ex s s2 → Φ vs s2 → ∃ Lf, pre vs x (ks.map (fun k => L.getD k top) ++ Lf) (rsel L R0 rs) ∧ (∀ A ∈ Lf, A.p X.K s2.F s2.H No) ∧ (∀ v L', ok vs x o v L' → ok' v L') ∧ (∀ e L', er vs x o e L' → False)) (hm : m x = some o) :
    EvK X e σ s (fun v s' => ∃ L', ok' v L' ∧ Fle s.F s'.F ∧ Iv X.K P0 s0 s' (rem L ks ++ L')) := fun Q q =>
  c s (Ex.refl _) Q fun vs s2 k2 φ => by
    obtain ⟨Lf, h1, h2, h3, h4⟩ := hp vs s2 k2 φ
    obtain ⟨P1, g1, g2, g3, g4⟩ := call_in (iv.ex k2) ro ks hn hk Lf h2 rs hrs
    exact ⟨s2, P1, _, _, x, o, rfl, h1, g1, g2, hm, fun v s' L' hok iv' => q v s' ⟨L', h3 v L' hok, k2.f.trans iv'.m.f, g4 s' L' iv'⟩, fun e cls d s' L' z _ _ => (h4 e L' z).elim⟩
theorem ex_call {er' : Er → List OA → Prop} {W : WX} (c : Calls X e σ s (spI X.K pre m ok er) (L2.WE W σ) Φ) (iv : Iv X.K P0 s0 s L) (ro : Ro X.K P0 s0 R0) (ks : List Nat) (hn : ks.Nodup) (hk : ∀ k ∈ ks, k < L.length) (rs : List (Nat ⊕ Nat)) (hrs : ∀ i, Sum.inl i ∈ rs → i ∉ ks)
    (hp : ∀ vs s2, Ex s s2 → Φ vs s2 → ∃ Lf, pre vs x (ks.map (fun k => L.getD k top) ++ Lf) (rsel L R0 rs) ∧ (∀ A ∈ Lf, A.p X.K s2.F s2.H No) ∧ (∀ v L', ok vs x o v L' → False) ∧ (∀ e L', er vs x o e L' → er' e L')) (hm : m x = some o)
    (hw : ∀ e cls d s' L', er' e L' → Iv X.K P0 s0 s' (rem L ks ++ L') → ExR X.K s'.F e cls d → W cls d σ s'.H) : EvX X e σ s := fun s1 k1 Q =>
  c s1 k1 Q fun vs s2 k2 φ => by
    obtain ⟨Lf, h1, h2, h3, h4⟩ := hp vs s2 (k1.trans k2) φ
    obtain ⟨P1, g1, g2, g3, g4⟩ := call_in (iv.ex (k1.trans k2)) ro ks hn hk Lf h2 rs hrs
    exact ⟨s2, P1, _, _, x, o, rfl, h1, g1, g2, hm, fun v s' L' hok iv' => (h3 v L' hok).elim, fun e cls d s' L' z iv' r => hw e cls d s' L' (h4 e L' z) (g4 s' L' iv') r⟩
theorem mk_cell {c : Str} {p dx : Addr} (iv : Iv X.K P0 s0 s L) (hx : s.H p = none) (hd : s.H dx = none) (ne : dx ≠ p) : ∃ s1 : S, s1.H = upd (upd s.H dx (.own p)) p (.ins (He.ga X.K c) dx []) ∧ Ex s s1 ∧ Iv X.K P0 s0 s1 (L ++ [Dy.cell p c []]) ∧ Iv X.K No s s1 [Dy.cell p c []] := by
  have e1 : Ex s (s.newO dx (.own p) hd) := Ex.newO hd
  have hx1 : (s.newO dx (.own p) hd).H p = none := by show upd s.H dx _ p = none; rw [upd_ne (Ne.symm ne)]; exact hx
  have e2 := Ex.newO (o := HO.ins (He.ga X.K c) dx []) hx1
  have e3 := e1.trans e2
  have g : Iv X.K No s ((s.newO dx (.own p) hd).newO p (.ins (He.ga X.K c) dx []) hx1) [Dy.cell p c []] := by
    refine Iv.put (L := [top]) (Iv.tops (P0 := No) 1 s) 0 e3 ⟨fun a => a = p ∨ a = dx, ⟨dx, fun _ => Iff.rfl, upd_same, ?_⟩, fun a z => ?_⟩
    · show upd (upd s.H dx (.own p)) p _ dx = _
      rw [upd_ne ne, upd_same]
    · rcases z with rfl | rfl
      · exact ⟨(fF hx : s.F a = none), hx⟩
      · exact ⟨(fF hd : s.F a = none), hd⟩
  exact ⟨_, rfl, e3, iv.add g, g⟩
theorem eg_make {c : Str} (ca : CallsN X e σ s c (spI X.K pre m ok er) E Φ) (iv : Iv X.K P0 s0 s L) (ro : Ro X.K P0 s0 R0) (rs : List (Nat ⊕ Nat))
    (hp : ∀ vs s2 p, Ex s s2 → Φ vs s2 → ∃ Lf, pre (.ref p :: vs) x (Dy.cell p c [] :: Lf) (rsel L R0 rs) ∧ (∀ (A : OA) (s3 : S), Ex s2 s3 → A ∈ Lf → A.p X.K s3.F s3.H No) ∧ (∀ v L', ok (.ref p :: vs) x o v L' → v = .non ∧ ok' (.ref p) L') ∧ (∀ e L', er (.ref p :: vs) x o e L' → False)) (hm : m x = some o) : EvG X e σ s ok' := fun s1 k1 Q q =>
  ca s1 k1 Q fun vs s2 k2 φ p dx n1 n2 ne => by
    obtain ⟨Lf, h1, h2, h3, h4⟩ := hp vs s2 p (k1.trans k2) φ
    obtain ⟨s3, e3, k3, iv3, iv4⟩ := mk_cell (c := c) (iv.ex (k1.trans k2)) n1 n2 ne
    have kk := k2.trans k3
    obtain ⟨P1, g1, g2, g3, g4⟩ := call_in (R0 := rsel L R0 rs) (K := X.K) (s0 := s3) (s := s3) (P0 := fun a => a = p ∨ a = dx) (L := [Dy.cell p c []]) ⟨(Ex.refl s3).z, by
        obtain ⟨φ, f1, f2, f3⟩ := iv4.o
        refine ⟨φ, f1, f2, fun i a z => ⟨(f3 i a z).1, .inl ?_, (f3 i a z).2.2⟩⟩
        have hi : i = 0 := by have := (f3 i a z).2.2; simpa using this
        subst hi
        obtain ⟨dx', w0, w1, w2⟩ := f1 0 _ rfl
        have : dx' = dx := by
          rw [e3, upd_same] at w1
          cases w1; rfl
        subst this
        exact (w0 a).mp z⟩ ⟨fun i A hA => by
        obtain ⟨PP, w1, w2, _, _⟩ := call_in (iv.ex (k1.trans k2)) ro [] List.nodup_nil (fun k hk => by cases hk) [] (fun A hA => by cases hA) rs (fun i _ z => by cases z)
        obtain ⟨Pa, u1, u2⟩ := w2.o i A hA
        refine ⟨Pa, OA.stay (P0 := No) u1 k3.z fun _ _ z => z, fun a ha z => ?_⟩
        obtain ⟨o', ho'⟩ := A.dom u1 ha
        rcases z with rfl | rfl
        · rw [n1] at ho'; cases ho'
        · rw [n2] at ho'; cases ho'⟩ [0] (by decide) (by simp) Lf (fun A hA => h2 A s3 k3 hA) ((List.range rs.length).map Sum.inr) (fun i z => by simp at z)
    refine ⟨s3, P1, _, _, x, o, e3, ?_, g1, g2, hm, fun v s' L' hok iv' => ?_, fun e cls d s' L' z _ _ => (h4 e L' z).elim⟩
    · have er : rsel [Dy.cell p c []] (rsel L R0 rs) ((List.range rs.length).map Sum.inr) = rsel L R0 rs := by
        apply List.ext_getElem?
        intro i
        unfold rsel
        rw [List.map_map, List.getElem?_map]
        by_cases hi : i < rs.length
        · rw [List.getElem?_range hi]
          simp only [Option.map_some, Function.comp]
          rw [List.getD_eq_getElem?_getD, List.getElem?_map, List.getElem?_eq_getElem hi]
          rfl
        · rw [List.getElem?_eq_none (by rw [List.length_range]; omega), List.getElem?_map, List.getElem?_eq_none (by omega)]; rfl
      rw [er]
      exact h1
    · obtain ⟨v0, hok'⟩ := h3 v L' hok
      have := g4 s' L' iv'
      refine ⟨v0, q _ s' L' hok' ?_⟩
      have iv5 : Iv X.K (fun a => a = p ∨ a = dx) s3 s' L' := by
        have := this.sel ((List.range L'.length).map fun i => some (i + 1)) (by
          have : (List.map (fun i => some (i + 1)) (List.range L'.length)).filterMap id = (List.range L'.length).map (· + 1) := by
            rw [List.filterMap_map]
            exact (List.filterMap_eq_map (f := fun i : Nat => i + 1)) ▸ rfl
          rw [this]
          exact List.Pairwise.map _ (fun a b h e => h (Nat.succ.inj e)) List.nodup_range) (M := L') (by
          unfold pick rem
          apply List.ext_getElem?
          intro i
          rw [List.map_map, List.getElem?_map]
          by_cases hi : i < L'.length
          · rw [List.getElem?_range hi]
            simp [List.getD_eq_getElem?_getD, List.getElem?_eq_getElem hi]
          · rw [List.getElem?_eq_none (by rw [List.length_range]; omega), List.getElem?_eq_none (by omega)]; rfl)
        exact this
      refine ⟨⟨kk.f.trans iv5.m.f, fun a o h _ => ?_, fun a o h _ n => ?_, fun a o h => ?_⟩, ?_⟩
      · have : ¬ (a = p ∨ a = dx) := fun z => by
          rcases z with rfl | rfl
          · rw [k2.h _ _ h] at n1; cases n1
          · rw [k2.h _ _ h] at n2; cases n2
        exact iv5.m.h _ _ (kk.h _ _ h) this
      · have : ¬ (a = p ∨ a = dx) := fun z => by
          rcases z with rfl | rfl
          · rw [k2.h _ _ h] at n1; cases n1
          · rw [k2.h _ _ h] at n2; cases n2
        exact iv5.m.n _ _ (kk.h _ _ h) this (kk.n _ _ h n)
      · exact iv5.m.d _ _ (kk.h _ _ h)
      · obtain ⟨φ, f1, f2, f3⟩ := iv5.o
        refine ⟨φ, f1, f2, fun i a z => ⟨(f3 i a z).1, .inr ?_, (f3 i a z).2.2⟩⟩
        rcases (f3 i a z).2.1 with (rfl | rfl) | w
        · exact fr_back k2 n1
        · exact fr_back k2 n2
        · exact fr_back kk w
theorem ex_make {c : Str} {er' : Er → Prop} {W : WX} (ca : CallsN X e σ s c (spI X.K pre m ok er) (L2.WE W σ) Φ) (iv : Iv X.K P0 s0 s L) (ro : Ro X.K P0 s0 R0) (rs : List (Nat ⊕ Nat))
    (hp : ∀ vs s2 p, Ex s s2 → Φ vs s2 → ∃ Lf, pre (.ref p :: vs) x (Dy.cell p c [] :: Lf) (rsel L R0 rs) ∧ (∀ (A : OA) (s3 : S), Ex s2 s3 → A ∈ Lf → A.p X.K s3.F s3.H No) ∧ (∀ v L', ok (.ref p :: vs) x o v L' → False) ∧ (∀ e L', er (.ref p :: vs) x o e L' → er' e)) (hm : m x = some o)
    (hw : ∀ e cls d s', er' e → Ex s s' → ExR X.K s'.F e cls d → W cls d σ s'.H) : EvX X e σ s := fun s1 k1 Q =>
  ca s1 k1 Q fun vs s2 k2 φ p dx n1 n2 ne => by
    obtain ⟨Lf, h1, h2, h3, h4⟩ := hp vs s2 p (k1.trans k2) φ
    obtain ⟨s3, e3, k3, iv3, iv4⟩ := mk_cell (c := c) (iv.ex (k1.trans k2)) n1 n2 ne
    have kk := (k1.trans k2).trans k3
    obtain ⟨P1, g1, g2, g3, g4⟩ := call_in (R0 := rsel L R0 rs) (K := X.K) (s0 := s3) (s := s3) (P0 := fun a => a = p ∨ a = dx) (L := [Dy.cell p c []]) ⟨(Ex.refl s3).z, by
        obtain ⟨φ, f1, f2, f3⟩ := iv4.o
        refine ⟨φ, f1, f2, fun i a z => ⟨(f3 i a z).1, .inl ?_, (f3 i a z).2.2⟩⟩
        have hi : i = 0 := by have := (f3 i a z).2.2; simpa using this
        subst hi
        obtain ⟨dx', w0, w1, w2⟩ := f1 0 _ rfl
        have : dx' = dx := by
          rw [e3, upd_same] at w1
          cases w1; rfl
        subst this
        exact (w0 a).mp z⟩ ⟨fun i A hA => by
        obtain ⟨PP, w1, w2, _, _⟩ := call_in (iv.ex (k1.trans k2)) ro [] List.nodup_nil (fun k hk => by cases hk) [] (fun A hA => by cases hA) rs (fun i _ z => by cases z)
        obtain ⟨Pa, u1, u2⟩ := w2.o i A hA
        refine ⟨Pa, OA.stay (P0 := No) u1 k3.z fun _ _ z => z, fun a ha z => ?_⟩
        obtain ⟨o', ho'⟩ := A.dom u1 ha
        rcases z with rfl | rfl
        · rw [n1] at ho'; cases ho'
        · rw [n2] at ho'; cases ho'⟩ [0] (by decide) (by simp) Lf (fun A hA => h2 A s3 k3 hA) ((List.range rs.length).map Sum.inr) (fun i z => by simp at z)
    refine ⟨s3, P1, _, _, x, o, e3, ?_, g1, g2, hm, fun v s' L' hok iv' => (h3 v L' hok).elim, fun e cls d s' L' z iv' r => hw e cls d s' (h4 e L' z) ?_ r⟩
    · have er : rsel [Dy.cell p c []] (rsel L R0 rs) ((List.range rs.length).map Sum.inr) = rsel L R0 rs := by
        apply List.ext_getElem?
        intro i
        unfold rsel
        rw [List.map_map, List.getElem?_map]
        by_cases hi : i < rs.length
        · rw [List.getElem?_range hi]
          simp only [Option.map_some, Function.comp]
          rw [List.getD_eq_getElem?_getD, List.getElem?_map, List.getElem?_eq_getElem hi]
          rfl
        · rw [List.getElem?_eq_none (by rw [List.length_range]; omega), List.getElem?_map, List.getElem?_eq_none (by omega)]; rfl
      rw [er]
      exact h1
    · have iv5 := g4 s' L' iv'
      have k0 := k1.trans k2
      refine ⟨kk.f.trans iv5.m.f, fun a o h => ?_, fun a o h n => ?_⟩
      · have : ¬ (a = p ∨ a = dx) := fun z => by
          rcases z with rfl | rfl
          · rw [k0.h _ _ h] at n1; cases n1
          · rw [k0.h _ _ h] at n2; cases n2
        exact iv5.m.h _ _ (kk.h _ _ h) this
      · have : ¬ (a = p ∨ a = dx) := fun z => by
          rcases z with rfl | rfl
          · rw [k0.h _ _ h] at n1; cases n1
          · rw [k0.h _ _ h] at n2; cases n2
        exact iv5.m.n _ _ (kk.h _ _ h) this (kk.n _ _ h n)
end
end Dy

namespace Dy
open PySem PySem.Spec L2
open PyProof.Rows hiding St
open Enc (rep)
open Flat (toV)
open EncA (repA)

structure Dc (κ α : Type) where
  l : List (κ × α)
instance {κ α : Type} [DKey κ] [Enc α] : Enc (Dc κ α) := ⟨fun K F v x => ∃ p o kv, v = .ref p ∧ F p = some (.frz o (.dK kv)) ∧ KReps K F kv x.l, fun e ⟨p, o, kv, h1, h2, h3⟩ => ⟨p, o, kv, h1, e _ _ h2, h3.mono e⟩⟩
section
variable {α β γ κ τ υ ρ : Type} [Enc α] [Enc β] [Enc γ] [Enc τ] [DKey κ] [DecidableEq κ] {X : Cx} {σ : L2.St} {P0 : Addr → Prop} {s0 s s1 t : S} {L M : List OA} {e a b c o i tg iter elt : Expr} {es : List Expr} {pos p0 p1 p2 p3 : Pos} {D : Ends} {rest body : List Stmt} {n : Str} {p : Addr} {K : PySem.W.Frag}
theorem Iv.tc (h : Iv K P0 s0 s L) (i : Nat) {p : Addr} {vs : List V} (e : L[i]? = some (Dy.tc p vs) := by rfl) : s.H p = some (.tup vs) := by
  obtain ⟨P, ⟨h0, h1⟩, h3⟩ := h.at i e
  exact h1
theorem eg_ev {x : α} (h : Ev X e σ s x) : EvG X e σ s (fun v L' => L' = [fz v x]) := fun s1 k Q q => h s1 k Q fun v s2 k2 r => q v s2 _ rfl (ev_ivf k2 r)
theorem eg_new {xs : List α} (h : EvN X e σ s xs) : EvG X e σ s (fun v L' => ∃ p, v = .ref p ∧ L' = [ol p xs]) := fun s1 k Q q => h s1 k Q fun p s2 k2 n2 r => q _ s2 _ ⟨p, rfl, rfl⟩ (ev_ivl k2 n2 r)
theorem eg_newD {xs : List (κ × α)} (h : EvND X e σ s xs) : EvG X e σ s (fun v L' => ∃ p, v = .ref p ∧ L' = [od p xs]) := fun s1 k Q q => h s1 k Q fun p s2 k2 n2 r => q _ s2 _ ⟨p, rfl, rfl⟩ (ev_ivd k2 n2 r)
theorem eg_raw {v0 : V} (h : Ev X e σ s (Rw.mk v0)) : EvG X e σ s (fun v L' => v = v0 ∧ L' = []) := fun s1 k Q q => h s1 k Q fun v s2 k2 r => q v s2 [] ⟨r, rfl⟩ ((Iv.tops (P0 := No) 0 s1).ex k2)
theorem EvG.imp {ok ok' : V → List OA → Prop} (h : EvG X e σ s ok) (k : ∀ v L', ok v L' → ok' v L') : EvG X e σ s ok' := fun s1 k1 Q q => h s1 k1 Q fun v s2 L' z => q v s2 L' (k v L' z)
theorem ev_of_eg {x : α} {ok : V → List OA → Prop} (h : EvG X e σ s ok) (k : ∀ v L', ok v L' → ∃ M, L' = fz v x :: M) : Ev X e σ s x := fun s1 k1 Q q => h s1 k1 Q fun v s2 L' z iv => by
  obtain ⟨M, rfl⟩ := k v L' z
  exact q v s2 iv.exx (iv.fz 0)
theorem en_of_eg {xs : List α} {ok : V → List OA → Prop} (h : EvG X e σ s ok) (k : ∀ v L', ok v L' → ∃ p M, v = .ref p ∧ L' = ol p xs :: M) : EvN X e σ s xs := fun s1 k1 Q q => h s1 k1 Q fun v s2 L' z iv => by
  obtain ⟨p, M, rfl, rfl⟩ := k v L' z
  exact q p s2 iv.exx (iv.fresh 0) (iv.ol 0)
def EvGs (X : Cx) (es : List Expr) (σ : L2.St) (s : S) (ok : List V → List OA → Prop) : Prop := ∀ s1, Ex s s1 → ∀ Q : List V → Hp → Prop, (∀ vs s2 L', ok vs L' → Iv X.K No s1 s2 L' → Q vs s2.H) → WA X es σ s1.H Q
theorem egs_nil : EvGs X [] σ s (fun vs L' => vs = [] ∧ L' = []) := fun s1 k Q q => wa_of pa_nil (q [] s1 [] ⟨rfl, rfl⟩ (Iv.tops (P0 := No) 0 s1))
theorem egs_cons {ok : V → List OA → Prop} {ok2 : List V → List OA → Prop} (h : EvG X e σ s ok) (hr : EvGs X es σ s ok2) (hs : starEach (e :: es) X.env = (false, eval e X.env) :: starEach es X.env := by exact star_cons rfl) :
    EvGs X (e :: es) σ s (fun vs L' => ∃ v L1 ws L2, vs = v :: ws ∧ L' = L1 ++ L2 ∧ ok v L1 ∧ ok2 ws L2) := fun s1 k Q q =>
  wa_of (pa_cons pe_we pa_wa hs) (h s1 k _ fun v s2 L1 z1 iv1 => hr s2 (k.trans iv1.exx) _ fun ws s3 L2 z2 iv2 => q _ s3 _ ⟨v, L1, ws, L2, rfl, rfl, z1, z2⟩ (iv1.add iv2))
theorem eg_tup {ok : List V → List OA → Prop} {k} (h : EvGs X es σ s ok) (hz : ∀ vs L', ok vs L' → vs.length ≤ 1000) : EvG X (.Tuple es k pos) σ s (fun v L' => ∃ p vs L1, v = .ref p ∧ ok vs L1 ∧ L' = tc p vs :: L1) := fun s1 k1 Q q =>
  we_of (pe_tup pa_wa) (h s1 k1 _ fun vs s2 L1 z1 iv1 => ⟨by rw [sizeLine_eq]; have := hz vs L1 z1; omega, fun p hp => by
    have iv2 : Iv X.K No s2 (s2.newO p (.tup vs) hp) [tc p vs] := Iv.put (L := [top]) (Iv.tops (P0 := No) 1 s2) 0 (Ex.newO hp) ⟨fun a => a = p, ⟨fun _ => Iff.rfl, upd_same⟩, fun a z => by rw [z]; exact ⟨(fF hp : s2.F p = none), hp⟩⟩
    have := iv1.add iv2
    have iv3 := this.sel (M := tc p vs :: L1) (some L1.length :: (List.range L1.length).map some) (by
      have e1 : (some L1.length :: (List.range L1.length).map some).filterMap id = L1.length :: List.range L1.length := by simp
      rw [e1]
      exact List.nodup_cons.mpr ⟨by simp, List.nodup_range⟩) (by
      unfold pick
      rw [List.map_cons]
      congr 1
      · simp [List.getD_eq_getElem?_getD]
      · apply List.ext_getElem?
        intro i
        rw [List.map_map, List.getElem?_map]
        by_cases hi : i < L1.length
        · rw [List.getElem?_range hi]
          simp [List.getD_eq_getElem?_getD, List.getElem?_append_left hi, List.getElem?_eq_getElem hi]
        · rw [List.getElem?_eq_none (by rw [List.length_range]; omega), List.getElem?_eq_none (by omega)]; rfl)
    exact q _ _ _ ⟨p, vs, L1, rfl, z1, rfl⟩ iv3⟩)
theorem do_setG (i : Nat) {n : Str} {py : Pos} {ok : V → List OA → Prop} (h : EvG X e σ s ok) (k : ∀ v s1 L', ok v L' → Iv X.K No s s1 L' → WSs X rest D (σ.set i (some v)) s1.H) (hN : X.N.Nodup) (hx : Loc X.env.scope n := by first | exact Or.inl rfl | exact Or.inr rfl) (hi : X.N[i]? = some n := by rfl)
    (hs : swapsWith e (some (.Name n py)) pos.line X.env = pure false := by rfl) (hf : X.fn n = true ∨ X.env.scope.names.lookup n = some .local := by first | exact .inl rfl | exact .inr rfl) : WSs X (.Assign [.Name n py] e pos :: rest) D σ s.H :=
  do_cons (ps_set hN hi hx pe_we hs hf) (h s (Ex.refl _) _ fun v s1 L' z iv => k v s1 L' z iv)
theorem do_setK (i : Nat) {n : Str} {py : Pos} {Φ : V → S → Prop} (h : EvK X e σ s Φ) (k : ∀ v s1, Φ v s1 → WSs X rest D (σ.set i (some v)) s1.H) (hN : X.N.Nodup) (hx : Loc X.env.scope n := by first | exact Or.inl rfl | exact Or.inr rfl) (hi : X.N[i]? = some n := by rfl)
    (hs : swapsWith e (some (.Name n py)) pos.line X.env = pure false := by rfl) (hf : X.fn n = true ∨ X.env.scope.names.lookup n = some .local := by first | exact .inl rfl | exact .inr rfl) : WSs X (.Assign [.Name n py] e pos :: rest) D σ s.H :=
  do_cons (ps_set hN hi hx pe_we hs hf) (h _ fun v s1 z => k v s1 z)
theorem do_exprK {Φ : V → S → Prop} (h : EvK X e σ s Φ) (k : ∀ v s1, Φ v s1 → WSs X rest D σ s1.H) (hs : swapsWith e none pos.line X.env = pure false := by rfl) : WSs X (.Expr e pos :: rest) D σ s.H :=
  do_cons (ps_expr pe_we hs) (h _ fun v s1 z => k v s1 z)
theorem do_retK {Φ : V → S → Prop} (h : EvK X e σ s Φ) (k : ∀ v s1, Φ v s1 → D.rt v s1.H) : WSs X (.Return (some e) pos :: rest) D σ s.H :=
  do_cons (ps_ret pe_we) (h _ fun v s1 z => k v s1 z)
theorem do_retE (k : D.rt .non s.H) : WSs X (.Return none pos :: rest) D σ s.H := do_cons ps_retN k
theorem ek_of {ok : V → List OA → Prop} (h : EvG X e σ s ok) (iv : Iv X.K P0 s0 s L) : EvK X e σ s (fun v s' => ∃ L', ok v L' ∧ Fle s.F s'.F ∧ Iv X.K P0 s0 s' (L ++ L')) := fun Q q => h s (Ex.refl _) Q fun v s1 L' z iv' => q v s1 ⟨L', z, iv'.m.f, iv.add iv'⟩
theorem do_exprG {ok : V → List OA → Prop} (h : EvG X e σ s ok) (k : ∀ v s1 L', ok v L' → Iv X.K No s s1 L' → WSs X rest D σ s1.H) (hs : swapsWith e none pos.line X.env = pure false := by rfl) : WSs X (.Expr e pos :: rest) D σ s.H :=
  do_cons (ps_expr pe_we hs) (h s (Ex.refl _) _ fun v s1 L' z iv => k v s1 L' z iv)
theorem do_unpK2 (i j : Nat) {Φ : V → S → Prop} (h : EvK X e σ s Φ) (k : ∀ v s1, Φ v s1 → ∃ p v1 v2, v = .ref p ∧ s1.H p = some (.tup [v1, v2]) ∧ WSs X rest D ((σ.set i (some v1)).set j (some v2)) s1.H)
    (hg : PG X tg (gTup X.K 2 (gCons (gName i) (gCons (gName j) gNil)))) (hs : swapsWithSole [tg] e pos.line X.env = pure false := by rfl) (hw : swappedStores [tg] e X.env = pure none := by rfl)
    (h1 : (assignEach [tg] X.env).map (·.2) = [assign tg X.env] := by rfl) : WSs X (.Assign [tg] e pos :: rest) D σ s.H :=
  do_cons (ps_asg pe_we hg hs hw h1) (h _ fun v s1 z => by
    obtain ⟨p, v1, v2, rfl, h0, kk⟩ := k v s1 z
    exact ⟨p, _, rfl, .inl (.inl h0), rfl, v1, _, rfl, v2, _, rfl, rfl, kk⟩)
theorem do_unpK3 (i j l : Nat) {Φ : V → S → Prop} (h : EvK X e σ s Φ) (k : ∀ v s1, Φ v s1 → ∃ p v1 v2 v3, v = .ref p ∧ s1.H p = some (.tup [v1, v2, v3]) ∧ WSs X rest D (((σ.set i (some v1)).set j (some v2)).set l (some v3)) s1.H)
    (hg : PG X tg (gTup X.K 3 (gCons (gName i) (gCons (gName j) (gCons (gName l) gNil))))) (hs : swapsWithSole [tg] e pos.line X.env = pure false := by rfl) (hw : swappedStores [tg] e X.env = pure none := by rfl)
    (h1 : (assignEach [tg] X.env).map (·.2) = [assign tg X.env] := by rfl) : WSs X (.Assign [tg] e pos :: rest) D σ s.H :=
  do_cons (ps_asg pe_we hg hs hw h1) (h _ fun v s1 z => by
    obtain ⟨p, v1, v2, v3, rfl, h0, kk⟩ := k v s1 z
    exact ⟨p, _, rfl, .inl (.inl h0), rfl, v1, _, rfl, v2, _, rfl, v3, _, rfl, rfl, kk⟩)
theorem do_fldG {f cn : Str} {fs : List (Str × V)} {ok : V → List OA → Prop} (iv : Iv X.K P0 s0 s L) (i : Nat) (hA : L[i]? = some (Dy.cell p cn fs)) (ho : Ev X o σ s (Rw.mk (.ref p))) (h : EvG X e σ s ok) (hc : Cls X.K (He.ga X.K cn)) (hn : NoAttr X.K (He.ga X.K cn) f) (hl : fs.length < 1000)
    (k : ∀ v s1 L', ok v L' → Fle s.F s1.F → Iv X.K P0 s0 s1 (L.set i (Dy.cell p cn (putF f v fs)) ++ L') → WSs X rest D σ s1.H)
    (hs : swapsWith e (some (.Attribute o f p1)) pos.line X.env = pure false := by rfl) : WSs X (.Assign [.Attribute o f p1] e pos :: rest) D σ s.H :=
  do_cons (ps_fld pe_we pe_we hs) (h s (Ex.refl _) _ fun v s1 L' z iv1 => ho s1 iv1.exx _ fun u s2 k2 e2 => by
    cases (show u = V.ref p from e2)
    have ivA := (iv.add iv1).ex k2
    have hA2 : (L ++ L')[i]? = some (Dy.cell p cn fs) := by rw [List.getElem?_append_left (List.getElem?_eq_some_iff.mp hA).1]; exact hA
    obtain ⟨P, ⟨dx, h0, h1, h2⟩, h3⟩ := ivA.at i hA2
    have ne : dx ≠ p := ne_of h2 h1 (by intro z; cases z)
    have hf : s2.F p = none := h3 p ((h0 p).mpr (.inl rfl))
    refine ⟨p, _, dx, fs, rfl, h1, hc, hn, hl, ?_⟩
    have iv3 : Iv X.K P0 s0 (s2.put p (.ins (He.ga X.K cn) dx (putF f v fs)) hf) ((L ++ L').set i (Dy.cell p cn (putF f v fs))) := by
      refine ivA.upd i hA2 fun P hP hPf => ⟨P, ?_, ?_, ?_⟩
      · obtain ⟨dx', g0, g1, g2⟩ := hP
        have : dx' = dx := by rw [h1] at g1; cases g1; rfl
        subst this
        exact ⟨dx', g0, upd_same, (upd_ne ne).trans g2⟩
      · exact fun a z => ⟨hPf a z, .inl z⟩
      · have m : Mx (· = p) s2 (s2.put p (.ins (He.ga X.K cn) dx (putF f v fs)) hf) := Mx.put hf
        obtain ⟨dx', g0, g1, g2⟩ := hP
        exact ⟨m.f, fun a o q n => m.h a o q fun z => n ((g0 a).mpr (.inl z)), fun a o q _ z => m.n a o q z, m.d⟩
    rw [List.set_append_left _ _ (List.getElem?_eq_some_iff.mp hA).1] at iv3
    exact k v (s2.put p (.ins (He.ga X.K cn) dx (putF f v fs)) hf) L' z (iv1.m.f.trans k2.f) iv3)
theorem do_setItemP {xs : List α} {x : α} {z : Int} {j : Nat} (ho : Ev X o σ s (Rw.mk (.ref p))) (r : Own X.K s p xs) (he : Ev X e σ s x) (hi : Ev X a σ s z) (hj : ixN xs.length z = some j)
    (k : ∀ s1, Mx (· = p) s s1 → Own X.K s1 p (xs.set j x) → WSs X rest D σ s1.H)
    (ha : ∀ v, assign (.Subscript o a p1) X.env v = (do
      let ov ← holding [v] (eval o X.env)
      let iv ← holding [v, ov] (eval a X.env)
      standAt p1
      holding [v, ov, iv] (setItem ov iv v)
      release [v, ov, iv] []) := by intro _; rfl)
    (hs : swapsWithSole [.Subscript o a p1] e pos.line X.env = pure false := by rfl) (hw : swappedStores [.Subscript o a p1] e X.env = pure none := by rfl)
    (h1 : (assignEach [.Subscript o a p1] X.env).map (·.2) = [assign (.Subscript o a p1) X.env] := by rfl) :
    WSs X (.Assign [.Subscript o a p1] e pos :: rest) D σ s.H :=
  do_cons (ps_asg pe_we (pg_sub pe_we pe_we set_list ha) hs hw h1) (he s (Ex.refl _) _ fun v s1 k1 r1 => ho s1 k1 _ fun w s2 k2 e2 => by
    cases (show w = V.ref p from e2)
    have k12 := k1.trans k2
    exact hi s2 k12 _ fun u s3 k3 r3 => by
      obtain ⟨f0, vs, h2, h3⟩ := r.ex (k12.trans k3)
      refine ⟨p, vs, z, j, rfl, r3, h2, by rw [h3.len]; exact hj, ?_⟩
      exact k (s3.put p (.lst (vs.set j v)) f0) ((k12.trans k3).mx.trans (Mx.put f0)) ⟨f0, _, upd_same, h3.set j (Enc.mono (k2.trans k3).f r1)⟩)
theorem do_appendP {xs : List α} {x : α} (ho : Ev X o σ s (Rw.mk (.ref p))) (r : Own X.K s p xs) (he : Ev X e σ s x) (hz : xs.length < sizeLine)
    (k : ∀ s1, Mx (· = p) s s1 → Own X.K s1 p (xs ++ [x]) → WSs X rest D σ s1.H)
    (hbase : attributeBase o "append" X.env (eval o X.env) = eval o X.env := by rfl)
    (hfew : ((backTo p2 (starEach [e] X.env)).all (fun x => !x.1) && (backToKw p2 (keywordEach [] X.env)).all (fun x => x.1.isSome) && decide (([e] : List Expr).length + ([] : List Keyword).length + (if ([] : List Keyword).isEmpty then 0 else 1) < 30)) = true := by rfl)
    (hline : (p1.endLine == p2.line) = true := by rfl) (hs : starEach [e] X.env = (false, eval e X.env) :: starEach [] X.env := by rfl) (hplain : (backTo p2 (starEach [] X.env)).any (·.1) = false := by rfl)
    (hsw : swapsWith (.Call (.Attribute o "append" p1) [e] [] p2) none p3.line X.env = pure false := by rfl) :
    WSs X (.Expr (.Call (.Attribute o "append" p1) [e] [] p2) p3 :: rest) D σ s.H :=
  do_cons (ps_expr (pe_bm PySem.F.plainAttrs_list PySem.F.slot_list_append PySem.F.type_list_append mt_append pe_we (pa_cons pe_we pa_nil hs) hbase hfew hline hs hplain) hsw) (ho s (Ex.refl _) _ fun w s1 k1 e1 => by
    cases (show w = V.ref p from e1)
    obtain ⟨f1, vs, h2, h3⟩ := r.ex k1
    refine ⟨.inl ⟨rfl, vs, .inl (.inl h2)⟩, he s1 k1 _ fun v s2 k2 r2 => ?_⟩
    obtain ⟨f2, ws, g2, g3⟩ := r.ex (k1.trans k2)
    exact ⟨p, ws, v, rfl, rfl, g2, by rw [g3.len]; exact hz, k (s2.put p (.lst (ws ++ [v])) f2) ((k1.trans k2).mx.trans (Mx.put f2)) ⟨f2, _, upd_same, g3.snoc r2⟩⟩)
theorem raw_tup {vs : List V} {v : V} {z : Int} (h : Ev X e σ s (Rw.mk (.ref p))) (r : s.H p = some (.tup vs)) (hb : Ev X b σ s z) (hv : atI vs z = some v) (hp : PlainIx b := by intro _ _; rfl) : Ev X (.Subscript e b pos) σ s (Rw.mk v) := fun s1 k Q q =>
  we_of (pe_ix ix_tup pe_we pe_we hp) (h s1 k _ fun u s2 k2 e2 => hb s2 (k.trans k2) _ fun w s3 k3 e3 => by
    cases (show u = V.ref p from e2)
    exact ⟨p, vs, z, v, rfl, e3, .inl (.inl (((k.trans k2).trans k3).h _ _ r)), hv, q v s3 (k2.trans k3) rfl⟩)
theorem ev_lenTc {vs : List V} {z : Int} (hm : X.mg "len" = none) (ha : Ev X e σ s (Rw.mk (.ref p))) (r : s.H p = some (.tup vs)) (hz : (vs.length : Int) = z) (hg : Gl X "len" := by rfl) (he : starEach [e] X.env = (false, eval e X.env) :: starEach [] X.env := by rfl) (hpl : (backTo pos (starEach [] X.env)).any (·.1) = false := by rfl) : Ev X (.Call (.Name "len" p0) [e] [] pos) σ s z := fun s1 k Q q =>
  we_of (pe_callB call_len_seq hg hm boot_len (pa_cons pe_we pa_nil he) (he := he) (hpl := hpl)) (ha s1 k _ fun u s2 k2 e2 => by
    cases (show u = V.ref p from e2)
    subst hz
    exact ⟨p, vs, rfl, .inr (.inl (.inl ((k.trans k2).h _ _ r))), q _ s2 k2 rfl⟩)
theorem own_some {xs : List α} (h : Own K s p xs) : Own K s p (xs.map some) := by
  obtain ⟨h0, vs, h1, h2⟩ := h
  refine ⟨h0, vs, h1, ?_⟩
  have : ∀ {vs : List V} {xs : List α}, Reps K s.F vs xs → Reps K s.F vs (xs.map some) := by
    intro vs
    induction vs with
    | nil => intro xs h; cases xs with | nil => trivial | cons _ _ => exact h.elim
    | cons v vs ih => intro xs h; cases xs with
      | nil => exact h.elim
      | cons x xs => exact ⟨h.1, ih h.2⟩
  exact this h2
theorem en_some {xs : List α} (h : EvN X e σ s xs) : EvN X e σ s (xs.map some) := fun s1 k Q q => h s1 k Q fun p s2 k2 n2 o2 => q p s2 k2 n2 (own_some o2)
def memF {ε : Type} [DecidableEq ε] (x : ε) (xs : List ε) : Bool := decide (x ∈ xs)
theorem memF_iff {ε : Type} [DecidableEq ε] {x : ε} {xs : List ε} : memF x xs = true ↔ x ∈ xs := decide_eq_true_iff
theorem eb_inF {ε : Type} [Flat ε] [DecidableEq ε] {x : ε} {xs : List ε} (ha : Ev X a σ s x) (hb : EvR X b σ s xs) (hm : behindInMarks .In b = false := by rfl) : EvB X (.Compare a [.In] [b] pos) σ s (memF x xs) :=
  eb_cmpR op_in_seq ha hb (fun v u s2 hv hu Q q => by
    obtain ⟨p, vs, rfl, h1, h2⟩ := hu
    rw [Flat.iff.mp hv]
    obtain rfl := h2.flat
    refine ⟨p, _, rfl, .inl h1, Flat.flat x, flat_all xs, ?_⟩
    rw [inV_flat]; exact q) hm
theorem eb_notInF {ε : Type} [Flat ε] [DecidableEq ε] {x : ε} {xs : List ε} (ha : Ev X a σ s x) (hb : EvR X b σ s xs) (hm : behindInMarks .NotIn b = false := by rfl) : EvB X (.Compare a [.NotIn] [b] pos) σ s (!memF x xs) :=
  eb_cmpR op_notIn_seq ha hb (fun v u s2 hv hu Q q => by
    obtain ⟨p, vs, rfl, h1, h2⟩ := hu
    rw [Flat.iff.mp hv]
    obtain rfl := h2.flat
    refine ⟨p, _, rfl, .inl h1, Flat.flat x, flat_all xs, ?_⟩
    rw [inV_flat]; exact q) hm
def S.all (s : S) : S := ⟨s.H, s.H, fun _ _ h => h⟩
def EvV {A : Type} [EncA A] (X : Cx) (es : List Expr) (σ : L2.St) (s : S) (a : A) : Prop := ∀ s1, Ex s s1 → ∀ Q : List V → Hp → Prop, (∀ vs s2, Ex s1 s2 → repA X.K s2.H vs a → Q vs s2.H) → WA X es σ s1.H Q
theorem evv_nil : EvV X [] σ s () := fun s1 k Q q => wa_of pa_nil (q [] s1 (Ex.refl _) rfl)
theorem repA_H {A : Type} [EncA A] {vs : List V} {a : A} (e : Ex s t) (h : repA K s.H vs a) : repA K t.H vs a := EncA.monoA e.h h
theorem evv_cons {A : Type} [EncA A] {x : α} {r : A} (h : Ev X e σ s x) (hr : EvV X es σ s r) (hs : starEach (e :: es) X.env = (false, eval e X.env) :: starEach es X.env := by exact star_cons rfl) : EvV X (e :: es) σ s (x, r) := fun s1 k Q q =>
  wa_of (pa_cons pe_we pa_wa hs) (h s1 k _ fun v s2 k2 r2 => hr s2 (k.trans k2) _ fun vs s3 k3 r3 => q _ s3 (k2.trans k3) ⟨v, vs, rfl, Enc.mono (Fle.trans k3.f s3.sub) r2, r3⟩)
theorem evv_consR {A : Type} [EncA A] {xs : List α} {r : A} (h : EvR X e σ s xs) (hr : EvV X es σ s r) (hs : starEach (e :: es) X.env = (false, eval e X.env) :: starEach es X.env := by exact star_cons rfl) : EvV X (e :: es) σ s (xs, r) := fun s1 k Q q =>
  wa_of (pa_cons pe_we pa_wa hs) (h s1 k _ fun v s2 k2 r2 => hr s2 (k.trans k2) _ fun vs s3 k3 r3 => q _ s3 (k2.trans k3) ⟨v, vs, rfl, by
    obtain ⟨p, vs, e1, h1, h2⟩ := r2.ex k3
    exact ⟨p, vs, e1, h1, h2.mono s3.sub⟩, r3⟩)
def S.backH (s t : S) (h : ∀ a o, s.H a = some o → t.H a = some o) : S := ⟨s.F, t.H, fun a o q => h a o (s.sub a o q)⟩
theorem backH_ex (e : Ex s.all t) : Ex s (s.backH t e.h) := ⟨fun _ _ h => h, e.h, fun _ _ _ h => h⟩
theorem ev_callT {A ε : Type} [EncA A] [Flat ε] {m : A → Option ε} {n : Str} {k j : Nat} {x : A} {r : ε} (C : Cal X.prog X.w X.K X.mg X.base CX0 k n (sp X.K m)) (hr : Room j X.A) (hk : k ≤ j) (ha : EvV X (e :: es) σ s x) (h : m x = some r) (hg : Gl X n := by rfl)
    (hdb : (n == ("__debug__" : Str)) = false := by decide) (he : starEach (e :: es) X.env = (false, eval e X.env) :: starEach es X.env := by rfl) (hpl : (backTo pos (starEach es X.env)).any (·.1) = false := by rfl) : Ev X (.Call (.Name n p0) (e :: es) [] pos) σ s r := fun s1 k1 Q q =>
  we_of (pe_c0 C hr hk hg pa_wa hdb he hpl) (ha s1 k1 _ fun vs s2 k2 r2 => ⟨s2.all, x, r, rfl, by rw [List.append_nil]; exact r2, h, fun v s3 k3 r3 => q v (s2.backH s3 k3.h) (k2.trans (backH_ex k3)) (Flat.iff.mpr (Flat.iff.mp r3))⟩)
theorem en_callT {A ε : Type} [EncA A] [Flat ε] {m : A → Option (List ε)} {n : Str} {k j : Nat} {x : A} {r : List ε} (C : Cal X.prog X.w X.K X.mg X.base CX0 k n (spN X.K m)) (hr : Room j X.A) (hk : k ≤ j) (ha : EvV X (e :: es) σ s x) (h : m x = some r) (hg : Gl X n := by rfl)
    (hdb : (n == ("__debug__" : Str)) = false := by decide) (he : starEach (e :: es) X.env = (false, eval e X.env) :: starEach es X.env := by rfl) (hpl : (backTo pos (starEach es X.env)).any (·.1) = false := by rfl) : EvN X (.Call (.Name n p0) (e :: es) [] pos) σ s r := fun s1 k1 Q q =>
  we_of (pe_c0 C hr hk hg pa_wa hdb he hpl) (ha s1 k1 _ fun vs s2 k2 r2 => ⟨s2.all, x, r, rfl, by rw [List.append_nil]; exact r2, h, fun p s3 k3 n3 ⟨_, vs, o1, o2⟩ => q p (s2.backH s3 k3.h) (k2.trans (backH_ex k3)) (fr_back k2 n3) ⟨(fF (s := s2) n3 : s2.F p = none), vs, o1, by rw [o2.flat]; exact Reps.of_flat _⟩⟩)
theorem do_frzD {ss : List Stmt} {xs : List (κ × α)} (iv : Iv X.K P0 s0 s L) (i : Nat) (hA : L[i]? = some (Dy.od p xs)) (k : ∀ s', Fle s.F s'.F → Iv X.K P0 s0 s' (L.set i (fz (.ref p) (Dc.mk xs))) → WSs X ss D σ s'.H) : WSs X ss D σ s.H := Hold.mk fun pins sh I => by
  obtain ⟨hf, kv, h1, h2⟩ := iv.od i hA
  obtain ⟨ob, I2⟩ := I.lock h1 trivial
  have iv1 := iv.lock i ob hA hf h1 h2
  have f : Fle s.F (upd s.F p (.frz ob (.dK kv))) := fun a o q => by rw [upd_ne (ne_of_none q hf)]; exact q
  let s' : S := ⟨upd s.F p (.frz ob (.dK kv)), upd s.H p (.frz ob (.dK kv)), fun a o q => by
    unfold upd at q ⊢
    split
    · rename_i e; rw [if_pos e] at q; exact q
    · rename_i e; rw [if_neg e] at q; exact s.sub a o q⟩
  refine Hold.run (k s' f ?_) pins sh I2
  obtain ⟨φ, g1, g2, g3⟩ := iv.o
  have hi : i < L.length := (List.getElem?_eq_some_iff.mp hA).1
  have hp : φ i p := ((g1 i _ hA).1 p).mpr rfl
  have hx : P0 p ∨ s0.H p = none := (g3 i p hp).2.1
  refine ⟨⟨iv.m.f.trans f, fun a o q n => ?_, fun a o q np n => ?_, fun a o q => ?_⟩, fun j a => if j = i then False else φ j a, fun j B hB => ?_, fun j k a q r => ?_, fun j a q => ?_⟩
  · have ne : a ≠ p := fun z => by
      subst z
      rcases hx with w | w
      · exact n w
      · rw [w] at q; cases q
    exact (upd_ne ne).trans (iv.m.h a o q n)
  · have ne : a ≠ p := fun z => by
      subst z
      rcases hx with w | w
      · exact np w
      · rw [w] at q; cases q
    exact (upd_ne ne).trans (iv.m.n a o q np n)
  · by_cases e : a = p
    · exact ⟨_, by rw [e]; exact upd_same⟩
    · obtain ⟨u, hu⟩ := iv.m.d a o q
      exact ⟨u, (upd_ne e).trans hu⟩
  · by_cases e : j = i
    · subst e
      rw [List.getElem?_set_self hi] at hB
      cases hB
      exact ⟨⟨p, ob, kv, rfl, upd_same, h2.mono f⟩, fun a => by simp⟩
    · rw [List.getElem?_set_ne (Ne.symm e)] at hB
      simp only [e, if_false]
      exact B.mono f (B.loc (fun a q => upd_ne fun z => e (g2 _ _ _ q (z ▸ hp))) (g1 j B hB))
  · by_cases e : j = i
    · simp only [e, if_true] at q
    · by_cases e2 : k = i
      · simp only [e2, if_true] at r
      · simp only [e, if_false] at q
        simp only [e2, if_false] at r
        exact g2 _ _ _ q r
  · by_cases e : j = i
    · simp only [e, if_true] at q
    · simp only [e, if_false] at q
      obtain ⟨z1, z2, z3⟩ := g3 j a q
      have ne : a ≠ p := fun z => e (g2 _ _ _ q (z ▸ hp))
      exact ⟨(upd_ne ne).trans z1, z2, by rw [List.length_set]; exact z3⟩
theorem ei_itemsF {elts : List Expr} {kk : Nat} {tpos : Pos} {x : Dc κ α} (h : Ev X e σ s x) (hbase : attributeBase e "items" X.env (eval e X.env) = eval e X.env := by rfl) (hline : (p1.endLine == pos.line) = true := by rfl) : EvI X (.Tuple elts kk tpos) (.Call (.Attribute e "items" p1) [] [] pos) σ s x.l := fun s1 k R q =>
  wi_of (pi_items pe_we hbase hline) (h s1 k _ fun v s2 k2 r2 => by
    obtain ⟨p, ob, kv, rfl, h1, h2⟩ := r2
    exact ⟨p, ob, kv, rfl, s2.sub _ _ h1, q _ s2 k2 ⟨fun i t z f hz => by
      obtain ⟨w, h3, h4⟩ := h2.get hz
      refine ⟨⟨t.sub _ _ (f _ _ h1), (List.getElem?_eq_some_iff.mp h3).1⟩, fun y H' ⟨T, k', v', h5, h6, h7, h8⟩ => ⟨t.newF T (.tup [kV k', v']) h7, h8.symm, Ex.newF h7, ?_⟩⟩
      rw [h3] at h5
      cases h5
      rw [h6]
      exact ⟨T, _, _, rfl, tup_new h7, Flat.iff.mpr (DKey.kv _), Enc.mono (Ex.newF h7).f (Enc.mono f h4)⟩, fun i t f hi => ⟨t.sub _ _ (f _ _ h1), by rw [h2.len]; exact hi⟩⟩⟩)
end
section
variable {α β κ ε : Type} [Enc α] [Enc β] [DKey κ] [DecidableEq κ] {X : Cx} {σ : L2.St} {P0 : Addr → Prop} {s0 s : S} {L R : List OA} {e a b : Expr} {pos p0 p1 : Pos} {p : Addr} {K : PySem.W.Frag}
theorem en_lockI {ys : List β} {xs : List (κ × α)} (iv : Iv X.K P0 s0 s L) (i : Nat) (hA : L[i]? = some (Dy.od p xs)) (h : ∀ (ob : Obj) (kv : List (Key × V)) (s1 : S), Iv X.K P0 s0 s1 (L.set i (Dy.odl p ob kv xs)) → EvN X e σ s1 ys) : EvN X e σ s ys := fun s1 k Q q => by
  obtain ⟨hf, kv, h1, h2⟩ := iv.od i hA
  refine we_of (pe_lock pe_we) ⟨p, .dK kv, k.h _ _ h1, trivial, fun ob => ?_⟩
  obtain ⟨hf1, kx⟩ := lk_ex (ob := ob) hf h1 k
  refine h ob kv (s.put p (.frz ob (.dK kv)) hf) (iv.lock i ob hA hf h1 h2) _ kx _ fun p2 s2 k2 n2 o2 => ?_
  obtain ⟨hf2, g1, k3⟩ := lk_back hf1 (k.h _ _ h1) k2
  refine ⟨g1, ?_⟩
  have ne : p2 ≠ p := fun z => by
    have : upd s1.H p (.frz ob (.dK kv)) p2 = none := n2
    rw [z, upd_same] at this; cases this
  have n2' : s1.H p2 = none := by
    have : upd s1.H p (.frz ob (.dK kv)) p2 = none := n2
    rw [upd_ne ne] at this; exact this
  obtain ⟨o1, vs, o3, o4⟩ := o2
  exact q p2 (s2.put p (.dK kv) hf2) k3 n2' ⟨o1, vs, (upd_ne ne).trans o3, o4⟩
theorem Iv.gd (h : Iv K P0 s0 s L) (i : Nat) {o : Obj} {kv : List (Key × V)} {xs : List (κ × α)} (e : L[i]? = some (Dy.odl p o kv xs) := by rfl) : GD K p o kv xs s := (h.odl i e).2
theorem ro0 : Ro K P0 s [] := ⟨fun i A e => by cases e⟩
def AllF (K : PySem.W.Frag) (s : S) (L : List OA) : Prop := ∀ A ∈ L, A.p K s.F s.H No
theorem all_nil : AllF K s [] := fun A h => by cases h
theorem all_cons {v : V} {x : α} (r : rep K s.F v x) (h : AllF K s L) : AllF K s (fz v x :: L) := fun A hA => by
  rcases List.mem_cons.mp hA with rfl | hA
  · exact ⟨r, fun _ z => z⟩
  · exact h A hA
theorem AllF.ex {t : S} (h : AllF K s L) (e : Ex s t) : AllF K t L := fun A hA => OA.stay (P0 := No) (h A hA) e.z fun _ _ z => z
class EqO (ε : Type) extends Flat ε where
  sc : ∀ x y : ε, scal (toV x) (toV y) = true
  ij : ∀ x y : ε, toV x = toV y ↔ x = y
instance : EqO (Option Int) := { sc := fun x y => by cases x <;> cases y <;> rfl, ij := fun x y => by cases x <;> cases y <;> simp [Flat.toV] }
instance : EqO (Option Str) := { sc := fun x y => by cases x <;> cases y <;> rfl, ij := fun x y => by cases x <;> cases y <;> simp [Flat.toV] }
theorem eb_eqF {ε : Type} [EqO ε] [DecidableEq ε] {x y : ε} (ha : Ev X a σ s x) (hb : Ev X b σ s y) : EvB X (.Compare a [.Eq] [b] pos) σ s (decide (x = y)) :=
  eb_cmp op_eq ha hb (fun v u s2 hv hu Q q => by
    rw [Flat.iff.mp hv, Flat.iff.mp hu]
    refine ⟨EqO.sc x y, ?_⟩
    rw [show decide (toV x = toV y) = decide (x = y) from decide_eq_decide.mpr (EqO.ij x y)]
    exact q) (nomark _)
theorem eb_neF {ε : Type} [EqO ε] [DecidableEq ε] {x y : ε} (ha : Ev X a σ s x) (hb : Ev X b σ s y) : EvB X (.Compare a [.NotEq] [b] pos) σ s (!decide (x = y)) :=
  eb_cmp op_ne ha hb (fun v u s2 hv hu Q q => by
    rw [Flat.iff.mp hv, Flat.iff.mp hu]
    refine ⟨EqO.sc x y, ?_⟩
    rw [show decide (toV x = toV y) = decide (x = y) from decide_eq_decide.mpr (EqO.ij x y)]
    exact q) (nomark _)
theorem eb_ch_lt_lt {x y z : Int} {c : Expr} (ha : Ev X a σ s x) (hb : Ev X b σ s y) (hc : Ev X c σ s z) (hm : lastMarks [.Lt, .Lt] [b, c] = false := by with_unfolding_all rfl) : EvB X (.Compare a [.Lt, .Lt] [b, c] pos) σ s (decide (x < y) && decide (y < z)) := eb_chain op_lt rfl op_lt rfl ha hb hc hm
theorem eb_ch_lt_le {x y z : Int} {c : Expr} (ha : Ev X a σ s x) (hb : Ev X b σ s y) (hc : Ev X c σ s z) (hm : lastMarks [.Lt, .LtE] [b, c] = false := by with_unfolding_all rfl) : EvB X (.Compare a [.Lt, .LtE] [b, c] pos) σ s (decide (x < y) && decide (y ≤ z)) := eb_chain op_lt rfl op_le rfl ha hb hc hm
theorem eb_ch_le_lt {x y z : Int} {c : Expr} (ha : Ev X a σ s x) (hb : Ev X b σ s y) (hc : Ev X c σ s z) (hm : lastMarks [.LtE, .Lt] [b, c] = false := by with_unfolding_all rfl) : EvB X (.Compare a [.LtE, .Lt] [b, c] pos) σ s (decide (x ≤ y) && decide (y < z)) := eb_chain op_le rfl op_lt rfl ha hb hc hm
theorem eb_ch_le_le {x y z : Int} {c : Expr} (ha : Ev X a σ s x) (hb : Ev X b σ s y) (hc : Ev X c σ s z) (hm : lastMarks [.LtE, .LtE] [b, c] = false := by with_unfolding_all rfl) : EvB X (.Compare a [.LtE, .LtE] [b, c] pos) σ s (decide (x ≤ y) && decide (y ≤ z)) := eb_chain op_le rfl op_le rfl ha hb hc hm
theorem ev_isiTc {n : Str} {T : String} {r : Bool} {vs : List V} (hm : X.mg "isinstance" = none) (hn : X.mg n = none) (hv : bootBuiltins n = some (.type T)) (ha : Ev X a σ s (Rw.mk (.ref p))) (hc : s.H p = some (.tup vs)) (h : kitB "tuple" T = some r)
    (hg : Gl X "isinstance" := by rfl) (hgn : Gl X n := by rfl) (he : starEach [a, .Name n p1] X.env = (false, eval a X.env) :: starEach [.Name n p1] X.env := by rfl) (he2 : starEach [.Name n p1] X.env = (false, eval (.Name n p1) X.env) :: starEach [] X.env := by rfl) (hpl : (backTo pos (starEach [.Name n p1] X.env)).any (·.1) = false := by rfl)
    (hnn : n ≠ "__name__" := by decide) (hnd : (n == ("__debug__" : Str)) = false := by decide) :
    Ev X (.Call (.Name "isinstance" p0) [a, .Name n p1] [] pos) σ s r := fun s1 k Q q =>
  we_of (pe_callB call_isi hg hm (by decide +kernel) (pa_cons pe_we (pa_cons (pe_bltn (v := .ty T) hgn hn hv rfl hnn hnd) pa_nil he2) he) (he := he) (hpl := hpl)) (ha s1 k _ fun v s2 k2 r2 => by
    cases (show v = V.ref p from r2)
    exact ⟨.ref p, .ty T, .type "tuple", .type T, r, rfl, .ty T, sqt_ty (K := X.K) (.inl (.inl ((k.trans k2).h _ _ hc))), kit_ty h, q _ s2 k2 rfl⟩)
end
def clsB (K : PySem.W.Frag) (c : Str) (fs ms : List Str) : Bool := PySem.W.plainGet K (He.ga K c) Str.empty && (PySem.W.hasDictIn K (He.ga K c) && (PySem.W.plainOver K (He.ga K c) && (He.eqO (PySem.W.findIn K (.ref (He.ga K c)) "__setattr__") (some (some (.builtin "object.__setattr__"))) &&
  (PySem.W.makesIn K (He.ga K c) && (PySem.W.keepIn K (.ref (He.ga K c)) && ((fs.all fun f => He.eqO (PySem.W.findIn K (.ref (He.ga K c)) f) (some none)) && (ms.all fun m => He.eqO (PySem.W.findIn K (.ref (He.ga K c)) m) (some (some (.ref (He.fAd K (c, some m))))) && (PySem.W.isFn K (.ref (He.fAd K (c, some m))) && PySem.W.keepIn K (.ref (He.fAd K (c, some m)))))))))))
structure ClsF (K : PySem.W.Frag) (c : Str) (fs ms : List Str) : Prop where
  cl : Cls K (He.ga K c)
  ma : PySem.W.makesIn K (He.ga K c) = true
  kp : PySem.W.keepIn K (.ref (He.ga K c)) = true
  na : ∀ f ∈ fs, NoAttr K (He.ga K c) f
  me : ∀ m ∈ ms, Meth K (He.ga K c) m (He.fAd K (c, some m))
theorem clsB_ok {K : PySem.W.Frag} {c : Str} {fs ms : List Str} (h : clsB K c fs ms = true) : ClsF K c fs ms := by
  unfold clsB at h
  obtain ⟨h1, h⟩ := He.ba h
  obtain ⟨h2, h⟩ := He.ba h
  obtain ⟨h3, h⟩ := He.ba h
  obtain ⟨h4, h⟩ := He.ba h
  obtain ⟨h5, h⟩ := He.ba h
  obtain ⟨h6, h⟩ := He.ba h
  obtain ⟨h7, h8⟩ := He.ba h
  refine ⟨⟨h1, h2, h3, He.eqO_ok h4⟩, h5, h6, fun f hf => He.eqO_ok (List.all_eq_true.mp h7 f hf), fun m hm => ?_⟩
  obtain ⟨g1, g⟩ := He.ba (List.all_eq_true.mp h8 m hm)
  obtain ⟨g2, g3⟩ := He.ba g
  exact ⟨He.eqO_ok g1, g2, g3⟩
theorem ClsF.mkOf {K : PySem.W.Frag} {c : Str} {fs ms : List Str} (h : ClsF K c fs ms) (hi : ("__init__" : Str) ∈ ms) : Mk K (He.ga K c) (He.fAd K (c, some "__init__")) := ⟨h.ma, (h.me _ hi).at_, (h.me _ hi).fn, h.kp⟩
end Dy

namespace Dy
open PySem PySem.Spec L2
open PyProof.Rows hiding St
open Enc (rep)
open Flat (toV)
open EncA (repA)
section
variable {X : Cx} {α β γ δ ε κ : Type} [Enc α] [Enc β] [Enc γ] [Enc δ] [Enc ε] [DKey κ] {K : PySem.W.Frag} {σ : L2.St} {s t : S} {a b e o : Expr} {es rest : List Expr} {p : Addr} {v : V} {pos p0 p1 p2 p3 : Pos}
theorem repH_v {x : α} (h : rep K s.F v x) (e : Ex s t) : rep K t.H v x := Enc.mono (Fle.trans e.f t.sub) h
theorem repH_r {xs : List α} (h : RepR K s v xs) (e : Ex s t) : rep K t.H v xs := by
  obtain ⟨p, vs, e1, h1, h2⟩ := h.ex e
  exact ⟨p, vs, e1, h1, h2.mono t.sub⟩
theorem repH_l {xs : List α} (h : Own K s p xs) (e : Ex s t) : rep K t.H (.ref p) xs := repH_r h.r e
theorem repH_t2 {v1 v2 : V} {x : α} {y : β} (h : s.H p = some (.tup [v1, v2])) (e : Ex s t) (h1 : rep K t.H v1 x) (h2 : rep K t.H v2 y) : rep K t.H (.ref p) (x, y) := ⟨p, v1, v2, rfl, .inl (.inl (e.h _ _ h)), h1, h2⟩
theorem repH_t3 {v1 v2 v3 : V} {x : α} {y : β} {z : γ} (h : s.H p = some (.tup [v1, v2, v3])) (e : Ex s t) (h1 : rep K t.H v1 x) (h2 : rep K t.H v2 y) (h3 : rep K t.H v3 z) : rep K t.H (.ref p) (⟨x, y, z⟩ : T3 α β γ) := ⟨p, v1, v2, v3, rfl, .inl (.inl (e.h _ _ h)), h1, h2, h3⟩
theorem repH_t4 {v1 v2 v3 v4 : V} {x : α} {y : β} {z : γ} {w : δ} (h : s.H p = some (.tup [v1, v2, v3, v4])) (e : Ex s t) (h1 : rep K t.H v1 x) (h2 : rep K t.H v2 y) (h3 : rep K t.H v3 z) (h4 : rep K t.H v4 w) : rep K t.H (.ref p) (⟨x, y, z, w⟩ : T4 α β γ δ) := ⟨p, v1, v2, v3, v4, rfl, .inl (.inl (e.h _ _ h)), h1, h2, h3, h4⟩
theorem repH_t5 {v1 v2 v3 v4 v5 : V} {x : α} {y : β} {z : γ} {w : δ} {u : ε} (h : s.H p = some (.tup [v1, v2, v3, v4, v5])) (e : Ex s t) (h1 : rep K t.H v1 x) (h2 : rep K t.H v2 y) (h3 : rep K t.H v3 z) (h4 : rep K t.H v4 w) (h5 : rep K t.H v5 u) : rep K t.H (.ref p) (⟨x, y, z, w, u⟩ : T5 α β γ δ ε) := ⟨p, v1, v2, v3, v4, v5, rfl, .inl (.inl (e.h _ _ h)), h1, h2, h3, h4, h5⟩
theorem evv_consP {A : Type} [EncA A] {x : α} {r : A} (h : Ev X e σ s (Rw.mk v)) (hx : ∀ t, Ex s t → rep X.K t.H v x) (hr : EvV X es σ s r) (hs : starEach (e :: es) X.env = (false, eval e X.env) :: starEach es X.env := by exact star_cons rfl) : EvV X (e :: es) σ s (x, r) := fun s1 k Q q =>
  wa_of (pa_cons pe_we pa_wa hs) (h s1 k _ fun w s2 k2 e2 => by
    cases (show w = v from e2)
    exact hr s2 (k.trans k2) _ fun vs s3 k3 r3 => q _ s3 (k2.trans k3) ⟨v, vs, rfl, hx s3 ((k.trans k2).trans k3), r3⟩)
theorem evv_consG {A : Type} [EncA A] {x : α} {r : A} {ok : V → List OA → Prop} (h : EvG X e σ s ok) (hx : ∀ v s1 s2 L', ok v L' → Iv X.K No s1 s2 L' → rep X.K s2.H v x) (hr : EvV X es σ s r) (hs : starEach (e :: es) X.env = (false, eval e X.env) :: starEach es X.env := by exact star_cons rfl) : EvV X (e :: es) σ s (x, r) := fun s1 k Q q =>
  wa_of (pa_cons pe_we pa_wa hs) (h s1 k _ fun w s2 L' z iv => hr s2 (k.trans iv.exx) _ fun vs s3 k3 r3 => q _ s3 (iv.exx.trans k3) ⟨w, vs, rfl, Enc.mono k3.h (hx w s1 s2 L' z iv), r3⟩)
end
section
variable {X : Cx} {D : Ends} {α : Type} [Enc α] {σ : L2.St} {s : S} {o : Expr} {rest : List Stmt} {p : Addr} {p1 p2 p3 : Pos}
theorem do_clearP {xs : List α} (ho : Ev X o σ s (Rw.mk (.ref p))) (r : Own X.K s p xs)
    (k : ∀ s1, Mx (· = p) s s1 → Own X.K s1 p ([] : List α) → WSs X rest D σ s1.H)
    (hbase : attributeBase o "clear" X.env (eval o X.env) = eval o X.env := by rfl) (hline : (p1.endLine == p2.line) = true := by rfl)
    (hsw : swapsWith (.Call (.Attribute o "clear" p1) [] [] p2) none p3.line X.env = pure false := by rfl) :
    WSs X (.Expr (.Call (.Attribute o "clear" p1) [] [] p2) p3 :: rest) D σ s.H :=
  do_cons (ps_expr (pe_bm0 PySem.F.plainAttrs_list PySem.F.slot_list_clear PySem.F.type_list_clear mt_clear pe_we hbase hline) hsw) (ho s (Ex.refl _) _ fun w s1 k1 e1 => by
    cases (show w = V.ref p from e1)
    obtain ⟨f1, vs, h2, h3⟩ := r.ex k1
    exact ⟨.inl ⟨rfl, vs, .inl (.inl h2)⟩, p, vs, rfl, rfl, h2, k (s1.put p (.lst []) f1) (k1.mx.trans (Mx.put f1)) ⟨f1, _, upd_same, trivial⟩⟩)
end
end Dy

set_option maxHeartbeats 1000000
namespace RT
open PySem PySem.Spec PyProof.Rows PySem.W
section
variable {prog : Program} {w : World} {A : Around} {E : Value → Shared → Prop} {s : Shared}
theorem call_list_rev {it l : Addr} {items : Array Value} {Q : Value → Shared → Prop} (hh : A.handled = none) (hit : s.heap.IsRevIter it l ((items.size : Int) - 1)) (hl : s.heap.IsList l items) (hne : l ≠ it) (hn : items.size ≤ sizeLine)
    (hQ : ∀ (h' : Heap) (tk : Nat) (acc : Array Value) (c' : Nat), (∀ b o, b ≠ it → s.heap.get? b = some o → h'.get? b = some o) → h'.get? s.heap.objs.size = some { cls := .type "list", dict := none, data := .seq acc c', slots := #[] } → ItemsOf (fun i v => items[items.size - 1 - i]? = some v) acc items.size →
      Q (.ref s.heap.objs.size) { s with heap := h', toks := tk }) :
    wpAny (model prog w) A (call (.type "list") [.ref it]) Q E s := by
  refine callType_codes (Q₁ := fun obj s₁ => obj = .ref s.heap.objs.size ∧ s₁ = { s with heap := s.heap.push { cls := .type "list", data := .seq #[] } }) PySem.F.called_list (PySem.F.typeCall_list_1 _) PySem.F.entry_list_init
    (code_list_new _ ⟨rfl, rfl⟩) fun obj s₁ h₁ => ?_
  obtain ⟨rfl, rfl⟩ := h₁
  have hS : (s.heap.push { cls := .type "list", data := .seq #[] }).get? s.heap.objs.size = some { cls := .type "list", data := .seq #[] } := Heap.get?_push_size _ rfl
  obtain ⟨oi, hoi, _⟩ := id hit
  obtain ⟨ol, hol, _⟩ := id hl
  have hSi : s.heap.objs.size ≠ it := Nat.ne_of_gt (Heap.lt_size hoi)
  have hSl : s.heap.objs.size ≠ l := Nat.ne_of_gt (Heap.lt_size hol)
  have hSf : s.heap.objs.size ∉ [it, l] := by simp only [List.mem_cons, List.not_mem_nil, or_false, not_or]; exact ⟨hSi, hSl⟩
  have W := (Walks.listRev (prog := prog) (w := w) (A := A.in1.in1) hh it l hne items).toS
  refine ⟨⟨_, hS, rfl⟩, PySem.F.args_list_init_2 _ _, ?_⟩
  generalize hS0 : s.heap.objs.size = S at *
  have oth0 : ∀ b o, s.heap.get? b = some o → (s.heap.push { cls := .type "list", data := .seq #[] }).get? b = some o := fun b o e => Heap.get?_push_of_some _ e
  show wpAny _ _ (do let old ← Builtin.List.listItems (.ref S); Builtin.List.listUpdate (.ref S) (fun _ => #[]); letGo old.toList.reverse; Builtin.List.listExtendWith (.ref S) (.ref it) .none) _ _ _
  refine wpAny_bind ?_
  unfold Builtin.List.listItems
  refine wpAny_bind (wpAny_seqItems hS rfl (wpAny_pure ?_))
  show wpAny _ _ (updateSeq S (fun _ => #[]) >>= fun _ => letGo (#[] : Array Value).toList.reverse >>= fun _ => Builtin.List.listExtendWith (.ref S) (.ref it) .none) _ _ _
  refine wpAny_bind (wpAny_updateSeq hS rfl ?_)
  have hS₂ := Heap.get?_update_self (Obj.mapSeq (fun _ => (#[] : Array Value))) hS rfl
  have oth : ∀ b o, b ≠ S → s.heap.get? b = some o → ((s.heap.push { cls := .type "list", data := .seq #[] }).update S (Obj.mapSeq (fun _ => (#[] : Array Value)))).get? b = some o :=
    fun b o hb e => (Heap.get?_update_other _ _ (Ne.symm hb)).trans (oth0 b o e)
  generalize hH : (s.heap.push { cls := .type "list", data := .seq #[] }).update S (Obj.mapSeq (fun _ => (#[] : Array Value))) = H2 at *
  refine wpAny_bind (wpAny_letGo ?_)
  have hit1 : H2.IsRevIter it l ((items.size : Int) - 1) := hit.at fun o e => oth it o (Ne.symm hSi) e
  have hl1 : H2.IsList l items := hl.at fun o e => oth l o (Ne.symm hSl) e
  have hT : ({ s with heap := H2 } : Shared).TypeIs (.ref it) "list_reverseiterator" := Heap.IsRevIter.typeIs (s := { s with heap := H2 }) hit1
  have h1 : Builtin.List.listSameRef (.ref S) (.ref it) = false := by simp [Builtin.List.listSameRef, hSi]
  unfold Builtin.List.listExtendWith
  refine wpAny_bind (wpAny_typeOf hT ?_)
  rw [if_neg (by rw [h1]; decide)]
  refine wpAny_bind (wpAny_pyIter_revIter (s := { s with heap := H2 }) hit1 ?_)
  refine wpAny_bind (wpAny_holding ?_)
  unfold Builtin.List.listLengthHint
  refine wpAny_bind (wpAny_specialOf hT nolen_lri ?_)
  show wpAny _ _ (specialOf (Value.ref it) (Str.ofString "__length_hint__") >>= _) _ _ _
  refine wpAny_bind (wpAny_specialOf hT hint_lri ?_)
  generalize hid : ("list_reverseiterator.__length_hint__" : String) = id0
  wp_delta
  rw [show splitId id0 = some ("list_reverseiterator", "__length_hint__") from by subst hid; decide +kernel]
  subst hid
  refine wpAny_bind (wpAny_isInstance (b := true) hT (by rw [isSubtype_type]; kernel_rfl) ?_)
  refine wpAny_pure ?_
  rw [if_neg (by decide)]
  have e0 : ((items.size : Nat) : Int) - 1 - ((0 : Nat) : Int) = (items.size : Int) - 1 := by omega
  refine wpAny_pure ⟨plainId_quiet F.plain_extend_loop _, codeAny_extend_loopS W hn _ hSf _ items.size 0 _ _ _ rfl (Nat.zero_le _) ⟨Nat.zero_le _, by rw [e0]; exact hit1, hl1⟩ hS₂ (ItemsOf.nil _) fun s' acc' c' hm hS' hacc => ?_⟩
  rw [Moved.eq_with hm]
  refine ⟨rfl, hQ s'.heap s'.toks acc' c' (fun b o hb e => hm.heap b o (fun hmem => ?_) (oth b o (fun z => ?_) e)) hS' hacc⟩
  · rcases List.mem_cons.mp hmem with e' | hmem
    · exact absurd (Heap.lt_size e) (by rw [e', hS0]; exact Nat.lt_irrefl _)
    · exact hb (List.mem_singleton.mp hmem)
  · exact absurd (Heap.lt_size e) (by rw [z, hS0]; exact Nat.lt_irrefl _)
end
end RT
namespace L2
open PySem PySem.Spec PyProof.Rows RT
section
variable {X : Cx}
def tLstRev (K : PySem.W.Frag) (te : TE) : TE := fun σ H Q => te σ H fun v H1 => ∃ (a : Addr) (xs : List V), v = .ref a ∧ SqL K H1 a xs ∧ ∀ q, H1 q = none → Q (.ref q) (upd H1 q (.lst xs.reverse))
theorem pe_listRev {e : Expr} {te : TE} {p p2 pos pos2 : Pos} (hc : X.calm = true) (hg : Gl X "list") (hm : X.mg "list" = none) (hg2 : Gl X "reversed") (hm2 : X.mg "reversed" = none) (he : PE X e te)
    (hs : starEach [e] X.env = (false, eval e X.env) :: starEach [] X.env := by rfl)
    (hs2 : starEach [.Call (.Name "reversed" p2) [e] [] pos2] X.env = (false, eval (.Call (.Name "reversed" p2) [e] [] pos2) X.env) :: starEach [] X.env := by rfl) :
    PE X (.Call (.Name "list" p) [.Call (.Name "reversed" p2) [e] [] pos2] [] pos) (tLstRev X.K te) := by
  refine ⟨fun pins s σ H Q I h => ?_⟩
  refine Call_ (ld_blt I hg hm boot_list (PyProof.Rows.callWith_type1 (args_cons (Call_ (ld_blt I hg2 hm2 PyProof.Rows.boot_reversed (PyProof.Rows.callWith_type1 (args_cons (thn (he.run pins s σ H _ I h) fun u s1 ⟨v, H1, I1, r1, q1⟩ => args_nil ?_) hs) hs rfl))) hs2) hs2 rfl))
  obtain ⟨a, xs, ev, hq, q⟩ := q1
  subst ev
  obtain rfl : u = Value.ref a := r1
  obtain ⟨its, rv, p', hz⟩ := I1.list hq
  refine call_reversed_list p'.isList (args_nil ?_)
  have k0 : ∀ b o, s1.heap.get? b = some o → (s1.heap.push (revObj a ((its.toArray.size : Int) - 1))).get? b = some o := fun b o e => Heap.get?_push_of_some _ e
  have I2 : Inv X pins σ H1 { s1 with heap := s1.heap.push (revObj a ((its.toArray.size : Int) - 1)) } := I1.kept (t' := s1.toks) k0
  obtain ⟨f0, f1, f2, f3, f4, f5⟩ := I1.fpOk (H' := H1) (b := s1.heap.objs.size) (Nat.le_refl _) (I1.hok.fresh (Nat.le_refl _))
  have hl := p'.isList
  obtain ⟨ol, hol, _⟩ := id hl
  have hne : a ≠ s1.heap.objs.size := Nat.ne_of_lt (Heap.lt_size hol)
  have hn : its.toArray.size ≤ sizeLine := by rw [List.size_toArray, ← rv.length]; exact hz
  refine call_list_rev (s := { s1 with heap := s1.heap.push (revObj a ((its.toArray.size : Int) - 1)) }) (I1.ok.hd hc) ⟨_, Heap.get?_push_size _ rfl, rfl, rfl⟩ (hl.push _) hne hn fun h' tk acc c' hk hS' hi => ?_
  have hfr : H1 (s1.heap.push (revObj a ((its.toArray.size : Int) - 1))).objs.size = none := I2.hok.fresh (Nat.le_refl _)
  have k1 : ∀ b o, (s1.heap.push (revObj a ((its.toArray.size : Int) - 1))).get? b = some o → ((s1.heap.push (revObj a ((its.toArray.size : Int) - 1))).push { cls := .type "list", dict := none, data := .seq acc c', slots := #[] }).get? b = some o := fun b o e => Heap.get?_push_of_some _ e
  have I3 := I2.laid (t' := s1.toks) k1 (Nat.le_refl _) (show ObjOk X.prog X.w _ _ _ (.lst xs.reverse) from ⟨by rw [List.length_reverse]; exact hz, acc.toList, c', vals_rev rv hi, by rw [Array.toArray_toList]; exact Heap.get?_push_size _ rfl⟩)
  have hin : s1.heap.objs.size ≠ (s1.heap.push (revObj a ((its.toArray.size : Int) - 1))).objs.size := by
    rw [show (s1.heap.push (revObj a ((its.toArray.size : Int) - 1))).objs.size = s1.heap.objs.size + 1 from by simp [Heap.push]]
    omega
  have I4 : Inv X pins σ (upd H1 (s1.heap.push (revObj a ((its.toArray.size : Int) - 1))).objs.size (.lst xs.reverse)) { s1 with heap := h', toks := tk } := Inv.turned (s := { s1 with heap := (s1.heap.push (revObj a ((its.toArray.size : Int) - 1))).push { cls := .type "list", dict := none, data := .seq acc c', slots := #[] } }) I3 (t' := tk) (it := s1.heap.objs.size) (fun b o hb e => by
    rcases PySem.Heap.get?_push_cases e with ⟨e1, e2⟩ | e1
    · rw [e1, e2]; exact hS'
    · exact hk b o hb e1) (by rw [upd_ne hin]; exact f0) f1 f3 f4 f5
  exact ⟨.ref _, _, I4, rfl, q _ hfr⟩
end
end L2
namespace Dy
open PySem PySem.Spec L2
open PyProof.Rows hiding St
section
variable {X : Cx} {α : Type} [Enc α] {σ : L2.St} {s : S} {e : Expr} {p0 p2 pos pos2 : Pos}
theorem en_listRev {xs : List α} (hm : X.mg "list" = none) (hm2 : X.mg "reversed" = none) (ha : EvR X e σ s xs) (hc : X.calm = true := by rfl) (hg : Gl X "list" := by rfl) (hg2 : Gl X "reversed" := by rfl)
    (hs : starEach [e] X.env = (false, eval e X.env) :: starEach [] X.env := by rfl)
    (hs2 : starEach [.Call (.Name "reversed" p2) [e] [] pos2] X.env = (false, eval (.Call (.Name "reversed" p2) [e] [] pos2) X.env) :: starEach [] X.env := by rfl) : EvN X (.Call (.Name "list" p0) [.Call (.Name "reversed" p2) [e] [] pos2] [] pos) σ s xs.reverse := fun s1 k Q q =>
  we_of (pe_listRev hc hg hm hg2 hm2 pe_we hs hs2) (ha s1 k _ fun v s2 k2 r2 => by
    obtain ⟨p, vs, ev, h1, h2⟩ := r2
    exact ⟨p, vs, ev, h1, fun l hl => q l (s2.newO l _ hl) (k2.trans (Ex.newO hl)) (fr_back k2 hl) (own_new hl h2.rev)⟩)
end
end Dy

namespace Dy
open PySem PySem.Spec L2
open PyProof.Rows hiding St
open Enc (rep)
open EncA (repA)
section
variable {X : Cx} {σ : L2.St} {s : S} {a b c : Expr} {pos : Pos} {okA okB : V → List OA → Prop} {x : Bool}
theorem eg_if (h : EvT X c σ s x) (h1 : x = true → EvG X a σ s okA) (h2 : x = false → EvG X b σ s okB) : EvG X (.IfExp c a b pos) σ s (fun v L' => (x = true ∧ okA v L') ∨ (x = false ∧ okB v L')) := fun s1 k Q q =>
  we_of (pe_ifExp pt_wt pe_we pe_we) (h s1 k _ fun s2 k2 => by
    cases x with
    | true => exact iteT (h1 rfl s2 (k.trans k2) Q fun v s3 L' z i => q v s3 L' (.inl ⟨rfl, z⟩) (((Iv.tops (P0 := No) 0 s1).ex k2).add i))
    | false => exact iteF (h2 rfl s2 (k.trans k2) Q fun v s3 L' z i => q v s3 L' (.inr ⟨rfl, z⟩) (((Iv.tops (P0 := No) 0 s1).ex k2).add i)))
end
end Dy

set_option maxHeartbeats 1000000
namespace L2
open PySem PySem.Spec PyProof.Rows
def wAsM (K : PySem.W.Frag) (i : Nat) : List (Value × (Addr → Value → Option Addr → TS)) → WX → Ends → WX
  | [], Wout, _ => Wout
  | (c, ts) :: r, Wout, D => wAs K c i ts (wAsM K i r Wout D) D
inductive HdsAs (X : Cx) (i : Nat) (n : Str) : List ExceptHandler → List (Value × (Addr → Value → Option Addr → TS)) → Prop
  | nil : HdsAs X i n [] []
  | cons {x : Str} {c : Value} {ts : Addr → Value → Option Addr → TS} {b₀ : Stmt} {suite : List Stmt} {np pos' : Pos} {hds : List ExceptHandler} {l : List (Value × (Addr → Value → Option Addr → TS))} (hc : Names X x c)
      (hsu : ∀ (a : Addr) (oe : Obj) (cls : Value) (d : Option Addr) (pn : List (Addr × Obj)), Zc cls d oe → (∃ vs, oe.data = .fields vs) → PSs (X.suite a ((a, oe) :: pn)) (b₀ :: suite) (ts a cls d)) (r : HdsAs X i n hds l) :
      HdsAs X i n (.ExceptHandler (some (.Name x np)) (some n) (b₀ :: suite) pos' :: hds) ((c, ts) :: l)
section
variable {X : Cx} {n : Str} {i : Nat} {body : List Stmt} {h₀ : ExceptHandler} {hds : List ExceptHandler} {l : List (Value × (Addr → Value → Option Addr → TS))} {pos : Pos} {tb : WX → TS} {Wout : WX}
theorem ps_try_asN (hs : X.stack = X.env :: X.outer) (hf : X.env.frame = some X.env.locals) (hN : X.N.Nodup) (hi : X.N[i]? = some n) (hln : X.env.kindOf n = some .local) (tk : Takes X Wout)
    (hb : ∀ (W : WX) (pn : List (Addr × Obj)) (xe : Value → Shared → Prop), Takes (X.tr pn xe) W → PassesOwn (model X.prog X.w) X.A X.env xe → PSs (X.tr pn xe) body (tb W))
    (hh : HdsAs X i n (h₀ :: hds) l) :
    PS X (.Try body (h₀ :: hds) [] [] pos) (fun D σ H => tb (wAsM X.K i l Wout D) D σ H) := by
  refine ⟨fun pins s σ H D I h => ?_⟩
  have ok := I.ok
  have hfr : X.A.frames = some (X.env :: X.outer) := by rw [ok.frames, hs]
  have hloc : Loc X.env.scope n := .inl hln
  refine wpAny_Try_except ?_
  refine wpAny_mono ((hb (wAsM X.K i l Wout D) (X.pn ++ pins) (fun e s₁ => wpAny (model X.prog X.w) X.A (noteFrame e X.env) (fun _ s₂ => wpAny (model X.prog X.w) X.A (setFlight e none) (fun _ s₃ =>
    wpAny (model X.prog X.w) X.A (handleBy e X.env (h₀ :: hds)) (SP X pins D) X.xe s₃) X.xe s₂) X.xe s₁) (fun u s' xx => ?_) PassesOwn.looking).run [] s σ H D (I.toTry _) h) (fun f s1 hsp => ?_) (fun e s1 he => he)
  · -- the catch
    obtain ⟨a, B, sI, pins', σ', H', cls, d, rfl, J', nb, up, sky, na, os, ag, w⟩ := xx
    have J : Inv X pins σ' H' sI := J'.ofTry ok
    have sky' : Sky B (X.env :: X.outer) a (Zc cls d) X.env.locals s'.heap := by rw [← hs]; exact sky
    show wpAny (model X.prog X.w) X.A (noteFrame (.ref a) X.env) _ _ _
    refine Sky.land Zc.steady hfr hf sky' fun h3 fl3 up3 => ?_
    have J3 : Inv X pins σ' H' { s' with heap := h3 } := J.landed nb fl3.1 (up.trans up3) os ag
    obtain ⟨oe3, vs3, he3, hz3, hd3⟩ := fl3.there
    have notFr : ∀ {h : Heap} {o : Obj} {vs : Array Value}, h.FunFrames B (X.env :: X.outer) → h.get? a = some o → o.data = .fields vs → a ∉ frs (X.env :: X.outer) := fun {h o vs} ff e dd hm => by
      obtain ⟨_, o', e', hnf⟩ := ff.mem hm
      rw [e] at e'; cases e'
      exact hnf _ dd
    have nfr := notFr fl3.2.2.1 he3 hd3
    have nL : a ≠ X.env.locals := fun z => nfr (List.mem_filterMap.mpr ⟨X.env, List.mem_cons_self, by rw [hf, z]⟩)
    have nF : a ∉ X.fs := fun hm => by
      obtain ⟨e, he, q⟩ := List.mem_filterMap.mp hm
      exact nfr (List.mem_filterMap.mpr ⟨e, List.mem_cons_of_mem _ he, q⟩)
    have S3 := J3.suite he3 hd3 na nL nF
    have go : ∀ {hds' : List ExceptHandler} {l' : List (Value × (Addr → Value → Option Addr → TS))}, HdsAs X i n hds' l' → wAsM X.K i l' Wout D cls d σ' H' →
        wpAny (model X.prog X.w) X.A (handleBy (.ref a) X.env hds') (SP X pins D) X.xe { s' with heap := h3 } := by
      intro hds' l' hk
      induction hk with
      | nil =>
        intro w
        refine wpAny_handleBy_nil ?_
        obtain ⟨k1, k2, k3, oe, vs, T, oT, ts', he, hz, hd, h1, hr⟩ := id fl3
        unfold PySem.passOn
        refine wpAny_bind (wpAny_field he hd h1 ?_)
        rw [if_neg (show ¬ ((Value.ref T == Value.none) = true) from by simp)]
        have fin : wpAny (model X.prog X.w) X.A (setFlight (.ref a) X.env.frame) (fun _ s4 => wpAny (model X.prog X.w) X.A (throw (.ref a) : Sem Flow) (SP X pins D) X.xe s4) X.xe { s' with heap := h3 } := by
          rw [hf]
          refine HandSPX.setFlight_upZ fl3 fun h4 hh4 up4 => wpAny_throw (tk _ _ ?_)
          exact ⟨a, B, sI, pins, σ', H', cls, d, rfl, J, nb, (up.trans up3).trans up4, .inr (.inr (by rw [hs]; exact hh4)), na, os, ag, w⟩
        first
          | exact wpAny_bind (wpAny_pure (wpAny_bind fin))
          | exact wpAny_bind fin
      | @cons x c ts b₀ suite np pos' hds2 l2 hc hsu r ih =>
        intro w
        obtain ⟨b, hb1, hyes, hno⟩ := w
        refine wpAny_handleBy_cons (codeAny_handlers_test ?_) (by intro q; cases q)
        have LT : PySem.W.Looks (model X.prog X.w) h3 (typeOf (.ref a)) cls := fun A Q E s k q => wpAny_typeOf_ref (k _ _ he3) (by rw [hz3.1]; exact q)
        have LM := PySem.W.exm_one (M := model X.prog X.w) (J3.kIn) LT hb1
        have test : ∀ {Q : Value → Shared → Prop} {E : Value → Shared → Prop}, Q c { s' with heap := h3 } → wpAny (model X.prog X.w) (X.A.mark (some (.ref a))) (eval (.Name x np) X.env) Q E { s' with heap := h3 } := fun {Q E} q => by
          obtain ⟨hg, hdbg, hm | ⟨hm, hv, hnn⟩⟩ := hc
          · exact ld_glob (X := X.suite a ((a, oe3) :: (X.pn ++ pins))) S3 hg hm q hdbg
          · exact ld_blt (X := X.suite a ((a, oe3) :: (X.pn ++ pins))) S3 hg hm hv q hnn hdbg
        refine test (LM.here ?_)
        cases b with
        | true =>
          refine codeAny_handlers_suite_as ?_
          refine HandSPX.lands_againZ fl3 fun h4 fl4 up4 => ?_
          have J4 : Inv X pins σ' H' { s' with heap := h4 } := J.landed nb fl4.1 ((up.trans up3).trans up4) os ag
          obtain ⟨oe4, vs4, he4, hz4, hd4⟩ := fl4.there
          have S4 := J4.suite he4 hd4 na nL nF
          refine store_ok (X := X.suite a ((a, oe4) :: (X.pn ++ pins))) (v := .ref a) S4 hN hi hloc rfl (fun s5 S5 => ?_) (.inr hln)
          refine wpAny_mono ((hsu a oe4 cls d (X.pn ++ pins) hz4 ⟨_, hd4⟩).run [] s5 _ H' _ S5 (hyes rfl a na)) (fun f s6 hsp => ?_) (fun _ _ z => False.elim z)
          have end_ : ∀ {σ6 : St} {H6 : Hp} {Q : Shared → Prop}, Inv (X.suite a ((a, oe4) :: (X.pn ++ pins))) [] σ6 H6 s6 → (∀ s7, Inv X pins (σ6.set i none) H6 s7 → Q s7) →
              wpAny (model X.prog X.w) X.A (do bindName X.env n .none; unbindBehindTheSuite X.env n pos') (fun _ s7 => Q s7) X.xe s6 := fun {σ6 H6 Q} S6 hq => gone_ok (S6.unsuite ok) hN hi hln hq
          cases f with
          | next =>
            obtain ⟨σ6, H6, S6, q6⟩ := hsp
            exact end_ S6 fun s7 J7 => ⟨_, _, J7, q6⟩
          | brk =>
            obtain ⟨σ6, H6, S6, q6⟩ := hsp
            exact end_ S6 fun s7 J7 => ⟨_, _, J7, q6⟩
          | cont =>
            obtain ⟨σ6, H6, S6, q6⟩ := hsp
            exact end_ S6 fun s7 J7 => ⟨_, _, J7, q6⟩
          | ret u =>
            obtain ⟨v6, σ6, H6, S6, r6, q6⟩ := hsp
            exact end_ S6 fun s7 J7 => ⟨_, _, _, J7, r6, q6⟩
        | false => exact ih (hno rfl)
    exact go hh w
  · cases f with
    | next =>
      obtain ⟨σ', H', J', q⟩ := hsp
      exact wpAny_execs_nil ⟨σ', H', J'.ofTry ok, q⟩
    | brk =>
      obtain ⟨σ', H', J', q⟩ := hsp
      exact ⟨σ', H', J'.ofTry ok, q⟩
    | cont =>
      obtain ⟨σ', H', J', q⟩ := hsp
      exact ⟨σ', H', J'.ofTry ok, q⟩
    | ret u =>
      obtain ⟨v, σ', H', J', r, q⟩ := hsp
      exact ⟨v, σ', H', J'.ofTry ok, r, q⟩
end
end L2
namespace Dy
open PySem PySem.Spec L2
open PyProof.Rows hiding St
section
variable {X : Cx} {σ : L2.St} {s : S} {D : Ends} {rest : List Stmt}
theorem was_no {K : PySem.W.Frag} {c : Value} {i : Nat} {ts : Addr → Value → Option Addr → TS} {Wout : WX} {cls : Value} {d : Option Addr} {H : Hp} (h1 : PySem.W.exmOne K cls c = some false) (h2 : Wout cls d σ H) : wAs K c i ts Wout D cls d σ H := ⟨false, h1, fun z => (by cases z), fun _ => h2⟩
theorem do_tryAs2 (i : Nat) {x y n : Str} {c c' : Value} {body suite suite' : List Stmt} {b₀ b₁ : Stmt} {np np' pos pos' pos'' : Pos} {Wout : WX} (hN : X.N.Nodup) (hcN : Names X x c) (hcN' : Names X y c') (tk : Takes X Wout)
    (h : ∀ pn xe, Takes (X.tr pn xe) (wAs X.K c i (fun a cls d D σ H => ∀ (oe : Obj) (pn : List (Addr × Obj)), Zc cls d oe → (∃ vs, oe.data = .fields vs) → WSs (X.suite a ((a, oe) :: pn)) (b₀ :: suite) D σ H)
        (wAs X.K c' i (fun a cls d D σ H => ∀ (oe : Obj) (pn : List (Addr × Obj)), Zc cls d oe → (∃ vs, oe.data = .fields vs) → WSs (X.suite a ((a, oe) :: pn)) (b₁ :: suite') D σ H) Wout { D with nx := fun σ' H' => WSs X rest D σ' H' }) { D with nx := fun σ' H' => WSs X rest D σ' H' }) → PassesOwn (model X.prog X.w) X.A X.env xe →
      WSs (X.tr pn xe) body { D with nx := fun σ' H' => WSs X rest D σ' H' } σ s.H)
    (hs : X.stack = X.env :: X.outer := by rfl) (hf : X.env.frame = some X.env.locals := by rfl) (hi : X.N[i]? = some n := by rfl) (hln : X.env.kindOf n = some .local := by rfl) :
    WSs X (.Try body [.ExceptHandler (some (.Name x np)) (some n) (b₀ :: suite) pos', .ExceptHandler (some (.Name y np')) (some n) (b₁ :: suite') pos''] [] [] pos :: rest) D σ s.H :=
  do_cons (ps_try_asN (l := [(c, fun a cls d D σ H => ∀ (oe : Obj) (pn : List (Addr × Obj)), Zc cls d oe → (∃ vs, oe.data = .fields vs) → WSs (X.suite a ((a, oe) :: pn)) (b₀ :: suite) D σ H), (c', fun a cls d D σ H => ∀ (oe : Obj) (pn : List (Addr × Obj)), Zc cls d oe → (∃ vs, oe.data = .fields vs) → WSs (X.suite a ((a, oe) :: pn)) (b₁ :: suite') D σ H)])
    (tb := fun W D σ H => ∀ pn xe, Takes (X.tr pn xe) W → PassesOwn (model X.prog X.w) X.A X.env xe → WSs (X.tr pn xe) body D σ H)
    hs hf hN hi hln tk (fun W pn xe t po => pss_im fun D σ H hh => hh pn xe t po)
    (.cons hcN (fun a oe cls d pn hz hv => pss_im fun D σ H hh => hh oe pn hz hv) (.cons hcN' (fun a oe cls d pn hz hv => pss_im fun D σ H hh => hh oe pn hz hv) .nil))) h
end
end Dy

namespace Dy
open PySem PySem.Spec L2
open PyProof.Rows hiding St
open Enc (rep)
open EncA (repA)
structure HL4 (α β γ δ : Type) where
  a : α
  b : β
  c : γ
  d : δ
deriving DecidableEq
instance {α β γ δ : Type} [Enc α] [Enc β] [Enc γ] [Enc δ] : Enc (HL4 α β γ δ) := ⟨fun K F v x => ∃ p v1 v2 v3 v4, v = .ref p ∧ SqL K F p [v1, v2, v3, v4] ∧ rep K F v1 x.a ∧ rep K F v2 x.b ∧ rep K F v3 x.c ∧ rep K F v4 x.d, fun e h => by
  obtain ⟨p, v1, v2, v3, v4, rfl, h0, h1, h2, h3, h4⟩ := h
  exact ⟨p, v1, v2, v3, v4, rfl, sql_mono e h0, Enc.mono e h1, Enc.mono e h2, Enc.mono e h3, Enc.mono e h4⟩⟩
instance {α β γ δ : Type} [EqD α] [EqD β] [EqD γ] [EqD δ] : EqD (HL4 α β γ δ) := ⟨fun x => .list [EqD.toD x.a, EqD.toD x.b, EqD.toD x.c, EqD.toD x.d], fun h f => by
  obtain ⟨p, v1, v2, v3, v4, rfl, h0, h1, h2, h3, h4⟩ := h
  exact .lst (sql_mono f h0) (.cons (EqD.dp h1 f) (.cons (EqD.dp h2 f) (.cons (EqD.dp h3 f) (.cons (EqD.dp h4 f) .nil)))), fun x y => by
    obtain ⟨x1, x2, x3, x4⟩ := x
    obtain ⟨y1, y2, y3, y4⟩ := y
    show (PyData.eqv _ _ && (PyData.eqv _ _ && (PyData.eqv _ _ && (PyData.eqv _ _ && true)))) = true ↔ _
    rw [Bool.and_eq_true, Bool.and_eq_true, Bool.and_eq_true, Bool.and_eq_true, EqD.eqv, EqD.eqv, EqD.eqv, EqD.eqv]; simp⟩
section
variable {α β γ δ : Type} [Enc α] [Enc β] [Enc γ] [Enc δ] {X : Cx} {σ : L2.St} {s : S} {es : List Expr} {pos : Pos}
theorem ev_hl4 {x : α} {y : β} {z : γ} {w : δ} (h : EvA X es σ s (x, y, z, w, ())) : Ev X (.List es pos) σ s (⟨x, y, z, w⟩ : HL4 α β γ δ) := fun s1 k Q q =>
  we_of (pe_lst pa_wa) (h s1 k _ fun vs s2 k2 r2 => by
    obtain ⟨v1, _, rfl, r1, v2, _, rfl, r2, v3, _, rfl, r3, v4, _, rfl, r4, rfl⟩ := r2
    exact ⟨show _ ≤ 2 ^ 24 by simp, fun p hp => q _ (s2.newF p (.lst [v1, v2, v3, v4]) hp) (k2.trans (Ex.newF hp)) ⟨p, v1, v2, v3, v4, rfl, .inl (.inl upd_same), Enc.mono (Ex.newF hp).f r1, Enc.mono (Ex.newF hp).f r2, Enc.mono (Ex.newF hp).f r3, Enc.mono (Ex.newF hp).f r4⟩⟩)
end
end Dy
namespace Dy
open PySem PySem.Spec L2
open PyProof.Rows hiding St
open Enc (rep)
open EncA (repA)
section
variable {X : Cx} {σ : L2.St} {s s0 : S} {P0 : Addr → Prop} {L R0 : List OA} {e : Expr} {A O : Type} {pre : List V → A → List OA → List OA → Prop} {m : A → Option O} {ok : List V → A → O → V → List OA → Prop} {er : List V → A → O → Er → List OA → Prop} {Φ : List V → S → Prop} {x : A} {o : O}
theorem ex_callG {er' : Er → Prop} {W : WX} (c : Calls X e σ s (spI X.K pre m ok er) (L2.WE W σ) Φ) (iv : Iv X.K P0 s0 s L) (ro : Ro X.K P0 s0 R0) (rs : List (Nat ⊕ Nat))
    (hp : ∀ vs s2, Ex s s2 → Φ vs s2 → ∃ Lf, pre vs x Lf (rsel L R0 rs) ∧ (∀ A ∈ Lf, A.p X.K s2.F s2.H No) ∧ (∀ v L', ok vs x o v L' → False) ∧ (∀ e L', er vs x o e L' → er' e)) (hm : m x = some o)
    (hw : ∀ e cls d s', er' e → Ex s s' → ExR X.K s'.F e cls d → W cls d σ s'.H) : EvX X e σ s := fun s1 k1 Q =>
  c s1 k1 Q fun vs s2 k2 φ => by
    obtain ⟨Lf, h1, h2, h3, h4⟩ := hp vs s2 (k1.trans k2) φ
    obtain ⟨P1, g1, g2, g3, g4⟩ := call_in (iv.ex (k1.trans k2)) ro [] List.nodup_nil (fun k hk => by simp at hk) Lf h2 rs (fun i _ hk => by simp at hk)
    have hP : ∀ s' L', Iv X.K P1 s2 s' L' → Ex s2 s' := fun s' L' i => by
      have e1 : P1 = fun _ => False := funext fun a => propext ⟨fun z => g3 rfl a z, fun z => z.elim⟩
      subst e1
      exact i.exx
    exact ⟨s2, P1, _, _, x, o, rfl, h1, g1, g2, hm, fun v s' L' hok iv' => (h3 v L' hok).elim, fun e cls d s' L' z iv' r => hw e cls d s' (h4 e L' z) ((k1.trans k2).trans (hP s' L' iv')) r⟩
end
section
def DpRD {α : Type} [ToD α] {K : PySem.W.Frag} {F H : Hp} (f : Fle F H) : ∀ {vs : List V} {xs : List α}, Reps K F vs xs → DpAll K H vs (xs.map ToD.td)
  | [], [], _ => .nil
  | _ :: _, _ :: _, ⟨h, t⟩ => .cons (ToD.tdp h f) (DpRD f t)
  | [], _ :: _, h => h.elim
  | _ :: _, [], h => h.elim
instance {α : Type} [ToD α] : ToD (Tu α) := ⟨fun x => .tuple (x.l.map ToD.td), fun h f => by
  obtain ⟨p, vs, rfl, h1, h2⟩ := h
  exact .tup (sqt_mono f h1) (DpRD f h2)⟩
end
end Dy

namespace Dy
open PySem PySem.Spec L2
open PyProof.Rows hiding St
open Enc (rep)
open EncA (repA)
instance {α β : Type} [Enc α] [Enc β] : Enc (α ⊕ β) := ⟨fun K F v x => match x with
  | .inl y => rep K F v y
  | .inr y => rep K F v y, fun {K F F' v x} e h => by
  cases x with
  | inl y => exact Enc.mono (α := α) e h
  | inr y => exact Enc.mono (α := β) e h⟩
def sm {α β γ : Type} (x : α ⊕ β) (f : α → γ) (g : β → γ) : γ := match x with
  | .inl y => f y
  | .inr y => g y
theorem smL {α β γ : Type} {y : α} {f : α → γ} {g : β → γ} {r : γ} (h : sm (.inl y) f g = r) : f y = r := h
theorem smR {α β γ : Type} {y : β} {f : α → γ} {g : β → γ} {r : γ} (h : sm (.inr y) f g = r) : g y = r := h
end Dy

namespace Dy
open PySem PySem.Spec L2
open PyProof.Rows hiding St

section
variable {M : Model} {A : Around} {E : Value → Shared → Prop} {s : Shared} {env : Env}
def cEnd (M : Model) (A : Around) (E : Value → Shared → Prop) (use : Option (Value → Sem Unit)) (Q : Value → Shared → Prop) (acc : Value) (ce : Env) (r : Result) (t : Shared) : Prop := match r, use with
  | .ok _, none => ∃ m, t.heap.Ns ce.locals m ∧ ∀ g, Heap.SameBut ce.locals t.heap g → Q acc { t with heap := g }
  | .ok _, some u => wpAny M A (u acc) (fun _ t' => ∃ m, t'.heap.Ns ce.locals m ∧ ∀ g, Heap.SameBut ce.locals t'.heap g → Q .none { t' with heap := g }) E t
  | .error x, _ => ∃ m, t.heap.Ns ce.locals m ∧ ∀ g, Heap.SameBut ce.locals t.heap g → wpAny M A (passOn "comprehension.variables-let-go" x ce : Sem Value) (fun _ _ => False) E { t with heap := g }
theorem cEnd_err {use : Option (Value → Sem Unit)} {Q : Value → Shared → Prop} {acc : Value} {ce : Env} {x : Value} {t : Shared} (h : ∃ m, t.heap.Ns ce.locals m ∧ ∀ g, Heap.SameBut ce.locals t.heap g → wpAny M A (passOn "comprehension.variables-let-go" x ce : Sem Value) (fun _ _ => False) E { t with heap := g }) : cEnd M A E use Q acc ce (.error x) t := by
  cases use <;> exact h
theorem cEnd_errE {use : Option (Value → Sem Unit)} {Q : Value → Shared → Prop} {acc : Value} {ce : Env} {x : Value} {t : Shared} (h : cEnd M A E use Q acc ce (.error x) t) : ∃ m, t.heap.Ns ce.locals m ∧ ∀ g, Heap.SameBut ce.locals t.heap g → wpAny M A (passOn "comprehension.variables-let-go" x ce : Sem Value) (fun _ _ => False) E { t with heap := g } := by
  cases use <;> exact h
theorem comp_runs {e : Expr} {scope : Scope} {pos : Pos} {newAcc first : Sem Value} {c0 : Comprehension} {cs : List Comprehension} {cl : List (Str × Addr)} {use : Option (Value → Sem Unit)} {Q : Value → Shared → Prop}
    (h1 : clausesOf e = c0 :: cs) (h2 : ∀ x, foldedSetIterable c0.iter env x = pure x) (h3 : closureFor scope env = pure cl) (h4 : scope.kind = .function) (h5 : ∀ x ∈ scope.names, x.2 = .local → scope.names.lookup x.1 = some .local)
    (h : wpAny M A first (fun x t₁ => wpAny M A (pyIter x) (fun it t₂ => wpAny M A newAcc (fun acc t₃ => wpAny M A (newFunctionEnv scope env.globals cl [] env.qual none .none (some env)) (fun ce t₄ =>
      codeAny M A (.compStart e 0 it acc { ce with scope := relabel scope env }) (cEnd M A E use Q acc { ce with scope := relabel scope env }) t₄) E t₃) E t₂) E t₁) E s) :
    wpAny M A (comprehension e scope env pos newAcc false first use) Q E s := by
  unfold comprehension; rw [h3, h1]
  apply wpAny_bind
  apply wpAny_mono h _ (fun _ _ z => z)
  intro x t₁ k₁
  apply wpAny_bind; apply wpAny_standAt; apply wpAny_bind
  apply wpAny_of_eq (h2 x)
  apply wpAny_bind; apply wpAny_holding
  apply wpAny_mono k₁ _ (fun _ _ z => z)
  intro it t₂ k₂
  apply wpAny_standIf; apply wpAny_bind
  apply wpAny_mono k₂ _ (fun _ _ z => z)
  intro acc t₃ k₃
  apply wpAny_bind; apply wpAny_pure; apply wpAny_bind
  apply wpAny_mono k₃ _ (fun _ _ z => z)
  intro ce t₄ k₄
  dsimp only
  generalize hce : ({ ce with scope := relabel scope env } : Env) = ce' at k₄
  have hl : ce'.locals = ce.locals := by subst hce; rfl
  have hk : ce'.scope.kind = .function := by subst hce; exact h4
  have hv : ∀ x ∈ (scope.names.filter fun x => (x.2 == .local || x.2 == .cell) && x.1 != (".0" : Str)).reverse, x.2 = .local → Env.kindOf ce' x.1 = some .local := by
    intro x hx e
    subst hce
    exact lookup_relabel_local (h5 x (List.mem_filter.mp (List.mem_reverse.mp hx)).1 e)
  have hw : ∀ x ∈ (scope.names.filter fun x => (x.2 == .local || x.2 == .cell) && x.1 != (".0" : Str)).reverse.drop 1 ++ (scope.names.filter fun x => (x.2 == .local || x.2 == .cell) && x.1 != (".0" : Str)).reverse.take 1, x.2 = .local → Env.kindOf ce' x.1 = some .local := by
    intro x hx e
    exact (List.mem_append.mp hx).elim (fun z => hv x (List.mem_of_mem_drop z) e) fun z => hv x (List.mem_of_mem_take z) e
  apply wpAny_holding; apply wpAny_bind; apply wpAny_attempt; apply wpAny_holding
  subst hce
  refine wpAny_run (codeAny_mono k₄ ?_)
  intro r t₅ k₅
  rcases r with x | f
  · obtain ⟨m, n, k⟩ := cEnd_errE k₅
    refine wpAny_bind (wpAny_holding (wpAny_comp_letGo hk _ t₅ m hv n ?_))
    intro g m' _ sb
    exact wpAny_mono (k g sb) (fun _ _ z => z.elim) (fun _ _ z => z)
  · cases use with
    | none =>
      obtain ⟨m, n, k⟩ := k₅
      refine wpAny_bind (wpAny_holding (wpAny_comp_letGo hk _ t₅ m hv n ?_))
      intro g m' _ sb
      exact wpAny_pure (k g sb)
    | some u =>
      apply wpAny_bind; apply wpAny_rule; apply wpAny_bind; apply wpAny_holding
      refine wpAny_mono k₅ ?_ (fun _ _ z => z)
      intro _ t₆ k₆
      obtain ⟨m, n, k⟩ := k₆
      refine wpAny_bind (wpAny_comp_letGo hk _ t₆ m hw n ?_)
      intro g m' _ sb
      exact wpAny_pure (k g sb)
end
theorem note_same {x : Value} {e1 e2 : Env} (h : e1.frame = e2.frame) : noteFrame x e1 = noteFrame x e2 := by
  unfold noteFrame PySem.frameOf
  rw [h]
theorem blk_out {X : Cx} {W : WX} {s3 : Shared} {H3 : Hp} {σ : L2.St} {pins : List (Addr × Obj)} {scope : Scope} {ce : Env} {fp : List Addr} {use : Option (Value → Sem Unit)} {Qf : Value → Shared → Prop} {acc : Value} (tk : Takes X W)
    (hs : X.stack = X.env :: X.outer) (hf : X.env.frame = some X.env.locals) (I3 : Inv X pins σ H3 s3) (f3 : ∀ b ∈ fp, FpOk X pins H3 b ∧ b < s3.heap.objs.size) (cL : ce.locals = s3.heap.objs.size) (cf : ce.frame = X.env.frame) (pn : List (Addr × Obj)) (σ' : L2.St) :
    PassesAt (L2.CX X.prog X.w) ((X.blk s3 H3 scope ce fp).tr pn (notedBy (model X.prog X.w) X.A ce fun e t => cEnd (model X.prog X.w) X.A X.xe use Qf acc ce (.error e) t)) σ' (fun cls d H' => W cls d σ H') := by
  intro ps H s5 e s6 I5 c
  obtain ⟨a, B, H', cls, d, rfl, fl, hokB, ub, na, os, ag, w⟩ := c
  have hfr : X.A.frames = some (X.env :: X.outer) := I3.ok.frames.trans (by rw [hs])
  obtain ⟨m, hm, _⟩ := id I5.loc
  have hm : s5.heap.Ns s3.heap.objs.size m := by rw [← cL]; exact hm
  obtain ⟨oC, es, ep, hC, hCd, hCr⟩ := id hm
  have nC : H s3.heap.objs.size = none := by rw [← cL]; exact I5.free
  have fs : ∀ b ∈ frs X.stack, b < s3.heap.objs.size := fun b hb => by
    obtain ⟨_, o, z, _⟩ := I3.stack.mem hb
    exact Heap.lt_size z
  have nfC : s3.heap.objs.size ∉ frs X.stack := fun z => Nat.lt_irrefl _ (fs _ z)
  have BC : B.get? s3.heap.objs.size = some oC := ub.keep _ _ hC nC nfC
  have un : Un (frs X.stack) fp H3 H s3.heap s5.heap := I5.base
  show wpAny _ X.A (noteFrame (.ref a) ce) _ _ s6
  rw [note_same cf]
  have fl' : HandSPX.FlyingZ B (X.env :: X.outer) a (Zc cls d) s6.heap := by rw [← hs]; exact fl
  refine HandSPX.looks_onZ Zc.steady hfr hf fl' ?_
  intro h1 held up1
  refine cEnd_err ?_
  refine ⟨m, ?_, ?_⟩
  · rw [cL]
    exact ⟨oC, es, ep, held.1 _ _ BC, hCd, hCr⟩
  intro h2 sb
  rw [cL] at sb
  obtain ⟨k1, k2, k3, oe, vs, T, oT, ts, t1, t2, t3, t4, t5, t6, t7, t8, t9⟩ := held
  have aC : a ≠ s3.heap.objs.size := fun z => by rw [z, BC] at k2; cases k2
  have TC : T ≠ s3.heap.objs.size := fun z => by rw [z, BC] at t5; cases t5
  obtain ⟨B', b1, b2⟩ := restrict B fun b => decide (b ≠ s3.heap.objs.size)
  have b1' : ∀ b, b ≠ s3.heap.objs.size → B'.get? b = B.get? b := fun b hb => b1 b (by simpa using hb)
  have b2' : B'.get? s3.heap.objs.size = none := b2 _ (by simp)
  have low : ∀ b o, B'.get? b = some o → B.get? b = some o ∧ b ≠ s3.heap.objs.size := fun b o z => by
    by_cases q : b = s3.heap.objs.size
    · rw [q, b2'] at z; cases z
    · exact ⟨(b1' b q).symm.trans z, q⟩
  have gone : ∀ b, B.get? b = none → B'.get? b = none := fun b z => by
    cases q : B'.get? b with
    | none => rfl
    | some o => rw [(low b o q).1] at z; cases z
  have held2 : HandSPX.HeldZ B' (X.env :: X.outer) a (Zc cls d) X.env.locals h2 := by
    refine ⟨fun b o z => ?_, gone a k2, ?_, oe, vs, T, oT, ts, (sb.2 a aC).trans t1, t2, t3, t4, gone T t5, t6, (sb.2 T TC).trans t7, t8, t9⟩
    · obtain ⟨q1, q2⟩ := low b o z
      exact (sb.2 b q2).trans (k1 b o q1)
    · have all : ∀ l : List Env, (∀ b ∈ frs l, b ≠ s3.heap.objs.size) → h1.FunFrames B l → h2.FunFrames B' l := by
        intro l
        induction l with
        | nil => intro _ _; trivial
        | cons x r ih =>
          intro hne hh
          obtain ⟨f1, ⟨L, o, f2, f3, f4, f5⟩, f6⟩ := hh
          have hL : L ∈ frs (x :: r) := List.mem_filterMap.mpr ⟨x, List.mem_cons_self, f2⟩
          refine ⟨f1, ⟨L, o, f2, gone L f3, (sb.2 L (hne L hL)).trans f4, f5⟩, ih (fun b hb => hne b ?_) f6⟩
          obtain ⟨y, hy, q⟩ := List.mem_filterMap.mp hb
          exact List.mem_filterMap.mpr ⟨y, List.mem_cons_of_mem _ hy, q⟩
      exact all _ (fun b hb => Nat.ne_of_lt (fs b (by rw [hs]; exact hb))) k3
  show wpAny _ X.A (passOn "comprehension.variables-let-go" (.ref a) ce : Sem Value) _ X.xe { s6 with heap := h2 }
  unfold PySem.passOn
  refine wpAny_bind (wpAny_field ((sb.2 a aC).trans t1) t3 t4 ?_)
  have nn : (Value.ref T == Value.none) = false := by simp
  rw [nn, if_neg Bool.false_ne_true]
  refine wpAny_bind ?_
  rw [cf, hf]
  refine HandSPX.setFlight_onZ (s := { s6 with heap := h2 }) held2 ?_
  intro h3 held3 up3
  refine wpAny_throw (tk _ _ ?_)
  obtain ⟨G, g1, g2⟩ := restrict h3 fun b => (B'.get? b).isSome || decide (b ∈ frs X.stack)
  have st3 : B'.StaysIn h3 := held3.1
  have gB : ∀ b o, B'.get? b = some o → G.get? b = some o := fun b o z => (g1 b (by simp [z])).trans (st3 b o z)
  have gF : ∀ b, b ∈ frs X.stack → G.get? b = h3.get? b := fun b hb => g1 b (by simp [hb])
  have og : ∀ b o, G.get? b = some o → h3.get? b = some o ∧ ((B'.get? b).isSome = true ∨ b ∈ frs X.stack) := fun b o z => by
    cases q : ((B'.get? b).isSome || decide (b ∈ frs X.stack)) with
    | false => rw [g2 b q] at z; cases z
    | true => exact ⟨(g1 b q).symm.trans z, by simpa [Bool.or_eq_true] using q⟩
  have n3 : ∀ {b o}, s3.heap.get? b = some o → b ≠ s3.heap.objs.size := fun z => Nat.ne_of_lt (Heap.lt_size z)
  have nHC : H' s3.heap.objs.size = none := ub.free _ _ hC nC
  have slots : ∀ b ∈ frs X.stack, ∀ o, s3.heap.get? b = some o → H3 b = none → b ∉ fp → ∃ sl, G.get? b = some { o with slots := sl } := fun b hb o z hn hx => by
    obtain ⟨_, o', z', nf⟩ := I3.stack.mem hb
    rw [z] at z'; cases z'
    obtain ⟨l1, z1⟩ := un.slot b o z hn hb hx
    obtain ⟨l2, z2⟩ := ub.slot b _ z1 hb
    obtain ⟨l3, z3⟩ := up1 b _ z2 nf
    have z4 := (sb.2 b (n3 z)).trans z3
    obtain ⟨l5, z5⟩ := up3 b _ z4 nf
    exact ⟨l5, (gF b hb).trans z5⟩
  have u : Un (frs X.stack) fp H3 H' s3.heap G := by
    refine ⟨fun b o z hn hb hx => ?_, fun b o z hn hb hx => slots b hb o z hn hx, fun b o z hn hx => ?_, fun b o z hx => ?_, fun b xs z => ub.tups _ _ (un.tups _ _ z), fun b o xs z => ub.frzs _ _ _ (un.frzs _ _ _ z), fun b p z => ?_⟩
    · exact gB b o ((b1' b (n3 z)).trans (ub.keep b o (un.keep b o z hn hb hx) (un.free b o z hn hx) hb))
    · obtain ⟨o', z'⟩ := un.there b o z hx
      exact ub.free b o' z' (un.free b o z hn hx)
    · by_cases hb : b ∈ frs X.stack
      · obtain ⟨_, o', z', _⟩ := I3.stack.mem hb
        rw [z] at z'; cases z'
        obtain ⟨l, q⟩ := slots b hb o z (I3.stkFree b hb) hx
        exact ⟨_, q⟩
      · obtain ⟨o', z'⟩ := un.there b o z hx
        obtain ⟨o2, z2⟩ := ub.there b o' z' hb
        exact ⟨o2, gB b o2 ((b1' b (n3 z)).trans z2)⟩
    · obtain ⟨p1, q1⟩ := un.tbls b p z
      obtain ⟨p2, q2⟩ := ub.tbls b _ q1
      exact ⟨p1 ++ p2, by rw [q2, Array.append_assoc]⟩
  have hokG : HOk X.prog X.w H' G := fun b o q => (hokB b o q).stay (fun c v hc z => gB c v ((b1' c fun e => by
      rcases hc with r | r
      · rw [← r, e, nHC] at q; cases q
      · rw [e, nHC] at r; cases r).trans z)) (fun _ z => z) fun _ _ z => z
  have IG : Inv X pins σ H' { s6 with heap := G } := I3.call' (ch := fp) (by show s6.os = s3.os; rw [os]; exact I5.os) u hokG ag fun b hb => ⟨(f3 b hb).1.2.2.2.1, (f3 b hb).1.2.1, (f3 b hb).1.2.2.2.2.1, (f3 b hb).1.2.2.2.2.2⟩
  refine ⟨a, B', { s6 with heap := G }, pins, σ, H', cls, d, rfl, IG, fun b o z hb => ?_, Heap.UpToSlots.of_keeps fun b o z => (og b o z).1, .inr (.inr ?_), na, rfl, ag, w⟩
  · obtain ⟨z1, z2⟩ := og b o z
    rcases z2 with z2 | z2
    · obtain ⟨o', q⟩ := Option.isSome_iff_exists.mp z2
      rw [st3 b o' q] at z1; cases z1
      exact q
    · exact absurd z2 hb
  · rw [hs]; exact held3
abbrev BlkX (X : Cx) (scope : Scope) (s0 : Shared) (H0 : Hp) (C : Addr) (cl : List (Str × Addr)) (fp : List Addr) (pn : List (Addr × Obj)) (xe : Value → Shared → Prop) : Cx := (X.blk s0 H0 scope (compEnvC scope cl C X.env) fp).tr pn xe
theorem lcx_core {X : Cx} {W : WX} {pins : List (Addr × Obj)} {s : Shared} {σ : L2.St} {H : Hp} {Q : VK} {elt tg iter : Expr} {ifs : List Expr} {scope : Scope} {own : List (Str × Nat)} {pos pos' : Pos} {wi : TI} {g : TG} {tt : TT} {te : TE} {use : Option (Value → Sem Unit)} {Qf : Value → Shared → Prop}
    (hc : X.calm = true) (hN : X.N.Nodup) (tk : Takes X W) (hs0 : X.stack = X.env :: X.outer) (hf0 : X.env.frame = some X.env.locals) (I : Inv X pins σ H s) (hi : PI X tg iter wi) (ok : BlkOk X.N X.env.scope scope own)
    (hg : ∀ (s : Shared) (H : Hp) (C : Addr) (cl : List (Str × Addr)) (fp : List Addr), PG (X.blk s H scope (compEnvC scope cl C X.env) fp) tg g) (ht : ∀ (s : Shared) (H : Hp) (C : Addr) (cl : List (Str × Addr)) (fp : List Addr), PTs (X.blk s H scope (compEnvC scope cl C X.env) fp) ifs tt)
    (he : ∀ s0 H0 C cl fp pn xe, (∀ σ', PassesAt (L2.CX X.prog X.w) (BlkX X scope s0 H0 C cl fp pn xe) σ' (fun cls d H' => W cls d σ H')) → PE (BlkX X scope s0 H0 C cl fp pn xe) elt te) (hs : ∀ x, foldedSetIterable iter X.env x = pure x)
    (h : tLc wi g tt te (own.map (·.2)) σ H Q)
    (hRR : ∀ D ce s' m H', Inv X pins σ H' s' → Q (.ref D) H' → s'.heap.Ns ce.locals m → FpOk X pins H' ce.locals → cEnd (model X.prog X.w) X.A X.xe use Qf (.ref D) ce (.ok .next) s') :
    wpAny (model X.prog X.w) X.A (comprehension (.ListComp elt [⟨tg, iter, ifs, 0⟩] scope pos) scope X.env pos' (newList []) false (eval iter X.env) use) Qf X.xe s := by
  have hfree : ∀ y ∈ scope.names, y.2 = .free → ∃ c, X.env.cells.lookup y.1 = some c := by
    intro y hy e
    exact (ok.free y hy e).elim (fun k => I.ok.has _ (.inl k)) fun k => I.ok.has _ (.inr k)
  refine comp_runs (use := use) rfl hs (closure_ok hfree) ok.kind (fun y hy e => by rw [ok.uniq y hy, e]) ?_
  apply thn (hi.run pins s σ H _ I h)
  intro xv t1 hx
  apply thn hx
  rintro itv t2 ⟨it, fp, tn, J, H2, rfl, I2, T, st2, f2, q⟩
  refine wpAny_newObj_type (newEnv_comp ?_) (by show 0 ≤ sizeLine; decide)
  obtain ⟨D, hD⟩ : ∃ D, D = t2.heap.objs.size := ⟨_, rfl⟩
  rw [← hD]
  obtain ⟨W0, ⟨m0, w0⟩, turn⟩ := q D (I2.hok.fresh (Nat.le_of_eq hD.symm))
  generalize hs3 : ({ t2 with heap := t2.heap.push { cls := .type "list", data := .seq ([] : List Value).toArray } } : Shared) = s3
  have e3 : s3.heap = t2.heap.push { cls := .type "list", data := .seq ([] : List Value).toArray } := by rw [← hs3]
  have I3 : Inv X pins σ (upd H2 D (.lst [])) s3 := by
    subst hs3 hD
    exact I2.laid (t' := t2.toks) (fun b o z => Heap.get?_push_of_some _ z) (Nat.le_refl _) ⟨Nat.zero_le _, [], 0, .nil, Heap.get?_push_size _ rfl⟩
  have f3 : ∀ b ∈ fp, FpOk X pins (upd H2 D (.lst [])) b ∧ b < s3.heap.objs.size := by
    intro b hb
    obtain ⟨o, z, _⟩ := T.obj _ _ st2 b hb
    have lt := Heap.lt_size z
    refine ⟨⟨?_, (f2 b hb).2⟩, by rw [e3, Heap.size_push]; exact Nat.lt_succ_of_lt lt⟩
    rw [upd_ne (by rw [hD]; exact Nat.ne_of_lt lt)]
    exact (f2 b hb).1
  have st3 : tn 0 s3.heap := T.keep _ _ _ st2 fun b _ o z => by rw [e3]; exact Heap.get?_push_of_some _ z
  have I4 := block_start I3 ok hN f3
  show codeAny _ _ (.compStart (.ListComp elt [⟨tg, iter, ifs, 0⟩] scope pos) 0 (.ref it) (.ref D) (compEnvC scope (cellsFrom (s3.heap.objs.size + 1) scope.names (cloFrom X.env.cells scope.names [])) s3.heap.objs.size X.env)) (cEnd (model X.prog X.w) X.A X.xe use Qf (.ref D) (compEnvC scope (cellsFrom (s3.heap.objs.size + 1) scope.names (cloFrom X.env.cells scope.names [])) s3.heap.objs.size X.env)) { s3 with heap := pushCells (s3.heap.push { cls := .type "dict", data := .dict #[] }) scope.names }
  generalize cellsFrom (s3.heap.objs.size + 1) scope.names (cloFrom X.env.cells scope.names []) = cl at I4 ⊢
  have pg := hg s3 (upd H2 D (.lst [])) s3.heap.objs.size cl fp
  have pt := ht s3 (upd H2 D (.lst [])) s3.heap.objs.size cl fp
  have px := he s3 (upd H2 D (.lst [])) s3.heap.objs.size cl fp
  unfold BlkX at px
  have pas := fun pn σ' => blk_out (scope := scope) (ce := compEnvC scope cl s3.heap.objs.size X.env) (use := use) (Qf := Qf) (acc := .ref D) tk hs0 hf0 I3 f3 rfl rfl pn σ'
  have n3 : ∀ b ∈ fp, (upd H2 D (.lst [])) b = none := fun b hb => (f3 b hb).1.1
  have cL : (compEnvC scope cl s3.heap.objs.size X.env).locals = s3.heap.objs.size := rfl
  generalize hce : compEnvC scope cl s3.heap.objs.size X.env = ce at I4 pg pt px pas cL ⊢
  generalize upd H2 D (.lst []) = H3 at I3 I4 pg pt px pas w0 n3 f3
  generalize hs4 : ({ s3 with heap := pushCells (s3.heap.push { cls := .type "dict", data := .dict #[] }) scope.names } : Shared) = s4 at I4 ⊢
  have st4 : tn 0 s4.heap := T.keep _ _ _ st3 fun b _ o z => by rw [← hs4]; exact pushCells_keeps _ _ _ _ (Heap.get?_push_of_some _ z)
  have stat : ∀ {σ' : L2.St} {H' : Hp} {s' : Shared}, Inv (X.blk s3 H3 scope ce fp) [] σ' H' s' → (∀ b ∈ fp, H' b = none) → ∀ b ∈ fp, FpOk (X.blk s3 H3 scope ce fp) [] H' b := by
    intro σ' H' s' I' hn b hb
    exact ⟨hn b hb, (I'.ok.exf b hb).1, I'.ok.exfs b hb, .inl hb, fun x c z => (I'.ok.exf b hb).2 x c z, fun p hp => absurd (show p ∈ ([] : List (Addr × Obj)) ++ [] from hp) (by simp)⟩
  have loop : codeAny (model X.prog X.w) X.A (.compLoop (.ListComp elt [⟨tg, iter, ifs, 0⟩] scope pos) 0 (.ref it) (.ref D) ce) (cEnd (model X.prog X.w) X.A X.xe use Qf (.ref D) ce) s4 := by
    apply compLoop_any (fun n s' => ∃ i H', Inv (X.blk s3 H3 scope ce fp) [] (wipe σ (own.map (·.2))) H' s' ∧ tn i s'.heap ∧ (∀ b ∈ fp, H' b = none) ∧ W0 i n H') _ m0 ⟨0, H3, I4, st4, n3, w0⟩
    rintro n s5 ⟨i, H5, I5, st5, n5, w5⟩
    rcases turn i n H5 w5 with ⟨stop, qq⟩ | ⟨go, Nx, hNx, step⟩
    · apply thnF (T.done (X.blk s3 H3 scope ce fp) rfl rfl rfl hc i [] s5 _ H5 (fun _ _ => False) I5 (stat I5 n5) st5 stop)
      rintro r s6 ⟨rfl, I6⟩
      have I7 : Inv X pins σ H5 s6 := I3.call' (ch := fp) I6.os I6.base I6.hok I6.bare fun b hb => ⟨(f3 b hb).1.2.2.2.1, (f3 b hb).1.2.1, (f3 b hb).1.2.2.2.2.1, (f3 b hb).1.2.2.2.2.2⟩
      have nC : H5 ce.locals = none := I6.free
      obtain ⟨m, hn, _⟩ := I6.loc
      exact hRR D ce s6 m H5 I7 qq hn (I3.fpOk (by rw [cL]; exact Nat.le_refl _) nC)
    · apply thnF (T.item (X.blk s3 H3 scope ce fp) rfl rfl rfl hc i [] s5 _ H5 (fun _ _ => False) I5 (stat I5 n5) st5 go)
      rintro r s6 ⟨u, rfl, h6⟩
      apply thnF h6
      rintro _ s7 ⟨x, H7, I7, r7, y7, st7, n7⟩
      apply thnF (pg.run _ s7 _ H7 x u _ (I7.pinned (stat I7 n7) (T.obj _ _ st7)) r7 (step x H7 y7))
      rintro _ s8 ⟨σ8, H8, I8, hw8, q8⟩
      apply thnF (pt.run _ s8 σ8 H8 _ I8 q8)
      rintro b s9 ⟨H9, I9, q9⟩
      have fin : ∀ {s' : Shared} {H' : Hp}, Inv (X.blk s3 H3 scope ce fp) ([] ++ pinsAt fp s7.heap) σ8 H' s' → Nx H' → ∃ m, m < n ∧ ∃ i H', Inv (X.blk s3 H3 scope ce fp) [] (wipe σ (own.map (·.2))) H' s' ∧ tn i s'.heap ∧ (∀ b ∈ fp, H' b = none) ∧ W0 i m H' := by
        intro s' H' I' nx
        obtain ⟨m', hm, w'⟩ := hNx H' nx
        have pin' : ∀ b ∈ fp, ∀ o, s7.heap.get? b = some o → s'.heap.get? b = some o ∧ H' b = none := by
          intro b hb o z
          obtain ⟨z1, z2, _⟩ := I'.pin (b, o) (List.mem_append_right _ (List.mem_append_right _ (mem_pinsAt hb z)))
          exact ⟨z1, z2⟩
        refine ⟨m', hm, i + 1, H', (I'.unpinned (pins := [])).weak (by rw [← hw8, wipe_length]) ?_, T.keep _ _ _ st7 fun b hb o z => (pin' b hb o z).1, ?_, w'⟩
        · intro j v z
          rw [← hw8] at z
          exact (wipe_some z).1
        · intro b hb
          obtain ⟨o, z, _⟩ := T.obj _ _ st7 b hb
          exact (pin' b hb o z).2
      cases b with
      | false =>
        rw [if_neg Bool.false_ne_true] at q9 ⊢
        exact fin I9 q9
      | true =>
        rw [if_pos rfl] at q9 ⊢
        have pe := px _ _ (pas ((X.blk s3 H3 scope ce fp).pn ++ ([] ++ pinsAt fp s7.heap)))
        refine wpAny_mono (pe.run [] s9 σ8 H9 _ (I9.toTry _) q9) ?_ (fun _ _ z => z)
        rintro z s10 ⟨yv, H10, I10, r10, acc, hD10, hz10, nx⟩
        exact app_ok (X := X.blk s3 H3 scope ce fp) (I10.ofTry I9.ok) hD10 hz10 r10 fun s11 I11 => fin I11 nx
  exact codeAny_compStart_list loop (T.self X.A 0 _ _ _ st4 loop)
end Dy

namespace Dy
open PySem PySem.Spec L2
open PyProof.Rows hiding St
open Enc (rep)
open EncA (repA)

def mapR {α β : Type} (f : α → Option (Rz β)) : List α → Option (Rz (List β))
  | [] => some (.ok [])
  | x :: xs => match f x with
    | none => none
    | some (.er e) => some (.er e)
    | some (.ok y) => match mapR f xs with
      | none => none
      | some (.er e) => some (.er e)
      | some (.ok ys) => some (.ok (y :: ys))
def okO {β : Type} (m : Option (Rz β)) : Option β := match m with
  | some (.ok y) => some y
  | _ => none
theorem okO_some {β : Type} {m : Option (Rz β)} {y : β} (h : okO m = some y) : m = some (.ok y) := by
  match m with
  | none => cases h
  | some (.er e) => cases h
  | some (.ok z) => cases h; rfl
theorem mapR_ok {α β : Type} {f : α → Option (Rz β)} : ∀ {xs : List α} {ys : List β}, mapR f xs = some (.ok ys) → mapO (fun x => okO (f x)) xs = some ys
  | [], ys, h => by cases h; rfl
  | x :: xs, ys, h => by
    unfold mapR at h
    cases hx : f x with
    | none => rw [hx] at h; cases h
    | some r => cases r with
      | er e => rw [hx] at h; cases h
      | ok y =>
        rw [hx] at h
        dsimp only at h
        cases hr : mapR f xs with
        | none => rw [hr] at h; cases h
        | some q => cases q with
          | er e => rw [hr] at h; cases h
          | ok zs =>
            rw [hr] at h
            cases h
            have := mapR_ok hr
            unfold mapO at this ⊢
            unfold compO
            rw [Option.bind_some, if_pos rfl, hx]
            show Option.bind (some y) _ = _
            rw [Option.bind_some, this]
            rfl
def ErX (K : PySem.W.Frag) (s : S) (er : Er) : XK := fun cls d H' => ∃ s2 : S, s2.H = H' ∧ Ex s s2 ∧ ExR K s2.F er cls d
section
variable {X : Cx} {σ : L2.St} {s : S} {e : Expr} {es : List Expr} {p0 pos : Pos}
theorem evX_callP {A : Type} [EncA A] {ρ : Type} [Enc ρ] {m : A → Option (Rz ρ)} {n : Str} {k j : Nat} {x : A} {er : Er} {s0 : S} (C : Cal X.prog X.w X.K X.mg X.base (L2.CX X.prog X.w) k n (spR X.K m)) (px : ∀ σ', PassesAt (L2.CX X.prog X.w) X σ' (ErX X.K s0 er)) (k0 : Ex s0 s) (hr : Room j X.A) (hk : k ≤ j)
    (ha : EvA X (e :: es) σ s x) (h : m x = some (.er er)) (hg : Gl X n := by rfl)
    (hdb : (n == ("__debug__" : Str)) = false := by decide) (he : starEach (e :: es) X.env = (false, eval e X.env) :: starEach es X.env := by rfl) (hpl : (backTo pos (starEach es X.env)).any (·.1) = false := by rfl) : EvX X (.Call (.Name n p0) (e :: es) [] pos) σ s := fun s1 k1 Q => by
  obtain ⟨f, fd, ps, F, hm, kp, b⟩ := C.ex
  exact we_of (pe_callS (E := fun _ => ErX X.K s0 er) F (hr.mono hk) hg hm kp b px pa_wa hdb he hpl) (ha s1 k1 _ fun vs s2 k2 r2 => ⟨s2, x, .er er, rfl, r2, h, fun cls d s3 k3 r3 => ⟨s3, rfl, k0.trans ((k1.trans k2).trans k3), r3⟩⟩)
end
section
variable {α β : Type} [Enc α] [Enc β] {X : Cx} {σ : L2.St} {s : S} {elt tg iter c : Expr} {scope : Scope} {own : List (Str × Nat)} {pos : Pos} {W : WX}
abbrev teX (X : Cx) (scope : Scope) (elt : Expr) (s : S) (er : Er) : TE := fun σ H Q => ∀ s0 H0 C cl fp pn xe, (∀ σ', PassesAt (L2.CX X.prog X.w) (BlkX X scope s0 H0 C cl fp pn xe) σ' (ErX X.K s er)) → WE (BlkX X scope s0 H0 C cl fp pn xe) elt σ H Q
theorem comp_readX {xs : List α} {f : α → Option (Rz β)} {er : Er} {g : TG} {B : Hp → α → L2.St → L2.St → Prop} (hi : EvI X tg iter σ s xs) (T : Tgt (α := α) X.K g B) (hf : mapR f xs = some (.er er)) (hz : xs.length ≤ sizeLine)
    (hw : ∀ (F : Hp) (x : α) σ2, B F x (wipe σ (own.map (·.2))) σ2 → wipe σ2 (own.map (·.2)) = wipe σ (own.map (·.2)))
    (he : ∀ (x : α) (y : β) (s1 : S) (σ2 : L2.St), x ∈ xs → Ex s s1 → B s1.F x (wipe σ (own.map (·.2))) σ2 → f x = some (.ok y) → ∀ s0 H0 C cl fp pn xe, Ev (BlkX X scope s0 H0 C cl fp pn xe) elt σ2 s1 y)
    (hx : ∀ (x : α) (s1 : S) (σ2 : L2.St), x ∈ xs → Ex s s1 → B s1.F x (wipe σ (own.map (·.2))) σ2 → f x = some (.er er) → ∀ s0 H0 C cl fp pn xe, (∀ σ', PassesAt (L2.CX X.prog X.w) (BlkX X scope s0 H0 C cl fp pn xe) σ' (ErX X.K s er)) → EvX (BlkX X scope s0 H0 C cl fp pn xe) elt σ2 s1)
    (s1 : S) (k : Ex s s1) (Q : VK) : tLc (WI X tg iter) g tYes (teX X scope elt s er) (own.map (·.2)) σ s1.H Q := by
  refine hi s1 k _ fun J s2 k2 W => ?_
  intro D hD
  refine ⟨fun i m H => ∃ (u : S) (pre : List β) (vs : List V), u.H = H ∧ m = xs.length - i ∧ Ex s2 u ∧ u.F D = none ∧ u.H D = some (.lst vs) ∧ Reps X.K u.F vs pre ∧ vs.length = i ∧ mapR f (xs.drop i) = some (.er er), ⟨xs.length, s2.newO D (.lst []) hD, [], [], rfl, rfl, Ex.newO hD, (fF hD : s2.F D = none), upd_same, trivial, rfl, hf⟩, ?_⟩
  rintro i m H ⟨u, pre, vs, rfl, rfl, ku, n1, n2, n3, n4, h1⟩
  by_cases hi' : i < xs.length
  · right
    have hx' : xs[i]? = some xs[i] := List.getElem?_eq_getElem hi'
    obtain ⟨g1, g2⟩ := W.go i u xs[i] ku.f hx'
    refine ⟨g1, fun H' => ∃ m', m' < xs.length - i ∧ ∃ (u : S) (pre : List β) (vs : List V), u.H = H' ∧ m' = xs.length - (i + 1) ∧ Ex s2 u ∧ u.F D = none ∧ u.H D = some (.lst vs) ∧ Reps X.K u.F vs pre ∧ vs.length = i + 1 ∧ mapR f (xs.drop (i + 1)) = some (.er er), fun H' z => z, fun v H' hy => ?_⟩
    obtain ⟨u', rfl, ku', rv⟩ := g2 v H' hy
    refine T.run u' v xs[i] _ _ rv fun σ2 hB => ⟨hw _ _ _ hB, ?_⟩
    have mem : xs[i] ∈ xs := List.getElem_mem hi'
    have base : Ex s u' := (k.trans k2).trans (ku.trans ku')
    unfold tYes
    dsimp only
    rw [if_pos rfl]
    rw [List.drop_eq_getElem_cons hi'] at h1
    unfold mapR at h1
    intro s0 H0 C cl fp pn xe hp
    cases hfx : f xs[i] with
    | none => rw [hfx] at h1; cases h1
    | some r => cases r with
      | er e2 =>
        rw [hfx] at h1
        cases h1
        exact hx xs[i] u' σ2 mem base hB hfx s0 H0 C cl fp pn xe hp u' (Ex.refl u') _
      | ok y =>
        rw [hfx] at h1
        dsimp only at h1
        have h2 : mapR f (xs.drop (i + 1)) = some (.er er) := by
          cases hr : mapR f (xs.drop (i + 1)) with
          | none => rw [hr] at h1; cases h1
          | some q => cases q with
            | er e2 => rw [hr] at h1; cases h1; rfl
            | ok ys => rw [hr] at h1; cases h1
        refine he xs[i] y u' σ2 mem base hB hfx s0 H0 C cl fp pn xe u' (Ex.refl _) _ fun w u4 k4 r4 => ?_
        have k5 : Ex u u4 := ku'.trans k4
        have hD4 : u4.H D = some (.lst vs) := k5.h _ _ n2
        have hF4 : u4.F D = none := k5.n _ _ n2 n1
        exact ⟨vs, hD4, by omega, _, by omega, u4.put D (.lst (vs ++ [w])) hF4, pre ++ [y], vs ++ [w], rfl, rfl, (ku.trans k5).mu1 (Mx.put hF4) hD, hF4, upd_same, (n3.mono k5.f).snoc r4, by rw [List.length_append, n4]; rfl, h2⟩
  · rw [List.drop_eq_nil_of_le (by omega)] at h1
    cases h1
structure EvLX (X : Cx) (elt tg iter : Expr) (scope : Scope) (σ : L2.St) (s : S) : Prop where
  calm : X.calm = true
  nd : X.N.Nodup
  fs : ∀ x, foldedSetIterable iter X.env x = pure x
  st : X.stack = X.env :: X.outer
  fr : X.env.frame = some X.env.locals
  ex : ∃ (own : List (Str × Nat)) (g : TG) (W : WX) (er : Er), BlkOk X.N X.env.scope scope own ∧ (∀ s0 H0 C cl fp, PG (Blk X scope s0 H0 C cl fp) tg g) ∧ Takes X W ∧ (∀ s2, Ex s s2 → ∀ cls d, ExR X.K s2.F er cls d → W cls d σ s2.H) ∧
    ∀ s1, Ex s s1 → ∀ Q : VK, tLc (WI X tg iter) g tYes (teX X scope elt s er) (own.map (·.2)) σ s1.H Q
theorem EvLX.run {ps : Pos} {use : Option (Value → Sem Unit)} {Qf : Value → Shared → Prop} {pins : List (Addr × Obj)} {sh : Shared} {s1 : S} (h : EvLX X elt tg iter scope σ s) (k : Ex s s1) (I : Inv X pins σ s1.H sh) :
    wpAny (model X.prog X.w) X.A (comprehension (.ListComp elt [⟨tg, iter, [], 0⟩] scope pos) scope X.env ps (newList []) false (eval iter X.env) use) Qf X.xe sh := by
  obtain ⟨own, g, W, er, h1, h2, tk, hw, h4⟩ := h.ex
  have tk' : Takes X (fun cls d σ' H' => σ' = σ ∧ ErX X.K s er cls d H') := tk.imp fun cls d σ' H' z => by
    obtain ⟨rfl, s2, rfl, k2, r⟩ := z
    exact hw s2 k2 cls d r
  refine lcx_core (W := fun cls d σ' H' => σ' = σ ∧ ErX X.K s er cls d H') h.calm h.nd tk' h.st h.fr I pi_wi h1 h2 (fun _ _ _ _ _ => pts_nil) (te := teX X scope elt s er) (fun s0 H0 C cl fp pn xe hp => pe_im fun _ _ _ q => q s0 H0 C cl fp pn xe (fun σ' pins H s' e s'' i c => hp σ' pins H s' e s'' i ?_)) h.fs (h4 s1 k (fun _ _ => False)) (fun D ce s' m H' _ q => q.elim)
  obtain ⟨a, B, H', cls, d, c1, c2, c3, c4, c5, c6, c7, c8⟩ := c
  exact ⟨a, B, H', cls, d, c1, c2, c3, c4, c5, c6, c7, rfl, c8⟩
theorem EvLX.x (h : EvLX X elt tg iter scope σ s) : EvX X (.ListComp elt [⟨tg, iter, [], 0⟩] scope pos) σ s := fun s1 k Q => Hold.mk fun pins sh I => by
  rw [eval_ListComp]
  exact h.run k I
theorem do_setLX {n : Str} {py spos : Pos} {rest : List Stmt} {D : Ends} (h : EvLX X elt tg iter scope σ s) (hk : X.env.scope.kind = .function) (hy : X.env.scope.names.lookup n = some .local)
    (hl : (py.line == pos.line) = true := by rfl) (ha : (scope.names.any fun (m, k) => m == n && (k == .local || k == .cell)) = false := by decide +kernel) :
    WSs X (.Assign [.Name n py] (.ListComp elt [⟨tg, iter, [], 0⟩] scope pos) spos :: rest) D σ s.H := by
  refine do_cons (ts := fun D σ' H' => σ' = σ ∧ H' = s.H) ⟨fun pins sh σ' H' D' I z => ?_⟩ ⟨rfl, rfl⟩
  obtain ⟨rfl, rfl⟩ := z
  rw [exec_Assign_Name_used _ _ _ _ (sw_true hk hy hl ha)]
  refine wpAny_bind (wpAny_standAt (wpAny_bind ?_))
  exact wpAny_bind (h.run (Ex.refl s) I)
theorem en_compX {xs : List α} {f : α → Option (Rz β)} {er : Er} {j : Nat} {n : Str} {py : Pos} (hc : X.calm = true) (hN : X.N.Nodup) (st : X.stack = X.env :: X.outer) (fr : X.env.frame = some X.env.locals) (tk : Takes X W) (hi : EvI X (.Name n py) iter σ s xs) (ok : BlkOk X.N X.env.scope scope own) (hj : X.N[j]? = some n)
    (hjo : j ∈ own.map (·.2)) (hg : ∀ s0 H0 C cl fp, PG (Blk X scope s0 H0 C cl fp) (.Name n py) (gName j)) (hf : mapR f xs = some (.er er)) (hz : xs.length ≤ sizeLine) (hw : ∀ cls d s2, Ex s s2 → ExR X.K s2.F er cls d → W cls d σ s2.H)
    (he : ∀ (x : α) (y : β) (v : V) (s1 : S), x ∈ xs → Ex s s1 → rep X.K s1.F v x → f x = some (.ok y) → ∀ s0 H0 C cl fp pn xe, Ev (BlkX X scope s0 H0 C cl fp pn xe) elt ((wipe σ (own.map (·.2))).set j (some v)) s1 y)
    (hx : ∀ (x : α) (v : V) (s1 : S), x ∈ xs → Ex s s1 → rep X.K s1.F v x → f x = some (.er er) → ∀ s0 H0 C cl fp pn xe, (∀ σ', PassesAt (L2.CX X.prog X.w) (BlkX X scope s0 H0 C cl fp pn xe) σ' (ErX X.K s er)) → EvX (BlkX X scope s0 H0 C cl fp pn xe) elt ((wipe σ (own.map (·.2))).set j (some v)) s1)
    (hs : ∀ x, foldedSetIterable iter X.env x = pure x := by intro _; rfl) : EvLX X elt (.Name n py) iter scope σ s :=
  ⟨hc, hN, hs, st, fr, own, _, W, er, ok, hg, tk, fun s2 k cls d r => hw cls d s2 k r, fun s1 k Q => comp_readX hi tg_n hf hz (fun F x σ2 ⟨v, _, e⟩ => by rw [e, wipe_set hjo]; exact wipe_wipe fun _ z => z)
    (fun x y s1 σ2 hx' k ⟨v, r, e⟩ hfx => by subst e; exact he x y v s1 hx' k r hfx) (fun x s1 σ2 hx' k ⟨v, r, e⟩ hfx => by subst e; exact hx x v s1 hx' k r hfx) s1 k Q⟩
theorem evX_sum {p0 : Pos} (hm : X.mg "sum" = none) (ha : EvX X elt σ s) (hc : X.calm = true := by rfl) (hg : Gl X "sum" := by rfl) (he : starEach [elt] X.env = (false, eval elt X.env) :: starEach [] X.env := by rfl) (hpl : (backTo pos (starEach [] X.env)).any (·.1) = false := by rfl) : EvX X (.Call (.Name "sum" p0) [elt] [] pos) σ s := fun s1 k Q =>
  we_of (pe_callB (cr_sum hc) hg hm (by decide +kernel) (pa_cons pe_we pa_nil he) (by decide) (by decide) he hpl) (ha s1 k _)
end
section
variable {X : Cx} {σ : L2.St} {s : S} {a b : Expr} {es : List Expr} {pos : Pos}
theorem ew_and1 {x : Bool} (h : EvT X a σ s x) : EvW X (.BoolOp .And [a] pos) σ s x := fun s1 k Q q => ww_of (pw_and1 pt_wt) (h s1 k Q q)
theorem ew_or1 {x : Bool} (h : EvT X a σ s x) : EvW X (.BoolOp .Or [a] pos) σ s x := fun s1 k Q q => ww_of (pw_or1 pt_wt) (h s1 k Q q)
theorem ew_and {x y : Bool} (h : EvT X a σ s x) (h2 : x = true → EvW X (.BoolOp .And (b :: es) pos) σ s y) : EvW X (.BoolOp .And (a :: b :: es) pos) σ s (x && y) := fun s1 k Q q =>
  ww_of (pw_and pt_wt pw_ww) (h s1 k _ fun s2 k2 => by
    cases x with
    | true => exact iteT ((h2 rfl) s2 (k.trans k2) Q fun s3 k3 => q s3 (k2.trans k3))
    | false => exact iteF (q s2 k2))
theorem ew_or {x y : Bool} (h : EvT X a σ s x) (h2 : x = false → EvW X (.BoolOp .Or (b :: es) pos) σ s y) : EvW X (.BoolOp .Or (a :: b :: es) pos) σ s (x || y) := fun s1 k Q q =>
  ww_of (pw_or pt_wt pw_ww) (h s1 k _ fun s2 k2 => by
    cases x with
    | true => exact iteT (q s2 k2)
    | false => exact iteF ((h2 rfl) s2 (k.trans k2) Q fun s3 k3 => q s3 (k2.trans k3)))
end
end Dy

set_option maxHeartbeats 1000000
namespace L2
open PySem PySem.Spec PyProof.Rows
abbrev SuT := Addr → Value → Option Addr → TS
def wG (K : PySem.W.Frag) : List (Option Nat × Value × SuT) → WX → Ends → WX
  | [], Wout, _ => Wout
  | (some i, c, ts) :: r, Wout, D => wAs K c i ts (wG K r Wout D) D
  | (none, c, ts) :: r, Wout, D => wOnly K c ts (wG K r Wout D) D
inductive HdsG (X : Cx) : List ExceptHandler → List (Option Nat × Value × SuT) → Prop
  | nil : HdsG X [] []
  | as {x n : Str} {i : Nat} {c : Value} {ts : SuT} {b₀ : Stmt} {suite : List Stmt} {np pos' : Pos} {hds : List ExceptHandler} {l : List (Option Nat × Value × SuT)} (hi : X.N[i]? = some n) (hln : X.env.kindOf n = some .local) (hc : Names X x c)
      (hsu : ∀ (a : Addr) (oe : Obj) (cls : Value) (d : Option Addr) (pn : List (Addr × Obj)), Zc cls d oe → (∃ vs, oe.data = .fields vs) → PSs (X.suite a ((a, oe) :: pn)) (b₀ :: suite) (ts a cls d)) (r : HdsG X hds l) :
      HdsG X (.ExceptHandler (some (.Name x np)) (some n) (b₀ :: suite) pos' :: hds) ((some i, c, ts) :: l)
  | no {x : Str} {c : Value} {ts : SuT} {b₀ : Stmt} {suite : List Stmt} {np pos' : Pos} {hds : List ExceptHandler} {l : List (Option Nat × Value × SuT)} (hc : Names X x c)
      (hsu : ∀ (a : Addr) (oe : Obj) (cls : Value) (d : Option Addr) (pn : List (Addr × Obj)), Zc cls d oe → (∃ vs, oe.data = .fields vs) → PSs (X.suite a ((a, oe) :: pn)) (b₀ :: suite) (ts a cls d)) (r : HdsG X hds l) :
      HdsG X (.ExceptHandler (some (.Name x np)) none (b₀ :: suite) pos' :: hds) ((none, c, ts) :: l)
section
variable {X : Cx} {body : List Stmt} {h₀ : ExceptHandler} {hds : List ExceptHandler} {l : List (Option Nat × Value × SuT)} {pos : Pos} {tb : WX → TS} {Wout : WX}
theorem ps_tryG (hs : X.stack = X.env :: X.outer) (hf : X.env.frame = some X.env.locals) (hN : X.N.Nodup) (tk : Takes X Wout)
    (hb : ∀ (W : WX) (pn : List (Addr × Obj)) (xe : Value → Shared → Prop), Takes (X.tr pn xe) W → PassesOwn (model X.prog X.w) X.A X.env xe → PSs (X.tr pn xe) body (tb W))
    (hh : HdsG X (h₀ :: hds) l) :
    PS X (.Try body (h₀ :: hds) [] [] pos) (fun D σ H => tb (wG X.K l Wout D) D σ H) := by
  refine ⟨fun pins s σ H D I h => ?_⟩
  have ok := I.ok
  have hfr : X.A.frames = some (X.env :: X.outer) := by rw [ok.frames, hs]
  refine wpAny_Try_except ?_
  refine wpAny_mono ((hb (wG X.K l Wout D) (X.pn ++ pins) (fun e s₁ => wpAny (model X.prog X.w) X.A (noteFrame e X.env) (fun _ s₂ => wpAny (model X.prog X.w) X.A (setFlight e none) (fun _ s₃ =>
    wpAny (model X.prog X.w) X.A (handleBy e X.env (h₀ :: hds)) (SP X pins D) X.xe s₃) X.xe s₂) X.xe s₁) (fun u s' xx => ?_) PassesOwn.looking).run [] s σ H D (I.toTry _) h) (fun f s1 hsp => ?_) (fun e s1 he => he)
  · -- the catch
    obtain ⟨a, B, sI, pins', σ', H', cls, d, rfl, J', nb, up, sky, na, os, ag, w⟩ := xx
    have J : Inv X pins σ' H' sI := J'.ofTry ok
    have sky' : Sky B (X.env :: X.outer) a (Zc cls d) X.env.locals s'.heap := by rw [← hs]; exact sky
    show wpAny (model X.prog X.w) X.A (noteFrame (.ref a) X.env) _ _ _
    refine Sky.land Zc.steady hfr hf sky' fun h3 fl3 up3 => ?_
    have J3 : Inv X pins σ' H' { s' with heap := h3 } := J.landed nb fl3.1 (up.trans up3) os ag
    obtain ⟨oe3, vs3, he3, hz3, hd3⟩ := fl3.there
    have notFr : ∀ {h : Heap} {o : Obj} {vs : Array Value}, h.FunFrames B (X.env :: X.outer) → h.get? a = some o → o.data = .fields vs → a ∉ frs (X.env :: X.outer) := fun {h o vs} ff e dd hm => by
      obtain ⟨_, o', e', hnf⟩ := ff.mem hm
      rw [e] at e'; cases e'
      exact hnf _ dd
    have nfr := notFr fl3.2.2.1 he3 hd3
    have nL : a ≠ X.env.locals := fun z => nfr (List.mem_filterMap.mpr ⟨X.env, List.mem_cons_self, by rw [hf, z]⟩)
    have nF : a ∉ X.fs := fun hm => by
      obtain ⟨e, he, q⟩ := List.mem_filterMap.mp hm
      exact nfr (List.mem_filterMap.mpr ⟨e, List.mem_cons_of_mem _ he, q⟩)
    have S3 := J3.suite he3 hd3 na nL nF
    have go : ∀ {hds' : List ExceptHandler} {l' : List (Option Nat × Value × SuT)}, HdsG X hds' l' → wG X.K l' Wout D cls d σ' H' →
        wpAny (model X.prog X.w) X.A (handleBy (.ref a) X.env hds') (SP X pins D) X.xe { s' with heap := h3 } := by
      intro hds' l' hk
      induction hk with
      | nil =>
        intro w
        refine wpAny_handleBy_nil ?_
        obtain ⟨k1, k2, k3, oe, vs, T, oT, ts', he, hz, hd, h1, hr⟩ := id fl3
        unfold PySem.passOn
        refine wpAny_bind (wpAny_field he hd h1 ?_)
        rw [if_neg (show ¬ ((Value.ref T == Value.none) = true) from by simp)]
        have fin : wpAny (model X.prog X.w) X.A (setFlight (.ref a) X.env.frame) (fun _ s4 => wpAny (model X.prog X.w) X.A (throw (.ref a) : Sem Flow) (SP X pins D) X.xe s4) X.xe { s' with heap := h3 } := by
          rw [hf]
          refine HandSPX.setFlight_upZ fl3 fun h4 hh4 up4 => wpAny_throw (tk _ _ ?_)
          exact ⟨a, B, sI, pins, σ', H', cls, d, rfl, J, nb, (up.trans up3).trans up4, .inr (.inr (by rw [hs]; exact hh4)), na, os, ag, w⟩
        first
          | exact wpAny_bind (wpAny_pure (wpAny_bind fin))
          | exact wpAny_bind fin
      | @as x n i c ts b₀ suite np pos' hds2 l2 hi hln hc hsu r ih =>
        intro w
        have hloc : Loc X.env.scope n := .inl hln
        obtain ⟨b, hb1, hyes, hno⟩ := w
        refine wpAny_handleBy_cons (codeAny_handlers_test ?_) (by intro q; cases q)
        have LT : PySem.W.Looks (model X.prog X.w) h3 (typeOf (.ref a)) cls := fun A Q E s k q => wpAny_typeOf_ref (k _ _ he3) (by rw [hz3.1]; exact q)
        have LM := PySem.W.exm_one (M := model X.prog X.w) (J3.kIn) LT hb1
        have test : ∀ {Q : Value → Shared → Prop} {E : Value → Shared → Prop}, Q c { s' with heap := h3 } → wpAny (model X.prog X.w) (X.A.mark (some (.ref a))) (eval (.Name x np) X.env) Q E { s' with heap := h3 } := fun {Q E} q => by
          obtain ⟨hg, hdbg, hm | ⟨hm, hv, hnn⟩⟩ := hc
          · exact ld_glob (X := X.suite a ((a, oe3) :: (X.pn ++ pins))) S3 hg hm q hdbg
          · exact ld_blt (X := X.suite a ((a, oe3) :: (X.pn ++ pins))) S3 hg hm hv q hnn hdbg
        refine test (LM.here ?_)
        cases b with
        | true =>
          refine codeAny_handlers_suite_as ?_
          refine HandSPX.lands_againZ fl3 fun h4 fl4 up4 => ?_
          have J4 : Inv X pins σ' H' { s' with heap := h4 } := J.landed nb fl4.1 ((up.trans up3).trans up4) os ag
          obtain ⟨oe4, vs4, he4, hz4, hd4⟩ := fl4.there
          have S4 := J4.suite he4 hd4 na nL nF
          refine store_ok (X := X.suite a ((a, oe4) :: (X.pn ++ pins))) (v := .ref a) S4 hN hi hloc rfl (fun s5 S5 => ?_) (.inr hln)
          refine wpAny_mono ((hsu a oe4 cls d (X.pn ++ pins) hz4 ⟨_, hd4⟩).run [] s5 _ H' _ S5 (hyes rfl a na)) (fun f s6 hsp => ?_) (fun _ _ z => False.elim z)
          have end_ : ∀ {σ6 : St} {H6 : Hp} {Q : Shared → Prop}, Inv (X.suite a ((a, oe4) :: (X.pn ++ pins))) [] σ6 H6 s6 → (∀ s7, Inv X pins (σ6.set i none) H6 s7 → Q s7) →
              wpAny (model X.prog X.w) X.A (do bindName X.env n .none; unbindBehindTheSuite X.env n pos') (fun _ s7 => Q s7) X.xe s6 := fun {σ6 H6 Q} S6 hq => gone_ok (S6.unsuite ok) hN hi hln hq
          cases f with
          | next =>
            obtain ⟨σ6, H6, S6, q6⟩ := hsp
            exact end_ S6 fun s7 J7 => ⟨_, _, J7, q6⟩
          | brk =>
            obtain ⟨σ6, H6, S6, q6⟩ := hsp
            exact end_ S6 fun s7 J7 => ⟨_, _, J7, q6⟩
          | cont =>
            obtain ⟨σ6, H6, S6, q6⟩ := hsp
            exact end_ S6 fun s7 J7 => ⟨_, _, J7, q6⟩
          | ret u =>
            obtain ⟨v6, σ6, H6, S6, r6, q6⟩ := hsp
            exact end_ S6 fun s7 J7 => ⟨_, _, _, J7, r6, q6⟩
        | false => exact ih (hno rfl)
      | @no x c ts b₀ suite np pos' hds2 l2 hc hsu r ih =>
        intro w
        obtain ⟨b, hb1, hyes, hno⟩ := w
        refine wpAny_handleBy_cons (codeAny_handlers_test ?_) (by intro q; cases q)
        have LT : PySem.W.Looks (model X.prog X.w) h3 (typeOf (.ref a)) cls := fun A Q E s k q => wpAny_typeOf_ref (k _ _ he3) (by rw [hz3.1]; exact q)
        have LM := PySem.W.exm_one (M := model X.prog X.w) (J3.kIn) LT hb1
        have test : ∀ {Q : Value → Shared → Prop} {E : Value → Shared → Prop}, Q c { s' with heap := h3 } → wpAny (model X.prog X.w) (X.A.mark (some (.ref a))) (eval (.Name x np) X.env) Q E { s' with heap := h3 } := fun {Q E} q => by
          obtain ⟨hg, hdbg, hm | ⟨hm, hv, hnn⟩⟩ := hc
          · exact ld_glob (X := X.suite a ((a, oe3) :: (X.pn ++ pins))) S3 hg hm q hdbg
          · exact ld_blt (X := X.suite a ((a, oe3) :: (X.pn ++ pins))) S3 hg hm hv q hnn hdbg
        refine test (LM.here ?_)
        cases b with
        | true =>
          refine codeAny_handlers_suite (HandSPX.lands_againZ fl3 fun h4 fl4 up4 => ?_)
          have J4 : Inv X pins σ' H' { s' with heap := h4 } := J.landed nb fl4.1 ((up.trans up3).trans up4) os ag
          obtain ⟨oe4, vs4, he4, hz4, hd4⟩ := fl4.there
          have S4 := J4.suite he4 hd4 na nL nF
          apply wpAny_mono ((hsu a oe4 cls d (X.pn ++ pins) hz4 ⟨_, hd4⟩).run [] _ _ H' _ S4 (hyes rfl a na)) _ (fun _ _ z => False.elim z)
          intro f s6 hsp
          cases f with
          | ret u =>
            obtain ⟨v6, σ6, H6, S6, r6, q6⟩ := hsp
            exact ⟨_, _, _, S6.unsuite ok, r6, q6⟩
          | _ =>
            obtain ⟨σ6, H6, S6, q6⟩ := hsp
            exact ⟨_, _, S6.unsuite ok, q6⟩
        | false => exact ih (hno rfl)
    exact go hh w
  · cases f with
    | next =>
      obtain ⟨σ', H', J', q⟩ := hsp
      exact wpAny_execs_nil ⟨σ', H', J'.ofTry ok, q⟩
    | brk =>
      obtain ⟨σ', H', J', q⟩ := hsp
      exact ⟨σ', H', J'.ofTry ok, q⟩
    | cont =>
      obtain ⟨σ', H', J', q⟩ := hsp
      exact ⟨σ', H', J'.ofTry ok, q⟩
    | ret u =>
      obtain ⟨v, σ', H', J', r, q⟩ := hsp
      exact ⟨v, σ', H', J'.ofTry ok, r, q⟩
end
end L2
namespace Dy
open PySem PySem.Spec L2
open PyProof.Rows hiding St
section
variable {X : Cx} {σ : L2.St} {s : S} {D : Ends} {rest : List Stmt} {K : PySem.W.Frag} {c cls : Value} {i : Nat} {ts : SuT} {r : List (Option Nat × Value × SuT)} {Wout : WX} {d : Option Addr} {H : Hp}
theorem wg_as (h : wAs K c i ts (wG K r Wout D) D cls d σ H) : wG K ((some i, c, ts) :: r) Wout D cls d σ H := h
theorem wg_no (h : wOnly K c ts (wG K r Wout D) D cls d σ H) : wG K ((none, c, ts) :: r) Wout D cls d σ H := h
theorem won_of (h1 : PySem.W.exmOne K cls c = some true) (h2 : ∀ a, H a = none → ts a cls d D σ H) : wOnly K c ts Wout D cls d σ H := ⟨true, h1, fun _ => h2, fun z => (by cases z)⟩
theorem won_no (h1 : PySem.W.exmOne K cls c = some false) (h2 : Wout cls d σ H) : wOnly K c ts Wout D cls d σ H := ⟨false, h1, fun z => (by cases z), fun _ => h2⟩
abbrev suT (X : Cx) (ss : List Stmt) : SuT := fun a cls d D σ H => ∀ (oe : Obj) (pn : List (Addr × Obj)), Zc cls d oe → (∃ vs, oe.data = .fields vs) → WSs (X.suite a ((a, oe) :: pn)) ss D σ H
theorem hd_as {x n : Str} {i : Nat} {c : Value} {b₀ : Stmt} {suite : List Stmt} {np pos' : Pos} {hds : List ExceptHandler} {l : List (Option Nat × Value × SuT)} (i' : i = i) (hc : Names X x c) (r : HdsG X hds l) (hi : X.N[i]? = some n := by rfl) (hln : X.env.kindOf n = some .local := by rfl) :
    HdsG X (.ExceptHandler (some (.Name x np)) (some n) (b₀ :: suite) pos' :: hds) ((some i, c, suT X (b₀ :: suite)) :: l) := .as hi hln hc (fun a oe cls d pn hz hv => pss_im fun D σ H hh => hh oe pn hz hv) r
theorem hd_no {x : Str} {c : Value} {b₀ : Stmt} {suite : List Stmt} {np pos' : Pos} {hds : List ExceptHandler} {l : List (Option Nat × Value × SuT)} (hc : Names X x c) (r : HdsG X hds l) :
    HdsG X (.ExceptHandler (some (.Name x np)) none (b₀ :: suite) pos' :: hds) ((none, c, suT X (b₀ :: suite)) :: l) := .no hc (fun a oe cls d pn hz hv => pss_im fun D σ H hh => hh oe pn hz hv) r
theorem do_tryG {body : List Stmt} {h₀ : ExceptHandler} {hds : List ExceptHandler} {l : List (Option Nat × Value × SuT)} {pos : Pos} (hN : X.N.Nodup) (hh : HdsG X (h₀ :: hds) l) (tk : Takes X Wout)
    (h : ∀ pn xe, Takes (X.tr pn xe) (wG X.K l Wout { D with nx := fun σ' H' => WSs X rest D σ' H' }) → PassesOwn (model X.prog X.w) X.A X.env xe → WSs (X.tr pn xe) body { D with nx := fun σ' H' => WSs X rest D σ' H' } σ s.H)
    (hs : X.stack = X.env :: X.outer := by rfl) (hf : X.env.frame = some X.env.locals := by rfl) : WSs X (.Try body (h₀ :: hds) [] [] pos :: rest) D σ s.H :=
  do_cons (ps_tryG (tb := fun W D σ H => ∀ pn xe, Takes (X.tr pn xe) W → PassesOwn (model X.prog X.w) X.A X.env xe → WSs (X.tr pn xe) body D σ H) hs hf hN tk (fun W pn xe t po => pss_im fun D σ H hh => hh pn xe t po) hh) h
end
end Dy

namespace Dy
open PySem PySem.Spec L2
open PyProof.Rows hiding St
open Enc (rep)
open Flat (toV)
open EncA (repA)

section
variable {X : Cx} {σ : L2.St} {s t : S} {e a : Expr} {p1 pos : Pos} {α β : Type} [Enc α] [Enc β] {K : PySem.W.Frag}
theorem all_ex (k : Ex s t) : Ex s.all t.all := ⟨fun x o h => k.h x o h, k.h, fun x o h n => by
  have h1 : s.H x = some o := h
  have h2 : s.H x = none := n
  rw [h1] at h2; cases h2⟩
theorem asV {ε : Type} [Flat ε] {x : ε} (h : Ev X e σ s.all x) : Ev X e σ s x := fun s1 k Q q =>
  h s1.all (all_ex k) Q fun v t k2 r => q v (s1.backH t k2.h) (backH_ex k2) (Flat.iff.mpr (Flat.iff.mp r))
theorem asT {x : Bool} (h : EvT X e σ s.all x) : EvT X e σ s x := fun s1 k Q q =>
  h s1.all (all_ex k) Q fun t k2 => q (s1.backH t k2.h) (backH_ex k2)
theorem asB {x : Bool} (h : EvB X e σ s.all x) : EvB X e σ s x := ⟨asV h.v, asT h.t⟩
theorem asW {x : Bool} (h : EvW X e σ s.all x) : EvW X e σ s x := fun s1 k Q q =>
  h s1.all (all_ex k) Q fun t k2 => q (s1.backH t k2.h) (backH_ex k2)
theorem asC {x : Bool} (h : EvC X e σ s.all x) : EvC X e σ s x := ⟨asV h.v, asW h.w⟩
theorem all_v {v : V} {x : α} (h : rep K s.F v x) : rep K s.all.F v x := Enc.mono s.sub h
theorem eb_isRaw {p : Addr} {j} (ha : Ev X a σ s (Rw.mk (.ref p))) : EvB X (.Compare a [.Is] [.Constant .none j p1] pos) σ s false :=
  eb_cmp op_isN ha ev_non (fun v u s2 hv hu Q q => by
    refine ⟨hu, ?_⟩
    have e : v = V.ref p := hv
    rw [e]
    exact q) (nomark _)
theorem eb_notRaw {p : Addr} {j} (ha : Ev X a σ s (Rw.mk (.ref p))) : EvB X (.Compare a [.IsNot] [.Constant .none j p1] pos) σ s true :=
  eb_cmp op_notN ha ev_non (fun v u s2 hv hu Q q => by
    refine ⟨hu, ?_⟩
    have e : v = V.ref p := hv
    rw [e]
    exact q) (nomark _)
def unO {α : Type} : List (Option α) → Option (List α)
  | [] => some []
  | none :: _ => none
  | some x :: r => (unO r).map (x :: ·)
theorem unO_some {α : Type} : ∀ {xs : List (Option α)} {ys : List α}, unO xs = some ys → xs = ys.map some
  | [], ys, h => by cases h; rfl
  | none :: _, ys, h => by cases h
  | some x :: r, ys, h => by
    unfold unO at h
    cases hr : unO r with
    | none => rw [hr] at h; cases h
    | some zs =>
      rw [hr] at h
      cases h
      rw [List.map_cons, unO_some hr]
theorem unO_map {α : Type} : ∀ ys : List α, unO (ys.map some) = some ys
  | [] => rfl
  | y :: r => by
    show (unO (r.map some)).map (y :: ·) = _
    rw [unO_map r]; rfl
theorem reps_un {F : Hp} : ∀ {vs : List V} {ys : List α}, Reps K F vs (ys.map some) → Reps K F vs ys
  | [], [], _ => trivial
  | _ :: _, _ :: _, ⟨h, t⟩ => ⟨h, reps_un t⟩
  | [], _ :: _, h => h.elim
  | _ :: _, [], h => h.elim
theorem er_un {xs : List (Option α)} {ys : List α} (h : EvR X e σ s xs) (hu : unO xs = some ys) : EvR X e σ s ys := by
  obtain rfl := unO_some hu
  exact fun s1 k Q q => h s1 k Q fun v s2 k2 ⟨p, vs, e1, h1, h2⟩ => q v s2 k2 ⟨p, vs, e1, h1, reps_un h2⟩
theorem ev_un {xs : List (Option α)} {ys : List α} (h : Ev X e σ s xs) (hu : unO xs = some ys) : Ev X e σ s ys := by
  obtain rfl := unO_some hu
  exact fun s1 k Q q => h s1 k Q fun v s2 k2 ⟨p, vs, e1, h1, h2⟩ => q v s2 k2 ⟨p, vs, e1, h1, reps_un h2⟩
theorem en_un {xs : List (Option α)} {ys : List α} (h : EvN X e σ s xs) (hu : unO xs = some ys) : EvN X e σ s ys := by
  obtain rfl := unO_some hu
  exact fun s1 k Q q => h s1 k Q fun p s2 k2 n ⟨o1, vs, o2, o3⟩ => q p s2 k2 n ⟨o1, vs, o2, reps_un o3⟩
def isL {α β : Type} : α ⊕ β → Bool
  | .inl _ => true
  | .inr _ => false
theorem eb_isNG {j} {b : Bool} {ok : V → List OA → Prop} (h : EvG X a σ s ok) (hb : ∀ (v : V) (s2 : S) (L' : List OA), ok v L' → (∀ (i : Nat) (w : V) (x : Unit), L'[i]? = some (fz w x) → rep X.K s2.F w x) → (b = true ∧ v = .non) ∨ (b = false ∧ ∃ p, v = .ref p)) : EvB X (.Compare a [.Is] [.Constant .none j p1] pos) σ s b := by
  have key : ∀ (v : V) {s1 s2 : S} {L' : List OA}, ok v L' → Iv X.K No s1 s2 L' → decide (v = V.non) = b := fun v s1 s2 L' z i => by
    rcases hb v s2 L' z (fun k w x e => Iv.fz i k e) with ⟨rfl, rfl⟩ | ⟨rfl, p, rfl⟩ <;> rfl
  exact ⟨fun s1 k Q q => we_of (pe_cmpR op_isN pe_we pe_we (nomark _)) (h s1 k _ fun v s2 L' z i => ev_non s2 (Ex.refl _) _ fun u s3 k3 r3 => ⟨r3, by rw [key v z i]; exact q _ s3 ((Iv.exx i).trans k3) rfl⟩),
    fun s1 k Q q => wt_of (pt_cmpR op_isN pe_we pe_we (nomark _)) (h s1 k _ fun v s2 L' z i => ev_non s2 (Ex.refl _) _ fun u s3 k3 r3 => ⟨r3, by rw [key v z i]; exact ⟨b, rfl, q s3 ((Iv.exx i).trans k3)⟩⟩)⟩
theorem reps_so {F : Hp} : ∀ {vs : List V} {ys : List α}, Reps K F vs ys → Reps K F vs (ys.map some)
  | [], [], _ => trivial
  | _ :: _, _ :: _, ⟨h, t⟩ => ⟨h, reps_so t⟩
  | [], _ :: _, h => h.elim
  | _ :: _, [], h => h.elim
theorem er_so {ys : List α} (h : EvR X e σ s ys) : EvR X e σ s (ys.map some) := fun s1 k Q q => h s1 k Q fun v s2 k2 ⟨p, vs, e1, h1, h2⟩ => q v s2 k2 ⟨p, vs, e1, h1, reps_so h2⟩
theorem ev_so {ys : List α} (h : Ev X e σ s ys) : Ev X e σ s (ys.map some) := fun s1 k Q q => h s1 k Q fun v s2 k2 ⟨p, vs, e1, h1, h2⟩ => q v s2 k2 ⟨p, vs, e1, h1, reps_so h2⟩
theorem en_so {ys : List α} (h : EvN X e σ s ys) : EvN X e σ s (ys.map some) := fun s1 k Q q => h s1 k Q fun p s2 k2 n ⟨o1, vs, o2, o3⟩ => q p s2 k2 n ⟨o1, vs, o2, reps_so o3⟩
end
instance {α β γ δ : Type} [Enc α] [Enc β] [Enc γ] [Enc δ] : Arity (T4 α β γ δ) 4 := ⟨fun h => by
  obtain ⟨p, v0, v1, v2, v3, e, h, _⟩ := h
  exact ⟨p, _, e, h, rfl⟩⟩
theorem p4_0 {α β γ δ : Type} [Enc α] [Enc β] [Enc γ] [Enc δ] {K : PySem.W.Frag} {x : T4 α β γ δ} {F : Hp} {v : V} (h : rep K F v x) : ∃ p vs w, v = .ref p ∧ SqT K F p vs ∧ atI vs 0 = some w ∧ rep K F w x.a := by
  obtain ⟨p, v0, v1, v2, v3, rfl, h0, h1, h2, h3, h4⟩ := h
  exact ⟨p, _, v0, rfl, h0, rfl, h1⟩
theorem p4_1 {α β γ δ : Type} [Enc α] [Enc β] [Enc γ] [Enc δ] {K : PySem.W.Frag} {x : T4 α β γ δ} {F : Hp} {v : V} (h : rep K F v x) : ∃ p vs w, v = .ref p ∧ SqT K F p vs ∧ atI vs 1 = some w ∧ rep K F w x.b := by
  obtain ⟨p, v0, v1, v2, v3, rfl, h0, h1, h2, h3, h4⟩ := h
  exact ⟨p, _, v1, rfl, h0, rfl, h2⟩
theorem p4_2 {α β γ δ : Type} [Enc α] [Enc β] [Enc γ] [Enc δ] {K : PySem.W.Frag} {x : T4 α β γ δ} {F : Hp} {v : V} (h : rep K F v x) : ∃ p vs w, v = .ref p ∧ SqT K F p vs ∧ atI vs 2 = some w ∧ rep K F w x.c := by
  obtain ⟨p, v0, v1, v2, v3, rfl, h0, h1, h2, h3, h4⟩ := h
  exact ⟨p, _, v2, rfl, h0, rfl, h3⟩
theorem p4_3 {α β γ δ : Type} [Enc α] [Enc β] [Enc γ] [Enc δ] {K : PySem.W.Frag} {x : T4 α β γ δ} {F : Hp} {v : V} (h : rep K F v x) : ∃ p vs w, v = .ref p ∧ SqT K F p vs ∧ atI vs 3 = some w ∧ rep K F w x.d := by
  obtain ⟨p, v0, v1, v2, v3, rfl, h0, h1, h2, h3, h4⟩ := h
  exact ⟨p, _, v3, rfl, h0, rfl, h4⟩
instance {α β γ δ ε : Type} [Enc α] [Enc β] [Enc γ] [Enc δ] [Enc ε] : Arity (T5 α β γ δ ε) 5 := ⟨fun h => by
  obtain ⟨p, v0, v1, v2, v3, v4, e, h, _⟩ := h
  exact ⟨p, _, e, h, rfl⟩⟩
theorem p5_0 {α β γ δ ε : Type} [Enc α] [Enc β] [Enc γ] [Enc δ] [Enc ε] {K : PySem.W.Frag} {x : T5 α β γ δ ε} {F : Hp} {v : V} (h : rep K F v x) : ∃ p vs w, v = .ref p ∧ SqT K F p vs ∧ atI vs 0 = some w ∧ rep K F w x.a := by
  obtain ⟨p, v0, v1, v2, v3, v4, rfl, h0, h1, h2, h3, h4, h5⟩ := h
  exact ⟨p, _, v0, rfl, h0, rfl, h1⟩
theorem p5_1 {α β γ δ ε : Type} [Enc α] [Enc β] [Enc γ] [Enc δ] [Enc ε] {K : PySem.W.Frag} {x : T5 α β γ δ ε} {F : Hp} {v : V} (h : rep K F v x) : ∃ p vs w, v = .ref p ∧ SqT K F p vs ∧ atI vs 1 = some w ∧ rep K F w x.b := by
  obtain ⟨p, v0, v1, v2, v3, v4, rfl, h0, h1, h2, h3, h4, h5⟩ := h
  exact ⟨p, _, v1, rfl, h0, rfl, h2⟩
theorem p5_2 {α β γ δ ε : Type} [Enc α] [Enc β] [Enc γ] [Enc δ] [Enc ε] {K : PySem.W.Frag} {x : T5 α β γ δ ε} {F : Hp} {v : V} (h : rep K F v x) : ∃ p vs w, v = .ref p ∧ SqT K F p vs ∧ atI vs 2 = some w ∧ rep K F w x.c := by
  obtain ⟨p, v0, v1, v2, v3, v4, rfl, h0, h1, h2, h3, h4, h5⟩ := h
  exact ⟨p, _, v2, rfl, h0, rfl, h3⟩
theorem p5_3 {α β γ δ ε : Type} [Enc α] [Enc β] [Enc γ] [Enc δ] [Enc ε] {K : PySem.W.Frag} {x : T5 α β γ δ ε} {F : Hp} {v : V} (h : rep K F v x) : ∃ p vs w, v = .ref p ∧ SqT K F p vs ∧ atI vs 3 = some w ∧ rep K F w x.d := by
  obtain ⟨p, v0, v1, v2, v3, v4, rfl, h0, h1, h2, h3, h4, h5⟩ := h
  exact ⟨p, _, v3, rfl, h0, rfl, h4⟩
theorem p5_4 {α β γ δ ε : Type} [Enc α] [Enc β] [Enc γ] [Enc δ] [Enc ε] {K : PySem.W.Frag} {x : T5 α β γ δ ε} {F : Hp} {v : V} (h : rep K F v x) : ∃ p vs w, v = .ref p ∧ SqT K F p vs ∧ atI vs 4 = some w ∧ rep K F w x.e := by
  obtain ⟨p, v0, v1, v2, v3, v4, rfl, h0, h1, h2, h3, h4, h5⟩ := h
  exact ⟨p, _, v4, rfl, h0, rfl, h5⟩
section
variable {α β γ δ ε : Type} [Enc α] [Enc β] [Enc γ] [Enc δ] [Enc ε] {X : Cx} {σ : L2.St} {s : S} {e tg : Expr} {pos : Pos} {rest : List Stmt} {D : Ends}
theorem do_unp4 (i j l m : Nat) {x : T4 α β γ δ} (h : Ev X e σ s x) (k : ∀ v w u z s1, Ex s s1 → rep X.K s1.F v x.a → rep X.K s1.F w x.b → rep X.K s1.F u x.c → rep X.K s1.F z x.d → WSs X rest D ((((σ.set i (some v)).set j (some w)).set l (some u)).set m (some z)) s1.H)
    (hg : PG X tg (gTup X.K 4 (gCons (gName i) (gCons (gName j) (gCons (gName l) (gCons (gName m) gNil)))))) (hs : swapsWithSole [tg] e pos.line X.env = pure false := by rfl) (hw : swappedStores [tg] e X.env = pure none := by rfl)
    (h1 : (assignEach [tg] X.env).map (·.2) = [assign tg X.env] := by rfl) : WSs X (.Assign [tg] e pos :: rest) D σ s.H :=
  do_cons (ps_asg pe_we hg hs hw h1) (h s (Ex.refl _) _ fun v s1 k1 r => by
    obtain ⟨p, v1, v2, v3, v4, rfl, h0, h1, h2, h3, h4⟩ := r
    exact ⟨p, _, rfl, sqt_mono s1.sub h0, rfl, v1, _, rfl, v2, _, rfl, v3, _, rfl, v4, _, rfl, rfl, k v1 v2 v3 v4 s1 k1 h1 h2 h3 h4⟩)
theorem do_unp5 (i j l m n : Nat) {x : T5 α β γ δ ε} (h : Ev X e σ s x) (k : ∀ v w u z y s1, Ex s s1 → rep X.K s1.F v x.a → rep X.K s1.F w x.b → rep X.K s1.F u x.c → rep X.K s1.F z x.d → rep X.K s1.F y x.e → WSs X rest D (((((σ.set i (some v)).set j (some w)).set l (some u)).set m (some z)).set n (some y)) s1.H)
    (hg : PG X tg (gTup X.K 5 (gCons (gName i) (gCons (gName j) (gCons (gName l) (gCons (gName m) (gCons (gName n) gNil))))))) (hs : swapsWithSole [tg] e pos.line X.env = pure false := by rfl) (hw : swappedStores [tg] e X.env = pure none := by rfl)
    (h1 : (assignEach [tg] X.env).map (·.2) = [assign tg X.env] := by rfl) : WSs X (.Assign [tg] e pos :: rest) D σ s.H :=
  do_cons (ps_asg pe_we hg hs hw h1) (h s (Ex.refl _) _ fun v s1 k1 r => by
    obtain ⟨p, v1, v2, v3, v4, v5, rfl, h0, h1, h2, h3, h4, h5⟩ := r
    exact ⟨p, _, rfl, sqt_mono s1.sub h0, rfl, v1, _, rfl, v2, _, rfl, v3, _, rfl, v4, _, rfl, v5, _, rfl, rfl, k v1 v2 v3 v4 v5 s1 k1 h1 h2 h3 h4 h5⟩)
end
end Dy

namespace Dy
open PySem PySem.Spec L2
open PyProof.Rows hiding St
open Enc (rep)
open Flat (toV)
open EncA (repA)

structure PK where
  a : Int
  b : Int
instance : Enc PK := ⟨fun K F v x => ∃ p, v = .ref p ∧ F p = some (.tup [.int x.a, .int x.b]), fun e ⟨p, h1, h2⟩ => ⟨p, h1, e _ _ h2⟩⟩
def PK.pr (x : PK) : Int × Int := (x.a, x.b)
def PK.key (x : PK) : List Key := [.inl x.a, .inl x.b]
theorem PK.kinj (x y : Int × Int) : ([.inl x.1, .inl x.2] : List Key) = [.inl y.1, .inl y.2] ↔ x = y := by
  obtain ⟨a, b⟩ := x; obtain ⟨c, d⟩ := y
  simp
def kp (x : Int × Int) : List Key := [.inl x.1, .inl x.2]
theorem kp_dec (a b : Int × Int) : decide (kp a = kp b) = decide (a = b) := decide_eq_decide.mpr (PK.kinj a b)
theorem rep_pk {K : PySem.W.Frag} {F : Hp} {v : V} {x : PK} (h : rep K F v x) : rep K F v x.pr := by
  obtain ⟨p, h1, h2⟩ := h
  exact ⟨p, _, _, h1, .inl (.inl h2), rfl, rfl⟩
section
variable {α β : Type} [Enc α] [Enc β] {K : PySem.W.Frag} {F F' : Hp}
def TReps (K : PySem.W.Frag) (F : Hp) : List (List Key × V) → List ((Int × Int) × α) → Prop
  | [], [] => True
  | (k, v) :: r, (j, x) :: xs => k = kp j ∧ rep K F v x ∧ TReps K F r xs
  | _, _ => False
theorem TReps.mono (e : Fle F F') : ∀ {kv : List (List Key × V)} {xs : List ((Int × Int) × α)}, TReps K F kv xs → TReps K F' kv xs
  | [], [], _ => trivial
  | (_, _) :: _, (_, _) :: _, ⟨h1, h2, h3⟩ => ⟨h1, Enc.mono e h2, TReps.mono e h3⟩
  | [], _ :: _, h => h.elim
  | _ :: _, [], h => h.elim
theorem TReps.len : ∀ {kv : List (List Key × V)} {xs : List ((Int × Int) × α)}, TReps K F kv xs → kv.length = xs.length
  | [], [], _ => rfl
  | (_, _) :: _, (_, _) :: _, ⟨_, _, h3⟩ => by rw [List.length_cons, List.length_cons, TReps.len h3]
  | [], _ :: _, h => h.elim
  | _ :: _, [], h => h.elim
theorem TReps.val {k : Int × Int} : ∀ {kv : List (List Key × V)} {xs : List ((Int × Int) × α)}, TReps K F kv xs → (valV kv (kp k)).isSome = (dval xs k).isSome
  | [], [], _ => rfl
  | (j, v) :: r, (i, x) :: xs, ⟨e, h, t⟩ => by
    subst e
    unfold dval valV
    rw [List.find?_cons, List.find?_cons]
    dsimp only
    rw [kp_dec i k]
    cases decide (i = k) with
    | true => rfl
    | false => exact TReps.val (k := k) t
  | [], _ :: _, h => h.elim
  | _ :: _, [], h => h.elim
theorem TReps.any {k : Int × Int} : ∀ {kv : List (List Key × V)} {xs : List ((Int × Int) × α)}, TReps K F kv xs → (kv.any fun z => decide (z.1 = kp k)) = xs.any fun z => decide (z.1 = k)
  | [], [], _ => rfl
  | (j, v) :: r, (i, x) :: xs, ⟨e, h, t⟩ => by
    subst e
    rw [List.any_cons, List.any_cons, TReps.any (k := k) t, kp_dec i k]
  | [], _ :: _, h => h.elim
  | _ :: _, [], h => h.elim
theorem TReps.app : ∀ {kv kw : List (List Key × V)} {xs ys : List ((Int × Int) × α)}, TReps K F kv xs → TReps K F kw ys → TReps K F (kv ++ kw) (xs ++ ys)
  | [], _, [], _, _, h => h
  | _ :: _, _, _ :: _, _, ⟨e, h, t⟩, w => ⟨e, h, TReps.app t w⟩
  | [], _, _ :: _, _, h, _ => h.elim
  | _ :: _, _, [], _, h, _ => h.elim
theorem TReps.repl {k : Int × Int} {v : V} {y : α} (r : rep K F v y) : ∀ {kv : List (List Key × V)} {xs : List ((Int × Int) × α)}, TReps K F kv xs → TReps K F (kv.map fun z => if z.1 = kp k then (z.1, v) else z) (xs.map fun z => if z.1 = k then (z.1, y) else z)
  | [], [], _ => trivial
  | (j, u) :: kv, (i, x) :: xs, ⟨e, h, t⟩ => by
    subst e
    rw [List.map_cons, List.map_cons]
    dsimp only
    by_cases hh : i = k
    · rw [if_pos (show kp i = kp k by rw [hh]), if_pos hh]
      exact ⟨rfl, r, TReps.repl r t⟩
    · rw [if_neg (show ¬ kp i = kp k from fun z => hh ((PK.kinj i k).mp z)), if_neg hh]
      exact ⟨rfl, h, TReps.repl r t⟩
  | [], _ :: _, h => h.elim
  | _ :: _, [], h => h.elim
theorem TReps.put {k : Int × Int} {v : V} {y : α} {kv : List (List Key × V)} {xs : List ((Int × Int) × α)} (h : TReps K F kv xs) (r : rep K F v y) : TReps K F (putK kv (kp k) v) (dput xs k y) := by
  unfold putK dput
  rw [h.any (k := k)]
  split
  · exact h.repl r
  · exact h.app ⟨rfl, r, trivial⟩
end
def odT {α : Type} [Enc α] (p : Addr) (xs : List ((Int × Int) × α)) : OA := ⟨fun K F H P => (∀ a, P a ↔ a = p) ∧ ∃ kv, H p = some (.dT kv) ∧ TReps K F kv xs, fun e ⟨h0, vs, h1, h2⟩ => ⟨h0, vs, h1, h2.mono e⟩,
  fun e ⟨h0, vs, h1, h2⟩ => ⟨h0, vs, by rw [e p ((h0 p).mpr rfl)]; exact h1, h2⟩, fun ⟨h0, vs, h1, h2⟩ q => ⟨_, (congrArg _ ((h0 _).mp q)).trans h1⟩⟩
def OwnDT {α : Type} [Enc α] (K : PySem.W.Frag) (s : S) (p : Addr) (xs : List ((Int × Int) × α)) : Prop := s.F p = none ∧ ∃ kv, s.H p = some (.dT kv) ∧ TReps K s.F kv xs
section
variable {α β : Type} [Enc α] [Enc β] {K : PySem.W.Frag} {P0 : Addr → Prop} {s0 s s1 t : S} {L M R : List OA}
theorem OwnDT.ex {p : Addr} {xs : List ((Int × Int) × α)} (h : OwnDT K s p xs) (e : Ex s t) : OwnDT K t p xs := by
  obtain ⟨h0, kv, h1, h2⟩ := h
  exact ⟨e.n _ _ h1 h0, kv, e.h _ _ h1, h2.mono e.f⟩
theorem Iv.odT (h : Iv K P0 s0 s L) (i : Nat) {p : Addr} {xs : List ((Int × Int) × α)} (e : L[i]? = some (Dy.odT p xs) := by rfl) : OwnDT K s p xs := by
  obtain ⟨P, ⟨h0, kv, h1, h2⟩, h3⟩ := h.at i e
  exact ⟨h3 p ((h0 p).mpr rfl), kv, h1, h2⟩
theorem Iv.sdT (h : Iv K P0 s0 s L) (i : Nat) {p : Addr} {xs ys : List ((Int × Int) × α)} (e : Ex s s1) (n : s.H p = none) (o : OwnDT K s1 p xs) (q : ys = xs) : Iv K P0 s0 s1 (L.set i (Dy.odT p ys)) := by
  subst q
  obtain ⟨o1, vs, o2, o3⟩ := o
  exact h.put i e ⟨fun a => a = p, ⟨fun _ => Iff.rfl, vs, o2, o3⟩, fun a z => by rw [z]; exact ⟨o1, n⟩⟩
theorem Iv.mdT (h : Iv K P0 s0 s L) (i : Nat) {p : Addr} {xs : List ((Int × Int) × α)} {ys zs : List ((Int × Int) × β)} (m : Mx (· = p) s s1) (o : OwnDT K s1 p ys) (q : zs = ys) (hA : L[i]? = some (Dy.odT p xs) := by rfl) : Iv K P0 s0 s1 (L.set i (Dy.odT p zs)) := by
  subst q
  obtain ⟨o1, vs, o2, o3⟩ := o
  refine h.upd i hA fun P hP _ => ⟨P, ?_, ?_, ?_⟩
  · exact ⟨hP.1, vs, o2, o3⟩
  · intro a z
    rw [(hP.1 a).mp z]
    exact ⟨o1, .inl ((hP.1 p).mpr rfl)⟩
  · exact ⟨m.f, fun a o q n => m.h a o q fun z => n ((hP.1 a).mpr z), fun a o q _ z => m.n a o q z, m.d⟩
theorem ev_ivdT {p : Addr} {x : List ((Int × Int) × α)} (e : Ex s s1) (n : s.H p = none) (o : OwnDT K s1 p x) : Iv K No s s1 [Dy.odT p x] := (Iv.sdT (Iv.tops (K := K) (P0 := No) 1 s) 0 e n o rfl)
end
section
variable {α β : Type} [Enc α] [Enc β] {X : Cx} {σ : L2.St} {P0 : Addr → Prop} {s0 s t : S} {L : List OA} {e a b c o i : Expr} {es : List Expr} {pos p0 p1 p2 p3 : Pos} {D : Ends} {rest : List Stmt} {n : Str} {p : Addr}
theorem ev_pk {x y : Int} {n} (h : EvA X es σ s (x, y, ())) : Ev X (.Tuple es n pos) σ s (⟨x, y⟩ : PK) := fun s1 k Q q =>
  we_of (pe_tup pa_wa) (h s1 k _ fun vs s2 k2 r2 => by
    obtain ⟨v1, w1, rfl, r1, v2, w2, rfl, r3, rfl⟩ := r2
    cases (show v1 = V.int x from r1)
    cases (show v2 = V.int y from r3)
    exact ⟨show _ ≤ 2 ^ 24 by simp, fun p hp => q (.ref p) (s2.newF p (.tup [.int x, .int y]) hp) (k2.trans (Ex.newF hp)) ⟨p, rfl, upd_same⟩⟩)
theorem ev_pkr {x : PK} (h : Ev X e σ s x) : Ev X e σ s x.pr := fun s1 k Q q => h s1 k Q fun v s2 k2 r => q v s2 k2 (rep_pk r)
theorem dgetT_of {K : PySem.W.Frag} {k : PK} {xs : List ((Int × Int) × α)} {w : V} (r : OwnDT K s p xs) (hw : rep K s.F w k) : ∃ o, DGet s.H p w o ∧ o.isSome = (dval xs k.pr).isSome := by
  obtain ⟨_, kv, h1, h2⟩ := r
  obtain ⟨b, rfl, hb⟩ := hw
  refine ⟨valV kv (kp k.pr), .inr ⟨kv, kp k.pr, b, .inl h1, rfl, s.sub _ _ hb, rfl⟩, h2.val⟩
theorem ev_dtin {j : Nat} {k : PK} {xs : List ((Int × Int) × α)} (hr : Room j X.A) (hi : Ev X i σ s k) (ho : Ev X o σ s (Rw.mk (.ref p))) (r : OwnDT X.K s p xs) (h1 : behindInMarks .In o = false := by rfl) : EvB X (.Compare i [.In] [o] pos) σ s (dval xs k.pr).isSome :=
  ⟨fun s1 k1 Q q => we_of (pe_cmp (pc_din (hu1 hr) pe_we pe_we) h1) (hi s1 k1 _ fun u s2 k2 e2 => ho s2 (k1.trans k2) _ fun v s3 k3 e3 => by
    cases (show v = V.ref p from e3)
    obtain ⟨o', g1, g2⟩ := dgetT_of (r.ex ((k1.trans k2).trans k3)) (Enc.mono k3.f (e2 : rep _ _ u k))
    exact ⟨p, o', rfl, g1, by rw [g2]; exact q _ s3 (k2.trans k3) rfl⟩),
   fun s1 k1 Q q => wt_of (pt_cmp (pc_din (hu1 hr) pe_we pe_we) h1) (hi s1 k1 _ fun u s2 k2 e2 => ho s2 (k1.trans k2) _ fun v s3 k3 e3 => by
    cases (show v = V.ref p from e3)
    obtain ⟨o', g1, g2⟩ := dgetT_of (r.ex ((k1.trans k2).trans k3)) (Enc.mono k3.f (e2 : rep _ _ u k))
    exact ⟨p, o', rfl, g1, _, by rw [g2], q s3 (k2.trans k3)⟩)⟩
theorem ev_dtnotIn {j : Nat} {k : PK} {xs : List ((Int × Int) × α)} (hr : Room j X.A) (hi : Ev X i σ s k) (ho : Ev X o σ s (Rw.mk (.ref p))) (r : OwnDT X.K s p xs) (h1 : behindInMarks .NotIn o = false := by rfl) : EvB X (.Compare i [.NotIn] [o] pos) σ s (!(dval xs k.pr).isSome) :=
  ⟨fun s1 k1 Q q => we_of (pe_cmp (pc_dnotin (hu1 hr) pe_we pe_we) h1) (hi s1 k1 _ fun u s2 k2 e2 => ho s2 (k1.trans k2) _ fun v s3 k3 e3 => by
    cases (show v = V.ref p from e3)
    obtain ⟨o', g1, g2⟩ := dgetT_of (r.ex ((k1.trans k2).trans k3)) (Enc.mono k3.f (e2 : rep _ _ u k))
    exact ⟨p, o', rfl, g1, by rw [g2]; exact q _ s3 (k2.trans k3) rfl⟩),
   fun s1 k1 Q q => wt_of (pt_cmp (pc_dnotin (hu1 hr) pe_we pe_we) h1) (hi s1 k1 _ fun u s2 k2 e2 => ho s2 (k1.trans k2) _ fun v s3 k3 e3 => by
    cases (show v = V.ref p from e3)
    obtain ⟨o', g1, g2⟩ := dgetT_of (r.ex ((k1.trans k2).trans k3)) (Enc.mono k3.f (e2 : rep _ _ u k))
    exact ⟨p, o', rfl, g1, _, by rw [g2], q s3 (k2.trans k3)⟩)⟩
theorem ev_dtlen {xs : List ((Int × Int) × α)} (hm : X.mg "len" = none) (ho : Ev X o σ s (Rw.mk (.ref p))) (r : OwnDT X.K s p xs) (hg : Gl X "len" := by rfl) (he : starEach [o] X.env = (false, eval o X.env) :: starEach [] X.env := by rfl) (hpl : (backTo pos (starEach [] X.env)).any (·.1) = false := by rfl) : Ev X (.Call (.Name "len" p0) [o] [] pos) σ s (xs.length : Int) := fun s1 k1 Q q =>
  we_of (pe_callB call_len_dT hg hm boot_len (pa_cons pe_we pa_nil he) (he := he) (hpl := hpl)) (ho s1 k1 _ fun v s2 k2 e2 => by
    cases (show v = V.ref p from e2)
    obtain ⟨_, kv, h1, h2⟩ := r.ex (k1.trans k2)
    exact ⟨p, kv, rfl, h1, q _ s2 k2 (by rw [h2.len]; rfl)⟩)
def EvNT (X : Cx) (e : Expr) (σ : L2.St) (s : S) (xs : List ((Int × Int) × α)) : Prop := ∀ s1, Ex s s1 → ∀ Q : VK, (∀ p s2, Ex s1 s2 → s1.H p = none → OwnDT X.K s2 p xs → Q (.ref p) s2.H) → WE X e σ s1.H Q
theorem en_dtnew : EvNT X (.Dict [] [] pos) σ s ([] : List ((Int × Int) × α)) := fun s1 k1 Q q => we_of pe_dnewT fun p hp => q p (s1.newO p (.dT []) hp) (Ex.newO hp) hp ⟨(fF hp : s1.F p = none), [], upd_same, trivial⟩
theorem eg_newT {xs : List ((Int × Int) × α)} (h : EvNT X e σ s xs) : EvG X e σ s (fun v L' => ∃ p, v = .ref p ∧ L' = [odT p xs]) := fun s1 k Q q => h s1 k Q fun p s2 k2 n2 r => q _ s2 _ ⟨p, rfl, rfl⟩ (ev_ivdT k2 n2 r)
theorem do_dtput {j : Nat} {k : PK} {xs : List ((Int × Int) × α)} {y : α} (hr : Room j X.A) (ho : Ev X o σ s (Rw.mk (.ref p))) (r : OwnDT X.K s p xs) (hv : Ev X e σ s y) (hi : Ev X i σ s k) (hz : xs.length < sizeLine) (kk : ∀ s1, Mx (· = p) s s1 → OwnDT X.K s1 p (dput xs k.pr y) → WSs X rest D σ s1.H)
    (hs : swapsWith e (some (.Subscript o i p1)) pos.line X.env = pure false := by rfl) : WSs X (.Assign [.Subscript o i p1] e pos :: rest) D σ s.H :=
  do_cons (ps_dput (hu1 hr) pe_we pe_we pe_we hs) (hv s (Ex.refl _) _ fun v s1 k1 e1 => ho s1 k1 _ fun u s2 k2 e2 => hi s2 (k1.trans k2) _ fun w s3 k3 e3 => by
    cases (show u = V.ref p from e2)
    have kx := (k1.trans k2).trans k3
    obtain ⟨f0, kv, h1, h2⟩ := r.ex kx
    obtain ⟨b, rfl, hb⟩ := (e3 : rep _ _ w k)
    refine ⟨p, _, rfl, .inr ⟨kv, kp k.pr, b, h1, rfl, s3.sub _ _ hb, by rw [h2.len]; exact hz, rfl⟩, ?_⟩
    exact kk (s3.put p (.dT (putK kv (kp k.pr) v)) f0) (kx.mx.trans (Mx.put f0)) ⟨f0, _, upd_same, h2.put (Enc.mono (k2.trans k3).f e1)⟩)
end
end Dy

namespace Dy
open PySem PySem.Spec L2
open PyProof.Rows hiding St
open Enc (rep)
open Flat (toV)
open EncA (repA)

section
variable {X : Cx} {α β γ δ ε : Type} [Enc α] [Enc β] [Enc γ] [Enc δ] [Enc ε] {σ : L2.St} {s : S} {a : Expr} {lo hi : Option Expr} {p2 pos : Pos}
theorem ev_sl53 {x : T5 α β γ δ ε} (ha : Ev X a σ s x) (hh : EvO X hi σ s (some 3)) : Ev X (.Subscript a (.Slice none hi none p2) pos) σ s (⟨x.a, x.b, x.c⟩ : T3 α β γ) := fun s1 k Q q => by
  obtain ⟨tl, pl, ql⟩ := po_evo (eo_none (X := X) (σ := σ) (s := s))
  obtain ⟨th, ph, qh⟩ := po_evo hh
  refine we_of (pe_slice sl_tupA pe_we pl ph) (ha s1 k _ fun v s2 k2 r2 => ql s2 (k.trans k2) _ fun s3 k3 => qh s3 ((k.trans k2).trans k3) _ fun s4 k4 => ?_)
  obtain ⟨p, v1, v2, v3, v4, v5, rfl, h0, h1, h2, h3, _, _⟩ := Enc.mono (α := T5 α β γ δ ε) (k3.trans k4).f r2
  have kk := (k2.trans k3).trans k4
  refine ⟨p, _, rfl, sqt_mono s4.sub h0, fun hw => ?_, fun _ l hl => q _ (s4.newF l _ hl) (kk.trans (Ex.newF hl)) ⟨l, v1, v2, v3, rfl, tup_new hl, Enc.mono (Ex.newF hl).f h1, Enc.mono (Ex.newF hl).f h2, Enc.mono (Ex.newF hl).f h3⟩⟩
  exact absurd hw (show ¬ (HT.sIx 5 0 none = 0 ∧ HT.sIx 5 5 (some 3) = 5) by decide)
theorem ev_sl52 {x : T5 α β γ δ ε} (ha : Ev X a σ s x) (hh : EvO X hi σ s (some 2)) : Ev X (.Subscript a (.Slice none hi none p2) pos) σ s (x.a, x.b) := fun s1 k Q q => by
  obtain ⟨tl, pl, ql⟩ := po_evo (eo_none (X := X) (σ := σ) (s := s))
  obtain ⟨th, ph, qh⟩ := po_evo hh
  refine we_of (pe_slice sl_tupA pe_we pl ph) (ha s1 k _ fun v s2 k2 r2 => ql s2 (k.trans k2) _ fun s3 k3 => qh s3 ((k.trans k2).trans k3) _ fun s4 k4 => ?_)
  obtain ⟨p, v1, v2, v3, v4, v5, rfl, h0, h1, h2, h3, _, _⟩ := Enc.mono (α := T5 α β γ δ ε) (k3.trans k4).f r2
  have kk := (k2.trans k3).trans k4
  refine ⟨p, _, rfl, sqt_mono s4.sub h0, fun hw => ?_, fun _ l hl => q _ (s4.newF l _ hl) (kk.trans (Ex.newF hl)) ⟨l, v1, v2, rfl, tup_new hl, Enc.mono (Ex.newF hl).f h1, Enc.mono (Ex.newF hl).f h2⟩⟩
  exact absurd hw (show ¬ (HT.sIx 5 0 none = 0 ∧ HT.sIx 5 5 (some 2) = 5) by decide)
theorem ev_sl5t {p : Addr} {v1 v2 v3 v4 v5 : V} (ha : Ev X a σ s (Rw.mk (.ref p))) (hp : s.H p = some (.tup [v1, v2, v3, v4, v5])) (hl : EvO X lo σ s (some 2)) : Ev X (.Subscript a (.Slice lo none none p2) pos) σ s (⟨[Rw.mk v3, Rw.mk v4, Rw.mk v5]⟩ : Tu Rw) := fun s1 k Q q => by
  obtain ⟨tl, pl, ql⟩ := po_evo hl
  obtain ⟨th, ph, qh⟩ := po_evo (eo_none (X := X) (σ := σ) (s := s))
  refine we_of (pe_slice sl_tupA pe_we pl ph) (ha s1 k _ fun v s2 k2 r2 => ql s2 (k.trans k2) _ fun s3 k3 => qh s3 ((k.trans k2).trans k3) _ fun s4 k4 => ?_)
  cases (show v = V.ref p from r2)
  have kk := (k2.trans k3).trans k4
  refine ⟨p, _, rfl, .inl (.inl ((k.trans kk).h _ _ hp)), fun hw => ?_, fun _ l hl => q _ (s4.newF l _ hl) (kk.trans (Ex.newF hl)) ⟨l, [v3, v4, v5], rfl, tup_new hl, rfl, rfl, rfl, trivial⟩⟩
  exact absurd hw (show ¬ (HT.sIx 5 0 (some 2) = 0 ∧ HT.sIx 5 5 none = 5) by decide)
end
section
variable {X : Cx} {α β γ : Type} [Enc α] [Enc β] [Enc γ] {P0 : Addr → Prop} {s0 s : S} {L : List OA} {σ : L2.St} {D : Ends} {rest : List Stmt}
theorem do_app3 {p p3 p4 p5 : Addr} {v1 v2 : V} {xs3 : List α} {xs4 : List β} {xs5 : List γ} {y3 : α} {y4 : β} {y5 : γ} {k i3 i4 i5 : Nat} {nt : Str} {a e : Expr} {lo : Option Expr} {q1 q2 q3 q4 q5 q6 q7 q8 : Pos}
    (iv : Iv X.K P0 s0 s L) (hp0 : PassesOwn (model X.prog X.w) X.A X.env X.xe) (hc : X.calm = true) (ha : Ev X a σ s (Rw.mk (.ref p))) (ht : s.H p = some (.tup [v1, v2, .ref p3, .ref p4, .ref p5])) (hl : EvO X lo σ s (some 2))
    (hg : PG X (.Name nt q1) (gName k)) (h3 : L[i3]? = some (ol p3 xs3)) (h4 : L[i4]? = some (ol p4 xs4)) (h5 : L[i5]? = some (ol p5 xs5)) (d34 : i3 ≠ i4) (d35 : i3 ≠ i5) (d45 : i4 ≠ i5)
    (he : ∀ w t, Ev X e (σ.set k (some w)) t y3) (he4 : ∀ w t, Ev X e (σ.set k (some w)) t y4) (he5 : ∀ w t, Ev X e (σ.set k (some w)) t y5) (z3 : xs3.length < sizeLine) (z4 : xs4.length < sizeLine) (z5 : xs5.length < sizeLine)
    (kk : ∀ s1, Fle s.F s1.F → Iv X.K P0 s0 s1 (((L.set i3 (ol p3 (xs3 ++ [y3]))).set i4 (ol p4 (xs4 ++ [y4]))).set i5 (ol p5 (xs5 ++ [y5]))) → WSs X rest D (σ.set k (some (.ref p5))) s1.H)
    (hk : k < σ.length) (hN : X.N[k]? = some nt := by rfl) (hv : Vis X.env.scope nt := by first | exact Or.inl rfl | exact Or.inr (Or.inl rfl) | exact Or.inr (Or.inr rfl)) (hd : (nt == ("__debug__" : Str)) = false := by decide) (hcd : (nt == ("__classdict__" : Str)) = false := by decide)
    (hbase : attributeBase (.Name nt q4) "append" X.env (eval (.Name nt q4) X.env) = eval (.Name nt q4) X.env := by rfl)
    (hfew : ((backTo q6 (starEach [e] X.env)).all (fun x => !x.1) && (backToKw q6 (keywordEach [] X.env)).all (fun x => x.1.isSome) && decide (([e] : List Expr).length + ([] : List Keyword).length + (if ([] : List Keyword).isEmpty then 0 else 1) < 30)) = true := by rfl)
    (hline : (q5.endLine == q6.line) = true := by rfl) (hs : starEach [e] X.env = (false, eval e X.env) :: starEach [] X.env := by rfl) (hplain : (backTo q6 (starEach [] X.env)).any (·.1) = false := by rfl)
    (hsw : swapsWith (.Call (.Attribute (.Name nt q4) "append" q5) [e] [] q6) none q7.line X.env = pure false := by rfl)
    (hsf : ∀ x, foldedSetIterable (.Subscript a (.Slice lo none none q2) q3) X.env x = pure x := by intro _; rfl) :
    WSs X (.For (.Name nt q1) (.Subscript a (.Slice lo none none q2) q3) [.Expr (.Call (.Attribute (.Name nt q4) "append" q5) [e] [] q6) q7] [] q8 :: rest) D σ s.H := by
  have hat : ∀ v : V, (σ.set k (some v))[k]? = some (some v) := fun v => by rw [List.getElem?_set_self hk]
  refine do_for_core hp0 hc (ei_tup (ev_sl5t ha ht hl)) hg tg_n (fun i σ' t => match i with
    | 0 => σ' = σ ∧ Fle s.F t.F ∧ Iv X.K P0 s0 t L
    | 1 => σ' = σ.set k (some (.ref p3)) ∧ Fle s.F t.F ∧ Iv X.K P0 s0 t (L.set i3 (ol p3 (xs3 ++ [y3])))
    | 2 => σ' = σ.set k (some (.ref p4)) ∧ Fle s.F t.F ∧ Iv X.K P0 s0 t ((L.set i3 (ol p3 (xs3 ++ [y3]))).set i4 (ol p4 (xs4 ++ [y4])))
    | _ => σ' = σ.set k (some (.ref p5)) ∧ Fle s.F t.F ∧ Iv X.K P0 s0 t (((L.set i3 (ol p3 (xs3 ++ [y3]))).set i4 (ol p4 (xs4 ++ [y4]))).set i5 (ol p5 (xs5 ++ [y5]))))
    (fun s1 k1 => ⟨rfl, k1.f, iv.ex k1⟩) (fun s1 k1 i x σ' σ2 t t' hx fl hR kt hB => ?_) (fun s1 k1 σ' t fl hR => ?_) hsf
  · obtain ⟨w, rw_, rfl⟩ := hB
    match i, hx with
    | 0, hx =>
      obtain rfl : Rw.mk (.ref p3) = x := Option.some.inj hx
      cases (show w = V.ref p3 from rw_)
      obtain ⟨rfl, f0, iv0⟩ := hR
      have iv1 := iv0.ex kt
      exact do_appendP (raw_var k (hat _) hN hv hd hcd) (iv1.ol i3 h3) (he _ _) z3 (fun s2 m2 o2 => do_nil ⟨s2, rfl, m2.f, rfl, f0.trans (kt.f.trans m2.f), iv1.ml i3 m2 o2 rfl h3⟩) hbase hfew hline hs hplain hsw
    | 1, hx =>
      obtain rfl : Rw.mk (.ref p4) = x := Option.some.inj hx
      cases (show w = V.ref p4 from rw_)
      obtain ⟨rfl, f0, iv0⟩ := hR
      have iv1 := iv0.ex kt
      have h4' : (L.set i3 (ol p3 (xs3 ++ [y3])))[i4]? = some (ol p4 xs4) := by rw [List.getElem?_set_ne d34]; exact h4
      rw [List.set_set]
      exact do_appendP (raw_var k (hat _) hN hv hd hcd) (iv1.ol i4 h4') (he4 _ _) z4 (fun s2 m2 o2 => do_nil ⟨s2, rfl, m2.f, rfl, f0.trans (kt.f.trans m2.f), iv1.ml i4 m2 o2 rfl h4'⟩) hbase hfew hline hs hplain hsw
    | 2, hx =>
      obtain rfl : Rw.mk (.ref p5) = x := Option.some.inj hx
      cases (show w = V.ref p5 from rw_)
      obtain ⟨rfl, f0, iv0⟩ := hR
      have iv1 := iv0.ex kt
      have h5' : ((L.set i3 (ol p3 (xs3 ++ [y3]))).set i4 (ol p4 (xs4 ++ [y4])))[i5]? = some (ol p5 xs5) := by rw [List.getElem?_set_ne d45, List.getElem?_set_ne d35]; exact h5
      rw [List.set_set]
      exact do_appendP (raw_var k (hat _) hN hv hd hcd) (iv1.ol i5 h5') (he5 _ _) z5 (fun s2 m2 o2 => do_nil ⟨s2, rfl, m2.f, rfl, f0.trans (kt.f.trans m2.f), iv1.ml i5 m2 o2 rfl h5'⟩) hbase hfew hline hs hplain hsw
  · obtain ⟨rfl, f0, iv0⟩ := hR
    exact kk t f0 iv0
end
end Dy

namespace Dy
open PySem PySem.Spec L2
open PyProof.Rows hiding St
open Enc (rep)
open Flat (toV)
open EncA (repA)

section
variable {X : Cx} {α : Type} [Enc α] {σ : L2.St} {s : S} {o e : Expr} {D : Ends} {rest : List Stmt} {p1 p2 p3 : Pos}
theorem do_appendN {xs : List α} {x : α} (ho : EvN X o σ s xs) (he : Ev X e σ s x) (hz : xs.length < sizeLine)
    (k : ∀ s1, Ex s s1 → WSs X rest D σ s1.H)
    (hbase : attributeBase o "append" X.env (eval o X.env) = eval o X.env := by rfl)
    (hfew : ((backTo p2 (starEach [e] X.env)).all (fun x => !x.1) && (backToKw p2 (keywordEach [] X.env)).all (fun x => x.1.isSome) && decide (([e] : List Expr).length + ([] : List Keyword).length + (if ([] : List Keyword).isEmpty then 0 else 1) < 30)) = true := by rfl)
    (hline : (p1.endLine == p2.line) = true := by rfl) (hs : starEach [e] X.env = (false, eval e X.env) :: starEach [] X.env := by rfl) (hplain : (backTo p2 (starEach [] X.env)).any (·.1) = false := by rfl)
    (hsw : swapsWith (.Call (.Attribute o "append" p1) [e] [] p2) none p3.line X.env = pure false := by rfl) :
    WSs X (.Expr (.Call (.Attribute o "append" p1) [e] [] p2) p3 :: rest) D σ s.H :=
  do_cons (ps_expr (pe_bm PySem.F.plainAttrs_list PySem.F.slot_list_append PySem.F.type_list_append mt_append pe_we (pa_cons pe_we pa_nil hs) hbase hfew hline hs hplain) hsw) (ho s (Ex.refl _) _ fun p s1 k1 n1 r => by
    obtain ⟨f1, vs, h2, h3⟩ := id r
    refine ⟨.inl ⟨rfl, vs, .inl (.inl h2)⟩, he s1 k1 _ fun v s2 k2 r2 => ?_⟩
    obtain ⟨f2, ws, g2, g3⟩ := r.ex k2
    refine ⟨p, ws, v, rfl, rfl, g2, by rw [g3.len]; exact hz, ?_⟩
    have kx := k1.trans k2
    refine k (s2.put p (.lst (ws ++ [v])) f2) ⟨kx.f, fun a u q => ?_, fun a u q n => kx.n a u q n⟩
    by_cases ea : a = p
    · subst ea; rw [n1] at q; cases q
    · show upd s2.H p _ a = _
      rw [upd_ne ea]; exact kx.h _ _ q)
end
end Dy

namespace Dy
open PySem PySem.Spec L2
open PyProof.Rows hiding St

def cl (x : Str) : List Nat := x.cps.toList
theorem cl_ext {x y : Str} (h : cl x = cl y) : x = y := by
  cases x; cases y
  congr 1
  exact Array.toList_inj.mp h
theorem cl_app (x y : Str) : cl (x ++ y) = cl x ++ cl y := by
  show (x.cps ++ y.cps).toList = _
  exact Array.toList_append
theorem cl_len (x : Str) : (cl x).length = x.length := Array.length_toList
theorem app_uniq {c : Nat} : ∀ {a b x y : List Nat}, c ∉ a → c ∉ b → a ++ c :: x = b ++ c :: y → a = b ∧ x = y
  | [], [], _, _, _, _, e => ⟨rfl, (List.cons.inj e).2⟩
  | [], b :: r, _, _, _, hb, e => absurd (List.mem_cons.mpr (.inl (List.cons.inj e).1)) hb
  | a :: r, [], _, _, ha, _, e => absurd (List.mem_cons.mpr (.inl (List.cons.inj e).1.symm)) ha
  | a :: r, b :: q, x, y, ha, hb, e => by
    obtain ⟨h1, h2⟩ := List.cons.inj e
    obtain ⟨h3, h4⟩ := app_uniq (fun h => ha (List.mem_cons_of_mem _ h)) (fun h => hb (List.mem_cons_of_mem _ h)) h2
    exact ⟨by rw [h1, h3], h4⟩
theorem join_cons2 (sep a b : Str) (r : List Str) : cl (Str.join sep (a :: b :: r)) = cl a ++ (cl sep ++ cl (Str.join sep (b :: r))) := by
  show cl (a ++ sep ++ Str.join sep (b :: r)) = _
  rw [cl_app, cl_app, List.append_assoc]
theorem parse_uniq {c : Nat} : ∀ {as bs : List Str}, as ≠ [] → bs ≠ [] → (∀ a ∈ as, c ∉ cl a) → (∀ b ∈ bs, c ∉ cl b) → Str.join ⟨#[c]⟩ as = Str.join ⟨#[c]⟩ bs → as = bs
  | [], _, h, _, _, _, _ => absurd rfl h
  | _, [], _, h, _, _, _ => absurd rfl h
  | [a], [b], _, _, _, _, e => by rw [show a = b from e]
  | [a], b :: b2 :: r, _, _, ha, _, e => by
    have h1 := join_cons2 ⟨#[c]⟩ b b2 r
    rw [← e] at h1
    have : c ∈ cl a := by
      have h1 : cl a = _ := h1
      rw [h1]
      exact List.mem_append_right _ (List.mem_append_left _ (List.mem_singleton.mpr rfl))
    exact absurd this (ha a List.mem_cons_self)
  | a :: a2 :: r, [b], _, _, _, hb, e => by
    have h1 := join_cons2 ⟨#[c]⟩ a a2 r
    rw [e] at h1
    have : c ∈ cl b := by
      have h1 : cl b = _ := h1
      rw [h1]
      exact List.mem_append_right _ (List.mem_append_left _ (List.mem_singleton.mpr rfl))
    exact absurd this (hb b List.mem_cons_self)
  | a :: a2 :: r, b :: b2 :: q, _, _, ha, hb, e => by
    have h1 := congrArg cl e
    rw [join_cons2, join_cons2] at h1
    obtain ⟨h2, h3⟩ := app_uniq (c := c) (ha a List.mem_cons_self) (hb b List.mem_cons_self) h1
    rw [cl_ext h2, parse_uniq (as := a2 :: r) (bs := b2 :: q) (by simp) (by simp) (fun x hx => ha x (List.mem_cons_of_mem _ hx)) (fun x hx => hb x (List.mem_cons_of_mem _ hx)) (cl_ext h3)]
theorem split_ne (x y : Str) : Txt.split x y ≠ [] := fun e => by
  have := PyProof.Rows.split_pos x y
  rw [e] at this
  exact absurd this (by decide)
theorem split_join {sep : Str} {c : Nat} (hs : sep = ⟨#[c]⟩) {as : List Str} (h0 : as ≠ []) (h : ∀ a ∈ as, c ∉ cl a) : Txt.split (Txt.join sep as) sep = as := by
  subst hs
  refine parse_uniq (c := c) (split_ne _ _) h0 (fun p hp => StrLaws.split_free _ _ p hp) h ?_
  rw [StrLaws.join_split]
  show Builtin.Str.glued _ _ = _
  rw [StrLaws.glued_eq_join]
theorem split_free' {sep : Str} {c : Nat} (hs : sep = ⟨#[c]⟩) (x : Str) : ∀ p ∈ Txt.split x sep, c ∉ cl p := by
  subst hs
  exact fun p hp => StrLaws.split_free _ _ p hp
theorem split_none {sep : Str} {c : Nat} (hs : sep = ⟨#[c]⟩) {x : Str} (h : c ∉ cl x) : Txt.split x sep = [x] := by
  have := split_join hs (as := [x]) (by simp) (fun a ha => by rw [List.mem_singleton.mp ha]; exact h)
  exact this
theorem split_sum {x sep : Str} (hy : 1 ≤ sep.length) : ((Txt.split x sep).map (·.length)).sum + (Txt.split x sep).length ≤ x.length + 1 := PyProof.Rows.split_weight x sep hy
theorem join_le (sep : Str) (ys : List Str) : (Txt.join sep ys).length ≤ (ys.map (·.length)).sum + ys.length * sep.length := by
  show (Builtin.Str.glued sep ys).length ≤ _
  rw [StrLaws.glued_eq_join]
  exact StrLaws.join_length_le sep ys
def isFig (c : Nat) : Bool := decide (48 ≤ c ∧ c ≤ 57)
def numOf (x : Str) : Option Nat := if 1 ≤ x.length ∧ x.length ≤ 60 ∧ (cl x).all isFig = true ∧ ((cl x).head? = some 48 → x.length = 1) then some (NumText.digitsVal (cl x)) else none
theorem strI_cl (n : Nat) : cl (strI (n : Int)) = TL.numL n := TL.tl_num n
theorem numL_lead : ∀ n : Nat, (TL.numL n).head? = some 48 → TL.numL n = [48] := fun n => by
  induction n using Nat.strongRecOn with
  | _ n ih =>
    intro h
    by_cases h1 : n < 10
    · rw [TL.numL_lt h1] at h ⊢
      have := Option.some.inj h
      rw [this]
    · rw [TL.numL_step (by omega)] at h
      obtain ⟨c, r, e⟩ := List.exists_cons_of_ne_nil (TL.numL_ne (n / 10))
      rw [e] at h
      have h2 : (TL.numL (n / 10)).head? = some 48 := by rw [e]; exact h
      have h3 := ih (n / 10) (by omega) h2
      have h4 := TL.numL_val (n / 10)
      rw [h3] at h4
      have : (0 : Nat) = n / 10 := h4
      omega
theorem numOf_str {n : Nat} (h : n < 10 ^ 60) : numOf (strI (n : Int)) = some n := by
  unfold numOf
  have hl := TL.numL_len (n := n) (k := 60) (by decide) h
  have hlen : (strI (n : Int)).length = (TL.numL n).length := by rw [← cl_len, strI_cl]
  have hne : 1 ≤ (TL.numL n).length := List.length_pos_iff.mpr (TL.numL_ne n)
  rw [if_pos, strI_cl, TL.numL_val]
  refine ⟨by omega, by omega, ?_, fun h2 => ?_⟩
  · rw [strI_cl, List.all_eq_true]
    exact fun c hc => decide_eq_true (TL.numL_digits n c hc)
  · rw [strI_cl] at h2
    rw [hlen, numL_lead n h2]; rfl
theorem strI_free {n c : Nat} (h : c < 48 ∨ 57 < c) : c ∉ cl (strI (n : Int)) := by
  rw [strI_cl]
  exact TL.numL_free h
theorem strI_len {n : Nat} {k : Nat} (hk : 0 < k) (h : n < 10 ^ k) : (strI (n : Int)).length ≤ k := by
  rw [← cl_len, strI_cl]
  exact TL.numL_len hk h
end Dy

namespace Dy
open PySem PySem.Spec L2
open PyProof.Rows hiding St
open Enc (rep)
open EncA (repA)
def unR {α β : Type} : List (α ⊕ β) → Option (List β)
  | [] => some []
  | .inl _ :: _ => none
  | .inr x :: r => (unR r).map (x :: ·)
theorem unR_some {α β : Type} : ∀ {xs : List (α ⊕ β)} {ys : List β}, unR xs = some ys → xs = ys.map .inr
  | [], ys, h => by cases h; rfl
  | .inl _ :: _, ys, h => by cases h
  | .inr x :: r, ys, h => by
    unfold unR at h
    cases hr : unR r with
    | none => rw [hr] at h; cases h
    | some zs =>
      rw [hr] at h
      cases h
      rw [List.map_cons, unR_some hr]
theorem unR_map {α β : Type} : ∀ ys : List β, unR (ys.map (Sum.inr : β → α ⊕ β)) = some ys
  | [] => rfl
  | y :: r => by
    show (unR (r.map Sum.inr)).map (y :: ·) = _
    rw [unR_map r]; rfl
instance {α : Type} [EqD α] : EqD (Option (List α)) := ⟨fun x => match x with | none => .none | some l => EqD.toD l, fun {K F H v x} h f => by
  cases x with
  | none => rw [show v = V.non from h]; exact .non
  | some l => exact EqD.dp (α := List α) h f, fun x y => by
  cases x with
  | none => cases y with
    | none => exact ⟨fun _ => rfl, fun _ => rfl⟩
    | some m => exact ⟨fun h => (by cases (show false = true from h)), fun h => by cases h⟩
  | some l => cases y with
    | none => exact ⟨fun h => (by cases (show false = true from h)), fun h => by cases h⟩
    | some m => exact (EqD.eqv l m).trans ⟨fun h => by rw [h], fun h => Option.some.inj h⟩⟩
instance {α : Type} {n : Nat} [Shp α n] : Shp (Option (List α)) (n + 1) := ⟨fun x => by
  cases x with
  | none => exact ⟨by show PyData.canLay0 .none = true; unfold PyData.canLay0; rfl, by show PyData.depth .none ≤ n + 1; unfold PyData.depth; omega⟩
  | some l => exact Shp.ok (α := List α) l⟩
section
variable {X : Cx} {σ : L2.St} {s : S} {e : Expr} {α β : Type} [Enc α] [Enc β] {K : PySem.W.Frag}
theorem reps_unR {F : Hp} : ∀ {vs : List V} {ys : List β}, Reps K F vs (ys.map (Sum.inr : β → α ⊕ β)) → Reps K F vs ys
  | [], [], _ => trivial
  | _ :: _, _ :: _, ⟨h, t⟩ => ⟨h, reps_unR t⟩
  | [], _ :: _, h => h.elim
  | _ :: _, [], h => h.elim
theorem er_unR {xs : List (α ⊕ β)} {ys : List β} (h : EvR X e σ s xs) (hu : unR xs = some ys) : EvR X e σ s ys := by
  obtain rfl := unR_some hu
  exact fun s1 k Q q => h s1 k Q fun v s2 k2 ⟨p, vs, e1, h1, h2⟩ => q v s2 k2 ⟨p, vs, e1, h1, reps_unR h2⟩
theorem ev_unR {xs : List (α ⊕ β)} {ys : List β} (h : Ev X e σ s xs) (hu : unR xs = some ys) : Ev X e σ s ys := by
  obtain rfl := unR_some hu
  exact fun s1 k Q q => h s1 k Q fun v s2 k2 ⟨p, vs, e1, h1, h2⟩ => q v s2 k2 ⟨p, vs, e1, h1, reps_unR h2⟩
end
end Dy

namespace Dy
open PySem PySem.Spec L2
open PyProof.Rows hiding St
open Enc (rep)
open EncA (repA)
structure LL where
  p : Addr
  q : List Addr
def Cols {α : Type} [Enc α] (K : PySem.W.Frag) (F H : Hp) (qs : List Addr) (xss : List (List α)) : Prop := qs.length = xss.length ∧ ∀ (i : Nat) (q : Addr) (xs : List α), qs[i]? = some q → xss[i]? = some xs → ∃ vs, H q = some (.lst vs) ∧ Reps K F vs xs
def oll {α : Type} [Enc α] (l : LL) (xss : List (List α)) : OA := ⟨fun K F H P => l.q.Nodup ∧ l.p ∉ l.q ∧ (∀ a, P a ↔ (a = l.p ∨ a ∈ l.q)) ∧ H l.p = some (.lst (l.q.map .ref)) ∧ Cols K F H l.q xss,
  fun e ⟨h0, h1, h2, h3, h4, h5⟩ => ⟨h0, h1, h2, h3, h4, fun i q xs a b => by
    obtain ⟨vs, g1, g2⟩ := h5 i q xs a b
    exact ⟨vs, g1, g2.mono e⟩⟩,
  fun e ⟨h0, h1, h2, h3, h4, h5⟩ => ⟨h0, h1, h2, by rw [e _ ((h2 _).mpr (.inl rfl))]; exact h3, h4, fun i q xs a b => by
    obtain ⟨vs, g1, g2⟩ := h5 i q xs a b
    exact ⟨vs, by rw [e q ((h2 q).mpr (.inr (List.mem_of_getElem? a)))]; exact g1, g2⟩⟩,
  fun ⟨h0, h1, h2, h3, h4, h5⟩ q => by
    rcases (h2 _).mp q with rfl | hq
    · exact ⟨_, h3⟩
    · obtain ⟨i, hi⟩ := List.mem_iff_getElem?.mp hq
      have hl : i < xss.length := by rw [← h4]; exact (List.getElem?_eq_some_iff.mp hi).1
      obtain ⟨vs, g1, _⟩ := h5 i _ _ hi (List.getElem?_eq_getElem hl)
      exact ⟨_, g1⟩⟩
structure OwnLL {α : Type} [Enc α] (K : PySem.W.Frag) (s : S) (l : LL) (xss : List (List α)) : Prop where
  nd : l.q.Nodup
  np : l.p ∉ l.q
  fp : s.F l.p = none
  fq : ∀ q ∈ l.q, s.F q = none
  hp : s.H l.p = some (.lst (l.q.map .ref))
  c : Cols K s.F s.H l.q xss
section
variable {α τ : Type} [Enc α] [Enc τ] {K : PySem.W.Frag} {P0 : Addr → Prop} {s0 s s1 t : S} {L : List OA} {l : LL} {xss zss : List (List α)} {xs ys : List α} {i : Nat} {q : Addr}
theorem OwnLL.len (h : OwnLL K s l xss) : l.q.length = xss.length := h.c.1
theorem OwnLL.ref (h : OwnLL K s l xss) (hi : i < xss.length) : ∃ q, l.q[i]? = some q := ⟨l.q[i]'(by rw [h.len]; exact hi), List.getElem?_eq_getElem _⟩
theorem OwnLL.row (h : OwnLL K s l xss) (hq : l.q[i]? = some q) (hx : xss[i]? = some xs) : Own K s q xs := by
  obtain ⟨vs, h1, h2⟩ := h.c.2 i q xs hq hx
  exact ⟨h.fq q (List.mem_of_getElem? hq), vs, h1, h2⟩
theorem OwnLL.ex (h : OwnLL K s l xss) (e : Ex s t) : OwnLL K t l xss := by
  refine ⟨h.nd, h.np, e.n _ _ h.hp h.fp, fun q hq => ?_, e.h _ _ h.hp, h.c.1, fun i q xs a b => ?_⟩
  · obtain ⟨i, hi⟩ := List.mem_iff_getElem?.mp hq
    have hl : i < xss.length := by rw [← h.len]; exact (List.getElem?_eq_some_iff.mp hi).1
    obtain ⟨vs, g1, _⟩ := h.c.2 i _ _ hi (List.getElem?_eq_getElem hl)
    exact e.n _ _ g1 (h.fq q hq)
  · obtain ⟨vs, g1, g2⟩ := h.c.2 i q xs a b
    exact ⟨vs, e.h _ _ g1, g2.mono e.f⟩
theorem Iv.oll (h : Iv K P0 s0 s L) (k : Nat) (e : L[k]? = some (Dy.oll l xss) := by rfl) : OwnLL K s l xss := by
  obtain ⟨P, ⟨h0, h1, h2, h3, h4⟩, h5⟩ := h.at k e
  exact ⟨h0, h1, h5 _ ((h2 _).mpr (.inl rfl)), fun q hq => h5 _ ((h2 _).mpr (.inr hq)), h3, h4⟩
theorem Iv.mll (h : Iv K P0 s0 s L) (k : Nat) (m : Mx (· = q) s s1) (hq : l.q[i]? = some q) (o : Own K s1 q ys) (e : zss = xss.set i ys) (hA : L[k]? = some (Dy.oll l xss) := by rfl) : Iv K P0 s0 s1 (L.set k (Dy.oll l zss)) := by
  subst e
  refine h.upd k hA fun P hP hF => ⟨P, ?_, fun a z => ⟨?_, .inl z⟩, ?_⟩
  · obtain ⟨h0, h1, h2, h3, h4, h5⟩ := hP
    have mq : q ∈ l.q := List.mem_of_getElem? hq
    have ne : l.p ≠ q := fun z => h1 (by rw [z]; exact mq)
    refine ⟨h0, h1, h2, m.h _ _ h3 ne, by rw [List.length_set]; exact h4, fun j r zs a b => ?_⟩
    by_cases e : i = j
    · subst e
      rw [hq] at a
      cases a
      have hl : i < xss.length := by rw [← h4]; exact (List.getElem?_eq_some_iff.mp hq).1
      rw [List.getElem?_set_self hl] at b
      cases b
      obtain ⟨_, vs, g1, g2⟩ := o
      exact ⟨vs, g1, g2⟩
    · rw [List.getElem?_set_ne e] at b
      obtain ⟨vs, g1, g2⟩ := h5 j r zs a b
      have hn : r ≠ q := fun z => by
        obtain ⟨hi, ei⟩ := List.getElem?_eq_some_iff.mp hq
        obtain ⟨hj, ej⟩ := List.getElem?_eq_some_iff.mp a
        exact e ((List.getElem_inj h0).mp (ei.trans (z.symm.trans ej.symm)))
      exact ⟨vs, m.h _ _ g1 hn, g2.mono m.f⟩
  · obtain ⟨u, hu⟩ := (Dy.oll l xss).dom hP z
    exact m.n _ _ hu (hF a z)
  · exact ⟨m.f, fun a o z n => m.h a o z fun e => n (by rw [e]; exact (hP.2.2.1 q).mpr (.inr (List.mem_of_getElem? hq))), fun a o z _ w => m.n a o z w, m.d⟩
theorem Iv.frzP {A : OA} {γ : Type} [Enc γ] {v : V} {x : γ} (h : Iv K P0 s0 s L) (k : Nat) (hA : L[k]? = some A)
    (st : ∀ P, A.p K s.F s.H P → (∀ a, P a → s.F a = none) → ∃ s' : S, s'.H = s.H ∧ Fle s.F s'.F ∧ (∀ a, ¬ P a → s'.F a = s.F a) ∧ rep K s'.F v x) :
    ∃ s' : S, s'.H = s.H ∧ Fle s.F s'.F ∧ Iv K P0 s0 s' (L.set k (Dy.fz v x)) := by
  obtain ⟨φ, g1, g2, g3⟩ := h.o
  obtain ⟨s', h1, h2, h3, h4⟩ := st (φ k) (g1 k _ hA) fun a q => (g3 k a q).1
  refine ⟨s', h1, h2, ?_⟩
  have hi : k < L.length := (List.getElem?_eq_some_iff.mp hA).1
  refine ⟨⟨h.m.f.trans h2, fun a o q n => by rw [h1]; exact h.m.h a o q n, fun a o q np n => ?_, fun a o q => by rw [h1]; exact h.m.d a o q⟩, fun j a => if j = k then False else φ j a, fun j B hB => ?_, fun j m a q r => ?_, fun j a q => ?_⟩
  · have ne : ¬ φ k a := fun z => by
      rcases (g3 k a z).2.1 with w | w
      · exact np w
      · rw [w] at q; cases q
    rw [h3 a ne]
    exact h.m.n a o q np n
  · by_cases e : j = k
    · subst e
      rw [List.getElem?_set_self hi] at hB
      cases hB
      exact ⟨h4, fun a => by simp⟩
    · rw [List.getElem?_set_ne (Ne.symm e)] at hB
      simp only [e, if_false]
      rw [h1]
      exact B.mono h2 (g1 j B hB)
  · by_cases e : j = k
    · simp only [e, if_true] at q
    · by_cases e2 : m = k
      · simp only [e2, if_true] at r
      · simp only [e, if_false] at q
        simp only [e2, if_false] at r
        exact g2 _ _ _ q r
  · by_cases e : j = k
    · simp only [e, if_true] at q
    · simp only [e, if_false] at q
      obtain ⟨z1, z2, z3⟩ := g3 j a q
      have ne : ¬ φ k a := fun z => e (g2 _ _ _ q z)
      exact ⟨by rw [h3 a ne]; exact z1, z2, by rw [List.length_set]; exact z3⟩
theorem reps_of {γ : Type} [Enc γ] {F : Hp} : ∀ {vs : List V} {xs : List γ}, vs.length = xs.length → (∀ (i : Nat) (v : V) (x : γ), vs[i]? = some v → xs[i]? = some x → rep K F v x) → Reps K F vs xs
  | [], [], _, _ => trivial
  | v :: vs, x :: xs, h, k => ⟨k 0 v x rfl rfl, reps_of (Nat.succ.inj h) fun i v x a b => k (i + 1) v x (by simpa using a) (by simpa using b)⟩
  | [], _ :: _, h, _ => by simp at h
  | _ :: _, [], h, _ => by simp at h
theorem Iv.frzLL (h : Iv K P0 s0 s L) (k : Nat) (hA : L[k]? = some (Dy.oll l xss)) : ∃ s' : S, s'.H = s.H ∧ Fle s.F s'.F ∧ Iv K P0 s0 s' (L.set k (Dy.fz (.ref l.p) xss)) := by
  refine h.frzP k hA fun P ⟨h0, h1, h2, h3, h4, h5⟩ hF => ?_
  have dc : ∀ a, Decidable (a = l.p ∨ a ∈ l.q) := fun a => inferInstance
  have f : Fle s.F (fun a => if a = l.p ∨ a ∈ l.q then s.H a else s.F a) := fun a o z => by
    show (if a = l.p ∨ a ∈ l.q then s.H a else s.F a) = _
    by_cases c : a = l.p ∨ a ∈ l.q
    · rw [hF a ((h2 a).mpr c)] at z; cases z
    · rw [if_neg c]; exact z
  refine ⟨⟨fun a => if a = l.p ∨ a ∈ l.q then s.H a else s.F a, s.H, fun a o z => ?_⟩, rfl, f, fun a n => ?_, ?_⟩
  · by_cases c : a = l.p ∨ a ∈ l.q
    · rw [if_pos c] at z; exact z
    · rw [if_neg c] at z; exact s.sub a o z
  · exact if_neg fun c => n ((h2 a).mpr c)
  · refine ⟨l.p, l.q.map .ref, rfl, .inl (.inl ?_), reps_of (by rw [List.length_map]; exact h4) fun i v x a b => ?_⟩
    · show (if l.p = l.p ∨ l.p ∈ l.q then s.H l.p else s.F l.p) = _
      rw [if_pos (.inl rfl)]; exact h3
    · rw [List.getElem?_map] at a
      obtain ⟨q, hq, rfl⟩ := Option.map_eq_some_iff.mp a
      obtain ⟨vs, g1, g2⟩ := h5 i q x hq b
      refine ⟨q, vs, rfl, .inl (.inl ?_), g2.mono f⟩
      show (if q = l.p ∨ q ∈ l.q then s.H q else s.F q) = _
      rw [if_pos (.inr (List.mem_of_getElem? hq))]; exact g1
theorem iv_ll (e : Ex s s1) (h1 : s.H l.p = none) (h2 : ∀ a ∈ l.q, s.H a = none) (o : OwnLL K s1 l xss) : Iv K No s s1 [Dy.oll l xss] :=
  Iv.put (L := [top]) (Iv.tops (P0 := No) 1 s) 0 e ⟨fun a => a = l.p ∨ a ∈ l.q, ⟨o.nd, o.np, fun _ => Iff.rfl, o.hp, o.c⟩, fun a z => by
    rcases z with rfl | z
    · exact ⟨o.fp, h1⟩
    · exact ⟨o.fq a z, h2 a z⟩⟩
@[reducible] def encIx (l : LL) : Enc Nat := ⟨fun K F v i => ∃ q, l.q[i]? = some q ∧ v = .ref q, fun e h => h⟩
theorem Iv.rll {R : List OA} (h : Iv K P0 s0 s L) (r : Ro K P0 s0 R) (k : Nat) (e : R[k]? = some (Dy.oll l xss) := by rfl) : s.H l.p = some (.lst (l.q.map .ref)) ∧ Cols K s.F s.H l.q xss := by
  obtain ⟨P, h0, h1, h2, h3, h4⟩ := h.ro r k e
  exact ⟨h3, h4⟩
end
section
variable {α τ : Type} [Enc α] [Enc τ] {X : Cx} {σ : L2.St} {P0 : Addr → Prop} {s0 s s1 t : S} {L : List OA} {l : LL} {xss yss : List (List α)} {xs : List α} {e a b c o i elt tg iter : Expr} {ifs : List Expr} {scope : Scope} {own : List (Str × Nat)} {pos p0 p1 : Pos} {D : Ends} {rest : List Stmt}
def RdLL (K : PySem.W.Frag) (s : S) (l : LL) (xss : List (List α)) : Prop := s.H l.p = some (.lst (l.q.map .ref)) ∧ Cols K s.F s.H l.q xss
theorem OwnLL.r {K : PySem.W.Frag} (h : OwnLL K s l xss) : RdLL K s l xss := ⟨h.hp, h.c⟩
theorem RdLL.ex {K : PySem.W.Frag} (h : RdLL K s l xss) (e : Ex s t) : RdLL K t l xss := ⟨e.h _ _ h.1, h.2.1, fun i q xs a b => by
  obtain ⟨vs, g1, g2⟩ := h.2.2 i q xs a b
  exact ⟨vs, e.h _ _ g1, g2.mono e.f⟩⟩
theorem atI_ix {β : Type} {xs : List β} {z : Int} {x : β} (h : atI xs z = some x) : ∃ j, ixN xs.length z = some j ∧ xs[j]? = some x := by
  unfold atI at h
  cases hj : ixN xs.length z with
  | none => rw [hj] at h; cases h
  | some j => rw [hj] at h; exact ⟨j, rfl, h⟩
theorem er_llix {z : Int} (ho : Ev X o σ s (Rw.mk (.ref l.p))) (r : RdLL X.K s l xss) (hi : Ev X i σ s z) (hx : atI xss z = some xs) (hp : PlainIx i := by intro _ _; rfl) : EvR X (.Subscript o i pos) σ s xs := fun s1 k Q q =>
  we_of (pe_ix ix_list pe_we pe_we hp) (ho s1 k _ fun v s2 k2 e2 => hi s2 (k.trans k2) _ fun u s3 k3 r3 => by
    cases (show v = V.ref l.p from e2)
    have h := r.ex ((k.trans k2).trans k3)
    obtain ⟨j, h1, h2⟩ := atI_ix hx
    have hl : j < l.q.length := by rw [h.2.1]; exact (List.getElem?_eq_some_iff.mp h2).1
    have hq : l.q[j]? = some l.q[j] := List.getElem?_eq_getElem hl
    obtain ⟨vs, g1, g2⟩ := h.2.2 j _ _ hq h2
    refine ⟨l.p, _, z, .ref l.q[j], rfl, r3, .inl (.inl h.1), ?_, q _ s3 (k2.trans k3) ⟨l.q[j], vs, rfl, .inl (.inl g1), g2⟩⟩
    unfold atI
    rw [List.length_map, h.2.1, h1]
    show (l.q.map V.ref)[j]? = _
    rw [List.getElem?_map, hq]; rfl)
theorem raw_llix {z : Int} {j : Nat} {q : Addr} (ho : Ev X o σ s (Rw.mk (.ref l.p))) (r : RdLL X.K s l xss) (hi : Ev X i σ s z) (hj : ixN xss.length z = some j) (hq : l.q[j]? = some q) (hp : PlainIx i := by intro _ _; rfl) : Ev X (.Subscript o i pos) σ s (Rw.mk (.ref q)) := fun s1 k Q qq =>
  we_of (pe_ix ix_list pe_we pe_we hp) (ho s1 k _ fun v s2 k2 e2 => hi s2 (k.trans k2) _ fun u s3 k3 r3 => by
    cases (show v = V.ref l.p from e2)
    have h := r.ex ((k.trans k2).trans k3)
    refine ⟨l.p, _, z, .ref q, rfl, r3, .inl (.inl h.1), ?_, qq _ s3 (k2.trans k3) rfl⟩
    unfold atI
    rw [List.length_map, h.2.1, hj]
    show (l.q.map V.ref)[j]? = _
    rw [List.getElem?_map, hq]; rfl)
theorem ev_llen (hm : X.mg "len" = none) (ho : Ev X o σ s (Rw.mk (.ref l.p))) (r : RdLL X.K s l xss) (hg : Gl X "len" := by rfl) (he : starEach [o] X.env = (false, eval o X.env) :: starEach [] X.env := by rfl) (hpl : (backTo pos (starEach [] X.env)).any (·.1) = false := by rfl) : Ev X (.Call (.Name "len" p0) [o] [] pos) σ s (xss.length : Int) := fun s1 k Q q =>
  we_of (pe_callB call_len_seq hg hm boot_len (pa_cons pe_we pa_nil he) (he := he) (hpl := hpl)) (ho s1 k _ fun u s2 k2 e2 => by
    cases (show u = V.ref l.p from e2)
    have h := r.ex (k.trans k2)
    exact ⟨l.p, _, rfl, .inl (.inl (.inl h.1)), q _ s2 k2 (by rw [List.length_map, h.2.1]; rfl)⟩)
def GLL (l : LL) : S → Prop := fun t => t.H l.p = some (.lst (l.q.map .ref))
theorem ei_ll (h : Ev X e σ s (Rw.mk (.ref l.p))) (r : RdLL X.K s l xss) : @EvIG Nat (encIx l) X tg e σ s (GLL l) (List.range xss.length) := fun s1 k R q =>
  wi_of (pi_list pe_we) (h s1 k _ fun v s2 k2 e2 => by
    cases (show v = V.ref l.p from e2)
    have h0 := r.ex (k.trans k2)
    letI := encIx l
    have w : @WalkG Nat (encIx l) X.K (GLL l) (Itl X.K l.p) (List.range xss.length) := ⟨fun j t x ht hx => by
      obtain ⟨hj, ej⟩ := List.getElem?_eq_some_iff.mp hx
      rw [List.length_range] at hj
      rw [List.getElem_range] at ej
      subst ej
      have hl : j < l.q.length := by rw [h0.2.1]; exact hj
      have hv : (l.q.map V.ref)[j]? = some (V.ref l.q[j]) := by rw [List.getElem?_map, List.getElem?_eq_getElem hl]; rfl
      refine ⟨⟨_, _, .inl (.inl ht), hv⟩, fun w H' ⟨e1, hy⟩ => ⟨t, e1.symm, Ex.refl _, ?_⟩⟩
      have := hy _ (.inl (.inl ht))
      rw [hv] at this
      cases this
      exact ⟨_, List.getElem?_eq_getElem hl, rfl⟩, fun j t ht hi => ⟨_, .inl (.inl ht), by rw [List.length_map, h0.2.1]; rw [List.length_range] at hi; exact hi⟩⟩
    exact ⟨l.p, rfl, ⟨_, .inl (.inl h0.1)⟩, q _ s2 k2 w⟩)
theorem do_frzLL {ss : List Stmt} (h : Iv X.K P0 s0 s L) (k : Nat) (hA : L[k]? = some (Dy.oll l xss)) (kk : ∀ s', Fle s.F s'.F → Iv X.K P0 s0 s' (L.set k (Dy.fz (.ref l.p) xss)) → WSs X ss D σ s'.H) : WSs X ss D σ s.H := by
  obtain ⟨s', h1, h2, h3⟩ := h.frzLL k hA
  rw [← h1]
  exact kk s' h2 h3
theorem comp_readLL {xs : List τ} {f : τ → Option (List α)} {g : TG} {B : Hp → τ → St → St → Prop} (hi : EvI X tg iter σ s xs) (T : Tgt (α := τ) X.K g B) (hf : mapO f xs = some yss) (hz : yss.length ≤ sizeLine)
    (hw : ∀ (F : Hp) (x : τ) σ2, B F x (wipe σ (own.map (·.2))) σ2 → wipe σ2 (own.map (·.2)) = wipe σ (own.map (·.2)))
    (he : ∀ (x : τ) (y : List α) (s1 : S) (σ2 : St), x ∈ xs → Ex s s1 → B s1.F x (wipe σ (own.map (·.2))) σ2 → f x = some y → ∀ s0 H0 C cl fp, EvN (Blk X scope s0 H0 C cl fp) elt σ2 s1 y)
    (s1 : S) (k : Ex s s1) (Q : VK) (q : ∀ (l : LL) s2, Ex s1 s2 → s1.H l.p = none → (∀ a ∈ l.q, s1.H a = none) → OwnLL X.K s2 l yss → Q (.ref l.p) s2.H) : tLc (WI X tg iter) g tYes (fun σ H Q => ∀ s0 H0 C cl fp, WE (Blk X scope s0 H0 C cl fp) elt σ H Q) (own.map (·.2)) σ s1.H Q := by
  refine hi s1 k _ fun J s2 k2 W => ?_
  intro D hD
  refine ⟨fun i m H => ∃ (u : S) (pre : List (List α)) (qs : List Addr), u.H = H ∧ m = xs.length - i ∧ Ex s2 u ∧ OwnLL X.K u ⟨D, qs⟩ pre ∧ (∀ a ∈ qs, s2.H a = none) ∧ (∃ suf, mapO f (xs.drop i) = some suf ∧ pre ++ suf = yss), ⟨xs.length, s2.newO D (.lst []) hD, [], [], rfl, rfl, Ex.newO hD, ⟨List.nodup_nil, by simp, (fF hD : s2.F D = none), by simp, upd_same, rfl, fun i q xs a b => by simp at a⟩, by simp, yss, hf, rfl⟩, ?_⟩
  rintro i m H ⟨u, pre, qs, rfl, rfl, ku, n1, n4, suf, h1, h2⟩
  by_cases hi' : i < xs.length
  · right
    have hx : xs[i]? = some xs[i] := List.getElem?_eq_getElem hi'
    obtain ⟨g1, g2⟩ := W.go i u xs[i] ku.f hx
    refine ⟨g1, fun H' => ∃ m', m' < xs.length - i ∧ ∃ (u : S) (pre : List (List α)) (qs : List Addr), u.H = H' ∧ m' = xs.length - (i + 1) ∧ Ex s2 u ∧ OwnLL X.K u ⟨D, qs⟩ pre ∧ (∀ a ∈ qs, s2.H a = none) ∧ (∃ suf, mapO f (xs.drop (i + 1)) = some suf ∧ pre ++ suf = yss), fun H' z => z, fun v H' hy => ?_⟩
    obtain ⟨u', rfl, ku', rv⟩ := g2 v H' hy
    refine T.run u' v xs[i] _ _ rv fun σ2 hB => ⟨hw _ _ _ hB, ?_⟩
    have mem : xs[i] ∈ xs := List.getElem_mem hi'
    have base : Ex s u' := (k.trans k2).trans (ku.trans ku')
    unfold tYes
    dsimp only
    rw [if_pos rfl]
    rw [List.drop_eq_getElem_cons hi'] at h1
    unfold mapO compO at h1
    rw [Option.bind_some, if_pos rfl] at h1
    have hlt : xs.length - (i + 1) < xs.length - i := by omega
    cases hfx : f xs[i] with
    | none => rw [hfx] at h1; cases h1
    | some y =>
      rw [hfx, Option.bind_some] at h1
      cases hr : compO (fun _ => some true) f (xs.drop (i + 1)) with
      | none => rw [hr] at h1; cases h1
      | some suf' =>
        rw [hr] at h1
        cases h1
        intro s0 H0 C cl fp
        refine he xs[i] y u' σ2 mem base hB hfx s0 H0 C cl fp u' (Ex.refl _) _ fun p u4 k4 n5 o4 => ?_
        have k5 : Ex u u4 := ku'.trans k4
        have o5 := n1.ex k5
        have hD4 : u4.H D = some (.lst (qs.map .ref)) := o5.hp
        have hF4 : u4.F D = none := o5.fp
        have hlen : (qs.map V.ref).length < sizeLine := by
          have e1 := n1.len
          have e2 : yss.length = pre.length + (suf'.length + 1) := by rw [← h2, List.length_append, List.length_cons]
          have e3 : qs.length = pre.length := e1
          rw [List.length_map]
          omega
        have pn : ∀ {a : Addr} {o : HO}, u.H a = some o → a ≠ p := fun z e => by
          rw [e] at z
          rw [ku'.h _ _ z] at n5; cases n5
        have nq : p ∉ qs := fun z => by
          obtain ⟨j, hj⟩ := List.mem_iff_getElem?.mp z
          have hl : j < pre.length := by rw [← n1.len]; exact (List.getElem?_eq_some_iff.mp hj).1
          obtain ⟨_, vs, g, _⟩ := n1.row hj (List.getElem?_eq_getElem hl)
          exact pn g rfl
        have nD : D ≠ p := pn n1.hp
        obtain ⟨of, vs4, oh, orp⟩ := o4
        have hput : ∀ a, a ≠ D → (u4.put D (.lst (qs.map .ref ++ [.ref p])) hF4).H a = u4.H a := fun a z => upd_ne z
        refine ⟨_, hD4, hlen, _, hlt, u4.put D (.lst (qs.map .ref ++ [.ref p])) hF4, pre ++ [y], qs ++ [p], rfl, rfl, (ku.trans k5).mu1 (Mx.put hF4) hD, ⟨?_, ?_, hF4, ?_, ?_, ?_, ?_⟩, ?_, suf', hr, by rw [List.append_assoc]; exact h2⟩
        · rw [List.nodup_append]
          exact ⟨n1.nd, by simp, fun a ha b hb => by
            rw [List.mem_singleton] at hb
            subst hb
            exact fun e => nq (e ▸ ha)⟩
        · intro z
          rcases List.mem_append.mp z with z | z
          · exact n1.np z
          · exact nD (List.mem_singleton.mp z)
        · intro a z
          rcases List.mem_append.mp z with z | z
          · exact o5.fq a z
          · rw [List.mem_singleton.mp z]; exact of
        · show upd u4.H D _ D = _
          rw [upd_same, List.map_append]; rfl
        · show (qs ++ [p]).length = _
          rw [List.length_append, List.length_append]
          have e3 : qs.length = pre.length := n1.len
          rw [e3]; rfl
        · intro j r zs ha hb
          have e3 : qs.length = pre.length := n1.len
          by_cases hj : j < qs.length
          · rw [List.getElem?_append_left hj] at ha
            rw [List.getElem?_append_left (by omega)] at hb
            obtain ⟨vs, g1, g2⟩ := o5.c.2 j r zs ha hb
            have : r ≠ D := fun z => n1.np (by rw [← z]; exact List.mem_of_getElem? ha)
            exact ⟨vs, (hput r this).trans g1, g2⟩
          · rw [List.getElem?_append_right (by omega)] at ha hb
            have hj2 : j - qs.length = 0 := by
              have := (List.getElem?_eq_some_iff.mp ha).1
              simp at this; omega
            rw [hj2] at ha
            rw [← e3, hj2] at hb
            cases ha; cases hb
            exact ⟨vs4, (hput p (Ne.symm nD)).trans oh, orp⟩
        · intro a z
          rcases List.mem_append.mp z with z | z
          · exact n4 a z
          · rw [List.mem_singleton.mp z]
            exact fr_back (ku.trans ku') n5
  · left
    have hd : xs.drop i = [] := List.drop_eq_nil_of_le (by omega)
    rw [hd] at h1
    cases h1
    rw [List.append_nil] at h2
    subst h2
    exact ⟨W.stop i u ku.f (by omega), q ⟨D, qs⟩ u (k2.trans ku) (fr_back k2 hD) (fun a z => fr_back k2 (n4 a z)) n1⟩
structure EvLL (X : Cx) (elt tg iter : Expr) (ifs : List Expr) (scope : Scope) (σ : St) (s : S) (yss : List (List α)) : Prop where
  calm : X.calm = true
  nd : X.N.Nodup
  fs : ∀ x, foldedSetIterable iter X.env x = pure x
  ex : ∃ (own : List (Str × Nat)) (g : TG) (tt : TT), BlkOk X.N X.env.scope scope own ∧ (∀ s0 H0 C cl fp, PG (Blk X scope s0 H0 C cl fp) tg g) ∧ (∀ s0 H0 C cl fp, PTs (Blk X scope s0 H0 C cl fp) ifs tt) ∧
    ∀ s1, Ex s s1 → ∀ Q : VK, (∀ (l : LL) s2, Ex s1 s2 → s1.H l.p = none → (∀ a ∈ l.q, s1.H a = none) → OwnLL X.K s2 l yss → Q (.ref l.p) s2.H) → tLc (WI X tg iter) g tt (fun σ H Q => ∀ s0 H0 C cl fp, WE (Blk X scope s0 H0 C cl fp) elt σ H Q) (own.map (·.2)) σ s1.H Q
theorem en_compLL {xs : List τ} {f : τ → Option (List α)} {j : Nat} {n : Str} {py : Pos} (hc : X.calm = true) (hN : X.N.Nodup) (hi : EvI X (.Name n py) iter σ s xs) (ok : BlkOk X.N X.env.scope scope own) (hj : X.N[j]? = some n)
    (hjo : j ∈ own.map (·.2)) (hg : ∀ s0 H0 C cl fp, PG (Blk X scope s0 H0 C cl fp) (.Name n py) (gName j)) (hf : mapO f xs = some yss) (hz : yss.length ≤ sizeLine)
    (he : ∀ (x : τ) (y : List α) (v : V) (s1 : S), x ∈ xs → Ex s s1 → rep X.K s1.F v x → f x = some y → ∀ s0 H0 C cl fp, EvN (Blk X scope s0 H0 C cl fp) elt ((wipe σ (own.map (·.2))).set j (some v)) s1 y)
    (hs : ∀ x, foldedSetIterable iter X.env x = pure x := by intro _; rfl) : EvLL X elt (.Name n py) iter [] scope σ s yss :=
  ⟨hc, hN, hs, own, _, _, ok, hg, fun _ _ _ _ _ => pts_nil, fun s1 k Q q => comp_readLL hi tg_n hf hz (fun F x σ2 ⟨v, _, e⟩ => by rw [e, wipe_set hjo]; exact wipe_wipe fun _ z => z)
    (fun x y s1 σ2 hx k ⟨v, r, e⟩ hfx => by subst e; exact he x y v s1 hx k r hfx) s1 k Q q⟩
theorem eg_LL (h : EvLL X elt tg iter ifs scope σ s yss) : EvG X (.ListComp elt [⟨tg, iter, ifs, 0⟩] scope pos) σ s (fun v L' => ∃ l : LL, v = .ref l.p ∧ L' = [oll l yss]) := fun s1 k Q q => by
  obtain ⟨own, g, tt, h1, h2, h3, h4⟩ := h.ex
  exact we_of (pe_lc h.calm h.nd pi_wi h1 h2 h3 (fun s0 H0 C cl fp => pe_im fun _ _ _ h => h s0 H0 C cl fp) h.fs) (h4 s1 k Q fun l s2 k2 n1 n2 o => q _ s2 _ ⟨l, rfl, rfl⟩ (iv_ll k2 n1 n2 o))
theorem do_setLL (i : Nat) {n : Str} {py : Pos} {spos : Pos} (h : EvLL X elt tg iter ifs scope σ s yss) (k : ∀ v s1 L', (∃ l : LL, v = V.ref l.p ∧ L' = [oll l yss]) → Iv X.K No s s1 L' → WSs X rest D (σ.set i (some v)) s1.H) (hk : X.env.scope.kind = .function) (hy : X.env.scope.names.lookup n = some .local)
    (hl : (py.line == pos.line) = true := by rfl) (ha : (scope.names.any fun (m, k) => m == n && (k == .local || k == .cell)) = false := by decide +kernel) (hi : X.N[i]? = some n := by rfl) :
    WSs X (.Assign [.Name n py] (.ListComp elt [⟨tg, iter, ifs, 0⟩] scope pos) spos :: rest) D σ s.H := by
  obtain ⟨own, g, tt, h1, h2, h3, h4⟩ := h.ex
  exact ws_of (pss_cons (ps_setLc (te := fun σ H Q => ∀ s0 H0 C cl fp, WE (Blk X scope s0 H0 C cl fp) elt σ H Q) h.calm h.nd hi hy (sw_true hk hy hl ha) pi_wi h1 h2 h3 (fun s0 H0 C cl fp => pe_im fun _ _ _ h => h s0 H0 C cl fp) h.fs) pss_ws) (h4 s (Ex.refl _) (fun x H1 => WSs X rest D (σ.set i (some x)) H1) fun l s2 k2 n1 n2 o => k _ s2 _ ⟨l, rfl, rfl⟩ (iv_ll k2 n1 n2 o))
end
end Dy

namespace Dy
open PySem PySem.Spec L2
open PyProof.Rows hiding St
open Enc (rep)
open EncA (repA)
instance : Flat (Option Bool) := ⟨fun x => match x with | none => .non | some i => .bl i, fun {K F v x} => by cases x <;> exact Iff.rfl, fun x => by cases x <;> rfl, fun x y => by
  cases x with
  | none => cases y with
    | none => exact ⟨fun _ => rfl, fun _ => rfl⟩
    | some b => cases b <;> exact ⟨fun h => (by cases h), fun h => (by cases h)⟩
  | some a => cases y with
    | none => cases a <;> exact ⟨fun h => (by cases h), fun h => (by cases h)⟩
    | some b => cases a <;> cases b <;> first | exact ⟨fun _ => rfl, fun _ => rfl⟩ | exact ⟨fun h => (by cases h), fun h => (by cases h)⟩⟩
section
variable {α β : Type} [Enc α] [Enc β] {X : Cx} {σ : L2.St} {s : S} {a b : Expr} {px py pt pos : Pos} {rest : List Stmt} {D : Ends}
theorem do_par2 (i j : Nat) {n m : Str} {x : α} {y : β} {kt k2 pt2} (h : EvA X [a, b] σ s (x, y, ())) (hN : X.N.Nodup) (hij : i ≠ j) (k : ∀ v w s1, Ex s s1 → rep X.K s1.F v x → rep X.K s1.F w y → WSs X rest D ((σ.set i (some v)).set j (some w)) s1.H)
    (hc : X.calm = true := by rfl) (hi : X.N[i]? = some n := by rfl) (hj : X.N[j]? = some m := by rfl) (hx : X.env.scope.names.lookup n = some .local := by rfl) (hy : X.env.scope.names.lookup m = some .local := by rfl)
    (hw : swappedStores [.Tuple [.Name n px, .Name m py] kt pt] (.Tuple [a, b] k2 pt2) X.env = pure (some [n, m]) := by rfl)
    (hs : swapsWithSole [.Tuple [.Name n px, .Name m py] kt pt] (.Tuple [a, b] k2 pt2) pos.line X.env = pure false := by rfl) :
    WSs X (.Assign [.Tuple [.Name n px, .Name m py] kt pt] (.Tuple [a, b] k2 pt2) pos :: rest) D σ s.H :=
  do_cons (ps_par hc hN hi hj hij hx hy pa_wa hw hs) (h s (Ex.refl _) _ fun vs s1 k1 r => by
    obtain ⟨v, _, rfl, r1, w, _, rfl, r2, rfl⟩ := r
    exact ⟨v, w, rfl, k v w s1 k1 r1 r2⟩)
end
end Dy

namespace Dy
open PySem PySem.Spec L2 PyProof.Rows

def ddS (xs : List Str) : List Str := xs.foldl (fun m x => if x ∈ m then m else m ++ [x]) []
theorem ddS_snoc (xs : List Str) (x : Str) : ddS (xs ++ [x]) = if x ∈ ddS xs then ddS xs else ddS xs ++ [x] := by
  unfold ddS
  rw [List.foldl_append]; rfl
theorem ddS_inv (xs : List Str) : (∀ x, x ∈ ddS xs ↔ x ∈ xs) ∧ (ddS xs).length ≤ xs.length ∧ ((ddS xs).length = xs.length ↔ xs.Nodup) := by
  obtain ⟨n, hn⟩ : ∃ n, n = xs.length := ⟨_, rfl⟩
  induction n generalizing xs with
  | zero =>
    obtain rfl := List.length_eq_zero_iff.mp hn.symm
    simp [ddS]
  | succ n ih =>
    obtain ⟨ys, y, rfl⟩ : ∃ ys y, xs = ys ++ [y] := ⟨xs.dropLast, xs.getLast (fun z => by rw [z] at hn; cases hn), (List.dropLast_concat_getLast _).symm⟩
    rw [List.length_append, List.length_singleton] at hn
    obtain ⟨h1, h2, h3⟩ := ih ys (by omega)
    rw [ddS_snoc]
    by_cases hm : y ∈ ddS ys
    · rw [if_pos hm]
      refine ⟨fun x => ?_, by rw [List.length_append]; omega, fun e => ?_, fun e => ?_⟩
      · rw [List.mem_append, List.mem_singleton, h1]
        exact ⟨.inl, fun z => z.elim id fun z => by rw [z]; exact (h1 y).mp hm⟩
      · rw [List.length_append, List.length_singleton] at e; omega
      · exact absurd rfl ((List.nodup_append.mp e).2.2 y ((h1 y).mp hm) y (List.mem_singleton.mpr rfl))
    · rw [if_neg hm]
      refine ⟨fun x => by rw [List.mem_append, List.mem_append, h1], by rw [List.length_append, List.length_append]; exact Nat.add_le_add_right h2 _, fun e => ?_, fun e => ?_⟩
      · rw [List.length_append, List.length_append] at e
        refine List.nodup_append.mpr ⟨h3.mp (Nat.add_right_cancel e), by simp, fun a ha b hb z => ?_⟩
        rw [List.mem_singleton.mp hb] at z
        exact hm ((h1 y).mpr (z ▸ ha))
      · rw [List.length_append, List.length_append, h3.mpr (List.nodup_append.mp e).1]
section
variable {prog : Program} {w : World} {A : Around} {R : Result → Shared → Prop} {it : Addr} {fp wr : List Addr} {G : Array GenState → Array GenState → Prop} {n : Nat} {P : Nat → Value → Prop} {St : Nat → Shared → Prop}
theorem loopD (W : WalksS prog w A.in1 it fp wr G n P St) (D : Addr) (hD : D ∉ fp) (xs : List Str) (hn : xs.length = n) (hb : n + 1 < scanBound) (hv : ∀ i v, P i v → ∃ t, v = .str (xs.getD i Str.empty) t) : ∀ (d i : Nat) (s : Shared), i + d = n → St i s →
    s.heap.SetOf (PySem.strKind prog w) D (fun y => decide (y ∈ ddS (xs.take i))) (ddS (xs.take i)).length →
    (∀ t, Moved (D :: wr) G s t → t.heap.SetOf (PySem.strKind prog w) D (fun y => decide (y ∈ ddS xs)) (ddS xs).length → R (.ok (.ret .none)) t) → codeAny (model prog w) A (.builtin "set.update.loop" ⟨[.ref D, .ref it], []⟩) R s := by
  have nw : D ∉ wr := fun z => hD (W.sub _ z)
  have up : ∀ b ∈ wr, b ∈ D :: wr := fun b z => List.mem_cons_of_mem _ z
  have mv : ∀ {s t : Shared} {f : Str → Bool} {m : Nat}, Moved wr G s t → s.heap.SetOf (PySem.strKind prog w) D f m → t.heap.SetOf (PySem.strKind prog w) D f m := fun {s t f m} k ⟨o, es, ep, tb, h1, h2⟩ => ⟨o, es, ep, tb, k.heap D _ nw h1, h2⟩
  intro d
  induction d with
  | zero =>
    intro i s e hst hS hR; obtain rfl : i = n := by omega
    refine codeAny_builtin PyProof.Rows.F.entry_set_update_loop ?_; rw [Around.under_plainId PyProof.Rows.F.plain_set_update_loop _]
    show wpAny _ A.in1 (pyNext (.ref it) >>= _) _ _ s
    refine wpAny_bind (W.done s _ _ hst fun t k => ?_); show wpAny _ A.in1 (ret Value.none) _ _ t
    have := mv k hS
    rw [List.take_of_length_le (by omega)] at this
    exact wpAny_pure (hR t (k.mono up) this)
  | succ d ih =>
    intro i s e hst hS hR; have lt : i < n := by omega
    refine codeAny_builtin PyProof.Rows.F.entry_set_update_loop ?_; rw [Around.under_plainId PyProof.Rows.F.plain_set_update_loop _]
    show wpAny _ A.in1 (pyNext (.ref it) >>= _) _ _ s
    refine wpAny_bind (W.item i s _ _ lt hst fun v t hP st' k => ?_); obtain ⟨tk, rfl⟩ := hv i v hP
    have hT := mv k hS
    have hl := (ddS_inv (xs.take i)).2.1
    rw [List.length_take] at hl
    show wpAny _ A.in1 (holding [Value.str (xs.getD i Str.empty) tk] (setAdd D (.str (xs.getD i Str.empty) tk)) >>= _) _ _ t
    refine wpAny_bind (wpAny_holding ?_); unfold setAdd
    refine wpAny_holding (wpAny_bind ((PySem.strKind prog w).pyHash (k := xs.getD i Str.empty) (strKind_is _ _ _ _) ?_))
    refine wpAny_setAddHashed_of (knd := PySem.strKind prog w) (s := { t with toks := t.toks + 1 }) (strKind_is _ _ _ _) rfl hT (by omega) fun h' sb hU => ?_
    have hx : xs[i]? = some (xs.getD i Str.empty) := by rw [List.getD_eq_getElem?_getD, List.getElem?_eq_getElem (by omega)]; rfl
    have e2 : xs.take (i + 1) = xs.take i ++ [xs.getD i Str.empty] := by rw [List.take_add_one, hx]; rfl
    generalize xs.getD i Str.empty = x at *
    have hN : h'.SetOf (PySem.strKind prog w) D (fun y => decide (y ∈ ddS (xs.take (i + 1)))) (ddS (xs.take (i + 1))).length := by
      rw [e2, ddS_snoc]
      refine SetOf_congr hU (fun y => ?_) ?_
      · by_cases hm : x ∈ ddS (xs.take i)
        · rw [if_pos hm]
          by_cases ey : y = x
          · rw [ey, decide_eq_true hm]; rfl
          · rw [decide_eq_false ey, Bool.or_false]
        · rw [if_neg hm, Bool.eq_iff_iff, Bool.or_eq_true, decide_eq_true_iff, decide_eq_true_iff, decide_eq_true_iff, List.mem_append, List.mem_singleton]
      · by_cases hm : x ∈ ddS (xs.take i)
        · rw [if_pos hm, if_pos (decide_eq_true hm)]
        · rw [if_neg hm, if_neg (by rw [decide_eq_true_iff]; exact hm), List.length_append]; rfl
    refine wpAny_pure ⟨plainId_quiet PyProof.Rows.F.plain_set_update_loop _, ih (i + 1) _ (by omega) (W.frame _ t _ _ st' (Nat.le_succ _) fun b z o q => (sb.2 b (fun u : b = D => hD (by rw [← u]; exact z))).trans q) hN fun u ku hu => ?_⟩
    exact hR u (Moved.trans W.gtrans ((k.mono up).then_heap (Nat.le_succ _) fun b o z q => (sb.2 b (fun u : b = D => z (by rw [u]; exact List.mem_cons_self))).trans q) ku) hu
end
section
variable {prog : Program} {w : World} {A : Around} {E : Value → Shared → Prop} {s : Shared}
set_option maxHeartbeats 4000000 in
theorem call_setD {l : Addr} {its : Array Value} {xs : List Str} {Q : Value → Shared → Prop} (hh : A.handled = none) (hl : s.heap.IsList l its) (hi : StrsAre its.toList xs) (hb : xs.length + 1 < scanBound)
    (q : ∀ (h' : Heap) (tk : Nat), h'.SetOf (PySem.strKind prog w) s.heap.objs.size (fun y => decide (y ∈ ddS xs)) (ddS xs).length → (∀ b o, b < s.heap.objs.size → s.heap.get? b = some o → h'.get? b = some o) → Q (.ref s.heap.objs.size) { s with heap := h', toks := tk }) : wpAny (model prog w) A (call (.type "set") [.ref l]) Q E s := by
  obtain ⟨c0, tl0, mro⟩ := PySem.F.called_set.mro; have made := PySem.F.called_set.made; have sub := PySem.F.called_set.sub
  refine wpAny_call (codeAny_of_tree ?_); show wpAny _ _ (callAny (.type "set") _) _ _ _
  refine wpAny_pure ⟨Code.quiet_builtin _ (by decide +kernel), codeAny_builtin PySem.F.entry_type_call ?_⟩; rw [Around.under_plain (weight_type_call_type "set" [.ref l] []) rfl]
  have k1 := PySem.F.called_set.notType; have k2 := PySem.F.called_set.canCreate; have k3 := PySem.F.typeCall_set_1 (.ref l)
  repeat (any_goals (first | assumption | wp_step))
  refine codeAny_mono (code_set_new_1 (.ref l) (E := E) (Q₁ := fun ob t => ∃ led : Bool, ob = .ref s.heap.objs.size ∧ t = { s with heap := s.heap.push { cls := .type "set", dict := none, data := .set #[] 0 (.fresh 0 0 led) } }) fun led => ⟨led, rfl, rfl⟩) fun r t hr => ?_
  rcases r with e | fl
  · exact hr
  cases fl with
  | ret ob =>
    obtain ⟨led, rfl, rfl⟩ := hr
    obtain ⟨so, hso⟩ : ∃ so : Obj, so = { cls := .type "set", dict := none, data := .set #[] 0 (.fresh 0 0 led) } := ⟨_, rfl⟩
    rw [← hso]
    have gS : (s.heap.push so).get? s.heap.objs.size = some so := Heap.get?_push_size _ (by rw [hso]; rfl)
    have gT : Shared.TypeIs { s with heap := s.heap.push so } (.ref s.heap.objs.size) "set" := ⟨_, gS, by rw [hso]⟩
    have k4 := PySem.F.called_set.init.lookup; have k5 := PySem.F.called_set.init.bind (.ref s.heap.objs.size)
    repeat (any_goals (first | assumption | wp_step))
    refine codeAny_mono (codeAny_call_builtin (R := wants (fun r u => r = .none ∧ ∃ h' tk, u = { s with heap := h', toks := tk } ∧ h'.SetOf (PySem.strKind prog w) s.heap.objs.size (fun y => decide (y ∈ ddS xs)) (ddS xs).length ∧ (∀ b o, b < s.heap.objs.size → s.heap.get? b = some o → h'.get? b = some o)) E) PySem.F.called_set.init.plain PySem.F.entry_set_init (check_set_init_1 gT ?_)) fun r2 u hu => ?_
    · obtain ⟨⟨c1, c2, c3, c4⟩, hol, hcl, nl, hdl⟩ := hl
      simp only at hcl hdl; subst hcl; subst hdl
      have hol2 := Heap.get?_push_of_some so hol
      have hsls := PySem.F.sub_list_set; have hslf := PySem.F.sub_list_frozenset; have hne : (Value.type "list" == Value.type "dict") = false := by decide
      have hl1 : (s.heap.push so).IsList l its := ⟨_, hol2, rfl, nl, rfl⟩
      have ll : l < s.heap.objs.size := Heap.lt_size hol
      unfold Builtin.«set.__init__» noKeywords Builtin.Frozenset.updateFrom
      subst hso
      generalize hPI : pyIter = PI; wp_walk; subst hPI
      refine wpAny_pyIter_list hl1 ?_; refine wpAny_bind (wpAny_runValue ?_)
      have hh3 : A.in1.in1.in1.handled = none := by simp [hh]
      have n1 : l ≠ s.heap.objs.size + 1 := Nat.ne_of_lt (Nat.lt_succ_of_lt ll)
      have n2 : s.heap.objs.size ∉ [s.heap.objs.size + 1, l] := fun z => (List.mem_cons.mp z).elim (fun z => absurd z (Nat.ne_of_lt (Nat.lt_succ_self _))) fun z => absurd (List.mem_singleton.mp z) (Nat.ne_of_gt ll)
      have hz : xs.length = its.size := by rw [← StrsAre.len_eq hi, Array.length_toList]
      rw [← Heap.size_push] at n1 n2
      refine loopD ((Walks.list hh3 _ l n1 its).toS) s.heap.objs.size n2 xs hz (by omega) (fun i v hv => SS.strs_at hi i v (by rw [Array.getElem?_toList]; exact hv)) its.size 0 _ (by omega) ⟨⟨_, Heap.get?_push_size _ rfl, rfl, rfl⟩, (hl1.push _)⟩ ?h0 ?h1
      case h0 =>
        refine PyProof.Rows.SetOf_congr ((PyProof.Rows.setObjOf_fresh (knd := PySem.strKind prog w) led).setOf (Heap.get?_push_of_some _ gS) (by unfold scanBound; omega)) (fun y => ?_) rfl
        rw [List.take_zero]; rfl
      case h1 =>
        rintro ⟨h', g', d', tk', os'⟩ hm hS'
        obtain rfl : g' = s.gens := hm.gens
        obtain rfl : d' = s.drawn := hm.drawn
        obtain rfl : os' = s.os := hm.os
        show wpAny _ _ _ _ _ _
        refine wpAny_pure ?_; show wpAny _ _ (ret Value.none) _ _ _
        refine wpAny_pure ⟨rfl, h', tk', rfl, hS', fun b o lb eb => hm.heap b o ?_ (Heap.get?_push_of_some _ (Heap.get?_push_of_some _ eb))⟩
        exact fun z => (List.mem_cons.mp z).elim (fun z => absurd z (Nat.ne_of_lt lb)) fun z => absurd ((List.mem_singleton.mp z).trans (Heap.size_push _ _)) (Nat.ne_of_lt (Nat.lt_succ_of_lt lb))
    · rcases r2 with e | fl2
      · exact hu
      cases fl2 with
      | ret r =>
        obtain ⟨rfl, h', tk, rfl, hS', hk'⟩ := hu
        repeat (any_goals (first | assumption | wp_step))
        exact q _ _ hS' hk'
      | _ => exact hu.elim
  | _ => exact hr.elim
end
section
variable {X : Cx} {a : Expr} {ta : TE} {p p2 q pos : Pos}
def tDszS (K : PySem.W.Frag) (ta : TE) : TE := fun σ H Q => ta σ H fun x H1 => ∃ (l : Addr) (xs : List Str), x = .ref l ∧ SqL K H1 l (xs.map V.str) ∧ xs.length ≤ 4000 ∧ Q (.int (ddS xs).length) H1
theorem pe_dszS (hg : Gl X "len") (hm : X.mg "len" = none) (hg2 : Gl X "set") (hm2 : X.mg "set" = none) (ha : PE X a ta) (hc : X.calm = true := by rfl)
    (na : starEach [a] X.env = (false, eval a X.env) :: starEach [] X.env := by rfl) : PE X (.Call (.Name "len" p) [.Call (.Name "set" p2) [a] [] q] [] pos) (tDszS X.K ta) := by
  refine ⟨fun pins s σ H Q I h => ?_⟩
  refine Call_ (ld_blt I hg hm boot_len (PyProof.Rows.callWith_builtin1 (PyProof.Rows.args_cons (Call_ (ld_blt I hg2 hm2 boot_set (PyProof.Rows.callWith_type1 (PyProof.Rows.args_cons (thn (ha.run pins s σ H _ I h) fun v s1 ⟨x, H1, I1, r1, l, xs, e, hq, hl, q1⟩ => PyProof.Rows.args_nil ?_) na) na rfl))) rfl) rfl rfl))
  subst e; cases r1
  obtain ⟨its, r, pl, hz⟩ := I1.list hq
  refine call_setD (I1.ok.hd hc) pl.isList (by simpa using strsAre_of r) (by unfold scanBound; omega) fun h' tk hS hk => PyProof.Rows.args_nil ?_
  obtain ⟨o, es, ep, t, ho, hex, hd, _, _, _, hf, hn⟩ := hS
  have I2 : Inv X pins σ H1 { s1 with heap := h', toks := tk } := I1.kept fun b o e => hk b o (Heap.lt_size e) e
  have := (ddS_inv xs).2.1
  exact call_len_set ho hex hd hf (by rw [hn] <;> omega) ⟨.int (ddS xs).length, H1, I2.tok _, ⟨_, by rw [hn]⟩, q1⟩
variable {σ : L2.St} {s : S}
theorem ev_dszS {xs : List Str} (hm : X.mg "len" = none) (hm2 : X.mg "set" = none) (ha : EvR X a σ s xs) (hz : xs.length ≤ 4000) (hc : X.calm = true := by rfl) (hg : Gl X "len" := by rfl) (hg2 : Gl X "set" := by rfl) (na : starEach [a] X.env = (false, eval a X.env) :: starEach [] X.env := by rfl) :
    Ev X (.Call (.Name "len" p) [.Call (.Name "set" p2) [a] [] q] [] pos) σ s (((ddS xs).length : Nat) : Int) := fun s1 k Q qq =>
  we_of (pe_dszS hg hm hg2 hm2 pe_we hc na) (ha s1 k _ fun v s2 k2 r2 => by
    obtain ⟨p, vs, rfl, h1, h2⟩ := r2
    obtain rfl := h2.flat
    exact ⟨p, xs, rfl, h1, hz, qq _ s2 k2 rfl⟩)
end
end Dy

namespace Dy
open PySem PySem.Spec L2
open PyProof.Rows hiding St
open Enc (rep)
open EncA (repA)
theorem EvG.evLL {α : Type} [Enc α] {X : Cx} {e : Expr} {σ : L2.St} {s : S} {ok : V → List OA → Prop} {xss : List (List α)} (h : EvG X e σ s ok) (hok : ∀ v L', ok v L' → ∃ w : LL, v = .ref w.p ∧ L' = [oll w xss]) : Ev X e σ s xss := fun s1 k Q q => h s1 k Q fun v s2 L' z iv => by
  obtain ⟨w, rfl, rfl⟩ := hok v L' z
  obtain ⟨s', h1, h2, h3⟩ := iv.frzLL 0 rfl
  have := q _ s' (Iv.exx h3) (Iv.fz (x := xss) h3 0)
  rw [h1] at this
  exact this
def WSt (X : Cx) (st : Stmt) : TS := fun D σ H => Hold (∀ (pins : List (Addr × Obj)) (s : Shared), Inv X pins σ H s → wpAny (model X.prog X.w) X.A (exec st X.env) (SP X pins D) X.xe s)
theorem ps_wst {X : Cx} {st : Stmt} : PS X st (WSt X st) := ⟨fun pins s _ _ _ I h => Hold.run h pins s I⟩
theorem wst_of {X : Cx} {st : Stmt} {t : TS} {D : Ends} {σ : L2.St} {H : Hp} (h : PS X st t) (q : t D σ H) : WSt X st D σ H := Hold.mk fun pins s I => h.run pins s σ H D I q
section
variable {α β κ : Type} [Enc α] [Enc β] [DKey κ] [DecidableEq κ] {X : Cx} {σ : L2.St} {P0 : Addr → Prop} {s0 s : S} {L : List OA} {elt tg iter : Expr} {ifs : List Expr} {scope : Scope} {pos : Pos} {p : Addr}
theorem do_setLK (j : Nat) {ys : List β} {n : Str} {py : Pos} {rest : List Stmt} {D : Ends} {spos : Pos} {xs : List (κ × α)} (iv : Iv X.K P0 s0 s L) (i : Nat) (hA : L[i]? = some (Dy.od p xs))
    (h : ∀ (ob : Obj) (kv : List (Key × V)) (s1 : S), Iv X.K P0 s0 s1 (L.set i (Dy.odl p ob kv xs)) → EvL X elt tg iter ifs scope σ s1 ys) (k : ∀ p s1, Ex s s1 → s.H p = none → Own X.K s1 p ys → WSs X rest D (σ.set j (some (.ref p))) s1.H)
    (hk : X.env.scope.kind = .function) (hy : X.env.scope.names.lookup n = some .local)
    (hl : (py.line == pos.line) = true := by rfl) (ha : (scope.names.any fun (m, k) => m == n && (k == .local || k == .cell)) = false := by decide +kernel) (hi : X.N[j]? = some n := by rfl) :
    WSs X (.Assign [.Name n py] (.ListComp elt [⟨tg, iter, ifs, 0⟩] scope pos) spos :: rest) D σ s.H := by
  obtain ⟨hf, kv, h1, h2⟩ := iv.od i hA
  refine do_cons (ps_lock ps_wst) ⟨p, .dK kv, h1, trivial, fun ob => ?_⟩
  obtain ⟨hf1, kx⟩ := lk_ex (ob := ob) hf h1 (Ex.refl s)
  have hv := h ob kv (s.put p (.frz ob (.dK kv)) hf) (iv.lock i ob hA hf h1 h2)
  obtain ⟨own, g, tt, g1, g2, g3, g4⟩ := hv.ex
  refine wst_of (ps_setLc (te := fun σ H Q => ∀ s0 H0 C cl fp, WE (Blk X scope s0 H0 C cl fp) elt σ H Q) hv.calm hv.nd hi hy (sw_true hk hy hl ha) pi_wi g1 g2 g3 (fun s0 H0 C cl fp => pe_im fun _ _ _ h => h s0 H0 C cl fp) hv.fs)
    (g4 _ kx (fun x H1 => H1 p = some (.frz ob (.dK kv)) ∧ WSs X rest D (σ.set j (some x)) (upd H1 p (.dK kv))) fun p2 s2 k2 n2 o2 => ?_)
  obtain ⟨hf2, e1, k3⟩ := lk_back hf1 h1 k2
  refine ⟨e1, ?_⟩
  have ne : p2 ≠ p := fun z => by
    have : upd s.H p (.frz ob (.dK kv)) p2 = none := n2
    rw [z, upd_same] at this; cases this
  have n2' : s.H p2 = none := by
    have : upd s.H p (.frz ob (.dK kv)) p2 = none := n2
    rw [upd_ne ne] at this; exact this
  obtain ⟨o1, vs, o3, o4⟩ := o2
  exact k p2 (s2.put p (.dK kv) hf2) k3 n2' ⟨o1, vs, (upd_ne ne).trans o3, o4⟩
end
end Dy

namespace Dy
open PySem PySem.Spec L2
open PyProof.Rows hiding St
open Enc (rep)
open EncA (repA)
theorem ev_upperS {X : Cx} {a : Expr} {σ : L2.St} {s : S} {x : Str} {p1 pos : Pos} (ha : Ev X a σ s x) (h : x.length ≤ 5592405) (hbase : attributeBase a "upper" X.env (eval a X.env) = eval a X.env := by rfl) (hline : (p1.endLine == pos.line) = true := by rfl) :
    Ev X (.Call (.Attribute a "upper" p1) [] [] pos) σ s (Txt.upper x) := fun s1 k Q q =>
  we_of (pe_upper pe_we hbase hline) (ha s1 k _ fun v s2 k2 r2 => ⟨⟨x, r2⟩, x, r2, rfl, h, q _ s2 k2 rfl⟩)
section
variable {X : Cx} {σ : L2.St} {s : S} {D : Ends} {rest A B : List Stmt} {a b : Expr} {pos p2 : Pos}
theorem do_ifNotX (h : EvX X a σ s) : WSs X (.If (.Compare a [.IsNot] [b] p2) A B pos :: rest) D σ s.H :=
  do_cons (ps_if (pt_cmpR op_notBl pe_we pe_we (nomark _)) pss_ws pss_ws) (h s (Ex.refl _) _)
end
section
variable {X : Cx} {σ : St} {s : S} {D : Ends} {rest : List Stmt} {W : WX} {e : Expr}
theorem do_raiseS {c f : Str} {fd : FuncData} {ps : List Str} {k j : Nat} {i : Str} {p pos pos' : Pos} (T : PayF X.K c f) (gC : X.mg c = some (.ref (He.ga X.K c))) (F1 : FnOk X.prog X.w X.K X.mg X.base CX0 k (He.fAd X.K (c, some "__init__")) fd ps (spInit X.K f)) (hb : Binds X.K fd ps [])
    (tk : Takes X W) (hr : Room j X.A) (hk : k + 1 ≤ j) (ha : Ev X e σ s i) (h : ∀ d s1, Ex s s1 → s1.F d = some (.xd [(f, V.str i)]) → W (.ref (He.ga X.K c)) (some d) σ s1.H)
    (hc : X.calm = true := by rfl) (hg : Gl X c := by rfl) (hdb : (c == ("__debug__" : Str)) = false := by decide) (he : starEach [e] X.env = (false, eval e X.env) :: starEach [] X.env := by rfl) (hpl : (backTo pos (starEach [] X.env)).any (·.1) = false := by rfl) :
    WSs X (.Raise (some (.Call (.Name c p) [e] [] pos)) none pos' :: rest) D σ s.H :=
  do_cons (ps_raise hc tk (pmk_oex T.o T.i T.t F1 (hr.mono hk) hb .nil pass0 hg gC (pa_cons pe_we pa_nil he) hdb he hpl)) (ha s (Ex.refl _) _ fun v s2 k2 r2 => by
    obtain rfl : v = V.str i := r2
    refine ⟨by simp, fun a hna => ⟨a, He.ga X.K c, V.str i, rfl, upd_same, T.o, T.n, fun dx h1 h2 => ?_⟩⟩
    have hdx : s2.H dx = none := by rw [upd_ne h2] at h1; exact h1
    refine ⟨rfl, dx, _, upd_same, by rw [upd_ne h2, upd_same], hdx, ?_⟩
    have eH : upd (del (upd (upd (upd s2.H a (exo a (He.ga X.K c) none)) dx (exd dx [(f, V.str i)])) a (exo a (He.ga X.K c) (some dx))) a) dx (.xd [(f, V.str i)]) = (s2.newF dx (.xd [(f, V.str i)]) hdx).H := by
      funext b
      show _ = upd s2.H dx (.xd [(f, V.str i)]) b
      by_cases hb1 : b = dx
      · subst hb1; rw [upd_same, upd_same]
      · rw [upd_ne hb1, upd_ne hb1]
        by_cases hb2 : b = a
        · subst hb2; rw [del_same, hna]
        · rw [del_ne hb2, upd_ne hb2, upd_ne hb1, upd_ne hb2]
    rw [eH]
    exact h dx _ (k2.trans (Ex.newF hdx)) upd_same)
end
end Dy

namespace Dy
open PySem PySem.Spec L2
open PyProof.Rows hiding St
open Enc (rep)
open EncA (repA)
section
variable {X : Cx} {CX : CXT} {k j : Nat} {o : Expr} {apos pos : Pos} {σ : L2.St} {s : S} {m : Str} {A O : Type} {pre : List V → A → List OA → List OA → Prop} {mm : A → Option O} {ok : List V → A → O → V → List OA → Prop} {er : List V → A → O → Er → List OA → Prop} {x : A} {o' : O} {okv ok' : V → List OA → Prop}
theorem eg_newMeth0 {E : L2.St → XK} {c : Str} (h : EvG X o σ s okv) (C : CalM X.prog X.w X.K X.mg X.base CX k c m (spI X.K pre mm ok er)) (hc : Cls X.K (He.ga X.K c)) (hx : ∀ σ, PassesAt CX X σ (E σ)) (hr : Room j X.A) (hk : k ≤ j)
    (hv : ∀ v Lr, okv v Lr → ∃ (p : Addr) (fs : List (Str × V)) (rs : List (Nat ⊕ Nat)), v = .ref p ∧ Lr[0]? = some (cell p c fs) ∧ fs.lookup m = none ∧ pre [.ref p] x [] (rsel Lr [] rs) ∧ (∀ v L', ok [.ref p] x o' v L' → ok' v L') ∧ (∀ e L', er [.ref p] x o' e L' → False)) (hm : mm x = some o')
    {pl : Sem Bool} (ht : eval (.Call (.Attribute o m apos) [] [] pos) X.env = (do
      let ov ← eval o X.env
      standAt apos.atName
      let (f, first) ← holding [ov] (getMethod ov m pl)
      callWith pos f first (backTo pos (starEach [] X.env)) (backToKw pos (keywordEach [] X.env))) := by rfl) : EvG X (.Call (.Attribute o m apos) [] [] pos) σ s ok' := fun s1 k1 Q q => by
  obtain ⟨f, fd, ps, F, hmm, b⟩ := C.ex
  refine we_of (pe_methX0 (E := E) (pl := pl) pe_we hc hmm F (hr.mono hk) b hx ht) (h s1 k1 _ fun v s2 Lr z iv => ?_)
  obtain ⟨p, fs, rs, rfl, e0, hl, h1, h3, h4⟩ := hv v Lr z
  obtain ⟨dx, hd⟩ := iv.cell 0 e0
  have k2 : Ex s1 s2 := Iv.exx iv
  refine ⟨p, dx, fs, rfl, hd, hl, ?_⟩
  obtain ⟨P1, g1, g2, g3, g4⟩ := call_in iv (ro0 : Ro X.K No s1 []) [] List.nodup_nil (fun k hk => by cases hk) [] (fun A hA => by cases hA) rs (fun i _ z => by cases z)
  have e0 : P1 = No := by
    funext a
    exact propext ⟨fun z => (g3 rfl a z).elim, fun z => z.elim⟩
  subst e0
  exact ⟨s2, No, [], _, x, o', rfl, h1, g1, g2, hm, fun v s' L' hok iv' => q v s' L' (h3 v L' hok) ⟨k2.z.trans iv'.m, by
    obtain ⟨φ, f1, f2, f3⟩ := iv'.o
    exact ⟨φ, f1, f2, fun i a z => ⟨(f3 i a z).1, (f3 i a z).2.1.elim (fun z => z.elim) (fun z => .inr (fr_back k2 z)), (f3 i a z).2.2⟩⟩⟩, fun e cls d s' L' z _ _ => (h4 e L' z).elim⟩
end
end Dy

namespace Dy
open PySem PySem.Spec L2
open PyProof.Rows hiding St
open Enc (rep)
open EncA (repA)
section
variable {α : Type} [Enc α] {X : Cx} {σ : L2.St} {s : S} {D : Ends} {rest : List Stmt} {o : Expr} {p1 p2 p3 : Pos} {p : Addr}
theorem do_popP {xs : List α} (ho : Ev X o σ s (Rw.mk (.ref p))) (r : Own X.K s p xs) (hne : 0 < xs.length)
    (k : ∀ s1, Mx (· = p) s s1 → Own X.K s1 p xs.dropLast → WSs X rest D σ s1.H)
    (hbase : attributeBase o "pop" X.env (eval o X.env) = eval o X.env := by rfl) (hline : (p1.endLine == p2.line) = true := by rfl)
    (hsw : swapsWith (.Call (.Attribute o "pop" p1) [] [] p2) none p3.line X.env = pure false := by rfl) :
    WSs X (.Expr (.Call (.Attribute o "pop" p1) [] [] p2) p3 :: rest) D σ s.H :=
  do_cons (ps_expr (pe_bm0 PySem.F.plainAttrs_list PySem.F.slot_list_pop PySem.F.type_list_pop mt_pop pe_we hbase hline) hsw) (ho s (Ex.refl _) _ fun w s1 k1 e1 => by
    cases (show w = V.ref p from e1)
    obtain ⟨f1, vs, h2, h3⟩ := r.ex k1
    have hl := h3.len
    have hg : vs[vs.length - 1]? = some (vs[vs.length - 1]'(by omega)) := List.getElem?_eq_getElem _
    refine ⟨.inl ⟨rfl, vs, .inl (.inl h2)⟩, p, vs, _, rfl, rfl, h2, hg, k (s1.put p (.lst vs.dropLast) f1) (k1.mx.trans (Mx.put f1)) ⟨f1, vs.dropLast, upd_same, ?_⟩⟩
    refine reps_of (by rw [List.length_dropLast, List.length_dropLast, hl]) fun i v x a b => ?_
    rw [List.getElem?_dropLast] at a b
    split at a
    · split at b
      · obtain ⟨u, h4, h5⟩ := h3.get b
        rw [a] at h4
        cases h4
        exact h5
      · cases b
    · cases a)
end
end Dy

namespace Dy
open PySem PySem.Spec L2
open PyProof.Rows hiding St
open Enc (rep)
open EncA (repA)
section
variable {X : Cx} {CX : CXT} {k j : Nat} {e : Expr} {es : List Expr} {p0 pos : Pos} {σ : L2.St} {s : S} {n : Str} {A O : Type} {pre : List V → A → List OA → List OA → Prop} {mm : A → Option O} {ok : List V → A → O → V → List OA → Prop} {er : List V → A → O → Er → List OA → Prop} {x : A} {o' : O} {okA : List V → List OA → Prop} {ok' : V → List OA → Prop}
theorem range_getD (L : List OA) : (List.range L.length).map (fun k => L.getD k top) = L := by
  apply List.ext_getElem?
  intro i
  rw [List.getElem?_map]
  by_cases hi : i < L.length
  · rw [List.getElem?_range hi]
    simp [List.getD_eq_getElem?_getD, List.getElem?_eq_getElem hi]
  · rw [List.getElem?_eq_none (by rw [List.length_range]; omega), List.getElem?_eq_none (by omega)]; rfl
theorem eg_callGs {E : L2.St → XK} (C : Cal X.prog X.w X.K X.mg X.base CX k n (spI X.K pre mm ok er)) (hx : ∀ σ, PassesAt CX X σ (E σ)) (hr : Room j X.A) (hk : k ≤ j) (ha : EvGs X (e :: es) σ s okA)
    (hp : ∀ vs L1, okA vs L1 → pre vs x L1 [] ∧ (∀ v L', ok vs x o' v L' → ok' v L') ∧ (∀ e L', er vs x o' e L' → False)) (hm : mm x = some o') (hg : Gl X n := by rfl)
    (hdb : (n == ("__debug__" : Str)) = false := by decide) (he : starEach (e :: es) X.env = (false, eval e X.env) :: starEach es X.env := by rfl) (hpl : (backTo pos (starEach es X.env)).any (·.1) = false := by rfl) :
    ∀ s1, Ex s s1 → ∀ Q : VK, (∀ v s2 s3 L1 L', Iv X.K No s1 s2 L1 → ok' v L' → Iv X.K No s1 s3 (rem L1 (List.range L1.length) ++ L') → Q v s3.H) → WE X (.Call (.Name n p0) (e :: es) [] pos) σ s1.H Q := fun s1 k1 Q q => by
  obtain ⟨f, fd, ps, F, hmm, kp, b⟩ := C.ex
  refine we_of (pe_callS (E := E) F (hr.mono hk) hg hmm kp b hx pa_wa hdb he hpl) (ha s1 k1 _ fun vs s2 L1 z iv => ?_)
  obtain ⟨h1, h3, h4⟩ := hp vs L1 z
  obtain ⟨P1, g1, g2, g3, g4⟩ := call_in iv (ro0 : Ro X.K No s1 []) (List.range L1.length) List.nodup_range (fun k hk => List.mem_range.mp hk) [] (fun A hA => by cases hA) [] (fun i z => by cases z)
  rw [range_getD, List.append_nil] at g1
  exact ⟨s2, P1, L1, [], x, o', rfl, h1, g1, g2, hm, fun v s' L' hok iv' => q v s2 s' L1 L' iv (h3 v L' hok) (g4 s' L' iv'), fun e cls d s' L' z _ _ => (h4 e L' z).elim⟩
theorem Iv.dropL {K : PySem.W.Frag} {P0 : Addr → Prop} {s0 s : S} {T L' : List OA} (h : Iv K P0 s0 s (T ++ L')) : Iv K P0 s0 s L' := h.sel (M := L') ((List.range L'.length).map fun i => some (T.length + i)) (by
    have e1 : ((List.range L'.length).map fun i => some (T.length + i)).filterMap id = (List.range L'.length).map fun i => T.length + i := by
      rw [List.filterMap_map]
      exact (List.filterMap_eq_map (f := fun i => T.length + i)) ▸ rfl
    rw [e1]
    exact List.pairwise_map.mpr (List.Pairwise.imp (fun {a b} h e => h (by omega)) List.nodup_range)) (by
    unfold pick
    apply List.ext_getElem?
    intro i
    rw [List.map_map, List.getElem?_map]
    by_cases hi : i < L'.length
    · rw [List.getElem?_range hi]
      simp [List.getD_eq_getElem?_getD, List.getElem?_append_right, List.getElem?_eq_getElem hi]
    · rw [List.getElem?_eq_none (by rw [List.length_range]; omega), List.getElem?_eq_none (by omega)]; rfl)
theorem eg_callGs' {E : L2.St → XK} (C : Cal X.prog X.w X.K X.mg X.base CX k n (spI X.K pre mm ok er)) (hx : ∀ σ, PassesAt CX X σ (E σ)) (hr : Room j X.A) (hk : k ≤ j) (ha : EvGs X (e :: es) σ s okA)
    (hp : ∀ vs L1, okA vs L1 → pre vs x L1 [] ∧ (∀ v L', ok vs x o' v L' → ok' v L') ∧ (∀ e L', er vs x o' e L' → False)) (hm : mm x = some o') (hg : Gl X n := by rfl)
    (hdb : (n == ("__debug__" : Str)) = false := by decide) (he : starEach (e :: es) X.env = (false, eval e X.env) :: starEach es X.env := by rfl) (hpl : (backTo pos (starEach es X.env)).any (·.1) = false := by rfl) :
    EvG X (.Call (.Name n p0) (e :: es) [] pos) σ s ok' := fun s1 k1 Q q =>
  eg_callGs C hx hr hk ha hp hm hg hdb he hpl s1 k1 Q fun v s2 s3 L1 L' _ hok iv => q v s3 L' hok iv.dropL
end
end Dy

namespace Dy
open PySem PySem.Spec L2
open PyProof.Rows hiding St
open Enc (rep)
open EncA (repA)
def mrg (A B : OA) : OA := ⟨fun K F H P => ∃ P1 P2, A.p K F H P1 ∧ B.p K F H P2 ∧ (∀ a, P1 a → ¬ P2 a) ∧ ∀ a, P a ↔ (P1 a ∨ P2 a),
  fun e ⟨P1, P2, h1, h2, h3, h4⟩ => ⟨P1, P2, A.mono e h1, B.mono e h2, h3, h4⟩,
  fun e ⟨P1, P2, h1, h2, h3, h4⟩ => ⟨P1, P2, A.loc (fun a z => e a ((h4 a).mpr (.inl z))) h1, B.loc (fun a z => e a ((h4 a).mpr (.inr z))) h2, h3, h4⟩,
  fun ⟨P1, P2, h1, h2, h3, h4⟩ z => by
    rcases (h4 _).mp z with z | z
    · exact A.dom h1 z
    · exact B.dom h2 z⟩
section
variable {α : Type} [Enc α] {K : PySem.W.Frag} {P0 : Addr → Prop} {s0 s s1 t : S} {L : List OA} {l : LL} {xss zss : List (List α)} {xs : List α} {q : Addr}
theorem Iv.merge (h : Iv K P0 s0 s L) (i j : Nat) {A B : OA} (hij : i ≠ j) (hA : L[i]? = some A) (hB : L[j]? = some B) : Iv K P0 s0 s ((L.set i (mrg A B)).set j top) := by
  obtain ⟨φ, h1, h2, h3⟩ := h.o
  have hi : i < L.length := (List.getElem?_eq_some_iff.mp hA).1
  have hj : j < L.length := (List.getElem?_eq_some_iff.mp hB).1
  refine ⟨h.m, fun k a => if k = j then False else if k = i then φ i a ∨ φ j a else φ k a, fun k C hC => ?_, fun k m a => ?_, fun k a => ?_⟩
  · by_cases e : k = j
    · subst e
      rw [List.getElem?_set_self (by rw [List.length_set]; exact hj)] at hC
      cases hC
      intro a
      simp
    · rw [List.getElem?_set_ne (Ne.symm e)] at hC
      by_cases e2 : k = i
      · subst e2
        rw [List.getElem?_set_self hi] at hC
        cases hC
        refine ⟨φ k, φ j, h1 k A hA, h1 j B hB, fun a z w => hij (h2 _ _ _ z w), fun a => ?_⟩
        simp [e]
      · rw [List.getElem?_set_ne (Ne.symm e2)] at hC
        have := h1 k C hC
        simpa [e, e2] using this
  · intro z w
    by_cases e : k = j
    · simp [e] at z
    by_cases e' : m = j
    · simp [e'] at w
    by_cases e2 : k = i <;> by_cases e3 : m = i
    · rw [e2, e3]
    · exfalso
      simp only [e, e', e2, e3, if_true, if_false, hij] at z w
      rcases z with z | z
      · exact e3 (h2 _ _ _ w z)
      · exact e' (h2 _ _ _ w z)
    · exfalso
      simp only [e, e', e2, e3, if_true, if_false, hij] at z w
      rcases w with w | w
      · exact e2 (h2 _ _ _ z w)
      · exact e (h2 _ _ _ z w)
    · simp only [e, e', e2, e3, if_false] at z w
      exact h2 _ _ _ z w
  · intro z
    rw [List.length_set, List.length_set]
    by_cases e : k = j
    · simp [e] at z
    by_cases e2 : k = i
    · simp only [e, e2, if_true, if_false, hij] at z
      rcases z with z | z
      · exact ⟨(h3 i a z).1, (h3 i a z).2.1, by omega⟩
      · exact ⟨(h3 j a z).1, (h3 j a z).2.1, by omega⟩
    · simp only [e, e2, if_false] at z
      exact h3 k a z
theorem RdLL.row (h : RdLL K s l xss) {i : Nat} (hq : l.q[i]? = some q) (hx : xss[i]? = some xs) : RepR K s (.ref q) xs := by
  obtain ⟨vs, g1, g2⟩ := h.2.2 i q xs hq hx
  exact ⟨q, vs, rfl, .inl (.inl g1), g2⟩
def rws (qs : List Addr) : List Rw := qs.map fun q => Rw.mk (.ref q)
theorem rws_reps {F : Hp} : ∀ qs : List Addr, Reps K F (qs.map V.ref) (rws qs)
  | [] => trivial
  | q :: r => ⟨rfl, rws_reps r⟩
theorem OwnLL.rw (h : OwnLL K s l xss) : Own K s l.p (rws l.q) := ⟨h.fp, _, h.hp, rws_reps _⟩
theorem own_rws {p : Addr} {qs : List Addr} (h : Own K s p (rws qs)) : s.H p = some (.lst (qs.map .ref)) := by
  obtain ⟨_, vs, h1, h2⟩ := h
  rw [h1, rw_reps h2]
  unfold rws
  rw [List.map_map]; rfl
theorem Iv.pll (h : Iv K P0 s0 s L) (k : Nat) (m : Mx (· = l.p) s s1) (o : Own K s1 l.p (rws l.q).dropLast) (e : zss = xss.dropLast) (hA : L[k]? = some (Dy.oll l xss) := by rfl) : Iv K P0 s0 s1 (L.set k (Dy.oll ⟨l.p, l.q.dropLast⟩ zss)) := by
  subst e
  refine h.upd k hA fun P hP hF => ⟨fun a => a = l.p ∨ a ∈ l.q.dropLast, ?_, fun a z => ?_, ?_⟩
  · obtain ⟨h0, h1, h2, h3, h4, h5⟩ := hP
    have e1 : (rws l.q).dropLast = rws l.q.dropLast := by unfold rws; rw [List.map_dropLast]
    rw [e1] at o
    refine ⟨h0.sublist (List.dropLast_sublist _), fun z => h1 ((List.dropLast_sublist _).subset z), fun a => Iff.rfl, own_rws o, by rw [List.length_dropLast, List.length_dropLast, h4], fun j r zs a b => ?_⟩
    rw [List.getElem?_dropLast] at a b
    split at a
    · split at b
      · obtain ⟨vs, g1, g2⟩ := h5 j r zs a b
        exact ⟨vs, m.h _ _ g1 (fun z => h1 (by rw [← z]; exact List.mem_of_getElem? a)), g2.mono m.f⟩
      · cases b
    · cases a
  · have : P a := (hP.2.2.1 a).mpr (z.imp id fun z => (List.dropLast_sublist _).subset z)
    refine ⟨?_, .inl this⟩
    obtain ⟨u, hu⟩ := (Dy.oll l xss).dom hP this
    exact m.n _ _ hu (hF a this)
  · exact ⟨m.f, fun a o z n => m.h a o z fun e => n (by rw [e]; exact (hP.2.2.1 _).mpr (.inl rfl)), fun a o z _ w => m.n a o z w, m.d⟩
theorem Iv.all (h : Iv K P0 s0 s L) (k j : Nat) (m : Mx (· = l.p) s s1) (o : Own K s1 l.p (rws l.q ++ [Rw.mk (.ref q)])) (e : zss = xss ++ [xs]) (hkj : k ≠ j := by decide) (hA : L[k]? = some (Dy.oll l xss) := by rfl) (hB : L[j]? = some (Dy.ol q xs) := by rfl) : Iv K P0 s0 s1 ((L.set k (Dy.oll ⟨l.p, l.q ++ [q]⟩ zss)).set j top) := by
  subst e
  have h' := h.merge k j hkj hA hB
  have hk : k < L.length := (List.getElem?_eq_some_iff.mp hA).1
  have := h'.upd (s1 := s1) (A' := Dy.oll ⟨l.p, l.q ++ [q]⟩ (xss ++ [xs])) k (A := mrg (Dy.oll l xss) (Dy.ol q xs)) (by rw [List.getElem?_set_ne (Ne.symm hkj), List.getElem?_set_self hk]) fun P hP hF => by
    obtain ⟨P1, P2, ⟨h0, h1, h2, h3, h4, h5⟩, ⟨g0, vs, g1, g2⟩, hd, hu⟩ := hP
    have hq : q ∉ l.q := fun z => hd q ((h2 q).mpr (.inr z)) ((g0 q).mpr rfl)
    have hp : q ≠ l.p := fun z => hd q ((h2 q).mpr (.inl z)) ((g0 q).mpr rfl)
    have e1 : rws l.q ++ [Rw.mk (.ref q)] = rws (l.q ++ [q]) := by unfold rws; rw [List.map_append]; rfl
    rw [e1] at o
    refine ⟨P, ⟨?_, ?_, fun a => ?_, own_rws o, ?_, fun j r zs a b => ?_⟩, fun a z => ⟨?_, .inl z⟩, ?_⟩
    · rw [List.nodup_append]
      exact ⟨h0, by simp, fun a ha b hb e => hq (by rw [← List.mem_singleton.mp hb, ← e]; exact ha)⟩
    · intro z
      rcases List.mem_append.mp z with z | z
      · exact h1 z
      · exact hp (List.mem_singleton.mp z).symm
    · rw [hu, h2, g0, List.mem_append, List.mem_singleton, or_assoc]
    · rw [List.length_append, List.length_append, h4]; rfl
    · show ∃ vs, s1.H r = _ ∧ _
      have a : (l.q ++ [q])[j]? = some r := a
      by_cases c : j < l.q.length
      · rw [List.getElem?_append_left c] at a
        rw [List.getElem?_append_left (by rw [← h4]; exact c)] at b
        obtain ⟨ws, w1, w2⟩ := h5 j r zs a b
        exact ⟨ws, m.h _ _ w1 (fun z => h1 (by rw [← z]; exact List.mem_of_getElem? a)), w2.mono m.f⟩
      · have hl := (List.getElem?_eq_some_iff.mp a).1
        rw [List.length_append, List.length_singleton] at hl
        have ej : j = l.q.length := by omega
        subst ej
        rw [List.getElem?_append_right (Nat.le_refl _), Nat.sub_self] at a
        rw [h4, List.getElem?_append_right (Nat.le_refl _), Nat.sub_self] at b
        cases a; cases b
        exact ⟨vs, m.h _ _ g1 hp, g2.mono m.f⟩
    · obtain ⟨u, hu2⟩ := (mrg (Dy.oll l xss) (Dy.ol q xs)).dom ⟨P1, P2, ⟨h0, h1, h2, h3, h4, h5⟩, ⟨g0, vs, g1, g2⟩, hd, hu⟩ z
      exact m.n _ _ hu2 (hF a z)
    · exact ⟨m.f, fun a o z n => m.h a o z fun e => n (by rw [e]; exact (hu _).mpr (.inl ((h2 _).mpr (.inl rfl)))), fun a o z _ w => m.n a o z w, m.d⟩
  rw [List.set_comm _ _ hkj, List.set_set] at this
  rw [List.set_comm _ _ hkj]
  exact this
end
section
variable {α : Type} [Enc α] {X : Cx} {σ : L2.St} {s : S} {D : Ends} {rest : List Stmt} {o : Expr} {p1 p2 p3 : Pos} {p : Addr}
theorem do_reverseP {xs : List α} (ho : Ev X o σ s (Rw.mk (.ref p))) (r : Own X.K s p xs)
    (k : ∀ s1, Mx (· = p) s s1 → Own X.K s1 p xs.reverse → WSs X rest D σ s1.H)
    (hbase : attributeBase o "reverse" X.env (eval o X.env) = eval o X.env := by rfl) (hline : (p1.endLine == p2.line) = true := by rfl)
    (hsw : swapsWith (.Call (.Attribute o "reverse" p1) [] [] p2) none p3.line X.env = pure false := by rfl) :
    WSs X (.Expr (.Call (.Attribute o "reverse" p1) [] [] p2) p3 :: rest) D σ s.H :=
  do_cons (ps_expr (pe_bm0 PySem.F.plainAttrs_list PySem.F.slot_list_reverse PySem.F.type_list_reverse mt_reverse pe_we hbase hline) hsw) (ho s (Ex.refl _) _ fun w s1 k1 e1 => by
    cases (show w = V.ref p from e1)
    obtain ⟨f1, vs, h2, h3⟩ := r.ex k1
    exact ⟨.inl ⟨rfl, vs, .inl (.inl h2)⟩, p, vs, rfl, rfl, h2, k (s1.put p (.lst vs.reverse) f1) (k1.mx.trans (Mx.put f1)) ⟨f1, _, upd_same, h3.rev⟩⟩)
end
end Dy

namespace Dy
open PySem PySem.Spec L2
open PyProof.Rows hiding St
open Enc (rep)
open EncA (repA)
section
variable {α τ β : Type} [Enc α] [Enc τ] [Enc β] {X : Cx} {σ : L2.St} {P0 : Addr → Prop} {s0 s s1 t : S} {L : List OA} {l : LL} {xss : List (List β)} {yss : List (List α)} {xs : List α} {e a b c o i elt tg iter : Expr} {ifs : List Expr} {scope : Scope} {own : List (Str × Nat)} {pos p0 p1 : Pos} {D : Ends} {rest : List Stmt}
theorem comp_readLLG {xs : List τ} {f : τ → Option (List α)} {g : TG} {B : Hp → τ → St → St → Prop} {G : S → Prop} (hi : EvIG X tg iter σ s G xs) (hG : ∀ t, Ex s t → G t) (T : Tgt (α := τ) X.K g B) (hf : mapO f xs = some yss) (hz : yss.length ≤ sizeLine)
    (hw : ∀ (F : Hp) (x : τ) σ2, B F x (wipe σ (own.map (·.2))) σ2 → wipe σ2 (own.map (·.2)) = wipe σ (own.map (·.2)))
    (he : ∀ (x : τ) (y : List α) (s1 : S) (σ2 : St), x ∈ xs → Ex s s1 → B s1.F x (wipe σ (own.map (·.2))) σ2 → f x = some y → ∀ s0 H0 C cl fp, EvN (Blk X scope s0 H0 C cl fp) elt σ2 s1 y)
    (s1 : S) (k : Ex s s1) (Q : VK) (q : ∀ (l : LL) s2, Ex s1 s2 → s1.H l.p = none → (∀ a ∈ l.q, s1.H a = none) → OwnLL X.K s2 l yss → Q (.ref l.p) s2.H) : tLc (WI X tg iter) g tYes (fun σ H Q => ∀ s0 H0 C cl fp, WE (Blk X scope s0 H0 C cl fp) elt σ H Q) (own.map (·.2)) σ s1.H Q := by
  refine hi s1 k _ fun J s2 k2 W => ?_
  intro D hD
  refine ⟨fun i m H => ∃ (u : S) (pre : List (List α)) (qs : List Addr), u.H = H ∧ m = xs.length - i ∧ Ex s2 u ∧ OwnLL X.K u ⟨D, qs⟩ pre ∧ (∀ a ∈ qs, s2.H a = none) ∧ (∃ suf, mapO f (xs.drop i) = some suf ∧ pre ++ suf = yss), ⟨xs.length, s2.newO D (.lst []) hD, [], [], rfl, rfl, Ex.newO hD, ⟨List.nodup_nil, by simp, (fF hD : s2.F D = none), by simp, upd_same, rfl, fun i q xs a b => by simp at a⟩, by simp, yss, hf, rfl⟩, ?_⟩
  rintro i m H ⟨u, pre, qs, rfl, rfl, ku, n1, n4, suf, h1, h2⟩
  by_cases hi' : i < xs.length
  · right
    have hx : xs[i]? = some xs[i] := List.getElem?_eq_getElem hi'
    obtain ⟨g1, g2⟩ := W.go i u xs[i] (hG u ((k.trans k2).trans ku)) hx
    refine ⟨g1, fun H' => ∃ m', m' < xs.length - i ∧ ∃ (u : S) (pre : List (List α)) (qs : List Addr), u.H = H' ∧ m' = xs.length - (i + 1) ∧ Ex s2 u ∧ OwnLL X.K u ⟨D, qs⟩ pre ∧ (∀ a ∈ qs, s2.H a = none) ∧ (∃ suf, mapO f (xs.drop (i + 1)) = some suf ∧ pre ++ suf = yss), fun H' z => z, fun v H' hy => ?_⟩
    obtain ⟨u', rfl, ku', rv⟩ := g2 v H' hy
    refine T.run u' v xs[i] _ _ rv fun σ2 hB => ⟨hw _ _ _ hB, ?_⟩
    have mem : xs[i] ∈ xs := List.getElem_mem hi'
    have base : Ex s u' := (k.trans k2).trans (ku.trans ku')
    unfold tYes
    dsimp only
    rw [if_pos rfl]
    rw [List.drop_eq_getElem_cons hi'] at h1
    unfold mapO compO at h1
    rw [Option.bind_some, if_pos rfl] at h1
    have hlt : xs.length - (i + 1) < xs.length - i := by omega
    cases hfx : f xs[i] with
    | none => rw [hfx] at h1; cases h1
    | some y =>
      rw [hfx, Option.bind_some] at h1
      cases hr : compO (fun _ => some true) f (xs.drop (i + 1)) with
      | none => rw [hr] at h1; cases h1
      | some suf' =>
        rw [hr] at h1
        cases h1
        intro s0 H0 C cl fp
        refine he xs[i] y u' σ2 mem base hB hfx s0 H0 C cl fp u' (Ex.refl _) _ fun p u4 k4 n5 o4 => ?_
        have k5 : Ex u u4 := ku'.trans k4
        have o5 := n1.ex k5
        have hD4 : u4.H D = some (.lst (qs.map .ref)) := o5.hp
        have hF4 : u4.F D = none := o5.fp
        have hlen : (qs.map V.ref).length < sizeLine := by
          have e1 := n1.len
          have e2 : yss.length = pre.length + (suf'.length + 1) := by rw [← h2, List.length_append, List.length_cons]
          have e3 : qs.length = pre.length := e1
          rw [List.length_map]
          omega
        have pn : ∀ {a : Addr} {o : HO}, u.H a = some o → a ≠ p := fun z e => by
          rw [e] at z
          rw [ku'.h _ _ z] at n5; cases n5
        have nq : p ∉ qs := fun z => by
          obtain ⟨j, hj⟩ := List.mem_iff_getElem?.mp z
          have hl : j < pre.length := by rw [← n1.len]; exact (List.getElem?_eq_some_iff.mp hj).1
          obtain ⟨_, vs, g, _⟩ := n1.row hj (List.getElem?_eq_getElem hl)
          exact pn g rfl
        have nD : D ≠ p := pn n1.hp
        obtain ⟨of, vs4, oh, orp⟩ := o4
        have hput : ∀ a, a ≠ D → (u4.put D (.lst (qs.map .ref ++ [.ref p])) hF4).H a = u4.H a := fun a z => upd_ne z
        refine ⟨_, hD4, hlen, _, hlt, u4.put D (.lst (qs.map .ref ++ [.ref p])) hF4, pre ++ [y], qs ++ [p], rfl, rfl, (ku.trans k5).mu1 (Mx.put hF4) hD, ⟨?_, ?_, hF4, ?_, ?_, ?_, ?_⟩, ?_, suf', hr, by rw [List.append_assoc]; exact h2⟩
        · rw [List.nodup_append]
          exact ⟨n1.nd, by simp, fun a ha b hb => by
            rw [List.mem_singleton] at hb
            subst hb
            exact fun e => nq (e ▸ ha)⟩
        · intro z
          rcases List.mem_append.mp z with z | z
          · exact n1.np z
          · exact nD (List.mem_singleton.mp z)
        · intro a z
          rcases List.mem_append.mp z with z | z
          · exact o5.fq a z
          · rw [List.mem_singleton.mp z]; exact of
        · show upd u4.H D _ D = _
          rw [upd_same, List.map_append]; rfl
        · show (qs ++ [p]).length = _
          rw [List.length_append, List.length_append]
          have e3 : qs.length = pre.length := n1.len
          rw [e3]; rfl
        · intro j r zs ha hb
          have e3 : qs.length = pre.length := n1.len
          by_cases hj : j < qs.length
          · rw [List.getElem?_append_left hj] at ha
            rw [List.getElem?_append_left (by omega)] at hb
            obtain ⟨vs, g1, g2⟩ := o5.c.2 j r zs ha hb
            have : r ≠ D := fun z => n1.np (by rw [← z]; exact List.mem_of_getElem? ha)
            exact ⟨vs, (hput r this).trans g1, g2⟩
          · rw [List.getElem?_append_right (by omega)] at ha hb
            have hj2 : j - qs.length = 0 := by
              have := (List.getElem?_eq_some_iff.mp ha).1
              simp at this; omega
            rw [hj2] at ha
            rw [← e3, hj2] at hb
            cases ha; cases hb
            exact ⟨vs4, (hput p (Ne.symm nD)).trans oh, orp⟩
        · intro a z
          rcases List.mem_append.mp z with z | z
          · exact n4 a z
          · rw [List.mem_singleton.mp z]
            exact fr_back (ku.trans ku') n5
  · left
    have hd : xs.drop i = [] := List.drop_eq_nil_of_le (by omega)
    rw [hd] at h1
    cases h1
    rw [List.append_nil] at h2
    subst h2
    exact ⟨W.stop i u (hG u ((k.trans k2).trans ku)) (by omega), q ⟨D, qs⟩ u (k2.trans ku) (fr_back k2 hD) (fun a z => fr_back k2 (n4 a z)) n1⟩
theorem en_compLLr {f : Nat → Option (List α)} {j : Nat} {n : Str} {py : Pos} (hc : X.calm = true) (hN : X.N.Nodup) (ho : Ev X iter σ s (Rw.mk (.ref l.p))) (r : RdLL X.K s l xss) (ok : BlkOk X.N X.env.scope scope own) (hj : X.N[j]? = some n)
    (hjo : j ∈ own.map (·.2)) (hg : ∀ s0 H0 C cl fp, PG (Blk X scope s0 H0 C cl fp) (.Name n py) (gName j)) (hf : mapO f (List.range xss.length) = some yss) (hz : yss.length ≤ sizeLine)
    (he : ∀ (x : Nat) (y : List α) (q : Addr) (s1 : S), l.q[x]? = some q → Ex s s1 → f x = some y → ∀ s0 H0 C cl fp, EvN (Blk X scope s0 H0 C cl fp) elt ((wipe σ (own.map (·.2))).set j (some (.ref q))) s1 y)
    (hs : ∀ x, foldedSetIterable iter X.env x = pure x := by intro _; rfl) : EvLL X elt (.Name n py) iter [] scope σ s yss := by
  letI := encIx l
  exact ⟨hc, hN, hs, own, _, _, ok, hg, fun _ _ _ _ _ => pts_nil, fun s1 k Q q => comp_readLLG (τ := Nat) (ei_ll ho r) (fun t e => (r.ex e).1) (tg_n (α := Nat)) hf hz (fun F x σ2 ⟨v, _, e⟩ => by rw [e, wipe_set hjo]; exact wipe_wipe fun _ z => z)
    (fun x y s1 σ2 hx k ⟨v, r, e⟩ hfx => by
      subst e
      obtain ⟨q, hq, rfl⟩ := r
      exact he x y q s1 hq k hfx) s1 k Q q⟩
theorem repH_ll {K : PySem.W.Frag} (h : RdLL K s l xss) (e : Ex s t) : rep K t.H (.ref l.p) xss := by
  have h := h.ex e
  refine ⟨l.p, l.q.map .ref, rfl, .inl (.inl h.1), reps_of (by rw [List.length_map]; exact h.2.1) fun i v x a b => ?_⟩
  rw [List.getElem?_map] at a
  obtain ⟨q, hq, rfl⟩ := Option.map_eq_some_iff.mp a
  obtain ⟨vs, g1, g2⟩ := h.2.2 i q x hq b
  exact ⟨q, vs, rfl, .inl (.inl g1), g2.mono t.sub⟩
end
section
variable {X : Cx} {σ : L2.St} {s t : S} {α : Type} {a b : Expr} {pos : Pos}
theorem eb_cmpH {op : CmpOp} {r : R2} {v0 : V} {β : Type} [Enc α] [Enc β] {x : α} {y : β} {z : Bool} (ho : OpR X (compareOp op) r) (ha : Ev X a σ s (Rw.mk v0)) (hx : ∀ t, Ex s t → rep X.K t.H v0 x) (hb : Ev X b σ s y)
    (hr : ∀ (v u : V) (s2 : S), rep X.K s2.H v x → rep X.K s2.F u y → ∀ Q : VK, Q (.bl z) s2.H → r v u s2.H Q) (hm : behindInMarks op b = false) : EvB X (.Compare a [op] [b] pos) σ s z :=
  ⟨fun s1 k Q q => we_of (pe_cmpR ho pe_we pe_we hm) (ha s1 k _ fun v s2 k2 r2 => hb s2 (k.trans k2) _ fun u s3 k3 r3 => hr v u s3 (by cases (show v = v0 from r2); exact hx s3 ((k.trans k2).trans k3)) r3 Q (q _ s3 (k2.trans k3) rfl)),
   fun s1 k Q q => wt_of (pt_cmpR ho pe_we pe_we hm) (ha s1 k _ fun v s2 k2 r2 => hb s2 (k.trans k2) _ fun u s3 k3 r3 => hr v u s3 (by cases (show v = v0 from r2); exact hx s3 ((k.trans k2).trans k3)) r3 _ ⟨z, rfl, q s3 (k2.trans k3)⟩)⟩
theorem eb_neH [EqD α] [DecidableEq α] {x y : α} {v0 : V} {j : Nat} (hr : Room j X.A) (ha : Ev X a σ s (Rw.mk v0)) (hx : ∀ t, Ex s t → rep X.K t.H v0 x) (hb : Ev X b σ s y) (h1 : shp x) (h2 : shp y) : EvB X (.Compare a [.NotEq] [b] pos) σ s (!decide (x = y)) :=
  eb_cmpH (op_neD (hu64 hr)) ha hx hb (fun v u s2 hv hu Q q => ⟨_, _, EqD.dp hv (Fle.refl _), EqD.dp hu s2.sub, h1, h2, by rw [eqv_dec]; exact q⟩) (nomark _)
theorem eb_eqH [EqD α] [DecidableEq α] {x y : α} {v0 : V} {j : Nat} (hr : Room j X.A) (ha : Ev X a σ s (Rw.mk v0)) (hx : ∀ t, Ex s t → rep X.K t.H v0 x) (hb : Ev X b σ s y) (h1 : shp x) (h2 : shp y) : EvB X (.Compare a [.Eq] [b] pos) σ s (decide (x = y)) :=
  eb_cmpH (op_eqD (hu64 hr)) ha hx hb (fun v u s2 hv hu Q q => ⟨_, _, EqD.dp hv (Fle.refl _), EqD.dp hu s2.sub, h1, h2, by rw [eqv_dec]; exact q⟩) (nomark _)
end
section
variable {X : Cx} {σ : L2.St} {s t : S} {α : Type} [Enc α] {a b o : Expr} {pos : Pos} {l : LL} {xss : List (List α)} {D : Ends} {rest : List Stmt} {p1 p2 p3 : Pos}
theorem rws_len {K : PySem.W.Frag} (h : OwnLL K s l xss) : (rws l.q).length = xss.length := by
  unfold rws
  rw [List.length_map]; exact h.len
theorem do_popLL (ho : Ev X o σ s (Rw.mk (.ref l.p))) (r : OwnLL X.K s l xss) (hne : 0 < xss.length)
    (k : ∀ s1, Mx (· = l.p) s s1 → Own X.K s1 l.p (rws l.q).dropLast → WSs X rest D σ s1.H)
    (hbase : attributeBase o "pop" X.env (eval o X.env) = eval o X.env := by rfl) (hline : (p1.endLine == p2.line) = true := by rfl)
    (hsw : swapsWith (.Call (.Attribute o "pop" p1) [] [] p2) none p3.line X.env = pure false := by rfl) :
    WSs X (.Expr (.Call (.Attribute o "pop" p1) [] [] p2) p3 :: rest) D σ s.H :=
  do_popP ho r.rw (by rw [rws_len r]; exact hne) k hbase hline hsw
theorem do_appendLL {q : Addr} {e : Expr} (ho : Ev X o σ s (Rw.mk (.ref l.p))) (r : OwnLL X.K s l xss) (he : Ev X e σ s (Rw.mk (.ref q))) (hz : xss.length < sizeLine)
    (k : ∀ s1, Mx (· = l.p) s s1 → Own X.K s1 l.p (rws l.q ++ [Rw.mk (.ref q)]) → WSs X rest D σ s1.H)
    (hbase : attributeBase o "append" X.env (eval o X.env) = eval o X.env := by rfl)
    (hfew : ((backTo p2 (starEach [e] X.env)).all (fun x => !x.1) && (backToKw p2 (keywordEach [] X.env)).all (fun x => x.1.isSome) && decide (([e] : List Expr).length + ([] : List Keyword).length + (if ([] : List Keyword).isEmpty then 0 else 1) < 30)) = true := by rfl)
    (hline : (p1.endLine == p2.line) = true := by rfl) (hs : starEach [e] X.env = (false, eval e X.env) :: starEach [] X.env := by rfl) (hplain : (backTo p2 (starEach [] X.env)).any (·.1) = false := by rfl)
    (hsw : swapsWith (.Call (.Attribute o "append" p1) [e] [] p2) none p3.line X.env = pure false := by rfl) :
    WSs X (.Expr (.Call (.Attribute o "append" p1) [e] [] p2) p3 :: rest) D σ s.H :=
  do_appendP ho r.rw he (by rw [rws_len r]; exact hz) k hbase hfew hline hs hplain hsw
end
section
variable {X : Cx} {σ : L2.St} {s t : S} {α : Type} [Enc α] {e : Expr}
theorem eg_LL0 (h : EvN X e σ s ([] : List Rw)) : EvG X e σ s (fun v L' => ∃ l : LL, v = .ref l.p ∧ L' = [oll l ([] : List (List α))]) := fun s1 k Q q =>
  h s1 k _ fun p s2 k2 n o => q _ s2 _ ⟨⟨p, []⟩, rfl, rfl⟩ (iv_ll (l := ⟨p, []⟩) k2 n (by intro a z; cases z) ⟨List.nodup_nil, (by intro z; cases z), o.1, (by intro a z; cases z), own_rws (qs := []) o, rfl, (by intro i q xs a b; simp at a)⟩)
theorem do_appendLLN {l : LL} {xss : List (List α)} {ys : List α} {P0 : Addr → Prop} {s0 : S} {L : List OA} {D : Ends} {rest : List Stmt} {o : Expr} {p1 p2 p3 : Pos} (iv : Iv X.K P0 s0 s L) (j : Nat) (hA : L[j]? = some (Dy.oll l xss)) (ho : Ev X o σ s (Rw.mk (.ref l.p))) (he : EvN X e σ s ys) (hz : xss.length < sizeLine)
    (k : ∀ (q : Addr) s1, Fle s.F s1.F → Iv X.K P0 s0 s1 (L.set j (Dy.oll ⟨l.p, l.q ++ [q]⟩ (xss ++ [ys]))) → WSs X rest D σ s1.H)
    (hbase : attributeBase o "append" X.env (eval o X.env) = eval o X.env := by rfl)
    (hfew : ((backTo p2 (starEach [e] X.env)).all (fun x => !x.1) && (backToKw p2 (keywordEach [] X.env)).all (fun x => x.1.isSome) && decide (([e] : List Expr).length + ([] : List Keyword).length + (if ([] : List Keyword).isEmpty then 0 else 1) < 30)) = true := by rfl)
    (hline : (p1.endLine == p2.line) = true := by rfl) (hs : starEach [e] X.env = (false, eval e X.env) :: starEach [] X.env := by rfl) (hplain : (backTo p2 (starEach [] X.env)).any (·.1) = false := by rfl)
    (hsw : swapsWith (.Call (.Attribute o "append" p1) [e] [] p2) none p3.line X.env = pure false := by rfl) :
    WSs X (.Expr (.Call (.Attribute o "append" p1) [e] [] p2) p3 :: rest) D σ s.H :=
  do_cons (ps_expr (pe_bm PySem.F.plainAttrs_list PySem.F.slot_list_append PySem.F.type_list_append mt_append pe_we (pa_cons pe_we pa_nil hs) hbase hfew hline hs hplain) hsw) (ho s (Ex.refl _) _ fun w s1 k1 e1 => by
    cases (show w = V.ref l.p from e1)
    have r := iv.oll j hA
    have r1 := r.ex k1
    refine ⟨.inl ⟨rfl, _, .inl (.inl r1.hp)⟩, he s1 k1 _ fun q s2 k2 n o => ?_⟩
    have r2 := r1.ex k2
    have hj : j < L.length := (List.getElem?_eq_some_iff.mp hA).1
    refine ⟨l.p, _, .ref q, rfl, rfl, r2.hp, by rw [List.length_map, r.len]; exact hz, ?_⟩
    have iv2 : Iv X.K P0 s0 s2 (L ++ [Dy.ol q ys]) := Iv.add (iv.ex k1) (ev_ivl k2 n o)
    have m : Mx (· = l.p) s2 (s2.put l.p (.lst (l.q.map .ref ++ [.ref q])) r2.fp) := Mx.put r2.fp
    have o2 : Own X.K (s2.put l.p (.lst (l.q.map .ref ++ [.ref q])) r2.fp) l.p (rws l.q ++ [Rw.mk (.ref q)]) := ⟨r2.fp, _, upd_same, (rws_reps l.q).snoc (show rep X.K s2.F (.ref q) (Rw.mk (.ref q)) from rfl)⟩
    have iv3 := iv2.all j L.length m o2 rfl (by omega) (by rw [List.getElem?_append_left hj]; exact hA) (by rw [List.getElem?_append_right (Nat.le_refl _), Nat.sub_self]; rfl)
    have e3 : ((L ++ [Dy.ol q ys]).set j (Dy.oll ⟨l.p, l.q ++ [q]⟩ (xss ++ [ys]))).set L.length top = L.set j (Dy.oll ⟨l.p, l.q ++ [q]⟩ (xss ++ [ys])) ++ [top] := by
      rw [List.set_append_left _ _ hj, List.set_append_right _ _ (by rw [List.length_set]; omega), List.length_set, Nat.sub_self]; rfl
    rw [e3] at iv3
    refine k q _ ((k1.f.trans k2.f).trans m.f) ?_
    refine iv3.sel ((List.range (L.set j (Dy.oll ⟨l.p, l.q ++ [q]⟩ (xss ++ [ys]))).length).map some) ?_ ?_
    · have e1 : ((List.range (L.set j (Dy.oll ⟨l.p, l.q ++ [q]⟩ (xss ++ [ys]))).length).map some).filterMap id = List.range (L.set j (Dy.oll ⟨l.p, l.q ++ [q]⟩ (xss ++ [ys]))).length := by
        rw [List.filterMap_map]
        exact List.filterMap_some
      rw [e1]
      exact List.nodup_range
    · unfold pick
      apply List.ext_getElem?
      intro i
      rw [List.map_map, List.getElem?_map]
      by_cases hi : i < (L.set j (Dy.oll ⟨l.p, l.q ++ [q]⟩ (xss ++ [ys]))).length
      · rw [List.getElem?_range hi]
        simp only [Function.comp, Option.map_some]
        rw [List.getD_eq_getElem?_getD, List.getElem?_append_left hi, List.getElem?_eq_getElem hi]; rfl
      · rw [List.getElem?_eq_none (by rw [List.length_range]; omega), List.getElem?_eq_none (by omega)]; rfl)
end
end Dy

namespace Dy
open PySem PySem.Spec L2
open PyProof.Rows hiding St

section
variable {prog : Program} {w : World} {A : Around} {E : Value → Shared → Prop} {s : Shared}
set_option maxHeartbeats 4000000 in
theorem call_setI {l : Addr} {its : Array Value} {xs : List Int} {Q : Value → Shared → Prop} (hh : A.handled = none) (hl : s.heap.IsList l its) (hi : IntsAre its.toList xs) (hb : xs.length + 1 < scanBound)
    (q : ∀ (h' : Heap) (tk m : Nat), m ≤ xs.length → SetR w h' s.heap.objs.size (fun y => decide (y ∈ xs)) m → (∀ b o, b < s.heap.objs.size → s.heap.get? b = some o → h'.get? b = some o) → Q (.ref s.heap.objs.size) { s with heap := h', toks := tk }) : wpAny (model prog w) A (call (.type "set") [.ref l]) Q E s := by
  obtain ⟨c0, tl0, mro⟩ := PySem.F.called_set.mro; have made := PySem.F.called_set.made; have sub := PySem.F.called_set.sub
  refine wpAny_call (codeAny_of_tree ?_); show wpAny _ _ (callAny (.type "set") _) _ _ _
  refine wpAny_pure ⟨Code.quiet_builtin _ (by decide +kernel), codeAny_builtin PySem.F.entry_type_call ?_⟩; rw [Around.under_plain (weight_type_call_type "set" [.ref l] []) rfl]
  have k1 := PySem.F.called_set.notType; have k2 := PySem.F.called_set.canCreate; have k3 := PySem.F.typeCall_set_1 (.ref l)
  repeat (any_goals (first | assumption | wp_step))
  obtain ⟨led, hled⟩ : ∃ led : Bool, led = !w.params.followText "set-order" := ⟨_, rfl⟩
  refine codeAny_mono (code_set_led1 (.ref l) (E := E) (Q₁ := fun ob t => ob = .ref s.heap.objs.size ∧ t = { s with heap := s.heap.push { cls := .type "set", dict := none, data := .set #[] 0 (.fresh 0 0 led) } }) ⟨rfl, by rw [hled]⟩) fun r t hr => ?_
  rcases r with e | fl
  · exact hr
  cases fl with
  | ret ob =>
    obtain ⟨rfl, rfl⟩ := hr
    obtain ⟨so, hso⟩ : ∃ so : Obj, so = { cls := .type "set", dict := none, data := .set #[] 0 (.fresh 0 0 led) } := ⟨_, rfl⟩
    rw [← hso]
    have gS : (s.heap.push so).get? s.heap.objs.size = some so := Heap.get?_push_size _ (by rw [hso]; rfl)
    have gT : Shared.TypeIs { s with heap := s.heap.push so } (.ref s.heap.objs.size) "set" := ⟨_, gS, by rw [hso]⟩
    have k4 := PySem.F.called_set.init.lookup; have k5 := PySem.F.called_set.init.bind (.ref s.heap.objs.size)
    repeat (any_goals (first | assumption | wp_step))
    refine codeAny_mono (codeAny_call_builtin (R := wants (fun r u => r = .none ∧ ∃ h' tk m, u = { s with heap := h', toks := tk } ∧ m ≤ xs.length ∧ SetR w h' s.heap.objs.size (fun y => decide (y ∈ xs)) m ∧ (∀ b o, b < s.heap.objs.size → s.heap.get? b = some o → h'.get? b = some o)) E) PySem.F.called_set.init.plain PySem.F.entry_set_init (check_set_init_1 gT ?_)) fun r2 u hu => ?_
    · obtain ⟨⟨c1, c2, c3, c4⟩, hol, hcl, nl, hdl⟩ := hl
      simp only at hcl hdl; subst hcl; subst hdl
      have hol2 := Heap.get?_push_of_some so hol
      have hsls := PySem.F.sub_list_set; have hslf := PySem.F.sub_list_frozenset; have hne : (Value.type "list" == Value.type "dict") = false := by decide
      have hl1 : (s.heap.push so).IsList l its := ⟨_, hol2, rfl, nl, rfl⟩
      have ll : l < s.heap.objs.size := Heap.lt_size hol
      unfold Builtin.«set.__init__» noKeywords Builtin.Frozenset.updateFrom
      subst hso
      generalize hPI : pyIter = PI; wp_walk; subst hPI
      refine wpAny_pyIter_list hl1 ?_; refine wpAny_bind (wpAny_runValue ?_)
      have hh3 : A.in1.in1.in1.handled = none := by simp [hh]
      have n1 : l ≠ s.heap.objs.size + 1 := Nat.ne_of_lt (Nat.lt_succ_of_lt ll)
      have n2 : s.heap.objs.size ∉ [s.heap.objs.size + 1, l] := fun z => (List.mem_cons.mp z).elim (fun z => absurd z (Nat.ne_of_lt (Nat.lt_succ_self _))) fun z => absurd (List.mem_singleton.mp z) (Nat.ne_of_gt ll)
      have hz : its.size = xs.length := by rw [← IntsAre.length hi, Array.length_toList]
      have hval : ∀ (i : Nat) (v : Value), its[i]? = some v → ∃ k t, xs[i]? = some k ∧ v = .int k t := fun i v hv => by
        have hi2 : i < xs.length := by rw [← hz]; exact (Array.getElem?_eq_some_iff.mp hv).1
        obtain ⟨t, e⟩ := IntsAre.int_at hi i v (by rw [Array.getElem?_toList]; exact hv)
        exact ⟨xs[i], t, List.getElem?_eq_getElem hi2, by rw [e, List.getD_eq_getElem?_getD, List.getElem?_eq_getElem hi2]; rfl⟩
      rw [← Heap.size_push] at n1 n2
      refine set_update_ints ((Walks.list hh3 _ l n1 its).toS) s.heap.objs.size n2 xs hz hb hval its.size 0 _ (by omega) (Nat.zero_le _) ⟨⟨_, Heap.get?_push_size _ rfl, rfl, rfl⟩, (hl1.push _)⟩ ?h0 ?h1
      case h0 =>
        subst hled
        exact ⟨0, Nat.le_refl _, setR_new_at (Heap.get?_push_of_some _ gS)⟩
      case h1 =>
        rintro ⟨h', g', d', tk', os'⟩ mm hm hmm hS'
        obtain rfl : g' = s.gens := hm.gens
        obtain rfl : d' = s.drawn := hm.drawn
        obtain rfl : os' = s.os := hm.os
        show wpAny _ _ _ _ _ _
        refine wpAny_pure ?_; show wpAny _ _ (ret Value.none) _ _ _
        refine wpAny_pure ⟨rfl, h', tk', mm, rfl, by omega, hS', fun b o lb eb => hm.heap b o ?_ (Heap.get?_push_of_some _ (Heap.get?_push_of_some _ eb))⟩
        exact fun z => (List.mem_cons.mp z).elim (fun z => absurd z (Nat.ne_of_lt lb)) fun z => absurd ((List.mem_singleton.mp z).trans (Heap.size_push _ _)) (Nat.ne_of_lt (Nat.lt_succ_of_lt lb))
    · rcases r2 with e | fl2
      · exact hu
      cases fl2 with
      | ret r =>
        obtain ⟨rfl, h', tk, mm, rfl, hmm, hS', hk'⟩ := hu
        repeat (any_goals (first | assumption | wp_step))
        exact q _ _ _ hmm hS' hk'
      | _ => exact hu.elim
  | _ => exact hr.elim
end
def ssI (xs : List Int) : List Int := xs.eraseDups.mergeSort (fun x y => decide (x ≤ y))
theorem eraseDups_nodup : ∀ (n : Nat) (xs : List Int), xs.length ≤ n → xs.eraseDups.Nodup ∧ ∀ x, x ∈ xs.eraseDups ↔ x ∈ xs
  | 0, xs, h => by
    obtain rfl := List.length_eq_zero_iff.mp (by omega : xs.length = 0)
    exact ⟨by simp, by simp⟩
  | n + 1, [], h => ⟨by simp, by simp⟩
  | n + 1, x :: r, h => by
    have hl : (r.filter fun b => !b == x).length ≤ n := Nat.le_trans (List.length_filter_le _ _) (by simpa using h)
    obtain ⟨h1, h2⟩ := eraseDups_nodup n _ hl
    rw [List.eraseDups_cons]
    refine ⟨List.nodup_cons.mpr ⟨fun z => ?_, h1⟩, fun y => ?_⟩
    · have := (h2 x).mp z
      simp at this
    · rw [List.mem_cons, List.mem_cons, h2, List.mem_filter]
      by_cases e : y = x
      · simp [e]
      · simp [e]
theorem ssI_mem (xs : List Int) (x : Int) : x ∈ ssI xs ↔ x ∈ xs := by
  unfold ssI
  rw [List.mem_mergeSort]
  exact (eraseDups_nodup _ xs (Nat.le_refl _)).2 x
theorem ssI_lt (xs : List Int) : (ssI xs).Pairwise (· < ·) := by
  have h1 := List.pairwise_mergeSort (le := fun x y : Int => decide (x ≤ y)) (fun a b c h1 h2 => by simp at *; omega) (fun a b => by simp; omega) xs.eraseDups
  have h2 : (ssI xs).Nodup := (List.mergeSort_perm _ _).nodup_iff.mpr (eraseDups_nodup _ xs (Nat.le_refl _)).1
  have h3 : (ssI xs).Pairwise (fun a b => decide (a ≤ b) = true) := h1
  exact (List.pairwise_and_iff.mpr ⟨h3, h2⟩).imp fun {a b} ⟨u, v⟩ => by
    have := of_decide_eq_true u
    have v : a ≠ b := v
    omega
theorem lt_ext {xs ys : List Int} (hx : xs.Pairwise (· < ·)) (hy : ys.Pairwise (· < ·)) (h : ∀ x, x ∈ xs ↔ x ∈ ys) : xs = ys := by
  have nd : ∀ {l : List Int}, l.Pairwise (· < ·) → l.Nodup := fun h => h.imp fun {a b} u e => by omega
  have p : xs.Perm ys := (List.perm_ext_iff_of_nodup (nd hx) (nd hy)).mpr h
  exact List.Perm.eq_of_pairwise (le := fun x y : Int => x ≤ y) (fun a b _ _ h h' => Int.le_antisymm h h') (hx.imp fun h => Int.le_of_lt h) (hy.imp fun h => Int.le_of_lt h) p
theorem ssI_eq {xs : List Int} : xs = ssI xs ↔ xs.Pairwise (· < ·) :=
  ⟨fun h => by rw [h]; exact ssI_lt xs, fun h => lt_ext h (ssI_lt xs) fun x => (ssI_mem xs x).symm⟩
section
variable {X : Cx} {a : Expr} {ta : TE} {p p2 q pos : Pos}
def tSst (K : PySem.W.Frag) (ta : TE) : TE := fun σ H Q => ta σ H fun x H1 => ∃ (l : Addr) (xs : List Int), x = .ref l ∧ SqL K H1 l (xs.map V.int) ∧ xs.length ≤ 60 ∧ ∀ c, H1 c = none → Q (.ref c) (upd H1 c (.lst ((ssI xs).map V.int)))
theorem pe_sst (hg : Gl X "sorted") (hm : X.mg "sorted" = none) (hg2 : Gl X "set") (hm2 : X.mg "set" = none) (ha : PE X a ta) (hc : X.calm = true := by rfl)
    (na : starEach [a] X.env = (false, eval a X.env) :: starEach [] X.env := by rfl) : PE X (.Call (.Name "sorted" p) [.Call (.Name "set" p2) [a] [] q] [] pos) (tSst X.K ta) := by
  refine ⟨fun pins s σ H Q I h => ?_⟩
  refine Call_ (ld_blt I hg hm boot_sorted (PyProof.Rows.callWith_builtin1 (PyProof.Rows.args_cons (Call_ (ld_blt I hg2 hm2 boot_set (PyProof.Rows.callWith_type1 (PyProof.Rows.args_cons (thn (ha.run pins s σ H _ I h) fun v s1 ⟨x, H1, I1, r1, l, xs, e, hq, hl, q1⟩ => PyProof.Rows.args_nil ?_) na) na rfl))) rfl) rfl rfl))
  subst e; cases r1
  obtain ⟨its, r, pl, hz⟩ := I1.list hq
  refine call_setI (I1.ok.hd hc) pl.isList (by simpa using RZ.intsAre_vals r) (by unfold scanBound; omega) fun h' tk m hm hS hk => PyProof.Rows.args_nil ?_
  have I2 : Inv X pins σ H1 { s1 with heap := h', toks := tk } := I1.kept fun b o e => hk b o (Heap.lt_size e) e
  refine sorted_set hS (I2.ok.hd hc) (by omega) fun s' c out cc ns kk gg oo hp hgt hi hs hmem hlen => ?_
  have e : ns = ssI xs := lt_ext hs (ssI_lt xs) fun x => by rw [hmem x, ssI_mem, decide_eq_true_iff]
  subst e
  have hn : H1 c = none := I2.hok.fresh hp
  have hl2 : ((ssI xs).map V.int).length ≤ sizeLine := by
    rw [List.length_map, hlen, sizeLine_eq]; omega
  have J : Inv X pins σ (upd H1 c (.lst ((ssI xs).map V.int))) { ({ s1 with heap := h', toks := tk } : Shared) with heap := s'.heap, gens := s'.gens, drawn := s'.drawn, toks := s'.toks } :=
    I2.call (ch := []) (Un.laid kk hp hn) (I2.hok.laid kk hp ⟨hl2, out.toList, cc, vals_of_ints hi, hgt⟩) (by rw [gg]; exact I2.bare) (fun _ z => nomatch z)
  have e2 : s' = { ({ s1 with heap := h', toks := tk } : Shared) with heap := s'.heap, gens := s'.gens, drawn := s'.drawn, toks := s'.toks } := by
    obtain ⟨a1, a2, a3, a4, a5⟩ := s'
    simp only at oo
    rw [oo]
  rw [e2]
  exact ⟨.ref c, _, J, rfl, q1 c hn⟩
variable {σ : L2.St} {s : S}
theorem en_sst {xs : List Int} (hm : X.mg "sorted" = none) (hm2 : X.mg "set" = none) (ha : EvR X a σ s xs) (hz : xs.length ≤ 60) (hc : X.calm = true := by rfl) (hg : Gl X "sorted" := by rfl) (hg2 : Gl X "set" := by rfl) (na : starEach [a] X.env = (false, eval a X.env) :: starEach [] X.env := by rfl) :
    EvN X (.Call (.Name "sorted" p) [.Call (.Name "set" p2) [a] [] q] [] pos) σ s (ssI xs) := fun s1 k Q qq =>
  we_of (pe_sst hg hm hg2 hm2 pe_we hc na) (ha s1 k _ fun v s2 k2 r2 => by
    obtain ⟨p, vs, rfl, h1, h2⟩ := r2
    obtain rfl := h2.flat
    exact ⟨p, xs, rfl, h1, hz, fun c hl => qq c (s2.newO c _ hl) (k2.trans (Ex.newO hl)) (fr_back k2 hl) (own_new hl (Reps.of_flat _))⟩)
end
end Dy

set_option maxHeartbeats 4000000
namespace K17
open PySem PySem.Spec L2 Dy
open PyProof.Rows hiding St
open Enc (rep)
open Flat (toV)
open EncA (repA)
def topS (i : Nat) : Stmt := PySem.Challenge.pw_deskpairs_k17_whole_fewest_hands.main.body.getD i (.Pass ⟨0, 0, 0, 0⟩)
def clsS (i j : Nat) : Stmt := match PySem.Challenge.pw_deskpairs_k17_whole_fewest_hands.main.body.getD i (.Pass ⟨0, 0, 0, 0⟩) with | .ClassDef _ _ _ body _ _ _ _ _ _ _ => body.getD j (.Pass ⟨0, 0, 0, 0⟩) | _ => .Pass ⟨0, 0, 0, 0⟩
def c_LETTERS : Str := ("abcdefghijklmnopqrstuvwxyz" : Str)
structure R_Times where
  my_names : (List Str)
  my_rows : (List (List Int))
structure R_Times_0 where

structure R_Times_1 where
  my_names : (List Str)
abbrev s_l_many : Stmt := topS 27
abbrev N_l_many : List Str := ["_law_cell"]
theorem sc_l_many : FnScope N_l_many ["_law_cell"] (defScope s_l_many) := ⟨rfl, rfl, rfl, by decide +kernel, rfl, by decide +kernel, by decide +kernel⟩
noncomputable def m_l_many (cell1 : Int) : Option Int :=
 (bnd (atI ([((1 : Int) + ((cell1 / (8 : Int)) % (5 : Int))), (12 : Int)] : List Int) (if (decide ((cell1 % (8 : Int)) = (3 : Int))) = true then (1 : Int) else 0)) fun at5 => (some at5))
noncomputable abbrev a_l_many : Int × Unit → Option Int := fun a => m_l_many a.1
theorem ok_l_many {P : Program} {w : World} {K : PySem.W.Frag} {mg : Str → Option Value} {base : Heap} {f : Addr} {fd : FuncData} (F : FunP K "_law_many" s_l_many f fd) (hmg : mg "_law_many" = some (.ref f)) (z_int : mg "int" = none) : Cal P w K mg base CX0 1 "_law_many" (sp K a_l_many) := by
  refine mk_cal (k := 0) F hmg (F.bindsN fun _ _ _ _ _ _ us hl => match us, hl with | [_], _ => rfl) sc_l_many len1 ?_
  rintro cdv A' outer sh0 H0 X0 hr s0 vs ⟨cell1, _⟩ r0 Q ⟨v2, _, rfl, r3, rfl⟩ hm hQ
  unfold a_l_many m_l_many at hm
  dsimp only at hm
  have iv4 : Iv K (fun _ => False) s0 s0 [fz v2 (cell1 : Int)] := (Iv.sf (Iv.tops (K := K) (P0 := (fun _ => False)) 1 s0) 0 (Ex.refl s0) r3 rfl)
  obtain ⟨at5, h_at5, hm⟩ := bndE hm
  obtain rfl := Option.some.inj hm
  exact do_ret (ev_ix (EvN.r (en_list (xs := ([((1 : Int) + ((cell1 / (8 : Int)) % (5 : Int))), (12 : Int)] : List Int)) (ee_cons (ev_add ev_int (ev_mod (ev_div (ev_var 0 rfl (Iv.fz (x := (cell1 : Int)) iv4 0)) ev_int ⟨by decide, by decide +kernel⟩) ev_int (by decide))) (ee_cons ev_int ee_nil)) (by simp [sizeLine]))) (ev_intB z_int (EvB.v (eb_eq (ev_mod (ev_var 0 rfl (Iv.fz (x := (cell1 : Int)) iv4 0)) ev_int (by decide)) ev_int))) h_at5) fun v6 s7 e8 r9 => hQ _ _ (Ex.trans (Iv.exx iv4) e8) r9
abbrev s_l_row : Stmt := topS 23
abbrev N_l_row : List Str := ["_law_cell", "_law_many_here", "_law_count", "_law_found", "_law_number", "_law_k", "_law_mixed"]
theorem sc_l_row : FnScope N_l_row ["_law_cell", "_law_many_here", "_law_count"] (defScope s_l_row) := ⟨rfl, rfl, rfl, by decide +kernel, rfl, by decide +kernel, by decide +kernel⟩
noncomputable def m_l_row (cell10 : Int) (many_here13 : Int) (count16 : Int) : Option (List Int) :=
 (lt (([] : List Int) : (List Int)) fun found20 =>
 (lt ((cell10 / (2 : Int)) : Int) fun number28 =>
 (chk (RgB count16) (bnd (foldO (fun (b38 : ((List Int) × Int)) (x40 : Int) =>
 (bnd (if (decide ((cell10 % (2 : Int)) = (0 : Int))) = true then
 (chk (0 < many_here13) (chk ((b38.1).length < sizeLine) (lt ((b38.1 ++ [(b38.2 % many_here13)]) : (List Int)) fun found138 =>
 (chk (DivOk many_here13) (lt ((b38.2 / many_here13) : Int) fun number146 =>
 (some (found138, number146)))))))
 else
 (chk (MulOk x40 x40) (lt (((((cell10 % (1000003 : Int)) + (1 : Int)) * ((x40 * x40) + (48271 : Int))) % (65537 : Int)) : Int) fun mixed163 =>
 (chk (0 < many_here13) (chk ((b38.1).length < sizeLine) (lt ((b38.1 ++ [((((mixed163 * mixed163) + ((30269 : Int) * x40)) % (65521 : Int)) % many_here13)]) : (List Int)) fun found180 =>
 (some (found180, b38.2))))))) : Option (((List Int) × Int))) fun b121 =>
 (some (b121.1, b121.2)))) (found20, number28) (rng 0 count16)) fun o36 =>
 (some o36.1)))))
noncomputable abbrev a_l_row : Int × Int × Int × Unit → Option (List Int) := fun a => m_l_row a.1 a.2.1 a.2.2.1
theorem ok_l_row {P : Program} {w : World} {K : PySem.W.Frag} {mg : Str → Option Value} {base : Heap} {f : Addr} {fd : FuncData} (F : FunP K "_law_row" s_l_row f fd) (hmg : mg "_law_row" = some (.ref f)) (z_range : mg "range" = none) : Cal P w K mg base CX0 1 "_law_row" (spN K a_l_row) := by
  refine mk_calN (k := 0) F hmg (F.bindsN fun _ _ _ _ _ _ us hl => match us, hl with | [_, _, _], _ => rfl) sc_l_row len3 ?_
  rintro cdv A' outer sh0 H0 X0 hr s0 vs ⟨cell10, many_here13, count16, _⟩ r0 Q ⟨v11, _, rfl, r12, v14, _, rfl, r15, v17, _, rfl, r18, rfl⟩ hm hQ
  unfold a_l_row m_l_row at hm
  dsimp only at hm
  have iv19 : Iv K (fun _ => False) s0 s0 [fz v11 (cell10 : Int), fz v14 (many_here13 : Int), fz v17 (count16 : Int), top, top, top, top] := (Iv.sf (Iv.sf (Iv.sf (Iv.tops (K := K) (P0 := (fun _ => False)) 7 s0) 0 (Ex.refl s0) r12 rfl) 1 (Ex.refl s0) r15 rfl) 2 (Ex.refl s0) r18 rfl)
  refine do_setN 3 (en_list (xs := ([] : List Int)) ee_nil (by simp [sizeLine])) (fun p24 s22 e23 n25 o26 => ?_) sc_l_row.nd
  obtain ⟨found20, q21, hm⟩ := ltE hm
  have iv27 := Iv.sl iv19 3 e23 n25 o26 q21
  refine do_set 4 (ev_div (ev_var 0 rfl (Iv.fz (x := (cell10 : Int)) iv27 0)) ev_int ⟨by decide, by decide +kernel⟩) (fun v32 s30 e31 r33 => ?_) sc_l_row.nd
  obtain ⟨number28, q29, hm⟩ := ltE hm
  have iv34 := Iv.sf iv27 4 e31 r33 q29
  obtain ⟨hc35, hm⟩ := chkE hm
  obtain ⟨o36, ho37, hm⟩ := bndE hm
  refine do_forO (υ := ((List Int) × Int)) PassesOwn.never rfl (ei_range1 z_range (ev_var 2 rfl (Iv.fz (x := (count16 : Int)) iv34 2)) hc35) (pg_name (i := 5) sc_l_row.nd rfl (by first | exact Or.inl rfl | exact Or.inr rfl)) tg_n ho37 (fun (b38 : ((List Int) × Int)) (σ' : L2.St) (t' : S) => ∃ (v_number : V) (y_mixed : Option V) (y_k : Option V), σ' = [some v11, some v14, some v17, some (.ref p24), some v_number, y_k, y_mixed] ∧ Iv K (fun _ => False) s0 t' [fz v11 (cell10 : Int), fz v14 (many_here13 : Int), fz v17 (count16 : Int), ol p24 (b38.1 : (List Int)), fz v_number (b38.2 : Int), top, top]) (fun s202 k203 => by have iv204 := Iv.ex iv34 k203; exact ⟨v32, _, _, rfl, Iv.sel iv204 [some 0, some 1, some 2, some 3, some 4, none, none] (by decide +kernel) (by kernel_rfl)⟩) (fun s41 k42 x40 b38 b39 σ51 σ52 t49 t50 hx43 hm44 fl45 hR46 k47 hB48 => ?_) (fun s196 k197 σ198 t199 fl200 hR201 => ?_)
  · have hf53 := Fle.trans k42.f fl45
    obtain ⟨v54, y55, y56, rfl, iv57⟩ := hR46
    obtain ⟨v58, r59, rfl⟩ := hB48
    have iv60 := Iv.ex iv57 k47
    have iv61 := Iv.sf iv60 5 (Ex.refl t50) r59 rfl
    have fl62 := Fle.trans (Fle.refl t50.F) (Ex.refl t50).f
    obtain ⟨b121, hj122, hm44⟩ := bndE hm44
    refine do_if (EvB.t (eb_eq (ev_mod (ev_var 0 rfl (Iv.fz (x := (cell10 : Int)) iv61 0)) ev_int (by decide)) ev_int)) (fun (σ' : L2.St) (t' : S) => Fle t50.F t'.F ∧ ∃ (v_number : V) (y_mixed : Option V), σ' = [some v11, some v14, some v17, some (.ref p24), some v_number, some v58, y_mixed] ∧ Iv K (fun _ => False) s0 t' [fz v11 (cell10 : Int), fz v14 (many_here13 : Int), fz v17 (count16 : Int), ol p24 (b121.1 : (List Int)), fz v_number (b121.2 : Int), fz v58 (x40 : Int), top]) (fun hb123 s124 e125 => ?_) (fun hb155 s156 e157 => ?_) (fun σ187 s188 hM189 => ?_)
    · have hm126 := iteE1 hj122 hb123
      have iv127 := Iv.ex iv61 e125
      have fl128 := Fle.trans (Fle.refl t50.F) e125.f
      have fl129 := Fle.trans (Fle.refl t50.F) e125.f
      obtain ⟨hc140, hm126⟩ := chkE hm126
      obtain ⟨hc141, hm126⟩ := chkE hm126
      refine do_append 3 rfl (Iv.ol (xs := (b38.1 : (List Int))) iv127 3) (ev_mod (ev_var 4 rfl (Iv.fz (x := (b38.2 : Int)) iv127 4)) (ev_var 1 rfl (Iv.fz (x := (many_here13 : Int)) iv127 1)) hc140) hc141 (fun s135 m136 o137 => ?_)
      obtain ⟨found138, q139, hm126⟩ := ltE hm126
      have iv142 := Iv.ml iv127 3 m136 o137 q139
      have fl143 := Fle.trans fl128 m136.f
      have fl144 := Fle.trans fl129 m136.f
      obtain ⟨hc145, hm126⟩ := chkE hm126
      refine do_set 4 (ev_div (ev_var 4 rfl (Iv.fz (x := (b38.2 : Int)) iv142 4)) (ev_var 1 rfl (Iv.fz (x := (many_here13 : Int)) iv142 1)) hc145) (fun v150 s148 e149 r151 => ?_) sc_l_row.nd
      obtain ⟨number146, q147, hm126⟩ := ltE hm126
      have iv152 := Iv.sf iv142 4 e149 r151 q147
      have fl153 := Fle.trans fl143 e149.f
      have fl154 := Fle.trans fl144 e149.f
      obtain rfl := Option.some.inj hm126
      exact do_nil ⟨s148, rfl, fl154, ⟨v150, _, rfl, Iv.sel iv152 [some 0, some 1, some 2, some 3, some 4, some 5, none] (by decide +kernel) (by kernel_rfl)⟩⟩
    · have hm158 := iteE2 hj122 hb155
      have iv159 := Iv.ex iv61 e157
      have fl160 := Fle.trans (Fle.refl t50.F) e157.f
      have fl161 := Fle.trans (Fle.refl t50.F) e157.f
      obtain ⟨hc162, hm158⟩ := chkE hm158
      refine do_set 6 (ev_mod (ev_mul (ev_add (ev_mod (ev_var 0 rfl (Iv.fz (x := (cell10 : Int)) iv159 0)) ev_int (by decide)) ev_int) (ev_add (ev_mul (ev_var 5 rfl (Iv.fz (x := (x40 : Int)) iv159 5)) (ev_var 5 rfl (Iv.fz (x := (x40 : Int)) iv159 5)) hc162) ev_int) (Or.inl (Or.inl ⟨by omega, by omega⟩))) ev_int (by decide)) (fun v167 s165 e166 r168 => ?_) sc_l_row.nd
      obtain ⟨mixed163, q164, hm158⟩ := ltE hm158
      have iv169 := Iv.sf iv159 6 e166 r168 q164
      have fl170 := Fle.trans fl160 e166.f
      have fl171 := Fle.trans fl161 e166.f
      obtain ⟨hc182, hm158⟩ := chkE hm158
      obtain ⟨hc183, hm158⟩ := chkE hm158
      refine do_append 3 rfl (Iv.ol (xs := (b38.1 : (List Int))) iv169 3) (ev_mod (ev_mod (ev_add (ev_mul (ev_var 6 rfl (Iv.fz (x := (mixed163 : Int)) iv169 6)) (ev_var 6 rfl (Iv.fz (x := (mixed163 : Int)) iv169 6)) (Or.inl (Or.inl ⟨by omega, by omega⟩))) (ev_mul ev_int (ev_var 5 rfl (Iv.fz (x := (x40 : Int)) iv169 5)) (Or.inl (Or.inl ⟨by omega, by omega⟩)))) ev_int (by decide)) (ev_var 1 rfl (Iv.fz (x := (many_here13 : Int)) iv169 1)) hc182) hc183 (fun s177 m178 o179 => ?_)
      obtain ⟨found180, q181, hm158⟩ := ltE hm158
      have iv184 := Iv.ml iv169 3 m178 o179 q181
      have fl185 := Fle.trans fl170 m178.f
      have fl186 := Fle.trans fl171 m178.f
      obtain rfl := Option.some.inj hm158
      exact do_nil ⟨s177, rfl, fl186, ⟨v54, _, rfl, Iv.sel iv184 [some 0, some 1, some 2, some 3, some 4, some 5, none] (by decide +kernel) (by kernel_rfl)⟩⟩
    · obtain ⟨hf190, hR191⟩ := hM189
      obtain ⟨v192, y193, rfl, iv194⟩ := hR191
      have fl195 := Fle.trans (Fle.refl t50.F) hf190
      obtain rfl := Option.some.inj hm44
      exact do_nil ⟨s188, rfl, fl195, ⟨v192, _, _, rfl, Iv.sel iv194 [some 0, some 1, some 2, some 3, some 4, none, none] (by decide +kernel) (by kernel_rfl)⟩⟩
  · have hf205 := Fle.trans k197.f fl200
    obtain ⟨v206, y207, y208, rfl, iv209⟩ := hR201
    obtain rfl := Option.some.inj hm
    exact do_retO 3 rfl (hQ _ _ (Iv.exx iv209) (Iv.fresh iv209 3) (Iv.ol (xs := (o36.1 : (List Int))) iv209 3))
abbrev s_l_names : Stmt := topS 24
abbrev N_l_names : List Str := ["_law_cell", "_law_many_here", "_law_letters", "_law_longer", "_law_names_here", "_law_k"]
theorem sc_l_names : FnScope N_l_names ["_law_cell", "_law_many_here"] (defScope s_l_names) := ⟨rfl, rfl, rfl, by decide +kernel, rfl, by decide +kernel, by decide +kernel⟩
noncomputable def m_l_names (cell210 : Int) (many_here213 : Int) : Option (List Str) :=
 (lt (("abcdefghijklmnopqrstuvwxyz" : Str) : Str) fun letters217 =>
 (bnd (m_l_row (cell210 / (3 : Int)) (10 : Int) many_here213) fun row224 => (lt (row224 : (List Int)) fun longer225 =>
 (lt (([] : List Str) : (List Str)) fun names_here232 =>
 (chk (RgB many_here213) (bnd (foldO (fun (b243 : (List Str)) (x245 : Int) =>
 (bnd (if ((decide ((cell210 % (3 : Int)) = (0 : Int))) && (decide (x245 < (10 : Int)))) = true then
 (chk (RepS ("q" : Str) (x245 + (1 : Int))) (chk ((b243).length < sizeLine) (lt ((b243 ++ [(replS ("q" : Str) (x245 + (1 : Int)))]) : (List Str)) fun names_here408 =>
 (some names_here408))))
 else
 (bnd (if (decide ((cell210 % (3 : Int)) = (0 : Int))) = true then
 (bnd (sgn letters217 x245) fun at489 => (chk ((b243).length < sizeLine) (lt ((b243 ++ [at489]) : (List Str)) fun names_here487 =>
 (some names_here487))))
 else
 (bnd (sgn letters217 (((cell210 / (3 : Int)) + ((5 : Int) * x245)) % (26 : Int))) fun at513 => (bnd (atI longer225 x245) fun at514 => (chk (RepS ("q" : Str) (at514 % (10 : Int))) (chk ((at513).length + ((replS ("q" : Str) (at514 % (10 : Int)))).length ≤ sizeLine) (chk ((b243).length < sizeLine) (lt ((b243 ++ [(at513 ++ (replS ("q" : Str) (at514 % (10 : Int))))]) : (List Str)) fun names_here511 =>
 (some names_here511))))))) : Option ((List Str))) fun b469 =>
 (some b469)) : Option ((List Str))) fun b391 =>
 (some b391))) names_here232 (rng 0 many_here213)) fun o241 =>
 (bnd (if (decide ((cell210 % (2 : Int)) = (1 : Int))) = true then
 (lt ((o241).reverse : (List Str)) fun names_here586 =>
 (some names_here586))
 else
 (some o241) : Option ((List Str))) fun b570 =>
 (some b570))))))))
noncomputable abbrev a_l_names : Int × Int × Unit → Option (List Str) := fun a => m_l_names a.1 a.2.1
theorem ok_l_names {P : Program} {w : World} {K : PySem.W.Frag} {mg : Str → Option Value} {base : Heap} {f : Addr} {fd : FuncData} (F : FunP K "_law_names" s_l_names f fd) (hmg : mg "_law_names" = some (.ref f)) (C_l_row : Cal P w K mg base CX0 1 "_law_row" (spN K a_l_row)) (z_range : mg "range" = none) : Cal P w K mg base CX0 2 "_law_names" (spN K a_l_names) := by
  refine mk_calN (k := 1) F hmg (F.bindsN fun _ _ _ _ _ _ us hl => match us, hl with | [_, _], _ => rfl) sc_l_names len2 ?_
  rintro cdv A' outer sh0 H0 X0 hr s0 vs ⟨cell210, many_here213, _⟩ r0 Q ⟨v211, _, rfl, r212, v214, _, rfl, r215, rfl⟩ hm hQ
  unfold a_l_names m_l_names at hm
  dsimp only at hm
  have iv216 : Iv K (fun _ => False) s0 s0 [fz v211 (cell210 : Int), fz v214 (many_here213 : Int), top, top, top, top] := (Iv.sf (Iv.sf (Iv.tops (K := K) (P0 := (fun _ => False)) 6 s0) 0 (Ex.refl s0) r212 rfl) 1 (Ex.refl s0) r215 rfl)
  refine do_set 2 ev_str (fun v221 s219 e220 r222 => ?_) sc_l_names.nd
  obtain ⟨letters217, q218, hm⟩ := ltE hm
  have iv223 := Iv.sf iv216 2 e220 r222 q218
  obtain ⟨row224, h_row224, hm⟩ := bndE hm
  refine do_set 3 (EvN.ev (en_call C_l_row hr (by decide) (ea_cons (ev_div (ev_var 0 rfl (Iv.fz (x := (cell210 : Int)) iv223 0)) ev_int ⟨by decide, by decide +kernel⟩) (ea_cons ev_int (ea_cons (ev_var 1 rfl (Iv.fz (x := (many_here213 : Int)) iv223 1)) ea_nil))) h_row224)) (fun v229 s227 e228 r230 => ?_) sc_l_names.nd
  obtain ⟨longer225, q226, hm⟩ := ltE hm
  have iv231 := Iv.sf iv223 3 e228 r230 q226
  refine do_setN 4 (en_list (xs := ([] : List Str)) ee_nil (by simp [sizeLine])) (fun p236 s234 e235 n237 o238 => ?_) sc_l_names.nd
  obtain ⟨names_here232, q233, hm⟩ := ltE hm
  have iv239 := Iv.sl iv231 4 e235 n237 o238 q233
  obtain ⟨hc240, hm⟩ := chkE hm
  obtain ⟨o241, ho242, hm⟩ := bndE hm
  refine do_forO (υ := (List Str)) PassesOwn.never rfl (ei_range1 z_range (ev_var 1 rfl (Iv.fz (x := (many_here213 : Int)) iv239 1)) hc240) (pg_name (i := 5) sc_l_names.nd rfl (by first | exact Or.inl rfl | exact Or.inr rfl)) tg_n ho242 (fun (b243 : (List Str)) (σ' : L2.St) (t' : S) => ∃ (y_k : Option V), σ' = [some v211, some v214, some v221, some v229, some (.ref p236), y_k] ∧ Iv K (fun _ => False) s0 t' [fz v211 (cell210 : Int), fz v214 (many_here213 : Int), fz v221 (letters217 : Str), fz v229 (longer225 : (List Int)), ol p236 (b243 : (List Str)), top]) (fun s543 k544 => by have iv545 := Iv.ex iv239 k544; exact ⟨_, rfl, Iv.sel iv545 [some 0, some 1, some 2, some 3, some 4, none] (by decide +kernel) (by kernel_rfl)⟩) (fun s246 k247 x245 b243 b244 σ256 σ257 t254 t255 hx248 hm249 fl250 hR251 k252 hB253 => ?_) (fun s537 k538 σ539 t540 fl541 hR542 => ?_)
  · have hf258 := Fle.trans k247.f fl250
    obtain ⟨y259, rfl, iv260⟩ := hR251
    obtain ⟨v261, r262, rfl⟩ := hB253
    have iv263 := Iv.ex iv260 k252
    have iv264 := Iv.sf iv263 5 (Ex.refl t255) r262 rfl
    have fl265 := Fle.trans (Fle.refl t255.F) (Ex.refl t255).f
    obtain ⟨b391, hj392, hm249⟩ := bndE hm249
    refine do_if (EvW.tt (EvC.w (ec_and (eb_eq (ev_mod (ev_var 0 rfl (Iv.fz (x := (cell210 : Int)) iv264 0)) ev_int (by decide)) ev_int) fun _ => (ec_and1 (eb_lt (ev_var 5 rfl (Iv.fz (x := (x245 : Int)) iv264 5)) ev_int))))) (fun (σ' : L2.St) (t' : S) => Fle t255.F t'.F ∧ σ' = [some v211, some v214, some v221, some v229, some (.ref p236), some v261] ∧ Iv K (fun _ => False) s0 t' [fz v211 (cell210 : Int), fz v214 (many_here213 : Int), fz v221 (letters217 : Str), fz v229 (longer225 : (List Int)), ol p236 (b391 : (List Str)), fz v261 (x245 : Int)]) (fun hb393 s394 e395 => ?_) (fun hb415 s416 e417 => ?_) (fun σ530 s531 hM532 => ?_)
    · have hm396 := iteE1 hj392 hb393
      have iv397 := Iv.ex iv264 e395
      have fl398 := Fle.trans (Fle.refl t255.F) e395.f
      have fl399 := Fle.trans (Fle.refl t255.F) e395.f
      obtain ⟨hc410, hm396⟩ := chkE hm396
      obtain ⟨hc411, hm396⟩ := chkE hm396
      refine do_append 4 rfl (Iv.ol (xs := (b243 : (List Str))) iv397 4) (ev_repS ev_str (ev_add (ev_var 5 rfl (Iv.fz (x := (x245 : Int)) iv397 5)) ev_int) hc410) hc411 (fun s405 m406 o407 => ?_)
      obtain ⟨names_here408, q409, hm396⟩ := ltE hm396
      have iv412 := Iv.ml iv397 4 m406 o407 q409
      have fl413 := Fle.trans fl398 m406.f
      have fl414 := Fle.trans fl399 m406.f
      obtain rfl := Option.some.inj hm396
      exact do_nil ⟨s405, rfl, fl414, ⟨rfl, Iv.sel iv412 [some 0, some 1, some 2, some 3, some 4, some 5] (by decide +kernel) (by kernel_rfl)⟩⟩
    · have hm418 := iteE2 hj392 hb415
      have iv419 := Iv.ex iv264 e417
      have fl420 := Fle.trans (Fle.refl t255.F) e417.f
      have fl421 := Fle.trans (Fle.refl t255.F) e417.f
      obtain ⟨b469, hj470, hm418⟩ := bndE hm418
      refine do_if (EvB.t (eb_eq (ev_mod (ev_var 0 rfl (Iv.fz (x := (cell210 : Int)) iv419 0)) ev_int (by decide)) ev_int)) (fun (σ' : L2.St) (t' : S) => Fle s416.F t'.F ∧ σ' = [some v211, some v214, some v221, some v229, some (.ref p236), some v261] ∧ Iv K (fun _ => False) s0 t' [fz v211 (cell210 : Int), fz v214 (many_here213 : Int), fz v221 (letters217 : Str), fz v229 (longer225 : (List Int)), ol p236 (b469 : (List Str)), fz v261 (x245 : Int)]) (fun hb471 s472 e473 => ?_) (fun hb495 s496 e497 => ?_) (fun σ522 s523 hM524 => ?_)
      · have hm474 := iteE1 hj470 hb471
        have iv475 := Iv.ex iv419 e473
        have fl476 := Fle.trans fl420 e473.f
        have fl477 := Fle.trans fl421 e473.f
        have fl478 := Fle.trans (Fle.refl s416.F) e473.f
        obtain ⟨at489, h_at489, hm474⟩ := bndE hm474
        obtain ⟨hc490, hm474⟩ := chkE hm474
        refine do_append 4 rfl (Iv.ol (xs := (b243 : (List Str))) iv475 4) (ev_ixS (ev_var 2 rfl (Iv.fz (x := (letters217 : Str)) iv475 2)) (ev_var 5 rfl (Iv.fz (x := (x245 : Int)) iv475 5)) h_at489) hc490 (fun s484 m485 o486 => ?_)
        obtain ⟨names_here487, q488, hm474⟩ := ltE hm474
        have iv491 := Iv.ml iv475 4 m485 o486 q488
        have fl492 := Fle.trans fl476 m485.f
        have fl493 := Fle.trans fl477 m485.f
        have fl494 := Fle.trans fl478 m485.f
        obtain rfl := Option.some.inj hm474
        exact do_nil ⟨s484, rfl, fl494, ⟨rfl, Iv.sel iv491 [some 0, some 1, some 2, some 3, some 4, some 5] (by decide +kernel) (by kernel_rfl)⟩⟩
      · have hm498 := iteE2 hj470 hb495
        have iv499 := Iv.ex iv419 e497
        have fl500 := Fle.trans fl420 e497.f
        have fl501 := Fle.trans fl421 e497.f
        have fl502 := Fle.trans (Fle.refl s416.F) e497.f
        obtain ⟨at513, h_at513, hm498⟩ := bndE hm498
        obtain ⟨at514, h_at514, hm498⟩ := bndE hm498
        obtain ⟨hc515, hm498⟩ := chkE hm498
        obtain ⟨hc516, hm498⟩ := chkE hm498
        obtain ⟨hc517, hm498⟩ := chkE hm498
        refine do_append 4 rfl (Iv.ol (xs := (b243 : (List Str))) iv499 4) (ev_adds (ev_ixS (ev_var 2 rfl (Iv.fz (x := (letters217 : Str)) iv499 2)) (ev_mod (ev_add (ev_div (ev_var 0 rfl (Iv.fz (x := (cell210 : Int)) iv499 0)) ev_int ⟨by decide, by decide +kernel⟩) (ev_mul ev_int (ev_var 5 rfl (Iv.fz (x := (x245 : Int)) iv499 5)) (Or.inl (Or.inl ⟨by omega, by omega⟩)))) ev_int (by decide)) h_at513) (ev_repS ev_str (ev_mod (ev_ix (Ev.r (ev_var 3 rfl (Iv.fz (x := (longer225 : (List Int))) iv499 3))) (ev_var 5 rfl (Iv.fz (x := (x245 : Int)) iv499 5)) h_at514) ev_int (by decide)) hc515) hc516) hc517 (fun s508 m509 o510 => ?_)
        obtain ⟨names_here511, q512, hm498⟩ := ltE hm498
        have iv518 := Iv.ml iv499 4 m509 o510 q512
        have fl519 := Fle.trans fl500 m509.f
        have fl520 := Fle.trans fl501 m509.f
        have fl521 := Fle.trans fl502 m509.f
        obtain rfl := Option.some.inj hm498
        exact do_nil ⟨s508, rfl, fl521, ⟨rfl, Iv.sel iv518 [some 0, some 1, some 2, some 3, some 4, some 5] (by decide +kernel) (by kernel_rfl)⟩⟩
      · obtain ⟨hf525, hR526⟩ := hM524
        obtain ⟨rfl, iv527⟩ := hR526
        have fl528 := Fle.trans fl420 hf525
        have fl529 := Fle.trans fl421 hf525
        obtain rfl := Option.some.inj hm418
        exact do_nil ⟨s523, rfl, fl529, ⟨rfl, Iv.sel iv527 [some 0, some 1, some 2, some 3, some 4, some 5] (by decide +kernel) (by kernel_rfl)⟩⟩
    · obtain ⟨hf533, hR534⟩ := hM532
      obtain ⟨rfl, iv535⟩ := hR534
      have fl536 := Fle.trans (Fle.refl t255.F) hf533
      obtain rfl := Option.some.inj hm249
      exact do_nil ⟨s531, rfl, fl536, ⟨_, rfl, Iv.sel iv535 [some 0, some 1, some 2, some 3, some 4, none] (by decide +kernel) (by kernel_rfl)⟩⟩
  · have hf546 := Fle.trans k538.f fl541
    obtain ⟨y547, rfl, iv548⟩ := hR542
    obtain ⟨b570, hj571, hm⟩ := bndE hm
    refine do_if (EvB.t (eb_eq (ev_mod (ev_var 0 rfl (Iv.fz (x := (cell210 : Int)) iv548 0)) ev_int (by decide)) ev_int)) (fun (σ' : L2.St) (t' : S) => Fle t540.F t'.F ∧ σ' = [some v211, some v214, some v221, some v229, some (.ref p236), y547] ∧ Iv K (fun _ => False) s0 t' [fz v211 (cell210 : Int), fz v214 (many_here213 : Int), fz v221 (letters217 : Str), fz v229 (longer225 : (List Int)), ol p236 (b570 : (List Str)), top]) (fun hb572 s573 e574 => ?_) (fun hb590 s591 e592 => ?_) (fun σ596 s597 hM598 => ?_)
    · have hm575 := iteE1 hj571 hb572
      have iv576 := Iv.ex iv548 e574
      have fl577 := Fle.trans (Fle.refl t540.F) e574.f
      refine do_reverse 4 rfl (Iv.ol (xs := (o241 : (List Str))) iv576 4) (fun s583 m584 o585 => ?_)
      obtain ⟨names_here586, q587, hm575⟩ := ltE hm575
      have iv588 := Iv.ml iv576 4 m584 o585 q587
      have fl589 := Fle.trans fl577 m584.f
      obtain rfl := Option.some.inj hm575
      exact do_nil ⟨s583, rfl, fl589, ⟨rfl, Iv.sel iv588 [some 0, some 1, some 2, some 3, some 4, none] (by decide +kernel) (by kernel_rfl)⟩⟩
    · have hm593 := iteE2 hj571 hb590
      have iv594 := Iv.ex iv548 e592
      have fl595 := Fle.trans (Fle.refl t540.F) e592.f
      obtain rfl := Option.some.inj hm593
      exact do_nil ⟨s591, rfl, fl595, ⟨rfl, Iv.sel iv594 [some 0, some 1, some 2, some 3, some 4, none] (by decide +kernel) (by kernel_rfl)⟩⟩
    · obtain ⟨hf599, hR600⟩ := hM598
      obtain ⟨rfl, iv601⟩ := hR600
      obtain rfl := Option.some.inj hm
      exact do_retO 4 rfl (hQ _ _ (Iv.exx iv601) (Iv.fresh iv601 4) (Iv.ol (xs := (b570 : (List Str))) iv601 4))
abbrev s_l_closed : Stmt := topS 25
def pre_l_closed : List V → (List (List Int)) × Unit → List OA → List OA → Prop := fun vs x L R => ∃ (a_law_rows_here : LL), vs = [(.ref a_law_rows_here.p)] ∧ L = [oll a_law_rows_here (x.1 : (List (List Int)))] ∧ R = []
def ok_l_closed : List V → (List (List Int)) × Unit → ((List (List Int))) → V → List OA → Prop := fun vs x r v L' => ∃ (a_law_rows_here : LL), vs = [(.ref a_law_rows_here.p)] ∧ (∃ (bres : LL), v = (.ref bres.p) ∧ L' = [oll bres (r : (List (List Int)))])
abbrev N_l_closed : List Str := ["_law_rows_here", "_law_middle", "_law_one", "_law_other", "_law_way"]
theorem sc_l_closed : FnScope N_l_closed ["_law_rows_here"] (defScope s_l_closed) := ⟨rfl, rfl, rfl, by decide +kernel, rfl, by decide +kernel, by decide +kernel⟩
noncomputable def m_l_closed (rows_here602 : (List (List Int))) : Option ((List (List Int))) :=
 (chk (RgB ((rows_here602).length : Int)) (bnd (foldO (fun (b608 : (List (List Int))) (x610 : Int) =>
 (bnd (foldO (fun (b636 : (List (List Int))) (x638 : Nat) =>
 (chk (RgB ((b636).length : Int)) (bnd (foldO (fun (b668 : (List (List Int))) (x670 : Int) =>
 (bnd ((b668)[x638]?) fun row692 => (bnd (atI row692 x610) fun at693 => (bnd (atI b668 x610) fun row694 => (bnd (atI row694 x670) fun at695 => (lt ((at693 + at695) : Int) fun way696 =>
 (bnd ((b668)[x638]?) fun row704 => (bnd (atI row704 x670) fun at705 => (bnd ((b668)[x638]?) fun row706 => (bnd (ixN (row706).length x670) fun j707 => (lt (((b668).set x638 ((row706).set j707 (min at705 way696))) : (List (List Int))) fun ll711 =>
 (some ll711)))))))))))) b636 (rng 0 ((b636).length : Int))) fun o666 =>
 (some o666)))) b608 (List.range (b608).length)) fun o634 =>
 (some o634))) rows_here602 (rng 0 ((rows_here602).length : Int))) fun o606 =>
 (some o606)))
noncomputable abbrev a_l_closed : (List (List Int)) × Unit → Option ((List (List Int))) := fun x => m_l_closed x.1
theorem ok_l_closed_fn {P : Program} {w : World} {K : PySem.W.Frag} {mg : Str → Option Value} {base : Heap} {f : Addr} {fd : FuncData} (F : FunM K "_law_closed" "_law_closed" s_l_closed f fd) (z_range : mg "range" = none) (z_len : mg "len" = none) (z_min : mg "min" = none) : FnOk P w K mg base CX0 1 f fd ["_law_rows_here"] (spI K pre_l_closed a_l_closed ok_l_closed noEr) := by
  refine mk_I (k := 0) F sc_l_closed (fun vs a L R h => by obtain ⟨_, rfl, _⟩ := h; rfl) ?_
  rintro cdv A' outer sh0 H0 X0 hr s0 P0 L0 R0 vs ⟨rows_here602, _⟩ o0 Q ⟨a_law_rows_here, rfl, rfl, rfl⟩ iv603 ro hm hQ
  unfold a_l_closed m_l_closed at hm
  dsimp only at hm
  have iv604 : Iv K P0 s0 s0 [oll a_law_rows_here (rows_here602 : (List (List Int))), top, top, top, top] := Iv.sel iv603 [some 0, none, none, none, none] (by decide +kernel) (by kernel_rfl)
  obtain ⟨hc605, hm⟩ := chkE hm
  obtain ⟨o606, ho607, hm⟩ := bndE hm
  refine do_forO (υ := (List (List Int))) PassesOwn.never rfl (ei_range1 z_range (ev_llen z_len (raw_var 0 rfl) (OwnLL.r (Iv.oll (xss := (rows_here602 : (List (List Int)))) iv604 0))) hc605) (pg_name (i := 1) sc_l_closed.nd rfl (by first | exact Or.inl rfl | exact Or.inr rfl)) tg_n ho607 (fun (b608 : (List (List Int))) (σ' : L2.St) (t' : S) => ∃ (y_one : Option V) (y_other : Option V) (y_way : Option V) (y_middle : Option V), σ' = [some (.ref a_law_rows_here.p), y_middle, y_one, y_other, y_way] ∧ Iv K P0 s0 t' [oll a_law_rows_here (b608 : (List (List Int))), top, top, top, top]) (fun s748 k749 => by have iv750 := Iv.ex iv604 k749; exact ⟨_, _, _, _, rfl, Iv.sel iv750 [some 0, none, none, none, none] (by decide +kernel) (by kernel_rfl)⟩) (fun s611 k612 x610 b608 b609 σ621 σ622 t619 t620 hx613 hm614 fl615 hR616 k617 hB618 => ?_) (fun s742 k743 σ744 t745 fl746 hR747 => ?_)
  · have hf623 := Fle.trans k612.f fl615
    obtain ⟨y624, y625, y626, y627, rfl, iv628⟩ := hR616
    obtain ⟨v629, r630, rfl⟩ := hB618
    have iv631 := Iv.ex iv628 k617
    have iv632 := Iv.sf iv631 1 (Ex.refl t620) r630 rfl
    have fl633 := Fle.trans (Fle.refl t620.F) (Ex.refl t620).f
    obtain ⟨o634, ho635, hm614⟩ := bndE hm614
    letI := encIx a_law_rows_here
    refine do_forG PassesOwn.never rfl (pg_name (i := 2) sc_l_closed.nd rfl (by first | exact Or.inl rfl | exact Or.inr rfl)) (for_readO (τ := Nat) (υ := (List (List Int))) (ei_ll (raw_var 0 rfl) (OwnLL.r (Iv.oll (xss := (b608 : (List (List Int)))) iv632 0))) (tg_n (α := Nat)) ho635 (fun (b636 : (List (List Int))) (σ' : L2.St) (t' : S) => Fle t620.F t'.F ∧ ∃ (y_other : Option V) (y_way : Option V) (y_one : Option V), σ' = [some (.ref a_law_rows_here.p), some v629, y_one, y_other, y_way] ∧ Iv K P0 s0 t' [oll a_law_rows_here (b636 : (List (List Int))), fz v629 (x610 : Int), top, top, top]) (fun b636 σ' t' hR => by obtain ⟨f649, hR648⟩ := hR; obtain ⟨y650, y651, y652, rfl, iv653⟩ := hR648; exact ((Iv.oll (xss := (b636 : (List (List Int)))) iv653 0)).hp) (fun s733 k734 => by have iv735 := Iv.ex iv632 k734; exact ⟨k734.f, ⟨_, _, _, rfl, Iv.sel iv735 [some 0, some 1, none, none, none] (by decide +kernel) (by kernel_rfl)⟩⟩) (fun x638 b636 b637 σ646 σ647 t644 t645 hx639 hm640 hR641 k642 hB643 => ?_) (fun σ730 t731 hR732 => ?_))
    · obtain ⟨fl654, hR641'⟩ := hR641
      obtain ⟨y655, y656, y657, rfl, iv658⟩ := hR641'
      obtain ⟨v659, r660, rfl⟩ := hB643
      obtain ⟨qq661, hq662, rfl⟩ := r660
      have iv663 := Iv.ex iv658 k642
      have fl664 := Fle.trans fl654 k642.f
      obtain ⟨hc665, hm640⟩ := chkE hm640
      obtain ⟨o666, ho667, hm640⟩ := bndE hm640
      refine do_forO (υ := (List (List Int))) PassesOwn.never rfl (ei_range1 z_range (ev_llen z_len (raw_var 0 rfl) (OwnLL.r (Iv.oll (xss := (b636 : (List (List Int)))) iv663 0))) hc665) (pg_name (i := 3) sc_l_closed.nd rfl (by first | exact Or.inl rfl | exact Or.inr rfl)) tg_n ho667 (fun (b668 : (List (List Int))) (σ' : L2.St) (t' : S) => ∃ (y_way : Option V) (y_other : Option V), σ' = [some (.ref a_law_rows_here.p), some v629, some (.ref qq661), y_other, y_way] ∧ Iv K P0 s0 t' [oll a_law_rows_here (b668 : (List (List Int))), fz v629 (x610 : Int), top, top, top]) (fun s721 k722 => by have iv723 := Iv.ex iv663 k722; have fl724 := Fle.trans fl664 k722.f; exact ⟨_, _, rfl, Iv.sel iv723 [some 0, some 1, some 2, none, none] (by decide +kernel) (by kernel_rfl)⟩) (fun s671 k672 x670 b668 b669 σ681 σ682 t679 t680 hx673 hm674 fl675 hR676 k677 hB678 => ?_) (fun s715 k716 σ717 t718 fl719 hR720 => ?_)
      · have hf683 := Fle.trans k672.f fl675
        obtain ⟨y684, y685, rfl, iv686⟩ := hR676
        obtain ⟨v687, r688, rfl⟩ := hB678
        have iv689 := Iv.ex iv686 k677
        have iv690 := Iv.sf iv689 3 (Ex.refl t680) r688 rfl
        have fl691 := Fle.trans (Fle.refl t680.F) (Ex.refl t680).f
        obtain ⟨row692, h_row692, hm674⟩ := bndE hm674
        obtain ⟨at693, h_at693, hm674⟩ := bndE hm674
        obtain ⟨row694, h_row694, hm674⟩ := bndE hm674
        obtain ⟨at695, h_at695, hm674⟩ := bndE hm674
        refine do_set 4 (ev_add (ev_ix (er_raw (xs := (row692 : (List Int))) (raw_var 2 rfl) (Own.r (OwnLL.row (Iv.oll (xss := (b668 : (List (List Int)))) iv690 0) hq662 h_row692))) (ev_var 1 rfl (Iv.fz (x := (x610 : Int)) iv690 1)) h_at693) (ev_ix (er_llix (raw_var 0 rfl) (OwnLL.r (Iv.oll (xss := (b668 : (List (List Int)))) iv690 0)) (ev_var 1 rfl (Iv.fz (x := (x610 : Int)) iv690 1)) h_row694) (ev_var 3 rfl (Iv.fz (x := (x670 : Int)) iv690 3)) h_at695)) (fun v700 s698 e699 r701 => ?_) sc_l_closed.nd
        obtain ⟨way696, q697, hm674⟩ := ltE hm674
        have iv702 := Iv.sf iv690 4 e699 r701 q697
        have fl703 := Fle.trans (Fle.refl t680.F) e699.f
        obtain ⟨row704, h_row704, hm674⟩ := bndE hm674
        obtain ⟨at705, h_at705, hm674⟩ := bndE hm674
        obtain ⟨row706, h_row706, hm674⟩ := bndE hm674
        obtain ⟨j707, h_j707, hm674⟩ := bndE hm674
        refine do_setItemP (raw_var 2 rfl) (OwnLL.row (Iv.oll (xss := (b668 : (List (List Int)))) iv702 0) hq662 h_row706) (ev_min2 z_min (ev_ix (er_raw (xs := (row704 : (List Int))) (raw_var 2 rfl) (Own.r (OwnLL.row (Iv.oll (xss := (b668 : (List (List Int)))) iv702 0) hq662 h_row704))) (ev_var 3 rfl (Iv.fz (x := (x670 : Int)) iv702 3)) h_at705) (ev_var 4 rfl (Iv.fz (x := (way696 : Int)) iv702 4))) (ev_var 3 rfl (Iv.fz (x := (x670 : Int)) iv702 3)) h_j707 (fun s708 m709 o710 => ?_)
        obtain ⟨ll711, q712, hm674⟩ := ltE hm674
        have iv713 := Iv.mll iv702 0 m709 hq662 o710 q712
        have fl714 := Fle.trans fl703 m709.f
        obtain rfl := Option.some.inj hm674
        exact do_nil ⟨s708, rfl, fl714, ⟨_, _, rfl, Iv.sel iv713 [some 0, some 1, some 2, none, none] (by decide +kernel) (by kernel_rfl)⟩⟩
      · have hf725 := Fle.trans k716.f fl719
        obtain ⟨y726, y727, rfl, iv728⟩ := hR720
        have fl729 := Fle.trans fl664 hf725
        obtain rfl := Option.some.inj hm640
        exact do_nil ⟨t718, rfl, fl729, ⟨_, _, _, rfl, Iv.sel iv728 [some 0, some 1, none, none, none] (by decide +kernel) (by kernel_rfl)⟩⟩
    · obtain ⟨fl736, hR732'⟩ := hR732
      obtain ⟨y737, y738, y739, rfl, iv740⟩ := hR732'
      have fl741 := Fle.trans (Fle.refl t620.F) fl736
      obtain rfl := Option.some.inj hm614
      exact do_nil ⟨t731, rfl, fl741, ⟨_, _, _, _, rfl, Iv.sel iv740 [some 0, none, none, none, none] (by decide +kernel) (by kernel_rfl)⟩⟩
  · have hf751 := Fle.trans k743.f fl746
    obtain ⟨y752, y753, y754, y755, rfl, iv756⟩ := hR747
    obtain rfl := Option.some.inj hm
    refine do_retK (ek_of (eg_raw (raw_var 0 rfl)) iv756) (fun v760 s758 z => ?_)
    obtain ⟨L759, ⟨rfl, rfl⟩, _, iv757⟩ := z
    exact hQ _ _ _ ⟨a_law_rows_here, rfl, a_law_rows_here, rfl, rfl⟩ (Iv.sel iv757 [some 0] (by decide +kernel) (by kernel_rfl))
abbrev s_l_rows : Stmt := topS 26
def pre_l_rows : List V → Int × Int × Unit → List OA → List OA → Prop := fun vs x L R => ∃ (a_law_cell : V) (a_law_many_here : V), vs = [a_law_cell, a_law_many_here] ∧ L = [fz a_law_cell (x.1 : Int), fz a_law_many_here (x.2.1 : Int)] ∧ R = []
def ok_l_rows : List V → Int × Int × Unit → ((List (List Int))) → V → List OA → Prop := fun vs x r v L' => ∃ (a_law_cell : V) (a_law_many_here : V), vs = [a_law_cell, a_law_many_here] ∧ (∃ (bres : LL), v = (.ref bres.p) ∧ L' = [oll bres (r : (List (List Int)))])
abbrev N_l_rows : List Str := ["_law_cell", "_law_many_here", "_law_some", "_law_rows_here", "_law_k"]
theorem sc_l_rows : FnScope N_l_rows ["_law_cell", "_law_many_here"] (defScope s_l_rows) := ⟨rfl, rfl, rfl, by decide +kernel, rfl, by decide +kernel, by decide +kernel⟩
noncomputable def m_l_rows (cell761 : Int) (many_here762 : Int) : Option ((List (List Int))) :=
 (bnd (atI ([(6 : Int), (30 : Int), ((10 : Int) ^ ((59 : Int)).toNat)] : List Int) (cell761 % (3 : Int))) fun at767 => (chk (MulOk many_here762 many_here762) (bnd (m_l_row (cell761 / (3 : Int)) at767 (many_here762 * many_here762)) fun row769 => (lt (row769 : (List Int)) fun some770 =>
 (chk (RgB many_here762) (bnd (mapO (fun (x778 : Int) => (chk (MulOk many_here762 x778) (chk (MulOk many_here762 x778) (some (cut some770 (some (many_here762 * x778)) (some ((many_here762 * x778) + many_here762))))))) (rng 0 many_here762)) fun ys793 => (chk ((ys793).length ≤ sizeLine) (chk (RgB many_here762) (bnd (foldO (fun (b806 : (List (List Int))) (x808 : Int) =>
 (bnd (ixN (b806).length x808) fun i829 => (bnd ((b806)[i829]?) fun row830 => (bnd (ixN (row830).length x808) fun j831 => (lt (((b806).set i829 ((row830).set j831 (0 : Int))) : (List (List Int))) fun ll837 =>
 (some ll837)))))) ys793 (rng 0 many_here762)) fun o804 =>
 (bnd (a_l_closed (o804, ())) fun closed853 => (some closed853)))))))))))
noncomputable abbrev a_l_rows : Int × Int × Unit → Option ((List (List Int))) := fun x => m_l_rows x.1 x.2.1
theorem ok_l_rows_fn {P : Program} {w : World} {K : PySem.W.Frag} {mg : Str → Option Value} {base : Heap} {f : Addr} {fd : FuncData} (F : FunM K "_law_rows" "_law_rows" s_l_rows f fd) (C_l_row : Cal P w K mg base CX0 1 "_law_row" (spN K a_l_row)) (C_l_closed : Cal P w K mg base CX0 1 "_law_closed" (spI K pre_l_closed a_l_closed ok_l_closed noEr)) (z_range : mg "range" = none) : FnOk P w K mg base CX0 2 f fd ["_law_cell", "_law_many_here"] (spI K pre_l_rows a_l_rows ok_l_rows noEr) := by
  refine mk_I (k := 1) F sc_l_rows (fun vs a L R h => by obtain ⟨_, _, rfl, _⟩ := h; rfl) ?_
  rintro cdv A' outer sh0 H0 X0 hr s0 P0 L0 R0 vs ⟨cell761, many_here762, _⟩ o0 Q ⟨a_law_cell, a_law_many_here, rfl, rfl, rfl⟩ iv763 ro hm hQ
  unfold a_l_rows m_l_rows at hm
  dsimp only at hm
  have iv764 : Iv K P0 s0 s0 [fz a_law_cell (cell761 : Int), fz a_law_many_here (many_here762 : Int), top, top, top] := Iv.sel iv763 [some 0, some 1, none, none, none] (by decide +kernel) (by kernel_rfl)
  obtain ⟨at767, h_at767, hm⟩ := bndE hm
  obtain ⟨hc768, hm⟩ := chkE hm
  obtain ⟨row769, h_row769, hm⟩ := bndE hm
  refine do_set 2 (EvN.ev (en_call C_l_row hr (by decide) (ea_cons (ev_div (ev_var 0 rfl (Iv.fz (x := (cell761 : Int)) iv764 0)) ev_int ⟨by decide, by decide +kernel⟩) (ea_cons (ev_ix (EvN.r (en_list (xs := ([(6 : Int), (30 : Int), ((10 : Int) ^ ((59 : Int)).toNat)] : List Int)) (ee_cons ev_int (ee_cons ev_int (ee_cons (ev_pow ev_int ev_int ⟨by decide, by decide, by decide⟩) ee_nil))) (by simp [sizeLine]))) (ev_mod (ev_var 0 rfl (Iv.fz (x := (cell761 : Int)) iv764 0)) ev_int (by decide)) h_at767) (ea_cons (ev_mul (ev_var 1 rfl (Iv.fz (x := (many_here762 : Int)) iv764 1)) (ev_var 1 rfl (Iv.fz (x := (many_here762 : Int)) iv764 1)) hc768) ea_nil))) h_row769)) (fun v774 s772 e773 r775 => ?_) sc_l_rows.nd
  obtain ⟨some770, q771, hm⟩ := ltE hm
  have iv776 := Iv.sf iv764 2 e773 r775 q771
  obtain ⟨hc777, hm⟩ := chkE hm
  obtain ⟨ys793, h_ys793, hm⟩ := bndE hm
  obtain ⟨hc794, hm⟩ := chkE hm
  refine do_setLL 3 (en_compLL (own := [("_law_k", 4)]) (j := 4) (f := fun (x778 : Int) => (chk (MulOk many_here762 x778) (chk (MulOk many_here762 x778) (some (cut some770 (some (many_here762 * x778)) (some ((many_here762 * x778) + many_here762))))))) rfl sc_l_rows.nd (ei_range1 z_range (ev_var 1 rfl (Iv.fz (x := (many_here762 : Int)) iv776 1)) hc777) (blkOk_by (own := [("_law_k", 4)]) (N := N_l_rows) (sc := defScope s_l_rows) (by decide +kernel)) rfl (by decide) (fun _ _ _ _ _ => pg_name (i := 4) sc_l_rows.nd rfl (by first | exact Or.inl rfl | exact Or.inr rfl)) h_ys793 hc794 (fun x778 y779 v784 s780 hx782 e781 r785 hf783 _ _ _ _ _ => by have z787 := Enc.mono e781.f (Iv.fz (v := a_law_many_here) (x := (many_here762 : Int)) iv776 1); have z788 := Enc.mono e781.f (Iv.fz (v := v774) (x := (some770 : (List Int))) iv776 2); obtain ⟨hc791, hf783⟩ := chkE hf783; obtain ⟨hc792, hf783⟩ := chkE hf783; obtain rfl := Option.some.inj hf783; exact (en_slice (Ev.r (ev_var 2 rfl z788)) (eo_some (ev_mul (ev_var 1 rfl z787) (ev_var 4 rfl r785) hc791)) (eo_some (ev_add (ev_mul (ev_var 1 rfl z787) (ev_var 4 rfl r785) hc792) (ev_var 1 rfl z787)))))) (fun v796 s797 L798 z801 iv799 => ?_) rfl rfl
  obtain ⟨p795, rfl, rfl⟩ := z801
  have iv800 := Iv.add iv776 iv799
  have iv802 : Iv K P0 s0 s797 [fz a_law_cell (cell761 : Int), fz a_law_many_here (many_here762 : Int), fz v774 (some770 : (List Int)), oll p795 (ys793 : (List (List Int))), top] := Iv.sel iv800 [some 0, some 1, some 2, some 5, none] (by decide +kernel) (by kernel_rfl)
  obtain ⟨hc803, hm⟩ := chkE hm
  obtain ⟨o804, ho805, hm⟩ := bndE hm
  refine do_forO (υ := (List (List Int))) PassesOwn.never rfl (ei_range1 z_range (ev_var 1 rfl (Iv.fz (x := (many_here762 : Int)) iv802 1)) hc803) (pg_name (i := 4) sc_l_rows.nd rfl (by first | exact Or.inl rfl | exact Or.inr rfl)) tg_n ho805 (fun (b806 : (List (List Int))) (σ' : L2.St) (t' : S) => ∃ (y_k : Option V), σ' = [some a_law_cell, some a_law_many_here, some v774, some (.ref p795.p), y_k] ∧ Iv K P0 s0 t' [fz a_law_cell (cell761 : Int), fz a_law_many_here (many_here762 : Int), fz v774 (some770 : (List Int)), oll p795 (b806 : (List (List Int))), top]) (fun s847 k848 => by have iv849 := Iv.ex iv802 k848; exact ⟨_, rfl, Iv.sel iv849 [some 0, some 1, some 2, some 3, none] (by decide +kernel) (by kernel_rfl)⟩) (fun s809 k810 x808 b806 b807 σ819 σ820 t817 t818 hx811 hm812 fl813 hR814 k815 hB816 => ?_) (fun s841 k842 σ843 t844 fl845 hR846 => ?_)
  · have hf821 := Fle.trans k810.f fl813
    obtain ⟨y822, rfl, iv823⟩ := hR814
    obtain ⟨v824, r825, rfl⟩ := hB816
    have iv826 := Iv.ex iv823 k815
    have iv827 := Iv.sf iv826 4 (Ex.refl t818) r825 rfl
    have fl828 := Fle.trans (Fle.refl t818.F) (Ex.refl t818).f
    obtain ⟨i829, h_i829, hm812⟩ := bndE hm812
    obtain ⟨row830, h_row830, hm812⟩ := bndE hm812
    obtain ⟨j831, h_j831, hm812⟩ := bndE hm812
    obtain ⟨qq832, hq833⟩ := OwnLL.ref (Iv.oll (xss := (b806 : (List (List Int)))) iv827 3) (List.getElem?_eq_some_iff.mp h_row830).1
    refine do_setItemP (raw_llix (raw_var 3 rfl) (OwnLL.r (Iv.oll (xss := (b806 : (List (List Int)))) iv827 3)) (ev_var 4 rfl (Iv.fz (x := (x808 : Int)) iv827 4)) h_i829 hq833) (OwnLL.row (Iv.oll (xss := (b806 : (List (List Int)))) iv827 3) hq833 h_row830) ev_int (ev_var 4 rfl (Iv.fz (x := (x808 : Int)) iv827 4)) h_j831 (fun s834 m835 o836 => ?_)
    obtain ⟨ll837, q838, hm812⟩ := ltE hm812
    have iv839 := Iv.mll iv827 3 m835 hq833 o836 q838
    have fl840 := Fle.trans (Fle.refl t818.F) m835.f
    obtain rfl := Option.some.inj hm812
    exact do_nil ⟨s834, rfl, fl840, ⟨_, rfl, Iv.sel iv839 [some 0, some 1, some 2, some 3, none] (by decide +kernel) (by kernel_rfl)⟩⟩
  · have hf850 := Fle.trans k842.f fl845
    obtain ⟨y851, rfl, iv852⟩ := hR846
    obtain ⟨closed853, h_closed853, hm⟩ := bndE hm
    obtain rfl := Option.some.inj hm
    refine do_retK (ek_call (ok' := (fun v L' => ∃ (w854 : LL), v = (.ref w854.p) ∧ L' = [oll w854 (closed853 : (List (List Int)))])) (ca_fn (E := fun _ _ _ _ => False) C_l_closed pass00 hr (by decide) (ea_cons (raw_var 3 rfl) ea_nil)) iv852 ro0 [3] (by decide) (by simp) [] (by simp) (fun vs s2 k2 r2 => by obtain ⟨_, _, rfl, rfl, rfl⟩ := r2; exact ⟨[], ⟨(p795), rfl, rfl, rfl⟩, all_nil, (fun v L' z => by obtain ⟨_, e, z⟩ := z; exact z), (fun e L' z => z.elim)⟩) h_closed853) (fun v858 s856 z => ?_)
    obtain ⟨L857, ⟨w854, rfl, rfl⟩, _, iv855⟩ := z
    have iv859 : Iv K P0 s0 s856 [fz a_law_cell (cell761 : Int), fz a_law_many_here (many_here762 : Int), fz v774 (some770 : (List Int)), top, top, oll w854 (closed853 : (List (List Int)))] := Iv.sel iv855 [some 0, some 1, some 2, none, none, some 5] (by decide +kernel) (by kernel_rfl)
    exact hQ _ _ _ ⟨a_law_cell, a_law_many_here, rfl, w854, rfl, rfl⟩ (Iv.sel iv859 [some 5] (by decide +kernel) (by kernel_rfl))
abbrev s_l_cell_at : Stmt := topS 22
abbrev N_l_cell_at : List Str := ["_law_script", "_law_k"]
theorem sc_l_cell_at : FnScope N_l_cell_at ["_law_script", "_law_k"] (defScope s_l_cell_at) := ⟨rfl, rfl, rfl, by decide +kernel, rfl, by decide +kernel, by decide +kernel⟩
noncomputable def m_l_cell_at (script860 : (List Int)) (k863 : Int) : Option Int :=
 (if (decide (k863 < ((script860).length : Int))) = true then
 (bnd (atI script860 k863) fun at872 => (some at872))
 else
 (some (0 : Int)))
noncomputable abbrev a_l_cell_at : (List Int) × Int × Unit → Option Int := fun a => m_l_cell_at a.1 a.2.1
theorem ok_l_cell_at {P : Program} {w : World} {K : PySem.W.Frag} {mg : Str → Option Value} {base : Heap} {f : Addr} {fd : FuncData} (F : FunP K "_law_cell_at" s_l_cell_at f fd) (hmg : mg "_law_cell_at" = some (.ref f)) (z_len : mg "len" = none) : Cal P w K mg base CX0 1 "_law_cell_at" (sp K a_l_cell_at) := by
  refine mk_cal (k := 0) F hmg (F.bindsN fun _ _ _ _ _ _ us hl => match us, hl with | [_, _], _ => rfl) sc_l_cell_at len2 ?_
  rintro cdv A' outer sh0 H0 X0 hr s0 vs ⟨script860, k863, _⟩ r0 Q ⟨v861, _, rfl, r862, v864, _, rfl, r865, rfl⟩ hm hQ
  unfold a_l_cell_at m_l_cell_at at hm
  dsimp only at hm
  have iv866 : Iv K (fun _ => False) s0 s0 [fz v861 (script860 : (List Int)), fz v864 (k863 : Int)] := (Iv.sf (Iv.sf (Iv.tops (K := K) (P0 := (fun _ => False)) 2 s0) 0 (Ex.refl s0) r862 rfl) 1 (Ex.refl s0) r865 rfl)
  refine do_ifR (EvB.t (eb_lt (ev_var 1 rfl (Iv.fz (x := (k863 : Int)) iv866 1)) (ev_len z_len (Ev.r (ev_var 0 rfl (Iv.fz (x := (script860 : (List Int))) iv866 0)))))) (fun hb867 s868 e869 => ?_) (fun hb877 s878 e879 => ?_)
  · have hm870 := iteE1 hm hb867
    have iv871 := Iv.ex iv866 e869
    obtain ⟨at872, h_at872, hm870⟩ := bndE hm870
    obtain rfl := Option.some.inj hm870
    exact do_ret (ev_ix (Ev.r (ev_var 0 rfl (Iv.fz (x := (script860 : (List Int))) iv871 0))) (ev_var 1 rfl (Iv.fz (x := (k863 : Int)) iv871 1)) h_at872) fun v873 s874 e875 r876 => hQ _ _ (Ex.trans (Iv.exx iv871) e875) r876
  · have hm880 := iteE2 hm hb877
    have iv881 := Iv.ex iv866 e879
    obtain rfl := Option.some.inj hm880
    exact do_ret ev_int fun v882 s883 e884 r885 => hQ _ _ (Ex.trans (Iv.exx iv881) e884) r885
abbrev s_l_lines : Stmt := topS 28
abbrev N_l_lines : List Str := ["_law_names_here", "_law_cell", "_law_many_here", "_law_some", "_law_lines_here", "_law_one", "_law_first"]
theorem sc_l_lines : FnScope N_l_lines ["_law_names_here", "_law_cell", "_law_many_here"] (defScope s_l_lines) := ⟨rfl, rfl, rfl, by decide +kernel, rfl, by decide +kernel, by decide +kernel⟩
noncomputable def m_l_lines (names_here886 : (List Str)) (cell889 : Int) (many_here892 : Int) : Option (List (T3 Str Int Int)) :=
 (bnd (atI ([(12 : Int), (40 : Int), (40 : Int), ((10 : Int) ^ ((59 : Int)).toNat)] : List Int) (cell889 % (4 : Int))) fun at898 => (chk (MulOk ((names_here886).length : Int) at898) (bnd (m_l_row (cell889 / (4 : Int)) ((((names_here886).length : Int) * at898) * (6 : Int)) many_here892) fun row900 => (lt (row900 : (List Int)) fun some901 =>
 (lt (([] : List (T3 Str Int Int)) : (List (T3 Str Int Int))) fun lines_here908 =>
 (bnd (foldO (fun (b918 : (List (T3 Str Int Int))) (x920 : Int) =>
 (chk (DivOk ((names_here886).length : Int)) (lt (((x920 / ((names_here886).length : Int)) / (6 : Int)) : Int) fun first943 =>
 (chk (0 < ((names_here886).length : Int)) (bnd (atI names_here886 (x920 % ((names_here886).length : Int))) fun at962 => (chk (DivOk ((names_here886).length : Int)) (chk ((b918).length < sizeLine) (lt ((b918 ++ [(⟨at962, first943, (first943 + ((x920 / ((names_here886).length : Int)) % (6 : Int)))⟩ : (T3 Str Int Int))]) : (List (T3 Str Int Int))) fun lines_here959 =>
 (some lines_here959))))))))) lines_here908 some901) fun o916 =>
 (some o916)))))))
noncomputable abbrev a_l_lines : (List Str) × Int × Int × Unit → Option (List (T3 Str Int Int)) := fun a => m_l_lines a.1 a.2.1 a.2.2.1
theorem ok_l_lines {P : Program} {w : World} {K : PySem.W.Frag} {mg : Str → Option Value} {base : Heap} {f : Addr} {fd : FuncData} (F : FunP K "_law_lines" s_l_lines f fd) (hmg : mg "_law_lines" = some (.ref f)) (C_l_row : Cal P w K mg base CX0 1 "_law_row" (spN K a_l_row)) (z_len : mg "len" = none) : Cal P w K mg base CX0 2 "_law_lines" (spN K a_l_lines) := by
  refine mk_calN (k := 1) F hmg (F.bindsN fun _ _ _ _ _ _ us hl => match us, hl with | [_, _, _], _ => rfl) sc_l_lines len3 ?_
  rintro cdv A' outer sh0 H0 X0 hr s0 vs ⟨names_here886, cell889, many_here892, _⟩ r0 Q ⟨v887, _, rfl, r888, v890, _, rfl, r891, v893, _, rfl, r894, rfl⟩ hm hQ
  unfold a_l_lines m_l_lines at hm
  dsimp only at hm
  have iv895 : Iv K (fun _ => False) s0 s0 [fz v887 (names_here886 : (List Str)), fz v890 (cell889 : Int), fz v893 (many_here892 : Int), top, top, top, top] := (Iv.sf (Iv.sf (Iv.sf (Iv.tops (K := K) (P0 := (fun _ => False)) 7 s0) 0 (Ex.refl s0) r888 rfl) 1 (Ex.refl s0) r891 rfl) 2 (Ex.refl s0) r894 rfl)
  obtain ⟨at898, h_at898, hm⟩ := bndE hm
  obtain ⟨hc899, hm⟩ := chkE hm
  obtain ⟨row900, h_row900, hm⟩ := bndE hm
  refine do_set 3 (EvN.ev (en_call C_l_row hr (by decide) (ea_cons (ev_div (ev_var 1 rfl (Iv.fz (x := (cell889 : Int)) iv895 1)) ev_int ⟨by decide, by decide +kernel⟩) (ea_cons (ev_mul (ev_mul (ev_len z_len (Ev.r (ev_var 0 rfl (Iv.fz (x := (names_here886 : (List Str))) iv895 0)))) (ev_ix (EvN.r (en_list (xs := ([(12 : Int), (40 : Int), (40 : Int), ((10 : Int) ^ ((59 : Int)).toNat)] : List Int)) (ee_cons ev_int (ee_cons ev_int (ee_cons ev_int (ee_cons (ev_pow ev_int ev_int ⟨by decide, by decide, by decide⟩) ee_nil)))) (by simp [sizeLine]))) (ev_mod (ev_var 1 rfl (Iv.fz (x := (cell889 : Int)) iv895 1)) ev_int (by decide)) h_at898) hc899) ev_int (Or.inl (Or.inr ⟨by decide, by decide⟩))) (ea_cons (ev_var 2 rfl (Iv.fz (x := (many_here892 : Int)) iv895 2)) ea_nil))) h_row900)) (fun v905 s903 e904 r906 => ?_) sc_l_lines.nd
  obtain ⟨some901, q902, hm⟩ := ltE hm
  have iv907 := Iv.sf iv895 3 e904 r906 q902
  refine do_setN 4 (en_list (xs := ([] : List (T3 Str Int Int))) ee_nil (by simp [sizeLine])) (fun p912 s910 e911 n913 o914 => ?_) sc_l_lines.nd
  obtain ⟨lines_here908, q909, hm⟩ := ltE hm
  have iv915 := Iv.sl iv907 4 e911 n913 o914 q909
  obtain ⟨o916, ho917, hm⟩ := bndE hm
  refine do_forO (υ := (List (T3 Str Int Int))) PassesOwn.never rfl (ei_list (ev_var 3 rfl (Iv.fz (x := (some901 : (List Int))) iv915 3))) (pg_name (i := 5) sc_l_lines.nd rfl (by first | exact Or.inl rfl | exact Or.inr rfl)) tg_n ho917 (fun (b918 : (List (T3 Str Int Int))) (σ' : L2.St) (t' : S) => ∃ (y_first : Option V) (y_one : Option V), σ' = [some v887, some v890, some v893, some v905, some (.ref p912), y_one, y_first] ∧ Iv K (fun _ => False) s0 t' [fz v887 (names_here886 : (List Str)), fz v890 (cell889 : Int), fz v893 (many_here892 : Int), fz v905 (some901 : (List Int)), ol p912 (b918 : (List (T3 Str Int Int))), top, top]) (fun s973 k974 => by have iv975 := Iv.ex iv915 k974; exact ⟨_, _, rfl, Iv.sel iv975 [some 0, some 1, some 2, some 3, some 4, none, none] (by decide +kernel) (by kernel_rfl)⟩) (fun s921 k922 x920 b918 b919 σ931 σ932 t929 t930 hx923 hm924 fl925 hR926 k927 hB928 => ?_) (fun s967 k968 σ969 t970 fl971 hR972 => ?_)
  · have hf933 := Fle.trans k922.f fl925
    obtain ⟨y934, y935, rfl, iv936⟩ := hR926
    obtain ⟨v937, r938, rfl⟩ := hB928
    have iv939 := Iv.ex iv936 k927
    have iv940 := Iv.sf iv939 5 (Ex.refl t930) r938 rfl
    have fl941 := Fle.trans (Fle.refl t930.F) (Ex.refl t930).f
    obtain ⟨hc942, hm924⟩ := chkE hm924
    refine do_set 6 (ev_div (ev_div (ev_var 5 rfl (Iv.fz (x := (x920 : Int)) iv940 5)) (ev_len z_len (Ev.r (ev_var 0 rfl (Iv.fz (x := (names_here886 : (List Str))) iv940 0)))) hc942) ev_int ⟨by decide, by decide +kernel⟩) (fun v947 s945 e946 r948 => ?_) sc_l_lines.nd
    obtain ⟨first943, q944, hm924⟩ := ltE hm924
    have iv949 := Iv.sf iv940 6 e946 r948 q944
    have fl950 := Fle.trans (Fle.refl t930.F) e946.f
    obtain ⟨hc961, hm924⟩ := chkE hm924
    obtain ⟨at962, h_at962, hm924⟩ := bndE hm924
    obtain ⟨hc963, hm924⟩ := chkE hm924
    obtain ⟨hc964, hm924⟩ := chkE hm924
    refine do_append 4 rfl (Iv.ol (xs := (b918 : (List (T3 Str Int Int)))) iv949 4) (ev_t3 (ea_cons (ev_ix (Ev.r (ev_var 0 rfl (Iv.fz (x := (names_here886 : (List Str))) iv949 0))) (ev_mod (ev_var 5 rfl (Iv.fz (x := (x920 : Int)) iv949 5)) (ev_len z_len (Ev.r (ev_var 0 rfl (Iv.fz (x := (names_here886 : (List Str))) iv949 0)))) hc961) h_at962) (ea_cons (ev_var 6 rfl (Iv.fz (x := (first943 : Int)) iv949 6)) (ea_cons (ev_add (ev_var 6 rfl (Iv.fz (x := (first943 : Int)) iv949 6)) (ev_mod (ev_div (ev_var 5 rfl (Iv.fz (x := (x920 : Int)) iv949 5)) (ev_len z_len (Ev.r (ev_var 0 rfl (Iv.fz (x := (names_here886 : (List Str))) iv949 0)))) hc963) ev_int (by decide))) ea_nil)))) hc964 (fun s956 m957 o958 => ?_)
    obtain ⟨lines_here959, q960, hm924⟩ := ltE hm924
    have iv965 := Iv.ml iv949 4 m957 o958 q960
    have fl966 := Fle.trans fl950 m957.f
    obtain rfl := Option.some.inj hm924
    exact do_nil ⟨s956, rfl, fl966, ⟨_, _, rfl, Iv.sel iv965 [some 0, some 1, some 2, some 3, some 4, none, none] (by decide +kernel) (by kernel_rfl)⟩⟩
  · have hf976 := Fle.trans k968.f fl971
    obtain ⟨y977, y978, rfl, iv979⟩ := hR972
    obtain rfl := Option.some.inj hm
    exact do_retO 4 rfl (hQ _ _ (Iv.exx iv979) (Iv.fresh iv979 4) (Iv.ol (xs := (o916 : (List (T3 Str Int Int)))) iv979 4))
abbrev s_is_square : Stmt := topS 18
abbrev N_is_square : List Str := ["names", "rows", "row", "k"]
theorem sc_is_square : FnScope N_is_square ["names", "rows"] (defScope s_is_square) := ⟨rfl, rfl, rfl, by decide +kernel, rfl, by decide +kernel, by decide +kernel⟩
noncomputable def m_is_square (names980 : (List Str)) (rows983 : (List (List Int))) : Option Bool :=
 (if (!decide (((rows983).length : Int) = ((names980).length : Int))) = true then
 (some false)
 else
 (bnd (foldF (ρ := Bool) (fun (b1003 : Unit) (x1005 : (List Int)) =>
 (bnd (orO (!decide (((x1005).length : Int) = ((names980).length : Int))) (bnd (minL x1005) fun min1029 => (some (decide (min1029 < (0 : Int)))))) fun c1030 => (if c1030 = true then
 (some (Fl.rt false))
 else
 (some (Fl.nx ()))))) () rows983) fun o1001 =>
 (Fl.go o1001 (fun b1057 => (chk (RgB ((names980).length : Int)) (bnd (mapO (fun (x1080 : Int) => (bnd (atI rows983 x1080) fun at1092 => (bnd (atI at1092 x1080) fun at1093 => (some (decide (at1093 = (0 : Int))))))) (rng 0 ((names980).length : Int))) fun ys1094 => (chk ((ys1094).length ≤ sizeLine) (some ((ys1094).all id)))))) (fun rr => (some rr)))))
noncomputable abbrev a_is_square : (List Str) × (List (List Int)) × Unit → Option Bool := fun a => m_is_square a.1 a.2.1
theorem ok_is_square {P : Program} {w : World} {K : PySem.W.Frag} {mg : Str → Option Value} {base : Heap} {f : Addr} {fd : FuncData} (F : FunP K "is_square" s_is_square f fd) (hmg : mg "is_square" = some (.ref f)) (z_len : mg "len" = none) (z_min : mg "min" = none) (z_all : mg "all" = none) (z_range : mg "range" = none) : Cal P w K mg base CX0 1 "is_square" (sp K a_is_square) := by
  refine mk_cal (k := 0) F hmg (F.bindsN fun _ _ _ _ _ _ us hl => match us, hl with | [_, _], _ => rfl) sc_is_square len2 ?_
  rintro cdv A' outer sh0 H0 X0 hr s0 vs ⟨names980, rows983, _⟩ r0 Q ⟨v981, _, rfl, r982, v984, _, rfl, r985, rfl⟩ hm hQ
  unfold a_is_square m_is_square at hm
  dsimp only at hm
  have iv986 : Iv K (fun _ => False) s0 s0 [fz v981 (names980 : (List Str)), fz v984 (rows983 : (List (List Int))), top, top] := (Iv.sf (Iv.sf (Iv.tops (K := K) (P0 := (fun _ => False)) 4 s0) 0 (Ex.refl s0) r982 rfl) 1 (Ex.refl s0) r985 rfl)
  refine do_ifR (EvB.t (eb_ne (ev_len z_len (Ev.r (ev_var 1 rfl (Iv.fz (x := (rows983 : (List (List Int)))) iv986 1)))) (ev_len z_len (Ev.r (ev_var 0 rfl (Iv.fz (x := (names980 : (List Str))) iv986 0)))))) (fun hb987 s988 e989 => ?_) (fun hb996 s997 e998 => ?_)
  · have hm990 := iteE1 hm hb987
    have iv991 := Iv.ex iv986 e989
    obtain rfl := Option.some.inj hm990
    exact do_ret ev_bl fun v992 s993 e994 r995 => hQ _ _ (Ex.trans (Iv.exx iv991) e994) r995
  · have hm999 := iteE2 hm hb996
    have iv1000 := Iv.ex iv986 e998
    obtain ⟨o1001, ho1002, hm999⟩ := bndE hm999
    refine do_forF (ρ := Bool) (υ := Unit) PassesOwn.never rfl (ei_list (ev_var 1 rfl (Iv.fz (x := (rows983 : (List (List Int)))) iv1000 1))) (pg_name (i := 2) sc_is_square.nd rfl (by first | exact Or.inl rfl | exact Or.inr rfl)) tg_n ho1002 (fun (b1003 : Unit) (σ' : L2.St) (t' : S) => ∃ (y_row : Option V), σ' = [some v981, some v984, y_row, none] ∧ Iv K (fun _ => False) s0 t' [fz v981 (names980 : (List Str)), fz v984 (rows983 : (List (List Int))), top, top]) (fun s1054 k1055 => by have iv1056 := Iv.ex iv1000 k1055; exact ⟨_, rfl, Iv.sel iv1056 [some 0, some 1, none, none] (by decide +kernel) (by kernel_rfl)⟩) (fun s1006 k1007 x1005 b1003 q1026 σ1016 σ1017 t1014 t1015 hx1008 hm1009 hq1027 fl1010 hR1011 k1012 hB1013 => ?_) (fun s1048 k1049 b1057 σ1050 t1051 ho1058 fl1052 hR1053 => ?_)
    · have hf1018 := Fle.trans k1007.f fl1010
      obtain ⟨y1019, rfl, iv1020⟩ := hR1011
      obtain ⟨v1021, r1022, rfl⟩ := hB1013
      have iv1023 := Iv.ex iv1020 k1012
      have iv1024 := Iv.sf iv1023 2 (Ex.refl t1015) r1022 rfl
      have fl1025 := Fle.trans (Fle.refl t1015.F) (Ex.refl t1015).f
      obtain ⟨c1030, h_c1030, hm1009⟩ := bndE hm1009
      refine do_ifR (EvW.tt (EvC.w (by skip; exact ec_orO (eb_ne (ev_len z_len (Ev.r (ev_var 2 rfl (Iv.fz (x := (x1005 : (List Int))) iv1024 2)))) (ev_len z_len (Ev.r (ev_var 0 rfl (Iv.fz (x := (names980 : (List Str))) iv1024 0))))) (fun hb1031 => (fun hz => (by obtain ⟨min1029, h_min1029, hz⟩ := bndE hz; obtain rfl := Option.some.inj hz; exact (ec_or1 (eb_lt (ev_min z_min (Ev.r (ev_var 2 rfl (Iv.fz (x := (x1005 : (List Int))) iv1024 2))) h_min1029) ev_int)))) ((orE h_c1030).1 hb1031)) (orE h_c1030).2))) (fun hb1032 s1033 e1034 => ?_) (fun hb1042 s1043 e1044 => ?_)
      · have hm1035 := iteE1 hm1009 hb1032
        have iv1036 := Iv.ex iv1024 e1034
        have fl1037 := Fle.trans (Fle.refl t1015.F) e1034.f
        obtain rfl := Option.some.inj hm1035
        obtain rfl := hq1027 _ rfl
        obtain rfl := Option.some.inj hm999
        exact do_ret ev_bl fun v1038 s1039 e1040 r1041 => hQ _ _ (Ex.trans (Iv.exx iv1036) e1040) r1041
      · have hm1045 := iteE2 hm1009 hb1042
        have iv1046 := Iv.ex iv1024 e1044
        have fl1047 := Fle.trans (Fle.refl t1015.F) e1044.f
        obtain rfl := Option.some.inj hm1045
        exact do_nil ⟨s1043, rfl, _, rfl, fl1047, ⟨_, rfl, Iv.sel iv1046 [some 0, some 1, none, none] (by decide +kernel) (by kernel_rfl)⟩⟩
    · subst ho1058
      replace hm999 := goN hm999
      have hf1059 := Fle.trans k1049.f fl1052
      obtain ⟨y1060, rfl, iv1061⟩ := hR1053
      obtain ⟨hc1079, hm999⟩ := chkE hm999
      obtain ⟨ys1094, h_ys1094, hm999⟩ := bndE hm999
      obtain ⟨hc1095, hm999⟩ := chkE hm999
      obtain rfl := Option.some.inj hm999
      exact do_ret (ev_all z_all (EvN.r (EvL.n (en_comp0 (own := [("k", 3)]) (j := 3) (f := fun (x1080 : Int) => (bnd (atI rows983 x1080) fun at1092 => (bnd (atI at1092 x1080) fun at1093 => (some (decide (at1093 = (0 : Int))))))) rfl sc_is_square.nd (ei_range1 z_range (ev_len z_len (Ev.r (ev_var 0 rfl (Iv.fz (x := (names980 : (List Str))) iv1061 0)))) hc1079) (blkOk_by (own := [("k", 3)]) (N := N_is_square) (sc := defScope s_is_square) (by decide +kernel)) rfl (by decide) (fun _ _ _ _ _ => pg_name (i := 3) sc_is_square.nd rfl (by first | exact Or.inl rfl | exact Or.inr rfl)) h_ys1094 hc1095 (fun x1080 y1081 v1088 s1082 hx1084 e1083 r1089 hf1085 _ _ _ _ _ => by have z1087 := Enc.mono e1083.f (Iv.fz (v := v984) (x := (rows983 : (List (List Int)))) iv1061 1); obtain ⟨at1092, h_at1092, hf1085⟩ := bndE hf1085; obtain ⟨at1093, h_at1093, hf1085⟩ := bndE hf1085; obtain rfl := Option.some.inj hf1085; exact (EvB.v (eb_eq (ev_ix (Ev.r (ev_ix (Ev.r (ev_var 1 rfl z1087)) (ev_var 3 rfl r1089) h_at1092)) (ev_var 3 rfl r1089) h_at1093) ev_int))))))) fun v1096 s1097 e1098 r1099 => hQ _ _ (Ex.trans (Iv.exx iv1061) e1098) r1099
abbrev s_is_straight : Stmt := topS 19
abbrev N_is_straight : List Str := ["rows", "one", "middle", "other"]
theorem sc_is_straight : FnScope N_is_straight ["rows"] (defScope s_is_straight) := ⟨rfl, rfl, rfl, by decide +kernel, rfl, by decide +kernel, by decide +kernel⟩
noncomputable def m_is_straight (rows1100 : (List (List Int))) : Option Bool :=
 (bnd (foldF (ρ := Bool) (fun (b1106 : Unit) (x1108 : (List Int)) =>
 (chk (RgB ((rows1100).length : Int)) (bnd (foldF (ρ := Bool) (fun (b1136 : Unit) (x1138 : Int) =>
 (chk (RgB ((rows1100).length : Int)) (bnd (foldF (ρ := Bool) (fun (b1165 : Unit) (x1167 : Int) =>
 (bnd (atI x1108 x1167) fun at1190 => (bnd (atI x1108 x1138) fun at1191 => (bnd (atI rows1100 x1138) fun at1192 => (bnd (atI at1192 x1167) fun at1193 => (if (decide ((at1191 + at1193) < at1190)) = true then
 (some (Fl.rt false))
 else
 (some (Fl.nx ())))))))) () (rng 0 ((rows1100).length : Int))) fun o1163 =>
 (Fl.go o1163 (fun b1220 => (some (Fl.nx ()))) (fun rr => (some (Fl.rt rr))))))) () (rng 0 ((rows1100).length : Int))) fun o1134 =>
 (Fl.go o1134 (fun b1236 => (some (Fl.nx ()))) (fun rr => (some (Fl.rt rr))))))) () rows1100) fun o1104 =>
 (Fl.go o1104 (fun b1252 => (some true)) (fun rr => (some rr))))
noncomputable abbrev a_is_straight : (List (List Int)) × Unit → Option Bool := fun a => m_is_straight a.1
theorem ok_is_straight {P : Program} {w : World} {K : PySem.W.Frag} {mg : Str → Option Value} {base : Heap} {f : Addr} {fd : FuncData} (F : FunP K "is_straight" s_is_straight f fd) (hmg : mg "is_straight" = some (.ref f)) (z_range : mg "range" = none) (z_len : mg "len" = none) : Cal P w K mg base CX0 1 "is_straight" (sp K a_is_straight) := by
  refine mk_cal (k := 0) F hmg (F.bindsN fun _ _ _ _ _ _ us hl => match us, hl with | [_], _ => rfl) sc_is_straight len1 ?_
  rintro cdv A' outer sh0 H0 X0 hr s0 vs ⟨rows1100, _⟩ r0 Q ⟨v1101, _, rfl, r1102, rfl⟩ hm hQ
  unfold a_is_straight m_is_straight at hm
  dsimp only at hm
  have iv1103 : Iv K (fun _ => False) s0 s0 [fz v1101 (rows1100 : (List (List Int))), top, top, top] := (Iv.sf (Iv.tops (K := K) (P0 := (fun _ => False)) 4 s0) 0 (Ex.refl s0) r1102 rfl)
  obtain ⟨o1104, ho1105, hm⟩ := bndE hm
  refine do_forF (ρ := Bool) (υ := Unit) PassesOwn.never rfl (ei_list (ev_var 0 rfl (Iv.fz (x := (rows1100 : (List (List Int)))) iv1103 0))) (pg_name (i := 1) sc_is_straight.nd rfl (by first | exact Or.inl rfl | exact Or.inr rfl)) tg_n ho1105 (fun (b1106 : Unit) (σ' : L2.St) (t' : S) => ∃ (y_middle : Option V) (y_other : Option V) (y_one : Option V), σ' = [some v1101, y_one, y_middle, y_other] ∧ Iv K (fun _ => False) s0 t' [fz v1101 (rows1100 : (List (List Int))), top, top, top]) (fun s1249 k1250 => by have iv1251 := Iv.ex iv1103 k1250; exact ⟨_, _, _, rfl, Iv.sel iv1251 [some 0, none, none, none] (by decide +kernel) (by kernel_rfl)⟩) (fun s1109 k1110 x1108 b1106 q1131 σ1119 σ1120 t1117 t1118 hx1111 hm1112 hq1132 fl1113 hR1114 k1115 hB1116 => ?_) (fun s1243 k1244 b1252 σ1245 t1246 ho1253 fl1247 hR1248 => ?_)
  · have hf1121 := Fle.trans k1110.f fl1113
    obtain ⟨y1122, y1123, y1124, rfl, iv1125⟩ := hR1114
    obtain ⟨v1126, r1127, rfl⟩ := hB1116
    have iv1128 := Iv.ex iv1125 k1115
    have iv1129 := Iv.sf iv1128 1 (Ex.refl t1118) r1127 rfl
    have fl1130 := Fle.trans (Fle.refl t1118.F) (Ex.refl t1118).f
    obtain ⟨hc1133, hm1112⟩ := chkE hm1112
    obtain ⟨o1134, ho1135, hm1112⟩ := bndE hm1112
    refine do_forF (ρ := Bool) (υ := Unit) PassesOwn.never rfl (ei_range1 z_range (ev_len z_len (Ev.r (ev_var 0 rfl (Iv.fz (x := (rows1100 : (List (List Int)))) iv1129 0)))) hc1133) (pg_name (i := 2) sc_is_straight.nd rfl (by first | exact Or.inl rfl | exact Or.inr rfl)) tg_n ho1135 (fun (b1136 : Unit) (σ' : L2.St) (t' : S) => ∃ (y_other : Option V) (y_middle : Option V), σ' = [some v1101, some v1126, y_middle, y_other] ∧ Iv K (fun _ => False) s0 t' [fz v1101 (rows1100 : (List (List Int))), fz v1126 (x1108 : (List Int)), top, top]) (fun s1232 k1233 => by have iv1234 := Iv.ex iv1129 k1233; have fl1235 := Fle.trans (Fle.refl t1118.F) k1233.f; exact ⟨_, _, rfl, Iv.sel iv1234 [some 0, some 1, none, none] (by decide +kernel) (by kernel_rfl)⟩) (fun s1139 k1140 x1138 b1136 q1160 σ1149 σ1150 t1147 t1148 hx1141 hm1142 hq1161 fl1143 hR1144 k1145 hB1146 => ?_) (fun s1226 k1227 b1236 σ1228 t1229 ho1237 fl1230 hR1231 => ?_)
    · have hf1151 := Fle.trans k1140.f fl1143
      obtain ⟨y1152, y1153, rfl, iv1154⟩ := hR1144
      obtain ⟨v1155, r1156, rfl⟩ := hB1146
      have iv1157 := Iv.ex iv1154 k1145
      have iv1158 := Iv.sf iv1157 2 (Ex.refl t1148) r1156 rfl
      have fl1159 := Fle.trans (Fle.refl t1148.F) (Ex.refl t1148).f
      obtain ⟨hc1162, hm1142⟩ := chkE hm1142
      obtain ⟨o1163, ho1164, hm1142⟩ := bndE hm1142
      refine do_forF (ρ := Bool) (υ := Unit) PassesOwn.never rfl (ei_range1 z_range (ev_len z_len (Ev.r (ev_var 0 rfl (Iv.fz (x := (rows1100 : (List (List Int)))) iv1158 0)))) hc1162) (pg_name (i := 3) sc_is_straight.nd rfl (by first | exact Or.inl rfl | exact Or.inr rfl)) tg_n ho1164 (fun (b1165 : Unit) (σ' : L2.St) (t' : S) => ∃ (y_other : Option V), σ' = [some v1101, some v1126, some v1155, y_other] ∧ Iv K (fun _ => False) s0 t' [fz v1101 (rows1100 : (List (List Int))), fz v1126 (x1108 : (List Int)), fz v1155 (x1138 : Int), top]) (fun s1216 k1217 => by have iv1218 := Iv.ex iv1158 k1217; have fl1219 := Fle.trans (Fle.refl t1148.F) k1217.f; exact ⟨_, rfl, Iv.sel iv1218 [some 0, some 1, some 2, none] (by decide +kernel) (by kernel_rfl)⟩) (fun s1168 k1169 x1167 b1165 q1188 σ1178 σ1179 t1176 t1177 hx1170 hm1171 hq1189 fl1172 hR1173 k1174 hB1175 => ?_) (fun s1210 k1211 b1220 σ1212 t1213 ho1221 fl1214 hR1215 => ?_)
      · have hf1180 := Fle.trans k1169.f fl1172
        obtain ⟨y1181, rfl, iv1182⟩ := hR1173
        obtain ⟨v1183, r1184, rfl⟩ := hB1175
        have iv1185 := Iv.ex iv1182 k1174
        have iv1186 := Iv.sf iv1185 3 (Ex.refl t1177) r1184 rfl
        have fl1187 := Fle.trans (Fle.refl t1177.F) (Ex.refl t1177).f
        obtain ⟨at1190, h_at1190, hm1171⟩ := bndE hm1171
        obtain ⟨at1191, h_at1191, hm1171⟩ := bndE hm1171
        obtain ⟨at1192, h_at1192, hm1171⟩ := bndE hm1171
        obtain ⟨at1193, h_at1193, hm1171⟩ := bndE hm1171
        refine do_ifR (EvB.t (eb_gt (ev_ix (Ev.r (ev_var 1 rfl (Iv.fz (x := (x1108 : (List Int))) iv1186 1))) (ev_var 3 rfl (Iv.fz (x := (x1167 : Int)) iv1186 3)) h_at1190) (ev_add (ev_ix (Ev.r (ev_var 1 rfl (Iv.fz (x := (x1108 : (List Int))) iv1186 1))) (ev_var 2 rfl (Iv.fz (x := (x1138 : Int)) iv1186 2)) h_at1191) (ev_ix (Ev.r (ev_ix (Ev.r (ev_var 0 rfl (Iv.fz (x := (rows1100 : (List (List Int)))) iv1186 0))) (ev_var 2 rfl (Iv.fz (x := (x1138 : Int)) iv1186 2)) h_at1192)) (ev_var 3 rfl (Iv.fz (x := (x1167 : Int)) iv1186 3)) h_at1193)))) (fun hb1194 s1195 e1196 => ?_) (fun hb1204 s1205 e1206 => ?_)
        · have hm1197 := iteE1 hm1171 hb1194
          have iv1198 := Iv.ex iv1186 e1196
          have fl1199 := Fle.trans (Fle.refl t1177.F) e1196.f
          obtain rfl := Option.some.inj hm1197
          obtain rfl := hq1189 _ rfl
          obtain rfl := Option.some.inj hm1142
          obtain rfl := hq1161 _ rfl
          obtain rfl := Option.some.inj hm1112
          obtain rfl := hq1132 _ rfl
          obtain rfl := Option.some.inj hm
          exact do_ret ev_bl fun v1200 s1201 e1202 r1203 => hQ _ _ (Ex.trans (Iv.exx iv1198) e1202) r1203
        · have hm1207 := iteE2 hm1171 hb1204
          have iv1208 := Iv.ex iv1186 e1206
          have fl1209 := Fle.trans (Fle.refl t1177.F) e1206.f
          obtain rfl := Option.some.inj hm1207
          exact do_nil ⟨s1205, rfl, _, rfl, fl1209, ⟨_, rfl, Iv.sel iv1208 [some 0, some 1, some 2, none] (by decide +kernel) (by kernel_rfl)⟩⟩
      · subst ho1221
        replace hm1142 := goN hm1142
        have hf1222 := Fle.trans k1211.f fl1214
        obtain ⟨y1223, rfl, iv1224⟩ := hR1215
        have fl1225 := Fle.trans (Fle.refl t1148.F) hf1222
        obtain rfl := Option.some.inj hm1142
        exact do_nil ⟨t1213, rfl, _, rfl, fl1225, ⟨_, _, rfl, Iv.sel iv1224 [some 0, some 1, none, none] (by decide +kernel) (by kernel_rfl)⟩⟩
    · subst ho1237
      replace hm1112 := goN hm1112
      have hf1238 := Fle.trans k1227.f fl1230
      obtain ⟨y1239, y1240, rfl, iv1241⟩ := hR1231
      have fl1242 := Fle.trans (Fle.refl t1118.F) hf1238
      obtain rfl := Option.some.inj hm1112
      exact do_nil ⟨t1229, rfl, _, rfl, fl1242, ⟨_, _, _, rfl, Iv.sel iv1241 [some 0, none, none, none] (by decide +kernel) (by kernel_rfl)⟩⟩
  · subst ho1253
    replace hm := goN hm
    have hf1254 := Fle.trans k1244.f fl1247
    obtain ⟨y1255, y1256, y1257, rfl, iv1258⟩ := hR1248
    obtain rfl := Option.some.inj hm
    exact do_ret ev_bl fun v1259 s1260 e1261 r1262 => hQ _ _ (Ex.trans (Iv.exx iv1258) e1261) r1262
abbrev s_is_made_of : Stmt := topS 15
abbrev N_is_made_of : List Str := ["text", "signs", "most", "sign"]
theorem sc_is_made_of : FnScope N_is_made_of ["text", "signs", "most"] (defScope s_is_made_of) := ⟨rfl, rfl, rfl, by decide +kernel, rfl, by decide +kernel, by decide +kernel⟩
noncomputable def m_is_made_of (text1263 : Str) (signs1266 : Str) (most1269 : Int) : Option Bool :=
 (chk ((text1263).length ≤ sizeLine) (if ((decide (((text1263).length : Int) < (1 : Int))) || (decide (most1269 < ((text1263).length : Int)))) = true then
 (some false)
 else
 (bnd (foldF (ρ := Bool) (fun (b1293 : Unit) (x1295 : Str) =>
 (if (!inS x1295 signs1266) = true then
 (some (Fl.rt false))
 else
 (some (Fl.nx ())))) () (chars text1263)) fun o1291 =>
 (Fl.go o1291 (fun b1343 => (some true)) (fun rr => (some rr))))))
noncomputable abbrev a_is_made_of : Str × Str × Int × Unit → Option Bool := fun a => m_is_made_of a.1 a.2.1 a.2.2.1
theorem ok_is_made_of {P : Program} {w : World} {K : PySem.W.Frag} {mg : Str → Option Value} {base : Heap} {f : Addr} {fd : FuncData} (F : FunP K "is_made_of" s_is_made_of f fd) (hmg : mg "is_made_of" = some (.ref f)) (z_len : mg "len" = none) : Cal P w K mg base CX0 1 "is_made_of" (sp K a_is_made_of) := by
  refine mk_cal (k := 0) F hmg (F.bindsN fun _ _ _ _ _ _ us hl => match us, hl with | [_, _, _], _ => rfl) sc_is_made_of len3 ?_
  rintro cdv A' outer sh0 H0 X0 hr s0 vs ⟨text1263, signs1266, most1269, _⟩ r0 Q ⟨v1264, _, rfl, r1265, v1267, _, rfl, r1268, v1270, _, rfl, r1271, rfl⟩ hm hQ
  unfold a_is_made_of m_is_made_of at hm
  dsimp only at hm
  have iv1272 : Iv K (fun _ => False) s0 s0 [fz v1264 (text1263 : Str), fz v1267 (signs1266 : Str), fz v1270 (most1269 : Int), top] := (Iv.sf (Iv.sf (Iv.sf (Iv.tops (K := K) (P0 := (fun _ => False)) 4 s0) 0 (Ex.refl s0) r1265 rfl) 1 (Ex.refl s0) r1268 rfl) 2 (Ex.refl s0) r1271 rfl)
  obtain ⟨hc1275, hm⟩ := chkE hm
  refine do_ifR (EvW.tt (EvC.w (ec_or (eb_lt (ev_lenS z_len hc1275 (ev_var 0 rfl (Iv.fz (x := (text1263 : Str)) iv1272 0))) ev_int) fun _ => (ec_or1 (eb_gt (ev_lenS z_len hc1275 (ev_var 0 rfl (Iv.fz (x := (text1263 : Str)) iv1272 0))) (ev_var 2 rfl (Iv.fz (x := (most1269 : Int)) iv1272 2))))))) (fun hb1277 s1278 e1279 => ?_) (fun hb1286 s1287 e1288 => ?_)
  · have hm1280 := iteE1 hm hb1277
    have iv1281 := Iv.ex iv1272 e1279
    obtain rfl := Option.some.inj hm1280
    exact do_ret ev_bl fun v1282 s1283 e1284 r1285 => hQ _ _ (Ex.trans (Iv.exx iv1281) e1284) r1285
  · have hm1289 := iteE2 hm hb1286
    have iv1290 := Iv.ex iv1272 e1288
    obtain ⟨o1291, ho1292, hm1289⟩ := bndE hm1289
    refine do_forF (ρ := Bool) (υ := Unit) PassesOwn.never rfl (ei_str (ev_var 0 rfl (Iv.fz (x := (text1263 : Str)) iv1290 0))) (pg_name (i := 3) sc_is_made_of.nd rfl (by first | exact Or.inl rfl | exact Or.inr rfl)) tg_n ho1292 (fun (b1293 : Unit) (σ' : L2.St) (t' : S) => ∃ (y_sign : Option V), σ' = [some v1264, some v1267, some v1270, y_sign] ∧ Iv K (fun _ => False) s0 t' [fz v1264 (text1263 : Str), fz v1267 (signs1266 : Str), fz v1270 (most1269 : Int), top]) (fun s1340 k1341 => by have iv1342 := Iv.ex iv1290 k1341; exact ⟨_, rfl, Iv.sel iv1342 [some 0, some 1, some 2, none] (by decide +kernel) (by kernel_rfl)⟩) (fun s1296 k1297 x1295 b1293 q1316 σ1306 σ1307 t1304 t1305 hx1298 hm1299 hq1317 fl1300 hR1301 k1302 hB1303 => ?_) (fun s1334 k1335 b1343 σ1336 t1337 ho1344 fl1338 hR1339 => ?_)
    · have hf1308 := Fle.trans k1297.f fl1300
      obtain ⟨y1309, rfl, iv1310⟩ := hR1301
      obtain ⟨v1311, r1312, rfl⟩ := hB1303
      have iv1313 := Iv.ex iv1310 k1302
      have iv1314 := Iv.sf iv1313 3 (Ex.refl t1305) r1312 rfl
      have fl1315 := Fle.trans (Fle.refl t1305.F) (Ex.refl t1305).f
      refine do_ifR (EvB.t (eb_notInS (ev_var 3 rfl (Iv.fz (x := (x1295 : Str)) iv1314 3)) (ev_var 1 rfl (Iv.fz (x := (signs1266 : Str)) iv1314 1)))) (fun hb1318 s1319 e1320 => ?_) (fun hb1328 s1329 e1330 => ?_)
      · have hm1321 := iteE1 hm1299 hb1318
        have iv1322 := Iv.ex iv1314 e1320
        have fl1323 := Fle.trans (Fle.refl t1305.F) e1320.f
        obtain rfl := Option.some.inj hm1321
        obtain rfl := hq1317 _ rfl
        obtain rfl := Option.some.inj hm1289
        exact do_ret ev_bl fun v1324 s1325 e1326 r1327 => hQ _ _ (Ex.trans (Iv.exx iv1322) e1326) r1327
      · have hm1331 := iteE2 hm1299 hb1328
        have iv1332 := Iv.ex iv1314 e1330
        have fl1333 := Fle.trans (Fle.refl t1305.F) e1330.f
        obtain rfl := Option.some.inj hm1331
        exact do_nil ⟨s1329, rfl, _, rfl, fl1333, ⟨_, rfl, Iv.sel iv1332 [some 0, some 1, some 2, none] (by decide +kernel) (by kernel_rfl)⟩⟩
    · subst ho1344
      replace hm1289 := goN hm1289
      have hf1345 := Fle.trans k1335.f fl1338
      obtain ⟨y1346, rfl, iv1347⟩ := hR1339
      obtain rfl := Option.some.inj hm1289
      exact do_ret ev_bl fun v1348 s1349 e1350 r1351 => hQ _ _ (Ex.trans (Iv.exx iv1347) e1350) r1351
abbrev s_is_name : Stmt := topS 16
abbrev N_is_name : List Str := ["text"]
theorem sc_is_name : FnScope N_is_name ["text"] (defScope s_is_name) := ⟨rfl, rfl, rfl, by decide +kernel, rfl, by decide +kernel, by decide +kernel⟩
noncomputable def m_is_name (text1352 : Str) : Option Bool :=
 (bnd (m_is_made_of text1352 c_LETTERS (10 : Int)) fun is_made_of1357 => (some is_made_of1357))
noncomputable abbrev a_is_name : Str × Unit → Option Bool := fun a => m_is_name a.1
theorem ok_is_name {P : Program} {w : World} {K : PySem.W.Frag} {mg : Str → Option Value} {base : Heap} {f : Addr} {fd : FuncData} (F : FunP K "is_name" s_is_name f fd) (hmg : mg "is_name" = some (.ref f)) (C_is_made_of : Cal P w K mg base CX0 1 "is_made_of" (sp K a_is_made_of)) (G_LETTERS : ∃ v u, mg "LETTERS" = some u ∧ RelV v u ∧ ∀ F, rep K F v c_LETTERS) : Cal P w K mg base CX0 2 "is_name" (sp K a_is_name) := by
  refine mk_cal (k := 1) F hmg (F.bindsN fun _ _ _ _ _ _ us hl => match us, hl with | [_], _ => rfl) sc_is_name len1 ?_
  rintro cdv A' outer sh0 H0 X0 hr s0 vs ⟨text1352, _⟩ r0 Q ⟨v1353, _, rfl, r1354, rfl⟩ hm hQ
  unfold a_is_name m_is_name at hm
  dsimp only at hm
  have iv1355 : Iv K (fun _ => False) s0 s0 [fz v1353 (text1352 : Str)] := (Iv.sf (Iv.tops (K := K) (P0 := (fun _ => False)) 1 s0) 0 (Ex.refl s0) r1354 rfl)
  obtain ⟨is_made_of1357, h_is_made_of1357, hm⟩ := bndE hm
  obtain rfl := Option.some.inj hm
  exact do_ret (ev_call C_is_made_of hr (by decide) (ea_cons (ev_var 0 rfl (Iv.fz (x := (text1352 : Str)) iv1355 0)) (ea_cons (ev_glob G_LETTERS) (ea_cons ev_int ea_nil))) h_is_made_of1357) fun v1358 s1359 e1360 r1361 => hQ _ _ (Ex.trans (Iv.exx iv1355) e1360) r1361
abbrev s_Times_init : Stmt := clsS 20 0
def pre_Times_init : List V → (List Str) × (List (List Int)) × Unit → List OA → List OA → Prop := fun vs x L R => ∃ (aself : Addr) (anames : V) (arows : V), vs = [(.ref aself), anames, arows] ∧ L = [cell aself "Times" [], fz anames (x.1 : (List Str)), fz arows (x.2.1 : (List (List Int)))] ∧ R = []
def ok_Times_init : List V → (List Str) × (List (List Int)) × Unit → (R_Times) → V → List OA → Prop := fun vs x r v L' => ∃ (aself : Addr) (anames : V) (arows : V), vs = [(.ref aself), anames, arows] ∧ (∃ (bself_my_names : V) (bself_my_rows : V), v = .non ∧ L' = [cell aself "Times" [("my_names", bself_my_names), ("my_rows", bself_my_rows)], fz bself_my_names (r.my_names : (List Str)), fz bself_my_rows (r.my_rows : (List (List Int)))])
abbrev N_Times_init : List Str := ["self", "names", "rows", "row", "one"]
theorem sc_Times_init : FnScope N_Times_init ["self", "names", "rows"] (defScope s_Times_init) := ⟨rfl, rfl, rfl, by decide +kernel, rfl, by decide +kernel, by decide +kernel⟩
noncomputable def m_Times_init (names1362 : (List Str)) (rows1363 : (List (List Int))) : Option (R_Times) :=
 (bnd (orO (decide (((names1362).length : Int) < (1 : Int))) (orO (decide ((12 : Int) < ((names1362).length : Int))) (chk ((names1362).length ≤ 4000) (some (!decide ((((ddS names1362).length : Nat) : Int) = ((names1362).length : Int))))))) fun c1370 => (if c1370 = true then
 none
 else
 (bnd (mapO (fun (x1428 : Str) => (bnd (m_is_name x1428) fun is_name1440 => (some is_name1440))) names1362) fun ys1441 => (chk ((ys1441).length ≤ sizeLine) (if (!((ys1441).all id)) = true then
 none
 else
 (bnd (m_is_square names1362 rows1363) fun is_square1460 => (bnd (orO (!is_square1460) (bnd (m_is_straight rows1363) fun is_straight1464 => (some (!is_straight1464)))) fun c1465 => (if c1465 = true then
 none
 else
 (chk (((List.map (fun (x1483 : (List Int)) => x1483) rows1363)).length ≤ sizeLine) (some (⟨names1362, (List.map (fun (x1483 : (List Int)) => x1483) rows1363)⟩ : R_Times)))))))))))
noncomputable abbrev a_Times_init : (List Str) × (List (List Int)) × Unit → Option (R_Times) := fun x => m_Times_init x.1 x.2.1
theorem ok_Times_init_fn {P : Program} {w : World} {K : PySem.W.Frag} {mg : Str → Option Value} {base : Heap} {f : Addr} {fd : FuncData} (F : FunM K "__init__" "Times.__init__" s_Times_init f fd) (C_is_name : Cal P w K mg base CX0 2 "is_name" (sp K a_is_name)) (C_is_square : Cal P w K mg base CX0 1 "is_square" (sp K a_is_square)) (C_is_straight : Cal P w K mg base CX0 1 "is_straight" (sp K a_is_straight)) (z_len : mg "len" = none) (z_set : mg "set" = none) (z_all : mg "all" = none) (z_list : mg "list" = none) (CL_Times : ClsF K "Times" ["my_names", "my_rows"] ["__init__", "names", "time"]) : FnOk P w K mg base CX0 3 f fd ["self", "names", "rows"] (spI K pre_Times_init a_Times_init ok_Times_init noEr) := by
  refine mk_I (k := 2) F sc_Times_init (fun vs a L R h => by obtain ⟨_, _, _, rfl, _⟩ := h; rfl) ?_
  rintro cdv A' outer sh0 H0 X0 hr s0 P0 L0 R0 vs ⟨names1362, rows1363, _⟩ o0 Q ⟨aself, anames, arows, rfl, rfl, rfl⟩ iv1364 ro hm hQ
  unfold a_Times_init m_Times_init at hm
  dsimp only at hm
  have iv1365 : Iv K P0 s0 s0 [cell aself "Times" [], fz anames (names1362 : (List Str)), fz arows (rows1363 : (List (List Int))), top, top, top, top] := Iv.sel iv1364 [some 0, some 1, some 2, none, none, none, none] (by decide +kernel) (by kernel_rfl)
  obtain ⟨c1370, h_c1370, hm⟩ := bndE hm
  refine do_ifR (EvW.tt (EvC.w (by skip; exact ec_orO (eb_lt (ev_len z_len (Ev.r (ev_var 1 rfl (Iv.fz (x := (names1362 : (List Str))) iv1365 1)))) ev_int) (fun hb1371 => (fun hz => (by skip; exact ec_orO (eb_gt (ev_len z_len (Ev.r (ev_var 1 rfl (Iv.fz (x := (names1362 : (List Str))) iv1365 1)))) ev_int) (fun hb1372 => (fun hz => (by obtain ⟨hc1369, hz⟩ := chkE hz; obtain rfl := Option.some.inj hz; exact (ec_or1 (eb_ne (ev_dszS z_len z_set (Ev.r (ev_var 1 rfl (Iv.fz (x := (names1362 : (List Str))) iv1365 1))) hc1369) (ev_len z_len (Ev.r (ev_var 1 rfl (Iv.fz (x := (names1362 : (List Str))) iv1365 1)))))))) ((orE hz).1 hb1372)) (orE hz).2)) ((orE h_c1370).1 hb1371)) (orE h_c1370).2))) (fun hb1373 s1374 e1375 => ?_) (fun hb1378 s1379 e1380 => ?_)
  · have hm1376 := iteE1 hm hb1373
    have iv1377 := Iv.ex iv1365 e1375
    exact absurd hm1376 (by intro z; cases z)
  · have hm1381 := iteE2 hm hb1378
    have iv1382 := Iv.ex iv1365 e1380
    obtain ⟨ys1441, h_ys1441, hm1381⟩ := bndE hm1381
    obtain ⟨hc1442, hm1381⟩ := chkE hm1381
    refine do_ifR (EvB.t (eb_not (eb_v (ev_all z_all (EvN.r (EvL.n (en_comp0 (own := [("one", 4)]) (j := 4) (f := fun (x1428 : Str) => (bnd (m_is_name x1428) fun is_name1440 => (some is_name1440))) rfl sc_Times_init.nd (ei_list (ev_var 1 rfl (Iv.fz (x := (names1362 : (List Str))) iv1382 1))) (blkOk_by (own := [("one", 4)]) (N := N_Times_init) (sc := defScope s_Times_init) (by decide +kernel)) rfl (by decide) (fun _ _ _ _ _ => pg_name (i := 4) sc_Times_init.nd rfl (by first | exact Or.inl rfl | exact Or.inr rfl)) h_ys1441 hc1442 (fun x1428 y1429 v1437 s1430 hx1432 e1431 r1438 hf1433 _ _ _ _ _ => by obtain ⟨is_name1440, h_is_name1440, hf1433⟩ := bndE hf1433; obtain rfl := Option.some.inj hf1433; exact (ev_call C_is_name hr (by decide) (ea_cons (ev_var 4 rfl r1438) ea_nil) h_is_name1440))))))))) (fun hb1443 s1444 e1445 => ?_) (fun hb1448 s1449 e1450 => ?_)
    · have hm1446 := iteE1 hm1381 hb1443
      have iv1447 := Iv.ex iv1382 e1445
      exact absurd hm1446 (by intro z; cases z)
    · have hm1451 := iteE2 hm1381 hb1448
      have iv1452 := Iv.ex iv1382 e1450
      obtain ⟨is_square1460, h_is_square1460, hm1451⟩ := bndE hm1451
      obtain ⟨c1465, h_c1465, hm1451⟩ := bndE hm1451
      refine do_ifR (EvW.tt (EvC.w (by skip; exact ec_orO (eb_not (eb_v (ev_call C_is_square hr (by decide) (ea_cons (ev_var 1 rfl (Iv.fz (x := (names1362 : (List Str))) iv1452 1)) (ea_cons (ev_var 2 rfl (Iv.fz (x := (rows1363 : (List (List Int)))) iv1452 2)) ea_nil)) h_is_square1460))) (fun hb1466 => (fun hz => (by obtain ⟨is_straight1464, h_is_straight1464, hz⟩ := bndE hz; obtain rfl := Option.some.inj hz; exact (ec_or1 (eb_not (eb_v (ev_call C_is_straight hr (by decide) (ea_cons (ev_var 2 rfl (Iv.fz (x := (rows1363 : (List (List Int)))) iv1452 2)) ea_nil) h_is_straight1464)))))) ((orE h_c1465).1 hb1466)) (orE h_c1465).2))) (fun hb1467 s1468 e1469 => ?_) (fun hb1472 s1473 e1474 => ?_)
      · have hm1470 := iteE1 hm1451 hb1467
        have iv1471 := Iv.ex iv1452 e1469
        exact absurd hm1470 (by intro z; cases z)
      · have hm1475 := iteE2 hm1451 hb1472
        have iv1476 := Iv.ex iv1452 e1474
        refine do_fldG iv1476 0 rfl (raw_var 0 rfl) (eg_ev (EvN.ev (en_copy z_list (Ev.r (ev_var 1 rfl (Iv.fz (x := (names1362 : (List Str))) iv1476 1)))))) CL_Times.cl (CL_Times.na "my_names" (by simp)) (by simp) (fun v1477 s1478 L1479 z1481 hf_iv1480 iv1480 => ?_)
        obtain rfl := z1481
        have iv1482 : Iv K P0 s0 s1478 [cell aself "Times" [("my_names", v1477)], fz anames (names1362 : (List Str)), fz arows (rows1363 : (List (List Int))), top, top, fz v1477 (names1362 : (List Str)), top] := Iv.sel iv1480 [some 0, some 1, some 2, none, none, some 7, none] (by decide +kernel) (by kernel_rfl)
        obtain ⟨hc1495, hm1475⟩ := chkE hm1475
        refine do_fldG iv1482 0 rfl (raw_var 0 rfl) (eg_ev (EvN.ev (EvL.n (en_comp0 (own := [("row", 3)]) (j := 3) (f := fun (x1483 : (List Int)) => (some x1483)) rfl sc_Times_init.nd (ei_list (ev_var 2 rfl (Iv.fz (x := (rows1363 : (List (List Int)))) iv1482 2))) (blkOk_by (own := [("row", 3)]) (N := N_Times_init) (sc := defScope s_Times_init) (by decide +kernel)) rfl (by decide) (fun _ _ _ _ _ => pg_name (i := 3) sc_Times_init.nd rfl (by first | exact Or.inl rfl | exact Or.inr rfl)) (compO_map (fun (x1483 : (List Int)) => x1483) rows1363) hc1495 (fun x1483 y1484 v1493 s1485 hx1487 e1486 r1494 hf1488 _ _ _ _ _ => by obtain rfl := Option.some.inj hf1488; exact (EvN.ev (en_copy z_list (Ev.r (ev_var 3 rfl r1494))))))))) CL_Times.cl (CL_Times.na "my_rows" (by simp)) (by simp) (fun v1496 s1497 L1498 z1500 hf_iv1499 iv1499 => ?_)
        obtain rfl := z1500
        have iv1501 : Iv K P0 s0 s1497 [cell aself "Times" [("my_names", v1477), ("my_rows", v1496)], fz anames (names1362 : (List Str)), fz arows (rows1363 : (List (List Int))), top, top, fz v1477 (names1362 : (List Str)), fz v1496 ((List.map (fun (x1483 : (List Int)) => x1483) rows1363) : (List (List Int)))] := Iv.sel iv1499 [some 0, some 1, some 2, none, none, some 5, some 7] (by decide +kernel) (by kernel_rfl)
        obtain rfl := Option.some.inj hm1475
        exact do_nil (hQ _ _ _ ⟨aself, anames, arows, rfl, v1477, v1496, rfl, rfl⟩ (Iv.sel iv1501 [some 0, some 5, some 6] (by decide +kernel) (by kernel_rfl)))
abbrev s_Times_names : Stmt := clsS 20 1
def pre_Times_names : List V → R_Times × Unit → List OA → List OA → Prop := fun vs x L R => ∃ (aself : Addr) (aself_my_names : V) (aself_my_rows : V), vs = [(.ref aself)] ∧ L = [] ∧ R = [cell aself "Times" [("my_names", aself_my_names), ("my_rows", aself_my_rows)], fz aself_my_names (x.1.my_names : (List Str)), fz aself_my_rows (x.1.my_rows : (List (List Int)))]
def ok_Times_names : List V → R_Times × Unit → ((List Str)) → V → List OA → Prop := fun vs x r v L' => ∃ (aself : Addr) (aself_my_names : V) (aself_my_rows : V), vs = [(.ref aself)] ∧ (∃ (bres : Addr), v = (.ref bres) ∧ L' = [ol bres (r : (List Str))])
abbrev N_Times_names : List Str := ["self"]
theorem sc_Times_names : FnScope N_Times_names ["self"] (defScope s_Times_names) := ⟨rfl, rfl, rfl, by decide +kernel, rfl, by decide +kernel, by decide +kernel⟩
noncomputable def m_Times_names (self1502 : R_Times) : Option ((List Str)) :=
 (some self1502.my_names)
noncomputable abbrev a_Times_names : R_Times × Unit → Option ((List Str)) := fun x => m_Times_names x.1
theorem ok_Times_names_fn {P : Program} {w : World} {K : PySem.W.Frag} {mg : Str → Option Value} {base : Heap} {f : Addr} {fd : FuncData} (F : FunM K "names" "Times.names" s_Times_names f fd) (z_list : mg "list" = none) (CL_Times : ClsF K "Times" ["my_names", "my_rows"] ["__init__", "names", "time"]) : FnOk P w K mg base CX0 1 f fd ["self"] (spI K pre_Times_names a_Times_names ok_Times_names noEr) := by
  refine mk_I (k := 0) F sc_Times_names (fun vs a L R h => by obtain ⟨_, _, _, rfl, _⟩ := h; rfl) ?_
  rintro cdv A' outer sh0 H0 X0 hr s0 P0 L0 R0 vs ⟨self1502, _⟩ o0 Q ⟨aself, aself_my_names, aself_my_rows, rfl, rfl, rfl⟩ iv1503 ro hm hQ
  unfold a_Times_names m_Times_names at hm
  dsimp only at hm
  have iv1504 : Iv K P0 s0 s0 [top, top, top] := Iv.sel iv1503 [none, none, none] (by decide +kernel) (by kernel_rfl)
  obtain rfl := Option.some.inj hm
  refine do_retK (ek_of (eg_new (en_copy z_list (Ev.r (ev_raw (x := (self1502.my_names : (List Str))) (raw_fld (raw_var 0 rfl) (Iv.rcell iv1504 ro 0) rfl CL_Times.cl (CL_Times.na "my_names" (by simp))) (Iv.rfz (x := (self1502.my_names : (List Str))) iv1504 ro 1))))) iv1504) (fun v1509 s1507 z => ?_)
  obtain ⟨L1508, ⟨p1505, rfl, rfl⟩, _, iv1506⟩ := z
  exact hQ _ _ _ ⟨aself, aself_my_names, aself_my_rows, rfl, p1505, rfl, rfl⟩ (Iv.sel iv1506 [some 3] (by decide +kernel) (by kernel_rfl))
abbrev s_asked_lines : Stmt := topS 6
def pre_asked_lines : List V → R_Times × (List (T3 Str Int Int)) × Unit → List OA → List OA → Prop := fun vs x L R => ∃ (atimes : Addr) (atimes_my_names : V) (atimes_my_rows : V) (alines : V), vs = [(.ref atimes), alines] ∧ L = [fz alines (x.2.1 : (List (T3 Str Int Int)))] ∧ R = [cell atimes "Times" [("my_names", atimes_my_names), ("my_rows", atimes_my_rows)], fz atimes_my_names (x.1.my_names : (List Str)), fz atimes_my_rows (x.1.my_rows : (List (List Int)))]
def ok_asked_lines : List V → R_Times × (List (T3 Str Int Int)) × Unit → (Bool) → V → List OA → Prop := fun vs x r v L' => ∃ (atimes : Addr) (atimes_my_names : V) (atimes_my_rows : V) (alines : V), vs = [(.ref atimes), alines] ∧ (∃ (bres : V), v = bres ∧ L' = [fz bres (r : Bool)])
abbrev N_asked_lines : List Str := ["times", "lines", "names", "place", "name", "first", "last"]
theorem sc_asked_lines : FnScope N_asked_lines ["times", "lines"] (defScope s_asked_lines) := ⟨rfl, rfl, rfl, by decide +kernel, rfl, by decide +kernel, by decide +kernel⟩
noncomputable def m_asked_lines (times1510 : R_Times) (lines1511 : (List (T3 Str Int Int))) : Option (Bool) :=
 (bnd (a_Times_names ((⟨times1510.my_names, times1510.my_rows⟩ : R_Times), ())) fun names1514 => (lt (names1514 : (List Str)) fun names1515 =>
 (chk (RgB ((lines1511).length : Int)) (bnd (foldF (ρ := (Bool)) (fun (b1525 : Unit) (x1527 : Int) =>
 (bnd (atI lines1511 x1527) fun at1553 => (lt (at1553 : (T3 Str Int Int)) fun u1562 =>
 (if ((decide (u1562.b < (0 : Int))) || (decide (u1562.c < u1562.b))) = true then
 none
 else
 (if (!decide (u1562.a ∈ names1515)) = true then
 none
 else
 (some (Fl.nx ()))))))) () (rng 0 ((lines1511).length : Int))) fun o1523 =>
 (Fl.go o1523 (fun b1603 => (some true)) (fun rr => (some rr)))))))
noncomputable abbrev a_asked_lines : R_Times × (List (T3 Str Int Int)) × Unit → Option (Bool) := fun x => m_asked_lines x.1 x.2.1
theorem ok_asked_lines_fn {P : Program} {w : World} {K : PySem.W.Frag} {mg : Str → Option Value} {base : Heap} {f : Addr} {fd : FuncData} (F : FunM K "asked_lines" "asked_lines" s_asked_lines f fd) (C_Times_names : CalM P w K mg base CX0 1 "Times" "names" (spI K pre_Times_names a_Times_names ok_Times_names noEr)) (z_range : mg "range" = none) (z_len : mg "len" = none) (CL_Times : ClsF K "Times" ["my_names", "my_rows"] ["__init__", "names", "time"]) : FnOk P w K mg base CX0 2 f fd ["times", "lines"] (spI K pre_asked_lines a_asked_lines ok_asked_lines noEr) := by
  refine mk_I (k := 1) F sc_asked_lines (fun vs a L R h => by obtain ⟨_, _, _, _, rfl, _⟩ := h; rfl) ?_
  rintro cdv A' outer sh0 H0 X0 hr s0 P0 L0 R0 vs ⟨times1510, lines1511, _⟩ o0 Q ⟨atimes, atimes_my_names, atimes_my_rows, alines, rfl, rfl, rfl⟩ iv1512 ro hm hQ
  unfold a_asked_lines m_asked_lines at hm
  dsimp only at hm
  have iv1513 : Iv K P0 s0 s0 [top, fz alines (lines1511 : (List (T3 Str Int Int))), top, top, top, top, top, top, top] := Iv.sel iv1512 [none, some 0, none, none, none, none, none, none, none] (by decide +kernel) (by kernel_rfl)
  obtain ⟨names1514, h_names1514, hm⟩ := bndE hm
  refine do_set 2 (EvN.ev (en_of_eg (eg_call (ok' := (fun v L' => ∃ (bres : Addr), v = (.ref bres) ∧ L' = [ol bres (names1514 : (List Str))])) (ca_meth0 (E := fun _ _ _ _ => False) C_Times_names CL_Times.cl pass00 hr (by decide) (raw_var 0 rfl) (Iv.rcell iv1513 ro 0) rfl ) iv1513 ro [.inr 0, .inr 1, .inr 2] (fun vs s2 k2 r2 => by obtain ⟨ws, rfl, r3⟩ := r2; obtain rfl := r3; exact ⟨[], ⟨(atimes), (atimes_my_names), (atimes_my_rows), rfl, rfl, rfl⟩, all_nil, (fun v L' z => by obtain ⟨_, _, _, e, z⟩ := z; cases e; exact z), (fun e L' z => z.elim)⟩) h_names1514) (fun v L' z => by obtain ⟨p, rfl, rfl⟩ := z; exact ⟨p, [], rfl, rfl⟩))) (fun v1519 s1517 e1518 r1520 => ?_) sc_asked_lines.nd
  obtain ⟨names1515, q1516, hm⟩ := ltE hm
  have iv1521 := Iv.sf iv1513 2 e1518 r1520 q1516
  obtain ⟨hc1522, hm⟩ := chkE hm
  obtain ⟨o1523, ho1524, hm⟩ := bndE hm
  refine do_forF (ρ := (Bool)) (υ := Unit) PassesOwn.never rfl (ei_range1 z_range (ev_len z_len (Ev.r (ev_var 1 rfl (Iv.fz (x := (lines1511 : (List (T3 Str Int Int)))) iv1521 1)))) hc1522) (pg_name (i := 3) sc_asked_lines.nd rfl (by first | exact Or.inl rfl | exact Or.inr rfl)) tg_n ho1524 (fun (b1525 : Unit) (σ' : L2.St) (t' : S) => ∃ (y_name : Option V) (y_first : Option V) (y_last : Option V) (y_place : Option V), σ' = [some (.ref atimes), some alines, some v1519, y_place, y_name, y_first, y_last] ∧ Iv K P0 s0 t' [top, fz alines (lines1511 : (List (T3 Str Int Int))), fz v1519 (names1515 : (List Str)), top, top, top, top, top, top]) (fun s1600 k1601 => by have iv1602 := Iv.ex iv1521 k1601; exact ⟨_, _, _, _, rfl, Iv.sel iv1602 [none, some 1, some 2, none, none, none, none, none, none] (by decide +kernel) (by kernel_rfl)⟩) (fun s1528 k1529 x1527 b1525 q1551 σ1538 σ1539 t1536 t1537 hx1530 hm1531 hq1552 fl1532 hR1533 k1534 hB1535 => ?_) (fun s1594 k1595 b1603 σ1596 t1597 ho1604 fl1598 hR1599 => ?_)
  · have hf1540 := Fle.trans k1529.f fl1532
    obtain ⟨y1541, y1542, y1543, y1544, rfl, iv1545⟩ := hR1533
    obtain ⟨v1546, r1547, rfl⟩ := hB1535
    have iv1548 := Iv.ex iv1545 k1534
    have iv1549 := Iv.sf iv1548 3 (Ex.refl t1537) r1547 rfl
    have fl1550 := Fle.trans (Fle.refl t1537.F) (Ex.refl t1537).f
    obtain ⟨at1553, h_at1553, hm1531⟩ := bndE hm1531
    refine do_unp3 4 5 6 (ev_ix (Ev.r (ev_var 1 rfl (Iv.fz (x := (lines1511 : (List (T3 Str Int Int)))) iv1549 1))) (ev_var 3 rfl (Iv.fz (x := (x1527 : Int)) iv1549 3)) h_at1553) (fun v1554 v1555 v1556 s1560 e1561 r1557 r1558 r1559 => ?_) (pg_tup rfl (pgs_cons (pg_name (i := 4) sc_asked_lines.nd rfl (by first | exact Or.inl rfl | exact Or.inr rfl)) (pgs_cons (pg_name (i := 5) sc_asked_lines.nd rfl (by first | exact Or.inl rfl | exact Or.inr rfl)) (pgs_cons (pg_name (i := 6) sc_asked_lines.nd rfl (by first | exact Or.inl rfl | exact Or.inr rfl)) pgs_nil))))
    obtain ⟨u1562, q1563, hm1531⟩ := ltE hm1531
    rw [← q1563] at r1557
    have iv1564 := Iv.sf iv1549 4 e1561 r1557 rfl
    have fl1565 := Fle.trans (Fle.refl t1537.F) e1561.f
    rw [← q1563] at r1558
    have iv1566 := Iv.sf iv1564 5 (Ex.refl s1560) r1558 rfl
    have fl1567 := Fle.trans fl1565 (Ex.refl s1560).f
    rw [← q1563] at r1559
    have iv1568 := Iv.sf iv1566 6 (Ex.refl s1560) r1559 rfl
    have fl1569 := Fle.trans fl1567 (Ex.refl s1560).f
    refine do_ifR (EvW.tt (EvC.w (ec_or (eb_lt (ev_var 5 rfl (Iv.fz (x := (u1562.b : Int)) iv1568 5)) ev_int) fun _ => (ec_or1 (eb_lt (ev_var 6 rfl (Iv.fz (x := (u1562.c : Int)) iv1568 6)) (ev_var 5 rfl (Iv.fz (x := (u1562.b : Int)) iv1568 5))))))) (fun hb1570 s1571 e1572 => ?_) (fun hb1576 s1577 e1578 => ?_)
    · have hm1573 := iteE1 hm1531 hb1570
      have iv1574 := Iv.ex iv1568 e1572
      have fl1575 := Fle.trans fl1569 e1572.f
      exact absurd hm1573 (by intro z; cases z)
    · have hm1579 := iteE2 hm1531 hb1576
      have iv1580 := Iv.ex iv1568 e1578
      have fl1581 := Fle.trans fl1569 e1578.f
      refine do_ifR (EvB.t (eb_notIn (ev_var 4 rfl (Iv.fz (x := (u1562.a : Str)) iv1580 4)) (Ev.r (ev_var 2 rfl (Iv.fz (x := (names1515 : (List Str))) iv1580 2))))) (fun hb1582 s1583 e1584 => ?_) (fun hb1588 s1589 e1590 => ?_)
      · have hm1585 := iteE1 hm1579 hb1582
        have iv1586 := Iv.ex iv1580 e1584
        have fl1587 := Fle.trans fl1581 e1584.f
        exact absurd hm1585 (by intro z; cases z)
      · have hm1591 := iteE2 hm1579 hb1588
        have iv1592 := Iv.ex iv1580 e1590
        have fl1593 := Fle.trans fl1581 e1590.f
        obtain rfl := Option.some.inj hm1591
        exact do_nil ⟨s1589, rfl, _, rfl, fl1593, ⟨_, _, _, _, rfl, Iv.sel iv1592 [none, some 1, some 2, none, none, none, none, none, none] (by decide +kernel) (by kernel_rfl)⟩⟩
  · subst ho1604
    replace hm := goN hm
    have hf1605 := Fle.trans k1595.f fl1598
    obtain ⟨y1606, y1607, y1608, y1609, rfl, iv1610⟩ := hR1599
    obtain rfl := Option.some.inj hm
    refine do_retK (ek_of (eg_ev ev_bl) iv1610) (fun v1611 s1613 z => ?_)
    obtain ⟨L1614, rfl, _, iv1612⟩ := z
    exact hQ _ _ _ ⟨atimes, atimes_my_names, atimes_my_rows, alines, rfl, v1611, rfl, rfl⟩ (Iv.sel iv1612 [some 9] (by decide +kernel) (by kernel_rfl))
abbrev s_Times_time : Stmt := clsS 20 2
def pre_Times_time : List V → R_Times × Str × Str × Unit → List OA → List OA → Prop := fun vs x L R => ∃ (aself : Addr) (aself_my_names : V) (aself_my_rows : V) (aone : V) (aother : V), vs = [(.ref aself), aone, aother] ∧ L = [fz aone (x.2.1 : Str), fz aother (x.2.2.1 : Str)] ∧ R = [cell aself "Times" [("my_names", aself_my_names), ("my_rows", aself_my_rows)], fz aself_my_names (x.1.my_names : (List Str)), fz aself_my_rows (x.1.my_rows : (List (List Int)))]
def ok_Times_time : List V → R_Times × Str × Str × Unit → (Int) → V → List OA → Prop := fun vs x r v L' => ∃ (aself : Addr) (aself_my_names : V) (aself_my_rows : V) (aone : V) (aother : V), vs = [(.ref aself), aone, aother] ∧ (∃ (bres : V), v = bres ∧ L' = [fz bres (r : Int)])
abbrev N_Times_time : List Str := ["self", "one", "other", "name"]
theorem sc_Times_time : FnScope N_Times_time ["self", "one", "other"] (defScope s_Times_time) := ⟨rfl, rfl, rfl, by decide +kernel, rfl, by decide +kernel, by decide +kernel⟩
noncomputable def m_Times_time (self1616 : R_Times) (one1617 : Str) (other1618 : Str) : Option (Int) :=
 (bnd (foldF (ρ := (Int)) (fun (b1623 : Unit) (x1625 : Str) =>
 (if (!decide (x1625 ∈ self1616.my_names)) = true then
 none
 else
 (some (Fl.nx ())))) () ((⟨[one1617, other1618]⟩ : Tu Str)).l) fun o1621 =>
 (Fl.go o1621 (fun b1669 => (bnd (ixOf one1617 self1616.my_names) fun ix1674 => (bnd (atI self1616.my_rows (ix1674 : Int)) fun at1675 => (bnd (ixOf other1618 self1616.my_names) fun ix1676 => (bnd (atI at1675 (ix1676 : Int)) fun at1677 => (some at1677)))))) (fun rr => (some rr))))
noncomputable abbrev a_Times_time : R_Times × Str × Str × Unit → Option (Int) := fun x => m_Times_time x.1 x.2.1 x.2.2.1
theorem ok_Times_time_fn {P : Program} {w : World} {K : PySem.W.Frag} {mg : Str → Option Value} {base : Heap} {f : Addr} {fd : FuncData} (F : FunM K "time" "Times.time" s_Times_time f fd) (CL_Times : ClsF K "Times" ["my_names", "my_rows"] ["__init__", "names", "time"]) : FnOk P w K mg base CX0 1 f fd ["self", "one", "other"] (spI K pre_Times_time a_Times_time ok_Times_time noEr) := by
  refine mk_I (k := 0) F sc_Times_time (fun vs a L R h => by obtain ⟨_, _, _, _, _, rfl, _⟩ := h; rfl) ?_
  rintro cdv A' outer sh0 H0 X0 hr s0 P0 L0 R0 vs ⟨self1616, one1617, other1618, _⟩ o0 Q ⟨aself, aself_my_names, aself_my_rows, aone, aother, rfl, rfl, rfl⟩ iv1619 ro hm hQ
  unfold a_Times_time m_Times_time at hm
  dsimp only at hm
  have iv1620 : Iv K P0 s0 s0 [top, fz aone (one1617 : Str), fz aother (other1618 : Str), top, top, top] := Iv.sel iv1619 [none, some 0, some 1, none, none, none] (by decide +kernel) (by kernel_rfl)
  obtain ⟨o1621, ho1622, hm⟩ := bndE hm
  refine do_forF (ρ := (Int)) (υ := Unit) PassesOwn.never rfl (ei_tup (ev_tu (xs := ([one1617, other1618] : List Str)) (ee_cons (ev_var 1 rfl (Iv.fz (x := (one1617 : Str)) iv1620 1)) (ee_cons (ev_var 2 rfl (Iv.fz (x := (other1618 : Str)) iv1620 2)) ee_nil)) (by simp [sizeLine]))) (pg_name (i := 3) sc_Times_time.nd rfl (by first | exact Or.inl rfl | exact Or.inr rfl)) tg_n ho1622 (fun (b1623 : Unit) (σ' : L2.St) (t' : S) => ∃ (y_name : Option V), σ' = [some (.ref aself), some aone, some aother, y_name] ∧ Iv K P0 s0 t' [top, fz aone (one1617 : Str), fz aother (other1618 : Str), top, top, top]) (fun s1666 k1667 => by have iv1668 := Iv.ex iv1620 k1667; exact ⟨_, rfl, Iv.sel iv1668 [none, some 1, some 2, none, none, none] (by decide +kernel) (by kernel_rfl)⟩) (fun s1626 k1627 x1625 b1623 q1646 σ1636 σ1637 t1634 t1635 hx1628 hm1629 hq1647 fl1630 hR1631 k1632 hB1633 => ?_) (fun s1660 k1661 b1669 σ1662 t1663 ho1670 fl1664 hR1665 => ?_)
  · have hf1638 := Fle.trans k1627.f fl1630
    obtain ⟨y1639, rfl, iv1640⟩ := hR1631
    obtain ⟨v1641, r1642, rfl⟩ := hB1633
    have iv1643 := Iv.ex iv1640 k1632
    have iv1644 := Iv.sf iv1643 3 (Ex.refl t1635) r1642 rfl
    have fl1645 := Fle.trans (Fle.refl t1635.F) (Ex.refl t1635).f
    refine do_ifR (EvB.t (eb_notIn (ev_var 3 rfl (Iv.fz (x := (x1625 : Str)) iv1644 3)) (Ev.r (ev_raw (x := (self1616.my_names : (List Str))) (raw_fld (raw_var 0 rfl) (Iv.rcell iv1644 ro 0) rfl CL_Times.cl (CL_Times.na "my_names" (by simp))) (Iv.rfz (x := (self1616.my_names : (List Str))) iv1644 ro 1))))) (fun hb1648 s1649 e1650 => ?_) (fun hb1654 s1655 e1656 => ?_)
    · have hm1651 := iteE1 hm1629 hb1648
      have iv1652 := Iv.ex iv1644 e1650
      have fl1653 := Fle.trans (Fle.refl t1635.F) e1650.f
      exact absurd hm1651 (by intro z; cases z)
    · have hm1657 := iteE2 hm1629 hb1654
      have iv1658 := Iv.ex iv1644 e1656
      have fl1659 := Fle.trans (Fle.refl t1635.F) e1656.f
      obtain rfl := Option.some.inj hm1657
      exact do_nil ⟨s1655, rfl, _, rfl, fl1659, ⟨_, rfl, Iv.sel iv1658 [none, some 1, some 2, none, none, none] (by decide +kernel) (by kernel_rfl)⟩⟩
  · subst ho1670
    replace hm := goN hm
    have hf1671 := Fle.trans k1661.f fl1664
    obtain ⟨y1672, rfl, iv1673⟩ := hR1665
    obtain ⟨ix1674, h_ix1674, hm⟩ := bndE hm
    obtain ⟨at1675, h_at1675, hm⟩ := bndE hm
    obtain ⟨ix1676, h_ix1676, hm⟩ := bndE hm
    obtain ⟨at1677, h_at1677, hm⟩ := bndE hm
    obtain rfl := Option.some.inj hm
    refine do_retK (ek_of (eg_ev (ev_ix (Ev.r (ev_ix (Ev.r (ev_raw (x := (self1616.my_rows : (List (List Int)))) (raw_fld (raw_var 0 rfl) (Iv.rcell iv1673 ro 0) rfl CL_Times.cl (CL_Times.na "my_rows" (by simp))) (Iv.rfz (x := (self1616.my_rows : (List (List Int)))) iv1673 ro 2))) (ev_index (Ev.r (ev_raw (x := (self1616.my_names : (List Str))) (raw_fld (raw_var 0 rfl) (Iv.rcell iv1673 ro 0) rfl CL_Times.cl (CL_Times.na "my_names" (by simp))) (Iv.rfz (x := (self1616.my_names : (List Str))) iv1673 ro 1))) (ev_var 1 rfl (Iv.fz (x := (one1617 : Str)) iv1673 1)) h_ix1674) h_at1675)) (ev_index (Ev.r (ev_raw (x := (self1616.my_names : (List Str))) (raw_fld (raw_var 0 rfl) (Iv.rcell iv1673 ro 0) rfl CL_Times.cl (CL_Times.na "my_names" (by simp))) (Iv.rfz (x := (self1616.my_names : (List Str))) iv1673 ro 1))) (ev_var 2 rfl (Iv.fz (x := (other1618 : Str)) iv1673 2)) h_ix1676) h_at1677)) iv1673) (fun v1678 s1680 z => ?_)
    obtain ⟨L1681, rfl, _, iv1679⟩ := z
    exact hQ _ _ _ ⟨aself, aself_my_names, aself_my_rows, aone, aother, rfl, v1678, rfl, rfl⟩ (Iv.sel iv1679 [some 6] (by decide +kernel) (by kernel_rfl))
abbrev s_can_follow : Stmt := topS 7
def pre_can_follow : List V → R_Times × (T3 Str Int Int) × (T3 Str Int Int) × Unit → List OA → List OA → Prop := fun vs x L R => ∃ (atimes : Addr) (atimes_my_names : V) (atimes_my_rows : V) (aone : V) (aother : V), vs = [(.ref atimes), aone, aother] ∧ L = [fz aone (x.2.1 : (T3 Str Int Int)), fz aother (x.2.2.1 : (T3 Str Int Int))] ∧ R = [cell atimes "Times" [("my_names", atimes_my_names), ("my_rows", atimes_my_rows)], fz atimes_my_names (x.1.my_names : (List Str)), fz atimes_my_rows (x.1.my_rows : (List (List Int)))]
def ok_can_follow : List V → R_Times × (T3 Str Int Int) × (T3 Str Int Int) × Unit → (Bool) → V → List OA → Prop := fun vs x r v L' => ∃ (atimes : Addr) (atimes_my_names : V) (atimes_my_rows : V) (aone : V) (aother : V), vs = [(.ref atimes), aone, aother] ∧ (∃ (bres : V), v = bres ∧ L' = [fz bres (r : Bool)])
abbrev N_can_follow : List Str := ["times", "one", "other"]
theorem sc_can_follow : FnScope N_can_follow ["times", "one", "other"] (defScope s_can_follow) := ⟨rfl, rfl, rfl, by decide +kernel, rfl, by decide +kernel, by decide +kernel⟩
noncomputable def m_can_follow (times1683 : R_Times) (one1684 : (T3 Str Int Int)) (other1685 : (T3 Str Int Int)) : Option (Bool) :=
 (bnd (a_Times_time ((⟨times1683.my_names, times1683.my_rows⟩ : R_Times), (one1684).a, (other1685).a, ())) fun time1692 => (some (decide (time1692 ≤ (((other1685).b - (one1684).c) - (1 : Int))))))
noncomputable abbrev a_can_follow : R_Times × (T3 Str Int Int) × (T3 Str Int Int) × Unit → Option (Bool) := fun x => m_can_follow x.1 x.2.1 x.2.2.1
theorem ok_can_follow_fn {P : Program} {w : World} {K : PySem.W.Frag} {mg : Str → Option Value} {base : Heap} {f : Addr} {fd : FuncData} (F : FunM K "can_follow" "can_follow" s_can_follow f fd) (C_Times_time : CalM P w K mg base CX0 1 "Times" "time" (spI K pre_Times_time a_Times_time ok_Times_time noEr)) (CL_Times : ClsF K "Times" ["my_names", "my_rows"] ["__init__", "names", "time"]) : FnOk P w K mg base CX0 2 f fd ["times", "one", "other"] (spI K pre_can_follow a_can_follow ok_can_follow noEr) := by
  refine mk_I (k := 1) F sc_can_follow (fun vs a L R h => by obtain ⟨_, _, _, _, _, rfl, _⟩ := h; rfl) ?_
  rintro cdv A' outer sh0 H0 X0 hr s0 P0 L0 R0 vs ⟨times1683, one1684, other1685, _⟩ o0 Q ⟨atimes, atimes_my_names, atimes_my_rows, aone, aother, rfl, rfl, rfl⟩ iv1686 ro hm hQ
  unfold a_can_follow m_can_follow at hm
  dsimp only at hm
  have iv1687 : Iv K P0 s0 s0 [top, fz aone (one1684 : (T3 Str Int Int)), fz aother (other1685 : (T3 Str Int Int)), top, top] := Iv.sel iv1686 [none, some 0, some 1, none, none] (by decide +kernel) (by kernel_rfl)
  obtain ⟨time1692, h_time1692, hm⟩ := bndE hm
  obtain rfl := Option.some.inj hm
  refine do_retK (ek_of (eg_ev (EvB.v (eb_ge (ev_sub (ev_sub (ev_ixP (ev_var 2 rfl (Iv.fz (x := (other1685 : (T3 Str Int Int))) iv1687 2)) ev_int p3_1) (ev_ixP (ev_var 1 rfl (Iv.fz (x := (one1684 : (T3 Str Int Int))) iv1687 1)) ev_int p3_2)) ev_int) (ev_of_eg (eg_call (ok' := (fun v L' => ∃ (bres : V), v = bres ∧ L' = [fz bres (time1692 : Int)])) (ca_meth (E := fun _ _ _ _ => False) C_Times_time CL_Times.cl pass00 hr (by decide) (raw_var 0 rfl) (Iv.rcell iv1687 ro 0) rfl (ea_cons (ev_ixP (ev_var 1 rfl (Iv.fz (x := (one1684 : (T3 Str Int Int))) iv1687 1)) ev_int p3_0) (ea_cons (ev_ixP (ev_var 2 rfl (Iv.fz (x := (other1685 : (T3 Str Int Int))) iv1687 2)) ev_int p3_0) ea_nil))) iv1687 ro [.inr 0, .inr 1, .inr 2] (fun vs s2 k2 r2 => by obtain ⟨ws, rfl, r3⟩ := r2; obtain ⟨v1688, _, rfl, r1689, v1690, _, rfl, r1691, rfl⟩ := r3; exact ⟨[fz v1688 ((one1684).a : Str), fz v1690 ((other1685).a : Str)], ⟨(atimes), (atimes_my_names), (atimes_my_rows), v1688, v1690, rfl, rfl, rfl⟩, (all_cons r1689 (all_cons r1691 all_nil)), (fun v L' z => by obtain ⟨_, _, _, _, _, e, z⟩ := z; cases e; exact z), (fun e L' z => z.elim)⟩) h_time1692) (fun v L' z => by obtain ⟨_, rfl, rfl⟩ := z; exact ⟨[], rfl⟩))))) iv1687) (fun v1693 s1695 z => ?_)
  obtain ⟨L1696, rfl, _, iv1694⟩ := z
  exact hQ _ _ _ ⟨atimes, atimes_my_names, atimes_my_rows, aone, aother, rfl, v1693, rfl, rfl⟩ (Iv.sel iv1694 [some 5] (by decide +kernel) (by kernel_rfl))
abbrev s_behind_by : Stmt := topS 9
def pre_behind_by : List V → R_Times × (List (T3 Str Int Int)) × Unit → List OA → List OA → Prop := fun vs x L R => ∃ (atimes : Addr) (atimes_my_names : V) (atimes_my_rows : V) (alines : V), vs = [(.ref atimes), alines] ∧ L = [fz alines (x.2.1 : (List (T3 Str Int Int)))] ∧ R = [cell atimes "Times" [("my_names", atimes_my_names), ("my_rows", atimes_my_rows)], fz atimes_my_names (x.1.my_names : (List Str)), fz atimes_my_rows (x.1.my_rows : (List (List Int)))]
def ok_behind_by : List V → R_Times × (List (T3 Str Int Int)) × Unit → ((List (List Int))) → V → List OA → Prop := fun vs x r v L' => ∃ (atimes : Addr) (atimes_my_names : V) (atimes_my_rows : V) (alines : V), vs = [(.ref atimes), alines] ∧ (∃ (bres : V), v = bres ∧ L' = [fz bres (r : (List (List Int)))])
abbrev N_behind_by : List Str := ["times", "lines", "every", "one", "k"]
theorem sc_behind_by : FnScope N_behind_by ["times", "lines"] (defScope s_behind_by) := ⟨rfl, rfl, rfl, by decide +kernel, rfl, by decide +kernel, by decide +kernel⟩
noncomputable def m_behind_by (times1698 : R_Times) (lines1699 : (List (T3 Str Int Int))) : Option ((List (List Int))) :=
 (chk (RgOk 0 ((lines1699).length : Int)) (lt ((rng 0 ((lines1699).length : Int)) : (List Int)) fun every1703 =>
 (bnd (mapO (fun (x1710 : (T3 Str Int Int)) => (bnd (compO (fun (x1723 : Int) => (bnd (atI lines1699 x1723) fun at1745 => (bnd (a_can_follow ((⟨times1698.my_names, times1698.my_rows⟩ : R_Times), x1710, at1745, ())) fun can_follow1748 => (some can_follow1748)))) (fun (x1723 : Int) => (some x1723)) every1703) fun ys1749 => (chk ((ys1749).length ≤ sizeLine) (some ys1749)))) lines1699) fun ys1752 => (chk ((ys1752).length ≤ sizeLine) (some ys1752)))))
noncomputable abbrev a_behind_by : R_Times × (List (T3 Str Int Int)) × Unit → Option ((List (List Int))) := fun x => m_behind_by x.1 x.2.1
theorem ok_behind_by_fn {P : Program} {w : World} {K : PySem.W.Frag} {mg : Str → Option Value} {base : Heap} {f : Addr} {fd : FuncData} (F : FunM K "behind_by" "behind_by" s_behind_by f fd) (C_can_follow : Cal P w K mg base CX0 2 "can_follow" (spI K pre_can_follow a_can_follow ok_can_follow noEr)) (z_list : mg "list" = none) (z_range : mg "range" = none) (z_len : mg "len" = none) : FnOk P w K mg base CX0 3 f fd ["times", "lines"] (spI K pre_behind_by a_behind_by ok_behind_by noEr) := by
  refine mk_I (k := 2) F sc_behind_by (fun vs a L R h => by obtain ⟨_, _, _, _, rfl, _⟩ := h; rfl) ?_
  rintro cdv A' outer sh0 H0 X0 hr s0 P0 L0 R0 vs ⟨times1698, lines1699, _⟩ o0 Q ⟨atimes, atimes_my_names, atimes_my_rows, alines, rfl, rfl, rfl⟩ iv1700 ro hm hQ
  unfold a_behind_by m_behind_by at hm
  dsimp only at hm
  have iv1701 : Iv K P0 s0 s0 [top, fz alines (lines1699 : (List (T3 Str Int Int))), top, top, top, top, top] := Iv.sel iv1700 [none, some 0, none, none, none, none, none] (by decide +kernel) (by kernel_rfl)
  obtain ⟨hc1702, hm⟩ := chkE hm
  refine do_set 2 (EvN.ev (en_listRg1 z_list z_range (ev_len z_len (Ev.r (ev_var 1 rfl (Iv.fz (x := (lines1699 : (List (T3 Str Int Int)))) iv1701 1)))) hc1702)) (fun v1707 s1705 e1706 r1708 => ?_) sc_behind_by.nd
  obtain ⟨every1703, q1704, hm⟩ := ltE hm
  have iv1709 := Iv.sf iv1701 2 e1706 r1708 q1704
  obtain ⟨ys1752, h_ys1752, hm⟩ := bndE hm
  obtain ⟨hc1753, hm⟩ := chkE hm
  obtain rfl := Option.some.inj hm
  refine do_retK (ek_of (eg_ev (EvN.ev (EvL.n (en_comp0 (own := [("one", 3)]) (j := 3) (f := fun (x1710 : (T3 Str Int Int)) => (bnd (compO (fun (x1723 : Int) => (bnd (atI lines1699 x1723) fun at1745 => (bnd (a_can_follow ((⟨times1698.my_names, times1698.my_rows⟩ : R_Times), x1710, at1745, ())) fun can_follow1748 => (some can_follow1748)))) (fun (x1723 : Int) => (some x1723)) every1703) fun ys1749 => (chk ((ys1749).length ≤ sizeLine) (some ys1749)))) rfl sc_behind_by.nd (ei_list (ev_var 1 rfl (Iv.fz (x := (lines1699 : (List (T3 Str Int Int)))) iv1709 1))) (blkOk_by (own := [("one", 3)]) (N := N_behind_by) (sc := defScope s_behind_by) (by decide +kernel)) rfl (by decide) (fun _ _ _ _ _ => pg_name (i := 3) sc_behind_by.nd rfl (by first | exact Or.inl rfl | exact Or.inr rfl)) h_ys1752 hc1753 (fun x1710 y1711 v1721 s1712 hx1714 e1713 r1722 hf1715 _ _ _ _ _ => by have z1719 := Enc.mono e1713.f (Iv.fz (v := alines) (x := (lines1699 : (List (T3 Str Int Int)))) iv1709 1); have z1720 := Enc.mono e1713.f (Iv.fz (v := v1707) (x := (every1703 : (List Int))) iv1709 2); obtain ⟨ys1749, h_ys1749, hf1715⟩ := bndE hf1715; obtain ⟨hc1750, hf1715⟩ := chkE hf1715; obtain rfl := Option.some.inj hf1715; exact (EvN.ev (EvL.n (en_comp1 (own := [("k", 4)]) (j := 4) (t := fun (x1723 : Int) => (bnd (atI lines1699 x1723) fun at1745 => (bnd (a_can_follow ((⟨times1698.my_names, times1698.my_rows⟩ : R_Times), x1710, at1745, ())) fun can_follow1748 => (some can_follow1748)))) (f := fun (x1723 : Int) => (some x1723)) rfl sc_behind_by.nd (ei_list (ev_var 2 rfl z1720)) (blkOk_n (own := [("k", 4)]) (N := N_behind_by) (sc0 := defScope s_behind_by) rfl (by decide +kernel)) rfl (by decide) (fun _ _ _ _ _ => pg_name (i := 4) sc_behind_by.nd rfl (by first | exact Or.inl rfl | exact Or.inr rfl)) h_ys1749 hc1750 (fun x1723 y1724 v1735 s1725 hx1727 e1726 r1736 hf1728 _ _ _ _ _ => by have z1732 := Enc.mono e1726.f z1719; have z1734 := Enc.mono e1726.f r1722; obtain ⟨at1745, h_at1745, hf1728⟩ := bndE hf1728; obtain ⟨can_follow1748, h_can_follow1748, hf1728⟩ := bndE hf1728; obtain rfl := Option.some.inj hf1728; exact (et_v (ev_of_eg (eg_call (ok' := (fun v L' => ∃ (bres : V), v = bres ∧ L' = [fz bres (can_follow1748 : Bool)])) (ca_fn (E := fun _ _ _ _ => False) C_can_follow pass00 hr (by decide) (ea_cons (raw_var 0 rfl) (ea_cons (ev_var 3 rfl z1734) (ea_cons (ev_ix (Ev.r (ev_var 1 rfl z1732)) (ev_var 4 rfl r1736) h_at1745) ea_nil)))) (Iv.ex (Iv.ex iv1709 e1713) e1726) ro [.inr 0, .inr 1, .inr 2] (fun vs s2 k2 r2 => by obtain ⟨_, _, rfl, rfl, v1743, _, rfl, r1744, v1746, _, rfl, r1747, rfl⟩ := r2; exact ⟨[fz v1743 (x1710 : (T3 Str Int Int)), fz v1746 (at1745 : (T3 Str Int Int))], ⟨(atimes), (atimes_my_names), (atimes_my_rows), v1743, v1746, rfl, rfl, rfl⟩, (all_cons r1744 (all_cons r1747 all_nil)), (fun v L' z => by obtain ⟨_, _, _, _, _, e, z⟩ := z; cases e; exact z), (fun e L' z => z.elim)⟩) h_can_follow1748) (fun v L' z => by obtain ⟨_, rfl, rfl⟩ := z; exact ⟨[], rfl⟩)))) (fun x1723 y1724 v1735 s1725 hx1727 e1726 r1736 ht1751 hf1728 _ _ _ _ _ => by obtain rfl := Option.some.inj hf1728; exact (ev_var 4 rfl r1736)))))))))) iv1709) (fun v1754 s1756 z => ?_)
  obtain ⟨L1757, rfl, _, iv1755⟩ := z
  exact hQ _ _ _ ⟨atimes, atimes_my_names, atimes_my_rows, alines, rfl, v1754, rfl, rfl⟩ (Iv.sel iv1755 [some 7] (by decide +kernel) (by kernel_rfl))
abbrev s_found_ways : Stmt := topS 10
def pre_found_ways : List V → (List (List Int)) × (List (Option Int)) × (List Int) × Unit → List OA → List OA → Prop := fun vs x L R => ∃ (abehind : V) (aahead : Addr) (abegins : V), vs = [abehind, (.ref aahead), abegins] ∧ L = [fz abehind (x.1 : (List (List Int))), fz abegins (x.2.2.1 : (List Int))] ∧ R = [ol aahead (x.2.1 : (List (Option Int)))]
def ok_found_ways : List V → (List (List Int)) × (List (Option Int)) × (List Int) × Unit → ((List (Int × Int))) → V → List OA → Prop := fun vs x r v L' => ∃ (abehind : V) (aahead : Addr) (abegins : V), vs = [abehind, (.ref aahead), abegins] ∧ (∃ (bres : Addr), v = (.ref bres) ∧ L' = [od bres (r : (List (Int × Int)))])
abbrev N_found_ways : List Str := ["behind", "ahead", "begins", "came", "row", "at", "place"]
theorem sc_found_ways : FnScope N_found_ways ["behind", "ahead", "begins"] (defScope s_found_ways) := ⟨rfl, rfl, rfl, by decide +kernel, rfl, by decide +kernel, by decide +kernel⟩
noncomputable def m_found_ways (behind1759 : (List (List Int))) (ahead1760 : (List (Option Int))) (begins1761 : (List Int)) : Option ((List (Int × Int))) :=
 (lt (begins1761 : (List Int)) fun row1772 =>
 (lt ((0 : Int) : Int) fun at1780 =>
 (bnd (whileO (fun (b1789 : ((List (Int × Int)) × (List Int) × Int)) => (some (decide (b1789.2.2 < ((b1789.2.1).length : Int))))) (fun (b1789 : ((List (Int × Int)) × (List Int) × Int)) =>
 (bnd (atI b1789.2.1 b1789.2.2) fun at1812 => (bnd (atI behind1759 at1812) fun at1813 => (bnd (foldO (fun (b1816 : ((List (Int × Int)) × (List Int))) (x1818 : Int) =>
 (bnd (if (!(dval b1816.1 x1818).isSome) = true then
 (bnd (atI b1816.2 b1789.2.2) fun at1942 => (chk ((b1816.1).length < sizeLine) (lt ((dput b1816.1 x1818 at1942) : (List (Int × Int))) fun kv1940 =>
 (bnd (atI ahead1760 x1818) fun at1948 => (bnd (if (at1948).isSome = true then
 (bnd (atI ahead1760 x1818) fun at1999 => (bnd at1999 fun got2000 => (chk ((b1816.2).length < sizeLine) (lt ((b1816.2 ++ [got2000]) : (List Int)) fun row1997 =>
 (some row1997)))))
 else
 (some b1816.2) : Option ((List Int))) fun b1979 =>
 (some (kv1940, b1979)))))))
 else
 (some (b1816.1, b1816.2)) : Option (((List (Int × Int)) × (List Int)))) fun b1928 =>
 (some (b1928.1, b1928.2)))) (b1789.1, b1789.2.1) at1813) fun o1814 =>
 (lt ((b1789.2.2 + (1 : Int)) : Int) fun at2050 =>
 (some (o1814.1, o1814.2, at2050))))))) fuel (([] : (List (Int × Int))), row1772, at1780)) fun o1787 =>
 (some o1787.1))))
noncomputable abbrev a_found_ways : (List (List Int)) × (List (Option Int)) × (List Int) × Unit → Option ((List (Int × Int))) := fun x => m_found_ways x.1 x.2.1 x.2.2.1
theorem ok_found_ways_fn {P : Program} {w : World} {K : PySem.W.Frag} {mg : Str → Option Value} {base : Heap} {f : Addr} {fd : FuncData} (F : FunM K "found_ways" "found_ways" s_found_ways f fd) (z_list : mg "list" = none) (z_len : mg "len" = none) : FnOk P w K mg base CX0 1 f fd ["behind", "ahead", "begins"] (spI K pre_found_ways a_found_ways ok_found_ways noEr) := by
  refine mk_I (k := 0) F sc_found_ways (fun vs a L R h => by obtain ⟨_, _, _, rfl, _⟩ := h; rfl) ?_
  rintro cdv A' outer sh0 H0 X0 hr s0 P0 L0 R0 vs ⟨behind1759, ahead1760, begins1761, _⟩ o0 Q ⟨abehind, aahead, abegins, rfl, rfl, rfl⟩ iv1762 ro hm hQ
  unfold a_found_ways m_found_ways at hm
  dsimp only at hm
  have iv1763 : Iv K P0 s0 s0 [fz abehind (behind1759 : (List (List Int))), top, fz abegins (begins1761 : (List Int)), top, top, top, top] := Iv.sel iv1762 [some 0, none, some 1, none, none, none, none] (by decide +kernel) (by kernel_rfl)
  refine do_setG 3 (eg_newD (xs := ([] : (List (Int × Int)))) en_dnew) (fun v1765 s1766 L1767 z1770 iv1768 => ?_) sc_found_ways.nd
  obtain ⟨p1764, rfl, rfl⟩ := z1770
  have iv1769 := Iv.add iv1763 iv1768
  have iv1771 : Iv K P0 s0 s1766 [fz abehind (behind1759 : (List (List Int))), top, fz abegins (begins1761 : (List Int)), od p1764 (([] : (List (Int × Int))) : (List (Int × Int))), top, top, top] := Iv.sel iv1769 [some 0, none, some 2, some 7, none, none, none] (by decide +kernel) (by kernel_rfl)
  refine do_setN 4 (en_copy z_list (Ev.r (ev_var 2 rfl (Iv.fz (x := (begins1761 : (List Int))) iv1771 2)))) (fun p1776 s1774 e1775 n1777 o1778 => ?_) sc_found_ways.nd
  obtain ⟨row1772, q1773, hm⟩ := ltE hm
  have iv1779 := Iv.sl iv1771 4 e1775 n1777 o1778 q1773
  refine do_set 5 ev_int (fun v1784 s1782 e1783 r1785 => ?_) sc_found_ways.nd
  obtain ⟨at1780, q1781, hm⟩ := ltE hm
  have iv1786 := Iv.sf iv1779 5 e1783 r1785 q1781
  obtain ⟨o1787, ho1788, hm⟩ := bndE hm
  refine do_whileO (υ := ((List (Int × Int)) × (List Int) × Int)) PassesOwn.never ho1788 (fun (b1789 : ((List (Int × Int)) × (List Int) × Int)) (σ' : L2.St) (t' : S) => ∃ (v_at : V) (y_place : Option V), σ' = [some abehind, some (.ref aahead), some abegins, some (.ref p1764), some (.ref p1776), some v_at, y_place] ∧ Iv K P0 s0 t' [fz abehind (behind1759 : (List (List Int))), top, fz abegins (begins1761 : (List Int)), od p1764 (b1789.1 : (List (Int × Int))), ol p1776 (b1789.2.1 : (List Int)), fz v_at (b1789.2.2 : Int), top]) ⟨v1784, _, rfl, Iv.sel iv1786 [some 0, none, some 2, some 3, some 4, some 5, none] (by decide +kernel) (by kernel_rfl)⟩ (fun b1789 x1795 σ1792 t1791 hm1796 fl1793 hR1794 => ?_) (fun b1789 b1790 σ1802 t1800 t1801 hc1806 hm1807 fl1803 hR1804 k1805 => ?_) (fun σ2058 t2059 t2060 hc2061 fl2062 hR2063 k2064 => ?_)
  · obtain ⟨v1797, y1798, rfl, iv1799⟩ := hR1794
    obtain rfl := Option.some.inj hm1796
    exact (EvB.t (eb_lt (ev_var 5 rfl (Iv.fz (x := (b1789.2.2 : Int)) iv1799 5)) (ev_len z_len (er_raw (xs := (b1789.2.1 : (List Int))) (raw_var 4 rfl) (Own.r (Iv.ol (xs := (b1789.2.1 : (List Int))) iv1799 4))))))
  · obtain ⟨v1808, y1809, rfl, iv1810⟩ := hR1804
    have iv1811 := Iv.ex iv1810 k1805
    obtain ⟨at1812, h_at1812, hm1807⟩ := bndE hm1807
    obtain ⟨at1813, h_at1813, hm1807⟩ := bndE hm1807
    obtain ⟨o1814, ho1815, hm1807⟩ := bndE hm1807
    refine do_forO (υ := ((List (Int × Int)) × (List Int))) PassesOwn.never rfl (ei_list (ev_ix (Ev.r (ev_var 0 rfl (Iv.fz (x := (behind1759 : (List (List Int)))) iv1811 0))) (ev_ix (er_raw (xs := (b1789.2.1 : (List Int))) (raw_var 4 rfl) (Own.r (Iv.ol (xs := (b1789.2.1 : (List Int))) iv1811 4))) (ev_var 5 rfl (Iv.fz (x := (b1789.2.2 : Int)) iv1811 5)) h_at1812) h_at1813)) (pg_name (i := 6) sc_found_ways.nd rfl (by first | exact Or.inl rfl | exact Or.inr rfl)) tg_n ho1815 (fun (b1816 : ((List (Int × Int)) × (List Int))) (σ' : L2.St) (t' : S) => ∃ (y_place : Option V), σ' = [some abehind, some (.ref aahead), some abegins, some (.ref p1764), some (.ref p1776), some v1808, y_place] ∧ Iv K P0 s0 t' [fz abehind (behind1759 : (List (List Int))), top, fz abegins (begins1761 : (List Int)), od p1764 (b1816.1 : (List (Int × Int))), ol p1776 (b1816.2 : (List Int)), fz v1808 (b1789.2.2 : Int), top]) (fun s2042 k2043 => by have iv2044 := Iv.ex iv1811 k2043; have fl2045 := Fle.trans (Fle.refl t1801.F) k2043.f; exact ⟨_, rfl, Iv.sel iv2044 [some 0, none, some 2, some 3, some 4, some 5, none] (by decide +kernel) (by kernel_rfl)⟩) (fun s1819 k1820 x1818 b1816 b1817 σ1829 σ1830 t1827 t1828 hx1821 hm1822 fl1823 hR1824 k1825 hB1826 => ?_) (fun s2036 k2037 σ2038 t2039 fl2040 hR2041 => ?_)
    · have hf1831 := Fle.trans k1820.f fl1823
      obtain ⟨y1832, rfl, iv1833⟩ := hR1824
      obtain ⟨v1834, r1835, rfl⟩ := hB1826
      have iv1836 := Iv.ex iv1833 k1825
      have iv1837 := Iv.sf iv1836 6 (Ex.refl t1828) r1835 rfl
      have fl1838 := Fle.trans (Fle.refl t1828.F) (Ex.refl t1828).f
      obtain ⟨b1928, hj1929, hm1822⟩ := bndE hm1822
      refine do_if (EvB.t (ev_dnotIn hr (ev_var 6 rfl (Iv.fz (x := (x1818 : Int)) iv1837 6)) (raw_var 3 rfl) (OwnD.r (Iv.od (xs := (b1816.1 : (List (Int × Int)))) iv1837 3)))) (fun (σ' : L2.St) (t' : S) => Fle t1828.F t'.F ∧ σ' = [some abehind, some (.ref aahead), some abegins, some (.ref p1764), some (.ref p1776), some v1808, some v1834] ∧ Iv K P0 s0 t' [fz abehind (behind1759 : (List (List Int))), top, fz abegins (begins1761 : (List Int)), od p1764 (b1928.1 : (List (Int × Int))), ol p1776 (b1928.2 : (List Int)), fz v1808 (b1789.2.2 : Int), fz v1834 (x1818 : Int)]) (fun hb1930 s1931 e1932 => ?_) (fun hb2022 s2023 e2024 => ?_) (fun σ2029 s2030 hM2031 => ?_)
      · have hm1933 := iteE1 hj1929 hb1930
        have iv1934 := Iv.ex iv1837 e1932
        have fl1935 := Fle.trans (Fle.refl t1828.F) e1932.f
        have fl1936 := Fle.trans (Fle.refl t1828.F) e1932.f
        obtain ⟨at1942, h_at1942, hm1933⟩ := bndE hm1933
        obtain ⟨hc1943, hm1933⟩ := chkE hm1933
        refine do_dput hr (raw_var 3 rfl) (Iv.od (xs := (b1816.1 : (List (Int × Int)))) iv1934 3) (ev_ix (er_raw (xs := (b1816.2 : (List Int))) (raw_var 4 rfl) (Own.r (Iv.ol (xs := (b1816.2 : (List Int))) iv1934 4))) (ev_var 5 rfl (Iv.fz (x := (b1789.2.2 : Int)) iv1934 5)) h_at1942) (ev_var 6 rfl (Iv.fz (x := (x1818 : Int)) iv1934 6)) hc1943 (fun s1937 m1938 o1939 => ?_)
        obtain ⟨kv1940, q1941, hm1933⟩ := ltE hm1933
        have iv1944 := Iv.md iv1934 3 m1938 o1939 q1941
        have fl1945 := Fle.trans fl1935 m1938.f
        have fl1946 := Fle.trans fl1936 m1938.f
        obtain ⟨at1948, h_at1948, hm1933⟩ := bndE hm1933
        obtain ⟨b1979, hj1980, hm1933⟩ := bndE hm1933
        refine do_if (EvB.t (eb_notN (ev_ix (er_raw (xs := (ahead1760 : (List (Option Int)))) (raw_var 1 rfl) (Iv.rol (xs := (ahead1760 : (List (Option Int)))) iv1944 ro 0)) (ev_var 6 rfl (Iv.fz (x := (x1818 : Int)) iv1944 6)) h_at1948))) (fun (σ' : L2.St) (t' : S) => Fle s1937.F t'.F ∧ σ' = [some abehind, some (.ref aahead), some abegins, some (.ref p1764), some (.ref p1776), some v1808, some v1834] ∧ Iv K P0 s0 t' [fz abehind (behind1759 : (List (List Int))), top, fz abegins (begins1761 : (List Int)), od p1764 (kv1940 : (List (Int × Int))), ol p1776 (b1979 : (List Int)), fz v1808 (b1789.2.2 : Int), fz v1834 (x1818 : Int)]) (fun hb1981 s1982 e1983 => ?_) (fun hb2006 s2007 e2008 => ?_) (fun σ2014 s2015 hM2016 => ?_)
        · have hm1984 := iteE1 hj1980 hb1981
          have iv1985 := Iv.ex iv1944 e1983
          have fl1986 := Fle.trans fl1945 e1983.f
          have fl1987 := Fle.trans fl1946 e1983.f
          have fl1988 := Fle.trans (Fle.refl s1937.F) e1983.f
          obtain ⟨at1999, h_at1999, hm1984⟩ := bndE hm1984
          obtain ⟨got2000, h_got2000, hm1984⟩ := bndE hm1984
          obtain ⟨hc2001, hm1984⟩ := chkE hm1984
          refine do_append 4 rfl (Iv.ol (xs := (b1816.2 : (List Int))) iv1985 4) (ev_some' (ev_ix (er_raw (xs := (ahead1760 : (List (Option Int)))) (raw_var 1 rfl) (Iv.rol (xs := (ahead1760 : (List (Option Int)))) iv1985 ro 0)) (ev_var 6 rfl (Iv.fz (x := (x1818 : Int)) iv1985 6)) h_at1999) h_got2000) hc2001 (fun s1994 m1995 o1996 => ?_)
          obtain ⟨row1997, q1998, hm1984⟩ := ltE hm1984
          have iv2002 := Iv.ml iv1985 4 m1995 o1996 q1998
          have fl2003 := Fle.trans fl1986 m1995.f
          have fl2004 := Fle.trans fl1987 m1995.f
          have fl2005 := Fle.trans fl1988 m1995.f
          obtain rfl := Option.some.inj hm1984
          exact do_nil ⟨s1994, rfl, fl2005, ⟨rfl, Iv.sel iv2002 [some 0, none, some 2, some 3, some 4, some 5, some 6] (by decide +kernel) (by kernel_rfl)⟩⟩
        · have hm2009 := iteE2 hj1980 hb2006
          have iv2010 := Iv.ex iv1944 e2008
          have fl2011 := Fle.trans fl1945 e2008.f
          have fl2012 := Fle.trans fl1946 e2008.f
          have fl2013 := Fle.trans (Fle.refl s1937.F) e2008.f
          obtain rfl := Option.some.inj hm2009
          exact do_nil ⟨s2007, rfl, fl2013, ⟨rfl, Iv.sel iv2010 [some 0, none, some 2, some 3, some 4, some 5, some 6] (by decide +kernel) (by kernel_rfl)⟩⟩
        · obtain ⟨hf2017, hR2018⟩ := hM2016
          obtain ⟨rfl, iv2019⟩ := hR2018
          have fl2020 := Fle.trans fl1945 hf2017
          have fl2021 := Fle.trans fl1946 hf2017
          obtain rfl := Option.some.inj hm1933
          exact do_nil ⟨s2015, rfl, fl2021, ⟨rfl, Iv.sel iv2019 [some 0, none, some 2, some 3, some 4, some 5, some 6] (by decide +kernel) (by kernel_rfl)⟩⟩
      · have hm2025 := iteE2 hj1929 hb2022
        have iv2026 := Iv.ex iv1837 e2024
        have fl2027 := Fle.trans (Fle.refl t1828.F) e2024.f
        have fl2028 := Fle.trans (Fle.refl t1828.F) e2024.f
        obtain rfl := Option.some.inj hm2025
        exact do_nil ⟨s2023, rfl, fl2028, ⟨rfl, Iv.sel iv2026 [some 0, none, some 2, some 3, some 4, some 5, some 6] (by decide +kernel) (by kernel_rfl)⟩⟩
      · obtain ⟨hf2032, hR2033⟩ := hM2031
        obtain ⟨rfl, iv2034⟩ := hR2033
        have fl2035 := Fle.trans (Fle.refl t1828.F) hf2032
        obtain rfl := Option.some.inj hm1822
        exact do_nil ⟨s2030, rfl, fl2035, ⟨_, rfl, Iv.sel iv2034 [some 0, none, some 2, some 3, some 4, some 5, none] (by decide +kernel) (by kernel_rfl)⟩⟩
    · have hf2046 := Fle.trans k2037.f fl2040
      obtain ⟨y2047, rfl, iv2048⟩ := hR2041
      have fl2049 := Fle.trans (Fle.refl t1801.F) hf2046
      refine do_set 5 (ev_add (ev_var 5 rfl (Iv.fz (x := (b1789.2.2 : Int)) iv2048 5)) ev_int) (fun v2054 s2052 e2053 r2055 => ?_) sc_found_ways.nd
      obtain ⟨at2050, q2051, hm1807⟩ := ltE hm1807
      have iv2056 := Iv.sf iv2048 5 e2053 r2055 q2051
      have fl2057 := Fle.trans fl2049 e2053.f
      obtain rfl := Option.some.inj hm1807
      exact do_nil ⟨s2052, rfl, fl2057, ⟨v2054, _, rfl, Iv.sel iv2056 [some 0, none, some 2, some 3, some 4, some 5, none] (by decide +kernel) (by kernel_rfl)⟩⟩
  · obtain ⟨v2065, y2066, rfl, iv2067⟩ := hR2063
    have iv2068 := Iv.ex iv2067 k2064
    obtain rfl := Option.some.inj hm
    refine do_retK (ek_of (eg_raw (raw_var 3 rfl)) iv2068) (fun v2072 s2070 z => ?_)
    obtain ⟨L2071, ⟨rfl, rfl⟩, _, iv2069⟩ := z
    exact hQ _ _ _ ⟨abehind, aahead, abegins, rfl, p1764, rfl, rfl⟩ (Iv.sel iv2069 [some 3] (by decide +kernel) (by kernel_rfl))
abbrev s_paired : Stmt := topS 11
def pre_paired : List V → (List (List Int)) × Unit → List OA → List OA → Prop := fun vs x L R => ∃ (abehind : V), vs = [abehind] ∧ L = [fz abehind (x.1 : (List (List Int)))] ∧ R = []
def ok_paired : List V → (List (List Int)) × Unit → (((List (Option Int)) × (List (Option Int)))) → V → List OA → Prop := fun vs x r v L' => ∃ (abehind : V), vs = [abehind] ∧ (∃ (bres : Addr) (bres_0 : Addr) (bres_1 : Addr), v = (.ref bres) ∧ L' = [tc bres [(.ref bres_0), (.ref bres_1)], ol bres_0 (r.1 : (List (Option Int))), ol bres_1 (r.2 : (List (Option Int)))])
abbrev N_paired : List Str := ["behind", "after", "ahead", "begin", "came", "ends", "place", "one", "left"]
theorem sc_paired : FnScope N_paired ["behind"] (defScope s_paired) := ⟨rfl, rfl, rfl, by decide +kernel, rfl, by decide +kernel, by decide +kernel⟩
noncomputable def m_paired (behind2073 : (List (List Int))) : Option (((List (Option Int)) × (List (Option Int)))) :=
 (chk (RepOk ((behind2073).length : Int) (([none] : List (Option Int))).length) (lt ((repl ((behind2073).length : Int) ([none] : List (Option Int))) : (List (Option Int))) fun after2077 =>
 (chk (RepOk ((behind2073).length : Int) (([none] : List (Option Int))).length) (lt ((repl ((behind2073).length : Int) ([none] : List (Option Int))) : (List (Option Int))) fun ahead2086 =>
 (chk (RgB ((behind2073).length : Int)) (bnd (foldO (fun (b2097 : ((List (Option Int)) × (List (Option Int)))) (x2099 : Int) =>
 (bnd (a_found_ways (behind2073, b2097.2, ([x2099] : List Int), ())) fun found_ways2129 => (bnd (compO (fun (x2143 : Int) => (bnd (atI b2097.2 x2143) fun at2157 => (some (at2157).isNone))) (fun (x2143 : Int) => (some x2143)) (List.map (fun (z : Int × Int) => z.1) found_ways2129)) fun ys2158 => (chk ((ys2158).length ≤ sizeLine) (lt (ys2158 : (List Int)) fun ends2161 =>
 (lt (none : (Option Int)) fun place2175 =>
 (bnd (if (!(ends2161).isEmpty) = true then
 (bnd (atI ends2161 (0 : Int)) fun at2213 => (lt ((some at2213) : (Option Int)) fun place2214 =>
 (some place2214)))
 else
 (some place2175) : Option ((Option Int))) fun b2204 =>
 (bnd (whileO (fun (b2240 : ((List (Option Int)) × (List (Option Int)) × (Option Int))) => (some (b2240.2.2).isSome)) (fun (b2240 : ((List (Option Int)) × (List (Option Int)) × (Option Int))) =>
 (bnd b2240.2.2 fun got2265 => (bnd (dval found_ways2129 got2265) fun got2266 => (lt (got2266 : Int) fun one2267 =>
 (bnd (atI b2240.1 one2267) fun at2275 => (lt (at2275 : (Option Int)) fun left2276 =>
 (bnd (ixN (b2240.1).length one2267) fun j2289 => (lt (((b2240.1).set j2289 b2240.2.2) : (List (Option Int))) fun ls2287 =>
 (bnd b2240.2.2 fun got2297 => (bnd (ixN (b2240.2.1).length got2297) fun j2298 => (lt (((b2240.2.1).set j2298 (some one2267)) : (List (Option Int))) fun ls2295 =>
 (lt (left2276 : (Option Int)) fun place2301 =>
 (some (ls2287, ls2295, place2301)))))))))))))) fuel (b2097.1, b2097.2, b2204)) fun o2238 =>
 (some (o2238.1, o2238.2.1)))))))))) (after2077, ahead2086) (rng 0 ((behind2073).length : Int))) fun o2095 =>
 (some (o2095.1, o2095.2))))))))
noncomputable abbrev a_paired : (List (List Int)) × Unit → Option (((List (Option Int)) × (List (Option Int)))) := fun x => m_paired x.1
theorem ok_paired_fn {P : Program} {w : World} {K : PySem.W.Frag} {mg : Str → Option Value} {base : Heap} {f : Addr} {fd : FuncData} (F : FunM K "paired" "paired" s_paired f fd) (C_found_ways : Cal P w K mg base CX0 1 "found_ways" (spI K pre_found_ways a_found_ways ok_found_ways noEr)) (z_len : mg "len" = none) (z_range : mg "range" = none) : FnOk P w K mg base CX0 2 f fd ["behind"] (spI K pre_paired a_paired ok_paired noEr) := by
  refine mk_I (k := 1) F sc_paired (fun vs a L R h => by obtain ⟨_, rfl, _⟩ := h; rfl) ?_
  rintro cdv A' outer sh0 H0 X0 hr s0 P0 L0 R0 vs ⟨behind2073, _⟩ o0 Q ⟨abehind, rfl, rfl, rfl⟩ iv2074 ro hm hQ
  unfold a_paired m_paired at hm
  dsimp only at hm
  have iv2075 : Iv K P0 s0 s0 [fz abehind (behind2073 : (List (List Int))), top, top, top, top, top, top, top, top, top, top] := Iv.sel iv2074 [some 0, none, none, none, none, none, none, none, none, none, none] (by decide +kernel) (by kernel_rfl)
  obtain ⟨hc2076, hm⟩ := chkE hm
  refine do_setN 1 (en_rep (en_list (xs := ([none] : List (Option Int))) (ee_cons (ev_nonO (α := Int)) ee_nil) (by simp [sizeLine])) (fun _ hk => Ev.mono (ev_len z_len (Ev.r (ev_var 0 rfl (Iv.fz (x := (behind2073 : (List (List Int)))) iv2075 0)))) hk) hc2076) (fun p2081 s2079 e2080 n2082 o2083 => ?_) sc_paired.nd
  obtain ⟨after2077, q2078, hm⟩ := ltE hm
  have iv2084 := Iv.sl iv2075 1 e2080 n2082 o2083 q2078
  obtain ⟨hc2085, hm⟩ := chkE hm
  refine do_setN 2 (en_rep (en_list (xs := ([none] : List (Option Int))) (ee_cons (ev_nonO (α := Int)) ee_nil) (by simp [sizeLine])) (fun _ hk => Ev.mono (ev_len z_len (Ev.r (ev_var 0 rfl (Iv.fz (x := (behind2073 : (List (List Int)))) iv2084 0)))) hk) hc2085) (fun p2090 s2088 e2089 n2091 o2092 => ?_) sc_paired.nd
  obtain ⟨ahead2086, q2087, hm⟩ := ltE hm
  have iv2093 := Iv.sl iv2084 2 e2089 n2091 o2092 q2087
  obtain ⟨hc2094, hm⟩ := chkE hm
  obtain ⟨o2095, ho2096, hm⟩ := bndE hm
  refine do_forO (υ := ((List (Option Int)) × (List (Option Int)))) PassesOwn.never rfl (ei_range1 z_range (ev_len z_len (Ev.r (ev_var 0 rfl (Iv.fz (x := (behind2073 : (List (List Int)))) iv2093 0)))) hc2094) (pg_name (i := 3) sc_paired.nd rfl (by first | exact Or.inl rfl | exact Or.inr rfl)) tg_n ho2096 (fun (b2097 : ((List (Option Int)) × (List (Option Int)))) (σ' : L2.St) (t' : S) => ∃ (y_came : Option V) (y_ends : Option V) (y_place : Option V) (y_one : Option V) (y_left : Option V) (y_begin : Option V), σ' = [some abehind, some (.ref p2081), some (.ref p2090), y_begin, y_came, y_ends, y_place, y_one, y_left] ∧ Iv K P0 s0 t' [fz abehind (behind2073 : (List (List Int))), ol p2081 (b2097.1 : (List (Option Int))), ol p2090 (b2097.2 : (List (Option Int))), top, top, top, top, top, top, top, top]) (fun s2328 k2329 => by have iv2330 := Iv.ex iv2093 k2329; exact ⟨_, _, _, _, _, _, rfl, Iv.sel iv2330 [some 0, some 1, some 2, none, none, none, none, none, none, none, none] (by decide +kernel) (by kernel_rfl)⟩) (fun s2100 k2101 x2099 b2097 b2098 σ2110 σ2111 t2108 t2109 hx2102 hm2103 fl2104 hR2105 k2106 hB2107 => ?_) (fun s2322 k2323 σ2324 t2325 fl2326 hR2327 => ?_)
  · have hf2112 := Fle.trans k2101.f fl2104
    obtain ⟨y2113, y2114, y2115, y2116, y2117, y2118, rfl, iv2119⟩ := hR2105
    obtain ⟨v2120, r2121, rfl⟩ := hB2107
    have iv2122 := Iv.ex iv2119 k2106
    have iv2123 := Iv.sf iv2122 3 (Ex.refl t2109) r2121 rfl
    have fl2124 := Fle.trans (Fle.refl t2109.F) (Ex.refl t2109).f
    obtain ⟨found_ways2129, h_found_ways2129, hm2103⟩ := bndE hm2103
    refine do_setG 4 (eg_call (ok' := (fun v L' => ∃ (bres : Addr), v = (.ref bres) ∧ L' = [od bres (found_ways2129 : (List (Int × Int)))])) (ca_fn (E := fun _ _ _ _ => False) C_found_ways pass00 hr (by decide) (ea_cons (ev_var 0 rfl (Iv.fz (x := (behind2073 : (List (List Int)))) iv2123 0)) (ea_cons (raw_var 2 rfl) (ea_cons (EvN.ev (en_list (xs := ([x2099] : List Int)) (ee_cons (ev_var 3 rfl (Iv.fz (x := (x2099 : Int)) iv2123 3)) ee_nil) (by simp [sizeLine]))) ea_nil)))) iv2123 ro0 [.inl 2] (fun vs s2 k2 r2 => by obtain ⟨v2125, _, rfl, r2126, _, _, rfl, rfl, v2127, _, rfl, r2128, rfl⟩ := r2; exact ⟨[fz v2125 (behind2073 : (List (List Int))), fz v2127 (([x2099] : List Int) : (List Int))], ⟨v2125, (p2090), v2127, rfl, rfl, rfl⟩, (all_cons r2126 (all_cons r2128 all_nil)), (fun v L' z => by obtain ⟨_, _, _, e, z⟩ := z; cases e; exact z), (fun e L' z => z.elim)⟩) h_found_ways2129) (fun v2131 s2132 L2133 z2136 iv2134 => ?_) sc_paired.nd
    obtain ⟨p2130, rfl, rfl⟩ := z2136
    have iv2135 := Iv.add iv2123 iv2134
    have iv2137 : Iv K P0 s0 s2132 [fz abehind (behind2073 : (List (List Int))), ol p2081 (b2097.1 : (List (Option Int))), ol p2090 (b2097.2 : (List (Option Int))), fz v2120 (x2099 : Int), od p2130 (found_ways2129 : (List (Int × Int))), top, top, top, top, top, top] := Iv.sel iv2135 [some 0, some 1, some 2, some 3, some 11, none, none, none, none, none, none] (by decide +kernel) (by kernel_rfl)
    have fl2138 := Fle.trans (Fle.refl t2109.F) (Ex.f (Iv.exx iv2134))
    obtain ⟨ys2158, h_ys2158, hm2103⟩ := bndE hm2103
    obtain ⟨hc2159, hm2103⟩ := chkE hm2103
    refine do_setLK 5 iv2137 4 rfl (fun ob2139 kv2140 s2141 iv2142 => (en_comp1G (own := [("place", 6)]) (j := 6) (t := fun (x2143 : Int) => (bnd (atI b2097.2 x2143) fun at2157 => (some (at2157).isNone))) (f := fun (x2143 : Int) => (some x2143)) (fun _ _ e h => GD.ex h e) (Iv.gd iv2142 4) rfl sc_paired.nd (ei_keys (raw_var 4 rfl) (Iv.gd iv2142 4)) (blkOk_by (own := [("place", 6)]) (N := N_paired) (sc := defScope s_paired) (by decide +kernel)) rfl (by decide) (fun _ _ _ _ _ => pg_name (i := 6) sc_paired.nd rfl (by first | exact Or.inl rfl | exact Or.inr rfl)) h_ys2158 hc2159 (fun x2143 y2144 v2154 s2145 hx2147 e2146 r2155 hf2148 _ _ _ _ _ => by have z2150 := Own.ex (p := p2090) (xs := (b2097.2 : (List (Option Int)))) (Iv.ol (xs := (b2097.2 : (List (Option Int)))) iv2142 2) e2146; obtain ⟨at2157, h_at2157, hf2148⟩ := bndE hf2148; obtain rfl := Option.some.inj hf2148; exact (EvB.t (eb_isN (ev_ix (er_raw (xs := (b2097.2 : (List (Option Int)))) (raw_var 2 rfl) (Own.r z2150)) (ev_var 6 rfl r2155) h_at2157)))) (fun x2143 y2144 v2154 s2145 hx2147 e2146 r2155 ht2160 hf2148 _ _ _ _ _ => by obtain rfl := Option.some.inj hf2148; exact (ev_var 6 rfl r2155)))) (fun p2167 s2163 e2164 n2168 o2169 => ?_) rfl rfl
    obtain ⟨s2170, hs2171, e2172, r2166⟩ := frz_ex e2164 n2168 o2169
    rw [← hs2171]
    obtain ⟨ends2161, q2162, hm2103⟩ := ltE hm2103
    have iv2173 := Iv.sf iv2137 5 e2172 r2166 q2162
    have fl2174 := Fle.trans fl2138 e2172.f
    refine do_set 6 (ev_nonO (α := Int)) (fun v2179 s2177 e2178 r2180 => ?_) sc_paired.nd
    obtain ⟨place2175, q2176, hm2103⟩ := ltE hm2103
    have iv2181 := Iv.sf iv2173 6 e2178 r2180 q2176
    have fl2182 := Fle.trans fl2174 e2178.f
    obtain ⟨b2204, hj2205, hm2103⟩ := bndE hm2103
    refine do_if (et_tru (Ev.r (ev_var 5 rfl (Iv.fz (x := (ends2161 : (List Int))) iv2181 5)))) (fun (σ' : L2.St) (t' : S) => Fle s2177.F t'.F ∧ ∃ (v_place : V), σ' = [some abehind, some (.ref p2081), some (.ref p2090), some v2120, some (.ref p2130), some (V.ref p2167), some v_place, y2116, y2117] ∧ Iv K P0 s0 t' [fz abehind (behind2073 : (List (List Int))), ol p2081 (b2097.1 : (List (Option Int))), ol p2090 (b2097.2 : (List (Option Int))), fz v2120 (x2099 : Int), od p2130 (found_ways2129 : (List (Int × Int))), fz (V.ref p2167) (ends2161 : (List Int)), fz v_place (b2204 : (Option Int)), top, top, top, top]) (fun hb2206 s2207 e2208 => ?_) (fun hb2223 s2224 e2225 => ?_) (fun σ2230 s2231 hM2232 => ?_)
    · have hm2209 := iteE1 hj2205 hb2206
      have iv2210 := Iv.ex iv2181 e2208
      have fl2211 := Fle.trans fl2182 e2208.f
      have fl2212 := Fle.trans (Fle.refl s2177.F) e2208.f
      obtain ⟨at2213, h_at2213, hm2209⟩ := bndE hm2209
      refine do_set 6 (ev_some (ev_ix (Ev.r (ev_var 5 rfl (Iv.fz (x := (ends2161 : (List Int))) iv2210 5))) ev_int h_at2213)) (fun v2218 s2216 e2217 r2219 => ?_) sc_paired.nd
      obtain ⟨place2214, q2215, hm2209⟩ := ltE hm2209
      have iv2220 := Iv.sf iv2210 6 e2217 r2219 q2215
      have fl2221 := Fle.trans fl2211 e2217.f
      have fl2222 := Fle.trans fl2212 e2217.f
      obtain rfl := Option.some.inj hm2209
      exact do_nil ⟨s2216, rfl, fl2222, ⟨v2218, rfl, Iv.sel iv2220 [some 0, some 1, some 2, some 3, some 4, some 5, some 6, none, none, none, none] (by decide +kernel) (by kernel_rfl)⟩⟩
    · have hm2226 := iteE2 hj2205 hb2223
      have iv2227 := Iv.ex iv2181 e2225
      have fl2228 := Fle.trans fl2182 e2225.f
      have fl2229 := Fle.trans (Fle.refl s2177.F) e2225.f
      obtain rfl := Option.some.inj hm2226
      exact do_nil ⟨s2224, rfl, fl2229, ⟨v2179, rfl, Iv.sel iv2227 [some 0, some 1, some 2, some 3, some 4, some 5, some 6, none, none, none, none] (by decide +kernel) (by kernel_rfl)⟩⟩
    · obtain ⟨hf2233, hR2234⟩ := hM2232
      obtain ⟨v2235, rfl, iv2236⟩ := hR2234
      have fl2237 := Fle.trans fl2182 hf2233
      obtain ⟨o2238, ho2239, hm2103⟩ := bndE hm2103
      refine do_whileO (υ := ((List (Option Int)) × (List (Option Int)) × (Option Int))) PassesOwn.never ho2239 (fun (b2240 : ((List (Option Int)) × (List (Option Int)) × (Option Int))) (σ' : L2.St) (t' : S) => ∃ (v_place : V) (y_one : Option V) (y_left : Option V), σ' = [some abehind, some (.ref p2081), some (.ref p2090), some v2120, some (.ref p2130), some (V.ref p2167), some v_place, y_one, y_left] ∧ Iv K P0 s0 t' [fz abehind (behind2073 : (List (List Int))), ol p2081 (b2240.1 : (List (Option Int))), ol p2090 (b2240.2.1 : (List (Option Int))), fz v2120 (x2099 : Int), od p2130 (found_ways2129 : (List (Int × Int))), fz (V.ref p2167) (ends2161 : (List Int)), fz v_place (b2240.2.2 : (Option Int)), top, top, top, top]) ⟨v2235, _, _, rfl, Iv.sel iv2236 [some 0, some 1, some 2, some 3, some 4, some 5, some 6, none, none, none, none] (by decide +kernel) (by kernel_rfl)⟩ (fun b2240 x2246 σ2243 t2242 hm2247 fl2244 hR2245 => ?_) (fun b2240 b2241 σ2254 t2252 t2253 hc2258 hm2259 fl2255 hR2256 k2257 => ?_) (fun σ2309 t2310 t2311 hc2312 fl2313 hR2314 k2315 => ?_)
      · obtain ⟨v2248, y2249, y2250, rfl, iv2251⟩ := hR2245
        obtain rfl := Option.some.inj hm2247
        exact (EvB.t (eb_notN (ev_var 6 rfl (Iv.fz (x := (b2240.2.2 : (Option Int))) iv2251 6))))
      · obtain ⟨v2260, y2261, y2262, rfl, iv2263⟩ := hR2256
        have iv2264 := Iv.ex iv2263 k2257
        obtain ⟨got2265, h_got2265, hm2259⟩ := bndE hm2259
        obtain ⟨got2266, h_got2266, hm2259⟩ := bndE hm2259
        refine do_set 7 (ev_dget hr (raw_var 4 rfl) (OwnD.r (Iv.od (xs := (found_ways2129 : (List (Int × Int)))) iv2264 4)) (ev_some' (ev_var 6 rfl (Iv.fz (x := (b2240.2.2 : (Option Int))) iv2264 6)) h_got2265) h_got2266) (fun v2271 s2269 e2270 r2272 => ?_) sc_paired.nd
        obtain ⟨one2267, q2268, hm2259⟩ := ltE hm2259
        have iv2273 := Iv.sf iv2264 7 e2270 r2272 q2268
        have fl2274 := Fle.trans (Fle.refl t2253.F) e2270.f
        obtain ⟨at2275, h_at2275, hm2259⟩ := bndE hm2259
        refine do_set 8 (ev_ix (er_raw (xs := (b2240.1 : (List (Option Int)))) (raw_var 1 rfl) (Own.r (Iv.ol (xs := (b2240.1 : (List (Option Int)))) iv2273 1))) (ev_var 7 rfl (Iv.fz (x := (one2267 : Int)) iv2273 7)) h_at2275) (fun v2280 s2278 e2279 r2281 => ?_) sc_paired.nd
        obtain ⟨left2276, q2277, hm2259⟩ := ltE hm2259
        have iv2282 := Iv.sf iv2273 8 e2279 r2281 q2277
        have fl2283 := Fle.trans fl2274 e2279.f
        obtain ⟨j2289, h_j2289, hm2259⟩ := bndE hm2259
        refine do_setItemP (raw_var 1 rfl) (Iv.ol (xs := (b2240.1 : (List (Option Int)))) iv2282 1) (ev_var 6 rfl (Iv.fz (x := (b2240.2.2 : (Option Int))) iv2282 6)) (ev_var 7 rfl (Iv.fz (x := (one2267 : Int)) iv2282 7)) h_j2289 (fun s2284 m2285 o2286 => ?_)
        obtain ⟨ls2287, q2288, hm2259⟩ := ltE hm2259
        have iv2290 := Iv.ml iv2282 1 m2285 o2286 q2288
        have fl2291 := Fle.trans fl2283 m2285.f
        obtain ⟨got2297, h_got2297, hm2259⟩ := bndE hm2259
        obtain ⟨j2298, h_j2298, hm2259⟩ := bndE hm2259
        refine do_setItemP (raw_var 2 rfl) (Iv.ol (xs := (b2240.2.1 : (List (Option Int)))) iv2290 2) (ev_some (ev_var 7 rfl (Iv.fz (x := (one2267 : Int)) iv2290 7))) (ev_some' (ev_var 6 rfl (Iv.fz (x := (b2240.2.2 : (Option Int))) iv2290 6)) h_got2297) h_j2298 (fun s2292 m2293 o2294 => ?_)
        obtain ⟨ls2295, q2296, hm2259⟩ := ltE hm2259
        have iv2299 := Iv.ml iv2290 2 m2293 o2294 q2296
        have fl2300 := Fle.trans fl2291 m2293.f
        refine do_set 6 (ev_var 8 rfl (Iv.fz (x := (left2276 : (Option Int))) iv2299 8)) (fun v2305 s2303 e2304 r2306 => ?_) sc_paired.nd
        obtain ⟨place2301, q2302, hm2259⟩ := ltE hm2259
        have iv2307 := Iv.sf iv2299 6 e2304 r2306 q2302
        have fl2308 := Fle.trans fl2300 e2304.f
        obtain rfl := Option.some.inj hm2259
        exact do_nil ⟨s2303, rfl, fl2308, ⟨v2305, _, _, rfl, Iv.sel iv2307 [some 0, some 1, some 2, some 3, some 4, some 5, some 6, none, none, none, none] (by decide +kernel) (by kernel_rfl)⟩⟩
      · obtain ⟨v2316, y2317, y2318, rfl, iv2319⟩ := hR2314
        have iv2320 := Iv.ex iv2319 k2315
        have fl2321 := Fle.trans (Fle.trans fl2237 fl2313) k2315.f
        obtain rfl := Option.some.inj hm2103
        exact do_nil ⟨t2311, rfl, fl2321, ⟨_, _, _, _, _, _, rfl, Iv.sel iv2320 [some 0, some 1, some 2, none, none, none, none, none, none, none, none] (by decide +kernel) (by kernel_rfl)⟩⟩
  · have hf2331 := Fle.trans k2323.f fl2326
    obtain ⟨y2332, y2333, y2334, y2335, y2336, y2337, rfl, iv2338⟩ := hR2327
    obtain rfl := Option.some.inj hm
    refine do_retK (ek_of (eg_tup (egs_cons (eg_raw (raw_var 1 rfl)) (egs_cons (eg_raw (raw_var 2 rfl)) egs_nil)) (fun vs L' z => by obtain ⟨_, _, _, _, rfl, rfl, ⟨rfl, rfl⟩, ⟨_, _, _, _, rfl, rfl, ⟨rfl, rfl⟩, ⟨rfl, rfl⟩⟩⟩ := z; simp)) iv2338) (fun v2343 s2341 z => ?_)
    obtain ⟨L2342, ⟨p2339, _, _, rfl, ⟨_, _, _, _, rfl, rfl, ⟨rfl, rfl⟩, ⟨_, _, _, _, rfl, rfl, ⟨rfl, rfl⟩, ⟨rfl, rfl⟩⟩⟩, rfl⟩, _, iv2340⟩ := z
    exact hQ _ _ _ ⟨abehind, rfl, p2339, p2081, p2090, rfl, rfl⟩ (Iv.sel iv2340 [some 11, some 1, some 2] (by decide +kernel) (by kernel_rfl))
abbrev s_fewest_hands : Stmt := topS 12
def pre_fewest_hands : List V → R_Times × (List (T3 Str Int Int)) × Unit → List OA → List OA → Prop := fun vs x L R => ∃ (atimes : Addr) (atimes_my_names : V) (atimes_my_rows : V) (alines : V), vs = [(.ref atimes), alines] ∧ L = [fz alines (x.2.1 : (List (T3 Str Int Int)))] ∧ R = [cell atimes "Times" [("my_names", atimes_my_names), ("my_rows", atimes_my_rows)], fz atimes_my_names (x.1.my_names : (List Str)), fz atimes_my_rows (x.1.my_rows : (List (List Int)))]
def ok_fewest_hands : List V → R_Times × (List (T3 Str Int Int)) × Unit → (((List (List Int)) × (List Int))) → V → List OA → Prop := fun vs x r v L' => ∃ (atimes : Addr) (atimes_my_names : V) (atimes_my_rows : V) (alines : V), vs = [(.ref atimes), alines] ∧ (∃ (bres : Addr) (bres_0 : LL) (bres_1 : Addr), v = (.ref bres) ∧ L' = [tc bres [(.ref bres_0.p), (.ref bres_1)], oll bres_0 (r.1 : (List (List Int))), ol bres_1 (r.2 : (List Int))])
abbrev N_fewest_hands : List Str := ["times", "lines", "behind", "hands", "place", "begins", "came", "seen", "apart", "after", "ahead", "hand", "now"]
theorem sc_fewest_hands : FnScope N_fewest_hands ["times", "lines"] (defScope s_fewest_hands) := ⟨rfl, rfl, rfl, by decide +kernel, rfl, by decide +kernel, by decide +kernel⟩
noncomputable def m_fewest_hands (times2344 : R_Times) (lines2345 : (List (T3 Str Int Int))) : Option (((List (List Int)) × (List Int))) :=
 (bnd (a_asked_lines ((⟨times2344.my_names, times2344.my_rows⟩ : R_Times), lines2345, ())) fun asked_lines2350 => (bnd (a_behind_by ((⟨times2344.my_names, times2344.my_rows⟩ : R_Times), lines2345, ())) fun behind_by2360 => (lt (behind_by2360 : (List (List Int))) fun behind2361 =>
 (bnd (a_paired (behind2361, ())) fun paired2370 => (chk (RgB ((lines2345).length : Int)) (bnd (foldO (fun (b2392 : (List (List Int))) (x2394 : Int) =>
 (bnd (atI paired2370.2 x2394) fun at2419 => (bnd (if (at2419).isNone = true then
 (lt (([] : List Int) : (List Int)) fun hand2524 =>
 (lt ((some x2394) : (Option Int)) fun now2534 =>
 (bnd (whileO (fun (b2545 : ((List Int) × (Option Int))) => (some (b2545.2).isSome)) (fun (b2545 : ((List Int) × (Option Int))) =>
 (bnd b2545.2 fun got2576 => (chk ((b2545.1).length < sizeLine) (lt ((b2545.1 ++ [got2576]) : (List Int)) fun hand2574 =>
 (bnd b2545.2 fun got2580 => (bnd (atI paired2370.1 got2580) fun at2581 => (lt (at2581 : (Option Int)) fun now2582 =>
 (some (hand2574, now2582))))))))) fuel (hand2524, now2534)) fun o2543 =>
 (chk ((b2392).length < sizeLine) (lt ((b2392 ++ [o2543.1]) : (List (List Int))) fun ll2606 =>
 (some ll2606))))))
 else
 (some b2392) : Option ((List (List Int)))) fun b2515 =>
 (some b2515)))) ([] : (List (List Int))) (rng 0 ((lines2345).length : Int))) fun o2390 =>
 (chk (RgB ((lines2345).length : Int)) (bnd (compO (fun (x2644 : Int) => (bnd (atI paired2370.1 x2644) fun at2661 => (some (at2661).isNone))) (fun (x2644 : Int) => (some x2644)) (rng 0 ((lines2345).length : Int))) fun ys2662 => (chk ((ys2662).length ≤ sizeLine) (lt (ys2662 : (List Int)) fun begins2665 =>
 (bnd (a_found_ways (behind2361, paired2370.2, begins2665, ())) fun found_ways2682 => (bnd (mapO (fun (x2695 : Int) => (bnd (atI paired2370.2 x2695) fun at2713 => (some at2713))) (List.map (fun (z : Int × Int) => z.1) found_ways2682)) fun ys2714 => (chk ((ys2714).length ≤ sizeLine) (chk (((List.map some begins2665)).length + (ys2714).length ≤ sizeLine) (lt (((List.map some begins2665) ++ ys2714) : (List (Option Int))) fun seen2717 =>
 (chk (RgB ((lines2345).length : Int)) (chk (((List.map (fun (x2725 : Int) => x2725) (List.filter (fun (x2725 : Int) => ((memF (some x2725) seen2717) && (!(dval found_ways2682 x2725).isSome))) (rng 0 ((lines2345).length : Int))))).length ≤ sizeLine) (lt ((List.map (fun (x2725 : Int) => x2725) (List.filter (fun (x2725 : Int) => ((memF (some x2725) seen2717) && (!(dval found_ways2682 x2725).isSome))) (rng 0 ((lines2345).length : Int)))) : (List Int)) fun apart2746 =>
 (some (o2390, apart2746))))))))))))))))))))
noncomputable abbrev a_fewest_hands : R_Times × (List (T3 Str Int Int)) × Unit → Option (((List (List Int)) × (List Int))) := fun x => m_fewest_hands x.1 x.2.1
theorem ok_fewest_hands_fn {P : Program} {w : World} {K : PySem.W.Frag} {mg : Str → Option Value} {base : Heap} {f : Addr} {fd : FuncData} (F : FunM K "fewest_hands" "fewest_hands" s_fewest_hands f fd) (C_asked_lines : Cal P w K mg base CX0 2 "asked_lines" (spI K pre_asked_lines a_asked_lines ok_asked_lines noEr)) (C_behind_by : Cal P w K mg base CX0 3 "behind_by" (spI K pre_behind_by a_behind_by ok_behind_by noEr)) (C_paired : Cal P w K mg base CX0 2 "paired" (spI K pre_paired a_paired ok_paired noEr)) (C_found_ways : Cal P w K mg base CX0 1 "found_ways" (spI K pre_found_ways a_found_ways ok_found_ways noEr)) (z_range : mg "range" = none) (z_len : mg "len" = none) : FnOk P w K mg base CX0 4 f fd ["times", "lines"] (spI K pre_fewest_hands a_fewest_hands ok_fewest_hands noEr) := by
  refine mk_I (k := 3) F sc_fewest_hands (fun vs a L R h => by obtain ⟨_, _, _, _, rfl, _⟩ := h; rfl) ?_
  rintro cdv A' outer sh0 H0 X0 hr s0 P0 L0 R0 vs ⟨times2344, lines2345, _⟩ o0 Q ⟨atimes, atimes_my_names, atimes_my_rows, alines, rfl, rfl, rfl⟩ iv2346 ro hm hQ
  unfold a_fewest_hands m_fewest_hands at hm
  dsimp only at hm
  have iv2347 : Iv K P0 s0 s0 [top, fz alines (lines2345 : (List (T3 Str Int Int))), top, top, top, top, top, top, top, top, top, top, top, top, top, top, top] := Iv.sel iv2346 [none, some 0, none, none, none, none, none, none, none, none, none, none, none, none, none, none, none] (by decide +kernel) (by kernel_rfl)
  obtain ⟨asked_lines2350, h_asked_lines2350, hm⟩ := bndE hm
  refine do_exprG (eg_call (ok' := (fun v L' => ∃ (bres : V), v = bres ∧ L' = [fz bres (asked_lines2350 : Bool)])) (ca_fn (E := fun _ _ _ _ => False) C_asked_lines pass00 hr (by decide) (ea_cons (raw_var 0 rfl) (ea_cons (ev_var 1 rfl (Iv.fz (x := (lines2345 : (List (T3 Str Int Int)))) iv2347 1)) ea_nil))) iv2347 ro [.inr 0, .inr 1, .inr 2] (fun vs s2 k2 r2 => by obtain ⟨_, _, rfl, rfl, v2348, _, rfl, r2349, rfl⟩ := r2; exact ⟨[fz v2348 (lines2345 : (List (T3 Str Int Int)))], ⟨(atimes), (atimes_my_names), (atimes_my_rows), v2348, rfl, rfl, rfl⟩, (all_cons r2349 all_nil), (fun v L' z => by obtain ⟨_, _, _, _, e, z⟩ := z; cases e; exact z), (fun e L' z => z.elim)⟩) h_asked_lines2350) (fun v2351 s2352 L2353 z2354 iv2355 => ?_)
  have iv2357 := Iv.ex iv2347 (Iv.exx iv2355)
  obtain ⟨behind_by2360, h_behind_by2360, hm⟩ := bndE hm
  refine do_set 2 (ev_of_eg (eg_call (ok' := (fun v L' => ∃ (bres : V), v = bres ∧ L' = [fz bres (behind_by2360 : (List (List Int)))])) (ca_fn (E := fun _ _ _ _ => False) C_behind_by pass00 hr (by decide) (ea_cons (raw_var 0 rfl) (ea_cons (ev_var 1 rfl (Iv.fz (x := (lines2345 : (List (T3 Str Int Int)))) iv2357 1)) ea_nil))) iv2357 ro [.inr 0, .inr 1, .inr 2] (fun vs s2 k2 r2 => by obtain ⟨_, _, rfl, rfl, v2358, _, rfl, r2359, rfl⟩ := r2; exact ⟨[fz v2358 (lines2345 : (List (T3 Str Int Int)))], ⟨(atimes), (atimes_my_names), (atimes_my_rows), v2358, rfl, rfl, rfl⟩, (all_cons r2359 all_nil), (fun v L' z => by obtain ⟨_, _, _, _, e, z⟩ := z; cases e; exact z), (fun e L' z => z.elim)⟩) h_behind_by2360) (fun v L' z => by obtain ⟨_, rfl, rfl⟩ := z; exact ⟨[], rfl⟩)) (fun v2365 s2363 e2364 r2366 => ?_) sc_fewest_hands.nd
  obtain ⟨behind2361, q2362, hm⟩ := ltE hm
  have iv2367 := Iv.sf iv2357 2 e2364 r2366 q2362
  obtain ⟨paired2370, h_paired2370, hm⟩ := bndE hm
  refine do_unpK2 9 10 (ek_of (eg_call (ok' := (fun v L' => ∃ (p2376 : Addr) (p2377 : Addr) (p2378 : Addr), v = (.ref p2376) ∧ L' = [tc p2376 [(.ref p2377), (.ref p2378)], ol p2377 (paired2370.1 : (List (Option Int))), ol p2378 (paired2370.2 : (List (Option Int)))])) (ca_fn (E := fun _ _ _ _ => False) C_paired pass00 hr (by decide) (ea_cons (ev_var 2 rfl (Iv.fz (x := (behind2361 : (List (List Int)))) iv2367 2)) ea_nil)) iv2367 ro [] (fun vs s2 k2 r2 => by obtain ⟨v2368, _, rfl, r2369, rfl⟩ := r2; exact ⟨[fz v2368 (behind2361 : (List (List Int)))], ⟨v2368, rfl, rfl, rfl⟩, (all_cons r2369 all_nil), (fun v L' z => by obtain ⟨_, e, z⟩ := z; cases e; exact z), (fun e L' z => z.elim)⟩) h_paired2370) iv2367) (fun v2374 s2372 z => ?_) (pg_tup rfl (pgs_cons (pg_name (i := 9) sc_fewest_hands.nd rfl (by first | exact Or.inl rfl | exact Or.inr rfl)) (pgs_cons (pg_name (i := 10) sc_fewest_hands.nd rfl (by first | exact Or.inl rfl | exact Or.inr rfl)) pgs_nil)))
  obtain ⟨L2373, ⟨p2376, p2377, p2378, rfl, rfl⟩, hf2379, iv2371⟩ := z
  refine ⟨_, _, _, rfl, Iv.tc iv2371 17, ?_⟩
  have iv2380 : Iv K P0 s0 s2372 [top, fz alines (lines2345 : (List (T3 Str Int Int))), fz v2365 (behind2361 : (List (List Int))), top, top, top, top, top, top, ol p2377 (paired2370.1 : (List (Option Int))), ol p2378 (paired2370.2 : (List (Option Int))), top, top, top, top, top, top] := Iv.sel iv2371 [none, some 1, some 2, none, none, none, none, none, none, some 18, some 19, none, none, none, none, none, none] (by decide +kernel) (by kernel_rfl)
  refine do_setG 3 (eg_LL0 (α := Int) (en_list (xs := ([] : List Rw)) ee_nil (by simp [sizeLine]))) (fun v2382 s2383 L2384 z2387 iv2385 => ?_) sc_fewest_hands.nd
  obtain ⟨p2381, rfl, rfl⟩ := z2387
  have iv2386 := Iv.add iv2380 iv2385
  have iv2388 : Iv K P0 s0 s2383 [top, fz alines (lines2345 : (List (T3 Str Int Int))), fz v2365 (behind2361 : (List (List Int))), oll p2381 (([] : (List (List Int))) : (List (List Int))), top, top, top, top, top, ol p2377 (paired2370.1 : (List (Option Int))), ol p2378 (paired2370.2 : (List (Option Int))), top, top, top, top, top, top] := Iv.sel iv2386 [none, some 1, some 2, some 17, none, none, none, none, none, some 9, some 10, none, none, none, none, none, none] (by decide +kernel) (by kernel_rfl)
  obtain ⟨hc2389, hm⟩ := chkE hm
  obtain ⟨o2390, ho2391, hm⟩ := bndE hm
  refine do_forO (υ := (List (List Int))) PassesOwn.never rfl (ei_range1 z_range (ev_len z_len (Ev.r (ev_var 1 rfl (Iv.fz (x := (lines2345 : (List (T3 Str Int Int)))) iv2388 1)))) hc2389) (pg_name (i := 4) sc_fewest_hands.nd rfl (by first | exact Or.inl rfl | exact Or.inr rfl)) tg_n ho2391 (fun (b2392 : (List (List Int))) (σ' : L2.St) (t' : S) => ∃ (w_hands : LL) (y_hand : Option V) (y_now : Option V) (y_place : Option V), σ' = [some (.ref atimes), some alines, some v2365, some (.ref w_hands.p), y_place, none, none, none, none, some (.ref p2377), some (.ref p2378), y_hand, y_now] ∧ Iv K P0 s0 t' [top, fz alines (lines2345 : (List (T3 Str Int Int))), fz v2365 (behind2361 : (List (List Int))), oll w_hands (b2392 : (List (List Int))), top, top, top, top, top, ol p2377 (paired2370.1 : (List (Option Int))), ol p2378 (paired2370.2 : (List (Option Int))), top, top, top, top, top, top]) (fun s2634 k2635 => by have iv2636 := Iv.ex iv2388 k2635; exact ⟨p2381, _, _, _, rfl, Iv.sel iv2636 [none, some 1, some 2, some 3, none, none, none, none, none, some 9, some 10, none, none, none, none, none, none] (by decide +kernel) (by kernel_rfl)⟩) (fun s2395 k2396 x2394 b2392 b2393 σ2405 σ2406 t2403 t2404 hx2397 hm2398 fl2399 hR2400 k2401 hB2402 => ?_) (fun s2628 k2629 σ2630 t2631 fl2632 hR2633 => ?_)
  · have hf2407 := Fle.trans k2396.f fl2399
    obtain ⟨w2408, y2409, y2410, y2411, rfl, iv2412⟩ := hR2400
    obtain ⟨v2413, r2414, rfl⟩ := hB2402
    have iv2415 := Iv.ex iv2412 k2401
    have iv2416 := Iv.sf iv2415 4 (Ex.refl t2404) r2414 rfl
    have fl2417 := Fle.trans (Fle.refl t2404.F) (Ex.refl t2404).f
    obtain ⟨at2419, h_at2419, hm2398⟩ := bndE hm2398
    obtain ⟨b2515, hj2516, hm2398⟩ := bndE hm2398
    refine do_if (EvB.t (eb_isN (ev_ix (er_raw (xs := (paired2370.2 : (List (Option Int)))) (raw_var 10 rfl) (Own.r (Iv.ol (xs := (paired2370.2 : (List (Option Int)))) iv2416 10))) (ev_var 4 rfl (Iv.fz (x := (x2394 : Int)) iv2416 4)) h_at2419))) (fun (σ' : L2.St) (t' : S) => Fle t2404.F t'.F ∧ ∃ (w_hands : LL) (y_hand : Option V) (y_now : Option V), σ' = [some (.ref atimes), some alines, some v2365, some (.ref w_hands.p), some v2413, none, none, none, none, some (.ref p2377), some (.ref p2378), y_hand, y_now] ∧ Iv K P0 s0 t' [top, fz alines (lines2345 : (List (T3 Str Int Int))), fz v2365 (behind2361 : (List (List Int))), oll w_hands (b2515 : (List (List Int))), fz v2413 (x2394 : Int), top, top, top, top, ol p2377 (paired2370.1 : (List (Option Int))), ol p2378 (paired2370.2 : (List (Option Int))), top, top, top, top, top, top]) (fun hb2517 s2518 e2519 => ?_) (fun hb2611 s2612 e2613 => ?_) (fun σ2618 s2619 hM2620 => ?_)
    · have hm2520 := iteE1 hj2516 hb2517
      have iv2521 := Iv.ex iv2416 e2519
      have fl2522 := Fle.trans (Fle.refl t2404.F) e2519.f
      have fl2523 := Fle.trans (Fle.refl t2404.F) e2519.f
      refine do_setN 11 (en_list (xs := ([] : List Int)) ee_nil (by simp [sizeLine])) (fun p2528 s2526 e2527 n2529 o2530 => ?_) sc_fewest_hands.nd
      obtain ⟨hand2524, q2525, hm2520⟩ := ltE hm2520
      have iv2531 := Iv.sl iv2521 11 e2527 n2529 o2530 q2525
      have fl2532 := Fle.trans fl2522 e2527.f
      have fl2533 := Fle.trans fl2523 e2527.f
      refine do_set 12 (ev_some (ev_var 4 rfl (Iv.fz (x := (x2394 : Int)) iv2531 4))) (fun v2538 s2536 e2537 r2539 => ?_) sc_fewest_hands.nd
      obtain ⟨now2534, q2535, hm2520⟩ := ltE hm2520
      have iv2540 := Iv.sf iv2531 12 e2537 r2539 q2535
      have fl2541 := Fle.trans fl2532 e2537.f
      have fl2542 := Fle.trans fl2533 e2537.f
      obtain ⟨o2543, ho2544, hm2520⟩ := bndE hm2520
      refine do_whileO (υ := ((List Int) × (Option Int))) PassesOwn.never ho2544 (fun (b2545 : ((List Int) × (Option Int))) (σ' : L2.St) (t' : S) => ∃ (v_now : V), σ' = [some (.ref atimes), some alines, some v2365, some (.ref w2408.p), some v2413, none, none, none, none, some (.ref p2377), some (.ref p2378), some (.ref p2528), some v_now] ∧ Iv K P0 s0 t' [top, fz alines (lines2345 : (List (T3 Str Int Int))), fz v2365 (behind2361 : (List (List Int))), oll w2408 (b2392 : (List (List Int))), fz v2413 (x2394 : Int), top, top, top, top, ol p2377 (paired2370.1 : (List (Option Int))), ol p2378 (paired2370.2 : (List (Option Int))), ol p2528 (b2545.1 : (List Int)), fz v_now (b2545.2 : (Option Int)), top, top, top, top]) ⟨v2538, rfl, Iv.sel iv2540 [none, some 1, some 2, some 3, some 4, none, none, none, none, some 9, some 10, some 11, some 12, none, none, none, none] (by decide +kernel) (by kernel_rfl)⟩ (fun b2545 x2551 σ2548 t2547 hm2552 fl2549 hR2550 => ?_) (fun b2545 b2546 σ2557 t2555 t2556 hc2561 hm2562 fl2558 hR2559 k2560 => ?_) (fun σ2590 t2591 t2592 hc2593 fl2594 hR2595 k2596 => ?_)
      · obtain ⟨v2553, rfl, iv2554⟩ := hR2550
        obtain rfl := Option.some.inj hm2552
        exact (EvB.t (eb_notN (ev_var 12 rfl (Iv.fz (x := (b2545.2 : (Option Int))) iv2554 12))))
      · obtain ⟨v2563, rfl, iv2564⟩ := hR2559
        have iv2565 := Iv.ex iv2564 k2560
        obtain ⟨got2576, h_got2576, hm2562⟩ := bndE hm2562
        obtain ⟨hc2577, hm2562⟩ := chkE hm2562
        refine do_append 11 rfl (Iv.ol (xs := (b2545.1 : (List Int))) iv2565 11) (ev_some' (ev_var 12 rfl (Iv.fz (x := (b2545.2 : (Option Int))) iv2565 12)) h_got2576) hc2577 (fun s2571 m2572 o2573 => ?_)
        obtain ⟨hand2574, q2575, hm2562⟩ := ltE hm2562
        have iv2578 := Iv.ml iv2565 11 m2572 o2573 q2575
        have fl2579 := Fle.trans (Fle.refl t2556.F) m2572.f
        obtain ⟨got2580, h_got2580, hm2562⟩ := bndE hm2562
        obtain ⟨at2581, h_at2581, hm2562⟩ := bndE hm2562
        refine do_set 12 (ev_ix (er_raw (xs := (paired2370.1 : (List (Option Int)))) (raw_var 9 rfl) (Own.r (Iv.ol (xs := (paired2370.1 : (List (Option Int)))) iv2578 9))) (ev_some' (ev_var 12 rfl (Iv.fz (x := (b2545.2 : (Option Int))) iv2578 12)) h_got2580) h_at2581) (fun v2586 s2584 e2585 r2587 => ?_) sc_fewest_hands.nd
        obtain ⟨now2582, q2583, hm2562⟩ := ltE hm2562
        have iv2588 := Iv.sf iv2578 12 e2585 r2587 q2583
        have fl2589 := Fle.trans fl2579 e2585.f
        obtain rfl := Option.some.inj hm2562
        exact do_nil ⟨s2584, rfl, fl2589, ⟨v2586, rfl, Iv.sel iv2588 [none, some 1, some 2, some 3, some 4, none, none, none, none, some 9, some 10, some 11, some 12, none, none, none, none] (by decide +kernel) (by kernel_rfl)⟩⟩
      · obtain ⟨v2597, rfl, iv2598⟩ := hR2595
        have iv2599 := Iv.ex iv2598 k2596
        have fl2600 := Fle.trans (Fle.trans fl2541 fl2594) k2596.f
        have fl2601 := Fle.trans (Fle.trans fl2542 fl2594) k2596.f
        obtain ⟨hc2602, hm2520⟩ := chkE hm2520
        refine do_appendLL (raw_var 3 rfl) (Iv.oll (xss := (b2392 : (List (List Int)))) iv2599 3) (raw_var 11 rfl) hc2602 (fun s2603 m2604 o2605 => ?_)
        obtain ⟨ll2606, q2607, hm2520⟩ := ltE hm2520
        have iv2608 := Iv.all (xs := (o2543.1 : (List Int))) iv2599 3 11 m2604 o2605 q2607
        have fl2609 := Fle.trans fl2600 m2604.f
        have fl2610 := Fle.trans fl2601 m2604.f
        obtain rfl := Option.some.inj hm2520
        exact do_nil ⟨s2603, rfl, fl2610, ⟨(LL.mk w2408.p (w2408.q ++ [p2528])), _, _, rfl, Iv.sel iv2608 [none, some 1, some 2, some 3, some 4, none, none, none, none, some 9, some 10, none, none, none, none, none, none] (by decide +kernel) (by kernel_rfl)⟩⟩
    · have hm2614 := iteE2 hj2516 hb2611
      have iv2615 := Iv.ex iv2416 e2613
      have fl2616 := Fle.trans (Fle.refl t2404.F) e2613.f
      have fl2617 := Fle.trans (Fle.refl t2404.F) e2613.f
      obtain rfl := Option.some.inj hm2614
      exact do_nil ⟨s2612, rfl, fl2617, ⟨w2408, _, _, rfl, Iv.sel iv2615 [none, some 1, some 2, some 3, some 4, none, none, none, none, some 9, some 10, none, none, none, none, none, none] (by decide +kernel) (by kernel_rfl)⟩⟩
    · obtain ⟨hf2621, hR2622⟩ := hM2620
      obtain ⟨w2623, y2624, y2625, rfl, iv2626⟩ := hR2622
      have fl2627 := Fle.trans (Fle.refl t2404.F) hf2621
      obtain rfl := Option.some.inj hm2398
      exact do_nil ⟨s2619, rfl, fl2627, ⟨w2623, _, _, _, rfl, Iv.sel iv2626 [none, some 1, some 2, some 3, none, none, none, none, none, some 9, some 10, none, none, none, none, none, none] (by decide +kernel) (by kernel_rfl)⟩⟩
  · have hf2637 := Fle.trans k2629.f fl2632
    obtain ⟨w2638, y2639, y2640, y2641, rfl, iv2642⟩ := hR2633
    obtain ⟨hc2643, hm⟩ := chkE hm
    obtain ⟨ys2662, h_ys2662, hm⟩ := bndE hm
    obtain ⟨hc2663, hm⟩ := chkE hm
    refine do_setL 5 (en_comp1 (own := [("place", 4)]) (j := 4) (t := fun (x2644 : Int) => (bnd (atI paired2370.1 x2644) fun at2661 => (some (at2661).isNone))) (f := fun (x2644 : Int) => (some x2644)) rfl sc_fewest_hands.nd (ei_range1 z_range (ev_len z_len (Ev.r (ev_var 1 rfl (Iv.fz (x := (lines2345 : (List (T3 Str Int Int)))) iv2642 1)))) hc2643) (blkOk_by (own := [("place", 4)]) (N := N_fewest_hands) (sc := defScope s_fewest_hands) (by decide +kernel)) rfl (by decide) (fun _ _ _ _ _ => pg_name (i := 4) sc_fewest_hands.nd rfl (by first | exact Or.inl rfl | exact Or.inr rfl)) h_ys2662 hc2663 (fun x2644 y2645 v2658 s2646 hx2648 e2647 r2659 hf2649 _ _ _ _ _ => by have z2656 := Own.ex (p := p2377) (xs := (paired2370.1 : (List (Option Int)))) (Iv.ol (xs := (paired2370.1 : (List (Option Int)))) iv2642 9) e2647; obtain ⟨at2661, h_at2661, hf2649⟩ := bndE hf2649; obtain rfl := Option.some.inj hf2649; exact (EvB.t (eb_isN (ev_ix (er_raw (xs := (paired2370.1 : (List (Option Int)))) (raw_var 9 rfl) (Own.r z2656)) (ev_var 4 rfl r2659) h_at2661)))) (fun x2644 y2645 v2658 s2646 hx2648 e2647 r2659 ht2664 hf2649 _ _ _ _ _ => by obtain rfl := Option.some.inj hf2649; exact (ev_var 4 rfl r2659))) (fun p2671 s2667 e2668 n2672 o2673 => ?_) rfl rfl
    obtain ⟨s2674, hs2675, e2676, r2670⟩ := frz_ex e2668 n2672 o2673
    rw [← hs2675]
    obtain ⟨begins2665, q2666, hm⟩ := ltE hm
    have iv2677 := Iv.sf iv2642 5 e2676 r2670 q2666
    obtain ⟨found_ways2682, h_found_ways2682, hm⟩ := bndE hm
    refine do_setG 6 (eg_call (ok' := (fun v L' => ∃ (bres : Addr), v = (.ref bres) ∧ L' = [od bres (found_ways2682 : (List (Int × Int)))])) (ca_fn (E := fun _ _ _ _ => False) C_found_ways pass00 hr (by decide) (ea_cons (ev_var 2 rfl (Iv.fz (x := (behind2361 : (List (List Int)))) iv2677 2)) (ea_cons (raw_var 10 rfl) (ea_cons (ev_var 5 rfl (Iv.fz (x := (begins2665 : (List Int))) iv2677 5)) ea_nil)))) iv2677 ro [.inl 10] (fun vs s2 k2 r2 => by obtain ⟨v2678, _, rfl, r2679, _, _, rfl, rfl, v2680, _, rfl, r2681, rfl⟩ := r2; exact ⟨[fz v2678 (behind2361 : (List (List Int))), fz v2680 (begins2665 : (List Int))], ⟨v2678, (p2378), v2680, rfl, rfl, rfl⟩, (all_cons r2679 (all_cons r2681 all_nil)), (fun v L' z => by obtain ⟨_, _, _, e, z⟩ := z; cases e; exact z), (fun e L' z => z.elim)⟩) h_found_ways2682) (fun v2684 s2685 L2686 z2689 iv2687 => ?_) sc_fewest_hands.nd
    obtain ⟨p2683, rfl, rfl⟩ := z2689
    have iv2688 := Iv.add iv2677 iv2687
    have iv2690 : Iv K P0 s0 s2685 [top, fz alines (lines2345 : (List (T3 Str Int Int))), fz v2365 (behind2361 : (List (List Int))), oll w2638 (o2390 : (List (List Int))), top, fz (V.ref p2671) (begins2665 : (List Int)), od p2683 (found_ways2682 : (List (Int × Int))), top, top, ol p2377 (paired2370.1 : (List (Option Int))), ol p2378 (paired2370.2 : (List (Option Int))), top, top, top, top, top, top] := Iv.sel iv2688 [none, some 1, some 2, some 3, none, some 5, some 17, none, none, some 9, some 10, none, none, none, none, none, none] (by decide +kernel) (by kernel_rfl)
    obtain ⟨ys2714, h_ys2714, hm⟩ := bndE hm
    obtain ⟨hc2715, hm⟩ := chkE hm
    obtain ⟨hc2716, hm⟩ := chkE hm
    refine do_set 7 (EvN.ev (en_cat (Ev.r (ev_so (ev_var 5 rfl (Iv.fz (x := (begins2665 : (List Int))) iv2690 5)))) (EvN.r (en_lockI iv2690 6 rfl (fun ob2691 kv2692 s2693 iv2694 => EvL.n (en_comp0G (own := [("place", 4)]) (j := 4) (f := fun (x2695 : Int) => (bnd (atI paired2370.2 x2695) fun at2713 => (some at2713))) (fun _ _ e h => GD.ex h e) (Iv.gd iv2694 6) rfl sc_fewest_hands.nd (ei_keys (raw_var 6 rfl) (Iv.gd iv2694 6)) (blkOk_by (own := [("place", 4)]) (N := N_fewest_hands) (sc := defScope s_fewest_hands) (by decide +kernel)) rfl (by decide) (fun _ _ _ _ _ => pg_name (i := 4) sc_fewest_hands.nd rfl (by first | exact Or.inl rfl | exact Or.inr rfl)) h_ys2714 hc2715 (fun x2695 y2696 v2711 s2697 hx2699 e2698 r2712 hf2700 _ _ _ _ _ => by have z2708 := Own.ex (p := p2378) (xs := (paired2370.2 : (List (Option Int)))) (Iv.ol (xs := (paired2370.2 : (List (Option Int)))) iv2694 10) e2698; obtain ⟨at2713, h_at2713, hf2700⟩ := bndE hf2700; obtain rfl := Option.some.inj hf2700; exact (ev_ix (er_raw (xs := (paired2370.2 : (List (Option Int)))) (raw_var 10 rfl) (Own.r z2708)) (ev_var 4 rfl r2712) h_at2713)))))) hc2716)) (fun v2721 s2719 e2720 r2722 => ?_) sc_fewest_hands.nd
    obtain ⟨seen2717, q2718, hm⟩ := ltE hm
    have iv2723 := Iv.sf iv2690 7 e2720 r2722 q2718
    obtain ⟨hc2724, hm⟩ := chkE hm
    obtain ⟨hc2744, hm⟩ := chkE hm
    refine do_setL 8 (en_comp1 (own := [("place", 4)]) (j := 4) (t := fun (x2725 : Int) => (some ((memF (some x2725) seen2717) && (!(dval found_ways2682 x2725).isSome)))) (f := fun (x2725 : Int) => (some x2725)) rfl sc_fewest_hands.nd (ei_range1 z_range (ev_len z_len (Ev.r (ev_var 1 rfl (Iv.fz (x := (lines2345 : (List (T3 Str Int Int)))) iv2723 1)))) hc2724) (blkOk_by (own := [("place", 4)]) (N := N_fewest_hands) (sc := defScope s_fewest_hands) (by decide +kernel)) rfl (by decide) (fun _ _ _ _ _ => pg_name (i := 4) sc_fewest_hands.nd rfl (by first | exact Or.inl rfl | exact Or.inr rfl)) (compO_pure (fun (x2725 : Int) => ((memF (some x2725) seen2717) && (!(dval found_ways2682 x2725).isSome))) (fun (x2725 : Int) => x2725) (rng 0 ((lines2345).length : Int))) hc2744 (fun x2725 y2726 v2742 s2727 hx2729 e2728 r2743 hf2730 _ _ _ _ _ => by have z2740 := RepD.ex (p := p2683) (xs := (found_ways2682 : (List (Int × Int)))) (OwnD.r (Iv.od (xs := (found_ways2682 : (List (Int × Int)))) iv2723 6)) e2728; have z2741 := Enc.mono e2728.f (Iv.fz (v := v2721) (x := (seen2717 : (List (Option Int)))) iv2723 7); obtain rfl := Option.some.inj hf2730; exact (EvW.tt (EvC.w (ec_and (eb_inF (ε := (Option Int)) (ev_some (ev_var 4 rfl r2743)) (Ev.r (ev_var 7 rfl z2741))) fun _ => (ec_and1 (ev_dnotIn hr (ev_var 4 rfl r2743) (raw_var 6 rfl) z2740)))))) (fun x2725 y2726 v2742 s2727 hx2729 e2728 r2743 ht2745 hf2730 _ _ _ _ _ => by obtain rfl := Option.some.inj hf2730; exact (ev_var 4 rfl r2743))) (fun p2750 s2748 e2749 n2751 o2752 => ?_) rfl rfl
    obtain ⟨apart2746, q2747, hm⟩ := ltE hm
    have iv2753 := Iv.sl iv2723 8 e2749 n2751 o2752 q2747
    obtain rfl := Option.some.inj hm
    refine do_retK (ek_of (eg_tup (egs_cons (eg_raw (raw_var 3 rfl)) (egs_cons (eg_raw (raw_var 8 rfl)) egs_nil)) (fun vs L' z => by obtain ⟨_, _, _, _, rfl, rfl, ⟨rfl, rfl⟩, ⟨_, _, _, _, rfl, rfl, ⟨rfl, rfl⟩, ⟨rfl, rfl⟩⟩⟩ := z; simp)) iv2753) (fun v2758 s2756 z => ?_)
    obtain ⟨L2757, ⟨p2754, _, _, rfl, ⟨_, _, _, _, rfl, rfl, ⟨rfl, rfl⟩, ⟨_, _, _, _, rfl, rfl, ⟨rfl, rfl⟩, ⟨rfl, rfl⟩⟩⟩, rfl⟩, _, iv2755⟩ := z
    exact hQ _ _ _ ⟨atimes, atimes_my_names, atimes_my_rows, alines, rfl, p2754, w2638, p2750, rfl, rfl⟩ (Iv.sel iv2755 [some 17, some 3, some 8] (by decide +kernel) (by kernel_rfl))
abbrev s_l_places : Stmt := topS 30
abbrev N_l_places : List Str := ["_law_found", "_law_many_here", "_law_one"]
theorem sc_l_places : FnScope N_l_places ["_law_found", "_law_many_here"] (defScope s_l_places) := ⟨rfl, rfl, rfl, by decide +kernel, rfl, by decide +kernel, by decide +kernel⟩
noncomputable def m_l_places (found2759 : (List Int)) (many_here2762 : Int) : Option Bool :=
 (if (!true) = true then
 (some false)
 else
 (bnd (foldF (ρ := Bool) (fun (b2782 : Unit) (x2784 : Int) =>
 (if ((!true) || (false || ((decide (x2784 < (0 : Int))) || (decide (many_here2762 ≤ x2784))))) = true then
 (some (Fl.rt false))
 else
 (some (Fl.nx ())))) () found2759) fun o2780 =>
 (Fl.go o2780 (fun b2832 => (some true)) (fun rr => (some rr)))))
noncomputable abbrev a_l_places : (List Int) × Int × Unit → Option Bool := fun a => m_l_places a.1 a.2.1
theorem ok_l_places {P : Program} {w : World} {K : PySem.W.Frag} {mg : Str → Option Value} {base : Heap} {f : Addr} {fd : FuncData} (F : FunP K "_law_places" s_l_places f fd) (hmg : mg "_law_places" = some (.ref f)) (z_isinstance : mg "isinstance" = none) (z_list : mg "list" = none) (z_int : mg "int" = none) (z_bool : mg "bool" = none) : Cal P w K mg base CX0 1 "_law_places" (sp K a_l_places) := by
  refine mk_cal (k := 0) F hmg (F.bindsN fun _ _ _ _ _ _ us hl => match us, hl with | [_, _], _ => rfl) sc_l_places len2 ?_
  rintro cdv A' outer sh0 H0 X0 hr s0 vs ⟨found2759, many_here2762, _⟩ r0 Q ⟨v2760, _, rfl, r2761, v2763, _, rfl, r2764, rfl⟩ hm hQ
  unfold a_l_places m_l_places at hm
  dsimp only at hm
  have iv2765 : Iv K (fun _ => False) s0 s0 [fz v2760 (found2759 : (List Int)), fz v2763 (many_here2762 : Int), top] := (Iv.sf (Iv.sf (Iv.tops (K := K) (P0 := (fun _ => False)) 3 s0) 0 (Ex.refl s0) r2761 rfl) 1 (Ex.refl s0) r2764 rfl)
  refine do_ifR (EvB.t (eb_not (eb_v (ev_isi (T := "list") (r := true) z_isinstance z_list (by decide +kernel) (ev_var 0 rfl (Iv.fz (x := (found2759 : (List Int))) iv2765 0)) (by show kitB "list" "list" = _; decide +kernel))))) (fun hb2766 s2767 e2768 => ?_) (fun hb2775 s2776 e2777 => ?_)
  · have hm2769 := iteE1 hm hb2766
    have iv2770 := Iv.ex iv2765 e2768
    obtain rfl := Option.some.inj hm2769
    exact do_ret ev_bl fun v2771 s2772 e2773 r2774 => hQ _ _ (Ex.trans (Iv.exx iv2770) e2773) r2774
  · have hm2778 := iteE2 hm hb2775
    have iv2779 := Iv.ex iv2765 e2777
    obtain ⟨o2780, ho2781, hm2778⟩ := bndE hm2778
    refine do_forF (ρ := Bool) (υ := Unit) PassesOwn.never rfl (ei_list (ev_var 0 rfl (Iv.fz (x := (found2759 : (List Int))) iv2779 0))) (pg_name (i := 2) sc_l_places.nd rfl (by first | exact Or.inl rfl | exact Or.inr rfl)) tg_n ho2781 (fun (b2782 : Unit) (σ' : L2.St) (t' : S) => ∃ (y_one : Option V), σ' = [some v2760, some v2763, y_one] ∧ Iv K (fun _ => False) s0 t' [fz v2760 (found2759 : (List Int)), fz v2763 (many_here2762 : Int), top]) (fun s2829 k2830 => by have iv2831 := Iv.ex iv2779 k2830; exact ⟨_, rfl, Iv.sel iv2831 [some 0, some 1, none] (by decide +kernel) (by kernel_rfl)⟩) (fun s2785 k2786 x2784 b2782 q2805 σ2795 σ2796 t2793 t2794 hx2787 hm2788 hq2806 fl2789 hR2790 k2791 hB2792 => ?_) (fun s2823 k2824 b2832 σ2825 t2826 ho2833 fl2827 hR2828 => ?_)
    · have hf2797 := Fle.trans k2786.f fl2789
      obtain ⟨y2798, rfl, iv2799⟩ := hR2790
      obtain ⟨v2800, r2801, rfl⟩ := hB2792
      have iv2802 := Iv.ex iv2799 k2791
      have iv2803 := Iv.sf iv2802 2 (Ex.refl t2794) r2801 rfl
      have fl2804 := Fle.trans (Fle.refl t2794.F) (Ex.refl t2794).f
      refine do_ifR (EvW.tt (EvC.w (ec_or (eb_not (eb_v (ev_isi (T := "int") (r := true) z_isinstance z_int (by decide +kernel) (ev_var 2 rfl (Iv.fz (x := (x2784 : Int)) iv2803 2)) (by show kitB "int" "int" = _; decide +kernel)))) fun _ => (ec_or (eb_v (ev_isi (T := "bool") (r := false) z_isinstance z_bool (by decide +kernel) (ev_var 2 rfl (Iv.fz (x := (x2784 : Int)) iv2803 2)) (by show kitB "int" "bool" = _; decide +kernel))) fun _ => (ec_or (eb_lt (ev_var 2 rfl (Iv.fz (x := (x2784 : Int)) iv2803 2)) ev_int) fun _ => (ec_or1 (eb_ge (ev_var 2 rfl (Iv.fz (x := (x2784 : Int)) iv2803 2)) (ev_var 1 rfl (Iv.fz (x := (many_here2762 : Int)) iv2803 1))))))))) (fun hb2807 s2808 e2809 => ?_) (fun hb2817 s2818 e2819 => ?_)
      · have hm2810 := iteE1 hm2788 hb2807
        have iv2811 := Iv.ex iv2803 e2809
        have fl2812 := Fle.trans (Fle.refl t2794.F) e2809.f
        obtain rfl := Option.some.inj hm2810
        obtain rfl := hq2806 _ rfl
        obtain rfl := Option.some.inj hm2778
        exact do_ret ev_bl fun v2813 s2814 e2815 r2816 => hQ _ _ (Ex.trans (Iv.exx iv2811) e2815) r2816
      · have hm2820 := iteE2 hm2788 hb2817
        have iv2821 := Iv.ex iv2803 e2819
        have fl2822 := Fle.trans (Fle.refl t2794.F) e2819.f
        obtain rfl := Option.some.inj hm2820
        exact do_nil ⟨s2818, rfl, _, rfl, fl2822, ⟨_, rfl, Iv.sel iv2821 [some 0, some 1, none] (by decide +kernel) (by kernel_rfl)⟩⟩
    · subst ho2833
      replace hm2778 := goN hm2778
      have hf2834 := Fle.trans k2824.f fl2827
      obtain ⟨y2835, rfl, iv2836⟩ := hR2828
      obtain rfl := Option.some.inj hm2778
      exact do_ret ev_bl fun v2837 s2838 e2839 r2840 => hQ _ _ (Ex.trans (Iv.exx iv2836) e2839) r2840
abbrev s_l_follows : Stmt := topS 29
abbrev N_l_follows : List Str := ["_law_names_here", "_law_rows_here", "_law_one", "_law_other", "_law_row_here"]
theorem sc_l_follows : FnScope N_l_follows ["_law_names_here", "_law_rows_here", "_law_one", "_law_other"] (defScope s_l_follows) := ⟨rfl, rfl, rfl, by decide +kernel, rfl, by decide +kernel, by decide +kernel⟩
noncomputable def m_l_follows (names_here2841 : (List Str)) (rows_here2844 : (List (List Int))) (one2847 : (T3 Str Int Int)) (other2850 : (T3 Str Int Int)) : Option Bool :=
 (bnd (ixOf (one2847).a names_here2841) fun ix2854 => (bnd (atI rows_here2844 (ix2854 : Int)) fun at2855 => (lt (at2855 : (List Int)) fun row_here2856 =>
 (bnd (ixOf (other2850).a names_here2841) fun ix2863 => (bnd (atI row_here2856 (ix2863 : Int)) fun at2864 => (some (decide (at2864 ≤ (((other2850).b - (one2847).c) - (1 : Int))))))))))
noncomputable abbrev a_l_follows : (List Str) × (List (List Int)) × (T3 Str Int Int) × (T3 Str Int Int) × Unit → Option Bool := fun a => m_l_follows a.1 a.2.1 a.2.2.1 a.2.2.2.1
theorem ok_l_follows {P : Program} {w : World} {K : PySem.W.Frag} {mg : Str → Option Value} {base : Heap} {f : Addr} {fd : FuncData} (F : FunP K "_law_follows" s_l_follows f fd) (hmg : mg "_law_follows" = some (.ref f))  : Cal P w K mg base CX0 1 "_law_follows" (sp K a_l_follows) := by
  refine mk_cal (k := 0) F hmg (F.bindsN fun _ _ _ _ _ _ us hl => match us, hl with | [_, _, _, _], _ => rfl) sc_l_follows len4 ?_
  rintro cdv A' outer sh0 H0 X0 hr s0 vs ⟨names_here2841, rows_here2844, one2847, other2850, _⟩ r0 Q ⟨v2842, _, rfl, r2843, v2845, _, rfl, r2846, v2848, _, rfl, r2849, v2851, _, rfl, r2852, rfl⟩ hm hQ
  unfold a_l_follows m_l_follows at hm
  dsimp only at hm
  have iv2853 : Iv K (fun _ => False) s0 s0 [fz v2842 (names_here2841 : (List Str)), fz v2845 (rows_here2844 : (List (List Int))), fz v2848 (one2847 : (T3 Str Int Int)), fz v2851 (other2850 : (T3 Str Int Int)), top] := (Iv.sf (Iv.sf (Iv.sf (Iv.sf (Iv.tops (K := K) (P0 := (fun _ => False)) 5 s0) 0 (Ex.refl s0) r2843 rfl) 1 (Ex.refl s0) r2846 rfl) 2 (Ex.refl s0) r2849 rfl) 3 (Ex.refl s0) r2852 rfl)
  obtain ⟨ix2854, h_ix2854, hm⟩ := bndE hm
  obtain ⟨at2855, h_at2855, hm⟩ := bndE hm
  refine do_set 4 (ev_ix (Ev.r (ev_var 1 rfl (Iv.fz (x := (rows_here2844 : (List (List Int)))) iv2853 1))) (ev_index (Ev.r (ev_var 0 rfl (Iv.fz (x := (names_here2841 : (List Str))) iv2853 0))) (ev_ixP (ev_var 2 rfl (Iv.fz (x := (one2847 : (T3 Str Int Int))) iv2853 2)) ev_int p3_0) h_ix2854) h_at2855) (fun v2860 s2858 e2859 r2861 => ?_) sc_l_follows.nd
  obtain ⟨row_here2856, q2857, hm⟩ := ltE hm
  have iv2862 := Iv.sf iv2853 4 e2859 r2861 q2857
  obtain ⟨ix2863, h_ix2863, hm⟩ := bndE hm
  obtain ⟨at2864, h_at2864, hm⟩ := bndE hm
  obtain rfl := Option.some.inj hm
  exact do_ret (EvB.v (eb_ge (ev_sub (ev_sub (ev_ixP (ev_var 3 rfl (Iv.fz (x := (other2850 : (T3 Str Int Int))) iv2862 3)) ev_int p3_1) (ev_ixP (ev_var 2 rfl (Iv.fz (x := (one2847 : (T3 Str Int Int))) iv2862 2)) ev_int p3_2)) ev_int) (ev_ix (Ev.r (ev_var 4 rfl (Iv.fz (x := (row_here2856 : (List Int))) iv2862 4))) (ev_index (Ev.r (ev_var 0 rfl (Iv.fz (x := (names_here2841 : (List Str))) iv2862 0))) (ev_ixP (ev_var 3 rfl (Iv.fz (x := (other2850 : (T3 Str Int Int))) iv2862 3)) ev_int p3_0) h_ix2863) h_at2864))) fun v2865 s2866 e2867 r2868 => hQ _ _ (Ex.trans (Iv.exx iv2862) e2867) r2868
abbrev s_l_right : Stmt := topS 31
abbrev N_l_right : List Str := ["_law_names_here", "_law_rows_here", "_law_lines_here", "_law_found", "_law_every", "_law_hand", "_law_place", "_law_hands", "_law_apart", "_law_some", "_law_k", "_law_one", "_law_other"]
theorem sc_l_right : FnScope N_l_right ["_law_names_here", "_law_rows_here", "_law_lines_here", "_law_found"] (defScope s_l_right) := ⟨rfl, rfl, rfl, by decide +kernel, rfl, by decide +kernel, by decide +kernel⟩
noncomputable def m_l_right (names_here2869 : (List Str)) (rows_here2872 : (List (List Int))) (lines_here2875 : (List (T3 Str Int Int))) (found2878 : ((List (List Int)) × (List Int))) : Option Bool :=
 (if ((!true) || ((!decide ((2 : Int) = (2 : Int))) || (!true))) = true then
 (some false)
 else
 (lt (found2878 : ((List (List Int)) × (List Int))) fun u2902 =>
 (lt (([] : List Int) : (List Int)) fun every2906 =>
 (bnd (foldF (ρ := Bool) (fun (b2915 : (List Int)) (x2917 : (List Int)) =>
 (bnd (m_l_places x2917 ((lines_here2875).length : Int)) fun places2948 => (if ((!places2948) || (decide (((x2917).length : Int) = (0 : Int)))) = true then
 (some (Fl.rt false))
 else
 (chk ((b2915).length + (x2917).length ≤ sizeLine) (lt ((b2915 ++ x2917) : (List Int)) fun every2966 =>
 (bnd (mapO (fun (x2974 : Int) => (bnd (atI lines_here2875 x2974) fun at2990 => (some at2990))) x2917) fun ys2991 => (chk ((ys2991).length ≤ sizeLine) (lt (ys2991 : (List (T3 Str Int Int))) fun some2993 =>
 (chk (RgB (((x2917).length : Int) - (1 : Int))) (bnd (foldF (ρ := Bool) (fun (b3010 : Unit) (x3012 : Int) =>
 (bnd (atI some2993 x3012) fun at3052 => (bnd (atI some2993 (x3012 + (1 : Int))) fun at3053 => (bnd (m_l_follows names_here2869 rows_here2872 at3052 at3053) fun follows3054 => (if (!follows3054) = true then
 (some (Fl.rt false))
 else
 (some (Fl.nx ()))))))) () (rng 0 (((x2917).length : Int) - (1 : Int)))) fun o3008 =>
 (Fl.go o3008 (fun b3081 => (some (Fl.nx every2966))) (fun rr => (some (Fl.rt rr)))))))))))))) every2906 u2902.1) fun o2913 =>
 (Fl.go o2913 (fun b3096 => (chk (RgOk 0 ((lines_here2875).length : Int)) (if (!decide ((sortI b3096) = (rng 0 ((lines_here2875).length : Int)))) = true then
 (some false)
 else
 (bnd (m_l_places u2902.2 ((lines_here2875).length : Int)) fun places3125 => (if ((!places3125) || (!decide (((u2902.2).length : Int) = ((u2902.1).length : Int)))) = true then
 (some false)
 else
 (chk ((u2902.2).length ≤ 60) (if (!decide (u2902.2 = (ssI u2902.2))) = true then
 (some false)
 else
 (bnd (foldF (ρ := Bool) (fun (b3158 : Unit) (x3160 : Int) =>
 (bnd (atI lines_here2875 x3160) fun at3184 => (lt (at3184 : (T3 Str Int Int)) fun one3185 =>
 (bnd (mapO (fun (x3218 : Int) => (bnd (atI lines_here2875 x3218) fun at3239 => (bnd (m_l_follows names_here2869 rows_here2872 one3185 at3239) fun follows3240 => (some follows3240)))) u2902.2) fun ys3241 => (chk ((ys3241).length ≤ sizeLine) (if ((ys3241).any id) = true then
 (some (Fl.rt false))
 else
 (some (Fl.nx ())))))))) () u2902.2) fun o3156 =>
 (Fl.go o3156 (fun b3268 => (some true)) (fun rr => (some rr))))))))))) (fun rr => (some rr)))))))
noncomputable abbrev a_l_right : (List Str) × (List (List Int)) × (List (T3 Str Int Int)) × ((List (List Int)) × (List Int)) × Unit → Option Bool := fun a => m_l_right a.1 a.2.1 a.2.2.1 a.2.2.2.1
theorem ok_l_right {P : Program} {w : World} {K : PySem.W.Frag} {mg : Str → Option Value} {base : Heap} {f : Addr} {fd : FuncData} (F : FunP K "_law_right" s_l_right f fd) (hmg : mg "_law_right" = some (.ref f)) (C_l_places : Cal P w K mg base CX0 1 "_law_places" (sp K a_l_places)) (C_l_follows : Cal P w K mg base CX0 1 "_law_follows" (sp K a_l_follows)) (z_isinstance : mg "isinstance" = none) (z_tuple : mg "tuple" = none) (z_len : mg "len" = none) (z_list : mg "list" = none) (z_range : mg "range" = none) (z_sorted : mg "sorted" = none) (z_set : mg "set" = none) (z_any : mg "any" = none) : Cal P w K mg base CX0 2 "_law_right" (sp K a_l_right) := by
  refine mk_cal (k := 1) F hmg (F.bindsN fun _ _ _ _ _ _ us hl => match us, hl with | [_, _, _, _], _ => rfl) sc_l_right len4 ?_
  rintro cdv A' outer sh0 H0 X0 hr s0 vs ⟨names_here2869, rows_here2872, lines_here2875, found2878, _⟩ r0 Q ⟨v2870, _, rfl, r2871, v2873, _, rfl, r2874, v2876, _, rfl, r2877, v2879, _, rfl, r2880, rfl⟩ hm hQ
  unfold a_l_right m_l_right at hm
  dsimp only at hm
  have iv2881 : Iv K (fun _ => False) s0 s0 [fz v2870 (names_here2869 : (List Str)), fz v2873 (rows_here2872 : (List (List Int))), fz v2876 (lines_here2875 : (List (T3 Str Int Int))), fz v2879 (found2878 : ((List (List Int)) × (List Int))), top, top, top, top, top, top, top, top, top] := (Iv.sf (Iv.sf (Iv.sf (Iv.sf (Iv.tops (K := K) (P0 := (fun _ => False)) 13 s0) 0 (Ex.refl s0) r2871 rfl) 1 (Ex.refl s0) r2874 rfl) 2 (Ex.refl s0) r2877 rfl) 3 (Ex.refl s0) r2880 rfl)
  refine do_ifR (EvW.tt (EvC.w (ec_or (eb_not (eb_v (ev_isi (T := "tuple") (r := true) z_isinstance z_tuple (by decide +kernel) (ev_var 3 rfl (Iv.fz (x := (found2878 : ((List (List Int)) × (List Int)))) iv2881 3)) (by show kitB "tuple" "tuple" = _; decide +kernel)))) fun _ => (ec_or (eb_ne (show Ev _ _ _ _ (2 : Int) from (ev_lenA (n := 2) (α := ((List (List Int)) × (List Int))) z_len (ev_var 3 rfl (Iv.fz (x := (found2878 : ((List (List Int)) × (List Int)))) iv2881 3)))) ev_int) fun _ => (ec_or1 (eb_not (eb_v (ev_isi (T := "list") (r := true) z_isinstance z_list (by decide +kernel) (ev_ixP (ev_var 3 rfl (Iv.fz (x := (found2878 : ((List (List Int)) × (List Int)))) iv2881 3)) ev_int p2_0) (by show kitB "list" "list" = _; decide +kernel))))))))) (fun hb2882 s2883 e2884 => ?_) (fun hb2891 s2892 e2893 => ?_)
  · have hm2885 := iteE1 hm hb2882
    have iv2886 := Iv.ex iv2881 e2884
    obtain rfl := Option.some.inj hm2885
    exact do_ret ev_bl fun v2887 s2888 e2889 r2890 => hQ _ _ (Ex.trans (Iv.exx iv2886) e2889) r2890
  · have hm2894 := iteE2 hm hb2891
    have iv2895 := Iv.ex iv2881 e2893
    refine do_unp2 7 8 (ev_var 3 rfl (Iv.fz (x := (found2878 : ((List (List Int)) × (List Int)))) iv2895 3)) (fun v2896 v2897 s2900 e2901 r2898 r2899 => ?_) (pg_tup rfl (pgs_cons (pg_name (i := 7) sc_l_right.nd rfl (by first | exact Or.inl rfl | exact Or.inr rfl)) (pgs_cons (pg_name (i := 8) sc_l_right.nd rfl (by first | exact Or.inl rfl | exact Or.inr rfl)) pgs_nil)))
    obtain ⟨u2902, q2903, hm2894⟩ := ltE hm2894
    rw [← q2903] at r2898
    have iv2904 := Iv.sf iv2895 7 e2901 r2898 rfl
    rw [← q2903] at r2899
    have iv2905 := Iv.sf iv2904 8 (Ex.refl s2900) r2899 rfl
    refine do_set 4 (EvN.ev (en_list (xs := ([] : List Int)) ee_nil (by simp [sizeLine]))) (fun v2910 s2908 e2909 r2911 => ?_) sc_l_right.nd
    obtain ⟨every2906, q2907, hm2894⟩ := ltE hm2894
    have iv2912 := Iv.sf iv2905 4 e2909 r2911 q2907
    obtain ⟨o2913, ho2914, hm2894⟩ := bndE hm2894
    refine do_forF (ρ := Bool) (υ := (List Int)) PassesOwn.never rfl (ei_list (ev_var 7 rfl (Iv.fz (x := (u2902.1 : (List (List Int)))) iv2912 7))) (pg_name (i := 5) sc_l_right.nd rfl (by first | exact Or.inl rfl | exact Or.inr rfl)) tg_n ho2914 (fun (b2915 : (List Int)) (σ' : L2.St) (t' : S) => ∃ (v_every : V) (y_some : Option V) (y_k : Option V) (y_hand : Option V), σ' = [some v2870, some v2873, some v2876, some v2879, some v_every, y_hand, none, some v2896, some v2897, y_some, y_k, none, none] ∧ Iv K (fun _ => False) s0 t' [fz v2870 (names_here2869 : (List Str)), fz v2873 (rows_here2872 : (List (List Int))), fz v2876 (lines_here2875 : (List (T3 Str Int Int))), fz v2879 (found2878 : ((List (List Int)) × (List Int))), fz v_every (b2915 : (List Int)), top, top, fz v2896 (u2902.1 : (List (List Int))), fz v2897 (u2902.2 : (List Int)), top, top, top, top]) (fun s3093 k3094 => by have iv3095 := Iv.ex iv2912 k3094; exact ⟨v2910, _, _, _, rfl, Iv.sel iv3095 [some 0, some 1, some 2, some 3, some 4, none, none, some 7, some 8, none, none, none, none] (by decide +kernel) (by kernel_rfl)⟩) (fun s2918 k2919 x2917 b2915 q2941 σ2928 σ2929 t2926 t2927 hx2920 hm2921 hq2942 fl2922 hR2923 k2924 hB2925 => ?_) (fun s3087 k3088 b3096 σ3089 t3090 ho3097 fl3091 hR3092 => ?_)
    · have hf2930 := Fle.trans k2919.f fl2922
      obtain ⟨v2931, y2932, y2933, y2934, rfl, iv2935⟩ := hR2923
      obtain ⟨v2936, r2937, rfl⟩ := hB2925
      have iv2938 := Iv.ex iv2935 k2924
      have iv2939 := Iv.sf iv2938 5 (Ex.refl t2927) r2937 rfl
      have fl2940 := Fle.trans (Fle.refl t2927.F) (Ex.refl t2927).f
      obtain ⟨places2948, h_places2948, hm2921⟩ := bndE hm2921
      refine do_ifR (EvW.tt (EvC.w (ec_or (eb_not (eb_v (ev_call C_l_places hr (by decide) (ea_cons (ev_var 5 rfl (Iv.fz (x := (x2917 : (List Int))) iv2939 5)) (ea_cons (ev_len z_len (Ev.r (ev_var 2 rfl (Iv.fz (x := (lines_here2875 : (List (T3 Str Int Int)))) iv2939 2)))) ea_nil)) h_places2948))) fun _ => (ec_or1 (eb_eq (ev_len z_len (Ev.r (ev_var 5 rfl (Iv.fz (x := (x2917 : (List Int))) iv2939 5)))) ev_int))))) (fun hb2949 s2950 e2951 => ?_) (fun hb2959 s2960 e2961 => ?_)
      · have hm2952 := iteE1 hm2921 hb2949
        have iv2953 := Iv.ex iv2939 e2951
        have fl2954 := Fle.trans (Fle.refl t2927.F) e2951.f
        obtain rfl := Option.some.inj hm2952
        obtain rfl := hq2942 _ rfl
        obtain rfl := Option.some.inj hm2894
        exact do_ret ev_bl fun v2955 s2956 e2957 r2958 => hQ _ _ (Ex.trans (Iv.exx iv2953) e2957) r2958
      · have hm2962 := iteE2 hm2921 hb2959
        have iv2963 := Iv.ex iv2939 e2961
        have fl2964 := Fle.trans (Fle.refl t2927.F) e2961.f
        obtain ⟨hc2965, hm2962⟩ := chkE hm2962
        refine do_set 4 (EvN.ev (en_cat (Ev.r (ev_var 4 rfl (Iv.fz (x := (b2915 : (List Int))) iv2963 4))) (Ev.r (ev_var 5 rfl (Iv.fz (x := (x2917 : (List Int))) iv2963 5))) hc2965)) (fun v2970 s2968 e2969 r2971 => ?_) sc_l_right.nd
        obtain ⟨every2966, q2967, hm2962⟩ := ltE hm2962
        have iv2972 := Iv.sf iv2963 4 e2969 r2971 q2967
        have fl2973 := Fle.trans fl2964 e2969.f
        obtain ⟨ys2991, h_ys2991, hm2962⟩ := bndE hm2962
        obtain ⟨hc2992, hm2962⟩ := chkE hm2962
        refine do_setL 9 (en_comp0 (own := [("_law_place", 6)]) (j := 6) (f := fun (x2974 : Int) => (bnd (atI lines_here2875 x2974) fun at2990 => (some at2990))) rfl sc_l_right.nd (ei_list (ev_var 5 rfl (Iv.fz (x := (x2917 : (List Int))) iv2972 5))) (blkOk_by (own := [("_law_place", 6)]) (N := N_l_right) (sc := defScope s_l_right) (by decide +kernel)) rfl (by decide) (fun _ _ _ _ _ => pg_name (i := 6) sc_l_right.nd rfl (by first | exact Or.inl rfl | exact Or.inr rfl)) h_ys2991 hc2992 (fun x2974 y2975 v2988 s2976 hx2978 e2977 r2989 hf2979 _ _ _ _ _ => by have z2982 := Enc.mono e2977.f (Iv.fz (v := v2876) (x := (lines_here2875 : (List (T3 Str Int Int)))) iv2972 2); obtain ⟨at2990, h_at2990, hf2979⟩ := bndE hf2979; obtain rfl := Option.some.inj hf2979; exact (ev_ix (Ev.r (ev_var 2 rfl z2982)) (ev_var 6 rfl r2989) h_at2990))) (fun p2999 s2995 e2996 n3000 o3001 => ?_) rfl rfl
        obtain ⟨s3002, hs3003, e3004, r2998⟩ := frz_ex e2996 n3000 o3001
        rw [← hs3003]
        obtain ⟨some2993, q2994, hm2962⟩ := ltE hm2962
        have iv3005 := Iv.sf iv2972 9 e3004 r2998 q2994
        have fl3006 := Fle.trans fl2973 e3004.f
        obtain ⟨hc3007, hm2962⟩ := chkE hm2962
        obtain ⟨o3008, ho3009, hm2962⟩ := bndE hm2962
        refine do_forF (ρ := Bool) (υ := Unit) PassesOwn.never rfl (ei_range1 z_range (ev_sub (ev_len z_len (Ev.r (ev_var 5 rfl (Iv.fz (x := (x2917 : (List Int))) iv3005 5)))) ev_int) hc3007) (pg_name (i := 10) sc_l_right.nd rfl (by first | exact Or.inl rfl | exact Or.inr rfl)) tg_n ho3009 (fun (b3010 : Unit) (σ' : L2.St) (t' : S) => ∃ (y_k : Option V), σ' = [some v2870, some v2873, some v2876, some v2879, some v2970, some v2936, none, some v2896, some v2897, some (V.ref p2999), y_k, none, none] ∧ Iv K (fun _ => False) s0 t' [fz v2870 (names_here2869 : (List Str)), fz v2873 (rows_here2872 : (List (List Int))), fz v2876 (lines_here2875 : (List (T3 Str Int Int))), fz v2879 (found2878 : ((List (List Int)) × (List Int))), fz v2970 (every2966 : (List Int)), fz v2936 (x2917 : (List Int)), top, fz v2896 (u2902.1 : (List (List Int))), fz v2897 (u2902.2 : (List Int)), fz (V.ref p2999) (some2993 : (List (T3 Str Int Int))), top, top, top]) (fun s3077 k3078 => by have iv3079 := Iv.ex iv3005 k3078; have fl3080 := Fle.trans fl3006 k3078.f; exact ⟨_, rfl, Iv.sel iv3079 [some 0, some 1, some 2, some 3, some 4, some 5, none, some 7, some 8, some 9, none, none, none] (by decide +kernel) (by kernel_rfl)⟩) (fun s3013 k3014 x3012 b3010 q3033 σ3023 σ3024 t3021 t3022 hx3015 hm3016 hq3034 fl3017 hR3018 k3019 hB3020 => ?_) (fun s3071 k3072 b3081 σ3073 t3074 ho3082 fl3075 hR3076 => ?_)
        · have hf3025 := Fle.trans k3014.f fl3017
          obtain ⟨y3026, rfl, iv3027⟩ := hR3018
          obtain ⟨v3028, r3029, rfl⟩ := hB3020
          have iv3030 := Iv.ex iv3027 k3019
          have iv3031 := Iv.sf iv3030 10 (Ex.refl t3022) r3029 rfl
          have fl3032 := Fle.trans (Fle.refl t3022.F) (Ex.refl t3022).f
          obtain ⟨at3052, h_at3052, hm3016⟩ := bndE hm3016
          obtain ⟨at3053, h_at3053, hm3016⟩ := bndE hm3016
          obtain ⟨follows3054, h_follows3054, hm3016⟩ := bndE hm3016
          refine do_ifR (EvB.t (eb_not (eb_v (ev_call C_l_follows hr (by decide) (ea_cons (ev_var 0 rfl (Iv.fz (x := (names_here2869 : (List Str))) iv3031 0)) (ea_cons (ev_var 1 rfl (Iv.fz (x := (rows_here2872 : (List (List Int)))) iv3031 1)) (ea_cons (ev_ix (Ev.r (ev_var 9 rfl (Iv.fz (x := (some2993 : (List (T3 Str Int Int)))) iv3031 9))) (ev_var 10 rfl (Iv.fz (x := (x3012 : Int)) iv3031 10)) h_at3052) (ea_cons (ev_ix (Ev.r (ev_var 9 rfl (Iv.fz (x := (some2993 : (List (T3 Str Int Int)))) iv3031 9))) (ev_add (ev_var 10 rfl (Iv.fz (x := (x3012 : Int)) iv3031 10)) ev_int) h_at3053) ea_nil)))) h_follows3054)))) (fun hb3055 s3056 e3057 => ?_) (fun hb3065 s3066 e3067 => ?_)
          · have hm3058 := iteE1 hm3016 hb3055
            have iv3059 := Iv.ex iv3031 e3057
            have fl3060 := Fle.trans (Fle.refl t3022.F) e3057.f
            obtain rfl := Option.some.inj hm3058
            obtain rfl := hq3034 _ rfl
            obtain rfl := Option.some.inj hm2962
            obtain rfl := hq2942 _ rfl
            obtain rfl := Option.some.inj hm2894
            exact do_ret ev_bl fun v3061 s3062 e3063 r3064 => hQ _ _ (Ex.trans (Iv.exx iv3059) e3063) r3064
          · have hm3068 := iteE2 hm3016 hb3065
            have iv3069 := Iv.ex iv3031 e3067
            have fl3070 := Fle.trans (Fle.refl t3022.F) e3067.f
            obtain rfl := Option.some.inj hm3068
            exact do_nil ⟨s3066, rfl, _, rfl, fl3070, ⟨_, rfl, Iv.sel iv3069 [some 0, some 1, some 2, some 3, some 4, some 5, none, some 7, some 8, some 9, none, none, none] (by decide +kernel) (by kernel_rfl)⟩⟩
        · subst ho3082
          replace hm2962 := goN hm2962
          have hf3083 := Fle.trans k3072.f fl3075
          obtain ⟨y3084, rfl, iv3085⟩ := hR3076
          have fl3086 := Fle.trans fl3006 hf3083
          obtain rfl := Option.some.inj hm2962
          exact do_nil ⟨t3074, rfl, _, rfl, fl3086, ⟨v2970, _, _, _, rfl, Iv.sel iv3085 [some 0, some 1, some 2, some 3, some 4, none, none, some 7, some 8, none, none, none, none] (by decide +kernel) (by kernel_rfl)⟩⟩
    · subst ho3097
      replace hm2894 := goN hm2894
      have hf3098 := Fle.trans k3088.f fl3091
      obtain ⟨v3099, y3100, y3101, y3102, rfl, iv3103⟩ := hR3092
      obtain ⟨hc3105, hm2894⟩ := chkE hm2894
      refine do_ifR (EvB.t (eb_neL hr (EvN.r (en_sorted z_sorted (Ev.r (ev_var 4 rfl (Iv.fz (x := (b3096 : (List Int))) iv3103 4))))) (EvN.r (en_listRg1 z_list z_range (ev_len z_len (Ev.r (ev_var 2 rfl (Iv.fz (x := (lines_here2875 : (List (T3 Str Int Int)))) iv3103 2)))) hc3105)) (shp_of _) (shp_of _))) (fun hb3106 s3107 e3108 => ?_) (fun hb3115 s3116 e3117 => ?_)
      · have hm3109 := iteE1 hm2894 hb3106
        have iv3110 := Iv.ex iv3103 e3108
        obtain rfl := Option.some.inj hm3109
        exact do_ret ev_bl fun v3111 s3112 e3113 r3114 => hQ _ _ (Ex.trans (Iv.exx iv3110) e3113) r3114
      · have hm3118 := iteE2 hm2894 hb3115
        have iv3119 := Iv.ex iv3103 e3117
        obtain ⟨places3125, h_places3125, hm3118⟩ := bndE hm3118
        refine do_ifR (EvW.tt (EvC.w (ec_or (eb_not (eb_v (ev_call C_l_places hr (by decide) (ea_cons (ev_var 8 rfl (Iv.fz (x := (u2902.2 : (List Int))) iv3119 8)) (ea_cons (ev_len z_len (Ev.r (ev_var 2 rfl (Iv.fz (x := (lines_here2875 : (List (T3 Str Int Int)))) iv3119 2)))) ea_nil)) h_places3125))) fun _ => (ec_or1 (eb_ne (ev_len z_len (Ev.r (ev_var 8 rfl (Iv.fz (x := (u2902.2 : (List Int))) iv3119 8)))) (ev_len z_len (Ev.r (ev_var 7 rfl (Iv.fz (x := (u2902.1 : (List (List Int)))) iv3119 7))))))))) (fun hb3126 s3127 e3128 => ?_) (fun hb3135 s3136 e3137 => ?_)
        · have hm3129 := iteE1 hm3118 hb3126
          have iv3130 := Iv.ex iv3119 e3128
          obtain rfl := Option.some.inj hm3129
          exact do_ret ev_bl fun v3131 s3132 e3133 r3134 => hQ _ _ (Ex.trans (Iv.exx iv3130) e3133) r3134
        · have hm3138 := iteE2 hm3118 hb3135
          have iv3139 := Iv.ex iv3119 e3137
          obtain ⟨hc3141, hm3138⟩ := chkE hm3138
          refine do_ifR (EvB.t (eb_neL hr (Ev.r (ev_var 8 rfl (Iv.fz (x := (u2902.2 : (List Int))) iv3139 8))) (EvN.r (en_sst z_sorted z_set (Ev.r (ev_var 8 rfl (Iv.fz (x := (u2902.2 : (List Int))) iv3139 8))) hc3141)) (shp_of _) (shp_of _))) (fun hb3142 s3143 e3144 => ?_) (fun hb3151 s3152 e3153 => ?_)
          · have hm3145 := iteE1 hm3138 hb3142
            have iv3146 := Iv.ex iv3139 e3144
            obtain rfl := Option.some.inj hm3145
            exact do_ret ev_bl fun v3147 s3148 e3149 r3150 => hQ _ _ (Ex.trans (Iv.exx iv3146) e3149) r3150
          · have hm3154 := iteE2 hm3138 hb3151
            have iv3155 := Iv.ex iv3139 e3153
            obtain ⟨o3156, ho3157, hm3154⟩ := bndE hm3154
            refine do_forF (ρ := Bool) (υ := Unit) PassesOwn.never rfl (ei_list (ev_var 8 rfl (Iv.fz (x := (u2902.2 : (List Int))) iv3155 8))) (pg_name (i := 6) sc_l_right.nd rfl (by first | exact Or.inl rfl | exact Or.inr rfl)) tg_n ho3157 (fun (b3158 : Unit) (σ' : L2.St) (t' : S) => ∃ (y_one : Option V) (y_place : Option V), σ' = [some v2870, some v2873, some v2876, some v2879, some v3099, y3102, y_place, some v2896, some v2897, y3100, y3101, y_one, none] ∧ Iv K (fun _ => False) s0 t' [fz v2870 (names_here2869 : (List Str)), fz v2873 (rows_here2872 : (List (List Int))), fz v2876 (lines_here2875 : (List (T3 Str Int Int))), fz v2879 (found2878 : ((List (List Int)) × (List Int))), fz v3099 (b3096 : (List Int)), top, top, fz v2896 (u2902.1 : (List (List Int))), fz v2897 (u2902.2 : (List Int)), top, top, top, top]) (fun s3265 k3266 => by have iv3267 := Iv.ex iv3155 k3266; exact ⟨_, _, rfl, Iv.sel iv3267 [some 0, some 1, some 2, some 3, some 4, none, none, some 7, some 8, none, none, none, none] (by decide +kernel) (by kernel_rfl)⟩) (fun s3161 k3162 x3160 b3158 q3182 σ3171 σ3172 t3169 t3170 hx3163 hm3164 hq3183 fl3165 hR3166 k3167 hB3168 => ?_) (fun s3259 k3260 b3268 σ3261 t3262 ho3269 fl3263 hR3264 => ?_)
            · have hf3173 := Fle.trans k3162.f fl3165
              obtain ⟨y3174, y3175, rfl, iv3176⟩ := hR3166
              obtain ⟨v3177, r3178, rfl⟩ := hB3168
              have iv3179 := Iv.ex iv3176 k3167
              have iv3180 := Iv.sf iv3179 6 (Ex.refl t3170) r3178 rfl
              have fl3181 := Fle.trans (Fle.refl t3170.F) (Ex.refl t3170).f
              obtain ⟨at3184, h_at3184, hm3164⟩ := bndE hm3164
              refine do_set 11 (ev_ix (Ev.r (ev_var 2 rfl (Iv.fz (x := (lines_here2875 : (List (T3 Str Int Int)))) iv3180 2))) (ev_var 6 rfl (Iv.fz (x := (x3160 : Int)) iv3180 6)) h_at3184) (fun v3189 s3187 e3188 r3190 => ?_) sc_l_right.nd
              obtain ⟨one3185, q3186, hm3164⟩ := ltE hm3164
              have iv3191 := Iv.sf iv3180 11 e3188 r3190 q3186
              have fl3192 := Fle.trans (Fle.refl t3170.F) e3188.f
              obtain ⟨ys3241, h_ys3241, hm3164⟩ := bndE hm3164
              obtain ⟨hc3242, hm3164⟩ := chkE hm3164
              refine do_ifR (et_v (ev_any z_any (EvN.r (EvL.n (en_comp0 (own := [("_law_other", 12)]) (j := 12) (f := fun (x3218 : Int) => (bnd (atI lines_here2875 x3218) fun at3239 => (bnd (m_l_follows names_here2869 rows_here2872 one3185 at3239) fun follows3240 => (some follows3240)))) rfl sc_l_right.nd (ei_list (ev_var 8 rfl (Iv.fz (x := (u2902.2 : (List Int))) iv3191 8))) (blkOk_by (own := [("_law_other", 12)]) (N := N_l_right) (sc := defScope s_l_right) (by decide +kernel)) rfl (by decide) (fun _ _ _ _ _ => pg_name (i := 12) sc_l_right.nd rfl (by first | exact Or.inl rfl | exact Or.inr rfl)) h_ys3241 hc3242 (fun x3218 y3219 v3233 s3220 hx3222 e3221 r3234 hf3223 _ _ _ _ _ => by have z3225 := Enc.mono e3221.f (Iv.fz (v := v2870) (x := (names_here2869 : (List Str))) iv3191 0); have z3226 := Enc.mono e3221.f (Iv.fz (v := v2873) (x := (rows_here2872 : (List (List Int)))) iv3191 1); have z3227 := Enc.mono e3221.f (Iv.fz (v := v2876) (x := (lines_here2875 : (List (T3 Str Int Int)))) iv3191 2); have z3232 := Enc.mono e3221.f (Iv.fz (v := v3189) (x := (one3185 : (T3 Str Int Int))) iv3191 11); obtain ⟨at3239, h_at3239, hf3223⟩ := bndE hf3223; obtain ⟨follows3240, h_follows3240, hf3223⟩ := bndE hf3223; obtain rfl := Option.some.inj hf3223; exact (ev_call C_l_follows hr (by decide) (ea_cons (ev_var 0 rfl z3225) (ea_cons (ev_var 1 rfl z3226) (ea_cons (ev_var 11 rfl z3232) (ea_cons (ev_ix (Ev.r (ev_var 2 rfl z3227)) (ev_var 12 rfl r3234) h_at3239) ea_nil)))) h_follows3240))))))) (fun hb3243 s3244 e3245 => ?_) (fun hb3253 s3254 e3255 => ?_)
              · have hm3246 := iteE1 hm3164 hb3243
                have iv3247 := Iv.ex iv3191 e3245
                have fl3248 := Fle.trans fl3192 e3245.f
                obtain rfl := Option.some.inj hm3246
                obtain rfl := hq3183 _ rfl
                obtain rfl := Option.some.inj hm3154
                exact do_ret ev_bl fun v3249 s3250 e3251 r3252 => hQ _ _ (Ex.trans (Iv.exx iv3247) e3251) r3252
              · have hm3256 := iteE2 hm3164 hb3253
                have iv3257 := Iv.ex iv3191 e3255
                have fl3258 := Fle.trans fl3192 e3255.f
                obtain rfl := Option.some.inj hm3256
                exact do_nil ⟨s3254, rfl, _, rfl, fl3258, ⟨_, _, rfl, Iv.sel iv3257 [some 0, some 1, some 2, some 3, some 4, none, none, some 7, some 8, none, none, none, none] (by decide +kernel) (by kernel_rfl)⟩⟩
            · subst ho3269
              replace hm3154 := goN hm3154
              have hf3270 := Fle.trans k3260.f fl3263
              obtain ⟨y3271, y3272, rfl, iv3273⟩ := hR3264
              obtain rfl := Option.some.inj hm3154
              exact do_ret ev_bl fun v3274 s3275 e3276 r3277 => hQ _ _ (Ex.trans (Iv.exx iv3273) e3276) r3277
abbrev s_law : Stmt := topS 32
abbrev N_law : List Str := ["_law_script", "_law_many_here", "_law_names_here", "_law_rows_here", "_law_cell", "_law_size", "_law_lines_here", "_law_times", "_law_kept", "_law_found", "_law_hand", "_law_again"]
theorem sc_law : FnScope N_law ["_law_script"] (defScope s_law) := ⟨rfl, rfl, rfl, by decide +kernel, rfl, by decide +kernel, by decide +kernel⟩
noncomputable def m_law (script3278 : (List Int)) : Option Bool :=
 (bnd (m_l_cell_at script3278 (0 : Int)) fun cell_at3283 => (bnd (m_l_many cell_at3283) fun many3284 => (lt (many3284 : Int) fun many_here3285 =>
 (bnd (m_l_cell_at script3278 (1 : Int)) fun cell_at3293 => (bnd (m_l_names cell_at3293 many_here3285) fun names3294 => (lt (names3294 : (List Str)) fun names_here3295 =>
 (bnd (m_l_cell_at script3278 (2 : Int)) fun cell_at3302 => (bnd (a_l_rows (cell_at3302, many_here3285, ())) fun rows3307 => (bnd (m_l_cell_at script3278 (3 : Int)) fun cell_at3319 => (lt (cell_at3319 : Int) fun cell3320 =>
 (bnd (atI ([(cell3320 % (15 : Int)), ((15 : Int) + ((cell3320 / (240 : Int)) % (26 : Int)))] : List Int) (if (decide (((cell3320 / (15 : Int)) % (16 : Int)) = (5 : Int))) = true then (1 : Int) else 0)) fun at3327 => (lt (at3327 : Int) fun size3328 =>
 (bnd (m_l_cell_at script3278 (4 : Int)) fun cell_at3335 => (bnd (m_l_lines names_here3295 cell_at3335 size3328) fun lines3336 => (lt (lines3336 : (List (T3 Str Int Int))) fun lines_here3337 =>
 (bnd (if ((decide ((1 : Int) < ((lines_here3337).length : Int))) && (decide (((cell3320 / (240 : Int)) % (2 : Int)) = (1 : Int)))) = true then
 (bnd (atI lines_here3337 (0 : Int)) fun at3377 => (chk (0 < ((lines_here3337).length : Int)) (bnd (ixN (lines_here3337).length ((cell3320 / (480 : Int)) % ((lines_here3337).length : Int))) fun j3379 => (lt (((lines_here3337).set j3379 at3377) : (List (T3 Str Int Int))) fun ls3375 =>
 (some ls3375)))))
 else
 (some lines_here3337) : Option ((List (T3 Str Int Int)))) fun b3364 =>
 (bnd (a_Times_init (names_here3295, rows3307, ())) fun init3398 => (lt (b3364 : (List (T3 Str Int Int))) fun kept3409 =>
 (bnd (a_fewest_hands ((⟨init3398.my_names, init3398.my_rows⟩ : R_Times), b3364, ())) fun fewest_hands3421 => (chk (shp (b3364 : (List (T3 Str Int Int)))) (chk (shp (kept3409 : (List (T3 Str Int Int)))) (bnd (orO (!decide (b3364 = kept3409)) (bnd (m_l_right names_here3295 rows3307 b3364 (fewest_hands3421.1, fewest_hands3421.2)) fun right3441 => (some (!right3441)))) fun c3442 => (if c3442 = true then
 (some false)
 else
 (bnd (foldO (fun (b3460 : ((List (List Int)) × (List Int))) (x3462 : Nat) =>
 (bnd ((b3460.1)[x3462]?) fun row3487 => (chk ((row3487).length < sizeLine) (lt (((b3460.1).set x3462 (row3487 ++ [(0 : Int)])) : (List (List Int))) fun ll3492 =>
 (some (ll3492, b3460.2)))))) (fewest_hands3421.1, fewest_hands3421.2) (List.range (fewest_hands3421.1).length)) fun o3458 =>
 (chk ((o3458.1).length < sizeLine) (lt ((o3458.1 ++ [([] : List Int)]) : (List (List Int))) fun ll3510 =>
 (chk ((o3458.2).length < sizeLine) (lt ((o3458.2 ++ [(0 : Int)]) : (List Int)) fun ls3516 =>
 (bnd (a_fewest_hands ((⟨init3398.my_names, init3398.my_rows⟩ : R_Times), b3364, ())) fun fewest_hands3522 => (bnd (m_l_right names_here3295 rows3307 b3364 (fewest_hands3522.1, fewest_hands3522.2)) fun right3537 => (bnd (andO right3537 (chk (shp (b3364 : (List (T3 Str Int Int)))) (chk (shp (kept3409 : (List (T3 Str Int Int)))) (some (decide (b3364 = kept3409)))))) fun c3540 => (some c3540))))))))))))))))))))))))))))))))
noncomputable abbrev a_law : (List Int) × Unit → Option Bool := fun a => m_law a.1
theorem ok_law_fn {P : Program} {w : World} {K : PySem.W.Frag} {mg : Str → Option Value} {base : Heap} {f : Addr} {fd : FuncData} (F : FunP K "law" s_law f fd) (hmg : mg "law" = some (.ref f)) (C_l_cell_at : Cal P w K mg base CX0 1 "_law_cell_at" (sp K a_l_cell_at)) (C_l_many : Cal P w K mg base CX0 1 "_law_many" (sp K a_l_many)) (C_l_names : Cal P w K mg base CX0 2 "_law_names" (spN K a_l_names)) (C_l_rows : Cal P w K mg base CX0 2 "_law_rows" (spI K pre_l_rows a_l_rows ok_l_rows noEr)) (C_l_lines : Cal P w K mg base CX0 2 "_law_lines" (spN K a_l_lines)) (C_Times_init : CalC P w K mg base CX0 3 "Times" (spI K pre_Times_init a_Times_init ok_Times_init noEr)) (C_fewest_hands : Cal P w K mg base CX0 4 "fewest_hands" (spI K pre_fewest_hands a_fewest_hands ok_fewest_hands noEr)) (C_l_right : Cal P w K mg base CX0 2 "_law_right" (sp K a_l_right)) (z_int : mg "int" = none) (z_len : mg "len" = none) (z_list : mg "list" = none) : FnOk P w K mg base CX0 5 f fd ["_law_script"] (sp K a_law) := by
  refine mk_fn (k := 4) F sc_law len1 ?_
  rintro cdv A' outer sh0 H0 X0 hr s0 vs ⟨script3278, _⟩ r0 Q ⟨v3279, _, rfl, r3280, rfl⟩ hm hQ
  unfold a_law m_law at hm
  dsimp only at hm
  have iv3281 : Iv K (fun _ => False) s0 s0 [fz v3279 (script3278 : (List Int)), top, top, top, top, top, top, top, top, top, top, top, top, top, top, top, top, top] := (Iv.sf (Iv.tops (K := K) (P0 := (fun _ => False)) 18 s0) 0 (Ex.refl s0) r3280 rfl)
  obtain ⟨cell_at3283, h_cell_at3283, hm⟩ := bndE hm
  obtain ⟨many3284, h_many3284, hm⟩ := bndE hm
  refine do_set 1 (ev_call C_l_many hr (by decide) (ea_cons (ev_call C_l_cell_at hr (by decide) (ea_cons (ev_var 0 rfl (Iv.fz (x := (script3278 : (List Int))) iv3281 0)) (ea_cons ev_int ea_nil)) h_cell_at3283) ea_nil) h_many3284) (fun v3289 s3287 e3288 r3290 => ?_) sc_law.nd
  obtain ⟨many_here3285, q3286, hm⟩ := ltE hm
  have iv3291 := Iv.sf iv3281 1 e3288 r3290 q3286
  obtain ⟨cell_at3293, h_cell_at3293, hm⟩ := bndE hm
  obtain ⟨names3294, h_names3294, hm⟩ := bndE hm
  refine do_set 2 (EvN.ev (en_call C_l_names hr (by decide) (ea_cons (ev_call C_l_cell_at hr (by decide) (ea_cons (ev_var 0 rfl (Iv.fz (x := (script3278 : (List Int))) iv3291 0)) (ea_cons ev_int ea_nil)) h_cell_at3293) (ea_cons (ev_var 1 rfl (Iv.fz (x := (many_here3285 : Int)) iv3291 1)) ea_nil)) h_names3294)) (fun v3299 s3297 e3298 r3300 => ?_) sc_law.nd
  obtain ⟨names_here3295, q3296, hm⟩ := ltE hm
  have iv3301 := Iv.sf iv3291 2 e3298 r3300 q3296
  obtain ⟨cell_at3302, h_cell_at3302, hm⟩ := bndE hm
  obtain ⟨rows3307, h_rows3307, hm⟩ := bndE hm
  refine do_setG 3 (eg_call (ok' := (fun v L' => ∃ (bres : LL), v = (.ref bres.p) ∧ L' = [oll bres (rows3307 : (List (List Int)))])) (ca_fn (E := fun _ _ _ _ => False) C_l_rows pass00 hr (by decide) (ea_cons (ev_call C_l_cell_at hr (by decide) (ea_cons (ev_var 0 rfl (Iv.fz (x := (script3278 : (List Int))) iv3301 0)) (ea_cons ev_int ea_nil)) h_cell_at3302) (ea_cons (ev_var 1 rfl (Iv.fz (x := (many_here3285 : Int)) iv3301 1)) ea_nil))) iv3301 ro0 [] (fun vs s2 k2 r2 => by obtain ⟨v3303, _, rfl, r3304, v3305, _, rfl, r3306, rfl⟩ := r2; exact ⟨[fz v3303 (cell_at3302 : Int), fz v3305 (many_here3285 : Int)], ⟨v3303, v3305, rfl, rfl, rfl⟩, (all_cons r3304 (all_cons r3306 all_nil)), (fun v L' z => by obtain ⟨_, _, e, z⟩ := z; cases e; exact z), (fun e L' z => z.elim)⟩) h_rows3307) (fun v3309 s3310 L3311 z3314 iv3312 => ?_) sc_law.nd
  obtain ⟨w3308, rfl, rfl⟩ := z3314
  have iv3313 := Iv.add iv3301 iv3312
  have iv3315 : Iv K (fun _ => False) s0 s3310 [fz v3279 (script3278 : (List Int)), fz v3289 (many_here3285 : Int), fz v3299 (names_here3295 : (List Str)), oll w3308 (rows3307 : (List (List Int))), top, top, top, top, top, top, top, top, top, top, top, top, top, top] := Iv.sel iv3313 [some 0, some 1, some 2, some 18, none, none, none, none, none, none, none, none, none, none, none, none, none, none] (by decide +kernel) (by kernel_rfl)
  refine do_frzLL iv3315 3 rfl fun s3316 hf3317 iv3318 => ?_
  obtain ⟨cell_at3319, h_cell_at3319, hm⟩ := bndE hm
  refine do_set 4 (ev_call C_l_cell_at hr (by decide) (ea_cons (ev_var 0 rfl (Iv.fz (x := (script3278 : (List Int))) iv3318 0)) (ea_cons ev_int ea_nil)) h_cell_at3319) (fun v3324 s3322 e3323 r3325 => ?_) sc_law.nd
  obtain ⟨cell3320, q3321, hm⟩ := ltE hm
  have iv3326 := Iv.sf iv3318 4 e3323 r3325 q3321
  obtain ⟨at3327, h_at3327, hm⟩ := bndE hm
  refine do_set 5 (ev_ix (EvN.r (en_list (xs := ([(cell3320 % (15 : Int)), ((15 : Int) + ((cell3320 / (240 : Int)) % (26 : Int)))] : List Int)) (ee_cons (ev_mod (ev_var 4 rfl (Iv.fz (x := (cell3320 : Int)) iv3326 4)) ev_int (by decide)) (ee_cons (ev_add ev_int (ev_mod (ev_div (ev_var 4 rfl (Iv.fz (x := (cell3320 : Int)) iv3326 4)) ev_int ⟨by decide, by decide +kernel⟩) ev_int (by decide))) ee_nil)) (by simp [sizeLine]))) (ev_intB z_int (EvB.v (eb_eq (ev_mod (ev_div (ev_var 4 rfl (Iv.fz (x := (cell3320 : Int)) iv3326 4)) ev_int ⟨by decide, by decide +kernel⟩) ev_int (by decide)) ev_int))) h_at3327) (fun v3332 s3330 e3331 r3333 => ?_) sc_law.nd
  obtain ⟨size3328, q3329, hm⟩ := ltE hm
  have iv3334 := Iv.sf iv3326 5 e3331 r3333 q3329
  obtain ⟨cell_at3335, h_cell_at3335, hm⟩ := bndE hm
  obtain ⟨lines3336, h_lines3336, hm⟩ := bndE hm
  refine do_setN 6 (en_call C_l_lines hr (by decide) (ea_cons (ev_var 2 rfl (Iv.fz (x := (names_here3295 : (List Str))) iv3334 2)) (ea_cons (ev_call C_l_cell_at hr (by decide) (ea_cons (ev_var 0 rfl (Iv.fz (x := (script3278 : (List Int))) iv3334 0)) (ea_cons ev_int ea_nil)) h_cell_at3335) (ea_cons (ev_var 5 rfl (Iv.fz (x := (size3328 : Int)) iv3334 5)) ea_nil))) h_lines3336) (fun p3341 s3339 e3340 n3342 o3343 => ?_) sc_law.nd
  obtain ⟨lines_here3337, q3338, hm⟩ := ltE hm
  have iv3344 := Iv.sl iv3334 6 e3340 n3342 o3343 q3338
  obtain ⟨b3364, hj3365, hm⟩ := bndE hm
  refine do_if (EvW.tt (EvC.w (ec_and (eb_gt (ev_len z_len (er_raw (xs := (lines_here3337 : (List (T3 Str Int Int)))) (raw_var 6 rfl) (Own.r (Iv.ol (xs := (lines_here3337 : (List (T3 Str Int Int)))) iv3344 6)))) ev_int) fun _ => (ec_and1 (eb_eq (ev_mod (ev_div (ev_var 4 rfl (Iv.fz (x := (cell3320 : Int)) iv3344 4)) ev_int ⟨by decide, by decide +kernel⟩) ev_int (by decide)) ev_int))))) (fun (σ' : L2.St) (t' : S) => Fle s3339.F t'.F ∧ σ' = [some v3279, some v3289, some v3299, some (V.ref w3308.p), some v3324, some v3332, some (.ref p3341), none, none, none, none, none] ∧ Iv K (fun _ => False) s0 t' [fz v3279 (script3278 : (List Int)), fz v3289 (many_here3285 : Int), fz v3299 (names_here3295 : (List Str)), fz (V.ref w3308.p) (rows3307 : (List (List Int))), fz v3324 (cell3320 : Int), fz v3332 (size3328 : Int), ol p3341 (b3364 : (List (T3 Str Int Int))), top, top, top, top, top, top, top, top, top, top, top]) (fun hb3366 s3367 e3368 => ?_) (fun hb3382 s3383 e3384 => ?_) (fun σ3388 s3389 hM3390 => ?_)
  · have hm3369 := iteE1 hj3365 hb3366
    have iv3370 := Iv.ex iv3344 e3368
    have fl3371 := Fle.trans (Fle.refl s3339.F) e3368.f
    obtain ⟨at3377, h_at3377, hm3369⟩ := bndE hm3369
    obtain ⟨hc3378, hm3369⟩ := chkE hm3369
    obtain ⟨j3379, h_j3379, hm3369⟩ := bndE hm3369
    refine do_setItemP (raw_var 6 rfl) (Iv.ol (xs := (lines_here3337 : (List (T3 Str Int Int)))) iv3370 6) (ev_ix (er_raw (xs := (lines_here3337 : (List (T3 Str Int Int)))) (raw_var 6 rfl) (Own.r (Iv.ol (xs := (lines_here3337 : (List (T3 Str Int Int)))) iv3370 6))) ev_int h_at3377) (ev_mod (ev_div (ev_var 4 rfl (Iv.fz (x := (cell3320 : Int)) iv3370 4)) ev_int ⟨by decide, by decide +kernel⟩) (ev_len z_len (er_raw (xs := (lines_here3337 : (List (T3 Str Int Int)))) (raw_var 6 rfl) (Own.r (Iv.ol (xs := (lines_here3337 : (List (T3 Str Int Int)))) iv3370 6)))) hc3378) h_j3379 (fun s3372 m3373 o3374 => ?_)
    obtain ⟨ls3375, q3376, hm3369⟩ := ltE hm3369
    have iv3380 := Iv.ml iv3370 6 m3373 o3374 q3376
    have fl3381 := Fle.trans fl3371 m3373.f
    obtain rfl := Option.some.inj hm3369
    exact do_nil ⟨s3372, rfl, fl3381, ⟨rfl, Iv.sel iv3380 [some 0, some 1, some 2, some 3, some 4, some 5, some 6, none, none, none, none, none, none, none, none, none, none, none] (by decide +kernel) (by kernel_rfl)⟩⟩
  · have hm3385 := iteE2 hj3365 hb3382
    have iv3386 := Iv.ex iv3344 e3384
    have fl3387 := Fle.trans (Fle.refl s3339.F) e3384.f
    obtain rfl := Option.some.inj hm3385
    exact do_nil ⟨s3383, rfl, fl3387, ⟨rfl, Iv.sel iv3386 [some 0, some 1, some 2, some 3, some 4, some 5, some 6, none, none, none, none, none, none, none, none, none, none, none] (by decide +kernel) (by kernel_rfl)⟩⟩
  · obtain ⟨hf3391, hR3392⟩ := hM3390
    obtain ⟨rfl, iv3393⟩ := hR3392
    obtain ⟨init3398, h_init3398, hm⟩ := bndE hm
    refine do_setG 7 (eg_make (ok' := (fun v L' => ∃ pnew : Addr, ∃ (bself_my_names : V) (bself_my_rows : V), v = .ref pnew ∧ L' = [cell pnew "Times" [("my_names", bself_my_names), ("my_rows", bself_my_rows)], fz bself_my_names (init3398.my_names : (List Str)), fz bself_my_rows (init3398.my_rows : (List (List Int)))])) (ca_make (E := fun _ _ _ _ => False) C_Times_init pass00 hr (by decide) (ea_cons (ev_var 2 rfl (Iv.fz (x := (names_here3295 : (List Str))) iv3393 2)) (ea_cons (ev_var 3 rfl (Iv.fz (x := (rows3307 : (List (List Int)))) iv3393 3)) ea_nil))) iv3393 ro0 [] (fun vs s2 pnew k2 r2 => by obtain ⟨v3394, _, rfl, r3395, v3396, _, rfl, r3397, rfl⟩ := r2; exact ⟨[fz v3394 (names_here3295 : (List Str)), fz v3396 (rows3307 : (List (List Int)))], ⟨pnew, v3394, v3396, rfl, rfl, rfl⟩, (fun A s3 k3 hA => AllF.ex (all_cons r3395 (all_cons r3397 all_nil)) k3 A hA), (fun v L' z => by obtain ⟨_, _, _, e, z⟩ := z; cases e; obtain ⟨x0, x1, rfl, z⟩ := z; exact ⟨rfl, _, x0, x1, rfl, z⟩), (fun e L' z => z.elim)⟩) h_init3398) (fun v3402 s3403 L3404 z3407 iv3405 => ?_) sc_law.nd
    obtain ⟨p3399, v3400, v3401, rfl, rfl⟩ := z3407
    have iv3406 := Iv.add iv3393 iv3405
    have iv3408 : Iv K (fun _ => False) s0 s3403 [fz v3279 (script3278 : (List Int)), fz v3289 (many_here3285 : Int), fz v3299 (names_here3295 : (List Str)), fz (V.ref w3308.p) (rows3307 : (List (List Int))), fz v3324 (cell3320 : Int), fz v3332 (size3328 : Int), ol p3341 (b3364 : (List (T3 Str Int Int))), cell p3399 "Times" [("my_names", v3400), ("my_rows", v3401)], top, top, top, top, fz v3400 (init3398.my_names : (List Str)), fz v3401 (init3398.my_rows : (List (List Int))), top, top, top, top] := Iv.sel iv3406 [some 0, some 1, some 2, some 3, some 4, some 5, some 6, some 18, none, none, none, none, some 19, some 20, none, none, none, none] (by decide +kernel) (by kernel_rfl)
    refine do_set 8 (EvN.ev (en_copy z_list (er_raw (xs := (b3364 : (List (T3 Str Int Int)))) (raw_var 6 rfl) (Own.r (Iv.ol (xs := (b3364 : (List (T3 Str Int Int)))) iv3408 6))))) (fun v3413 s3411 e3412 r3414 => ?_) sc_law.nd
    obtain ⟨kept3409, q3410, hm⟩ := ltE hm
    have iv3415 := Iv.sf iv3408 8 e3412 r3414 q3410
    refine do_frzI iv3415 6 rfl fun s3416 hf3417 iv3418 => ?_
    obtain ⟨fewest_hands3421, h_fewest_hands3421, hm⟩ := bndE hm
    refine do_setG 9 (eg_call (ok' := (fun v L' => ∃ (bres : Addr) (bres_0 : LL) (bres_1 : Addr), v = (.ref bres) ∧ L' = [tc bres [(.ref bres_0.p), (.ref bres_1)], oll bres_0 (fewest_hands3421.1 : (List (List Int))), ol bres_1 (fewest_hands3421.2 : (List Int))])) (ca_fn (E := fun _ _ _ _ => False) C_fewest_hands pass00 hr (by decide) (ea_cons (raw_var 7 rfl) (ea_cons (ev_var 6 rfl (Iv.fz (x := (b3364 : (List (T3 Str Int Int)))) iv3418 6)) ea_nil))) iv3418 ro0 [.inl 7, .inl 12, .inl 13] (fun vs s2 k2 r2 => by obtain ⟨_, _, rfl, rfl, v3419, _, rfl, r3420, rfl⟩ := r2; exact ⟨[fz v3419 (b3364 : (List (T3 Str Int Int)))], ⟨(p3399), (v3400), (v3401), v3419, rfl, rfl, rfl⟩, (all_cons r3420 all_nil), (fun v L' z => by obtain ⟨_, _, _, _, e, z⟩ := z; cases e; exact z), (fun e L' z => z.elim)⟩) h_fewest_hands3421) (fun v3425 s3426 L3427 z3430 iv3428 => ?_) sc_law.nd
    obtain ⟨p3422, w3423, p3424, rfl, rfl⟩ := z3430
    have iv3429 := Iv.add iv3418 iv3428
    have iv3431 : Iv K (fun _ => False) s0 s3426 [fz v3279 (script3278 : (List Int)), fz v3289 (many_here3285 : Int), fz v3299 (names_here3295 : (List Str)), fz (V.ref w3308.p) (rows3307 : (List (List Int))), fz v3324 (cell3320 : Int), fz v3332 (size3328 : Int), fz (V.ref p3341) (b3364 : (List (T3 Str Int Int))), cell p3399 "Times" [("my_names", v3400), ("my_rows", v3401)], fz v3413 (kept3409 : (List (T3 Str Int Int))), tc p3422 [(.ref w3423.p), (.ref p3424)], top, top, fz v3400 (init3398.my_names : (List Str)), fz v3401 (init3398.my_rows : (List (List Int))), oll w3423 (fewest_hands3421.1 : (List (List Int))), ol p3424 (fewest_hands3421.2 : (List Int)), top, top] := Iv.sel iv3429 [some 0, some 1, some 2, some 3, some 4, some 5, some 6, some 7, some 8, some 18, none, none, some 12, some 13, some 19, some 20, none, none] (by decide +kernel) (by kernel_rfl)
    obtain ⟨hc3436, hm⟩ := chkE hm
    obtain ⟨hc3437, hm⟩ := chkE hm
    obtain ⟨c3442, h_c3442, hm⟩ := bndE hm
    refine do_ifR (EvW.tt (EvC.w (by skip; exact ec_orO (eb_neL hr (Ev.r (ev_var 6 rfl (Iv.fz (x := (b3364 : (List (T3 Str Int Int)))) iv3431 6))) (Ev.r (ev_var 8 rfl (Iv.fz (x := (kept3409 : (List (T3 Str Int Int)))) iv3431 8))) hc3436 hc3437) (fun hb3443 => (fun hz => (by obtain ⟨right3441, h_right3441, hz⟩ := bndE hz; obtain rfl := Option.some.inj hz; exact (ec_or1 (eb_not (eb_v (ev_callT C_l_right hr (by decide) (evv_cons (ev_var 2 rfl (Iv.fz (x := (names_here3295 : (List Str))) iv3431 2)) (evv_cons (ev_var 3 rfl (Iv.fz (x := (rows3307 : (List (List Int)))) iv3431 3)) (evv_cons (ev_var 6 rfl (Iv.fz (x := (b3364 : (List (T3 Str Int Int)))) iv3431 6)) (evv_consP (x := ((fewest_hands3421.1, fewest_hands3421.2) : ((List (List Int)) × (List Int)))) (raw_var 9 rfl) (fun t9 k9 => (repH_t2 (Iv.tc iv3431 9) k9 (repH_ll (xss := (fewest_hands3421.1 : (List (List Int)))) (OwnLL.r (Iv.oll (xss := (fewest_hands3421.1 : (List (List Int)))) iv3431 14)) k9) (repH_l (Iv.ol (xs := (fewest_hands3421.2 : (List Int))) iv3431 15) k9))) evv_nil)))) h_right3441)))))) ((orE h_c3442).1 hb3443)) (orE h_c3442).2))) (fun hb3444 s3445 e3446 => ?_) (fun hb3453 s3454 e3455 => ?_)
    · have hm3447 := iteE1 hm hb3444
      have iv3448 := Iv.ex iv3431 e3446
      obtain rfl := Option.some.inj hm3447
      exact do_ret ev_bl fun v3449 s3450 e3451 r3452 => hQ _ _ (Ex.trans (Iv.exx iv3448) e3451) r3452
    · have hm3456 := iteE2 hm hb3453
      have iv3457 := Iv.ex iv3431 e3455
      obtain ⟨o3458, ho3459, hm3456⟩ := bndE hm3456
      letI := encIx w3423
      refine do_forG PassesOwn.never rfl (pg_name (i := 10) sc_law.nd rfl (by first | exact Or.inl rfl | exact Or.inr rfl)) (for_readO (τ := Nat) (υ := ((List (List Int)) × (List Int))) (ei_ll (raw_tup (raw_var 9 rfl) (Iv.tc iv3457 9) (ev_int (i := 0)) rfl) (OwnLL.r (Iv.oll (xss := (fewest_hands3421.1 : (List (List Int)))) iv3457 14))) (tg_n (α := Nat)) ho3459 (fun (b3460 : ((List (List Int)) × (List Int))) (σ' : L2.St) (t' : S) => Fle s3454.F t'.F ∧ ∃ (p_found_1 : Addr) (y_hand : Option V), σ' = [some v3279, some v3289, some v3299, some (V.ref w3308.p), some v3324, some v3332, some (V.ref p3341), some (.ref p3399), some v3413, some (.ref p3422), y_hand, none] ∧ Iv K (fun _ => False) s0 t' [fz v3279 (script3278 : (List Int)), fz v3289 (many_here3285 : Int), fz v3299 (names_here3295 : (List Str)), fz (V.ref w3308.p) (rows3307 : (List (List Int))), fz v3324 (cell3320 : Int), fz v3332 (size3328 : Int), fz (V.ref p3341) (b3364 : (List (T3 Str Int Int))), cell p3399 "Times" [("my_names", v3400), ("my_rows", v3401)], fz v3413 (kept3409 : (List (T3 Str Int Int))), tc p3422 [(.ref w3423.p), (.ref p_found_1)], top, top, fz v3400 (init3398.my_names : (List Str)), fz v3401 (init3398.my_rows : (List (List Int))), oll w3423 (b3460.1 : (List (List Int))), ol p_found_1 (b3460.2 : (List Int)), top, top]) (fun b3460 σ' t' hR => by obtain ⟨f3473, hR3472⟩ := hR; obtain ⟨p3474, y3475, rfl, iv3476⟩ := hR3472; exact ((Iv.oll (xss := (b3460.1 : (List (List Int)))) iv3476 14)).hp) (fun s3499 k3500 => by have iv3501 := Iv.ex iv3457 k3500; exact ⟨k3500.f, ⟨p3424, _, rfl, Iv.sel iv3501 [some 0, some 1, some 2, some 3, some 4, some 5, some 6, some 7, some 8, some 9, none, none, some 12, some 13, some 14, some 15, none, none] (by decide +kernel) (by kernel_rfl)⟩⟩) (fun x3462 b3460 b3461 σ3470 σ3471 t3468 t3469 hx3463 hm3464 hR3465 k3466 hB3467 => ?_) (fun σ3496 t3497 hR3498 => ?_))
      · obtain ⟨fl3477, hR3465'⟩ := hR3465
        obtain ⟨p3478, y3479, rfl, iv3480⟩ := hR3465'
        obtain ⟨v3481, r3482, rfl⟩ := hB3467
        obtain ⟨qq3483, hq3484, rfl⟩ := r3482
        have iv3485 := Iv.ex iv3480 k3466
        have fl3486 := Fle.trans fl3477 k3466.f
        obtain ⟨row3487, h_row3487, hm3464⟩ := bndE hm3464
        obtain ⟨hc3488, hm3464⟩ := chkE hm3464
        refine do_appendP (raw_var 10 rfl) (OwnLL.row (Iv.oll (xss := (b3460.1 : (List (List Int)))) iv3485 14) hq3484 h_row3487) ev_int hc3488 (fun s3489 m3490 o3491 => ?_)
        obtain ⟨ll3492, q3493, hm3464⟩ := ltE hm3464
        have iv3494 := Iv.mll iv3485 14 m3490 hq3484 o3491 q3493
        have fl3495 := Fle.trans fl3486 m3490.f
        obtain rfl := Option.some.inj hm3464
        exact do_nil ⟨s3489, rfl, fl3495, ⟨p3478, _, rfl, Iv.sel iv3494 [some 0, some 1, some 2, some 3, some 4, some 5, some 6, some 7, some 8, some 9, none, none, some 12, some 13, some 14, some 15, none, none] (by decide +kernel) (by kernel_rfl)⟩⟩
      · obtain ⟨fl3502, hR3498'⟩ := hR3498
        obtain ⟨p3503, y3504, rfl, iv3505⟩ := hR3498'
        obtain ⟨hc3506, hm3456⟩ := chkE hm3456
        obtain ⟨ll3510, q3511, hm3456⟩ := ltE hm3456
        refine do_appendLLN iv3505 14 rfl (raw_tup (raw_var 9 rfl) (Iv.tc iv3505 9) (ev_int (i := 0)) rfl) (en_list (xs := ([] : List Int)) ee_nil (by simp [sizeLine])) hc3506 (fun q3507 s3508 f3509 iv3512 => ?_)
        rw [← q3511] at iv3512
        obtain ⟨hc3518, hm3456⟩ := chkE hm3456
        refine do_appendP (raw_tup (raw_var 9 rfl) (Iv.tc iv3512 9) (ev_int (i := 1)) rfl) (Iv.ol (xs := (o3458.2 : (List Int))) iv3512 15) ev_int hc3518 (fun s3513 m3514 o3515 => ?_)
        obtain ⟨ls3516, q3517, hm3456⟩ := ltE hm3456
        have iv3519 := Iv.ml iv3512 15 m3514 o3515 q3517
        obtain ⟨fewest_hands3522, h_fewest_hands3522, hm3456⟩ := bndE hm3456
        refine do_setG 11 (eg_call (ok' := (fun v L' => ∃ (bres : Addr) (bres_0 : LL) (bres_1 : Addr), v = (.ref bres) ∧ L' = [tc bres [(.ref bres_0.p), (.ref bres_1)], oll bres_0 (fewest_hands3522.1 : (List (List Int))), ol bres_1 (fewest_hands3522.2 : (List Int))])) (ca_fn (E := fun _ _ _ _ => False) C_fewest_hands pass00 hr (by decide) (ea_cons (raw_var 7 rfl) (ea_cons (ev_var 6 rfl (Iv.fz (x := (b3364 : (List (T3 Str Int Int)))) iv3519 6)) ea_nil))) iv3519 ro0 [.inl 7, .inl 12, .inl 13] (fun vs s2 k2 r2 => by obtain ⟨_, _, rfl, rfl, v3520, _, rfl, r3521, rfl⟩ := r2; exact ⟨[fz v3520 (b3364 : (List (T3 Str Int Int)))], ⟨(p3399), (v3400), (v3401), v3520, rfl, rfl, rfl⟩, (all_cons r3521 all_nil), (fun v L' z => by obtain ⟨_, _, _, _, e, z⟩ := z; cases e; exact z), (fun e L' z => z.elim)⟩) h_fewest_hands3522) (fun v3526 s3527 L3528 z3531 iv3529 => ?_) sc_law.nd
        obtain ⟨p3523, w3524, p3525, rfl, rfl⟩ := z3531
        have iv3530 := Iv.add iv3519 iv3529
        have iv3532 : Iv K (fun _ => False) s0 s3527 [fz v3279 (script3278 : (List Int)), fz v3289 (many_here3285 : Int), fz v3299 (names_here3295 : (List Str)), fz (V.ref w3308.p) (rows3307 : (List (List Int))), fz v3324 (cell3320 : Int), fz v3332 (size3328 : Int), fz (V.ref p3341) (b3364 : (List (T3 Str Int Int))), cell p3399 "Times" [("my_names", v3400), ("my_rows", v3401)], fz v3413 (kept3409 : (List (T3 Str Int Int))), tc p3422 [(.ref (LL.mk w3423.p (w3423.q ++ [q3507])).p), (.ref p3503)], top, tc p3523 [(.ref w3524.p), (.ref p3525)], fz v3400 (init3398.my_names : (List Str)), fz v3401 (init3398.my_rows : (List (List Int))), oll (LL.mk w3423.p (w3423.q ++ [q3507])) (ll3510 : (List (List Int))), ol p3503 (ls3516 : (List Int)), oll w3524 (fewest_hands3522.1 : (List (List Int))), ol p3525 (fewest_hands3522.2 : (List Int))] := Iv.sel iv3530 [some 0, some 1, some 2, some 3, some 4, some 5, some 6, some 7, some 8, some 9, none, some 18, some 12, some 13, some 14, some 15, some 19, some 20] (by decide +kernel) (by kernel_rfl)
        obtain ⟨right3537, h_right3537, hm3456⟩ := bndE hm3456
        obtain ⟨c3540, h_c3540, hm3456⟩ := bndE hm3456
        obtain rfl := Option.some.inj hm3456
        exact do_ret (EvC.v (by skip; exact ec_andO (eb_v (ev_callT C_l_right hr (by decide) (evv_cons (ev_var 2 rfl (Iv.fz (x := (names_here3295 : (List Str))) iv3532 2)) (evv_cons (ev_var 3 rfl (Iv.fz (x := (rows3307 : (List (List Int)))) iv3532 3)) (evv_cons (ev_var 6 rfl (Iv.fz (x := (b3364 : (List (T3 Str Int Int)))) iv3532 6)) (evv_consP (x := ((fewest_hands3522.1, fewest_hands3522.2) : ((List (List Int)) × (List Int)))) (raw_var 11 rfl) (fun t9 k9 => (repH_t2 (Iv.tc iv3532 11) k9 (repH_ll (xss := (fewest_hands3522.1 : (List (List Int)))) (OwnLL.r (Iv.oll (xss := (fewest_hands3522.1 : (List (List Int)))) iv3532 16)) k9) (repH_l (Iv.ol (xs := (fewest_hands3522.2 : (List Int))) iv3532 17) k9))) evv_nil)))) h_right3537)) (fun hb3541 => (fun hz => (by obtain ⟨hc3538, hz⟩ := chkE hz; obtain ⟨hc3539, hz⟩ := chkE hz; obtain rfl := Option.some.inj hz; exact (ec_and1 (eb_eqL hr (Ev.r (ev_var 6 rfl (Iv.fz (x := (b3364 : (List (T3 Str Int Int)))) iv3532 6))) (Ev.r (ev_var 8 rfl (Iv.fz (x := (kept3409 : (List (T3 Str Int Int)))) iv3532 8))) hc3538 hc3539)))) ((andE h_c3540).1 hb3541)) (andE h_c3540).2)) fun v3542 s3543 e3544 r3545 => hQ _ _ (Ex.trans (Iv.exx iv3532) e3544) r3545
def d_l_many : He.DefD := ⟨("_law_many", none), "_law_many", "_law_many", defArgs s_l_many, defBody s_l_many, defScope s_l_many, [], []⟩
def d_l_row : He.DefD := ⟨("_law_row", none), "_law_row", "_law_row", defArgs s_l_row, defBody s_l_row, defScope s_l_row, [], []⟩
def d_l_names : He.DefD := ⟨("_law_names", none), "_law_names", "_law_names", defArgs s_l_names, defBody s_l_names, defScope s_l_names, [], []⟩
def d_l_closed : He.DefD := ⟨("_law_closed", none), "_law_closed", "_law_closed", defArgs s_l_closed, defBody s_l_closed, defScope s_l_closed, [], []⟩
def d_l_rows : He.DefD := ⟨("_law_rows", none), "_law_rows", "_law_rows", defArgs s_l_rows, defBody s_l_rows, defScope s_l_rows, [], []⟩
def d_l_cell_at : He.DefD := ⟨("_law_cell_at", none), "_law_cell_at", "_law_cell_at", defArgs s_l_cell_at, defBody s_l_cell_at, defScope s_l_cell_at, [], []⟩
def d_l_lines : He.DefD := ⟨("_law_lines", none), "_law_lines", "_law_lines", defArgs s_l_lines, defBody s_l_lines, defScope s_l_lines, [], []⟩
def d_is_square : He.DefD := ⟨("is_square", none), "is_square", "is_square", defArgs s_is_square, defBody s_is_square, defScope s_is_square, [], []⟩
def d_is_straight : He.DefD := ⟨("is_straight", none), "is_straight", "is_straight", defArgs s_is_straight, defBody s_is_straight, defScope s_is_straight, [], []⟩
def d_is_made_of : He.DefD := ⟨("is_made_of", none), "is_made_of", "is_made_of", defArgs s_is_made_of, defBody s_is_made_of, defScope s_is_made_of, [], []⟩
def d_is_name : He.DefD := ⟨("is_name", none), "is_name", "is_name", defArgs s_is_name, defBody s_is_name, defScope s_is_name, [], []⟩
def d_Times_init : He.DefD := ⟨("Times", some "__init__"), "__init__", "Times.__init__", defArgs s_Times_init, defBody s_Times_init, defScope s_Times_init, [], []⟩
def d_Times_names : He.DefD := ⟨("Times", some "names"), "names", "Times.names", defArgs s_Times_names, defBody s_Times_names, defScope s_Times_names, [], []⟩
def d_asked_lines : He.DefD := ⟨("asked_lines", none), "asked_lines", "asked_lines", defArgs s_asked_lines, defBody s_asked_lines, defScope s_asked_lines, [], []⟩
def d_Times_time : He.DefD := ⟨("Times", some "time"), "time", "Times.time", defArgs s_Times_time, defBody s_Times_time, defScope s_Times_time, [], []⟩
def d_can_follow : He.DefD := ⟨("can_follow", none), "can_follow", "can_follow", defArgs s_can_follow, defBody s_can_follow, defScope s_can_follow, [], []⟩
def d_behind_by : He.DefD := ⟨("behind_by", none), "behind_by", "behind_by", defArgs s_behind_by, defBody s_behind_by, defScope s_behind_by, [], []⟩
def d_found_ways : He.DefD := ⟨("found_ways", none), "found_ways", "found_ways", defArgs s_found_ways, defBody s_found_ways, defScope s_found_ways, [], []⟩
def d_paired : He.DefD := ⟨("paired", none), "paired", "paired", defArgs s_paired, defBody s_paired, defScope s_paired, [], []⟩
def d_fewest_hands : He.DefD := ⟨("fewest_hands", none), "fewest_hands", "fewest_hands", defArgs s_fewest_hands, defBody s_fewest_hands, defScope s_fewest_hands, [], []⟩
def d_l_places : He.DefD := ⟨("_law_places", none), "_law_places", "_law_places", defArgs s_l_places, defBody s_l_places, defScope s_l_places, [], []⟩
def d_l_follows : He.DefD := ⟨("_law_follows", none), "_law_follows", "_law_follows", defArgs s_l_follows, defBody s_l_follows, defScope s_l_follows, [], []⟩
def d_l_right : He.DefD := ⟨("_law_right", none), "_law_right", "_law_right", defArgs s_l_right, defBody s_l_right, defScope s_l_right, [], []⟩
def d_law : He.DefD := ⟨("law", none), "law", "law", defArgs s_law, defBody s_law, defScope s_law, [], []⟩
def fn : List He.DefD := [d_l_many, d_l_row, d_l_names, d_l_closed, d_l_rows, d_l_cell_at, d_l_lines, d_is_square, d_is_straight, d_is_made_of, d_is_name, d_Times_init, d_Times_names, d_asked_lines, d_Times_time, d_can_follow, d_behind_by, d_found_ways, d_paired, d_fewest_hands, d_l_places, d_l_follows, d_l_right, d_law]
def gs (K : PySem.W.Frag) : Bool := true && clsB K "Times" ["my_names", "my_rows"] ["__init__", "names", "time"]
def fa : List He.Fa := [.glo "_law_many", .glo "_law_row", .glo "_law_names", .glo "_law_closed", .glo "_law_rows", .glo "_law_cell_at", .glo "_law_lines", .glo "is_square", .glo "is_straight", .glo "is_made_of", .glo "is_name", .glo "asked_lines", .glo "can_follow", .glo "behind_by", .glo "found_ways", .glo "paired", .glo "fewest_hands", .glo "_law_places", .glo "_law_follows", .glo "_law_right", .glo "law", .free "int", .free "range", .free "len", .free "min", .free "all", .free "set", .free "list", .free "isinstance", .free "bool", .free "tuple", .free "sorted", .free "any", .str "LETTERS" ("abcdefghijklmnopqrstuvwxyz" : Str), .glo "Times"]
abbrev R : PySem.W.OpenRow := PySem.W.OpenLaw.row PySem.Challenge.rw_deskpairs_k17_whole_fewest_hands
abbrev hk : PySem.W.Hook := Dy.hookX 4 fa fn gs
def ob (s : PySem.W.SharedT) : Bool × He.AlD := Dy.obsX 4 fa fn gs (HandSHeadRun.getT s)
theorem ob_eq (s : PySem.W.SharedT) : ob s = hk.obs s.abs := Dy.obsX_eq (HandSHeadRun.getT_eq s)
def loose0 : List Str := ["PairsError", "NoTimes", "NoInstrument", "NoLine", "asked_lines", "can_follow", "behind_by", "found_ways", "paired", "fewest_hands", "LETTERS", "is_made_of", "is_name", "is_square", "is_straight", "Times", "_law_cell_at", "_law_row", "_law_names", "_law_closed", "_law_rows", "_law_many", "_law_lines", "_law_follows", "_law_places", "_law_right"]
def loose : List Str := loose0
theorem run (w : World) : HandSHeadRun.RunEq R (PySem.W.view R.prog [32]) hk ob 3720 loose w := by
  intro os
  kernel_rfl
theorem facts {P : Program} {w : World} {K : PySem.W.Frag} {h : Heap} {mg : Str → Option Value} {f : Addr} (X : K.In h) (G : h.Ns mainGlobals mg) (hfa : mg ("law" : Str) = some (.ref f)) (c : He.SaysD fa fn K) (GS : gs K = true) :
    ∃ fd : FuncData, (∀ (s : Shared) (v : Value), BindsTo s fd ⟨[v], []⟩ [("_law_script", v)]) ∧ ∀ base : Heap, K.In base → base.Ns mainGlobals mg → FnOk P w K mg base CX0 5 f fd ["_law_script"] (sp K a_law) := by
  obtain ⟨fd_l_many, F_l_many⟩ := c.def_ 0 (d := d_l_many) rfl
  obtain ⟨fd_l_row, F_l_row⟩ := c.def_ 1 (d := d_l_row) rfl
  obtain ⟨fd_l_names, F_l_names⟩ := c.def_ 2 (d := d_l_names) rfl
  obtain ⟨fd_l_closed, F_l_closed⟩ := c.def_ 3 (d := d_l_closed) rfl
  obtain ⟨fd_l_rows, F_l_rows⟩ := c.def_ 4 (d := d_l_rows) rfl
  obtain ⟨fd_l_cell_at, F_l_cell_at⟩ := c.def_ 5 (d := d_l_cell_at) rfl
  obtain ⟨fd_l_lines, F_l_lines⟩ := c.def_ 6 (d := d_l_lines) rfl
  obtain ⟨fd_is_square, F_is_square⟩ := c.def_ 7 (d := d_is_square) rfl
  obtain ⟨fd_is_straight, F_is_straight⟩ := c.def_ 8 (d := d_is_straight) rfl
  obtain ⟨fd_is_made_of, F_is_made_of⟩ := c.def_ 9 (d := d_is_made_of) rfl
  obtain ⟨fd_is_name, F_is_name⟩ := c.def_ 10 (d := d_is_name) rfl
  obtain ⟨fd_Times_init, F_Times_init⟩ := c.def_ 11 (d := d_Times_init) rfl
  obtain ⟨fd_Times_names, F_Times_names⟩ := c.def_ 12 (d := d_Times_names) rfl
  obtain ⟨fd_asked_lines, F_asked_lines⟩ := c.def_ 13 (d := d_asked_lines) rfl
  obtain ⟨fd_Times_time, F_Times_time⟩ := c.def_ 14 (d := d_Times_time) rfl
  obtain ⟨fd_can_follow, F_can_follow⟩ := c.def_ 15 (d := d_can_follow) rfl
  obtain ⟨fd_behind_by, F_behind_by⟩ := c.def_ 16 (d := d_behind_by) rfl
  obtain ⟨fd_found_ways, F_found_ways⟩ := c.def_ 17 (d := d_found_ways) rfl
  obtain ⟨fd_paired, F_paired⟩ := c.def_ 18 (d := d_paired) rfl
  obtain ⟨fd_fewest_hands, F_fewest_hands⟩ := c.def_ 19 (d := d_fewest_hands) rfl
  obtain ⟨fd_l_places, F_l_places⟩ := c.def_ 20 (d := d_l_places) rfl
  obtain ⟨fd_l_follows, F_l_follows⟩ := c.def_ 21 (d := d_l_follows) rfl
  obtain ⟨fd_l_right, F_l_right⟩ := c.def_ 22 (d := d_l_right) rfl
  obtain ⟨fd_law, F_law⟩ := c.def_ 23 (d := d_law) rfl
  have g_l_many : mg "_law_many" = some (.ref (He.fAd K ("_law_many", none))) := He.glo_ok X G (c.fact 0 (f := .glo "_law_many") rfl)
  have g_l_row : mg "_law_row" = some (.ref (He.fAd K ("_law_row", none))) := He.glo_ok X G (c.fact 1 (f := .glo "_law_row") rfl)
  have g_l_names : mg "_law_names" = some (.ref (He.fAd K ("_law_names", none))) := He.glo_ok X G (c.fact 2 (f := .glo "_law_names") rfl)
  have g_l_closed : mg "_law_closed" = some (.ref (He.fAd K ("_law_closed", none))) := He.glo_ok X G (c.fact 3 (f := .glo "_law_closed") rfl)
  have g_l_rows : mg "_law_rows" = some (.ref (He.fAd K ("_law_rows", none))) := He.glo_ok X G (c.fact 4 (f := .glo "_law_rows") rfl)
  have g_l_cell_at : mg "_law_cell_at" = some (.ref (He.fAd K ("_law_cell_at", none))) := He.glo_ok X G (c.fact 5 (f := .glo "_law_cell_at") rfl)
  have g_l_lines : mg "_law_lines" = some (.ref (He.fAd K ("_law_lines", none))) := He.glo_ok X G (c.fact 6 (f := .glo "_law_lines") rfl)
  have g_is_square : mg "is_square" = some (.ref (He.fAd K ("is_square", none))) := He.glo_ok X G (c.fact 7 (f := .glo "is_square") rfl)
  have g_is_straight : mg "is_straight" = some (.ref (He.fAd K ("is_straight", none))) := He.glo_ok X G (c.fact 8 (f := .glo "is_straight") rfl)
  have g_is_made_of : mg "is_made_of" = some (.ref (He.fAd K ("is_made_of", none))) := He.glo_ok X G (c.fact 9 (f := .glo "is_made_of") rfl)
  have g_is_name : mg "is_name" = some (.ref (He.fAd K ("is_name", none))) := He.glo_ok X G (c.fact 10 (f := .glo "is_name") rfl)
  have g_asked_lines : mg "asked_lines" = some (.ref (He.fAd K ("asked_lines", none))) := He.glo_ok X G (c.fact 11 (f := .glo "asked_lines") rfl)
  have g_can_follow : mg "can_follow" = some (.ref (He.fAd K ("can_follow", none))) := He.glo_ok X G (c.fact 12 (f := .glo "can_follow") rfl)
  have g_behind_by : mg "behind_by" = some (.ref (He.fAd K ("behind_by", none))) := He.glo_ok X G (c.fact 13 (f := .glo "behind_by") rfl)
  have g_found_ways : mg "found_ways" = some (.ref (He.fAd K ("found_ways", none))) := He.glo_ok X G (c.fact 14 (f := .glo "found_ways") rfl)
  have g_paired : mg "paired" = some (.ref (He.fAd K ("paired", none))) := He.glo_ok X G (c.fact 15 (f := .glo "paired") rfl)
  have g_fewest_hands : mg "fewest_hands" = some (.ref (He.fAd K ("fewest_hands", none))) := He.glo_ok X G (c.fact 16 (f := .glo "fewest_hands") rfl)
  have g_l_places : mg "_law_places" = some (.ref (He.fAd K ("_law_places", none))) := He.glo_ok X G (c.fact 17 (f := .glo "_law_places") rfl)
  have g_l_follows : mg "_law_follows" = some (.ref (He.fAd K ("_law_follows", none))) := He.glo_ok X G (c.fact 18 (f := .glo "_law_follows") rfl)
  have g_l_right : mg "_law_right" = some (.ref (He.fAd K ("_law_right", none))) := He.glo_ok X G (c.fact 19 (f := .glo "_law_right") rfl)
  have g_law : mg "law" = some (.ref (He.fAd K ("law", none))) := He.glo_ok X G (c.fact 20 (f := .glo "law") rfl)
  have z_int : mg "int" = none := He.free_ok X G (c.fact 21 (f := .free "int") rfl)
  have z_range : mg "range" = none := He.free_ok X G (c.fact 22 (f := .free "range") rfl)
  have z_len : mg "len" = none := He.free_ok X G (c.fact 23 (f := .free "len") rfl)
  have z_min : mg "min" = none := He.free_ok X G (c.fact 24 (f := .free "min") rfl)
  have z_all : mg "all" = none := He.free_ok X G (c.fact 25 (f := .free "all") rfl)
  have z_set : mg "set" = none := He.free_ok X G (c.fact 26 (f := .free "set") rfl)
  have z_list : mg "list" = none := He.free_ok X G (c.fact 27 (f := .free "list") rfl)
  have z_isinstance : mg "isinstance" = none := He.free_ok X G (c.fact 28 (f := .free "isinstance") rfl)
  have z_bool : mg "bool" = none := He.free_ok X G (c.fact 29 (f := .free "bool") rfl)
  have z_tuple : mg "tuple" = none := He.free_ok X G (c.fact 30 (f := .free "tuple") rfl)
  have z_sorted : mg "sorted" = none := He.free_ok X G (c.fact 31 (f := .free "sorted") rfl)
  have z_any : mg "any" = none := He.free_ok X G (c.fact 32 (f := .free "any") rfl)
  have G_LETTERS : ∃ v u, mg "LETTERS" = some u ∧ RelV v u ∧ ∀ F, Enc.rep K F v c_LETTERS := by
    obtain ⟨t, e⟩ := He.str_ok X G (c.fact 33 (f := .str "LETTERS" ("abcdefghijklmnopqrstuvwxyz" : Str)) rfl)
    exact ⟨.str c_LETTERS, _, e, ⟨t, rfl⟩, fun _ => rfl⟩
  unfold gs at GS
  obtain ⟨GS, CB_Times⟩ := He.ba GS
  have CL_Times := clsB_ok CB_Times
  have NC_Times : mg "Times" = some (.ref (He.ga K "Times")) := He.glo_ok X G (c.fact 34 (f := .glo "Times") rfl)
  have e := hfa.symm.trans g_law
  cases e
  have b := FunD.bindsA (ps := ["_law_script"]) F_law fun _ _ _ _ _ _ us hl => match us, hl with | [_], _ => rfl
  refine ⟨fd_law, fun s v => b s [v] rfl, fun base _ _ => ?_⟩
  have C_l_many := ok_l_many (P := P) (w := w) (base := base) F_l_many g_l_many z_int
  have C_l_row := ok_l_row (P := P) (w := w) (base := base) F_l_row g_l_row z_range
  have C_l_names := ok_l_names (P := P) (w := w) (base := base) F_l_names g_l_names C_l_row z_range
  have C_l_closed := cal_of (ok_l_closed_fn (P := P) (w := w) (mg := mg) (base := base) F_l_closed z_range z_len z_min) g_l_closed F_l_closed.kp (F_l_closed.bindsN fun _ _ _ _ _ _ us hl => match us, hl with | [_], _ => rfl)
  have C_l_rows := cal_of (ok_l_rows_fn (P := P) (w := w) (mg := mg) (base := base) F_l_rows C_l_row C_l_closed z_range) g_l_rows F_l_rows.kp (F_l_rows.bindsN fun _ _ _ _ _ _ us hl => match us, hl with | [_, _], _ => rfl)
  have C_l_cell_at := ok_l_cell_at (P := P) (w := w) (base := base) F_l_cell_at g_l_cell_at z_len
  have C_l_lines := ok_l_lines (P := P) (w := w) (base := base) F_l_lines g_l_lines C_l_row z_len
  have C_is_square := ok_is_square (P := P) (w := w) (base := base) F_is_square g_is_square z_len z_min z_all z_range
  have C_is_straight := ok_is_straight (P := P) (w := w) (base := base) F_is_straight g_is_straight z_range z_len
  have C_is_made_of := ok_is_made_of (P := P) (w := w) (base := base) F_is_made_of g_is_made_of z_len
  have C_is_name := ok_is_name (P := P) (w := w) (base := base) F_is_name g_is_name C_is_made_of G_LETTERS
  have C_Times_init : CalC P w K mg base CX0 3 "Times" _ := ⟨⟨_, _, _, (ok_Times_init_fn (P := P) (w := w) (mg := mg) (base := base) F_Times_init C_is_name C_is_square C_is_straight z_len z_set z_all z_list CL_Times), CL_Times.mkOf (by simp), NC_Times, (F_Times_init.bindsN fun _ _ _ _ _ _ us hl => match us, hl with | [_, _, _], _ => rfl)⟩⟩
  have C_Times_names : CalM P w K mg base CX0 1 "Times" "names" _ := ⟨⟨_, _, _, (ok_Times_names_fn (P := P) (w := w) (mg := mg) (base := base) F_Times_names z_list CL_Times), CL_Times.me "names" (by simp), (F_Times_names.bindsN fun _ _ _ _ _ _ us hl => match us, hl with | [_], _ => rfl)⟩⟩
  have C_asked_lines := cal_of (ok_asked_lines_fn (P := P) (w := w) (mg := mg) (base := base) F_asked_lines C_Times_names z_range z_len CL_Times) g_asked_lines F_asked_lines.kp (F_asked_lines.bindsN fun _ _ _ _ _ _ us hl => match us, hl with | [_, _], _ => rfl)
  have C_Times_time : CalM P w K mg base CX0 1 "Times" "time" _ := ⟨⟨_, _, _, (ok_Times_time_fn (P := P) (w := w) (mg := mg) (base := base) F_Times_time CL_Times), CL_Times.me "time" (by simp), (F_Times_time.bindsN fun _ _ _ _ _ _ us hl => match us, hl with | [_, _, _], _ => rfl)⟩⟩
  have C_can_follow := cal_of (ok_can_follow_fn (P := P) (w := w) (mg := mg) (base := base) F_can_follow C_Times_time CL_Times) g_can_follow F_can_follow.kp (F_can_follow.bindsN fun _ _ _ _ _ _ us hl => match us, hl with | [_, _, _], _ => rfl)
  have C_behind_by := cal_of (ok_behind_by_fn (P := P) (w := w) (mg := mg) (base := base) F_behind_by C_can_follow z_list z_range z_len) g_behind_by F_behind_by.kp (F_behind_by.bindsN fun _ _ _ _ _ _ us hl => match us, hl with | [_, _], _ => rfl)
  have C_found_ways := cal_of (ok_found_ways_fn (P := P) (w := w) (mg := mg) (base := base) F_found_ways z_list z_len) g_found_ways F_found_ways.kp (F_found_ways.bindsN fun _ _ _ _ _ _ us hl => match us, hl with | [_, _, _], _ => rfl)
  have C_paired := cal_of (ok_paired_fn (P := P) (w := w) (mg := mg) (base := base) F_paired C_found_ways z_len z_range) g_paired F_paired.kp (F_paired.bindsN fun _ _ _ _ _ _ us hl => match us, hl with | [_], _ => rfl)
  have C_fewest_hands := cal_of (ok_fewest_hands_fn (P := P) (w := w) (mg := mg) (base := base) F_fewest_hands C_asked_lines C_behind_by C_paired C_found_ways z_range z_len) g_fewest_hands F_fewest_hands.kp (F_fewest_hands.bindsN fun _ _ _ _ _ _ us hl => match us, hl with | [_, _], _ => rfl)
  have C_l_places := ok_l_places (P := P) (w := w) (base := base) F_l_places g_l_places z_isinstance z_list z_int z_bool
  have C_l_follows := ok_l_follows (P := P) (w := w) (base := base) F_l_follows g_l_follows 
  have C_l_right := ok_l_right (P := P) (w := w) (base := base) F_l_right g_l_right C_l_places C_l_follows z_isinstance z_tuple z_len z_list z_range z_sorted z_set z_any
  exact ok_law_fn (P := P) (w := w) (base := base) F_law g_law C_l_cell_at C_l_many C_l_names C_l_rows C_l_lines C_Times_init C_fewest_hands C_l_right z_int z_len z_list
theorem go_nx {β ρ γ : Type} {b : β} {k : β → γ} {e : ρ → γ} : Fl.go (Fl.nx b) k e = k b := rfl
theorem cell_ok (sc : List Int) {k : Int} (h : 0 ≤ k) : Ok (m_l_cell_at sc k) (fun _ => True) := by
  unfold m_l_cell_at
  exact ok_ite (fun h2 => ok_ret (ok_atI h (of_decide_eq_true h2) fun _ _ => trivial)) (fun _ => ok_some trivial)
theorem made_eq (t s : Str) (m : Int) (h : t.length ≤ sizeLine) : m_is_made_of t s m = some (!(decide ((t.length : Int) < 1) || decide (m < (t.length : Int))) && !(chars t).any (fun x => !inS x s)) := by
  unfold m_is_made_of
  rw [chk_pos h]
  split
  · rename_i e
    rw [e]; rfl
  · rename_i e
    rw [Bool.not_eq_true] at e
    rw [e, foldF_any (p := fun x => !inS x s) (r := false) (fun x => rfl)]
    cases (chars t).any (fun x => !inS x s) <;> rfl
theorem md (x : Int) {n : Int} (h : 0 < n) : 0 ≤ x % n ∧ x % n < n := ⟨Int.emod_nonneg _ (by omega), Int.emod_lt_of_pos _ h⟩
theorem div_big {y : Int} (h1 : 0 < y) (h2 : y ≤ 10 ^ 64) : DivOk y := ⟨h1, PySem.Flt.log2_lt_of (by decide) (Nat.lt_of_le_of_lt (show y.natAbs ≤ 10 ^ 64 by omega) (Nat.lt_of_lt_of_le (show 10 ^ 64 < 2 ^ 250 by decide +kernel) (Nat.pow_le_pow_right (by decide) (by decide))))⟩
theorem row_ok {cell many count : Int} (h1 : 0 < many) (h2 : many ≤ 10 ^ 64) (h3 : 0 ≤ count) (h4 : count ≤ 1000) : Ok (m_l_row cell many count) (fun r => (r.length : Int) = count ∧ ∀ x ∈ r, 0 ≤ x ∧ x < many) := by
  unfold m_l_row
  refine ok_lt fun f hf => ok_lt fun n _ => ok_chk ⟨by omega, by omega⟩ (ok_bnd (P := fun b => (b.1.length : Int) = count ∧ ∀ x ∈ b.1, 0 ≤ x ∧ x < many) (ok_foldO (fun i b => b.1.length = i ∧ ∀ x ∈ b.1, 0 ≤ x ∧ x < many) ⟨by rw [hf]; rfl, by rw [hf]; simp⟩ ?_ ?_) ?_)
  · rintro i ⟨b1, b2⟩ x hx ⟨hl, hm⟩
    obtain ⟨e1, e2⟩ := rng_at hx
    dsimp only at hl hm ⊢
    have hz := szl
    have key : ∀ v : Int, (b1 ++ [v % many]).length = i + 1 ∧ ∀ z ∈ b1 ++ [v % many], 0 ≤ z ∧ z < many := fun v => by
      refine ⟨by rw [List.length_append, hl]; rfl, fun z hz => ?_⟩
      rcases List.mem_append.mp hz with h | h
      · exact hm z h
      · rw [List.mem_singleton.mp h]
        exact ⟨Int.emod_nonneg _ (by omega), Int.emod_lt_of_pos _ h1⟩
    refine ok_bnd (P := fun b => b.1.length = i + 1 ∧ ∀ z ∈ b.1, 0 ≤ z ∧ z < many) (ok_ite (fun _ => ?_) (fun _ => ?_)) (fun r hr => ok_some hr)
    · refine ok_chk h1 (ok_chk (by omega) (ok_lt fun y hy => ok_chk (div_big h1 h2) (ok_lt fun _ _ => ok_some ?_)))
      rw [hy]; exact key _
    · refine ok_chk (mul_l (by omega) (by omega)) (ok_lt fun w _ => ok_chk h1 (ok_chk (by omega) (ok_lt fun y hy => ok_some ?_)))
      rw [hy]; exact key _
  · rintro b ⟨hl, hm⟩
    exact ⟨by rw [hl, rng_len_nn h3]; omega, hm⟩
  · exact fun b hb => ok_some hb
theorem ixOf_ex {l : List Int} {x : Int} (h : x ∈ l) : ∃ j : Nat, ixOf x l = some j := by
  induction l with
  | nil => simp at h
  | cons y r ih =>
    unfold ixOf
    by_cases e : y = x
    · rw [if_pos e]; exact ⟨0, rfl⟩
    · rw [if_neg e]
      obtain ⟨j, hj⟩ := ih ((List.mem_cons.mp h).resolve_left fun z => e z.symm)
      exact ⟨j + 1, by rw [hj]; rfl⟩
theorem in_let (c : Nat) : inS ⟨#[c]⟩ c_LETTERS = decide (97 ≤ c ∧ c ≤ 122) := by
  unfold inS
  rw [StrLaws.found_one, show c_LETTERS.cps.toList = [97, 98, 99, 100, 101, 102, 103, 104, 105, 106, 107, 108, 109, 110, 111, 112, 113, 114, 115, 116, 117, 118, 119, 120, 121, 122] from by decide +kernel, Bool.eq_iff_iff, decide_eq_true_iff, decide_eq_true_iff]
  simp only [List.mem_cons, List.not_mem_nil, or_false]
  omega
theorem name_ok {x : Str} (h : ∀ c ∈ x.cps.toList, 97 ≤ c ∧ c ≤ 122) (h1 : 1 ≤ x.length) (h2 : x.length ≤ 10) : m_is_name x = some true := by
  unfold m_is_name
  rw [made_eq x _ _ (by rw [szl]; omega)]
  have h3 : decide ((x.length : Int) < 1) = false := decide_eq_false (by omega)
  have h4 : decide ((10 : Int) < (x.length : Int)) = false := decide_eq_false (by omega)
  have h5 : (chars x).any (fun y => !inS y c_LETTERS) = false := by
    rw [List.any_eq_false]
    intro y hy
    obtain ⟨c, hc, rfl⟩ := List.mem_map.mp hy
    rw [in_let, decide_eq_true (h c hc)]; decide
  rw [h3, h4, h5]; rfl
theorem rep_q : ∀ n : Fin 11, (replS ("q" : Str) (n.val : Int)).cps.toList = List.replicate n.val 113 := by decide +kernel
theorem rep_qn {n : Int} (h0 : 0 ≤ n) (h1 : n ≤ 10) : (replS ("q" : Str) n).cps.toList = List.replicate n.toNat 113 := by
  obtain ⟨k, rfl⟩ := Int.eq_ofNat_of_zero_le h0
  exact rep_q ⟨k, by omega⟩
theorem rep_okF : ∀ n : Fin 11, RepS ("q" : Str) (n.val : Int) := by
  unfold RepS PySem.MulOk
  decide +kernel
theorem rep_okn {n : Int} (h0 : 0 ≤ n) (h1 : n ≤ 10) : RepS ("q" : Str) n := by
  obtain ⟨k, rfl⟩ := Int.eq_ofNat_of_zero_le h0
  exact rep_okF ⟨k, by omega⟩
theorem abc_at : ∀ k : Fin 26, ("abcdefghijklmnopqrstuvwxyz" : Str).cps.toList[k.val]? = some (97 + k.val) := by decide +kernel
def NmT (cell : Int) (j : Nat) (x : Str) : Prop := (∀ c ∈ x.cps.toList, 97 ≤ c ∧ c ≤ 122) ∧ (1 ≤ x.cps.toList.length ∧ x.cps.toList.length ≤ 10) ∧
  (if cell % 3 = 0 then (if j < 10 then x.cps.toList.length = j + 1 ∧ x.cps.toList.head? = some 113 else x.cps.toList.head? = some (97 + j)) else x.cps.toList.head? = some (97 + ((cell / 3 + 5 * (j : Int)) % 26).toNat))
theorem NmT.inj {cell : Int} {i j : Nat} {x : Str} (h : NmT cell i x) (h' : NmT cell j x) (hi : i < 12) (hj : j < 12) : i = j := by
  obtain ⟨_, _, a⟩ := h
  obtain ⟨_, _, b⟩ := h'
  by_cases e : cell % 3 = 0
  · rw [if_pos e] at a b
    by_cases e1 : i < 10
    · rw [if_pos e1] at a
      by_cases e2 : j < 10
      · rw [if_pos e2] at b; omega
      · rw [if_neg e2, a.2] at b
        have := Option.some.inj b
        omega
    · rw [if_neg e1] at a
      by_cases e2 : j < 10
      · rw [if_pos e2, a] at b
        have := Option.some.inj b.2
        omega
      · rw [if_neg e2, a] at b
        have := Option.some.inj b
        omega
  · rw [if_neg e] at a b
    rw [a] at b
    have := Option.some.inj b
    omega
theorem strlen (x : Str) : x.length = x.cps.toList.length := by rw [Array.length_toList]; rfl
theorem names_ok {cell many : Int} (h1 : 1 ≤ many) (h2 : many ≤ 12) : Ok (m_l_names cell many) (fun l => (l.length : Int) = many ∧ l.Nodup ∧ ∀ x ∈ l, m_is_name x = some true) := by
  unfold m_l_names
  have hz := szl
  refine ok_lt fun letters hl => ok_bnd (row_ok (by decide) (by decide +kernel) (by omega) (by omega)) fun rw_ hr => ok_lt fun longer hlo => ok_lt fun n0 hn0 => ok_chk ⟨by omega, by omega⟩ (ok_bnd (P := fun b : List Str => (b.length : Int) = many ∧ ∀ (j : Nat) x, b[j]? = some x → NmT cell j x) (ok_foldO (fun i (b : List Str) => b.length = i ∧ ∀ (j : Nat) x, b[j]? = some x → NmT cell j x) ⟨by rw [hn0]; rfl, by rw [hn0]; simp⟩ ?_ ?_) ?_)
  · rintro i b x hx ⟨bl, bm⟩
    obtain ⟨e1, e2⟩ := rng_at hx
    rw [Int.zero_add] at e1
    have key : ∀ v : Str, NmT cell i v → (b ++ [v]).length = i + 1 ∧ ∀ (j : Nat) x, (b ++ [v])[j]? = some x → NmT cell j x := fun v hv => by
      refine ⟨by rw [List.length_append, bl]; rfl, fun j y hy => ?_⟩
      by_cases hj : j < i
      · rw [List.getElem?_append_left (by omega)] at hy
        exact bm j y hy
      · have hlt := (List.getElem?_eq_some_iff.mp hy).1
        rw [List.length_append, List.length_singleton, bl] at hlt
        have e : j = i := by omega
        subst e
        rw [List.getElem?_append_right (by omega), bl, Nat.sub_self] at hy
        cases hy
        exact hv
    have hll : letters.length = 26 := by rw [hl]; decide +kernel
    refine ok_ret (ok_ite (fun c => ?_) (fun c => ok_ret (ok_ite (fun c2 => ?_) (fun c2 => ?_))))
    · obtain ⟨c1, c2⟩ := Bool.and_eq_true_iff.mp c
      have c1 := of_decide_eq_true c1
      have c2 := of_decide_eq_true c2
      refine ok_chk ?rep (ok_chk (by omega) (ok_lt fun y hy => ok_some ?_))
      case rep => exact rep_okn (by omega) (by omega)
      subst hy
      refine key _ ?_
      have er := rep_qn (n := x + 1) (by omega) (by omega)
      refine ⟨fun d hd => ?_, ?_, ?_⟩
      · rw [er] at hd
        rw [(List.mem_replicate.mp hd).2]; omega
      · rw [er, List.length_replicate]; omega
      · rw [if_pos c1, if_pos (by omega), er, List.length_replicate]
        refine ⟨by omega, ?_⟩
        rw [show (x + 1).toNat = i + 1 from by omega, List.replicate_succ]; rfl
    · have c2 := of_decide_eq_true c2
      have c3 : ¬ x < 10 := fun z => by rw [decide_eq_true c2, decide_eq_true z] at c; cases c
      refine ok_bnd (P := fun y : Str => y = ⟨#[97 + i]⟩) (ok_sgn (by omega) (by omega) (by omega) fun d hd => ?_) fun y hy => ok_chk (by omega) (ok_lt fun z hz => ok_some ?_)
      · rw [hl, show x.toNat = i from by omega, abc_at ⟨i, by omega⟩] at hd
        rw [← Option.some.inj hd]
      · subst hz hy
        refine key _ ⟨fun d hd => ?_, ⟨Nat.le_refl 1, show 1 ≤ 10 by decide⟩, ?_⟩
        · rw [List.mem_singleton.mp hd]; omega
        · rw [if_pos c2, if_neg (by omega)]; rfl
    · have c2 : ¬ cell % 3 = 0 := of_decide_eq_false c2
      have hm := md (cell / 3 + 5 * x) (n := 26) (by decide)
      have hxm : ∃ v, atI longer x = some v := by
        rw [hlo, e1, atI_get (by omega) (by omega), Int.toNat_natCast]
        exact ⟨_, List.getElem?_eq_getElem (by omega)⟩
      obtain ⟨v, hv⟩ := hxm
      have hvm := md v (n := 10) (by decide)
      refine ok_bnd (P := fun y : Str => y = ⟨#[97 + ((cell / 3 + 5 * x) % 26).toNat]⟩) (ok_sgn (by omega) (by omega) (by omega) fun d hd => ?_) fun y hy => ok_bnd (ok_eq hv rfl) fun v' hv' => ?_
      · rw [hl, abc_at ⟨((cell / 3 + 5 * x) % 26).toNat, by omega⟩] at hd
        rw [← Option.some.inj hd]
      subst hv' hy
      have er := rep_qn (n := v % 10) (by omega) (by omega)
      have el : (replS ("q" : Str) (v % 10)).length = (v % 10).toNat := by rw [strlen, er, List.length_replicate]
      refine ok_chk ?rep2 (ok_chk ?_ (ok_chk (by omega) (ok_lt fun z hz => ok_some ?_)))
      case rep2 => exact rep_okn (by omega) (by omega)
      · rw [el]
        show 1 + _ ≤ _
        omega
      · subst hz
        have ea : ((⟨#[97 + ((cell / 3 + 5 * x) % 26).toNat]⟩ : Str) ++ replS ("q" : Str) (v % 10)).cps.toList = (97 + ((cell / 3 + 5 * x) % 26).toNat) :: List.replicate (v % 10).toNat 113 := by
          show ((#[97 + ((cell / 3 + 5 * x) % 26).toNat] : Array Nat) ++ (replS ("q" : Str) (v % 10)).cps).toList = _
          rw [Array.toList_append, er]; rfl
        refine key _ ⟨fun d hd => ?_, ?_, ?_⟩
        · rw [ea] at hd
          rcases List.mem_cons.mp hd with z | z
          · omega
          · rw [(List.mem_replicate.mp z).2]; omega
        · rw [ea, List.length_cons, List.length_replicate]; omega
        · rw [if_neg c2, ea, ← e1]; rfl
  · rintro b ⟨bl, bm⟩
    exact ⟨by rw [bl, rng_len]; omega, bm⟩
  · rintro b ⟨bl, bm⟩
    have nd : b.Nodup := by
      refine List.pairwise_iff_getElem.mpr fun i j hi hj hij heq => ?_
      have h3 := bm i _ (List.getElem?_eq_getElem hi)
      rw [heq] at h3
      have := h3.inj (bm j _ (List.getElem?_eq_getElem hj)) (by omega) (by omega)
      omega
    have nm : ∀ x ∈ b, m_is_name x = some true := fun x hx => by
      obtain ⟨j, hj⟩ := List.mem_iff_getElem?.mp hx
      obtain ⟨n1, n2, _⟩ := bm j x hj
      exact name_ok n1 (by rw [strlen]; exact n2.1) (by rw [strlen]; exact n2.2)
    refine ok_ret (ok_ite (fun _ => ok_lt fun y hy => ok_some ?_) (fun _ => ok_some ⟨bl, nd, nm⟩))
    subst hy
    exact ⟨by rw [List.length_reverse]; exact bl, (List.reverse_perm b).nodup_iff.mpr nd, fun x hx => nm x (List.mem_reverse.mp hx)⟩
def dd (b : List (List Int)) (i j : Nat) : Int := (((b[i]?).getD [])[j]?).getD 0
def Sq (n : Nat) (b : List (List Int)) : Prop := b.length = n ∧ ∀ (i : Nat) (r : List Int), b[i]? = some r → r.length = n
theorem Sq.row {n : Nat} {b : List (List Int)} (h : Sq n b) {i : Nat} (hi : i < n) : ∃ r, b[i]? = some r ∧ r.length = n ∧ ∀ j, j < n → r[j]? = some (dd b i j) := by
  have hl : i < b.length := by rw [h.1]; exact hi
  have e := List.getElem?_eq_getElem hl
  refine ⟨b[i], e, h.2 i _ e, fun j hj => ?_⟩
  have hj' : j < (b[i]).length := by rw [h.2 i _ e]; exact hj
  unfold dd
  rw [e, Option.getD_some, List.getElem?_eq_getElem hj']
  rfl
theorem getset {α : Type} {xs : List α} {i j : Nat} {x : α} (h : i < xs.length) : (xs.set i x)[j]? = if j = i then some x else xs[j]? := by
  rw [List.getElem?_set]
  by_cases e : i = j
  · subst e
    rw [if_pos rfl, if_pos h, if_pos rfl]
  · rw [if_neg e, if_neg (fun z => e z.symm)]
theorem dd_set {n : Nat} {b : List (List Int)} (h : Sq n b) {i j : Nat} {r : List Int} {v : Int} (hi : i < n) (hj : j < n) (hr : b[i]? = some r) :
    Sq n (b.set i (r.set j v)) ∧ ∀ a c, dd (b.set i (r.set j v)) a c = if a = i ∧ c = j then v else dd b a c := by
  have hl : i < b.length := by rw [h.1]; exact hi
  have hrl := h.2 i r hr
  refine ⟨⟨by rw [List.length_set]; exact h.1, fun a q hq => ?_⟩, fun a c => ?_⟩
  · rw [getset hl] at hq
    by_cases e : a = i
    · rw [if_pos e] at hq
      cases hq
      rw [List.length_set]; exact hrl
    · rw [if_neg e] at hq
      exact h.2 a q hq
  · unfold dd
    rw [getset hl]
    by_cases e : a = i
    · rw [if_pos e, Option.getD_some, getset (by omega)]
      by_cases e2 : c = j
      · rw [if_pos e2, if_pos ⟨e, e2⟩]; rfl
      · rw [if_neg e2, if_neg (fun z => e2 z.2), e, hr]; rfl
    · rw [if_neg e, if_neg (fun z => e z.1)]
structure Cl (n k : Nat) (b : List (List Int)) : Prop where
  sq : Sq n b
  nn : ∀ i j, i < n → j < n → 0 ≤ dd b i j
  dg : ∀ i, i < n → dd b i i = 0
  tr : ∀ q i j, q < k → q < n → i < n → j < n → dd b i j ≤ dd b i q + dd b q j
theorem atI_n {α : Type} {xs : List α} {i : Nat} {x : α} (h : xs[i]? = some x) : atI xs (i : Int) = some x := by
  obtain ⟨h1, _⟩ := List.getElem?_eq_some_iff.mp h
  rw [atI_get (by omega) (by omega), Int.toNat_natCast, h]
theorem ixN_n {n i : Nat} (h : i < n) : ixN n (i : Int) = some i := by
  unfold ixN
  rw [if_pos (by omega), if_pos (by omega), Int.toNat_natCast]
theorem closed_ok {n : Nat} (hn : n ≤ 1000) {b : List (List Int)} (h : Cl n 0 b) : Ok (m_l_closed b) (Cl n n) := by
  unfold m_l_closed
  have hbl := h.sq.1
  refine ok_chk ⟨by omega, by omega⟩ (ok_bnd (P := Cl n n) (ok_foldO (fun k b => Cl n k b) h ?_ (fun b hb => by rw [rng_len] at hb; have : ((b : List (List Int)).length : Nat) = n := hb.sq.1; rw [show ((((_ : List (List Int)).length : Int) - 0).toNat) = n from by omega] at hb; exact hb)) fun r hr => ok_some hr)
  rintro k b0 x hx hc
  obtain ⟨e1, e2⟩ := rng_at hx
  have hk : k < n := by omega
  rw [Int.zero_add] at e1
  subst e1
  refine ok_ret (ok_foldO (fun i b => Sq n b ∧ ∀ a c, a < n → c < n → dd b a c = if a < i then min (dd b0 a c) (dd b0 a k + dd b0 k c) else dd b0 a c) ⟨hc.sq, fun a c _ _ => by rw [if_neg (by omega)]⟩ ?_ ?_)
  · rintro i b1 x hx ⟨s1, d1⟩
    have hi : i < n := by
      obtain ⟨h1, _⟩ := List.getElem?_eq_some_iff.mp hx
      rw [List.length_range, hc.sq.1] at h1
      exact h1
    rw [List.getElem?_range (by rw [hc.sq.1]; exact hi)] at hx
    cases hx
    have hb1 := s1.1
    refine ok_chk ⟨by omega, by omega⟩ (ok_ret (ok_foldO (fun j b => Sq n b ∧ ∀ a c, a < n → c < n → dd b a c = if a < i ∨ (a = i ∧ c < j) then min (dd b0 a c) (dd b0 a k + dd b0 k c) else dd b0 a c) ⟨s1, fun a c ha hc' => by rw [d1 a c ha hc']; by_cases e : a < i; (rw [if_pos e, if_pos (Or.inl e)]); (rw [if_neg e, if_neg (by omega)])⟩ ?_ ?_))
    · rintro j b2 x hx ⟨s2, d2⟩
      obtain ⟨e3, e4⟩ := rng_at hx
      rw [Int.zero_add] at e3
      subst e3
      have hj : j < n := by omega
      obtain ⟨ri, r1, r2, r3⟩ := s2.row hi
      obtain ⟨rk, k1, k2, k3⟩ := s2.row hk
      refine ok_bnd (ok_eq r1 rfl) ?_
      rintro _ rfl
      refine ok_bnd (ok_eq (atI_n (r3 k hk)) rfl) ?_
      rintro _ rfl
      refine ok_bnd (ok_eq (atI_n k1) rfl) ?_
      rintro _ rfl
      refine ok_bnd (ok_eq (atI_n (k3 j hj)) rfl) ?_
      rintro _ rfl
      refine ok_lt fun way hw => ?_
      refine ok_bnd (ok_eq r1 rfl) ?_
      rintro _ rfl
      refine ok_bnd (ok_eq (atI_n (r3 j hj)) rfl) ?_
      rintro _ rfl
      refine ok_bnd (ok_eq r1 rfl) ?_
      rintro _ rfl
      refine ok_bnd (ok_eq (ixN_n (i := j) (by omega)) rfl) ?_
      rintro _ rfl
      refine ok_lt fun ll hll => ok_some ?_
      subst hll hw
      obtain ⟨t1, t2⟩ := dd_set (v := min (dd b2 i j) (dd b2 i k + dd b2 k j)) s2 hi hj r1
      refine ⟨t1, fun a c ha hc' => ?_⟩
      rw [t2]
      have dk := hc.dg k hk
      have e5 : dd b2 i k = dd b0 i k := by rw [d2 i k hi hk]; split <;> omega
      have e6 : dd b2 k j = dd b0 k j := by rw [d2 k j hk hj]; split <;> omega
      have e7 : dd b2 i j = dd b0 i j := by rw [d2 i j hi hj, if_neg (by omega)]
      by_cases e : a = i ∧ c = j
      · rw [if_pos e, if_pos (by omega), e5, e6, e7, e.1, e.2]
      · rw [if_neg e, d2 a c ha hc']
        by_cases e8 : a < i ∨ (a = i ∧ c < j)
        · rw [if_pos e8, if_pos (by omega)]
        · rw [if_neg e8, if_neg (by omega)]
    · rintro b2 ⟨s2, d2⟩
      refine ⟨s2, fun a c ha hc' => ?_⟩
      rw [d2 a c ha hc', rng_len]
      by_cases e : a < i + 1
      · rw [if_pos (by omega), if_pos e]
      · rw [if_neg (by omega), if_neg e]
  · rintro b1 ⟨s1, d1⟩
    rw [List.length_range, hc.sq.1] at d1
    have D : ∀ a c, a < n → c < n → dd b1 a c = min (dd b0 a c) (dd b0 a k + dd b0 k c) := fun a c ha hc' => by rw [d1 a c ha hc', if_pos ha]
    refine ⟨s1, fun i j hi hj => ?_, fun i hi => ?_, fun q i j hq hqn hi hj => ?_⟩
    · rw [D i j hi hj]
      have := hc.nn i j hi hj; have := hc.nn i k hi hk; have := hc.nn k j hk hj
      omega
    · rw [D i i hi hi]
      have := hc.dg i hi; have := hc.nn i k hi hk; have := hc.nn k i hk hi
      omega
    · rw [D i j hi hj, D i q hi hqn, D q j hqn hj]
      have a1 := hc.dg k hk
      have a2 := hc.nn k q hk hqn; have a3 := hc.nn q k hqn hk
      by_cases e : q = k
      · subst e; omega
      · have b1 := hc.tr q i j (by omega) hqn hi hj
        have b2 := hc.tr q k j (by omega) hqn hk hj
        have b3 := hc.tr q i k (by omega) hqn hi hk
        omega
theorem rows_at {n : Nat} {b : List (List Int)} (h : Sq n b) {x : List Int} (hx : x ∈ b) : ∃ i, i < n ∧ b[i]? = some x ∧ x.length = n ∧ ∀ j, j < n → x[j]? = some (dd b i j) := by
  obtain ⟨i, hi⟩ := List.mem_iff_getElem?.mp hx
  have hl : i < n := by rw [← h.1]; exact (List.getElem?_eq_some_iff.mp hi).1
  obtain ⟨r, r1, r2, r3⟩ := h.row hl
  rw [hi] at r1
  cases r1
  exact ⟨i, hl, hi, r2, r3⟩
theorem straight_ok {n : Nat} (hn : n ≤ 1000) {b : List (List Int)} (h : Cl n n b) : m_is_straight b = some true := by
  have hbl := h.sq.1
  have : Ok (m_is_straight b) (· = true) := by
    unfold m_is_straight
    refine ok_bnd (P := fun o => o = .nx ()) (foldF_ok (fun x hx => ?_) rfl) (fun o ho => by subst ho; exact ok_some rfl)
    obtain ⟨i, hi, _, r2, r3⟩ := rows_at h.sq hx
    refine ok_chk ⟨by omega, by omega⟩ (ok_bnd (P := fun o => o = .nx ()) (foldF_ok (fun k hk => ?_) rfl) (fun o ho => by subst ho; exact ok_some rfl))
    obtain ⟨k0, k1⟩ := mem_rng.mp hk
    obtain ⟨k, rfl⟩ := Int.eq_ofNat_of_zero_le k0
    refine ok_chk ⟨by omega, by omega⟩ (ok_bnd (P := fun o => o = .nx ()) (foldF_ok (fun j hj => ?_) rfl) (fun o ho => by subst ho; exact ok_some rfl))
    obtain ⟨j0, j1⟩ := mem_rng.mp hj
    obtain ⟨j, rfl⟩ := Int.eq_ofNat_of_zero_le j0
    have hk' : k < n := by omega
    have hj' : j < n := by omega
    obtain ⟨rk, s1, s2, s3⟩ := h.sq.row hk'
    refine ok_bnd (ok_eq (atI_n (r3 j hj')) rfl) ?_
    rintro _ rfl
    refine ok_bnd (ok_eq (atI_n (r3 k hk')) rfl) ?_
    rintro _ rfl
    refine ok_bnd (ok_eq (atI_n s1) rfl) ?_
    rintro _ rfl
    refine ok_bnd (ok_eq (atI_n (s3 j hj')) rfl) ?_
    rintro _ rfl
    have := h.tr k i j hk' hk' hi hj'
    exact ok_ite (fun z => absurd (of_decide_eq_true z) (by omega)) (fun _ => ok_some rfl)
  exact this.eq
theorem square_ok {n : Nat} (h0 : 1 ≤ n) (hn : n ≤ 1000) {b : List (List Int)} (h : Cl n n b) {names : List Str} (hl : names.length = n) : m_is_square names b = some true := by
  have hbl := h.sq.1
  have hz := szl
  have : Ok (m_is_square names b) (· = true) := by
    unfold m_is_square
    refine ok_ite (fun z => ?_) (fun _ => ?_)
    · rw [decide_eq_true (show ((b.length : Nat) : Int) = (names.length : Int) by omega)] at z; cases z
    refine ok_bnd (P := fun o => o = .nx ()) (foldF_ok (fun x hx => ?_) rfl) (fun o ho => ?_)
    · obtain ⟨i, hi, _, r2, r3⟩ := rows_at h.sq hx
      refine ok_bnd (P := fun c => c = false) (ok_orO (fun _ => ?_) (fun z => ?_)) (fun c hc => by subst hc; exact ok_some rfl)
      · cases x with
        | nil => simp at r2; omega
        | cons y ys =>
          refine ok_bnd (P := fun m : Int => 0 ≤ m) (show Ok (some (ys.foldl min y)) _ from ok_some ?_) (fun m hm => ok_some (decide_eq_false (by omega)))
          obtain ⟨h3, _⟩ := foldl_min ys y
          obtain ⟨j, hj⟩ := List.mem_iff_getElem?.mp h3
          have hj' : j < n := by rw [← r2]; exact (List.getElem?_eq_some_iff.mp hj).1
          rw [r3 j hj'] at hj
          rw [← Option.some.inj hj]
          exact h.nn i j hi hj'
      · rw [decide_eq_true (show ((x.length : Nat) : Int) = (names.length : Int) by omega)] at z; cases z
    · subst ho
      refine ok_chk ⟨by omega, by omega⟩ (ok_bnd (P := fun ys : List Bool => ys.length = n ∧ ∀ y ∈ ys, y = true) ?_ (fun ys ⟨y1, y2⟩ => ok_chk (by omega) (ok_some (List.all_eq_true.mpr fun y hy => y2 y hy))))
      refine (ok_mapO (P := fun _ y => y = true) fun x hx => ?_).imp fun ys ⟨a1, a2⟩ => ⟨by rw [a1, rng_len]; omega, fun y hy => ?_⟩
      · obtain ⟨k0, k1⟩ := mem_rng.mp hx
        obtain ⟨k, rfl⟩ := Int.eq_ofNat_of_zero_le k0
        have hk' : k < n := by omega
        obtain ⟨rk, s1, s2, s3⟩ := h.sq.row hk'
        refine ok_bnd (ok_eq (atI_n s1) rfl) ?_
        rintro _ rfl
        refine ok_bnd (ok_eq (atI_n (s3 k hk')) rfl) ?_
        rintro _ rfl
        exact ok_some (decide_eq_true (h.dg k hk'))
      · obtain ⟨i, hi⟩ := List.mem_iff_getElem?.mp hy
        obtain ⟨_, _, hp⟩ := a2 i y hi
        exact hp
  exact this.eq
theorem cut_nat {α : Type} (xs : List α) (a c : Nat) (h : a + c ≤ xs.length) : cut xs (some (a : Int)) (some ((a : Int) + (c : Int))) = (xs.drop a).take c := by
  rw [show ((a : Int) + (c : Int)) = ((a + c : Nat) : Int) by omega]
  unfold cut
  rw [HT.sIx_nat, HT.sIx_nat, Nat.min_eq_left (by omega), Nat.min_eq_left (by omega), Nat.add_sub_cancel_left]
theorem rows_ok {cell : Int} {n : Nat} (h1 : 1 ≤ n) (h2 : n ≤ 12) : Ok (m_l_rows cell (n : Int)) (Cl n n) := by
  unfold m_l_rows
  have hz := szl
  have hm := md cell (n := 3) (by decide)
  have hN : n * n ≤ 12 * 12 := Nat.mul_le_mul h2 h2
  have hN2 : ((n * n : Nat) : Int) = (n : Int) * (n : Int) := Int.natCast_mul _ _
  refine ok_bnd (P := fun s : Int => 0 < s ∧ s ≤ 10 ^ 64) (ok_atI hm.1 hm.2 fun x hx => ?_) fun sz hsz => ok_chk (mul_l (by omega) (by omega)) ?_
  · have : (cell % 3).toNat = 0 ∨ (cell % 3).toNat = 1 ∨ (cell % 3).toNat = 2 := by omega
    rcases this with e | e | e
    · rw [e] at hx
      obtain rfl : (6 : Int) = x := Option.some.inj hx
      decide +kernel
    · rw [e] at hx
      obtain rfl : (30 : Int) = x := Option.some.inj hx
      decide +kernel
    · rw [e] at hx
      obtain rfl : (10 : Int) ^ ((59 : Int)).toNat = x := Option.some.inj hx
      decide +kernel
  refine ok_bnd (row_ok hsz.1 hsz.2 (by omega) (by omega)) fun rw_ hr => ok_lt fun sm hs => ok_chk ⟨by omega, by omega⟩ (ok_bnd (P := fun ys : List (List Int) => ys.length = n ∧ ∀ (i : Nat) (r : List Int), ys[i]? = some r → r.length = n ∧ ∀ x ∈ r, 0 ≤ x) ((ok_mapO (P := fun _ r => r.length = n ∧ ∀ x ∈ r, 0 ≤ x) fun x hx => ?_).imp fun ys ⟨a1, a2⟩ => ⟨by rw [a1, rng_len]; omega, fun i r hr => (by obtain ⟨_, _, h⟩ := a2 i r hr; exact h)⟩) fun ys hy => ok_chk (by omega) (ok_chk ⟨by omega, by omega⟩ (ok_bnd (P := Cl n 0) (ok_foldO (fun i b => Sq n b ∧ (∀ a c, a < n → c < n → 0 ≤ dd b a c) ∧ ∀ a, a < i → dd b a a = 0) ?_ ?_ ?_) fun o ho => ok_ret (closed_ok (by omega) ho))))
  · obtain ⟨k0, k1⟩ := mem_rng.mp hx
    obtain ⟨k, rfl⟩ := Int.eq_ofNat_of_zero_le k0
    have hk : n * (k + 1) ≤ n * n := Nat.mul_le_mul_left n (by omega)
    rw [Nat.mul_succ] at hk
    refine ok_chk (mul_l (by omega) (by omega)) (ok_chk (mul_l (by omega) (by omega)) (ok_some ?_))
    rw [show (n : Int) * (k : Int) = ((n * k : Nat) : Int) from (Int.natCast_mul _ _).symm, cut_nat sm (n * k) n (by rw [hs]; omega)]
    refine ⟨by rw [List.length_take, List.length_drop, hs]; omega, fun x hx => ?_⟩
    have := List.mem_of_mem_drop (List.mem_of_mem_take hx)
    rw [hs] at this
    exact (hr.2 x this).1
  · refine ⟨⟨hy.1, fun i r h => (hy.2 i r h).1⟩, fun a c ha hc => ?_, fun a h => absurd h (by omega)⟩
    have sq : Sq n ys := ⟨hy.1, fun i r h => (hy.2 i r h).1⟩
    obtain ⟨r, r1, r2, r3⟩ := sq.row ha
    exact (hy.2 a r r1).2 _ (List.mem_of_getElem? (r3 c hc))
  · rintro i b x hx ⟨sq, nn, dg⟩
    obtain ⟨e1, e2⟩ := rng_at hx
    rw [Int.zero_add] at e1
    subst e1
    have hi : i < n := by omega
    have hbl := sq.1
    obtain ⟨r, r1, r2, r3⟩ := sq.row hi
    refine ok_bnd (ok_eq (ixN_n (i := i) (by omega)) rfl) ?_
    rintro _ rfl
    refine ok_bnd (ok_eq r1 rfl) ?_
    rintro _ rfl
    refine ok_bnd (ok_eq (ixN_n (i := i) (by omega)) rfl) ?_
    rintro _ rfl
    refine ok_lt fun ll hll => ok_some ?_
    subst hll
    obtain ⟨t1, t2⟩ := dd_set (v := 0) sq hi hi r1
    refine ⟨t1, fun a c ha hc => ?_, fun a ha => ?_⟩
    · rw [t2]
      split
      · exact Int.le_refl 0
      · exact nn a c ha hc
    · rw [t2]
      by_cases e : a = i
      · rw [if_pos ⟨e, e⟩]
      · rw [if_neg (fun z => e z.1)]
        exact dg a (by omega)
  · rintro b ⟨sq, nn, dg⟩
    rw [rng_len] at dg
    exact ⟨sq, nn, fun i hi => dg i (by omega), fun q i j hq => absurd hq (by omega)⟩
structure Nms (n : Nat) (names : List Str) : Prop where
  len : names.length = n
  nd : names.Nodup
  nm : ∀ x ∈ names, m_is_name x = some true
theorem times_ok {n : Nat} (h1 : 1 ≤ n) (h2 : n ≤ 12) {names : List Str} {rows : List (List Int)} (hn : Nms n names) (hr : Cl n n rows) : m_Times_init names rows = some ⟨names, rows⟩ := by
  have hz := szl
  have hl := hn.len
  have hrl := hr.sq.1
  have : Ok (m_Times_init names rows) (· = ⟨names, rows⟩) := by
    unfold m_Times_init
    refine ok_bnd (P := fun c => c = false) (ok_orO (fun _ => ok_orO (fun _ => ok_chk (by omega) (ok_some ?_)) (fun z => absurd (of_decide_eq_true z) (by omega))) (fun z => absurd (of_decide_eq_true z) (by omega))) fun c hc => ?_
    · rw [(ddS_inv names).2.2.mpr hn.nd, decide_eq_true rfl]; rfl
    subst hc
    refine ok_ite (fun z => by cases z) (fun _ => ?_)
    refine ok_bnd (ok_eq (mapO_eq (g := fun _ => true) fun x hx => by rw [hn.nm x hx]; rfl) rfl) ?_
    rintro _ rfl
    refine ok_chk (by rw [List.length_map]; omega) (ok_ite (fun z => ?_) (fun _ => ?_))
    · rw [show ((names.map fun _ => true).all id) = true from List.all_eq_true.mpr fun y hy => by obtain ⟨_, _, rfl⟩ := List.mem_map.mp hy; rfl] at z
      cases z
    refine ok_bnd (ok_eq (square_ok h1 (by omega) hr hl) rfl) ?_
    rintro _ rfl
    refine ok_bnd (P := fun c => c = false) (ok_orO (fun _ => ?_) (fun z => by cases z)) fun c hc => ?_
    · rw [straight_ok (by omega) hr]; exact ok_some rfl
    subst hc
    refine ok_ite (fun z => by cases z) (fun _ => ok_chk (by rw [List.length_map]; omega) (ok_some ?_))
    rw [List.map_id']
  exact this.eq
theorem nms_ok {cell : Int} {n : Nat} (h1 : 1 ≤ n) (h2 : n ≤ 12) : Ok (m_l_names cell (n : Int)) (Nms n) :=
  (names_ok (by omega) (by omega)).imp fun l ⟨a, b, c⟩ => ⟨by omega, b, c⟩
def ix (names : List Str) (x : Str) : Nat := (ixOf x names).getD 0
theorem ix_ok {n : Nat} {names : List Str} (h : Nms n names) {x : Str} (hx : x ∈ names) : ixOf x names = some (ix names x) ∧ ix names x < n := by
  have : ∀ {l : List Str}, x ∈ l → ∃ j : Nat, ixOf x l = some j := by
    intro l
    induction l with
    | nil => intro h; simp at h
    | cons y r ih =>
      intro h
      unfold ixOf
      by_cases e : y = x
      · rw [if_pos e]; exact ⟨0, rfl⟩
      · rw [if_neg e]
        obtain ⟨j, hj⟩ := ih ((List.mem_cons.mp h).resolve_left fun z => e z.symm)
        exact ⟨j + 1, by rw [hj]; rfl⟩
  obtain ⟨j, hj⟩ := this hx
  have e : ix names x = j := by unfold ix; rw [hj]; rfl
  rw [e]
  refine ⟨hj, ?_⟩
  rw [← h.len]
  exact (List.getElem?_eq_some_iff.mp (ixOf_some hj).1).1
def tm (names : List Str) (rows : List (List Int)) (x y : Str) : Int := dd rows (ix names x) (ix names y)
theorem time_ok {n : Nat} {names : List Str} {rows : List (List Int)} (hn : Nms n names) (hr : Sq n rows) {x y : Str} (hx : x ∈ names) (hy : y ∈ names) : m_Times_time ⟨names, rows⟩ x y = some (tm names rows x y) := by
  have : Ok (m_Times_time ⟨names, rows⟩ x y) (· = tm names rows x y) := by
    unfold m_Times_time
    refine ok_bnd (P := fun o => o = .nx ()) (foldF_ok (fun z hz => ?_) rfl) (fun o ho => ?_)
    · have hm : z ∈ names := by
        rcases List.mem_cons.mp hz with e | e
        · rw [e]; exact hx
        · rw [List.mem_singleton.mp e]; exact hy
      exact ok_ite (fun c => by rw [show decide (z ∈ (⟨names, rows⟩ : R_Times).my_names) = true from decide_eq_true hm] at c; cases c) (fun _ => ok_some rfl)
    subst ho
    obtain ⟨x1, x2⟩ := ix_ok hn hx
    obtain ⟨y1, y2⟩ := ix_ok hn hy
    obtain ⟨r, r1, r2, r3⟩ := hr.row x2
    refine ok_bnd (ok_eq x1 rfl) ?_
    rintro _ rfl
    refine ok_bnd (ok_eq (atI_n r1) rfl) ?_
    rintro _ rfl
    refine ok_bnd (ok_eq y1 rfl) ?_
    rintro _ rfl
    refine ok_bnd (ok_eq (atI_n (r3 _ y2)) rfl) ?_
    rintro _ rfl
    exact ok_some rfl
  exact this.eq
abbrev Ln := T3 Str Int Int
def fol (names : List Str) (rows : List (List Int)) (x y : Ln) : Bool := decide (tm names rows x.a y.a ≤ y.b - x.c - 1)
theorem follow_ok {n : Nat} {names : List Str} {rows : List (List Int)} (hn : Nms n names) (hr : Sq n rows) {x y : Ln} (hx : x.a ∈ names) (hy : y.a ∈ names) : m_can_follow ⟨names, rows⟩ x y = some (fol names rows x y) := by
  unfold m_can_follow
  show bnd (m_Times_time ⟨names, rows⟩ x.a y.a) _ = _
  rw [time_ok hn hr hx hy]; rfl
def Lns (names : List Str) (ls : List Ln) : Prop := ∀ t ∈ ls, t.a ∈ names ∧ t.b ≤ t.c
theorem lines_ok {n : Nat} (h1 : 1 ≤ n) (h2 : n ≤ 12) {names : List Str} (hn : Nms n names) {cell many : Int} (m0 : 0 ≤ many) (m1 : many ≤ 1000) : Ok (m_l_lines names cell many) (fun l => (l.length : Int) = many ∧ Lns names l) := by
  unfold m_l_lines
  have hz := szl
  have hl := hn.len
  have hm := md cell (n := 4) (by decide)
  refine ok_bnd (P := fun s : Int => 0 < s ∧ s ≤ 10 ^ 59) (ok_atI hm.1 hm.2 fun x hx => ?_) fun sz hsz => ok_chk (mul_l (by omega) (by omega)) ?_
  · have : (cell % 4).toNat = 0 ∨ (cell % 4).toNat = 1 ∨ (cell % 4).toNat = 2 ∨ (cell % 4).toNat = 3 := by omega
    rcases this with e | e | e | e
    · rw [e] at hx
      obtain rfl : (12 : Int) = x := Option.some.inj hx
      decide +kernel
    · rw [e] at hx
      obtain rfl : (40 : Int) = x := Option.some.inj hx
      decide +kernel
    · rw [e] at hx
      obtain rfl : (40 : Int) = x := Option.some.inj hx
      decide +kernel
    · rw [e] at hx
      obtain rfl : (10 : Int) ^ ((59 : Int)).toNat = x := Option.some.inj hx
      decide +kernel
  have p1 : 0 < (names.length : Int) * sz := Int.mul_pos (by omega) hsz.1
  have p2 : (names.length : Int) * sz ≤ 12 * 10 ^ 59 := Int.mul_le_mul (by omega) hsz.2 (by omega) (by omega)
  refine ok_bnd (row_ok (by omega) (by omega) m0 m1) fun rw_ hr => ok_lt fun sm hs => ok_lt fun l0 hl0 => ok_bnd (P := fun b : List Ln => (b.length : Int) = many ∧ Lns names b) (ok_foldO (fun i b => b.length = i ∧ Lns names b) ⟨by rw [hl0]; rfl, by rw [hl0]; intro t ht; simp at ht⟩ ?_ ?_) fun b hb => ok_some hb
  · rintro i b x hx ⟨bl, bm⟩
    have hi := (List.getElem?_eq_some_iff.mp hx).1
    have hx' := List.mem_of_getElem? hx
    rw [hs] at hi hx'
    have q := md x (n := (names.length : Int)) (by omega)
    have q2 := md (x / (names.length : Int)) (n := 6) (by decide)
    have dv : DivOk (names.length : Int) := div_small (by omega) (by omega)
    refine ok_chk dv (ok_lt fun f hf => ok_chk (by omega) (ok_bnd (P := fun y => y ∈ names) (ok_atI q.1 q.2 fun y hy => List.mem_of_getElem? hy) fun y hy => ok_chk dv (ok_chk (by omega) (ok_lt fun z hz' => ok_some ?_))))
    subst hz'
    refine ⟨by rw [List.length_append, bl]; rfl, fun t ht => ?_⟩
    rcases List.mem_append.mp ht with h | h
    · exact bm t h
    · rw [List.mem_singleton.mp h]
      exact ⟨hy, by show f ≤ f + _; omega⟩
  · rintro b ⟨bl, bm⟩
    exact ⟨by rw [bl, hs]; exact hr.1, bm⟩
theorem many_ok (cell : Int) : Ok (m_l_many cell) (fun m => ∃ n : Nat, m = (n : Int) ∧ 1 ≤ n ∧ n ≤ 12) := by
  unfold m_l_many
  have q := md (cell / 8) (n := 5) (by decide)
  refine ok_ret ?_
  by_cases e : decide (cell % 8 = 3) = true
  · rw [if_pos e]
    exact ok_some ⟨12, rfl, by decide, by decide⟩
  · rw [if_neg e]
    exact ok_some ⟨(1 + cell / 8 % 5).toNat, by omega, by omega, by omega⟩
section
variable {κ τ : Type} [DecidableEq κ]
theorem dval_nil (j : κ) : dval ([] : List (κ × τ)) j = none := rfl
theorem dval_cons (i : κ) (x : τ) (xs : List (κ × τ)) (j : κ) : dval ((i, x) :: xs) j = if i = j then some x else dval xs j := by
  unfold dval
  rw [List.find?_cons]
  dsimp only
  by_cases h : i = j
  · rw [decide_eq_true h, if_pos h]; rfl
  · rw [decide_eq_false h, if_neg h]
theorem dval_any (xs : List (κ × τ)) (k : κ) : (xs.any fun z => decide (z.1 = k)) = (dval xs k).isSome := by
  induction xs with
  | nil => rfl
  | cons z r ih =>
    obtain ⟨i, x⟩ := z
    rw [List.any_cons, dval_cons, ih]
    dsimp only
    by_cases h : i = k
    · rw [if_pos h, decide_eq_true h]; rfl
    · rw [if_neg h, decide_eq_false h, Bool.false_or]
theorem dput_new {xs : List (κ × τ)} {k : κ} {y : τ} (h : dval xs k = none) : dput xs k y = xs ++ [(k, y)] := by
  unfold dput
  rw [dval_any, h]
  rfl
theorem dval_get {xs : List (κ × τ)} (hn : (xs.map (·.1)).Nodup) {i : Nat} {e : κ × τ} (h : xs[i]? = some e) : dval xs e.1 = some e.2 := by
  induction xs generalizing i with
  | nil => simp at h
  | cons z r ih =>
    obtain ⟨j, x⟩ := z
    rw [dval_cons]
    rw [List.map_cons, List.nodup_cons] at hn
    cases i with
    | zero => simp at h; subst h; rw [if_pos rfl]
    | succ i =>
      have h2 : r[i]? = some e := by simpa using h
      rw [if_neg, ih hn.2 h2]
      intro ee
      exact hn.1 (List.mem_map.mpr ⟨e, List.mem_of_getElem? h2, ee.symm⟩)
theorem dval_some_key {xs : List (κ × τ)} {k : κ} : (dval xs k).isSome = true ↔ k ∈ xs.map (·.1) := by
  rw [← dval_any, List.any_eq_true, List.mem_map]
  constructor
  · rintro ⟨z, hz, e⟩; exact ⟨z, hz, of_decide_eq_true e⟩
  · rintro ⟨z, hz, e⟩; exact ⟨z, hz, decide_eq_true e⟩
end
def nb (bh : List (List Int)) (u : Int) : List Int := (bh[u.toNat]?).getD []
def av (l : List (Option Int)) (u : Int) : Option Int := (l[u.toNat]?).getD none
theorem atI_nb {bh : List (List Int)} {u : Int} (h0 : 0 ≤ u) (h1 : u < bh.length) : atI bh u = some (nb bh u) := by
  rw [atI_get h0 h1]
  unfold nb
  rw [List.getElem?_eq_getElem (by omega)]; rfl
theorem atI_av {l : List (Option Int)} {u : Int} (h0 : 0 ≤ u) (h1 : u < l.length) : atI l u = some (av l u) := by
  rw [atI_get h0 h1]
  unfold av
  rw [List.getElem?_eq_getElem (by omega)]; rfl
theorem av_set {l : List (Option Int)} {u v : Int} {x : Option Int} (h0 : 0 ≤ u) (h1 : u < l.length) (h2 : 0 ≤ v) : av (l.set u.toNat x) v = if v = u then x else av l v := by
  unfold av
  rw [getset (by omega)]
  by_cases e : v = u
  · rw [if_pos (by omega), if_pos e]; rfl
  · rw [if_neg (by omega), if_neg e]
theorem ixN_in {n : Nat} {i : Int} (h0 : 0 ≤ i) (h1 : i < n) : ixN n i = some i.toNat := by
  unfold ixN
  rw [if_pos h0, if_pos (by omega)]
def Bh (n : Nat) (bh : List (List Int)) : Prop := bh.length = n ∧ ∀ u p : Int, p ∈ nb bh u → 0 ≤ p ∧ p < n
structure Fw (n : Nat) (bh : List (List Int)) (ah : List (Option Int)) (bg : List Int) (cm : List (Int × Int)) : Prop where
  nd : (cm.map (·.1)).Nodup
  rg : ∀ p : Int, p ∈ cm.map (·.1) → 0 ≤ p ∧ p < (n : Int)
  ord : ∀ (i : Nat) (p u : Int), cm[i]? = some (p, u) → p ∈ nb bh u ∧ (u ∈ bg ∨ ∃ (j : Nat) (q v : Int), j < i ∧ cm[j]? = some (q, v) ∧ av ah q = some u)
theorem nd_sub_len {α : Type} [DecidableEq α] : ∀ {l m : List α}, l.Nodup → (∀ x ∈ l, x ∈ m) → l.length ≤ m.length
  | [], _, _, _ => Nat.zero_le _
  | x :: r, m, hn, h => by
    rw [List.nodup_cons] at hn
    have h1 := h x List.mem_cons_self
    have h2 := nd_sub_len (l := r) (m := m.erase x) hn.2 (fun y hy => (List.mem_erase_of_ne (fun e => hn.1 (by rw [← e]; exact hy))).mpr (h y (List.mem_cons_of_mem _ hy)))
    rw [List.length_erase_of_mem h1] at h2
    have := List.length_pos_of_mem h1
    rw [List.length_cons]
    omega
theorem rng_sub {n : Nat} {l : List Int} (h : l.Nodup) (h2 : ∀ p : Int, p ∈ l → 0 ≤ p ∧ p < (n : Int)) : l.length ≤ n := by
  have := nd_sub_len (m := rng 0 (n : Int)) h fun x hx => mem_rng.mpr (h2 x hx)
  rw [rng_len] at this
  omega
theorem Fw.len {n : Nat} {bh : List (List Int)} {ah : List (Option Int)} {bg : List Int} {cm : List (Int × Int)} (h : Fw n bh ah bg cm) : cm.length ≤ n := by
  have := rng_sub h.nd h.rg
  rw [List.length_map] at this
  exact this
def rowOf (ah : List (Option Int)) (bg : List Int) (cm : List (Int × Int)) : List Int := bg ++ (cm.map (·.1)).filterMap (av ah)
theorem rowOf_mem {ah : List (Option Int)} {bg : List Int} {cm : List (Int × Int)} {u : Int} : u ∈ rowOf ah bg cm ↔ u ∈ bg ∨ ∃ p ∈ cm.map (·.1), av ah p = some u := by
  unfold rowOf
  rw [List.mem_append, List.mem_filterMap]
theorem rowOf_snoc (ah : List (Option Int)) (bg : List Int) (cm : List (Int × Int)) (p u : Int) : rowOf ah bg (cm ++ [(p, u)]) = rowOf ah bg cm ++ (av ah p).toList := by
  unfold rowOf
  rw [List.map_append, List.filterMap_append, List.append_assoc]
  congr 2
theorem rowOf_len {ah : List (Option Int)} {bg : List Int} {cm : List (Int × Int)} : (rowOf ah bg cm).length ≤ bg.length + cm.length := by
  unfold rowOf
  rw [List.length_append]
  have := List.length_filterMap_le (av ah) (cm.map (·.1))
  rw [List.length_map] at this
  omega
theorem ways_ok {n : Nat} (hn : n ≤ 1000) {bh : List (List Int)} {ah : List (Option Int)} {bg : List Int} (hb : Bh n bh) (ha : ah.length = n) (har : ∀ p u : Int, 0 ≤ p → p < (n : Int) → av ah p = some u → 0 ≤ u ∧ u < n) (hbg : ∀ u ∈ bg, 0 ≤ u ∧ u < (n : Int)) (hbl : bg.length ≤ n) :
    Ok (m_found_ways bh ah bg) (fun cm => Fw n bh ah bg cm ∧ ∀ u ∈ rowOf ah bg cm, ∀ p ∈ nb bh u, p ∈ cm.map (·.1)) := by
  unfold m_found_ways
  have hz := szl
  have hbl' := hb.1
  refine ok_lt fun row0 hr0 => ok_lt fun at0 ha0 => ok_bnd (P := fun b => Fw n bh ah bg b.1 ∧ ∀ u ∈ rowOf ah bg b.1, ∀ p ∈ nb bh u, p ∈ b.1.map (·.1)) (ok_whileO (fun b : List (Int × Int) × List Int × Int => Fw n bh ah bg b.1 ∧ b.2.1 = rowOf ah bg b.1 ∧ ∃ k : Nat, b.2.2 = k ∧ k ≤ b.2.1.length ∧ ∀ (j : Nat) (u : Int), j < k → b.2.1[j]? = some u → ∀ p ∈ nb bh u, p ∈ b.1.map (·.1)) (fun b => 2 * n + 1 - b.2.2.toNat) ?_ fuel _ ?_ ?_) (fun b hb => ok_some hb)
  · rintro ⟨cm, row, at'⟩ ⟨fw, hrow, k, hk, hkl, hp⟩
    dsimp only at fw hrow hk hkl hp ⊢
    subst hk
    have hrl : row.length ≤ n + n := by rw [hrow]; have := rowOf_len (ah := ah) (bg := bg) (cm := cm); have := fw.len; omega
    refine ok_some ?_
    by_cases hlt : k < row.length
    · rw [if_pos (decide_eq_true (by omega))]
      have hk' := List.getElem?_eq_getElem hlt
      generalize hu : row[k] = u at hk'
      have hum : u ∈ rowOf ah bg cm := by rw [← hrow, ← hu]; exact List.getElem_mem hlt
      have hur : 0 ≤ u ∧ u < (n : Int) := by
        rcases rowOf_mem.mp hum with h | ⟨p, h1, h2⟩
        · exact hbg u h
        · exact har p u (fw.rg p h1).1 (fw.rg p h1).2 h2
      refine ok_bnd (ok_eq (atI_n hk') rfl) ?_
      rintro _ rfl
      refine ok_bnd (ok_eq (atI_nb hur.1 (by omega)) rfl) ?_
      rintro _ rfl
      refine ok_bnd (P := fun b : List (Int × Int) × List Int => Fw n bh ah bg b.1 ∧ b.2 = rowOf ah bg b.1 ∧ (∃ ext, b.1 = cm ++ ext) ∧ ∀ p ∈ nb bh u, p ∈ b.1.map (·.1)) (ok_foldO (fun i (b : List (Int × Int) × List Int) => Fw n bh ah bg b.1 ∧ b.2 = rowOf ah bg b.1 ∧ (∃ ext, b.1 = cm ++ ext) ∧ ∀ (j : Nat) (p : Int), j < i → (nb bh u)[j]? = some p → p ∈ b.1.map (·.1)) ⟨fw, hrow, ⟨[], (List.append_nil _).symm⟩, fun j p h => absurd h (Nat.not_lt_zero _)⟩ ?_ ?_) ?_
      · rintro i ⟨c2, r2⟩ p hp' ⟨f2, e2, ⟨ext, x2⟩, d2⟩
        dsimp only at f2 e2 x2 d2 ⊢
        have hpm := List.mem_of_getElem? hp'
        have hpr := hb.2 u p hpm
        have hl2 := f2.len
        have hr2 : r2.length ≤ n + n := by rw [e2]; have := rowOf_len (ah := ah) (bg := bg) (cm := c2); omega
        have keep : ∀ j q, j < i + 1 → (nb bh u)[j]? = some q → q ∈ c2.map (·.1) ∨ q = p := fun j q hj hq => by
          by_cases e : j = i
          · subst e; rw [hp'] at hq; exact .inr (Option.some.inj hq).symm
          · exact .inl (d2 j q (by omega) hq)
        refine ok_bnd (P := fun b : List (Int × Int) × List Int => Fw n bh ah bg b.1 ∧ b.2 = rowOf ah bg b.1 ∧ (∃ ext, b.1 = cm ++ ext) ∧ ∀ (j : Nat) (p : Int), j < i + 1 → (nb bh u)[j]? = some p → p ∈ b.1.map (·.1)) (ok_ite (fun hc => ?_) (fun hc => ?_)) (fun b hb => ok_some hb)
        · have hnk : p ∉ c2.map (·.1) := fun h => by rw [dval_some_key.mpr h] at hc; cases hc
          have hrk : r2[k]? = some u := by
            rw [e2, x2]
            unfold rowOf
            rw [List.map_append, List.filterMap_append, ← List.append_assoc]
            rw [List.getElem?_append_left (by show k < (rowOf ah bg cm).length; rw [← hrow]; exact hlt)]
            show (rowOf ah bg cm)[k]? = _
            rw [← hrow]; exact hk'
          refine ok_bnd (P := fun v => v = u) (ok_eq (atI_n hrk) rfl) fun v hv => ?_
          refine ok_chk (by omega) (ok_lt fun kv hkv => ?_)
          rw [dput_new (by
            cases h : dval c2 p with
            | none => rfl
            | some z => exact absurd (dval_some_key.mp (by rw [h]; rfl)) hnk)] at hkv
          refine ok_bnd (P := fun w => w = av ah p) (ok_eq (atI_av hpr.1 (by omega)) rfl) fun w hw => ?_
          have fin : Fw n bh ah bg kv ∧ (∃ ext, kv = cm ++ ext) ∧ ∀ (j : Nat) (q : Int), j < i + 1 → (nb bh u)[j]? = some q → q ∈ kv.map (·.1) := by
            rw [hkv]
            refine ⟨⟨?_, ?_, ?_⟩, ⟨ext ++ [(p, v)], by rw [x2, List.append_assoc]⟩, fun j q hj hq => ?_⟩
            · rw [List.map_append]
              exact List.nodup_append.mpr ⟨f2.nd, by simp, fun a ha b hb2 e => by
                have : b = p := List.mem_singleton.mp hb2
                exact hnk (by rw [← this, ← e]; exact ha)⟩
            · intro q hq
              rw [List.map_append] at hq
              rcases List.mem_append.mp hq with h | h
              · exact f2.rg q h
              · rw [List.mem_singleton.mp h]; exact hpr
            · intro j q x hj
              by_cases hjl : j < c2.length
              · rw [List.getElem?_append_left hjl] at hj
                obtain ⟨o1, o2⟩ := f2.ord j q x hj
                refine ⟨o1, o2.imp id ?_⟩
                rintro ⟨m, q', v', m1, m2, m3⟩
                exact ⟨m, q', v', m1, by rw [List.getElem?_append_left (by omega)]; exact m2, m3⟩
              · have hlt2 := (List.getElem?_eq_some_iff.mp hj).1
                rw [List.length_append, List.length_singleton] at hlt2
                have ej : j = c2.length := by omega
                rw [ej, List.getElem?_append_right (Nat.le_refl _), Nat.sub_self] at hj
                have e3 := Option.some.inj hj
                have e4 : p = q := congrArg Prod.fst e3
                have e5 : v = x := congrArg Prod.snd e3
                subst e4 e5
                rw [hv]
                refine ⟨hpm, ?_⟩
                have hm : u ∈ rowOf ah bg c2 := by rw [← e2]; exact List.mem_of_getElem? hrk
                rcases rowOf_mem.mp hm with h | ⟨q, h1, h2⟩
                · exact .inl h
                · obtain ⟨⟨q1, v1⟩, hz1, rfl⟩ := List.mem_map.mp h1
                  obtain ⟨m, hm'⟩ := List.mem_iff_getElem?.mp hz1
                  have hml := (List.getElem?_eq_some_iff.mp hm').1
                  exact .inr ⟨m, q1, v1, by omega, by rw [List.getElem?_append_left hml]; exact hm', h2⟩
            · rw [List.map_append]
              rcases keep j q hj hq with h | h
              · exact List.mem_append.mpr (.inl h)
              · rw [h]; exact List.mem_append.mpr (.inr (List.mem_singleton.mpr rfl))
          have rr : rowOf ah bg kv = r2 ++ w.toList := by rw [hkv, rowOf_snoc, e2, hw]
          refine ok_bnd (P := fun r => r = r2 ++ w.toList) (ok_ite (fun hs => ?_) (fun hs => ok_some (by cases w with | none => exact (List.append_nil _).symm | some _ => cases hs))) (fun r hr => ok_some ⟨fin.1, by dsimp only; rw [hr, rr], fin.2⟩)
          refine ok_bnd (P := fun w => w = av ah p) (ok_eq (atI_av hpr.1 (by omega)) rfl) fun w' hw' => ?_
          rw [← hw] at hw'
          subst hw'
          cases w' with
          | none => cases hs
          | some z => exact ok_bnd (P := fun y => y = z) (ok_some rfl) fun y hy => ok_chk (by omega) (ok_lt fun r hr => ok_some (by rw [hr, hy]; rfl))
        · have hk2 : p ∈ c2.map (·.1) := dval_some_key.mp (by cases h : (dval c2 p).isSome with | true => rfl | false => rw [h] at hc; cases hc)
          exact ok_some ⟨f2, e2, ⟨ext, x2⟩, fun j q hj hq => (keep j q hj hq).elim id fun e => by rw [e]; exact hk2⟩
      · rintro ⟨c2, r2⟩ ⟨f2, e2, x2, d2⟩
        refine ⟨f2, e2, x2, fun p hp' => ?_⟩
        obtain ⟨j, hj⟩ := List.mem_iff_getElem?.mp hp'
        exact d2 j p (List.getElem?_eq_some_iff.mp hj).1 hj
      · rintro ⟨c2, r2⟩ ⟨f2, e2, ⟨ext, x2⟩, d2⟩
        dsimp only at f2 e2 x2 d2 ⊢
        refine ok_lt fun a1 ha1 => ok_some ⟨⟨f2, e2, k + 1, by rw [ha1]; rfl, ?_, ?_⟩, ?_⟩
        · have : (rowOf ah bg cm).length ≤ (rowOf ah bg c2).length := by
            rw [x2]
            unfold rowOf
            rw [List.map_append, List.filterMap_append, ← List.append_assoc, List.length_append (bs := List.filterMap _ (ext.map _))]
            omega
          dsimp only
          rw [e2]
          rw [← hrow] at this
          omega
        · intro j x hj hx p hp'
          dsimp only at hx ⊢
          have hpre : r2[j]? = row[j]? := by
            rw [e2, x2, hrow]
            unfold rowOf
            rw [List.map_append, List.filterMap_append, ← List.append_assoc]
            rw [List.getElem?_append_left (by show j < (rowOf ah bg cm).length; rw [← hrow]; omega)]
          rw [hpre] at hx
          by_cases e : j = k
          · rw [e, hk'] at hx
            rw [← Option.some.inj hx] at hp'
            exact d2 p hp'
          · have := hp j x (by omega) hx p hp'
            rw [x2, List.map_append]
            exact List.mem_append.mpr (.inl this)
        · dsimp only
          rw [ha1]
          omega
    · rw [if_neg (by rw [decide_eq_false (by omega)]; exact Bool.false_ne_true)]
      refine ⟨fw, fun u hu p hp' => ?_⟩
      rw [← hrow] at hu
      obtain ⟨j, hj⟩ := List.mem_iff_getElem?.mp hu
      exact hp j u (by have := (List.getElem?_eq_some_iff.mp hj).1; omega) hj p hp'
  · dsimp only
    refine ⟨⟨List.nodup_nil, by simp, by simp⟩, by rw [hr0]; unfold rowOf; simp, 0, ha0, Nat.zero_le _, fun j u h => absurd h (Nat.not_lt_zero _)⟩
  · unfold fuel; omega
structure Mt (n : Nat) (bh : List (List Int)) (af ah : List (Option Int)) : Prop where
  l1 : af.length = n
  l2 : ah.length = n
  rg : ∀ u p : Int, 0 ≤ u → u < (n : Int) → av af u = some p → 0 ≤ p ∧ p < (n : Int) ∧ p ∈ nb bh u
  rg2 : ∀ p u : Int, 0 ≤ p → p < (n : Int) → av ah p = some u → 0 ≤ u ∧ u < (n : Int)
  iff : ∀ u p : Int, 0 ≤ u → u < (n : Int) → 0 ≤ p → p < (n : Int) → (av af u = some p ↔ av ah p = some u)
structure Dd (t : Int) (n : Nat) (bh : List (List Int)) (af ah : List (Option Int)) (DL DR : Int → Prop) : Prop where
  un : ∀ v : Int, 0 ≤ v → v < t → av af v = none → DL v
  cl : ∀ u p : Int, DL u → p ∈ nb bh u → DR p
  mt : ∀ p : Int, 0 ≤ p → p < (n : Int) → DR p → ∃ u, av ah p = some u ∧ DL u
structure Stg (t : Int) (n : Nat) (bh : List (List Int)) (af ah : List (Option Int)) : Prop where
  m : Mt n bh af ah
  fr : ∀ u : Int, t ≤ u → u < (n : Int) → av af u = none
  dd : ∃ DL DR, Dd t n bh af ah DL DR
structure Hl (n : Nat) (t : Int) (bh : List (List Int)) (cm : List (Int × Int)) (ah0 : List (Option Int)) (DL DR : Int → Prop) (i : Nat) (af ah : List (Option Int)) (p : Int) : Prop where
  l1 : af.length = n
  l2 : ah.length = n
  rg : ∀ u p : Int, 0 ≤ u → u < (n : Int) → av af u = some p → 0 ≤ p ∧ p < (n : Int) ∧ p ∈ nb bh u
  rg2 : ∀ p u : Int, 0 ≤ p → p < (n : Int) → av ah p = some u → 0 ≤ u ∧ u < (n : Int)
  at' : ∃ u, cm[i]? = some (p, u)
  hole : ∀ u : Int, 0 ≤ u → u < (n : Int) → av af u ≠ some p
  iff : ∀ u q : Int, 0 ≤ u → u < (n : Int) → 0 ≤ q → q < (n : Int) → q ≠ p → (av af u = some q ↔ av ah q = some u)
  old : ∀ (j : Nat) (q v : Int), j ≤ i → cm[j]? = some (q, v) → av ah q = av ah0 q
  fr : ∀ u : Int, t ≤ u → u < (n : Int) → av af u = none
  dd : Dd t n bh af ah DL DR
  np : ¬ DR p
theorem key_ne {cm : List (Int × Int)} (hn : (cm.map (·.1)).Nodup) {i j : Nat} {p q u v : Int} (hi : cm[i]? = some (p, u)) (hj : cm[j]? = some (q, v)) (h : i ≠ j) : p ≠ q := fun e => by
  obtain ⟨h1, h2⟩ := List.getElem?_eq_some_iff.mp hi
  obtain ⟨h3, h4⟩ := List.getElem?_eq_some_iff.mp hj
  have hl1 : i < (cm.map (·.1)).length := by rw [List.length_map]; exact h1
  have hl2 : j < (cm.map (·.1)).length := by rw [List.length_map]; exact h3
  refine h ((List.getElem_inj hn (h₀ := hl1) (h₁ := hl2)).mp ?_)
  rw [List.getElem_map, List.getElem_map, h2, h4]
  exact e
section
variable {n : Nat} {t : Int} {bh : List (List Int)} {cm : List (Int × Int)} {ah0 : List (Option Int)} {DL DR : Int → Prop} {i : Nat} {af ah : List (Option Int)} {p one : Int}
theorem Hl.step (t0 : 0 ≤ t) (t1 : t < n) (fw : Fw n bh ah0 [t] cm) (har : ∀ p u : Int, 0 ≤ p → p < (n : Int) → av ah0 p = some u → 0 ≤ u ∧ u < (n : Int)) (h : Hl n t bh cm ah0 DL DR i af ah p) (hc : cm[i]? = some (p, one)) :
    0 ≤ p ∧ p < n ∧ 0 ≤ one ∧ one < n ∧
    ((av af one = none ∧ Stg (t + 1) n bh (af.set one.toNat (some p)) (ah.set p.toNat (some one))) ∨
     (∃ (q : Int) (j : Nat), av af one = some q ∧ j < i ∧ Hl n t bh cm ah0 DL DR j (af.set one.toNat (some p)) (ah.set p.toNat (some one)) q)) := by
  have key : ∀ (j : Nat) (q v : Int), cm[j]? = some (q, v) → 0 ≤ q ∧ q < (n : Int) := fun j q v hj => fw.rg q (List.mem_map.mpr ⟨(q, v), List.mem_of_getElem? hj, rfl⟩)
  obtain ⟨p0, p1⟩ := key i p one hc
  obtain ⟨hpn, hor⟩ := fw.ord i p one hc
  have hone : 0 ≤ one ∧ one < (n : Int) := by
    rcases hor with e | ⟨j, q, v, _, h2, h3⟩
    · rw [List.mem_singleton.mp e]; exact ⟨t0, t1⟩
    · obtain ⟨q0, q1⟩ := key j q v h2
      exact har q one q0 q1 h3
  obtain ⟨o0, o1⟩ := hone
  have hl1 := h.l1
  have hl2 := h.l2
  have sa : ∀ v : Int, 0 ≤ v → av (af.set one.toNat (some p)) v = if v = one then some p else av af v := fun v hv => av_set o0 (by omega) hv
  have sb : ∀ v : Int, 0 ≤ v → av (ah.set p.toNat (some one)) v = if v = p then some one else av ah v := fun v hv => av_set p0 (by omega) hv
  have ndl : ¬ DL one := fun z => h.np (h.dd.cl one p z hpn)
  have rg' : ∀ u q : Int, 0 ≤ u → u < (n : Int) → av (af.set one.toNat (some p)) u = some q → 0 ≤ q ∧ q < (n : Int) ∧ q ∈ nb bh u := fun u q u0 u1 hq => by
    rw [sa u u0] at hq
    by_cases e : u = one
    · rw [if_pos e] at hq
      rw [← Option.some.inj hq, e]
      exact ⟨p0, p1, hpn⟩
    · rw [if_neg e] at hq
      exact h.rg u q u0 u1 hq
  have rg2' : ∀ q u : Int, 0 ≤ q → q < (n : Int) → av (ah.set p.toNat (some one)) q = some u → 0 ≤ u ∧ u < (n : Int) := fun q u q0 q1 hq => by
    rw [sb q q0] at hq
    by_cases e : q = p
    · rw [if_pos e] at hq
      rw [← Option.some.inj hq]
      exact ⟨o0, o1⟩
    · rw [if_neg e] at hq
      exact h.rg2 q u q0 q1 hq
  have un' : ∀ v : Int, 0 ≤ v → v < t → av (af.set one.toNat (some p)) v = none → DL v := fun v v0 v1 hv => by
    rw [sa v v0] at hv
    by_cases e : v = one
    · rw [if_pos e] at hv; cases hv
    · rw [if_neg e] at hv
      exact h.dd.un v v0 v1 hv
  have mt' : ∀ q : Int, 0 ≤ q → q < (n : Int) → DR q → ∃ u, av (ah.set p.toNat (some one)) q = some u ∧ DL u := fun q q0 q1 hq => by
    rw [sb q q0, if_neg (fun z => h.np (by rw [← z]; exact hq))]
    exact h.dd.mt q q0 q1 hq
  refine ⟨p0, p1, o0, o1, ?_⟩
  cases hL : av af one with
  | none =>
    refine .inl ⟨rfl, ⟨⟨by rw [List.length_set]; exact hl1, by rw [List.length_set]; exact hl2, rg', rg2', fun u q u0 u1 q0 q1 => ?_⟩, fun u hu u1 => ?_, DL, DR, fun v v0 v1 hv => ?_, h.dd.cl, mt'⟩⟩
    · rw [sa u u0, sb q q0]
      by_cases e : u = one
      · subst e
        rw [if_pos rfl]
        by_cases e2 : q = p
        · subst e2; rw [if_pos rfl]; exact ⟨fun _ => rfl, fun _ => rfl⟩
        · rw [if_neg e2, ← h.iff u q u0 u1 q0 q1 e2, hL]
          exact ⟨fun z => absurd (Option.some.inj z).symm e2, fun z => by cases z⟩
      · rw [if_neg e]
        by_cases e2 : q = p
        · subst e2
          rw [if_pos rfl]
          exact ⟨fun z => absurd z (h.hole u u0 u1), fun z => absurd (Option.some.inj z).symm e⟩
        · rw [if_neg e2]
          exact h.iff u q u0 u1 q0 q1 e2
    · rw [sa u (by omega)]
      have hu' := h.fr u (by omega) u1
      rw [if_neg ?_]
      · exact hu'
      · intro e
        rcases hor with e2 | ⟨j, q, v, hj, h2, h3⟩
        · rw [List.mem_singleton.mp e2] at e; omega
        · obtain ⟨q0, q1⟩ := key j q v h2
          have hne := key_ne fw.nd h2 hc (by omega)
          rw [← h.old j q v (by omega) h2] at h3
          have := (h.iff one q o0 o1 q0 q1 hne).mpr h3
          rw [hL] at this; cases this
    · by_cases e : v = t
      · rw [sa v v0] at hv
        by_cases e2 : v = one
        · rw [if_pos e2] at hv; cases hv
        · rcases hor with e3 | ⟨j, q, w, hj, h2, h3⟩
          · exact absurd (e.trans (List.mem_singleton.mp e3).symm) e2
          · obtain ⟨q0, q1⟩ := key j q w h2
            have hne := key_ne fw.nd h2 hc (by omega)
            rw [← h.old j q w (by omega) h2] at h3
            have := (h.iff one q o0 o1 q0 q1 hne).mpr h3
            rw [hL] at this; cases this
      · exact un' v v0 (by omega) hv
  | some q =>
    obtain ⟨q0, q1, _⟩ := h.rg one q o0 o1 hL
    have qp : q ≠ p := fun e => h.hole one o0 o1 (by rw [hL, e])
    have hj : ∃ (j : Nat) (v : Int), j < i ∧ cm[j]? = some (q, v) := by
      rcases hor with e2 | ⟨j, q', v, hj, h2, h3⟩
      · have := h.fr t (Int.le_refl _) t1
        rw [List.mem_singleton.mp e2, this] at hL
        cases hL
      · obtain ⟨q0', q1'⟩ := key j q' v h2
        have hne := key_ne fw.nd h2 hc (by omega)
        rw [← h.old j q' v (by omega) h2] at h3
        have := (h.iff one q' o0 o1 q0' q1' hne).mpr h3
        rw [hL] at this
        cases this
        exact ⟨j, v, hj, h2⟩
    obtain ⟨j, v, hj, h2⟩ := hj
    have ahq := (h.iff one q o0 o1 q0 q1 qp).mp hL
    refine .inr ⟨q, j, rfl, hj, ⟨by rw [List.length_set]; exact hl1, by rw [List.length_set]; exact hl2, rg', rg2', ⟨v, h2⟩, fun u u0 u1 => ?_, fun u r u0 u1 r0 r1 hr => ?_, fun m r w hm hw => ?_, fun u hu u1 => ?_, ⟨un', h.dd.cl, mt'⟩, fun z => ?_⟩⟩
    · rw [sa u u0]
      by_cases e : u = one
      · rw [if_pos e]
        exact fun z => qp (Option.some.inj z).symm
      · rw [if_neg e]
        intro z
        have := (h.iff u q u0 u1 q0 q1 qp).mp z
        rw [ahq] at this
        exact e (Option.some.inj this).symm
    · rw [sa u u0, sb r r0]
      by_cases e : u = one
      · subst e
        rw [if_pos rfl]
        by_cases e2 : r = p
        · subst e2; rw [if_pos rfl]; exact ⟨fun _ => rfl, fun _ => rfl⟩
        · rw [if_neg e2, ← h.iff u r u0 u1 r0 r1 e2, hL]
          exact ⟨fun z => absurd (Option.some.inj z).symm e2, fun z => absurd (Option.some.inj z).symm hr⟩
      · rw [if_neg e]
        by_cases e2 : r = p
        · subst e2
          rw [if_pos rfl]
          exact ⟨fun z => absurd z (h.hole u u0 u1), fun z => absurd (Option.some.inj z).symm e⟩
        · rw [if_neg e2]
          exact h.iff u r u0 u1 r0 r1 e2
    · obtain ⟨r0, r1⟩ := key m r w hw
      rw [sb r r0, if_neg (fun e => key_ne fw.nd hw hc (by omega) e)]
      exact h.old m r w (by omega) hw
    · rw [sa u (by omega), if_neg ?_]
      · exact h.fr u hu u1
      · intro e
        have := h.fr u hu u1
        rw [e, hL] at this; cases this
    · obtain ⟨w, w1, w2⟩ := h.dd.mt q q0 q1 z
      rw [ahq] at w1
      rw [← Option.some.inj w1] at w2
      exact ndl w2
end
theorem ok_whileN {β : Type} {c : β → Option Bool} {f : β → Option β} (I : Nat → β → Prop) {Q : β → Prop} (hc : ∀ m b, I m b → Ok (c b) (fun t => if t = true then Ok (f b) (fun b' => ∃ m', m' < m ∧ I m' b') else Q b)) : ∀ (n m : Nat) (b : β), I m b → m < n → Ok (whileO c f n b) Q
  | 0, m, b, _, h => absurd h (Nat.not_lt_zero _)
  | n + 1, m, b, hI, h => by
    unfold whileO
    refine ok_bnd (hc m b hI) fun t ht => ?_
    cases t with
    | true =>
      rw [if_pos rfl] at ht ⊢
      exact ok_bnd ht fun b' ⟨m', h1, h2⟩ => ok_whileN I hc n m' b' h2 (by omega)
    | false =>
      rw [if_neg Bool.false_ne_true] at ht ⊢
      exact ok_some ht
theorem av_none {n : Nat} {u : Int} : av (repl (n : Int) ([none] : List (Option Int))) u = none := by
  unfold av repl
  cases h : ((List.replicate (n : Int).toNat ([none] : List (Option Int))).flatten)[u.toNat]? with
  | none => rfl
  | some x =>
    have := List.mem_of_getElem? h
    obtain ⟨l, h1, h2⟩ := List.mem_flatten.mp this
    rw [(List.mem_replicate.mp h1).2] at h2
    rw [List.mem_singleton.mp h2]; rfl
theorem repl_none_len {n : Nat} : (repl (n : Int) ([none] : List (Option Int))).length = n := by
  unfold repl
  rw [List.length_flatten, List.map_replicate, List.sum_replicate_nat]
  simp
theorem paired_ok {n : Nat} (hn : n ≤ 1000) {bh : List (List Int)} (hb : Bh n bh) : Ok (m_paired bh) (fun r => Stg n n bh r.1 r.2) := by
  unfold m_paired
  have hz := szl
  have hbl := hb.1
  have hro : RepOk ((bh.length : Nat) : Int) ([none] : List (Option Int)).length := ⟨by omega, by omega, by rw [List.length_singleton]; omega⟩
  refine ok_chk hro (ok_lt fun a0 ha0 => ok_chk hro (ok_lt fun b0 hb0 => ok_chk ⟨by omega, by omega⟩ (ok_bnd (P := fun b : List (Option Int) × List (Option Int) => Stg n n bh b.1 b.2) (ok_foldO (fun i (b : List (Option Int) × List (Option Int)) => Stg i n bh b.1 b.2) ?_ ?_ ?_) (fun b hb => ok_some hb))))
  · rw [ha0, hb0, hbl]
    refine ⟨⟨repl_none_len, repl_none_len, fun u p _ _ h => ?_, fun p u _ _ h => ?_, fun u p _ _ _ _ => ?_⟩, fun u _ _ => av_none, fun _ => False, fun _ => False, fun v v0 v1 _ => ?_, fun _ _ z => z.elim, fun _ _ _ z => z.elim⟩
    · rw [av_none] at h; cases h
    · rw [av_none] at h; cases h
    · rw [av_none, av_none]; exact ⟨fun z => (by cases z), fun z => (by cases z)⟩
    · exact absurd v1 (by omega)
  · rintro i ⟨af, ah⟩ x hx ⟨m, fr, DL, DR, dd⟩
    dsimp only at m fr dd ⊢
    obtain ⟨e1, e2⟩ := rng_at hx
    rw [Int.zero_add] at e1
    have i0 : 0 ≤ x := by omega
    have i1 : x < (n : Int) := by omega
    rw [← e1] at fr dd
    have l1 := m.l1
    have l2 := m.l2
    have hst : Stg ((i + 1 : Nat) : Int) = Stg (x + 1) := by rw [e1]; rfl
    rw [hst]
    refine ok_bnd (ways_ok hn hb l2 m.rg2 (bg := [x]) (fun u hu => by rw [List.mem_singleton.mp hu]; exact ⟨i0, i1⟩) (by rw [List.length_singleton]; omega)) fun cm ⟨fw, cl⟩ => ?_
    have hcl := fw.len
    refine ok_bnd (ok_eq (compO_eq (T := fun q => (av ah q).isNone) (g := fun q => q) (fun q hq => by rw [atI_av (fw.rg q hq).1 (by have := (fw.rg q hq).2; omega)]; rfl) fun q _ _ => rfl) rfl) ?_
    rintro _ rfl
    rw [List.map_id']
    refine ok_chk (by have := List.length_filter_le (fun q => (av ah q).isNone) (cm.map (·.1)); rw [List.length_map] at this; omega) (ok_lt fun ends hends => ok_lt fun pl hpl => ?_)
    refine ok_bnd (P := fun o : Option Int => (o = none ∧ ∀ q ∈ cm.map (·.1), av ah q ≠ none) ∨ ∃ q, o = some q ∧ q ∈ cm.map (·.1) ∧ av ah q = none) (ok_ite (fun hc => ?_) (fun hc => ok_some (.inl ⟨hpl, fun q hq hn' => ?_⟩))) fun o ho => ?_
    · cases he : ends with
      | nil => rw [he] at hc; cases hc
      | cons q r =>
        have hq : q ∈ ends := by rw [he]; exact List.mem_cons_self
        rw [hends] at hq
        obtain ⟨q1, q2⟩ := List.mem_filter.mp hq
        refine ok_bnd (P := fun y => y = q) (ok_eq (show atI (q :: r) 0 = some q from atI_n (i := 0) rfl) rfl) fun y hy => ok_lt fun w hw => ok_some (.inr ⟨q, by rw [hw, hy], q1, ?_⟩)
        cases h : av ah q with
        | none => rfl
        | some z => rw [h] at q2; cases q2
    · have : q ∈ ends := by rw [hends]; exact List.mem_filter.mpr ⟨hq, by rw [hn']; rfl⟩
      cases he : ends with
      | nil => rw [he] at this; cases this
      | cons a b => rw [he] at hc; cases hc
    refine ok_bnd (P := fun b : List (Option Int) × List (Option Int) × Option Int => Stg (x + 1) n bh b.1 b.2.1) (ok_whileN (fun k (b : List (Option Int) × List (Option Int) × Option Int) => (∃ p i, b.2.2 = some p ∧ k = i + 1 ∧ i < cm.length ∧ Hl n x bh cm ah DL DR i b.1 b.2.1 p) ∨ (b.2.2 = none ∧ Stg (x + 1) n bh b.1 b.2.1)) ?_ fuel (match o with | none => 0 | some q => ((cm.map (·.1)).idxOf q) + 1) _ ?_ ?_) (fun b hb => ok_some hb)
    · rintro k ⟨af1, ah1, o1⟩ hI
      dsimp only at hI ⊢
      refine ok_some ?_
      rcases hI with ⟨p, i1', rfl, rfl, hil, hl⟩ | ⟨rfl, hst⟩
      · rw [if_pos (show (some p).isSome = true from rfl)]
        obtain ⟨one, hone⟩ := hl.at'
        obtain ⟨p0, p1, o0, o1, hor⟩ := hl.step i0 i1 fw m.rg2 hone
        have hl1 := hl.l1
        have hl2 := hl.l2
        refine ok_bnd (P := fun y => y = p) (ok_some rfl) fun y hy => ?_
        subst hy
        refine ok_bnd (P := fun z => z = one) (ok_eq (dval_get fw.nd hone) rfl) fun z hz' => ok_lt fun w hw => ?_
        have hw' : w = one := hw.trans hz'
        subst hw'
        refine ok_bnd (P := fun z => z = av af1 w) (ok_eq (atI_av o0 (by omega)) rfl) fun lf hlf => ok_lt fun lf2 hlf2 => ?_
        refine ok_bnd (P := fun z => z = w.toNat) (ok_eq (ixN_in o0 (by omega)) rfl) fun j hj => ok_lt fun ls hls => ?_
        refine ok_bnd (P := fun z => z = y) (ok_some rfl) fun y2 hy2 => ?_
        subst hy2
        refine ok_bnd (P := fun z => z = y2.toNat) (ok_eq (ixN_in p0 (by omega)) rfl) fun j2 hj2 => ok_lt fun ls2 hls2 => ok_lt fun pl2 hpl2 => ok_some ?_
        dsimp only
        subst hls hls2 hj hj2
        have epl : pl2 = av af1 w := by rw [hpl2, hlf2, hlf]
        rcases hor with ⟨h1, h2⟩ | ⟨q, j', h1, h2, h3⟩
        · exact ⟨0, by omega, .inr ⟨by rw [epl, h1], h2⟩⟩
        · exact ⟨j' + 1, by omega, .inl ⟨q, j', by rw [epl, h1], rfl, by omega, h3⟩⟩
      · rw [if_neg (show ¬ ((none : Option Int).isSome = true) by decide)]
        exact hst
    · dsimp only
      rcases ho with ⟨rfl, hq⟩ | ⟨q, rfl, hq, hqn⟩
      · refine .inr ⟨rfl, m, fun u hu u1 => fr u (by omega) u1, fun u => DL u ∨ u ∈ rowOf ah [x] cm, fun p => DR p ∨ p ∈ cm.map (·.1), fun v v0 v1 hv => ?_, fun u p hu hp => ?_, fun p p0 p1 hp => ?_⟩
        · by_cases e : v = x
          · exact .inr (rowOf_mem.mpr (.inl (by rw [e]; exact List.mem_singleton.mpr rfl)))
          · exact .inl (dd.un v v0 (by omega) hv)
        · rcases hu with h | h
          · exact .inl (dd.cl u p h hp)
          · exact .inr (cl u h p hp)
        · rcases hp with h | h
          · obtain ⟨u, h1, h2⟩ := dd.mt p p0 p1 h
            exact ⟨u, h1, .inl h2⟩
          · cases ha : av ah p with
            | none => exact absurd ha (hq p h)
            | some u => exact ⟨u, rfl, .inr (rowOf_mem.mpr (.inr ⟨p, h, ha⟩))⟩
      · obtain ⟨q0, q1⟩ := fw.rg q hq
        have hil : (cm.map (·.1)).idxOf q < (cm.map (·.1)).length := List.idxOf_lt_length_of_mem hq
        have hgi : (cm.map (·.1))[(cm.map (·.1)).idxOf q]? = some q := by rw [List.getElem?_eq_getElem hil, List.getElem_idxOf]
        rw [List.getElem?_map] at hgi
        obtain ⟨⟨q', u'⟩, hg1, hg2⟩ := Option.map_eq_some_iff.mp hgi
        have hg2 : q' = q := hg2
        subst hg2
        rw [List.length_map] at hil
        refine .inl ⟨q', _, rfl, rfl, hil, l1, l2, m.rg, m.rg2, ⟨u', hg1⟩, fun u u0 u1 z => ?_, fun u r u0 u1 r0 r1 _ => m.iff u r u0 u1 r0 r1, fun _ _ _ _ _ => rfl, fr, dd, fun z => ?_⟩
        · rw [(m.iff u q' u0 u1 q0 q1).mp z] at hqn; cases hqn
        · obtain ⟨w, w1, _⟩ := dd.mt q' q0 q1 z
          rw [hqn] at w1; cases w1
    · have hfu : fuel = 1000000 := by unfold fuel; rfl
      cases o with
      | none => dsimp only; omega
      | some q =>
        rcases ho with ⟨h, _⟩ | ⟨q', h, hq, _⟩
        · cases h
        · cases h
          have hil : (cm.map (·.1)).idxOf q < (cm.map (·.1)).length := List.idxOf_lt_length_of_mem hq
          rw [List.length_map] at hil
          dsimp only
          omega
  · intro b hb'
    rw [rng_len] at hb'
    have : ((((bh.length : Nat) : Int) - 0).toNat : Int) = (n : Int) := by omega
    rw [this] at hb'
    exact hb'
def Lv (names : List Str) (ls : List Ln) : Prop := ∀ t ∈ ls, t.a ∈ names ∧ 0 ≤ t.b ∧ t.b ≤ t.c
theorem linesv_ok {n : Nat} (h1 : 1 ≤ n) (h2 : n ≤ 12) {names : List Str} (hn : Nms n names) {cell many : Int} (m0 : 0 ≤ many) (m1 : many ≤ 1000) : Ok (m_l_lines names cell many) (fun l => (l.length : Int) = many ∧ Lv names l) := by
  unfold m_l_lines
  have hz := szl
  have hl := hn.len
  have hm := md cell (n := 4) (by decide)
  refine ok_bnd (P := fun s : Int => 0 < s ∧ s ≤ 10 ^ 59) (ok_atI hm.1 hm.2 fun x hx => ?_) fun sz hsz => ok_chk (mul_l (by omega) (by omega)) ?_
  · have : (cell % 4).toNat = 0 ∨ (cell % 4).toNat = 1 ∨ (cell % 4).toNat = 2 ∨ (cell % 4).toNat = 3 := by omega
    rcases this with e | e | e | e
    · rw [e] at hx
      obtain rfl : (12 : Int) = x := Option.some.inj hx
      decide +kernel
    · rw [e] at hx
      obtain rfl : (40 : Int) = x := Option.some.inj hx
      decide +kernel
    · rw [e] at hx
      obtain rfl : (40 : Int) = x := Option.some.inj hx
      decide +kernel
    · rw [e] at hx
      obtain rfl : (10 : Int) ^ ((59 : Int)).toNat = x := Option.some.inj hx
      decide +kernel
  have p1 : 0 < (names.length : Int) * sz := Int.mul_pos (by omega) hsz.1
  have p2 : (names.length : Int) * sz ≤ 12 * 10 ^ 59 := Int.mul_le_mul (by omega) hsz.2 (by omega) (by omega)
  refine ok_bnd (row_ok (by omega) (by omega) m0 m1) fun rw_ hr => ok_lt fun sm hs => ok_lt fun l0 hl0 => ok_bnd (P := fun b : List Ln => (b.length : Int) = many ∧ Lv names b) (ok_foldO (fun i b => b.length = i ∧ Lv names b) ⟨by rw [hl0]; rfl, by rw [hl0]; intro t ht; simp at ht⟩ ?_ ?_) fun b hb => ok_some hb
  · rintro i b x hx ⟨bl, bm⟩
    have hi := (List.getElem?_eq_some_iff.mp hx).1
    have hx' := List.mem_of_getElem? hx
    rw [hs] at hi hx'
    have q := md x (n := (names.length : Int)) (by omega)
    have q2 := md (x / (names.length : Int)) (n := 6) (by decide)
    have dv : DivOk (names.length : Int) := div_small (by omega) (by omega)
    refine ok_chk dv (ok_lt fun f hf => ok_chk (by omega) (ok_bnd (P := fun y => y ∈ names) (ok_atI q.1 q.2 fun y hy => List.mem_of_getElem? hy) fun y hy => ok_chk dv (ok_chk (by omega) (ok_lt fun z hz' => ok_some ?_))))
    subst hz'
    refine ⟨by rw [List.length_append, bl]; rfl, fun t ht => ?_⟩
    rcases List.mem_append.mp ht with h | h
    · exact bm t h
    · rw [List.mem_singleton.mp h]
      exact ⟨hy, by show 0 ≤ f; rw [hf]; exact Int.ediv_nonneg (Int.ediv_nonneg (hr.2 x hx').1 (by omega)) (by decide), by show f ≤ f + _; omega⟩
  · rintro b ⟨bl, bm⟩
    exact ⟨by rw [bl, hs]; exact hr.1, bm⟩
section
variable {n : Nat} {names : List Str} {rows : List (List Int)} {ls : List Ln} {x y z : Ln}
theorem fol_irr (hn : Nms n names) (hr : Cl n n rows) (hl : Lns names ls) (hx : x ∈ ls) : fol names rows x x = false := by
  obtain ⟨a, b⟩ := hl x hx
  obtain ⟨_, i⟩ := ix_ok hn a
  have := hr.nn _ _ i i
  refine decide_eq_false ?_
  unfold tm
  omega
theorem fol_asym (hn : Nms n names) (hr : Cl n n rows) (hl : Lns names ls) (hx : x ∈ ls) (hy : y ∈ ls) (h : fol names rows x y = true) : fol names rows y x = false := by
  obtain ⟨a, b⟩ := hl x hx
  obtain ⟨_, i⟩ := ix_ok hn a
  obtain ⟨c, d⟩ := hl y hy
  obtain ⟨_, j⟩ := ix_ok hn c
  have h1 := of_decide_eq_true h
  unfold tm at h1
  have := hr.nn _ _ i j
  have := hr.nn _ _ j i
  refine decide_eq_false ?_
  unfold tm
  omega
theorem fol_trans (hn : Nms n names) (hr : Cl n n rows) (hl : Lns names ls) (hx : x ∈ ls) (hy : y ∈ ls) (hz : z ∈ ls) (h : fol names rows x y = true) (h2 : fol names rows y z = true) : fol names rows x z = true := by
  obtain ⟨a, b⟩ := hl x hx
  obtain ⟨_, i⟩ := ix_ok hn a
  obtain ⟨c, d⟩ := hl y hy
  obtain ⟨_, j⟩ := ix_ok hn c
  obtain ⟨e, f⟩ := hl z hz
  obtain ⟨_, k⟩ := ix_ok hn e
  have h1 := of_decide_eq_true h
  have h3 := of_decide_eq_true h2
  unfold tm at h1 h3
  have := hr.tr _ _ _ j j i k
  refine decide_eq_true ?_
  unfold tm
  omega
end
def lg (ls : List Ln) (k : Int) : Ln := (ls[k.toNat]?).getD ⟨("" : Str), 0, 0⟩
theorem atI_lg {ls : List Ln} {u : Int} (h0 : 0 ≤ u) (h1 : u < ls.length) : atI ls u = some (lg ls u) := by
  rw [atI_get h0 h1]
  unfold lg
  rw [List.getElem?_eq_getElem (by omega)]; rfl
theorem lg_mem {ls : List Ln} {u : Int} (h0 : 0 ≤ u) (h1 : u < ls.length) : lg ls u ∈ ls := by
  unfold lg
  rw [List.getElem?_eq_getElem (by omega), Option.getD_some]
  exact List.getElem_mem _
theorem asked_ok {names : List Str} {rows : List (List Int)} {ls : List Ln} (hl : Lv names ls) (h4 : names.length ≤ 12) (hn : ls.length ≤ 1000) : m_asked_lines ⟨names, rows⟩ ls = some true := by
  have hz := szl
  have : Ok (m_asked_lines ⟨names, rows⟩ ls) (· = true) := by
    unfold m_asked_lines
    refine ok_bnd (P := fun x => x = names) ?_ fun x hx => ok_lt fun nm hnm => ok_chk ⟨by omega, by omega⟩ (ok_bnd (P := fun o => o = .nx ()) (foldF_ok (fun i hi => ?_) rfl) (fun o ho => by subst ho; exact ok_some rfl))
    · show Ok (m_Times_names ⟨names, rows⟩) _
      unfold m_Times_names
      first
      | exact ok_some rfl
      | exact ok_chk (by show names.length ≤ _; omega) (ok_some rfl)
    · obtain ⟨i0, i1⟩ := mem_rng.mp hi
      obtain ⟨a, b, c⟩ := hl _ (lg_mem i0 i1)
      refine ok_bnd (P := fun y => y = lg ls i) (ok_eq (atI_lg i0 i1) rfl) fun y hy => ok_lt fun u hu => ?_
      subst hy
      subst hu
      refine ok_ite (fun z => ?_) (fun _ => ok_ite (fun z => ?_) (fun _ => ok_some rfl))
      · rw [decide_eq_false (by omega), decide_eq_false (by omega)] at z; cases z
      · rw [hnm, hx, decide_eq_true a] at z; cases z
  exact this.eq
def fb (names : List Str) (rows : List (List Int)) (ls : List Ln) (x : Ln) : List Int := (rng 0 (ls.length : Int)).filter fun k => fol names rows x (lg ls k)
theorem behind_ok {m : Nat} {names : List Str} {rows : List (List Int)} {ls : List Ln} (hm : Nms m names) (hr : Sq m rows) (hl : Lv names ls) (hn : ls.length ≤ 1000) : m_behind_by ⟨names, rows⟩ ls = some (ls.map (fb names rows ls)) := by
  have hz := szl
  have : Ok (m_behind_by ⟨names, rows⟩ ls) (· = ls.map (fb names rows ls)) := by
    unfold m_behind_by
    refine ok_chk ?_ (ok_lt fun ev hev => ?_)
    · first
      | exact ⟨by omega, by omega⟩
      | exact ⟨by omega, by omega, by omega⟩
      | (unfold RgOk; omega)
    refine ok_bnd (ok_eq (mapO_eq (g := fb names rows ls) fun x hx => ?_) rfl) ?_
    · rw [hev, compO_eq (T := fun k => fol names rows x (lg ls k)) (g := fun k => k) (fun k hk => ?_) (fun k _ _ => rfl)]
      · rw [List.map_id']
        show bnd (some (fb names rows ls x)) _ = _
        have hfl := List.length_filter_le (fun k => fol names rows x (lg ls k)) (rng 0 (ls.length : Int))
        rw [rng_len] at hfl
        exact chk_pos (by show (fb names rows ls x).length ≤ _; unfold fb; omega)
      · obtain ⟨k0, k1⟩ := mem_rng.mp hk
        rw [atI_lg k0 k1]
        show bnd (m_can_follow ⟨names, rows⟩ x (lg ls k)) _ = _
        rw [follow_ok hm hr (hl x hx).1 (hl _ (lg_mem k0 k1)).1]; rfl
    · rintro _ rfl
      exact ok_chk (by rw [List.length_map]; omega) (ok_some rfl)
  exact this.eq
section
variable {names : List Str} {rows : List (List Int)} {ls : List Ln}
theorem nb_fb {u : Int} (h0 : 0 ≤ u) (h1 : u < ls.length) : nb (ls.map (fb names rows ls)) u = fb names rows ls (lg ls u) := by
  unfold nb lg
  rw [List.getElem?_map, List.getElem?_eq_getElem (by omega)]; rfl
theorem fb_bh : Bh ls.length (ls.map (fb names rows ls)) := by
  refine ⟨List.length_map _, fun u p h => ?_⟩
  unfold nb at h
  rw [List.getElem?_map] at h
  cases e : ls[u.toNat]? with
  | none => rw [e] at h; cases h
  | some x =>
    rw [e] at h
    exact mem_rng.mp (List.mem_filter.mp (show p ∈ fb names rows ls x from h)).1
theorem nb_iff {u p : Int} (h0 : 0 ≤ u) (h1 : u < ls.length) : p ∈ nb (ls.map (fb names rows ls)) u ↔ (0 ≤ p ∧ p < ls.length) ∧ fol names rows (lg ls u) (lg ls p) = true := by
  rw [nb_fb h0 h1]
  unfold fb
  rw [List.mem_filter, mem_rng]
def cnt (ls : List Ln) (x : Int) : Nat := ((rng 0 (ls.length : Int)).filter fun k => decide ((lg ls k).b < (lg ls x).b)).length
theorem cnt_le (x : Int) : cnt ls x ≤ ls.length := by
  unfold cnt
  have := List.length_filter_le (fun k => decide ((lg ls k).b < (lg ls x).b)) (rng 0 (ls.length : Int))
  rw [rng_len] at this
  omega
theorem rng_nd (a b : Int) : (rng a b).Nodup := rng_nodup a b
theorem cnt_lt {m : Nat} (hm : Nms m names) (hr : Cl m m rows) (hl : Lv names ls) {u p : Int} (u0 : 0 ≤ u) (u1 : u < ls.length) (p0 : 0 ≤ p) (p1 : p < ls.length) (h : fol names rows (lg ls u) (lg ls p) = true) : cnt ls u < cnt ls p := by
  obtain ⟨a1, a2, a3⟩ := hl _ (lg_mem u0 u1)
  obtain ⟨b1, b2, b3⟩ := hl _ (lg_mem p0 p1)
  have ht := of_decide_eq_true h
  unfold tm at ht
  have := hr.nn _ _ (ix_ok hm a1).2 (ix_ok hm b1).2
  have hlt : (lg ls u).b < (lg ls p).b := by omega
  unfold cnt
  have := nd_sub_len (l := u :: (rng 0 (ls.length : Int)).filter fun k => decide ((lg ls k).b < (lg ls u).b)) (m := (rng 0 (ls.length : Int)).filter fun k => decide ((lg ls k).b < (lg ls p).b)) (List.nodup_cons.mpr ⟨fun z => by
      have := of_decide_eq_true (List.mem_filter.mp z).2
      omega, (rng_nd _ _).filter _⟩) (fun x hx => by
      rcases List.mem_cons.mp hx with e | e
      · rw [e]; exact List.mem_filter.mpr ⟨mem_rng.mpr ⟨u0, u1⟩, decide_eq_true hlt⟩
      · obtain ⟨e1, e2⟩ := List.mem_filter.mp e
        exact List.mem_filter.mpr ⟨e1, decide_eq_true (by have := of_decide_eq_true e2; omega)⟩)
  rw [List.length_cons] at this
  omega
end
def Hand (af : List (Option Int)) (pl : Int) (hand : List Int) : Prop := hand[0]? = some pl ∧ ∀ (k : Nat) (x : Int), hand[k]? = some x → hand[k + 1]? = av af x
def free (n : Nat) (ah : List (Option Int)) : List Int := (rng 0 (n : Int)).filter fun p => (av ah p).isNone
def Anti (names : List Str) (rows : List (List Int)) (ls : List Ln) (A : List Int) : Prop := A.Nodup ∧ (∀ x ∈ A, 0 ≤ x ∧ x < (ls.length : Int)) ∧ ∀ x ∈ A, ∀ y ∈ A, fol names rows (lg ls x) (lg ls y) = false
structure Rslt (names : List Str) (rows : List (List Int)) (ls : List Ln) (af ah : List (Option Int)) (r : List (List Int) × List Int) : Prop where
  st : Stg ls.length ls.length (ls.map (fb names rows ls)) af ah
  hl : r.1.length = (free ls.length ah).length
  hh : ∀ (i : Nat) (hand : List Int), r.1[i]? = some hand → ∃ pl, (free ls.length ah)[i]? = some pl ∧ Hand af pl hand
  an : Anti names rows ls r.2
  ap : r.1.length ≤ r.2.length
  sp : ∃ T : Int → Bool, r.2 = (rng 0 (ls.length : Int)).filter T
theorem inj_len {α β : Type} [DecidableEq β] : ∀ {l : List α} {m : List β} (f : α → β), l.Nodup → (∀ x ∈ l, ∀ y ∈ l, f x = f y → x = y) → (∀ x ∈ l, f x ∈ m) → l.length ≤ m.length := by
  intro l m f hn hi hm
  have h1 : (l.map f).Nodup := by
    refine List.pairwise_map.mpr (List.Pairwise.imp_of_mem (fun {x y} hx hy h e => h (hi x hx y hy e)) hn)
  have := nd_sub_len (m := m) h1 (fun y hy => by
    obtain ⟨x, hx, rfl⟩ := List.mem_map.mp hy
    exact hm x hx)
  rw [List.length_map] at this
  exact this
theorem two_len {α : Type} (T : α → Bool) : ∀ l : List α, (l.filter T).length + (l.filter fun x => !T x).length = l.length
  | [] => rfl
  | x :: r => by
    have := two_len T r
    rw [List.filter_cons, List.filter_cons]
    cases T x
    · rw [if_neg Bool.false_ne_true, if_pos (by rfl), List.length_cons, List.length_cons]; omega
    · rw [if_pos rfl, if_neg (by decide), List.length_cons, List.length_cons]; omega
theorem free_le {n : Nat} {bh : List (List Int)} {af ah : List (Option Int)} (m : Mt n bh af ah) : (free n ah).length ≤ ((rng 0 (n : Int)).filter fun u => (av af u).isNone).length := by
  have h1 := two_len (fun p => (av ah p).isNone) (rng 0 (n : Int))
  have h2 := two_len (fun p => (av af p).isNone) (rng 0 (n : Int))
  have h3 := inj_len (l := (rng 0 (n : Int)).filter fun u => !(av af u).isNone) (m := (rng 0 (n : Int)).filter fun u => !(av ah u).isNone) (fun u => (av af u).getD 0) ((rng_nd _ _).filter _) (fun x hx y hy e => by
    obtain ⟨x1, x2⟩ := List.mem_filter.mp hx
    obtain ⟨y1, y2⟩ := List.mem_filter.mp hy
    obtain ⟨x3, x4⟩ := mem_rng.mp x1
    obtain ⟨y3, y4⟩ := mem_rng.mp y1
    cases ex : av af x with
    | none => rw [ex] at x2; cases x2
    | some p =>
      cases ey : av af y with
      | none => rw [ey] at y2; cases y2
      | some q =>
        rw [ex, ey] at e
        have e : p = q := e
        subst e
        obtain ⟨p0, p1, _⟩ := m.rg x p x3 x4 ex
        have a := (m.iff x p x3 x4 p0 p1).mp ex
        have b := (m.iff y p y3 y4 p0 p1).mp ey
        rw [a] at b
        exact Option.some.inj b) (fun x hx => by
    obtain ⟨x1, x2⟩ := List.mem_filter.mp hx
    obtain ⟨x3, x4⟩ := mem_rng.mp x1
    cases ex : av af x with
    | none => rw [ex] at x2; cases x2
    | some p =>
      obtain ⟨p0, p1, _⟩ := m.rg x p x3 x4 ex
      refine List.mem_filter.mpr ⟨mem_rng.mpr ⟨p0, p1⟩, ?_⟩
      rw [Option.getD_some, (m.iff x p x3 x4 p0 p1).mp ex]; rfl)
  unfold free
  omega
theorem fewest_ok {m : Nat} {names : List Str} {rows : List (List Int)} {ls : List Ln} (hm : Nms m names) (hm2 : m ≤ 12) (hr : Cl m m rows) (hl : Lv names ls) (hn : ls.length ≤ 1000) : Ok (m_fewest_hands ⟨names, rows⟩ ls) (fun r => ∃ af ah, Rslt names rows ls af ah r) := by
  unfold m_fewest_hands
  have hz := szl
  refine ok_bnd (P := fun _ => True) (ok_eq (show a_asked_lines (_, ls, ()) = _ from asked_ok (names := names) (rows := rows) hl (by have := hm.len; omega) hn) trivial) fun _ _ => ?_
  refine ok_bnd (P := fun y => y = ls.map (fb names rows ls)) (ok_eq (show a_behind_by (_, ls, ()) = _ from behind_ok hm hr.sq hl hn) rfl) fun y hy => ok_lt fun bh hbh => ?_
  rw [hy] at hbh
  have hB : Bh ls.length bh := by rw [hbh]; exact fb_bh
  refine ok_bnd (show Ok (m_paired bh) _ from paired_ok hn hB) fun pr st => ok_chk ⟨by omega, by omega⟩ ?_
  obtain ⟨af, ah⟩ := pr
  dsimp only at st ⊢
  have mt := st.m
  have l1 := mt.l1
  have l2 := mt.l2
  have frl : (free ls.length ah).length ≤ ls.length := by
    unfold free
    have := List.length_filter_le (fun p => (av ah p).isNone) (rng 0 (ls.length : Int))
    rw [rng_len] at this
    omega
  have ini : ∀ {u p : Int}, 0 ≤ u → u < (ls.length : Int) → p ∈ nb bh u → fol names rows (lg ls u) (lg ls p) = true := fun {u p} u0 u1 h => by
    rw [hbh] at h
    exact ((nb_iff u0 u1).mp h).2
  refine ok_bnd (P := fun hs : List (List Int) => hs.length = (free ls.length ah).length ∧ ∀ (i : Nat) (hand : List Int), hs[i]? = some hand → ∃ pl, (free ls.length ah)[i]? = some pl ∧ Hand af pl hand) (ok_foldO (fun i (hs : List (List Int)) => hs.length = (((rng 0 (ls.length : Int)).take i).filter fun p => (av ah p).isNone).length ∧ ∀ (j : Nat) (hand : List Int), hs[j]? = some hand → ∃ pl, (((rng 0 (ls.length : Int)).take i).filter fun p => (av ah p).isNone)[j]? = some pl ∧ Hand af pl hand) ?_ ?_ ?_) fun hs hhs => ?_
  · exact ⟨rfl, fun j hand h => by cases h⟩
  · rintro i hs x hx ⟨a1, a2⟩
    have hil := (List.getElem?_eq_some_iff.mp hx).1
    rw [rng_len] at hil
    obtain ⟨x0, x1⟩ := mem_rng.mp (List.mem_of_getElem? hx)
    have hfl : (((rng 0 (ls.length : Int)).take i).filter fun p => (av ah p).isNone).length ≤ ls.length := by
      have := List.length_filter_le (fun p => (av ah p).isNone) ((rng 0 (ls.length : Int)).take i)
      rw [List.length_take, rng_len] at this
      omega
    have hts : ((rng 0 (ls.length : Int)).take (i + 1)).filter (fun p => (av ah p).isNone) = ((rng 0 (ls.length : Int)).take i).filter (fun p => (av ah p).isNone) ++ [x].filter (fun p => (av ah p).isNone) := by
      rw [List.take_add_one, hx, List.filter_append]; rfl
    rw [hts]
    refine ok_bnd (P := fun y => y = av ah x) (ok_eq (atI_av x0 (by omega)) rfl) fun y hy => ok_ret (ok_ite (fun hc => ?_) (fun hc => ?_))
    · rw [hy] at hc
      rw [List.filter_cons, if_pos hc]
      refine ok_lt fun hd0 hhd0 => ok_lt fun nw0 hnw0 => ?_
      refine ok_bnd (P := fun b : List Int × Option Int => Hand af x b.1) (ok_whileO (fun b : List Int × Option Int => ((b.1 = [] ∧ b.2 = some x) ∨ (b.1[0]? = some x ∧ (∀ (k : Nat) (z : Int), k + 1 < b.1.length → b.1[k]? = some z → b.1[k + 1]? = av af z) ∧ ∀ (k : Nat) (z : Int), k + 1 = b.1.length → b.1[k]? = some z → b.2 = av af z)) ∧ ∀ p : Int, b.2 = some p → 0 ≤ p ∧ p < (ls.length : Int) ∧ b.1.length ≤ cnt ls p) (fun b => match b.2 with | none => 0 | some p => ls.length + 1 - cnt ls p) ?_ fuel _ ?_ ?_) fun b hb => ?_
      · rintro ⟨hd, nw⟩ ⟨i1, i2⟩
        dsimp only at i1 i2 ⊢
        refine ok_some ?_
        cases nw with
        | none =>
          rw [if_neg (show ¬ ((none : Option Int).isSome = true) by decide)]
          rcases i1 with ⟨_, h⟩ | ⟨h1, h2, h3⟩
          · cases h
          · refine ⟨h1, fun k z hk => ?_⟩
            have hkl := (List.getElem?_eq_some_iff.mp hk).1
            by_cases e : k + 1 < hd.length
            · exact h2 k z e hk
            · rw [List.getElem?_eq_none (by omega)]
              exact h3 k z (by omega) hk
        | some p =>
          rw [if_pos (show (some p).isSome = true from rfl)]
          obtain ⟨p0, p1, p2⟩ := i2 p rfl
          have cp := cnt_le (ls := ls) p
          refine ok_bnd (P := fun q => q = p) (ok_some rfl) fun q hq => ok_chk (by omega) (ok_lt fun hd2 hhd2 => ok_bnd (P := fun q => q = p) (ok_some rfl) fun q2 hq2 => ok_bnd (P := fun w => w = av af p) (ok_eq (by rw [hq2]; exact atI_av p0 (by omega)) rfl) fun w hw => ok_lt fun nw2 hnw2 => ok_some ?_)
          rw [hq] at hhd2
          rw [hw] at hnw2
          dsimp only
          refine ⟨⟨.inr ⟨?_, fun k z hk hz' => ?_, fun k z hk hz' => ?_⟩, fun r hr' => ?_⟩, ?_⟩
          · rcases i1 with ⟨h, h'⟩ | ⟨h1, h2, h3⟩
            · rw [hhd2, h, ← h']; rfl
            · rw [hhd2, List.getElem?_append_left (List.getElem?_eq_some_iff.mp h1).1]; exact h1
          · rw [hhd2, List.length_append, List.length_singleton] at hk
            rw [hhd2, List.getElem?_append_left (by omega)] at hz'
            rcases i1 with ⟨h, h'⟩ | ⟨h1, h2, h3⟩
            · rw [h] at hz'; cases hz'
            · by_cases e : k + 1 < hd.length
              · rw [hhd2, List.getElem?_append_left e]; exact h2 k z e hz'
              · rw [hhd2, List.getElem?_append_right (by omega), show k + 1 - hd.length = 0 from by omega, ← h3 k z (by omega) hz']; rfl
          · rw [hhd2, List.length_append, List.length_singleton] at hk
            have ek : k = hd.length := by omega
            rw [hhd2, ek, List.getElem?_append_right (Nat.le_refl _), Nat.sub_self] at hz'
            rw [← Option.some.inj hz']
            exact hnw2
          · rw [hnw2] at hr'
            obtain ⟨r0, r1, r2⟩ := mt.rg p r p0 p1 hr'
            have := cnt_lt hm hr hl p0 p1 r0 r1 (ini p0 p1 r2)
            refine ⟨r0, r1, ?_⟩
            rw [hhd2, List.length_append, List.length_singleton]
            omega
          · cases hnw : nw2 with
            | none => dsimp only; omega
            | some r =>
              rw [hnw2] at hnw
              obtain ⟨r0, r1, r2⟩ := mt.rg p r p0 p1 hnw
              have := cnt_lt hm hr hl p0 p1 r0 r1 (ini p0 p1 r2)
              have := cnt_le (ls := ls) r
              dsimp only
              omega
      · dsimp only
        refine ⟨.inl ⟨hhd0, hnw0⟩, fun p hp => ?_⟩
        rw [hnw0] at hp
        rw [← Option.some.inj hp, hhd0]
        exact ⟨x0, x1, Nat.zero_le _⟩
      · have hfu : fuel = 1000000 := by unfold fuel; rfl
        rw [hnw0]
        dsimp only
        omega
      · refine ok_chk (by omega) (ok_lt fun hs2 hhs2 => ok_some ?_)
        subst hhs2
        refine ⟨by rw [List.length_append, List.length_append, a1]; rfl, fun j hand hj => ?_⟩
        by_cases e : j < hs.length
        · rw [List.getElem?_append_left e] at hj
          rw [List.getElem?_append_left (by omega)]
          exact a2 j hand hj
        · have hjl := (List.getElem?_eq_some_iff.mp hj).1
          rw [List.length_append, List.length_singleton] at hjl
          rw [List.getElem?_append_right (by omega), show j - hs.length = 0 from by omega] at hj
          rw [List.getElem?_append_right (by omega), show j - (((rng 0 (ls.length : Int)).take i).filter fun p => (av ah p).isNone).length = 0 from by omega]
          rw [← Option.some.inj hj]
          exact ⟨x, rfl, hb⟩
    · rw [hy] at hc
      rw [List.filter_cons, if_neg (by rw [hc]; exact Bool.false_ne_true), List.filter_nil, List.append_nil]
      exact ok_some ⟨a1, a2⟩
  · rintro hs ⟨a1, a2⟩
    rw [List.take_length] at a1 a2
    exact ⟨a1, a2⟩
  refine ok_chk ⟨by omega, by omega⟩ ?_
  refine ok_bnd (P := fun b => b = (rng 0 (ls.length : Int)).filter fun u => (av af u).isNone) (ok_eq (compO_eq (T := fun q => (av af q).isNone) (g := fun q => q) (fun q hq => by obtain ⟨q0, q1⟩ := mem_rng.mp hq; rw [atI_av q0 (by omega)]; rfl) fun q _ _ => rfl) (by rw [List.map_id'])) fun bg0 hbg0 => ?_
  have hbgl : bg0.length ≤ ls.length := by
    rw [hbg0]
    have := List.length_filter_le (fun u => (av af u).isNone) (rng 0 (ls.length : Int))
    rw [rng_len] at this
    omega
  refine ok_chk (by omega) (ok_lt fun bg hbg => ?_)
  subst hbg
  have hbm : ∀ u : Int, u ∈ bg → (0 ≤ u ∧ u < (ls.length : Int)) ∧ av af u = none := fun u hu => by
    rw [hbg0] at hu
    obtain ⟨h1, h2⟩ := List.mem_filter.mp hu
    refine ⟨mem_rng.mp h1, ?_⟩
    cases e : av af u with
    | none => rfl
    | some z => rw [e] at h2; cases h2
  refine ok_bnd (show Ok (m_found_ways bh ah bg) _ from ways_ok hn hB l2 mt.rg2 (fun u hu => (hbm u hu).1) hbgl) fun cm ⟨fw, cl⟩ => ?_
  have hcl := fw.len
  refine ok_bnd (P := fun b => b = (cm.map (·.1)).map (av ah)) (ok_eq (mapO_eq (g := av ah) fun q hq => by rw [atI_av (fw.rg q hq).1 (by have := (fw.rg q hq).2; omega)]; rfl) rfl) fun sn hsn => ?_
  have hsl : sn.length = cm.length := by rw [hsn, List.length_map, List.length_map]
  refine ok_chk (by omega) (ok_chk (by rw [List.length_map]; omega) (ok_lt fun seen hseen => ok_chk ⟨by omega, by omega⟩ ?_))
  have hfl := List.length_filter_le (fun x : Int => ((memF (some x) seen) && (!(dval cm x).isSome))) (rng 0 (ls.length : Int))
  rw [rng_len] at hfl
  refine ok_chk (by rw [List.length_map]; omega) (ok_lt fun ap hap => ok_some ⟨af, ah, ?_⟩)
  rw [List.map_id'] at hap
  have smem : ∀ x : Int, memF (some x) seen = true ↔ x ∈ rowOf ah bg cm := fun x => by
    rw [memF_iff, rowOf_mem, hseen, hsn, List.mem_append]
    constructor
    · rintro (h | h)
      · obtain ⟨z, h1, h2⟩ := List.mem_map.mp h
        rw [← Option.some.inj h2]; exact .inl h1
      · obtain ⟨z, h1, h2⟩ := List.mem_map.mp h
        exact .inr ⟨z, h1, h2⟩
    · rintro (h | ⟨z, h1, h2⟩)
      · exact .inl (List.mem_map.mpr ⟨x, h, rfl⟩)
      · exact .inr (List.mem_map.mpr ⟨z, h1, h2⟩)
  have amem : ∀ x : Int, x ∈ ap ↔ (0 ≤ x ∧ x < (ls.length : Int)) ∧ x ∈ rowOf ah bg cm ∧ x ∉ cm.map (·.1) := fun x => by
    rw [hap, List.mem_filter, mem_rng, Bool.and_eq_true_iff, smem]
    refine and_congr_right fun _ => and_congr_right fun _ => ?_
    rw [← dval_some_key]
    cases (dval cm x).isSome <;> simp
  have rrow : ∀ x : Int, x ∈ rowOf ah bg cm → 0 ≤ x ∧ x < (ls.length : Int) := fun x hx => by
    rcases rowOf_mem.mp hx with h | ⟨p, h1, h2⟩
    · exact (hbm x h).1
    · exact mt.rg2 p x (fw.rg p h1).1 (fw.rg p h1).2 h2
  refine ⟨by rw [← hbh]; exact st, hhs.1, hhs.2, ⟨?_, fun x hx => ((amem x).mp hx).1, fun x hx y hy' => ?_⟩, ?_, _, hap⟩
  · show ap.Nodup
    rw [hap]; exact (rng_nd _ _).filter _
  · obtain ⟨⟨x0, x1⟩, x2, _⟩ := (amem x).mp hx
    obtain ⟨y1, _, y3⟩ := (amem y).mp hy'
    cases e : fol names rows (lg ls x) (lg ls y) with
    | false => rfl
    | true => exact absurd (cl x x2 y (by rw [hbh]; exact (nb_iff x0 x1).mpr ⟨y1, e⟩)) y3
  · show hs.length ≤ ap.length
    obtain ⟨DL, DR, dd⟩ := st.dd
    have drk : ∀ (i : Nat) (p u : Int), cm[i]? = some (p, u) → DR p := by
      intro i
      induction i using Nat.strongRecOn with
      | _ i ih =>
        intro p u h
        obtain ⟨h1, h2⟩ := fw.ord i p u h
        rcases h2 with e | ⟨j, q, v, hj, h3, h4⟩
        · obtain ⟨⟨u0, u1⟩, u2⟩ := hbm u e
          exact dd.cl u p (dd.un u u0 u1 u2) h1
        · obtain ⟨q0, q1⟩ := fw.rg q (List.mem_map.mpr ⟨(q, v), List.mem_of_getElem? h3, rfl⟩)
          obtain ⟨w, w1, w2⟩ := dd.mt q q0 q1 (ih j hj q v h3)
          rw [h4] at w1
          rw [← Option.some.inj w1] at w2
          exact dd.cl u p w2 h1
    have mk : ∀ p : Int, p ∈ cm.map (·.1) → ∃ u, av ah p = some u := fun p hp => by
      obtain ⟨⟨p', u⟩, h1, rfl⟩ := List.mem_map.mp hp
      obtain ⟨i, hi⟩ := List.mem_iff_getElem?.mp h1
      obtain ⟨w, w1, _⟩ := dd.mt p' (fw.rg p' hp).1 (fw.rg p' hp).2 (drk i p' u hi)
      exact ⟨w, w1⟩
    have h1 := free_le mt
    rw [← hbg0, ← hhs.1] at h1
    have h2 := nd_sub_len (l := bg ++ (cm.map (·.1)).map fun p => (av ah p).getD 0) (m := ap ++ cm.map (·.1)) (List.nodup_append.mpr ⟨by rw [hbg0]; exact (rng_nd _ _).filter _, List.pairwise_map.mpr (List.Pairwise.imp_of_mem (fun {x y} hx hy h e => ?_) fw.nd), fun a ha b hb e => ?_⟩) (fun x hx => ?_)
    · rw [List.length_append, List.length_append, List.length_map] at h2
      omega
    · obtain ⟨u, hu⟩ := mk x hx
      obtain ⟨v, hv⟩ := mk y hy
      rw [hu, hv] at e
      have e : u = v := e
      subst e
      obtain ⟨x0, x1⟩ := fw.rg x hx
      obtain ⟨y0, y1⟩ := fw.rg y hy
      obtain ⟨u0, u1⟩ := mt.rg2 x u x0 x1 hu
      have a := (mt.iff u x u0 u1 x0 x1).mpr hu
      have b := (mt.iff u y u0 u1 y0 y1).mpr hv
      rw [a] at b
      exact h (Option.some.inj b)
    · obtain ⟨p, hp, rfl⟩ := List.mem_map.mp hb
      obtain ⟨u, hu⟩ := mk p hp
      obtain ⟨_, a2⟩ := hbm a ha
      rw [hu] at e
      have e : a = u := e
      subst e
      obtain ⟨p0, p1⟩ := fw.rg p hp
      obtain ⟨u0, u1⟩ := mt.rg2 p a p0 p1 hu
      rw [(mt.iff a p u0 u1 p0 p1).mpr hu] at a2
      cases a2
    · have hrow : x ∈ rowOf ah bg cm := by
        rcases List.mem_append.mp hx with h | h
        · exact rowOf_mem.mpr (.inl h)
        · obtain ⟨p, hp, rfl⟩ := List.mem_map.mp h
          obtain ⟨u, hu⟩ := mk p hp
          rw [hu]
          exact rowOf_mem.mpr (.inr ⟨p, hp, hu⟩)
      by_cases hk : x ∈ cm.map (·.1)
      · exact List.mem_append.mpr (.inr hk)
      · exact List.mem_append.mpr (.inl ((amem x).mpr ⟨rrow x hrow, hrow, hk⟩))
inductive Rch (af : List (Option Int)) : Int → Int → Prop
  | refl (u : Int) : Rch af u u
  | step {u v w : Int} : Rch af u v → av af v = some w → Rch af u w
theorem Rch.head {af : List (Option Int)} {u w : Int} (h : Rch af u w) : u = w ∨ ∃ v, av af u = some v ∧ Rch af v w := by
  induction h with
  | refl => exact .inl rfl
  | @step v w h e ih =>
    rcases ih with rfl | ⟨x, h1, h2⟩
    · exact .inr ⟨w, e, .refl w⟩
    · exact .inr ⟨x, h1, .step h2 e⟩
theorem Rch.two {af : List (Option Int)} {h x y : Int} (hx : Rch af h x) (hy : Rch af h y) : Rch af x y ∨ Rch af y x := by
  induction hy with
  | refl => exact .inr hx
  | @step v w _ e ih =>
    rcases ih with h1 | h1
    · exact .inl (.step h1 e)
    · rcases h1.head with rfl | ⟨z, h2, h3⟩
      · exact .inl (.step (.refl _) e)
      · rw [e] at h2
        rw [← Option.some.inj h2] at h3
        exact .inr h3
section
variable {m : Nat} {names : List Str} {rows : List (List Int)} {ls : List Ln} {af ah : List (Option Int)}
theorem Lv.ns (h : Lv names ls) : Lns names ls := fun t ht => ⟨(h t ht).1, (h t ht).2.2⟩
theorem Rch.fol (hm : Nms m names) (hr : Cl m m rows) (hl : Lv names ls) (mt : Mt ls.length (ls.map (fb names rows ls)) af ah) {u w : Int} (u0 : 0 ≤ u) (u1 : u < ls.length) (h : Rch af u w) : (0 ≤ w ∧ w < ls.length) ∧ (u = w ∨ fol names rows (lg ls u) (lg ls w) = true) := by
  induction h with
  | refl => exact ⟨⟨u0, u1⟩, .inl rfl⟩
  | @step v w _ e ih =>
    obtain ⟨⟨v0, v1⟩, ih⟩ := ih
    obtain ⟨w0, w1, w2⟩ := mt.rg v w v0 v1 e
    have hf := ((nb_iff v0 v1).mp w2).2
    refine ⟨⟨w0, w1⟩, .inr ?_⟩
    rcases ih with rfl | ih
    · exact hf
    · exact fol_trans hm hr hl.ns (lg_mem u0 u1) (lg_mem v0 v1) (lg_mem w0 w1) ih hf
theorem top_ok (hm : Nms m names) (hr : Cl m m rows) (hl : Lv names ls) (mt : Mt ls.length (ls.map (fb names rows ls)) af ah) : ∀ (k : Nat) (x : Int), cnt ls x ≤ k → 0 ≤ x → x < ls.length → ∃ h, h ∈ free ls.length ah ∧ Rch af h x := by
  intro k
  induction k with
  | zero =>
    intro x hc x0 x1
    cases e : av ah x with
    | none => exact ⟨x, List.mem_filter.mpr ⟨mem_rng.mpr ⟨x0, x1⟩, by rw [e]; rfl⟩, .refl x⟩
    | some u =>
      obtain ⟨u0, u1⟩ := mt.rg2 x u x0 x1 e
      have e2 := (mt.iff u x u0 u1 x0 x1).mpr e
      have := cnt_lt hm hr hl u0 u1 x0 x1 ((nb_iff u0 u1).mp (mt.rg u x u0 u1 e2).2.2).2
      omega
  | succ k ih =>
    intro x hc x0 x1
    cases e : av ah x with
    | none => exact ⟨x, List.mem_filter.mpr ⟨mem_rng.mpr ⟨x0, x1⟩, by rw [e]; rfl⟩, .refl x⟩
    | some u =>
      obtain ⟨u0, u1⟩ := mt.rg2 x u x0 x1 e
      have e2 := (mt.iff u x u0 u1 x0 x1).mpr e
      have := cnt_lt hm hr hl u0 u1 x0 x1 ((nb_iff u0 u1).mp (mt.rg u x u0 u1 e2).2.2).2
      obtain ⟨h, h1, h2⟩ := ih u (by omega) u0 u1
      exact ⟨h, h1, .step h2 e2⟩
theorem anti_le (hm : Nms m names) (hr : Cl m m rows) (hl : Lv names ls) (mt : Mt ls.length (ls.map (fb names rows ls)) af ah) {A : List Int} (hA : Anti names rows ls A) : A.length ≤ (free ls.length ah).length := by
  obtain ⟨a1, a2, a3⟩ := hA
  have key : ∀ x : Int, ∃ h, x ∈ A → h ∈ free ls.length ah ∧ Rch af h x := fun x => by
    by_cases hx : x ∈ A
    · obtain ⟨h, h1, h2⟩ := top_ok hm hr hl mt _ x (Nat.le_refl _) (a2 x hx).1 (a2 x hx).2
      exact ⟨h, fun _ => ⟨h1, h2⟩⟩
    · exact ⟨0, fun z => absurd z hx⟩
  obtain ⟨f, hf⟩ := Classical.axiomOfChoice key
  refine inj_len f a1 (fun x hx y hy e => ?_) (fun x hx => (hf x hx).1)
  have h1 := (hf x hx).2
  have h2 := (hf y hy).2
  rw [e] at h1
  rcases h1.two h2 with h | h
  · rcases (h.fol hm hr hl mt (a2 x hx).1 (a2 x hx).2).2 with z | z
    · exact z
    · rw [a3 x hx y hy] at z; cases z
  · rcases (h.fol hm hr hl mt (a2 y hy).1 (a2 y hy).2).2 with z | z
    · exact z.symm
    · rw [a3 y hy x hx] at z; cases z
def Wd (names : List Str) (rows : List (List Int)) (ls : List Ln) (w : Int) : Prop := (∀ A, Anti names rows ls A → (A.length : Int) ≤ w) ∧ ∃ A, Anti names rows ls A ∧ (A.length : Int) = w
theorem Rslt.wd (hm : Nms m names) (hr : Cl m m rows) (hl : Lv names ls) {r : List (List Int) × List Int} (h : Rslt names rows ls af ah r) : Wd names rows ls (r.1.length : Int) ∧ r.2.length = r.1.length := by
  have h1 := anti_le hm hr hl h.st.m h.an
  have h2 := h.ap
  have h3 := h.hl
  refine ⟨⟨fun A hA => ?_, r.2, h.an, by omega⟩, by omega⟩
  have := anti_le hm hr hl h.st.m hA
  omega
theorem wd_le {rows' : List (List Int)} {ls' : List Ln} {w w' : Int} (f : Int → Int) (h1 : ∀ x : Int, 0 ≤ x → x < ls.length → 0 ≤ f x ∧ f x < ls'.length) (h2 : ∀ x y : Int, 0 ≤ x → x < ls.length → 0 ≤ y → y < ls.length → f x = f y → x = y)
    (h3 : ∀ x y : Int, 0 ≤ x → x < ls.length → 0 ≤ y → y < ls.length → fol names rows (lg ls x) (lg ls y) = false → fol names rows' (lg ls' (f x)) (lg ls' (f y)) = false) (h : Wd names rows ls w) (h' : Wd names rows' ls' w') : w ≤ w' := by
  obtain ⟨_, A, ⟨a1, a2, a3⟩, a4⟩ := h
  have := h'.1 (A.map f) ⟨List.pairwise_map.mpr (List.Pairwise.imp_of_mem (fun {x y} hx hy ne e => ne (h2 x y (a2 x hx).1 (a2 x hx).2 (a2 y hy).1 (a2 y hy).2 e)) a1), fun x hx => ?_, fun x hx y hy => ?_⟩
  · rw [List.length_map] at this; omega
  · obtain ⟨z, hz, rfl⟩ := List.mem_map.mp hx
    exact h1 z (a2 z hz).1 (a2 z hz).2
  · obtain ⟨z, hz, rfl⟩ := List.mem_map.mp hx
    obtain ⟨v, hv, rfl⟩ := List.mem_map.mp hy
    exact h3 z v (a2 z hz).1 (a2 z hz).2 (a2 v hv).1 (a2 v hv).2 (a3 z hz v hv)
theorem anti_but {A : List Int} (h : Anti names rows ls A) (z : Int) : Anti names rows ls (A.filter fun x => !decide (x = z)) ∧ A.length ≤ (A.filter fun x => !decide (x = z)).length + 1 := by
  obtain ⟨a1, a2, a3⟩ := h
  refine ⟨⟨a1.filter _, fun x hx => a2 x (List.mem_filter.mp hx).1, fun x hx y hy => a3 x (List.mem_filter.mp hx).1 y (List.mem_filter.mp hy).1⟩, ?_⟩
  have := nd_sub_len (l := A) (m := z :: A.filter fun x => !decide (x = z)) a1 fun x hx => by
    by_cases e : x = z
    · rw [e]; exact List.mem_cons_self
    · exact List.mem_cons_of_mem _ (List.mem_filter.mpr ⟨hx, by rw [decide_eq_false e]; rfl⟩)
  rw [List.length_cons] at this
  exact this
theorem anti_map {rows' : List (List Int)} {ls' : List Ln} {A : List Int} (f : Int → Int) (h : Anti names rows ls A) (h1 : ∀ x ∈ A, 0 ≤ f x ∧ f x < (ls'.length : Int)) (h2 : ∀ x ∈ A, ∀ y ∈ A, f x = f y → x = y)
    (h3 : ∀ x ∈ A, ∀ y ∈ A, fol names rows (lg ls x) (lg ls y) = false → fol names rows' (lg ls' (f x)) (lg ls' (f y)) = false) : Anti names rows' ls' (A.map f) := by
  obtain ⟨a1, a2, a3⟩ := h
  refine ⟨List.pairwise_map.mpr (List.Pairwise.imp_of_mem (fun {x y} hx hy ne e => ne (h2 x hx y hy e)) a1), fun x hx => ?_, fun x hx y hy => ?_⟩
  · obtain ⟨z, hz, rfl⟩ := List.mem_map.mp hx
    exact h1 z hz
  · obtain ⟨z, hz, rfl⟩ := List.mem_map.mp hx
    obtain ⟨v, hv, rfl⟩ := List.mem_map.mp hy
    exact h3 z hz v hv (a3 z hz v hv)
end
theorem lay_strs {xs : List Str} (h : ∀ x ∈ xs, txt x) : PyData.canLayAll0 (xs.map PyData.str) = true ∧ PyData.depthAll (xs.map PyData.str) = 0 := by
  induction xs with
  | nil => simp [PyData.canLayAll0, PyData.depthAll]
  | cons x r ih =>
    obtain ⟨i1, i2⟩ := ih fun y hy => h y (List.mem_cons_of_mem _ hy)
    rw [List.map_cons]
    have hx : PyData.strOk x = true := h x List.mem_cons_self
    refine ⟨?_, ?_⟩
    · unfold PyData.canLayAll0 PyData.canLay0
      rw [i1, hx]; rfl
    · unfold PyData.depthAll
      rw [i2]; simp [PyData.depth]
theorem lay_all {α : Type} [EqD α] {n : Nat} : ∀ {xs : List α}, (∀ x ∈ xs, PyData.canLay0 (EqD.toD x) = true ∧ PyData.depth (EqD.toD x) ≤ n) → PyData.canLayAll0 (xs.map EqD.toD) = true ∧ PyData.depthAll (xs.map EqD.toD) ≤ n
  | [], _ => by simp [PyData.canLayAll0, PyData.depthAll]
  | x :: r, h => by
    obtain ⟨i1, i2⟩ := lay_all fun y hy => h y (List.mem_cons_of_mem _ hy)
    obtain ⟨j1, j2⟩ := h x List.mem_cons_self
    rw [List.map_cons]
    refine ⟨?_, ?_⟩
    · unfold PyData.canLayAll0
      rw [i1, j1]; rfl
    · unfold PyData.depthAll
      omega
def Tx (L : Nat) (x : Str) : Prop := (∀ c ∈ x.cps.toList, c < 128) ∧ x.cps.toList.length ≤ L
theorem name_inv {x : Str} (h : m_is_name x = some true) : Tx 10 x := by
  unfold m_is_name at h
  by_cases hs : x.length ≤ sizeLine
  · rw [made_eq x _ _ hs] at h
    have h := Option.some.inj h
    obtain ⟨h1, h2⟩ := Bool.and_eq_true_iff.mp h
    have h3 : ¬ ((10 : Int) < (x.length : Int)) := fun z => by
      rw [decide_eq_true z, Bool.or_true] at h1; cases h1
    refine ⟨fun c hc => ?_, by rw [← strlen]; omega⟩
    cases e : inS ⟨#[c]⟩ c_LETTERS with
    | true =>
      rw [in_let] at e
      have := of_decide_eq_true e
      omega
    | false =>
      have : (chars x).any (fun y => !inS y c_LETTERS) = true := List.any_eq_true.mpr ⟨_, List.mem_map.mpr ⟨c, hc, rfl⟩, by rw [e]; rfl⟩
      rw [this] at h2; cases h2
  · unfold m_is_made_of at h
    unfold chk at h
    rw [if_neg hs] at h
    cases h
theorem Tx.ok {L : Nat} {x : Str} (h : Tx L x) : PyData.strOk x = true := by
  unfold PyData.strOk
  rw [Array.all_eq_true_iff_forall_mem]
  intro c hc
  have := h.1 c (Array.mem_toList_iff.mpr hc)
  exact decide_eq_true (by omega)

theorem shp_w3 {α β : Type} {n m : Nat} [Shp α n] [Shp β m] {s : Str} (h : PyData.strOk s = true) (x : α) (y : β) (hn : n ≤ 30 := by decide) (hm : m ≤ 30 := by decide) : shp (⟨s, x, y⟩ : T3 Str α β) := by
  obtain ⟨h1, h2⟩ := Shp.ok x
  obtain ⟨h3, h4⟩ := Shp.ok y
  unfold shp SeqAt.shaped
  rw [Bool.and_eq_true, decide_eq_true_iff]
  constructor
  · show PyData.canLay0 (.tuple [.str s, EqD.toD x, EqD.toD y]) = true
    simp [PyData.canLay0, PyData.canLayAll0, h, h1, h3]
  · show PyData.depth (.tuple [.str s, EqD.toD x, EqD.toD y]) ≤ 64
    simp [PyData.depth, PyData.depthAll]
    omega
theorem shp_lines {ls : List Ln} (h : ∀ t ∈ ls, PyData.strOk t.a = true) : shp ls := by
  have key : ∀ t ∈ ls, PyData.canLay0 (EqD.toD t) = true ∧ PyData.depth (EqD.toD t) ≤ 20 := fun t ht => by
    have := shp_w3 (h t ht) t.b t.c
    unfold shp SeqAt.shaped at this
    obtain ⟨h1, h2⟩ := Bool.and_eq_true_iff.mp this
    refine ⟨h1, ?_⟩
    obtain ⟨i1, i2⟩ := lay_strs (xs := [t.a]) (fun x hx => by rw [List.mem_singleton.mp hx]; exact h t ht)
    show PyData.depth (.tuple [.str t.a, .int t.b, .int t.c]) ≤ 20
    simp [PyData.depth, PyData.depthAll]
  obtain ⟨h1, h2⟩ := lay_all key
  unfold shp SeqAt.shaped
  refine Bool.and_eq_true_iff.mpr ⟨?_, decide_eq_true ?_⟩
  · show PyData.canLay0 (.list (ls.map EqD.toD)) = true
    unfold PyData.canLay0
    exact h1
  · show PyData.depth (.list (ls.map EqD.toD)) ≤ 64
    unfold PyData.depth
    omega
theorem rng_lt (a b : Int) : (rng a b).Pairwise (· < ·) := (List.pairwise_and_iff.mpr ⟨rng_sorted a b, rng_nd a b⟩).imp fun {x y} ⟨u, v⟩ => by
  have v : x ≠ y := v
  omega
section
variable {m : Nat} {names : List Str} {rows : List (List Int)} {ls : List Ln} {af ah : List (Option Int)}
theorem mem_free {n : Nat} {ah : List (Option Int)} {x : Int} : x ∈ free n ah ↔ (0 ≤ x ∧ x < (n : Int)) ∧ av ah x = none := by
  unfold free
  rw [List.mem_filter, mem_rng, Option.isNone_iff_eq_none]
theorem Hand.ne {pl : Int} {hand : List Int} (h : Hand af pl hand) : 0 < hand.length := (List.getElem?_eq_some_iff.mp h.1).1
theorem Hand.pred {pl : Int} {hand : List Int} (h : Hand af pl hand) {k : Nat} {y : Int} (hy : hand[k + 1]? = some y) : ∃ x, hand[k]? = some x ∧ av af x = some y := by
  have hl := (List.getElem?_eq_some_iff.mp hy).1
  have hx : hand[k]? = some (hand[k]'(by omega)) := List.getElem?_eq_getElem (by omega)
  refine ⟨_, hx, ?_⟩
  rw [← h.2 k _ hx, hy]
theorem Hand.rg {bh : List (List Int)} {n : Nat} (mt : Mt n bh af ah) {pl : Int} {hand : List Int} (h : Hand af pl hand) (hp : pl ∈ free n ah) : ∀ (k : Nat) (x : Int), hand[k]? = some x → 0 ≤ x ∧ x < (n : Int) := by
  intro k
  induction k with
  | zero =>
    intro x hx
    rw [h.1] at hx
    cases hx
    exact (mem_free.mp hp).1
  | succ k ih =>
    intro y hy
    obtain ⟨x, hx, e⟩ := h.pred hy
    obtain ⟨x0, x1⟩ := ih x hx
    obtain ⟨y0, y1, _⟩ := mt.rg x y x0 x1 e
    exact ⟨y0, y1⟩
theorem Hand.mem {pl : Int} {hand : List Int} (h : Hand af pl hand) {x : Int} (hx : Rch af pl x) : x ∈ hand := by
  induction hx with
  | refl => exact List.mem_of_getElem? h.1
  | @step v w _ e ih =>
    obtain ⟨k, hk⟩ := List.mem_iff_getElem?.mp ih
    exact List.mem_of_getElem? ((h.2 k v hk).trans e)
theorem Hand.one {bh : List (List Int)} {n : Nat} (mt : Mt n bh af ah) {p q : Int} {g h : List Int} (hg : Hand af p g) (hp : p ∈ free n ah) (hh : Hand af q h) (hq : q ∈ free n ah) : ∀ (k l : Nat) (x : Int), g[k]? = some x → h[l]? = some x → p = q ∧ k = l := by
  intro k
  induction k with
  | zero =>
    intro l x hx hy
    rw [hg.1] at hx
    cases hx
    cases l with
    | zero =>
      rw [hh.1] at hy
      cases hy
      exact ⟨rfl, rfl⟩
    | succ l =>
      obtain ⟨u, hu, e⟩ := hh.pred hy
      obtain ⟨u0, u1⟩ := hh.rg mt hq l u hu
      obtain ⟨⟨x0, x1⟩, en⟩ := mem_free.mp hp
      rw [(mt.iff u p u0 u1 x0 x1).mp e] at en
      cases en
  | succ k ih =>
    intro l x hx hy
    obtain ⟨u, hu, e⟩ := hg.pred hx
    obtain ⟨u0, u1⟩ := hg.rg mt hp k u hu
    obtain ⟨x0, x1⟩ := hg.rg mt hp (k + 1) x hx
    have e1 := (mt.iff u x u0 u1 x0 x1).mp e
    cases l with
    | zero =>
      rw [hh.1] at hy
      cases hy
      rw [(mem_free.mp hq).2] at e1
      cases e1
    | succ l =>
      obtain ⟨w, hw, e'⟩ := hh.pred hy
      obtain ⟨w0, w1⟩ := hh.rg mt hq l w hw
      rw [(mt.iff w x w0 w1 x0 x1).mp e'] at e1
      cases e1
      obtain ⟨h1, h2⟩ := ih l u hu hw
      exact ⟨h1, by omega⟩
theorem free_nd {n : Nat} {ah : List (Option Int)} : (free n ah).Nodup := (rng_nd _ _).filter _
theorem hands_perm (hm : Nms m names) (hr : Cl m m rows) (hl : Lv names ls) {r : List (List Int) × List Int} (h : Rslt names rows ls af ah r) : r.1.flatten.Perm (rng 0 (ls.length : Int)) := by
  have mt := h.st.m
  have hd : ∀ (i : Nat) (hand : List Int), r.1[i]? = some hand → ∃ pl, (free ls.length ah)[i]? = some pl ∧ pl ∈ free ls.length ah ∧ Hand af pl hand := fun i hand e => by
    obtain ⟨pl, h1, h2⟩ := h.hh i hand e
    exact ⟨pl, h1, List.mem_of_getElem? h1, h2⟩
  refine (List.perm_ext_iff_of_nodup ?_ (rng_nd _ _)).mpr fun x => ?_
  · refine List.pairwise_flatten.mpr ⟨fun g hg => ?_, ?_⟩
    · obtain ⟨i, hi⟩ := List.mem_iff_getElem?.mp hg
      obtain ⟨pl, _, h2, h3⟩ := hd i g hi
      refine List.pairwise_iff_getElem.mpr fun a b ha hb hab e => ?_
      have := (h3.one mt h2 h3 h2 a b g[a] (List.getElem?_eq_getElem ha) (by rw [List.getElem?_eq_getElem hb, e])).2
      omega
    · refine List.pairwise_iff_getElem.mpr fun a b ha hb hab x hx y hy e => ?_
      subst e
      obtain ⟨pl, h1, h2, h3⟩ := hd a _ (List.getElem?_eq_getElem ha)
      obtain ⟨ql, g1, g2, g3⟩ := hd b _ (List.getElem?_eq_getElem hb)
      obtain ⟨k, hk⟩ := List.mem_iff_getElem?.mp hx
      obtain ⟨l, hl'⟩ := List.mem_iff_getElem?.mp hy
      obtain ⟨e, _⟩ := h3.one mt h2 g3 g2 k l x hk hl'
      subst e
      obtain ⟨u1, u2⟩ := List.getElem?_eq_some_iff.mp h1
      obtain ⟨v1, v2⟩ := List.getElem?_eq_some_iff.mp g1
      have := (List.getElem_inj free_nd).mp (u2.trans v2.symm)
      omega
  · rw [mem_rng, List.mem_flatten]
    constructor
    · rintro ⟨g, hg, hx⟩
      obtain ⟨i, hi⟩ := List.mem_iff_getElem?.mp hg
      obtain ⟨pl, _, h2, h3⟩ := hd i g hi
      obtain ⟨k, hk⟩ := List.mem_iff_getElem?.mp hx
      exact h3.rg mt h2 k x hk
    · rintro ⟨x0, x1⟩
      obtain ⟨p, p1, p2⟩ := top_ok hm hr hl mt _ x (Nat.le_refl _) x0 x1
      obtain ⟨i, hi⟩ := List.mem_iff_getElem?.mp p1
      have hil := (List.getElem?_eq_some_iff.mp hi).1
      have hg : r.1[i]? = some (r.1[i]'(by rw [h.hl]; exact hil)) := List.getElem?_eq_getElem _
      obtain ⟨pl, h1, h2, h3⟩ := hd i _ hg
      rw [hi] at h1
      cases h1
      exact ⟨_, List.mem_of_getElem? hg, h3.mem p2⟩
theorem follows_ok (hm : Nms m names) (hr : Sq m rows) {x y : Ln} (hx : x.a ∈ names) (hy : y.a ∈ names) : m_l_follows names rows x y = some (fol names rows x y) := by
  have : Ok (m_l_follows names rows x y) (· = fol names rows x y) := by
    unfold m_l_follows
    obtain ⟨x1, x2⟩ := ix_ok hm hx
    obtain ⟨y1, y2⟩ := ix_ok hm hy
    obtain ⟨r, r1, r2, r3⟩ := hr.row x2
    refine ok_bnd (ok_eq x1 rfl) ?_
    rintro _ rfl
    refine ok_bnd (ok_eq (atI_n r1) rfl) ?_
    rintro _ rfl
    refine ok_lt fun rh hrh => ok_bnd (ok_eq y1 rfl) ?_
    rintro _ rfl
    refine ok_bnd (ok_eq (by rw [hrh]; exact atI_n (r3 _ y2)) rfl) ?_
    rintro _ rfl
    exact ok_some rfl
  exact this.eq
theorem places_ok {xs : List Int} {n : Int} (h : ∀ x ∈ xs, 0 ≤ x ∧ x < n) : m_l_places xs n = some true := by
  have : Ok (m_l_places xs n) (· = true) := by
    unfold m_l_places
    refine ok_ite (fun z => by cases z) (fun _ => ok_bnd (P := fun o => o = .nx ()) (foldF_ok (fun x hx => ?_) rfl) (fun o ho => by subst ho; exact ok_some rfl))
    obtain ⟨x0, x1⟩ := h x hx
    exact ok_ite (fun z => by
      rw [decide_eq_false (by omega : ¬ x < 0), decide_eq_false (by omega : ¬ n ≤ x)] at z
      cases z) (fun _ => ok_some rfl)
  exact this.eq
theorem right_ok (hm : Nms m names) (hm2 : m ≤ 12) (hr : Cl m m rows) (hl : Lv names ls) (hn : ls.length ≤ 50) {r : List (List Int) × List Int} (h : Rslt names rows ls af ah r) : m_l_right names rows ls (r.1, r.2) = some true := by
  have hz := szl
  have mt := h.st.m
  have hp := hands_perm hm hr hl h
  have hw := (h.wd hm hr hl).2
  have hfl : r.1.flatten.length = ls.length := by rw [hp.length_eq, rng_len]; omega
  have hfm : ∀ x ∈ r.1.flatten, 0 ≤ x ∧ x < (ls.length : Int) := fun x hx => mem_rng.mp (hp.mem_iff.mp hx)
  have hal : r.2.length ≤ ls.length := by
    obtain ⟨T, hT⟩ := h.sp
    rw [hT]
    refine Nat.le_trans (List.length_filter_le _ _) ?_
    rw [rng_len]; omega
  have hfo : ∀ x y : Int, (0 ≤ x ∧ x < (ls.length : Int)) → (0 ≤ y ∧ y < (ls.length : Int)) → m_l_follows names rows (lg ls x) (lg ls y) = some (fol names rows (lg ls x) (lg ls y)) := fun x y hx hy => follows_ok hm hr.sq (hl _ (lg_mem hx.1 hx.2)).1 (hl _ (lg_mem hy.1 hy.2)).1
  have : Ok (m_l_right names rows ls (r.1, r.2)) (· = true) := by
    unfold m_l_right
    refine ok_ite (fun z => absurd z (by decide)) (fun _ => ok_lt fun u hu => ok_lt fun ev0 hev => ?_)
    subst hu
    refine ok_bnd (P := fun o => o = .nx r.1.flatten) (ok_foldF (fun i b => b = (r.1.take i).flatten) (fun _ => False) (by rw [hev]; rfl) ?_ (fun b hb => by rw [hb, List.take_of_length_le (Nat.le_refl _)]) (fun _ z => z.elim)) fun o ho => ?_
    · intro i b hand hh hb
      obtain ⟨pl, p1, p2⟩ := h.hh i hand hh
      have p3 := List.mem_of_getElem? p1
      have hrg := p2.rg mt p3
      have hmem : ∀ x ∈ hand, 0 ≤ x ∧ x < (ls.length : Int) := fun x hx => by
        obtain ⟨k, hk⟩ := List.mem_iff_getElem?.mp hx
        exact hrg k x hk
      have hne := p2.ne
      have e2 : (r.1.take (i + 1)).flatten = (r.1.take i).flatten ++ hand := by
        rw [List.take_add_one, hh, List.flatten_append]
        simp
      have hlen : b.length + hand.length ≤ ls.length := by
        rw [hb, ← List.length_append, ← e2, ← hfl]
        have : r.1.flatten = (r.1.take (i + 1)).flatten ++ (r.1.drop (i + 1)).flatten := by rw [← List.flatten_append, List.take_append_drop]
        rw [this, List.length_append]; omega
      refine ok_bnd (ok_eq (places_ok hmem) rfl) ?_
      rintro _ rfl
      refine ok_ite (fun z => by rw [decide_eq_false (by omega : ¬ (hand.length : Int) = 0)] at z; cases z) (fun _ => ok_chk (by omega) (ok_lt fun ev hev => ?_))
      refine ok_bnd (ok_eq (mapO_eq (g := lg ls) fun x hx => by rw [atI_lg (hmem x hx).1 (hmem x hx).2]; rfl) rfl) ?_
      rintro _ rfl
      refine ok_chk (by rw [List.length_map]; omega) (ok_lt fun sm hsm => ok_chk ⟨by omega, by omega⟩ (ok_bnd (P := fun o => o = .nx ()) (foldF_ok (fun k hk => ?_) rfl) (fun o ho => by subst ho; exact ok_some (by show ev = _; rw [hev, hb, e2]))))
      obtain ⟨k0, k1⟩ := mem_rng.mp hk
      obtain ⟨k, rfl⟩ := Int.eq_ofNat_of_zero_le k0
      have x1 : hand[k]? = some (hand[k]'(by omega)) := List.getElem?_eq_getElem (by omega)
      have x2 : hand[k + 1]? = some (hand[k + 1]'(by omega)) := List.getElem?_eq_getElem (by omega)
      have a1 : atI sm (k : Int) = some (lg ls (hand[k]'(by omega))) := atI_n (by rw [hsm, List.getElem?_map, x1]; rfl)
      have a2 : atI sm ((k : Int) + 1) = some (lg ls (hand[k + 1]'(by omega))) := by
        rw [show ((k : Int) + 1) = ((k + 1 : Nat) : Int) by omega]
        exact atI_n (by rw [hsm, List.getElem?_map, x2]; rfl)
      refine ok_bnd (ok_eq a1 rfl) ?_
      rintro _ rfl
      refine ok_bnd (ok_eq a2 rfl) ?_
      rintro _ rfl
      have r1 := hrg k _ x1
      have r2 := hrg (k + 1) _ x2
      have hf : fol names rows (lg ls (hand[k]'(by omega))) (lg ls (hand[k + 1]'(by omega))) = true := by
        have e := p2.2 k _ x1
        rw [x2] at e
        exact ((nb_iff r1.1 r1.2).mp (mt.rg _ _ r1.1 r1.2 e.symm).2.2).2
      refine ok_bnd (ok_eq (hfo _ _ r1 r2) rfl) ?_
      rintro _ rfl
      exact ok_ite (fun z => by rw [hf] at z; cases z) (fun _ => ok_some rfl)
    · subst ho
      refine ok_chk ⟨by omega, by omega, by omega⟩ (ok_ite (fun z => ?_) (fun _ => ?_))
      · rw [sort_of_perm hp (rng_sorted _ _), decide_eq_true rfl] at z; cases z
      refine ok_bnd (ok_eq (places_ok h.an.2.1) rfl) ?_
      rintro _ rfl
      refine ok_ite (fun z => ?_) (fun _ => ok_chk (by show r.2.length ≤ 60; omega) (ok_ite (fun z => ?_) (fun _ => ?_)))
      · have : (r.2.length : Int) = (r.1.length : Int) := by omega
        rw [decide_eq_true this] at z; cases z
      · have hps : r.2.Pairwise (· < ·) := by
          obtain ⟨T, hT⟩ := h.sp
          rw [hT]
          exact (rng_lt _ _).filter _
        rw [decide_eq_true (ssI_eq.mpr hps)] at z; cases z
      · refine ok_bnd (P := fun o => o = .nx ()) (foldF_ok (fun x hx => ?_) rfl) (fun o ho => by subst ho; exact ok_some rfl)
        have hxr := h.an.2.1 x hx
        refine ok_bnd (ok_eq (atI_lg hxr.1 hxr.2) rfl) ?_
        rintro _ rfl
        refine ok_lt fun one hone => ok_bnd (ok_eq (mapO_eq (g := fun _ => false) fun y hy => ?_) rfl) ?_
        · have hyr := h.an.2.1 y hy
          rw [atI_lg hyr.1 hyr.2]
          show bnd (m_l_follows names rows one (lg ls y)) _ = _
          rw [hone, hfo x y hxr hyr, h.an.2.2 x hx y hy]; rfl
        · rintro _ rfl
          refine ok_chk (by rw [List.length_map]; show r.2.length ≤ _; omega) (ok_ite (fun z => ?_) (fun _ => ok_some rfl))
          rw [List.any_eq_true] at z
          obtain ⟨b, hb, e⟩ := z
          obtain ⟨_, _, rfl⟩ := List.mem_map.mp hb
          cases e
  exact this.eq
end
theorem law_true : ∀ ns : List Int, ns.length ≤ 63 → a_law (ns, ()) = some true := by
  intro sc hsc
  have hz := szl
  have : Ok (m_law sc) (· = true) := by
    unfold m_law
    refine ok_bnd (cell_ok sc (by decide)) fun c0 _ => ok_bnd (many_ok c0) ?_
    rintro _ ⟨n, rfl, h1, h2⟩
    refine ok_lt fun mh hmh => ok_bnd (cell_ok sc (by decide)) fun c1 _ => ?_
    subst hmh
    refine ok_bnd (nms_ok h1 h2) fun nm0 hn0 => ok_lt fun names hnm => ok_bnd (cell_ok sc (by decide)) fun c2 _ => ok_bnd (show Ok (m_l_rows c2 (n : Int)) _ from rows_ok h1 h2) fun rows hr => ?_
    subst hnm
    have hn := hn0
    refine ok_bnd (cell_ok sc (by decide)) fun c3 _ => ok_lt fun cell hcell => ?_
    have m15 := md cell (n := 15) (by decide)
    have m26 := md (cell / 240) (n := 26) (by decide)
    refine ok_bnd (P := fun s : Int => 0 ≤ s ∧ s ≤ 41) ?_ fun s0 hs0 => ok_lt fun size hsize => ok_bnd (cell_ok sc (by decide)) fun c4 _ => ?_
    · refine ok_atI (by split <;> decide) (by show _ < (2 : Int); split <;> decide) fun x hx => ?_
      by_cases c : decide (cell / 15 % 16 = 5) = true
      · rw [if_pos c] at hx
        obtain rfl : 15 + cell / 240 % 26 = x := Option.some.inj hx
        omega
      · rw [if_neg c] at hx
        obtain rfl : cell % 15 = x := Option.some.inj hx
        omega
    subst hsize
    refine ok_bnd (linesv_ok h1 h2 hn (by omega) (by omega)) fun l0 hl0 => ok_lt fun ls0 hls => ?_
    subst hls
    refine ok_bnd (P := fun l => l.length ≤ 50 ∧ Lv names l) ?_ fun ls hls => ?_
    · refine ok_ite (fun c => ?_) (fun _ => ok_some ⟨by omega, hl0.2⟩)
      obtain ⟨c1, _⟩ := Bool.and_eq_true_iff.mp c
      have c1 := of_decide_eq_true c1
      have mq := md (cell / 480) (n := (ls0.length : Int)) (by omega)
      have e0 : atI ls0 0 = some (lg ls0 0) := atI_lg (by omega) (by omega)
      refine ok_bnd (ok_eq e0 rfl) ?_
      rintro _ rfl
      obtain ⟨j, hj⟩ := Int.eq_ofNat_of_zero_le mq.1
      rw [hj]
      refine ok_chk (by omega) (ok_bnd (ok_eq (ixN_n (by omega)) rfl) ?_)
      rintro _ rfl
      refine ok_lt fun l1 hl1 => ok_some ?_
      rw [hl1]
      refine ⟨by rw [List.length_set]; omega, fun t ht => ?_⟩
      rcases List.mem_or_eq_of_mem_set ht with z | rfl
      · exact hl0.2 t z
      · exact hl0.2 _ (lg_mem (by omega) (by omega))
    obtain ⟨hll, hL⟩ := hls
    refine ok_bnd (ok_eq (show a_Times_init (names, rows, ()) = _ from times_ok h1 h2 hn hr) rfl) ?_
    rintro _ rfl
    have hT : ∀ t ∈ ls, PyData.strOk t.a = true := fun t ht => (name_inv (hn.nm _ (hL t ht).1)).ok
    refine ok_lt fun kept hkept => ok_bnd (show Ok (m_fewest_hands ⟨names, rows⟩ ls) _ from fewest_ok hn h2 hr hL (by omega)) fun r hR => ?_
    obtain ⟨af, ah, hR⟩ := hR
    have hrl : r.1.length ≤ ls.length := by
      rw [hR.hl]
      unfold free
      refine Nat.le_trans (List.length_filter_le _ _) ?_
      rw [rng_len]; omega
    have hr2 : r.2.length ≤ ls.length := by rw [(hR.wd hn hr hL).2]; exact hrl
    subst kept
    refine ok_chk (shp_lines hT) (ok_chk (shp_lines hT) ?_)
    refine ok_bnd (P := fun c => c = false) (ok_orO (fun _ => ok_bnd (ok_eq (right_ok hn h2 hr hL hll hR) rfl) fun _ h => ok_some (by subst h; rfl)) (fun z => by rw [decide_eq_true rfl] at z; cases z)) ?_
    rintro _ rfl
    refine ok_ite (fun z => by cases z) (fun _ => ?_)
    have hhl : ∀ (i : Nat) (hand : List Int), r.1[i]? = some hand → hand.length ≤ ls.length := fun i hand hh => by
      have hp := hands_perm hn hr hL hR
      have hfl : r.1.flatten.length = ls.length := by rw [hp.length_eq, rng_len]; omega
      rw [← hfl]
      exact (List.sublist_flatten_of_mem (List.mem_of_getElem? hh)).length_le
    refine ok_bnd (P := fun o : List (List Int) × List Int => o.1.length = r.1.length ∧ o.2 = r.2) (ok_foldO (fun i b => b.1.length = r.1.length ∧ b.2 = r.2 ∧ ∀ j, i ≤ j → b.1[j]? = r.1[j]?) ⟨rfl, rfl, fun _ _ => rfl⟩ ?_ (fun b hb => ⟨hb.1, hb.2.1⟩)) fun o ho => ?_
    · rintro i b x hx ⟨b1, b2, b3⟩
      have hi := (List.getElem?_eq_some_iff.mp hx).1
      rw [List.length_range] at hi
      rw [List.getElem?_range hi] at hx
      cases hx
      have e := b3 i (Nat.le_refl _)
      have e1 : r.1[i]? = some (r.1[i]'hi) := List.getElem?_eq_getElem hi
      have := hhl i _ e1
      refine ok_bnd (ok_eq (e.trans e1) rfl) ?_
      rintro _ rfl
      refine ok_chk (by omega) (ok_lt fun l2 hl2 => ok_some ⟨by rw [hl2, List.length_set]; exact b1, b2, fun j hj => ?_⟩)
      rw [hl2]
      show (b.1.set i _)[j]? = _
      rw [List.getElem?_set_ne (by omega)]
      exact b3 j (by omega)
    refine ok_chk (by omega) (ok_lt fun l3 _ => ok_chk (by rw [ho.2]; omega) (ok_lt fun l4 _ => ok_bnd (show Ok (m_fewest_hands ⟨names, rows⟩ ls) _ from fewest_ok hn h2 hr hL (by omega)) fun r' hR' => ?_))
    obtain ⟨af', ah', hR'⟩ := hR'
    refine ok_bnd (ok_eq (right_ok hn h2 hr hL hll hR') rfl) ?_
    rintro _ rfl
    exact ok_ret (ok_andO (fun _ => ok_chk (shp_lines hT) (ok_chk (shp_lines hT) (ok_some (decide_eq_true rfl)))) (fun z => by cases z))
  exact this.eq

end K17

open PySem PySem.W PySem.Calls PyProof.Rows
set_option maxHeartbeats 0 in
theorem PySem.Challenge.cw_deskpairs_k17_whole_fewest_hands_holds : PySem.Challenge.rw_deskpairs_k17_whole_fewest_hands.Holds := by
  w_on; o_law
  refine HandSHeadRun.head_any (r := OpenLaw.row PySem.Challenge.rw_deskpairs_k17_whole_fewest_hands) (q := view (OpenLaw.row PySem.Challenge.rw_deskpairs_k17_whole_fewest_hands).prog [32]) (H := K17.hk) (ob := K17.ob) (M := 3720) (loose := K17.loose) (d := HandSHeadRun.topDef (OpenLaw.row PySem.Challenge.rw_deskpairs_k17_whole_fewest_hands).prog 32) (kwd := []) K17.ob_eq
    (by kernel_rfl) (fun s => by kernel_rfl) K17.run (by kernel_rfl) (by kernel_rfl) (by kernel_rfl) (by rfl) (by first | assumption | decide +kernel) (by decide +kernel) ⟨rfl, rfl, rfl, rfl, rfl, by decide +kernel⟩ ?hw ?hc
  case hw => w_witness2
  case hc =>
    refine L2.walk_ofE (l := PySem.Challenge.rw_deskpairs_k17_whole_fewest_hands) (n := 63) (k := 5) (x := "_law_script") (CX := L2.CX0) rfl (by decide) (by kernel_rfl) ⟨rfl, by decide, by decide⟩ ?F (fun _ _ _ _ z => z)
    intro w mg fa h Y G hmg0
    obtain ⟨K, KX, c, TB⟩ := Y
    have hmg : mg ("law" : PySem.Str) = some (.ref fa) := by
      have e : (HandSHeadRun.topDef (OpenLaw.row PySem.Challenge.rw_deskpairs_k17_whole_fewest_hands).prog 32).name = ("law" : PySem.Str) := by kernel_rfl
      rw [← e]
      exact hmg0
    obtain ⟨fd, hb, hF⟩ := K17.facts (P := (PySem.Challenge.rw_deskpairs_k17_whole_fewest_hands).prog) (w := w) KX G hmg c TB
    exact ⟨K, fd, Dy.spLaw K, KX, hb, fun H a ns hl _ hS => ⟨a, ns, rfl, hS, hl, fun _ => rfl⟩, fun base h1 h2 => Dy.law_of (hF base h1 h2) K17.law_true⟩

