import PyProof.Rows.All
import Wide.All
import OpenK.AllK
import Wide.FinOn
import HandS.ForMost
import HandS.Codes
import HandS.Wide
import HandS.SortInts
import HandS.Conv
import HandS.IsInst
import HandS.Defaults
import HandS.Head0
import HandS.Head1
import HandS.Head2
import HandS.HeadEnd
import HandS.HeadHook1
import HandS.HeadHook2
import HandS.Zip
import HandS.Exc
import HandS.TryOnly
import HandS.ExcOwn
import HandS.WordsExc
import HandS.ExcInit
import HandS.ExcIs
import HandS.ExcField
import HandS.Style
import HandS.TupAny
import HandS.More
import HandS.Replace
import HandS.Dict
import HandS.Iter
import HandS.WordsDict
import HandS.Rev
import KE.KDictList
import HandS.Comp
import HandS.TupLen
import PyProof.StrLawsChain
import PyProof.StrLawsTight
import PyProof.Rows.StrSplitJoin
import PyProof.Rows.StrSplitAre
import PyProof.Rows.StrItems
import HandS.Strs
import HandS.SetFor
import PySem.Challenge.RW_deskpairs_k71_orders_instruments_breaks
set_option Elab.async false
set_option linter.all false
set_option maxRecDepth 100000
namespace Dy
open PySem PySem.Spec PyProof.Rows L2

structure S where
  F : Hp
  H : Hp
  sub : ∀ a o, F a = some o → H a = some o
abbrev Fle (F F' : Hp) : Prop := ∀ a o, F a = some o → F' a = some o
theorem Fle.refl (F : Hp) : Fle F F := fun _ _ h => h
theorem Fle.trans {F G I : Hp} (a : Fle F G) (b : Fle G I) : Fle F I := fun x o h => b x o (a x o h)
structure Ex (s t : S) : Prop where
  f : Fle s.F t.F
  h : ∀ a o, s.H a = some o → t.H a = some o
  n : ∀ a o, s.H a = some o → s.F a = none → t.F a = none
theorem Ex.refl (s : S) : Ex s s := ⟨fun _ _ h => h, fun _ _ h => h, fun _ _ _ h => h⟩
theorem Ex.trans {s t u : S} (a : Ex s t) (b : Ex t u) : Ex s u :=
  ⟨fun x o h => b.f x o (a.f x o h), fun x o h => b.h x o (a.h x o h), fun x o h n => b.n x o (a.h x o h) (a.n x o h n)⟩
theorem fr_back {s t : S} (e : Ex s t) {p : Addr} (h : t.H p = none) : s.H p = none := by
  cases q : s.H p with
  | none => rfl
  | some o => rw [e.h p o q] at h; cases h
theorem fF {s : S} {p : Addr} (h : s.H p = none) : s.F p = none := by
  cases q : s.F p with
  | none => rfl
  | some o => rw [s.sub p o q] at h; cases h
def S.newF (s : S) (p : Addr) (o : HO) (h : s.H p = none) : S := ⟨upd s.F p o, upd s.H p o, fun a u q => by
  unfold upd at q ⊢
  split
  · rename_i e; rw [if_pos e] at q; exact q
  · rename_i e; rw [if_neg e] at q; exact s.sub a u q⟩
def S.newO (s : S) (p : Addr) (o : HO) (h : s.H p = none) : S := ⟨s.F, upd s.H p o, fun a u q => by
  rw [upd_ne (ne_of_none (s.sub a u q) h)]; exact s.sub a u q⟩
def S.put (s : S) (p : Addr) (o : HO) (h : s.F p = none) : S := ⟨s.F, upd s.H p o, fun a u q => by
  rw [upd_ne (ne_of_none q h)]; exact s.sub a u q⟩
theorem Ex.newF {s : S} {p : Addr} {o : HO} (h : s.H p = none) : Ex s (s.newF p o h) :=
  ⟨fun a u q => by show upd s.F p o a = some u; rw [upd_ne (ne_of_none (s.sub a u q) h)]; exact q,
   fun a u q => by show upd s.H p o a = some u; rw [upd_ne (ne_of_none q h)]; exact q,
   fun a u q n => by show upd s.F p o a = none; rw [upd_ne (ne_of_none q h)]; exact n⟩
theorem Ex.newO {s : S} {p : Addr} {o : HO} (h : s.H p = none) : Ex s (s.newO p o h) :=
  ⟨fun a u q => q, fun a u q => by show upd s.H p o a = some u; rw [upd_ne (ne_of_none q h)]; exact q, fun a u q n => n⟩
structure Mx (P : Addr → Prop) (s t : S) : Prop where
  f : Fle s.F t.F
  h : ∀ a o, s.H a = some o → ¬ P a → t.H a = some o
  n : ∀ a o, s.H a = some o → s.F a = none → t.F a = none
  d : ∀ a o, s.H a = some o → ∃ u, t.H a = some u
theorem Ex.mx {P : Addr → Prop} {s t : S} (e : Ex s t) : Mx P s t := ⟨e.f, fun a o h _ => e.h a o h, e.n, fun a o h => ⟨o, e.h a o h⟩⟩
theorem Mx.trans {P : Addr → Prop} {s t u : S} (a : Mx P s t) (b : Mx P t u) : Mx P s u :=
  ⟨fun x o h => b.f x o (a.f x o h), fun x o h n => b.h x o (a.h x o h n) n,
   fun x o h n => by obtain ⟨v, hv⟩ := a.d x o h; exact b.n x v hv (a.n x o h n),
   fun x o h => by obtain ⟨v, hv⟩ := a.d x o h; exact b.d x v hv⟩
theorem Mx.put {s : S} {p : Addr} {o : HO} (h : s.F p = none) : Mx (· = p) s (s.put p o h) :=
  ⟨fun a u q => q, fun a u q n => by show upd s.H p o a = some u; rw [upd_ne n]; exact q, fun a u q n => n,
   fun a u q => by
    by_cases e : a = p
    · exact ⟨o, by rw [e]; exact upd_same⟩
    · exact ⟨u, by show upd s.H p o a = some u; rw [upd_ne e]; exact q⟩⟩
theorem Mx.fr_back {P : Addr → Prop} {s t : S} (e : Mx P s t) {p : Addr} (h : t.H p = none) : s.H p = none := by
  cases q : s.H p with
  | none => rfl
  | some o => obtain ⟨u, z⟩ := e.d p o q; rw [z] at h; cases h
theorem Ex.mu {s t u : S} {P : Addr → Prop} (a : Ex s t) (b : Mx P t u) (h : ∀ p, P p → s.H p = none) : Ex s u :=
  ⟨fun x o q => b.f x o (a.f x o q), fun x o q => b.h x o (a.h x o q) fun z => (by rw [h x z] at q; cases q), fun x o q n => b.n x o (a.h x o q) (a.n x o q n)⟩
theorem Ex.mu1 {s t u : S} {p : Addr} (a : Ex s t) (b : Mx (· = p) t u) (h : s.H p = none) : Ex s u := a.mu b fun _ e => e ▸ h

class Enc (α : Type) where
  rep : PySem.W.Frag → Hp → V → α → Prop
  mono : ∀ {K : PySem.W.Frag} {F F' : Hp} {v : V} {x : α}, Fle F F' → rep K F v x → rep K F' v x
open Enc (rep)
def Reps {α : Type} [Enc α] (K : PySem.W.Frag) (F : Hp) : List V → List α → Prop
  | [], [] => True
  | v :: vs, x :: xs => rep K F v x ∧ Reps K F vs xs
  | _, _ => False
section
variable {α β : Type} [Enc α] [Enc β] {K : PySem.W.Frag} {F F' : Hp}
theorem Reps.mono (e : Fle F F') : ∀ {vs : List V} {xs : List α}, Reps K F vs xs → Reps K F' vs xs
  | [], [], _ => trivial
  | _ :: _, _ :: _, ⟨h, t⟩ => ⟨Enc.mono e h, Reps.mono e t⟩
  | [], _ :: _, h => h.elim
  | _ :: _, [], h => h.elim
theorem Reps.len : ∀ {vs : List V} {xs : List α}, Reps K F vs xs → vs.length = xs.length
  | [], [], _ => rfl
  | _ :: _, _ :: _, ⟨_, t⟩ => congrArg (· + 1) (Reps.len t)
  | [], _ :: _, h => h.elim
  | _ :: _, [], h => h.elim
theorem Reps.get : ∀ {vs : List V} {xs : List α} {i : Nat} {x : α}, Reps K F vs xs → xs[i]? = some x → ∃ v, vs[i]? = some v ∧ rep K F v x
  | [], [], _, _, _, e => by simp at e
  | v :: _, y :: _, 0, x, ⟨h, _⟩, e => by
    have : y = x := Option.some.inj e
    subst this
    exact ⟨v, rfl, h⟩
  | _ :: vs, _ :: xs, i + 1, x, ⟨_, t⟩, e => by
    obtain ⟨v, h1, h2⟩ := Reps.get (i := i) t (by simpa using e)
    exact ⟨v, by simpa using h1, h2⟩
  | [], _ :: _, _, _, h, _ => h.elim
  | _ :: _, [], _, _, h, _ => h.elim
theorem Reps.get' : ∀ {vs : List V} {xs : List α} {i : Nat} {v : V}, Reps K F vs xs → vs[i]? = some v → ∃ x, xs[i]? = some x ∧ rep K F v x
  | [], [], _, _, _, e => by simp at e
  | v :: _, y :: _, 0, w, ⟨h, _⟩, e => by
    have : v = w := Option.some.inj e
    subst this
    exact ⟨y, rfl, h⟩
  | _ :: vs, _ :: xs, i + 1, w, ⟨_, t⟩, e => by
    obtain ⟨x, h1, h2⟩ := Reps.get' (i := i) t (by simpa using e)
    exact ⟨x, by simpa using h1, h2⟩
  | [], _ :: _, _, _, h, _ => h.elim
  | _ :: _, [], _, _, h, _ => h.elim
theorem Reps.app : ∀ {vs ws : List V} {xs ys : List α}, Reps K F vs xs → Reps K F ws ys → Reps K F (vs ++ ws) (xs ++ ys)
  | [], _, [], _, _, t => t
  | _ :: _, _, _ :: _, _, ⟨h, t⟩, u => ⟨h, Reps.app t u⟩
  | [], _, _ :: _, _, h, _ => h.elim
  | _ :: _, _, [], _, h, _ => h.elim
theorem Reps.snoc {vs : List V} {xs : List α} {v : V} {x : α} (h : Reps K F vs xs) (r : rep K F v x) : Reps K F (vs ++ [v]) (xs ++ [x]) := h.app ⟨r, trivial⟩
theorem Reps.take : ∀ {vs : List V} {xs : List α} (n : Nat), Reps K F vs xs → Reps K F (vs.take n) (xs.take n)
  | _, _, 0, _ => by rw [List.take_zero, List.take_zero]; trivial
  | [], [], _ + 1, _ => trivial
  | _ :: _, _ :: _, n + 1, ⟨h, t⟩ => ⟨h, Reps.take n t⟩
  | [], _ :: _, _ + 1, h => h.elim
  | _ :: _, [], _ + 1, h => h.elim
theorem Reps.drop : ∀ {vs : List V} {xs : List α} (n : Nat), Reps K F vs xs → Reps K F (vs.drop n) (xs.drop n)
  | _, _, 0, h => h
  | [], [], _ + 1, _ => trivial
  | _ :: _, _ :: _, n + 1, ⟨_, t⟩ => Reps.drop n t
  | [], _ :: _, _ + 1, h => h.elim
  | _ :: _, [], _ + 1, h => h.elim
theorem Reps.set : ∀ {vs : List V} {xs : List α} {v : V} {x : α} (i : Nat), Reps K F vs xs → rep K F v x → Reps K F (vs.set i v) (xs.set i x)
  | [], [], _, _, _, _, _ => trivial
  | _ :: _, _ :: _, _, _, 0, ⟨_, t⟩, r => ⟨r, t⟩
  | _ :: _, _ :: _, _, _, i + 1, ⟨h, t⟩, r => ⟨h, Reps.set i t r⟩
  | [], _ :: _, _, _, _, h, _ => h.elim
  | _ :: _, [], _, _, _, h, _ => h.elim
theorem Reps.erase : ∀ {vs : List V} {xs : List α} (i : Nat), Reps K F vs xs → Reps K F (vs.eraseIdx i) (xs.eraseIdx i)
  | [], [], _, _ => trivial
  | _ :: _, _ :: _, 0, ⟨_, t⟩ => t
  | _ :: _, _ :: _, i + 1, ⟨h, t⟩ => ⟨h, Reps.erase i t⟩
  | [], _ :: _, _, h => h.elim
  | _ :: _, [], _, h => h.elim
theorem Reps.rev : ∀ {vs : List V} {xs : List α}, Reps K F vs xs → Reps K F vs.reverse xs.reverse
  | [], [], _ => trivial
  | _ :: _, _ :: _, ⟨h, t⟩ => by rw [List.reverse_cons, List.reverse_cons]; exact (Reps.rev t).snoc h
  | [], _ :: _, h => h.elim
  | _ :: _, [], h => h.elim
theorem Reps.mem : ∀ {vs : List V} {xs : List α} {x : α}, Reps K F vs xs → x ∈ xs → ∃ v, v ∈ vs ∧ rep K F v x
  | v :: _, y :: _, x, ⟨h, t⟩, e => by
    rcases List.mem_cons.mp e with rfl | e
    · exact ⟨v, List.mem_cons_self, h⟩
    · obtain ⟨w, a, b⟩ := Reps.mem t e
      exact ⟨w, List.mem_cons_of_mem _ a, b⟩
  | [], _ :: _, _, h, _ => h.elim
theorem Reps.repl {v : V} {x : α} (r : rep K F v x) : ∀ n : Nat, Reps K F (List.replicate n v) (List.replicate n x)
  | 0 => trivial
  | n + 1 => ⟨r, Reps.repl r n⟩
end
instance : Enc Int := ⟨fun _ _ v x => v = .int x, fun _ h => h⟩
instance : Enc Bool := ⟨fun _ _ v x => v = .bl x, fun _ h => h⟩
instance : Enc Str := ⟨fun _ _ v x => v = .str x, fun _ h => h⟩
instance : Enc Unit := ⟨fun _ _ v _ => v = .non, fun _ h => h⟩
class Opn (α : Type) extends Enc α where
  notNon : ∀ {K : PySem.W.Frag} {F : Hp} {x : α}, ¬ rep K F .non x
instance : Opn Int := ⟨fun {K F x} h => nomatch (show V.non = V.int x from h)⟩
instance : Opn Str := ⟨fun {K F x} h => nomatch (show V.non = V.str x from h)⟩
instance : Opn Bool := ⟨fun {K F x} h => nomatch (show V.non = V.bl x from h)⟩
instance {α : Type} [Enc α] : Enc (Option α) := ⟨fun K F v x => match x with | none => v = .non | some y => rep K F v y, fun {K F F' v x} e h => by
  cases x with
  | none => exact h
  | some y => exact Enc.mono (α := α) e h⟩
theorem sql_mono {K : PySem.W.Frag} {F F' : Hp} {a : Addr} {vs : List V} (e : Fle F F') (h : SqL K F a vs) : SqL K F' a vs := by
  rcases h with (h | ⟨o, h⟩) | h
  · exact .inl (.inl (e _ _ h))
  · exact .inl (.inr ⟨o, e _ _ h⟩)
  · exact .inr h
theorem sqt_mono {K : PySem.W.Frag} {F F' : Hp} {a : Addr} {vs : List V} (e : Fle F F') (h : SqT K F a vs) : SqT K F' a vs := by
  rcases h with (h | ⟨o, h⟩) | h
  · exact .inl (.inl (e _ _ h))
  · exact .inl (.inr ⟨o, e _ _ h⟩)
  · exact .inr h
def RepL {α : Type} [Enc α] (K : PySem.W.Frag) (F : Hp) (v : V) (xs : List α) : Prop := ∃ a vs, v = .ref a ∧ SqL K F a vs ∧ Reps K F vs xs
instance {α : Type} [Enc α] : Enc (List α) := ⟨RepL, fun e h => by
  obtain ⟨a, vs, rfl, h1, h2⟩ := h
  exact ⟨a, vs, rfl, sql_mono e h1, h2.mono e⟩⟩
structure T1 (α : Type) where
  a : α
deriving DecidableEq
structure T3 (α β γ : Type) where
  a : α
  b : β
  c : γ
deriving DecidableEq
structure T4 (α β γ δ : Type) where
  a : α
  b : β
  c : γ
  d : δ
deriving DecidableEq
structure T5 (α β γ δ ε : Type) where
  a : α
  b : β
  c : γ
  d : δ
  e : ε
deriving DecidableEq
structure Tu (α : Type) where
  l : List α
deriving DecidableEq
instance {α β : Type} [Enc α] [Enc β] : Enc (α × β) := ⟨fun K F v x => ∃ p v1 v2, v = .ref p ∧ SqT K F p [v1, v2] ∧ rep K F v1 x.1 ∧ rep K F v2 x.2, fun e h => by
  obtain ⟨p, v1, v2, rfl, h0, h1, h2⟩ := h
  exact ⟨p, v1, v2, rfl, sqt_mono e h0, Enc.mono e h1, Enc.mono e h2⟩⟩
instance {α : Type} [Enc α] : Enc (T1 α) := ⟨fun K F v x => ∃ p v1, v = .ref p ∧ SqT K F p [v1] ∧ rep K F v1 x.a, fun e h => by
  obtain ⟨p, v1, rfl, h0, h1⟩ := h
  exact ⟨p, v1, rfl, sqt_mono e h0, Enc.mono e h1⟩⟩
instance {α β γ : Type} [Enc α] [Enc β] [Enc γ] : Enc (T3 α β γ) := ⟨fun K F v x => ∃ p v1 v2 v3, v = .ref p ∧ SqT K F p [v1, v2, v3] ∧ rep K F v1 x.a ∧ rep K F v2 x.b ∧ rep K F v3 x.c, fun e h => by
  obtain ⟨p, v1, v2, v3, rfl, h0, h1, h2, h3⟩ := h
  exact ⟨p, v1, v2, v3, rfl, sqt_mono e h0, Enc.mono e h1, Enc.mono e h2, Enc.mono e h3⟩⟩
instance {α β γ δ : Type} [Enc α] [Enc β] [Enc γ] [Enc δ] : Enc (T4 α β γ δ) := ⟨fun K F v x => ∃ p v1 v2 v3 v4, v = .ref p ∧ SqT K F p [v1, v2, v3, v4] ∧ rep K F v1 x.a ∧ rep K F v2 x.b ∧ rep K F v3 x.c ∧ rep K F v4 x.d, fun e h => by
  obtain ⟨p, v1, v2, v3, v4, rfl, h0, h1, h2, h3, h4⟩ := h
  exact ⟨p, v1, v2, v3, v4, rfl, sqt_mono e h0, Enc.mono e h1, Enc.mono e h2, Enc.mono e h3, Enc.mono e h4⟩⟩
instance {α β γ δ ε : Type} [Enc α] [Enc β] [Enc γ] [Enc δ] [Enc ε] : Enc (T5 α β γ δ ε) := ⟨fun K F v x => ∃ p v1 v2 v3 v4 v5, v = .ref p ∧ SqT K F p [v1, v2, v3, v4, v5] ∧ rep K F v1 x.a ∧ rep K F v2 x.b ∧ rep K F v3 x.c ∧ rep K F v4 x.d ∧ rep K F v5 x.e, fun e h => by
  obtain ⟨p, v1, v2, v3, v4, v5, rfl, h0, h1, h2, h3, h4, h5⟩ := h
  exact ⟨p, v1, v2, v3, v4, v5, rfl, sqt_mono e h0, Enc.mono e h1, Enc.mono e h2, Enc.mono e h3, Enc.mono e h4, Enc.mono e h5⟩⟩
def RepT {α : Type} [Enc α] (K : PySem.W.Frag) (F : Hp) (v : V) (xs : List α) : Prop := ∃ a vs, v = .ref a ∧ SqT K F a vs ∧ Reps K F vs xs
instance {α : Type} [Enc α] : Enc (Tu α) := ⟨fun K F v x => RepT K F v x.l, fun e h => by
  obtain ⟨a, vs, rfl, h1, h2⟩ := h
  exact ⟨a, vs, rfl, sqt_mono e h1, h2.mono e⟩⟩
instance {α : Type} [Enc α] : Opn (List α) := ⟨fun h => by obtain ⟨_, _, e, _⟩ := h; cases e⟩
instance {α : Type} [Enc α] : Opn (Tu α) := ⟨fun h => by obtain ⟨_, _, e, _⟩ := h; cases e⟩
class Flat (α : Type) extends Enc α where
  toV : α → V
  iff : ∀ {K : PySem.W.Frag} {F : Hp} {v : V} {x : α}, rep K F v x ↔ v = toV x
  flat : ∀ x, flatV (toV x) = true
  inj : ∀ x y, eqV (toV x) (toV y) = true ↔ x = y
open Flat (toV)
instance : Flat Int := ⟨V.int, Iff.rfl, fun _ => rfl, fun x y => by show (x == y) = true ↔ _; simp⟩
instance : Flat Bool := ⟨V.bl, Iff.rfl, fun _ => rfl, fun x y => by show (x == y) = true ↔ _; simp⟩
instance : Flat Str := ⟨V.str, Iff.rfl, fun _ => rfl, fun x y => by show (x == y) = true ↔ _; simp⟩
instance : Flat (Option Int) := ⟨fun x => match x with | none => .non | some i => .int i, fun {K F v x} => by cases x <;> exact Iff.rfl, fun x => by cases x <;> rfl, fun x y => by
  cases x <;> cases y <;> simp [eqV]⟩
instance : Flat (Option Str) := ⟨fun x => match x with | none => .non | some i => .str i, fun {K F v x} => by cases x <;> exact Iff.rfl, fun x => by cases x <;> rfl, fun x y => by
  cases x <;> cases y <;> simp [eqV]⟩
section
variable {α : Type} [Flat α] {K : PySem.W.Frag} {F : Hp}
theorem Reps.flat : ∀ {vs : List V} {xs : List α}, Reps K F vs xs → vs = xs.map toV
  | [], [], _ => rfl
  | _ :: _, _ :: _, ⟨h, t⟩ => by rw [List.map_cons, ← Flat.iff.mp h, ← Reps.flat t]
  | [], _ :: _, h => h.elim
  | _ :: _, [], h => h.elim
theorem Reps.of_flat : ∀ (xs : List α), Reps K F (xs.map toV) xs
  | [] => trivial
  | _ :: xs => ⟨Flat.iff.mpr rfl, Reps.of_flat xs⟩
theorem flat_all (xs : List α) : (xs.map toV).all flatV = true := by
  rw [List.all_eq_true]
  intro v hv
  obtain ⟨x, _, rfl⟩ := List.mem_map.mp hv
  exact Flat.flat x
theorem inV_flat [DecidableEq α] (x : α) (xs : List α) : inV (toV x) (xs.map toV) = decide (x ∈ xs) := by
  rw [Bool.eq_iff_iff, decide_eq_true_eq]
  unfold inV
  rw [List.any_eq_true]
  constructor
  · rintro ⟨v, hv, e⟩
    obtain ⟨y, hy, rfl⟩ := List.mem_map.mp hv
    rw [Flat.inj] at e
    rw [← e]; exact hy
  · intro h
    exact ⟨_, List.mem_map.mpr ⟨x, h, rfl⟩, (Flat.inj x x).mpr rfl⟩
end
def nst : Expr → Bool
  | .Starred _ _ => false
  | _ => true
theorem star_cons {e : Expr} {es : List Expr} {env : Env} (h : nst e = true) : starEach (e :: es) env = (false, eval e env) :: starEach es env := by
  cases e <;> first | rfl | cases h
end Dy

namespace Dy
open PySem PySem.Spec L2
open PyProof.Rows hiding St
open Enc (rep)
open Flat (toV)

@[irreducible] def Hold (p : Prop) : Prop := p
theorem Hold.run {p : Prop} (h : Hold p) : p := by unfold Hold at h; exact h
theorem Hold.mk {p : Prop} (h : p) : Hold p := by unfold Hold; exact h
def WE (X : Cx) (e : Expr) : TE := fun σ H Q => Hold (∀ (pins : List (Addr × Obj)) (s : Shared), Inv X pins σ H s → wpAny (model X.prog X.w) X.A (eval e X.env) (EP X pins σ Q) X.xe s)
def WT (X : Cx) (e : Expr) : TT := fun σ H Q => Hold (∀ (pins : List (Addr × Obj)) (s : Shared), Inv X pins σ H s → wpAny (model X.prog X.w) X.A (isTrue e X.env (eval e X.env)) (TP X pins σ Q) X.xe s)
def WW (X : Cx) (e : Expr) : TT := fun σ H Q => Hold (∀ (whole : Sem Value) (pins : List (Addr × Obj)) (s : Shared), Inv X pins σ H s → wpAny (model X.prog X.w) X.A (isTrue e X.env whole) (TP X pins σ Q) X.xe s)
def WA (X : Cx) (es : List Expr) : TA := fun σ H Q => Hold (∀ (pos : Pos) (pins : List (Addr × Obj)) (s : Shared), Inv X pins σ H s → wpAny (model X.prog X.w) X.A (spliced (backTo pos (starEach es X.env))) (AP X pins σ Q) X.xe s)
def WSs (X : Cx) (ss : List Stmt) : TS := fun D σ H => Hold (∀ (pins : List (Addr × Obj)) (s : Shared), Inv X pins σ H s → wpAny (model X.prog X.w) X.A (execs ss X.env) (SP X pins D) X.xe s)
theorem pe_we {X : Cx} {e : Expr} : PE X e (WE X e) := ⟨fun pins s _ _ _ I h => Hold.run h pins s I⟩
theorem pt_wt {X : Cx} {e : Expr} : PT X e (WT X e) := ⟨fun pins s _ _ _ I h => Hold.run h pins s I⟩
theorem pw_ww {X : Cx} {e : Expr} : PW X e (WW X e) := ⟨fun whole pins s _ _ _ I h => Hold.run h whole pins s I⟩
theorem pa_wa {X : Cx} {es : List Expr} : PA X es (WA X es) := ⟨fun pos pins s _ _ _ I h => Hold.run h pos pins s I⟩
theorem pss_ws {X : Cx} {ss : List Stmt} : PSs X ss (WSs X ss) := ⟨fun pins s _ _ _ I h => Hold.run h pins s I⟩
theorem pe_im {X : Cx} {e : Expr} {t : TE} (h : ∀ σ H Q, t σ H Q → WE X e σ H Q) : PE X e t := ⟨fun pins s σ H Q I q => Hold.run (h σ H Q q) pins s I⟩
theorem pt_im {X : Cx} {e : Expr} {t : TT} (h : ∀ σ H Q, t σ H Q → WT X e σ H Q) : PT X e t := ⟨fun pins s σ H Q I q => Hold.run (h σ H Q q) pins s I⟩
theorem pss_im {X : Cx} {ss : List Stmt} {t : TS} (h : ∀ D σ H, t D σ H → WSs X ss D σ H) : PSs X ss t := ⟨fun pins s σ H D I q => Hold.run (h D σ H q) pins s I⟩
theorem we_of {X : Cx} {e : Expr} {t : TE} {σ : St} {H : Hp} {Q : VK} (h : PE X e t) (q : t σ H Q) : WE X e σ H Q := Hold.mk fun pins s I => h.run pins s σ H Q I q
theorem wt_of {X : Cx} {e : Expr} {t : TT} {σ : St} {H : Hp} {Q : Bool → Hp → Prop} (h : PT X e t) (q : t σ H Q) : WT X e σ H Q := Hold.mk fun pins s I => h.run pins s σ H Q I q
theorem ww_of {X : Cx} {e : Expr} {t : TT} {σ : St} {H : Hp} {Q : Bool → Hp → Prop} (h : PW X e t) (q : t σ H Q) : WW X e σ H Q := Hold.mk fun w pins s I => h.run w pins s σ H Q I q
theorem wa_of {X : Cx} {es : List Expr} {t : TA} {σ : St} {H : Hp} {Q : List V → Hp → Prop} (h : PA X es t) (q : t σ H Q) : WA X es σ H Q := Hold.mk fun pos pins s I => h.run pos pins s σ H Q I q
theorem ws_of {X : Cx} {ss : List Stmt} {t : TS} {D : Ends} {σ : St} {H : Hp} (h : PSs X ss t) (q : t D σ H) : WSs X ss D σ H := Hold.mk fun pins s I => h.run pins s σ H D I q
theorem WSs.imp {X : Cx} {ss : List Stmt} {D D' : Ends} {σ : St} {H : Hp} (h : WSs X ss D σ H) (h1 : ∀ σ H, D.nx σ H → D'.nx σ H) (h2 : ∀ v H, D.rt v H → D'.rt v H) (h3 : ∀ σ H, D.bk σ H → D'.bk σ H) (h4 : ∀ σ H, D.ct σ H → D'.ct σ H) : WSs X ss D' σ H := Hold.mk fun pins s I => thn (Hold.run h pins s I) fun f s1 q => by
  cases f with
  | next => obtain ⟨a, b, c, d⟩ := q; exact ⟨a, b, c, h1 _ _ d⟩
  | brk => obtain ⟨a, b, c, d⟩ := q; exact ⟨a, b, c, h3 _ _ d⟩
  | cont => obtain ⟨a, b, c, d⟩ := q; exact ⟨a, b, c, h4 _ _ d⟩
  | ret u => obtain ⟨a, b, c, d, e, f⟩ := q; exact ⟨a, b, c, d, e, h2 _ _ f⟩

section
variable {α β γ δ : Type} [Enc α] [Enc β] [Enc γ] [Enc δ]
def Ev (X : Cx) (e : Expr) (σ : St) (s : S) (x : α) : Prop := ∀ s1, Ex s s1 → ∀ Q : VK, (∀ v s2, Ex s1 s2 → rep X.K s2.F v x → Q v s2.H) → WE X e σ s1.H Q
def RepR (K : PySem.W.Frag) (s : S) (v : V) (xs : List α) : Prop := ∃ a vs, v = .ref a ∧ SqL K s.H a vs ∧ Reps K s.F vs xs
def EvR (X : Cx) (e : Expr) (σ : St) (s : S) (xs : List α) : Prop := ∀ s1, Ex s s1 → ∀ Q : VK, (∀ v s2, Ex s1 s2 → RepR X.K s2 v xs → Q v s2.H) → WE X e σ s1.H Q
def Own (K : PySem.W.Frag) (s : S) (p : Addr) (xs : List α) : Prop := s.F p = none ∧ ∃ vs, s.H p = some (.lst vs) ∧ Reps K s.F vs xs
def EvN (X : Cx) (e : Expr) (σ : St) (s : S) (xs : List α) : Prop := ∀ s1, Ex s s1 → ∀ Q : VK, (∀ p s2, Ex s1 s2 → s1.H p = none → Own X.K s2 p xs → Q (.ref p) s2.H) → WE X e σ s1.H Q
def EvT (X : Cx) (e : Expr) (σ : St) (s : S) (b : Bool) : Prop := ∀ s1, Ex s s1 → ∀ Q : Bool → Hp → Prop, (∀ s2, Ex s1 s2 → Q b s2.H) → WT X e σ s1.H Q
def EvW (X : Cx) (e : Expr) (σ : St) (s : S) (b : Bool) : Prop := ∀ s1, Ex s s1 → ∀ Q : Bool → Hp → Prop, (∀ s2, Ex s1 s2 → Q b s2.H) → WW X e σ s1.H Q
structure EvB (X : Cx) (e : Expr) (σ : St) (s : S) (b : Bool) : Prop where
  v : Ev X e σ s b
  t : EvT X e σ s b
structure EvC (X : Cx) (e : Expr) (σ : St) (s : S) (b : Bool) : Prop where
  v : Ev X e σ s b
  w : EvW X e σ s b
end
class EncA (A : Type) where
  repA : PySem.W.Frag → Hp → List V → A → Prop
  monoA : ∀ {K : PySem.W.Frag} {F F' : Hp} {vs : List V} {x : A}, Fle F F' → repA K F vs x → repA K F' vs x
open EncA (repA)
instance : EncA Unit := ⟨fun _ _ vs _ => vs = [], fun _ h => h⟩
instance {α A : Type} [Enc α] [EncA A] : EncA (α × A) := ⟨fun K F vs x => ∃ v r, vs = v :: r ∧ rep K F v x.1 ∧ repA K F r x.2, fun e h => by
  obtain ⟨v, r, rfl, h1, h2⟩ := h
  exact ⟨v, r, rfl, Enc.mono e h1, EncA.monoA e h2⟩⟩
def EvA {A : Type} [EncA A] (X : Cx) (es : List Expr) (σ : St) (s : S) (a : A) : Prop := ∀ s1, Ex s s1 → ∀ Q : List V → Hp → Prop, (∀ vs s2, Ex s1 s2 → repA X.K s2.F vs a → Q vs s2.H) → WA X es σ s1.H Q

section
variable {α β γ δ : Type} [Enc α] [Enc β] [Enc γ] [Enc δ] {X : Cx} {σ : St} {s t : S} {e a b c : Expr} {es : List Expr} {pos p0 p1 p2 p3 : Pos}
theorem Own.frz {K : PySem.W.Frag} {p : Addr} {xs : List α} (h : Own K s p xs) : ∃ s' : S, s'.H = s.H ∧ Fle s.F s'.F ∧ (∀ q, q ≠ p → s'.F q = s.F q) ∧ rep K s'.F (.ref p) xs := by
  obtain ⟨hn, vs, hp, r⟩ := h
  have f : Fle s.F (upd s.F p (.lst vs)) := fun a o q => by rw [upd_ne (ne_of_none q hn)]; exact q
  refine ⟨⟨upd s.F p (.lst vs), s.H, fun a o q => ?_⟩, rfl, f, fun q hq => upd_ne hq, p, vs, rfl, .inl (.inl upd_same), r.mono f⟩
  unfold upd at q
  split at q
  · rename_i e; cases q; rw [e]; exact hp
  · exact s.sub a o q
theorem Own.ex {K : PySem.W.Frag} {p : Addr} {xs : List α} (h : Own K s p xs) (e : Ex s t) : Own K t p xs := by
  obtain ⟨hn, vs, hp, r⟩ := h
  exact ⟨e.n _ _ hp hn, vs, e.h _ _ hp, r.mono e.f⟩
theorem Own.mx {K : PySem.W.Frag} {p : Addr} {P : Addr → Prop} {xs : List α} (h : Own K s p xs) (e : Mx P s t) (n : ¬ P p) : Own K t p xs := by
  obtain ⟨hn, vs, hp, r⟩ := h
  exact ⟨e.n _ _ hp hn, vs, e.h _ _ hp n, r.mono e.f⟩
theorem Own.ne {K : PySem.W.Frag} {p q : Addr} {xs : List α} (h : Own K s p xs) (n : s.H q = none) : p ≠ q := by
  obtain ⟨_, vs, hp, _⟩ := h
  exact ne_of_none hp n
theorem Own.r {K : PySem.W.Frag} {p : Addr} {xs : List α} (h : Own K s p xs) : RepR K s (.ref p) xs := by
  obtain ⟨hn, vs, hp, r⟩ := h
  exact ⟨p, vs, rfl, .inl (.inl hp), r⟩
theorem RepR.ex {K : PySem.W.Frag} {v : V} {xs : List α} (h : RepR K s v xs) (e : Ex s t) : RepR K t v xs := by
  obtain ⟨p, vs, rfl, h1, h2⟩ := h
  exact ⟨p, vs, rfl, sql_mono e.h h1, h2.mono e.f⟩
theorem rep_r {K : PySem.W.Frag} {v : V} {xs : List α} (h : rep K s.F v xs) : RepR K s v xs := by
  obtain ⟨p, vs, rfl, h1, h2⟩ := h
  exact ⟨p, vs, rfl, sql_mono s.sub h1, h2⟩
theorem Ev.mono {x : α} (h : Ev X e σ s x) (k : Ex s t) : Ev X e σ t x := fun s1 k1 Q q => h s1 (k.trans k1) Q q
theorem EvT.mono {x : Bool} (h : EvT X e σ s x) (k : Ex s t) : EvT X e σ t x := fun s1 k1 Q q => h s1 (k.trans k1) Q q
theorem Ev.r {xs : List α} (h : Ev X e σ s xs) : EvR X e σ s xs := fun s1 k Q q => h s1 k Q fun v s2 k2 r => q v s2 k2 (rep_r r)
theorem EvN.r {xs : List α} (h : EvN X e σ s xs) : EvR X e σ s xs := fun s1 k Q q => h s1 k Q fun p s2 k2 _ o => q (.ref p) s2 k2 o.r
theorem frz_ex {K : PySem.W.Frag} {p : Addr} {xs : List α} (k : Ex s t) (n : s.H p = none) (o : Own K t p xs) : ∃ t' : S, t'.H = t.H ∧ Ex s t' ∧ rep K t'.F (.ref p) xs := by
  obtain ⟨t', h1, h2, h3, h4⟩ := o.frz
  refine ⟨t', h1, ⟨k.f.trans h2, fun a u q => by rw [h1]; exact k.h a u q, fun a u q m => ?_⟩, h4⟩
  have : a ≠ p := ne_of_none q n
  rw [h3 a this]
  exact k.n a u q m
theorem EvN.ev {xs : List α} (h : EvN X e σ s xs) : Ev X e σ s xs := fun s1 k Q q => h s1 k Q fun p s2 k2 n o => by
  obtain ⟨t', h1, h2, h3⟩ := frz_ex k2 n o
  rw [← h1]
  exact q _ t' h2 h3
theorem Ev.cast {x y : α} (h : Ev X e σ s x) (k : x = y) : Ev X e σ s y := k ▸ h

theorem ev_var (i : Nat) {v : V} {x : α} {n : Str} (h : σ[i]? = some (some v)) (r : rep X.K s.F v x) (hN : X.N[i]? = some n := by rfl) (hv : Vis X.env.scope n := by first | exact Or.inl rfl | exact Or.inr (Or.inl rfl) | exact Or.inr (Or.inr rfl)) (hd : (n == ("__debug__" : Str)) = false := by decide)
    (hcd : (n == ("__classdict__" : Str)) = false := by decide) : Ev X (.Name n pos) σ s x := fun s1 k Q q => we_of (pe_var hN hv hd hcd) ⟨v, h, q v s1 (Ex.refl _) (Enc.mono k.f r)⟩
theorem ev_varR (i : Nat) {p : Addr} {xs : List α} {n : Str} (h : σ[i]? = some (some (.ref p))) (r : Own X.K s p xs) (hN : X.N[i]? = some n := by rfl) (hv : Vis X.env.scope n := by first | exact Or.inl rfl | exact Or.inr (Or.inl rfl) | exact Or.inr (Or.inr rfl)) (hd : (n == ("__debug__" : Str)) = false := by decide)
    (hcd : (n == ("__classdict__" : Str)) = false := by decide) : EvR X (.Name n pos) σ s xs := fun s1 k Q q => we_of (pe_var hN hv hd hcd) ⟨_, h, q _ s1 (Ex.refl _) (r.ex k).r⟩
theorem ev_int {i : Int} {j} : Ev X (.Constant (.int i) j pos) σ s i := fun s1 k Q q => we_of pe_int (q _ s1 (Ex.refl _) rfl)
theorem ev_bl {i : Bool} {j} : Ev X (.Constant (.bool i) j pos) σ s i := fun s1 k Q q => we_of pe_bl (q _ s1 (Ex.refl _) rfl)
theorem ev_str {i : Str} {j} : Ev X (.Constant (.str i) j pos) σ s i := fun s1 k Q q => we_of pe_str (q _ s1 (Ex.refl _) rfl)
theorem ev_non {j} : Ev X (.Constant .none j pos) σ s () := fun s1 k Q q => we_of pe_non (q _ s1 (Ex.refl _) rfl)
theorem ev_nonO {j} : Ev X (.Constant .none j pos) σ s (none : Option α) := fun s1 k Q q => we_of pe_non (q _ s1 (Ex.refl _) rfl)
theorem ev_some {x : α} (h : Ev X e σ s x) : Ev X e σ s (some x) := h
theorem ev_glob {n : Str} {x : α} (h : ∃ v u, X.mg n = some u ∧ RelV v u ∧ ∀ F, rep X.K F v x) (hg : Gl X n := by rfl) (hd : (n == ("__debug__" : Str)) = false := by decide) : Ev X (.Name n pos) σ s x := fun s1 k Q q => by
  obtain ⟨v, u, h1, h2, h3⟩ := h
  exact we_of (pe_glob hg h1 h2 hd) (q v s1 (Ex.refl _) (h3 _))

theorem ev_op {op : Operator} {r : R2} {x : α} {y : β} {z : γ} (ho : OpR X (binaryOp op) r) (ha : Ev X a σ s x) (hb : Ev X b σ s y)
    (hr : ∀ v u s2, rep X.K s2.F v x → rep X.K s2.F u y → ∀ Q : VK, (∀ v' s3, Ex s2 s3 → rep X.K s3.F v' z → Q v' s3.H) → r v u s2.H Q) : Ev X (.BinOp a op b pos) σ s z := fun s1 k Q q =>
  we_of (pe_op ho pe_we pe_we) (ha s1 k _ fun v s2 k2 r2 => hb s2 (k.trans k2) _ fun u s3 k3 r3 => hr v u s3 (Enc.mono k3.f r2) r3 Q fun w s4 k4 r4 => q w s4 ((k2.trans k3).trans k4) r4)
theorem ev_I0 {op : Operator} {g : Int → Int → V} {x y : Int} {z : γ} (ho : OpR X (binaryOp op) (rI0 g)) (ha : Ev X a σ s x) (hb : Ev X b σ s y) (hz : ∀ K F, rep K F (g x y) z) : Ev X (.BinOp a op b pos) σ s z :=
  ev_op ho ha hb fun v u s2 hv hu Q q => ⟨x, y, hv, hu, q _ s2 (Ex.refl _) (hz _ _)⟩
theorem ev_I {op : Operator} {C : Int → Int → Prop} {g : Int → Int → V} {x y : Int} {z : γ} (ho : OpR X (binaryOp op) (rI C g)) (ha : Ev X a σ s x) (hb : Ev X b σ s y) (hc : C x y) (hz : ∀ K F, rep K F (g x y) z) : Ev X (.BinOp a op b pos) σ s z :=
  ev_op ho ha hb fun v u s2 hv hu Q q => ⟨x, y, hv, hu, hc, q _ s2 (Ex.refl _) (hz _ _)⟩
theorem ev_add {x y : Int} (ha : Ev X a σ s x) (hb : Ev X b σ s y) : Ev X (.BinOp a .Add b pos) σ s (x + y) := ev_I0 op_add ha hb fun _ _ => rfl
theorem ev_sub {x y : Int} (ha : Ev X a σ s x) (hb : Ev X b σ s y) : Ev X (.BinOp a .Sub b pos) σ s (x - y) := ev_I0 op_sub ha hb fun _ _ => rfl
def MulOk (x y : Int) : Prop := CMul x y ∨ CMulW x y
theorem ev_mul {x y : Int} (ha : Ev X a σ s x) (hb : Ev X b σ s y) (hc : MulOk x y) : Ev X (.BinOp a .Mult b pos) σ s (x * y) := by
  rcases hc with hc | hc
  · exact ev_I op_mul ha hb hc fun _ _ => rfl
  · exact ev_I op_mulW ha hb hc fun _ _ => rfl
theorem ev_mod {x y : Int} (ha : Ev X a σ s x) (hb : Ev X b σ s y) (hc : 0 < y) : Ev X (.BinOp a .Mod b pos) σ s (x % y) := ev_I op_mod ha hb hc fun _ _ => rfl
def DivOk (y : Int) : Prop := 0 < y ∧ y.natAbs.log2 < 9000
theorem ev_div {x y : Int} (ha : Ev X a σ s x) (hb : Ev X b σ s y) (hc : DivOk y) : Ev X (.BinOp a .FloorDiv b pos) σ s (x / y) := ev_I op_fdivW ha hb hc fun _ _ => rfl
theorem ev_pow {x y : Int} (ha : Ev X a σ s x) (hb : Ev X b σ s y) (hc : CPow x y) : Ev X (.BinOp a .Pow b pos) σ s (x ^ y.toNat) := ev_I op_pow ha hb hc fun _ _ => rfl
theorem ev_adds {x y : Str} (ha : Ev X a σ s x) (hb : Ev X b σ s y) (hc : x.length + y.length ≤ sizeLine) : Ev X (.BinOp a .Add b pos) σ s (x ++ y) :=
  ev_op op_add_str ha hb fun v u s2 hv hu Q q => ⟨x, y, hv, hu, hc, q _ s2 (Ex.refl _) rfl⟩
theorem ev_neg {x : Int} (ha : Ev X a σ s x) : Ev X (.UnaryOp .USub a pos) σ s (-x) := fun s1 k Q q =>
  we_of (pe_un un_neg pe_we) (ha s1 k _ fun v s2 k2 r2 => ⟨x, r2, q _ s2 k2 rfl⟩)

theorem atI_rep {K : PySem.W.Frag} {F : Hp} {vs : List V} {xs : List α} {i : Int} {x : α} (r : Reps K F vs xs) (h : atI xs i = some x) : ∃ v, atI vs i = some v ∧ rep K F v x := by
  unfold atI at h ⊢
  rw [r.len]
  cases hj : ixN xs.length i with
  | none => rw [hj] at h; cases h
  | some j =>
    rw [hj] at h
    obtain ⟨v, h1, h2⟩ := r.get (i := j) h
    exact ⟨v, h1, h2⟩
theorem ev_ix {xs : List α} {i : Int} {x : α} (ha : EvR X a σ s xs) (hb : Ev X b σ s i) (h : atI xs i = some x) (hp : PlainIx b := by intro _ _; rfl) : Ev X (.Subscript a b pos) σ s x := fun s1 k Q q =>
  we_of (pe_ix ix_list pe_we pe_we hp) (ha s1 k _ fun v s2 k2 r2 => hb s2 (k.trans k2) _ fun u s3 k3 r3 => by
    obtain ⟨p, vs, rfl, h1, h2⟩ := r2.ex k3
    obtain ⟨w, h3, h4⟩ := atI_rep h2 h
    exact ⟨p, vs, i, w, rfl, r3, h1, h3, q w s3 (k2.trans k3) h4⟩)
theorem ev_ixT {xs : Tu α} {i : Int} {x : α} (ha : Ev X a σ s xs) (hb : Ev X b σ s i) (h : atI xs.l i = some x) (hp : PlainIx b := by intro _ _; rfl) : Ev X (.Subscript a b pos) σ s x := fun s1 k Q q =>
  we_of (pe_ix ix_tup pe_we pe_we hp) (ha s1 k _ fun v s2 k2 r2 => hb s2 (k.trans k2) _ fun u s3 k3 r3 => by
    obtain ⟨p, vs, rfl, h1, h2⟩ := Enc.mono (α := Tu α) k3.f r2
    obtain ⟨w, h3, h4⟩ := atI_rep h2 h
    exact ⟨p, vs, i, w, rfl, r3, sqt_mono s3.sub h1, h3, q w s3 (k2.trans k3) h4⟩)
theorem ev_ixP {x : β} {i : Int} {y : α} (ha : Ev X a σ s x) (hb : Ev X b σ s i) (h : ∀ {F : Hp} {v : V}, rep X.K F v x → ∃ p vs w, v = .ref p ∧ SqT X.K F p vs ∧ atI vs i = some w ∧ rep X.K F w y) (hp : PlainIx b := by intro _ _; rfl) : Ev X (.Subscript a b pos) σ s y := fun s1 k Q q =>
  we_of (pe_ix ix_tup pe_we pe_we hp) (ha s1 k _ fun v s2 k2 r2 => hb s2 (k.trans k2) _ fun u s3 k3 r3 => by
    obtain ⟨p, vs, w, rfl, h1, h2, h3⟩ := h (Enc.mono k3.f r2)
    exact ⟨p, vs, i, w, rfl, r3, sqt_mono s3.sub h1, h2, q w s3 (k2.trans k3) h3⟩)
theorem p2_0 {K : PySem.W.Frag} {x : α × β} {F : Hp} {v : V} (h : rep K F v x) : ∃ p vs w, v = .ref p ∧ SqT K F p vs ∧ atI vs 0 = some w ∧ rep K F w x.1 := by
  obtain ⟨p, v1, v2, rfl, h0, h1, h2⟩ := h
  exact ⟨p, _, v1, rfl, h0, rfl, h1⟩
theorem p2_1 {K : PySem.W.Frag} {x : α × β} {F : Hp} {v : V} (h : rep K F v x) : ∃ p vs w, v = .ref p ∧ SqT K F p vs ∧ atI vs 1 = some w ∧ rep K F w x.2 := by
  obtain ⟨p, v1, v2, rfl, h0, h1, h2⟩ := h
  exact ⟨p, _, v2, rfl, h0, rfl, h2⟩
theorem p3_0 {K : PySem.W.Frag} {x : T3 α β γ} {F : Hp} {v : V} (h : rep K F v x) : ∃ p vs w, v = .ref p ∧ SqT K F p vs ∧ atI vs 0 = some w ∧ rep K F w x.a := by
  obtain ⟨p, v1, v2, v3, rfl, h0, h1, h2, h3⟩ := h
  exact ⟨p, _, v1, rfl, h0, rfl, h1⟩
theorem p3_1 {K : PySem.W.Frag} {x : T3 α β γ} {F : Hp} {v : V} (h : rep K F v x) : ∃ p vs w, v = .ref p ∧ SqT K F p vs ∧ atI vs 1 = some w ∧ rep K F w x.b := by
  obtain ⟨p, v1, v2, v3, rfl, h0, h1, h2, h3⟩ := h
  exact ⟨p, _, v2, rfl, h0, rfl, h2⟩
theorem p3_2 {K : PySem.W.Frag} {x : T3 α β γ} {F : Hp} {v : V} (h : rep K F v x) : ∃ p vs w, v = .ref p ∧ SqT K F p vs ∧ atI vs 2 = some w ∧ rep K F w x.c := by
  obtain ⟨p, v1, v2, v3, rfl, h0, h1, h2, h3⟩ := h
  exact ⟨p, _, v3, rfl, h0, rfl, h3⟩
def sgn (x : Str) (i : Int) : Option Str := if x.length ≤ sizeLine then (atI x.cps.toList i).map fun c => ⟨#[c]⟩ else none
theorem ev_ixS {x : Str} {i : Int} {y : Str} (ha : Ev X a σ s x) (hb : Ev X b σ s i) (h : sgn x i = some y) (hp : PlainIx b := by intro _ _; rfl) : Ev X (.Subscript a b pos) σ s y := fun s1 k Q q =>
  we_of (pe_ix ix_str pe_we pe_we hp) (ha s1 k _ fun v s2 k2 r2 => hb s2 (k.trans k2) _ fun u s3 k3 r3 => by
    unfold sgn at h
    split at h
    · rename_i hz
      obtain ⟨c, h1, h2⟩ := Option.map_eq_some_iff.mp h
      exact ⟨x, i, c, r2, r3, hz, h1, q _ s3 (k2.trans k3) (by rw [h2]; rfl)⟩
    · cases h)
end
end Dy

namespace Dy
open PySem PySem.Spec L2
open PyProof.Rows hiding St
open Enc (rep)
open Flat (toV)
open EncA (repA)

section
variable {α β γ δ : Type} [Enc α] [Enc β] [Enc γ] [Enc δ] {X : Cx} {σ : St} {s t : S} {e a b c : Expr} {es : List Expr} {pos p0 p1 p2 p3 : Pos}

theorem et_v {x : Bool} (h : Ev X e σ s x) (he : ∀ whole, isTrue e X.env whole = (do let v ← whole; standAt e.pos; holding [v] (truthy v)) := by intro _; rfl) : EvT X e σ s x := fun s1 k Q q =>
  wt_of (pt_val pe_we he) (h s1 k _ fun v s2 k2 r => ⟨x, r, q s2 k2⟩)
theorem eb_v {x : Bool} (h : Ev X e σ s x) (he : ∀ whole, isTrue e X.env whole = (do let v ← whole; standAt e.pos; holding [v] (truthy v)) := by intro _; rfl) : EvB X e σ s x := ⟨h, et_v h he⟩
theorem EvW.tt {x : Bool} (h : EvW X e σ s x) : EvT X e σ s x := fun s1 k Q q => wt_of pw_ww.pt (h s1 k Q q)
theorem EvC.bb {x : Bool} (h : EvC X e σ s x) : EvB X e σ s x := ⟨h.v, h.w.tt⟩
theorem EvB.cast {x y : Bool} (h : EvB X e σ s x) (k : x = y) : EvB X e σ s y := k ▸ h
theorem ec_and1 {x : Bool} (h : EvB X a σ s x) : EvC X (.BoolOp .And [a] pos) σ s x :=
  ⟨fun s1 k Q q => we_of (pe_one pe_we) (h.v s1 k Q q), fun s1 k Q q => ww_of (pw_and1 pt_wt) (h.t s1 k Q q)⟩
theorem ec_or1 {x : Bool} (h : EvB X a σ s x) : EvC X (.BoolOp .Or [a] pos) σ s x :=
  ⟨fun s1 k Q q => we_of (pe_one pe_we) (h.v s1 k Q q), fun s1 k Q q => ww_of (pw_or1 pt_wt) (h.t s1 k Q q)⟩
theorem ec_and {x y : Bool} (h : EvB X a σ s x) (h2 : x = true → EvC X (.BoolOp .And (b :: es) pos) σ s y) : EvC X (.BoolOp .And (a :: b :: es) pos) σ s (x && y) :=
  ⟨fun s1 k Q q => we_of (pe_and pe_we pe_we) (h.v s1 k _ fun v s2 k2 r => ⟨x, r, by
    cases x with
    | true => exact iteT ((h2 rfl).v s2 (k.trans k2) Q fun v s3 k3 r3 => q v s3 (k2.trans k3) r3)
    | false => exact iteF (q _ s2 k2 rfl)⟩),
   fun s1 k Q q => ww_of (pw_and pt_wt pw_ww) (h.t s1 k _ fun s2 k2 => by
    cases x with
    | true => exact iteT ((h2 rfl).w s2 (k.trans k2) Q fun s3 k3 => q s3 (k2.trans k3))
    | false => exact iteF (q s2 k2))⟩
theorem ec_or {x y : Bool} (h : EvB X a σ s x) (h2 : x = false → EvC X (.BoolOp .Or (b :: es) pos) σ s y) : EvC X (.BoolOp .Or (a :: b :: es) pos) σ s (x || y) :=
  ⟨fun s1 k Q q => we_of (pe_or pe_we pe_we) (h.v s1 k _ fun v s2 k2 r => ⟨x, r, by
    cases x with
    | true => exact iteT (q _ s2 k2 rfl)
    | false => exact iteF ((h2 rfl).v s2 (k.trans k2) Q fun v s3 k3 r3 => q v s3 (k2.trans k3) r3)⟩),
   fun s1 k Q q => ww_of (pw_or pt_wt pw_ww) (h.t s1 k _ fun s2 k2 => by
    cases x with
    | true => exact iteT (q s2 k2)
    | false => exact iteF ((h2 rfl).w s2 (k.trans k2) Q fun s3 k3 => q s3 (k2.trans k3)))⟩
theorem eb_not {x : Bool} (h : EvB X a σ s x) : EvB X (.UnaryOp .Not a pos) σ s (!x) :=
  ⟨fun s1 k Q q => we_of (pe_not pe_we) (h.v s1 k _ fun v s2 k2 r => ⟨x, r, q _ s2 k2 rfl⟩), fun s1 k Q q => wt_of (pt_not pt_wt) (h.t s1 k _ fun s2 k2 => q s2 k2)⟩
theorem ev_ifE {x : Bool} {y z : α} (h : EvT X c σ s x) (h1 : x = true → Ev X a σ s y) (h2 : x = false → Ev X b σ s z) : Ev X (.IfExp c a b pos) σ s (if x = true then y else z) := fun s1 k Q q =>
  we_of (pe_ifExp pt_wt pe_we pe_we) (h s1 k _ fun s2 k2 => by
    cases x with
    | true => exact iteT (h1 rfl s2 (k.trans k2) Q fun v s3 k3 r => q v s3 (k2.trans k3) r)
    | false => exact iteF (h2 rfl s2 (k.trans k2) Q fun v s3 k3 r => q v s3 (k2.trans k3) r))

theorem eb_cmp {op : CmpOp} {r : R2} {x : α} {y : β} {z : Bool} (ho : OpR X (compareOp op) r) (ha : Ev X a σ s x) (hb : Ev X b σ s y)
    (hr : ∀ (v u : V) (s2 : S), rep X.K s2.F v x → rep X.K s2.F u y → ∀ Q : VK, Q (.bl z) s2.H → r v u s2.H Q) (hm : behindInMarks op b = false) : EvB X (.Compare a [op] [b] pos) σ s z :=
  ⟨fun s1 k Q q => we_of (pe_cmpR ho pe_we pe_we hm) (ha s1 k _ fun v s2 k2 r2 => hb s2 (k.trans k2) _ fun u s3 k3 r3 => hr v u s3 (Enc.mono k3.f r2) r3 Q (q _ s3 (k2.trans k3) rfl)),
   fun s1 k Q q => wt_of (pt_cmpR ho pe_we pe_we hm) (ha s1 k _ fun v s2 k2 r2 => hb s2 (k.trans k2) _ fun u s3 k3 r3 => hr v u s3 (Enc.mono k3.f r2) r3 _ ⟨z, rfl, q s3 (k2.trans k3)⟩)⟩
theorem eb_cmpR {op : CmpOp} {r : R2} {x : α} {ys : List β} {z : Bool} (ho : OpR X (compareOp op) r) (ha : Ev X a σ s x) (hb : EvR X b σ s ys)
    (hr : ∀ (v u : V) (s2 : S), rep X.K s2.F v x → RepR X.K s2 u ys → ∀ Q : VK, Q (.bl z) s2.H → r v u s2.H Q) (hm : behindInMarks op b = false) : EvB X (.Compare a [op] [b] pos) σ s z :=
  ⟨fun s1 k Q q => we_of (pe_cmpR ho pe_we pe_we hm) (ha s1 k _ fun v s2 k2 r2 => hb s2 (k.trans k2) _ fun u s3 k3 r3 => hr v u s3 (Enc.mono k3.f r2) r3 Q (q _ s3 (k2.trans k3) rfl)),
   fun s1 k Q q => wt_of (pt_cmpR ho pe_we pe_we hm) (ha s1 k _ fun v s2 k2 r2 => hb s2 (k.trans k2) _ fun u s3 k3 r3 => hr v u s3 (Enc.mono k3.f r2) r3 _ ⟨z, rfl, q s3 (k2.trans k3)⟩)⟩
theorem eb_cmpRR {op : CmpOp} {r : R2} {xs : List α} {ys : List β} {z : Bool} (ho : OpR X (compareOp op) r) (ha : EvR X a σ s xs) (hb : EvR X b σ s ys)
    (hr : ∀ (v u : V) (s2 : S), RepR X.K s2 v xs → RepR X.K s2 u ys → ∀ Q : VK, Q (.bl z) s2.H → r v u s2.H Q) (hm : behindInMarks op b = false) : EvB X (.Compare a [op] [b] pos) σ s z :=
  ⟨fun s1 k Q q => we_of (pe_cmpR ho pe_we pe_we hm) (ha s1 k _ fun v s2 k2 r2 => hb s2 (k.trans k2) _ fun u s3 k3 r3 => hr v u s3 (r2.ex k3) r3 Q (q _ s3 (k2.trans k3) rfl)),
   fun s1 k Q q => wt_of (pt_cmpR ho pe_we pe_we hm) (ha s1 k _ fun v s2 k2 r2 => hb s2 (k.trans k2) _ fun u s3 k3 r3 => hr v u s3 (r2.ex k3) r3 _ ⟨z, rfl, q s3 (k2.trans k3)⟩)⟩
theorem eb_I0 {op : CmpOp} {g : Int → Int → V} {x y : Int} {z : Bool} (ho : OpR X (compareOp op) (rI0 g)) (hg : g x y = .bl z) (hm : behindInMarks op b = false) (ha : Ev X a σ s x) (hb : Ev X b σ s y) : EvB X (.Compare a [op] [b] pos) σ s z :=
  eb_cmp ho ha hb (fun v u s2 hv hu Q q => ⟨x, y, hv, hu, by rw [hg]; exact q⟩) hm
theorem eb_lt {x y : Int} (ha : Ev X a σ s x) (hb : Ev X b σ s y) : EvB X (.Compare a [.Lt] [b] pos) σ s (decide (x < y)) := eb_I0 op_lt rfl (nomark _) ha hb
theorem eb_le {x y : Int} (ha : Ev X a σ s x) (hb : Ev X b σ s y) : EvB X (.Compare a [.LtE] [b] pos) σ s (decide (x ≤ y)) := eb_I0 op_le rfl (nomark _) ha hb
theorem eb_gt {x y : Int} (ha : Ev X a σ s x) (hb : Ev X b σ s y) : EvB X (.Compare a [.Gt] [b] pos) σ s (decide (y < x)) := eb_I0 op_gt rfl (nomark _) ha hb
theorem eb_ge {x y : Int} (ha : Ev X a σ s x) (hb : Ev X b σ s y) : EvB X (.Compare a [.GtE] [b] pos) σ s (decide (y ≤ x)) := eb_I0 op_ge rfl (nomark _) ha hb
class Eqs (α : Type) extends Flat α where
  sc : ∀ x y : α, scal (toV x) (toV y) = true
  ij : ∀ x y : α, toV x = toV y ↔ x = y
instance : Eqs Int := { sc := fun _ _ => rfl, ij := fun x y => by show V.int x = V.int y ↔ _; simp }
instance : Eqs Bool := { sc := fun _ _ => rfl, ij := fun x y => by show V.bl x = V.bl y ↔ _; simp }
instance : Eqs Str := { sc := fun _ _ => rfl, ij := fun x y => by show V.str x = V.str y ↔ _; simp }
theorem eb_eq {ε : Type} [Eqs ε] [DecidableEq ε] {x y : ε} (ha : Ev X a σ s x) (hb : Ev X b σ s y) : EvB X (.Compare a [.Eq] [b] pos) σ s (decide (x = y)) :=
  eb_cmp op_eq ha hb (fun v u s2 hv hu Q q => by
    rw [Flat.iff.mp hv, Flat.iff.mp hu]
    refine ⟨Eqs.sc x y, ?_⟩
    rw [show decide (toV x = toV y) = decide (x = y) from decide_eq_decide.mpr (Eqs.ij x y)]
    exact q) (nomark _)
theorem eb_ne {ε : Type} [Eqs ε] [DecidableEq ε] {x y : ε} (ha : Ev X a σ s x) (hb : Ev X b σ s y) : EvB X (.Compare a [.NotEq] [b] pos) σ s (!decide (x = y)) :=
  eb_cmp op_ne ha hb (fun v u s2 hv hu Q q => by
    rw [Flat.iff.mp hv, Flat.iff.mp hu]
    refine ⟨Eqs.sc x y, ?_⟩
    rw [show decide (toV x = toV y) = decide (x = y) from decide_eq_decide.mpr (Eqs.ij x y)]
    exact q) (nomark _)
theorem eb_isN {o : Type} [Opn o] {x : Option o} {j} (ha : Ev X a σ s x) : EvB X (.Compare a [.Is] [.Constant .none j p1] pos) σ s x.isNone :=
  eb_cmp op_isN ha ev_non (fun v u s2 hv hu Q q => by
    refine ⟨hu, ?_⟩
    have : decide (v = V.non) = x.isNone := by
      cases x with
      | none => cases (show v = V.non from hv); rfl
      | some y => exact decide_eq_false fun z => Opn.notNon (z ▸ (show rep X.K s2.F v y from hv))
    rw [this]; exact q) (nomark _)
theorem eb_notN {o : Type} [Opn o] {x : Option o} {j} (ha : Ev X a σ s x) : EvB X (.Compare a [.IsNot] [.Constant .none j p1] pos) σ s x.isSome :=
  eb_cmp op_notN ha ev_non (fun v u s2 hv hu Q q => by
    refine ⟨hu, ?_⟩
    have : (!decide (v = V.non)) = x.isSome := by
      cases x with
      | none => cases (show v = V.non from hv); rfl
      | some y => rw [decide_eq_false fun z => Opn.notNon (z ▸ (show rep X.K s2.F v y from hv))]; rfl
    rw [this]; exact q) (nomark _)
theorem eb_in {ε : Type} [Eqs ε] [DecidableEq ε] {x : ε} {xs : List ε} (ha : Ev X a σ s x) (hb : EvR X b σ s xs) (hm : behindInMarks .In b = false := by rfl) : EvB X (.Compare a [.In] [b] pos) σ s (decide (x ∈ xs)) :=
  eb_cmpR op_in_seq ha hb (fun v u s2 hv hu Q q => by
    obtain ⟨p, vs, rfl, h1, h2⟩ := hu
    rw [Flat.iff.mp hv]
    obtain rfl := h2.flat
    refine ⟨p, _, rfl, .inl h1, Flat.flat x, flat_all xs, ?_⟩
    rw [inV_flat]; exact q) hm
theorem eb_notIn {ε : Type} [Eqs ε] [DecidableEq ε] {x : ε} {xs : List ε} (ha : Ev X a σ s x) (hb : EvR X b σ s xs) (hm : behindInMarks .NotIn b = false := by rfl) : EvB X (.Compare a [.NotIn] [b] pos) σ s (!decide (x ∈ xs)) :=
  eb_cmpR op_notIn_seq ha hb (fun v u s2 hv hu Q q => by
    obtain ⟨p, vs, rfl, h1, h2⟩ := hu
    rw [Flat.iff.mp hv]
    obtain rfl := h2.flat
    refine ⟨p, _, rfl, .inl h1, Flat.flat x, flat_all xs, ?_⟩
    rw [inV_flat]; exact q) hm
theorem eb_inT {ε : Type} [Eqs ε] [DecidableEq ε] {x : ε} {xs : Tu ε} (ha : Ev X a σ s x) (hb : Ev X b σ s xs) (hm : behindInMarks .In b = false := by rfl) : EvB X (.Compare a [.In] [b] pos) σ s (decide (x ∈ xs.l)) :=
  eb_cmp op_in_seq ha hb (fun v u s2 hv hu Q q => by
    obtain ⟨p, vs, rfl, h1, h2⟩ := hu
    rw [Flat.iff.mp hv]
    obtain rfl := h2.flat
    refine ⟨p, _, rfl, .inr (sqt_mono s2.sub h1), Flat.flat x, flat_all xs.l, ?_⟩
    rw [inV_flat]; exact q) hm
theorem eb_notInT {ε : Type} [Eqs ε] [DecidableEq ε] {x : ε} {xs : Tu ε} (ha : Ev X a σ s x) (hb : Ev X b σ s xs) (hm : behindInMarks .NotIn b = false := by rfl) : EvB X (.Compare a [.NotIn] [b] pos) σ s (!decide (x ∈ xs.l)) :=
  eb_cmp op_notIn_seq ha hb (fun v u s2 hv hu Q q => by
    obtain ⟨p, vs, rfl, h1, h2⟩ := hu
    rw [Flat.iff.mp hv]
    obtain rfl := h2.flat
    refine ⟨p, _, rfl, .inr (sqt_mono s2.sub h1), Flat.flat x, flat_all xs.l, ?_⟩
    rw [inV_flat]; exact q) hm
def inS (x y : Str) : Bool := !(Builtin.Str.occurrences y x 0 y.length 1).isEmpty
theorem eb_inS {x y : Str} (ha : Ev X a σ s x) (hb : Ev X b σ s y) (hm : behindInMarks .In b = false := by rfl) : EvB X (.Compare a [.In] [b] pos) σ s (inS x y) :=
  eb_cmp op_in_str ha hb (fun v u s2 hv hu Q q => ⟨x, y, hv, hu, q⟩) hm
theorem eb_notInS {x y : Str} (ha : Ev X a σ s x) (hb : Ev X b σ s y) (hm : behindInMarks .NotIn b = false := by rfl) : EvB X (.Compare a [.NotIn] [b] pos) σ s (!inS x y) :=
  eb_cmp op_notIn_str ha hb (fun v u s2 hv hu Q q => ⟨x, y, hv, hu, q⟩) hm
theorem eb_chain {op op' : CmpOp} {g g' : Int → Int → V} {x y z : Int} {k1 k2 : Bool} (ho : OpR X (compareOp op) (rI0 g)) (hg : g x y = .bl k1) (ho' : OpR X (compareOp op') (rI0 g')) (hg' : g' y z = .bl k2) (ha : Ev X a σ s x) (hb : Ev X b σ s y) (hc : Ev X c σ s z)
    (hm : lastMarks [op, op'] [b, c] = false := by with_unfolding_all rfl) : EvB X (.Compare a [op, op'] [b, c] pos) σ s (k1 && k2) :=
  ⟨fun s1 k Q q => we_of (pe_chain ho ho' pe_we pe_we pe_we hm) (ha s1 k _ fun v s2 j2 r2 => hb s2 (k.trans j2) _ fun u s3 j3 r3 => ⟨x, y, r2, r3, k1, hg, by
    cases k1 with
    | true => exact iteT (hc s3 ((k.trans j2).trans j3) _ fun w s4 j4 r4 => ⟨y, z, r3, r4, by rw [hg']; exact q _ s4 ((j2.trans j3).trans j4) rfl⟩)
    | false => exact iteF (q _ s3 (j2.trans j3) rfl)⟩),
   fun s1 k Q q => wt_of (pt_chain ho ho' pe_we pe_we pe_we hm) (ha s1 k _ fun v s2 j2 r2 => hb s2 (k.trans j2) _ fun u s3 j3 r3 => ⟨x, y, r2, r3, k1, hg, by
    cases k1 with
    | true => exact iteT (hc s3 ((k.trans j2).trans j3) _ fun w s4 j4 r4 => ⟨y, z, r3, r4, by rw [hg']; exact ⟨_, rfl, q s4 ((j2.trans j3).trans j4)⟩⟩)
    | false => exact iteF ⟨_, rfl, q s3 (j2.trans j3)⟩⟩)⟩

theorem ea_nil : EvA X [] σ s () := fun s1 k Q q => wa_of pa_nil (q [] s1 (Ex.refl _) rfl)
theorem ea_cons {A : Type} [EncA A] {x : α} {r : A} (h : Ev X e σ s x) (hr : EvA X es σ s r) (hs : starEach (e :: es) X.env = (false, eval e X.env) :: starEach es X.env := by exact star_cons rfl) : EvA X (e :: es) σ s (x, r) := fun s1 k Q q =>
  wa_of (pa_cons pe_we pa_wa hs) (h s1 k _ fun v s2 k2 r2 => hr s2 (k.trans k2) _ fun vs s3 k3 r3 => q _ s3 (k2.trans k3) ⟨v, vs, rfl, Enc.mono k3.f r2, r3⟩)
theorem ev_B1 {id : String} {n : Str} {r : List V → Hp → VK → Prop} {x : β} {y : α} (hc : CallR X (.builtin id) r) (hg : Gl X n) (hm : X.mg n = none) (hv : bootBuiltins n = some (.builtin id)) (ha : Ev X e σ s x)
    (hr : ∀ (v : V) (s2 : S), rep X.K s2.F v x → ∀ Q : VK, (∀ w s3, Ex s2 s3 → rep X.K s3.F w y → Q w s3.H) → r [v] s2.H Q) (hn : n ≠ "__name__" := by decide) (hdb : (n == ("__debug__" : Str)) = false := by decide)
    (he : starEach [e] X.env = (false, eval e X.env) :: starEach [] X.env := by rfl) (hpl : (backTo pos (starEach [] X.env)).any (·.1) = false := by rfl) : Ev X (.Call (.Name n p0) [e] [] pos) σ s y := fun s1 k Q q =>
  we_of (pe_callB hc hg hm hv (pa_cons pe_we pa_nil he) hn hdb he hpl) (ha s1 k _ fun v s2 k2 r2 => hr v s2 r2 Q fun w s3 k3 r3 => q w s3 (k2.trans k3) r3)
theorem ev_BR {id : String} {n : Str} {r : List V → Hp → VK → Prop} {xs : List β} {y : α} (hc : CallR X (.builtin id) r) (hg : Gl X n) (hm : X.mg n = none) (hv : bootBuiltins n = some (.builtin id)) (ha : EvR X e σ s xs)
    (hr : ∀ (v : V) (s2 : S), RepR X.K s2 v xs → ∀ Q : VK, (∀ w s3, Ex s2 s3 → rep X.K s3.F w y → Q w s3.H) → r [v] s2.H Q) (hn : n ≠ "__name__" := by decide) (hdb : (n == ("__debug__" : Str)) = false := by decide)
    (he : starEach [e] X.env = (false, eval e X.env) :: starEach [] X.env := by rfl) (hpl : (backTo pos (starEach [] X.env)).any (·.1) = false := by rfl) : Ev X (.Call (.Name n p0) [e] [] pos) σ s y := fun s1 k Q q =>
  we_of (pe_callB hc hg hm hv (pa_cons pe_we pa_nil he) hn hdb he hpl) (ha s1 k _ fun v s2 k2 r2 => hr v s2 r2 Q fun w s3 k3 r3 => q w s3 (k2.trans k3) r3)
theorem ev_len {xs : List β} (hm : X.mg "len" = none) (ha : EvR X e σ s xs) (hg : Gl X "len" := by rfl) (he : starEach [e] X.env = (false, eval e X.env) :: starEach [] X.env := by rfl) (hpl : (backTo pos (starEach [] X.env)).any (·.1) = false := by rfl) : Ev X (.Call (.Name "len" p0) [e] [] pos) σ s (xs.length : Int) :=
  ev_BR call_len_seq hg hm boot_len ha (fun v s2 r2 Q q => by
    obtain ⟨p, vs, rfl, h1, h2⟩ := r2
    exact ⟨p, vs, rfl, .inl h1, q _ s2 (Ex.refl _) (by rw [h2.len]; rfl)⟩) (he := he) (hpl := hpl)
theorem ev_lenT {xs : Tu β} (hm : X.mg "len" = none) (ha : Ev X e σ s xs) (hg : Gl X "len" := by rfl) (he : starEach [e] X.env = (false, eval e X.env) :: starEach [] X.env := by rfl) (hpl : (backTo pos (starEach [] X.env)).any (·.1) = false := by rfl) : Ev X (.Call (.Name "len" p0) [e] [] pos) σ s (xs.l.length : Int) :=
  ev_B1 call_len_seq hg hm boot_len ha (fun v s2 r2 Q q => by
    obtain ⟨p, vs, rfl, h1, h2⟩ := r2
    exact ⟨p, vs, rfl, .inr (sqt_mono s2.sub h1), q _ s2 (Ex.refl _) (by rw [h2.len]; rfl)⟩) (he := he) (hpl := hpl)
theorem ev_lenS {x : Str} (hm : X.mg "len" = none) (hz : x.length ≤ sizeLine) (ha : Ev X e σ s x) (hg : Gl X "len" := by rfl) (he : starEach [e] X.env = (false, eval e X.env) :: starEach [] X.env := by rfl) (hpl : (backTo pos (starEach [] X.env)).any (·.1) = false := by rfl) : Ev X (.Call (.Name "len" p0) [e] [] pos) σ s (x.length : Int) :=
  ev_B1 call_len_str hg hm boot_len ha (fun v s2 r2 Q q => ⟨x, by rw [show v = V.str x from r2], hz, q _ s2 (Ex.refl _) rfl⟩) (he := he) (hpl := hpl)
theorem ev_sum {xs : List Int} (hm : X.mg "sum" = none) (ha : EvR X e σ s xs) (hc : X.calm = true := by rfl) (hg : Gl X "sum" := by rfl) (he : starEach [e] X.env = (false, eval e X.env) :: starEach [] X.env := by rfl) (hpl : (backTo pos (starEach [] X.env)).any (·.1) = false := by rfl) : Ev X (.Call (.Name "sum" p0) [e] [] pos) σ s xs.sum :=
  ev_BR (cr_sum hc) hg hm (by decide +kernel) ha (fun v s2 r2 Q q => by
    obtain ⟨p, vs, rfl, h1, h2⟩ := r2
    rw [h2.flat] at h1
    exact ⟨p, xs, rfl, h1, q _ s2 (Ex.refl _) rfl⟩) (he := he) (hpl := hpl)
theorem ev_all {xs : List Bool} (hm : X.mg "all" = none) (ha : EvR X e σ s xs) (hc : X.calm = true := by rfl) (hg : Gl X "all" := by rfl) (he : starEach [e] X.env = (false, eval e X.env) :: starEach [] X.env := by rfl) (hpl : (backTo pos (starEach [] X.env)).any (·.1) = false := by rfl) : Ev X (.Call (.Name "all" p0) [e] [] pos) σ s (xs.all id) :=
  ev_BR (cr_all hc) hg hm (by decide +kernel) ha (fun v s2 r2 Q q => by
    obtain ⟨p, vs, rfl, h1, h2⟩ := r2
    rw [h2.flat] at h1
    exact ⟨p, xs, rfl, h1, q _ s2 (Ex.refl _) rfl⟩) (he := he) (hpl := hpl)
theorem ev_any {xs : List Bool} (hm : X.mg "any" = none) (ha : EvR X e σ s xs) (hc : X.calm = true := by rfl) (hg : Gl X "any" := by rfl) (he : starEach [e] X.env = (false, eval e X.env) :: starEach [] X.env := by rfl) (hpl : (backTo pos (starEach [] X.env)).any (·.1) = false := by rfl) : Ev X (.Call (.Name "any" p0) [e] [] pos) σ s (xs.any id) :=
  ev_BR (cr_any hc) hg hm (by decide +kernel) ha (fun v s2 r2 Q q => by
    obtain ⟨p, vs, rfl, h1, h2⟩ := r2
    rw [h2.flat] at h1
    exact ⟨p, xs, rfl, h1, q _ s2 (Ex.refl _) rfl⟩) (he := he) (hpl := hpl)
def minL : List Int → Option Int
  | [] => none
  | x :: xs => some (xs.foldl min x)
def maxL : List Int → Option Int
  | [] => none
  | x :: xs => some (xs.foldl max x)
theorem foldl_min (xs : List Int) : ∀ x : Int, (xs.foldl min x ∈ x :: xs) ∧ ∀ y ∈ x :: xs, xs.foldl min x ≤ y := by
  induction xs with
  | nil => intro x; exact ⟨by simp, fun y hy => by simp at hy; simp [hy]⟩
  | cons a r ih =>
    intro x
    obtain ⟨h1, h2⟩ := ih (min x a)
    refine ⟨?_, fun y hy => ?_⟩
    · rw [List.foldl_cons]
      rcases List.mem_cons.mp h1 with h | h
      · rw [h]
        by_cases hx : x ≤ a
        · rw [Int.min_eq_left hx]; exact List.mem_cons_self
        · rw [Int.min_eq_right (by omega)]; exact List.mem_cons_of_mem _ List.mem_cons_self
      · exact List.mem_cons_of_mem _ (List.mem_cons_of_mem _ h)
    · rw [List.foldl_cons]
      have h3 := h2 (min x a) List.mem_cons_self
      rcases List.mem_cons.mp hy with rfl | hy
      · exact Int.le_trans h3 (Int.min_le_left _ _)
      · rcases List.mem_cons.mp hy with rfl | hy
        · exact Int.le_trans h3 (Int.min_le_right _ _)
        · exact h2 y (List.mem_cons_of_mem _ hy)
theorem foldl_max (xs : List Int) : ∀ x : Int, (xs.foldl max x ∈ x :: xs) ∧ ∀ y ∈ x :: xs, y ≤ xs.foldl max x := by
  induction xs with
  | nil => intro x; exact ⟨by simp, fun y hy => by simp at hy; simp [hy]⟩
  | cons a r ih =>
    intro x
    obtain ⟨h1, h2⟩ := ih (max x a)
    refine ⟨?_, fun y hy => ?_⟩
    · rw [List.foldl_cons]
      rcases List.mem_cons.mp h1 with h | h
      · rw [h]
        by_cases hx : a ≤ x
        · rw [Int.max_eq_left hx]; exact List.mem_cons_self
        · rw [Int.max_eq_right (by omega)]; exact List.mem_cons_of_mem _ List.mem_cons_self
      · exact List.mem_cons_of_mem _ (List.mem_cons_of_mem _ h)
    · rw [List.foldl_cons]
      have h3 := h2 (max x a) List.mem_cons_self
      rcases List.mem_cons.mp hy with rfl | hy
      · exact Int.le_trans (Int.le_max_left _ _) h3
      · rcases List.mem_cons.mp hy with rfl | hy
        · exact Int.le_trans (Int.le_max_right _ _) h3
        · exact h2 y (List.mem_cons_of_mem _ hy)
theorem minL_of {xs : List Int} {m : Int} (h1 : m ∈ xs) (h2 : ∀ y ∈ xs, m ≤ y) : minL xs = some m := by
  cases xs with
  | nil => simp at h1
  | cons x r =>
    obtain ⟨h3, h4⟩ := foldl_min r x
    exact congrArg some (Int.le_antisymm (h4 m h1) (h2 _ h3))
theorem maxL_of {xs : List Int} {m : Int} (h1 : m ∈ xs) (h2 : ∀ y ∈ xs, y ≤ m) : maxL xs = some m := by
  cases xs with
  | nil => simp at h1
  | cons x r =>
    obtain ⟨h3, h4⟩ := foldl_max r x
    exact congrArg some (Int.le_antisymm (h2 _ h3) (h4 m h1))
theorem ev_min {xs : List Int} {m : Int} (hm : X.mg "min" = none) (ha : EvR X e σ s xs) (h : minL xs = some m) (hc : X.calm = true := by rfl) (hg : Gl X "min" := by rfl) (he : starEach [e] X.env = (false, eval e X.env) :: starEach [] X.env := by rfl) (hpl : (backTo pos (starEach [] X.env)).any (·.1) = false := by rfl) : Ev X (.Call (.Name "min" p0) [e] [] pos) σ s m :=
  ev_BR (cr_min hc) hg hm (by decide +kernel) ha (fun v s2 r2 Q q => by
    obtain ⟨p, vs, rfl, h1, h2⟩ := r2
    rw [h2.flat] at h1
    refine ⟨p, xs, rfl, h1, ?_, fun z hz1 hz2 => ?_⟩
    · cases xs with
      | nil => cases h
      | cons _ _ => exact Nat.succ_pos _
    · rw [minL_of hz1 hz2] at h
      cases h
      exact q _ s2 (Ex.refl _) rfl) (he := he) (hpl := hpl)
theorem ev_max {xs : List Int} {m : Int} (hm : X.mg "max" = none) (ha : EvR X e σ s xs) (h : maxL xs = some m) (hc : X.calm = true := by rfl) (hg : Gl X "max" := by rfl) (he : starEach [e] X.env = (false, eval e X.env) :: starEach [] X.env := by rfl) (hpl : (backTo pos (starEach [] X.env)).any (·.1) = false := by rfl) : Ev X (.Call (.Name "max" p0) [e] [] pos) σ s m :=
  ev_BR (cr_max hc) hg hm (by decide +kernel) ha (fun v s2 r2 Q q => by
    obtain ⟨p, vs, rfl, h1, h2⟩ := r2
    rw [h2.flat] at h1
    refine ⟨p, xs, rfl, h1, ?_, fun z hz1 hz2 => ?_⟩
    · cases xs with
      | nil => cases h
      | cons _ _ => exact Nat.succ_pos _
    · rw [maxL_of hz1 hz2] at h
      cases h
      exact q _ s2 (Ex.refl _) rfl) (he := he) (hpl := hpl)
theorem ev_min2 {x y : Int} (hm : X.mg "min" = none) (ha : Ev X a σ s x) (hb : Ev X b σ s y) (hc : X.calm = true := by rfl) (hg : Gl X "min" := by rfl) (he : starEach [a, b] X.env = (false, eval a X.env) :: starEach [b] X.env := by rfl) (he2 : starEach [b] X.env = (false, eval b X.env) :: starEach [] X.env := by rfl) (hpl : (backTo pos (starEach [b] X.env)).any (·.1) = false := by rfl) : Ev X (.Call (.Name "min" p0) [a, b] [] pos) σ s (min x y) := fun s1 k Q q =>
  we_of (pe_callB (call_min2 hc) hg hm (by decide +kernel) (pa_cons pe_we (pa_cons pe_we pa_nil he2) he) (he := he) (hpl := hpl)) (ha s1 k _ fun v s2 k2 r2 => hb s2 (k.trans k2) _ fun u s3 k3 r3 =>
    ⟨x, y, by rw [show v = V.int x from r2, show u = V.int y from r3], q _ s3 (k2.trans k3) (by
      show V.int _ = V.int _
      by_cases h : y < x
      · rw [if_pos h, Int.min_eq_right (by omega)]
      · rw [if_neg h, Int.min_eq_left (by omega)])⟩)
theorem ev_max2 {x y : Int} (hm : X.mg "max" = none) (ha : Ev X a σ s x) (hb : Ev X b σ s y) (hc : X.calm = true := by rfl) (hg : Gl X "max" := by rfl) (he : starEach [a, b] X.env = (false, eval a X.env) :: starEach [b] X.env := by rfl) (he2 : starEach [b] X.env = (false, eval b X.env) :: starEach [] X.env := by rfl) (hpl : (backTo pos (starEach [b] X.env)).any (·.1) = false := by rfl) : Ev X (.Call (.Name "max" p0) [a, b] [] pos) σ s (max x y) := fun s1 k Q q =>
  we_of (pe_callB (call_max2 hc) hg hm (by decide +kernel) (pa_cons pe_we (pa_cons pe_we pa_nil he2) he) (he := he) (hpl := hpl)) (ha s1 k _ fun v s2 k2 r2 => hb s2 (k.trans k2) _ fun u s3 k3 r3 =>
    ⟨x, y, by rw [show v = V.int x from r2, show u = V.int y from r3], q _ s3 (k2.trans k3) (by
      show V.int _ = V.int _
      by_cases h : y > x
      · rw [if_pos h, Int.max_eq_right (by omega)]
      · rw [if_neg h, Int.max_eq_left (by omega)])⟩)
theorem ev_T1 {T : String} {n : Str} {r : List V → Hp → VK → Prop} {x : β} {y : α} (hc : CallR X (.type T) r) (hg : Gl X n) (hm : X.mg n = none) (hv : bootBuiltins n = some (.type T)) (ha : Ev X e σ s x)
    (hr : ∀ (v : V) (s2 : S), rep X.K s2.F v x → ∀ Q : VK, (∀ w s3, Ex s2 s3 → rep X.K s3.F w y → Q w s3.H) → r [v] s2.H Q) (hn : n ≠ "__name__" := by decide) (hdb : (n == ("__debug__" : Str)) = false := by decide)
    (he : starEach [e] X.env = (false, eval e X.env) :: starEach [] X.env := by rfl) (hpl : (backTo pos (starEach [] X.env)).any (·.1) = false := by rfl) : Ev X (.Call (.Name n p0) [e] [] pos) σ s y := fun s1 k Q q =>
  we_of (pe_callTy hc hg hm hv (pa_cons pe_we pa_nil he) hn hdb he hpl) (ha s1 k _ fun v s2 k2 r2 => hr v s2 r2 Q fun w s3 k3 r3 => q w s3 (k2.trans k3) r3)
theorem ev_intB {x : Bool} (hm : X.mg "int" = none) (ha : Ev X e σ s x) (hg : Gl X "int" := by rfl) (he : starEach [e] X.env = (false, eval e X.env) :: starEach [] X.env := by rfl) (hpl : (backTo pos (starEach [] X.env)).any (·.1) = false := by rfl) : Ev X (.Call (.Name "int" p0) [e] [] pos) σ s (if x = true then (1 : Int) else 0) :=
  ev_T1 call_int1 hg hm (by decide +kernel) ha (fun v s2 r2 Q q => .inr ⟨x, by rw [show v = V.bl x from r2], q _ s2 (Ex.refl _) rfl⟩) (he := he) (hpl := hpl)
theorem ev_intS {x : Str} {n : Int} (hm : X.mg "int" = none) (ha : Ev X e σ s x) (h : PySem.intText? x = some n) (hl : x.length ≤ 640) (hg : Gl X "int" := by rfl) (he : starEach [e] X.env = (false, eval e X.env) :: starEach [] X.env := by rfl) (hpl : (backTo pos (starEach [] X.env)).any (·.1) = false := by rfl) : Ev X (.Call (.Name "int" p0) [e] [] pos) σ s n :=
  ev_T1 call_int_str hg hm (by decide +kernel) ha (fun v s2 r2 Q q => ⟨x, n, by rw [show v = V.str x from r2], h, hl, q _ s2 (Ex.refl _) rfl⟩) (he := he) (hpl := hpl)
theorem ev_strI {x : Int} (hm : X.mg "str" = none) (h : x.natAbs.log2 < 1920) (ha : Ev X e σ s x) (hg : Gl X "str" := by rfl) (he : starEach [e] X.env = (false, eval e X.env) :: starEach [] X.env := by rfl) (hpl : (backTo pos (starEach [] X.env)).any (·.1) = false := by rfl) : Ev X (.Call (.Name "str" p0) [e] [] pos) σ s (toString x : Str) :=
  ev_T1 call_str_int hg hm (by decide +kernel) ha (fun v s2 r2 Q q => ⟨x, by rw [show v = V.int x from r2], h, q _ s2 (Ex.refl _) rfl⟩) (he := he) (hpl := hpl)
end
end Dy

namespace Dy
open PySem PySem.Spec L2
open PyProof.Rows hiding St
open Enc (rep)
open Flat (toV)
open EncA (repA)

section
variable {α β γ δ ζ : Type} [Enc α] [Enc β] [Enc γ] [Enc δ] [Enc ζ] {X : Cx} {σ : St} {s t : S} {e a b c : Expr} {es : List Expr} {pos p0 p1 p2 p3 : Pos}

def EvE (X : Cx) (es : List Expr) (σ : St) (s : S) (xs : List α) : Prop := ∀ s1, Ex s s1 → ∀ Q : List V → Hp → Prop, (∀ vs s2, Ex s1 s2 → Reps X.K s2.F vs xs → Q vs s2.H) → WA X es σ s1.H Q
theorem ee_nil : EvE X [] σ s ([] : List α) := fun s1 k Q q => wa_of pa_nil (q [] s1 (Ex.refl _) trivial)
theorem ee_cons {x : α} {xs : List α} (h : Ev X e σ s x) (hr : EvE X es σ s xs) (hs : starEach (e :: es) X.env = (false, eval e X.env) :: starEach es X.env := by exact star_cons rfl) : EvE X (e :: es) σ s (x :: xs) := fun s1 k Q q =>
  wa_of (pa_cons pe_we pa_wa hs) (h s1 k _ fun v s2 k2 r2 => hr s2 (k.trans k2) _ fun vs s3 k3 r3 => q _ s3 (k2.trans k3) ⟨Enc.mono k3.f r2, r3⟩)
theorem own_new {K : PySem.W.Frag} {p : Addr} {vs : List V} {xs : List α} (h : s.H p = none) (r : Reps K s.F vs xs) : Own K (s.newO p (.lst vs) h) p xs := ⟨(fF h : s.F p = none), vs, upd_same, r⟩
theorem en_list {xs : List α} (h : EvE X es σ s xs) (hz : xs.length ≤ sizeLine := by decide) : EvN X (.List es pos) σ s xs := fun s1 k Q q =>
  we_of (pe_lst pa_wa) (h s1 k _ fun vs s2 k2 r2 => ⟨by rw [r2.len]; exact hz, fun p hp => q p (s2.newO p (.lst vs) hp) (k2.trans (Ex.newO hp)) (fr_back k2 hp) (own_new hp r2)⟩)
theorem tup_new {K : PySem.W.Frag} {p : Addr} {vs : List V} (h : s.H p = none) : SqT K (s.newF p (.tup vs) h).F p vs := .inl (.inl upd_same)
theorem ev_tu {xs : List α} (h : EvE X es σ s xs) (hz : xs.length ≤ sizeLine := by decide) {n} : Ev X (.Tuple es n pos) σ s (⟨xs⟩ : Tu α) := fun s1 k Q q =>
  we_of (pe_tup pa_wa) (h s1 k _ fun vs s2 k2 r2 => ⟨by rw [r2.len]; exact hz, fun p hp => q _ (s2.newF p (.tup vs) hp) (k2.trans (Ex.newF hp)) ⟨p, vs, rfl, tup_new hp, r2.mono (Ex.newF hp).f⟩⟩)
theorem ev_t1 {x : α} {n} (h : EvA X es σ s (x, ())) : Ev X (.Tuple es n pos) σ s (⟨x⟩ : T1 α) := fun s1 k Q q =>
  we_of (pe_tup pa_wa) (h s1 k _ fun vs s2 k2 r2 => by
    obtain ⟨v1, _, rfl, r1, rfl⟩ := r2
    refine ⟨show _ ≤ 2 ^ 24 by simp, fun p hp => q _ (s2.newF p _ hp) (k2.trans (Ex.newF hp)) ⟨p, v1, rfl, tup_new hp, Enc.mono (Ex.newF hp).f r1⟩⟩)
theorem ev_t2 {x : α} {y : β} {n} (h : EvA X es σ s (x, y, ())) : Ev X (.Tuple es n pos) σ s (x, y) := fun s1 k Q q =>
  we_of (pe_tup pa_wa) (h s1 k _ fun vs s2 k2 r2 => by
    obtain ⟨v1, _, rfl, r1, v2, _, rfl, r2, rfl⟩ := r2
    refine ⟨show _ ≤ 2 ^ 24 by simp, fun p hp => q _ (s2.newF p _ hp) (k2.trans (Ex.newF hp)) ⟨p, v1, v2, rfl, tup_new hp, Enc.mono (Ex.newF hp).f r1, Enc.mono (Ex.newF hp).f r2⟩⟩)
theorem ev_t3 {x : α} {y : β} {z : γ} {n} (h : EvA X es σ s (x, y, z, ())) : Ev X (.Tuple es n pos) σ s (⟨x, y, z⟩ : T3 α β γ) := fun s1 k Q q =>
  we_of (pe_tup pa_wa) (h s1 k _ fun vs s2 k2 r2 => by
    obtain ⟨v1, _, rfl, r1, v2, _, rfl, r2, v3, _, rfl, r3, rfl⟩ := r2
    refine ⟨show _ ≤ 2 ^ 24 by simp, fun p hp => q _ (s2.newF p _ hp) (k2.trans (Ex.newF hp)) ⟨p, v1, v2, v3, rfl, tup_new hp, Enc.mono (Ex.newF hp).f r1, Enc.mono (Ex.newF hp).f r2, Enc.mono (Ex.newF hp).f r3⟩⟩)
theorem ev_t4 {x : α} {y : β} {z : γ} {u : δ} {n} (h : EvA X es σ s (x, y, z, u, ())) : Ev X (.Tuple es n pos) σ s (⟨x, y, z, u⟩ : T4 α β γ δ) := fun s1 k Q q =>
  we_of (pe_tup pa_wa) (h s1 k _ fun vs s2 k2 r2 => by
    obtain ⟨v1, _, rfl, r1, v2, _, rfl, r2, v3, _, rfl, r3, v4, _, rfl, r4, rfl⟩ := r2
    refine ⟨show _ ≤ 2 ^ 24 by simp, fun p hp => q _ (s2.newF p _ hp) (k2.trans (Ex.newF hp)) ⟨p, v1, v2, v3, v4, rfl, tup_new hp, Enc.mono (Ex.newF hp).f r1, Enc.mono (Ex.newF hp).f r2, Enc.mono (Ex.newF hp).f r3, Enc.mono (Ex.newF hp).f r4⟩⟩)
theorem ev_t5 {x : α} {y : β} {z : γ} {u : δ} {w : ζ} {n} (h : EvA X es σ s (x, y, z, u, w, ())) : Ev X (.Tuple es n pos) σ s (⟨x, y, z, u, w⟩ : T5 α β γ δ ζ) := fun s1 k Q q =>
  we_of (pe_tup pa_wa) (h s1 k _ fun vs s2 k2 r2 => by
    obtain ⟨v1, _, rfl, r1, v2, _, rfl, r2, v3, _, rfl, r3, v4, _, rfl, r4, v5, _, rfl, r5, rfl⟩ := r2
    refine ⟨show _ ≤ 2 ^ 24 by simp, fun p hp => q _ (s2.newF p _ hp) (k2.trans (Ex.newF hp)) ⟨p, v1, v2, v3, v4, v5, rfl, tup_new hp, Enc.mono (Ex.newF hp).f r1, Enc.mono (Ex.newF hp).f r2, Enc.mono (Ex.newF hp).f r3, Enc.mono (Ex.newF hp).f r4, Enc.mono (Ex.newF hp).f r5⟩⟩)

theorem en_T1 {n : Str} {T : String} {r : List V → Hp → VK → Prop} {xs : List β} {ys : List α} (hc : CallR X (.type T) r) (hg : Gl X n) (hm : X.mg n = none) (hv : bootBuiltins n = some (.type T)) (ha : EvR X e σ s xs)
    (hr : ∀ (v : V) (s2 : S), RepR X.K s2 v xs → ∀ Q : VK, (∀ p s3, Ex s2 s3 → s2.H p = none → Own X.K s3 p ys → Q (.ref p) s3.H) → r [v] s2.H Q) (hn : n ≠ "__name__" := by decide) (hdb : (n == ("__debug__" : Str)) = false := by decide)
    (he : starEach [e] X.env = (false, eval e X.env) :: starEach [] X.env := by rfl) (hpl : (backTo pos (starEach [] X.env)).any (·.1) = false := by rfl) : EvN X (.Call (.Name n p0) [e] [] pos) σ s ys := fun s1 k Q q =>
  we_of (pe_callTy hc hg hm hv (pa_cons pe_we pa_nil he) hn hdb he hpl) (ha s1 k _ fun v s2 k2 r2 => hr v s2 r2 Q fun w s3 k3 n3 r3 => q w s3 (k2.trans k3) (fr_back k2 n3) r3)
theorem en_copy {xs : List α} (hm : X.mg "list" = none) (ha : EvR X e σ s xs) (hg : Gl X "list" := by rfl) (he : starEach [e] X.env = (false, eval e X.env) :: starEach [] X.env := by rfl) (hpl : (backTo pos (starEach [] X.env)).any (·.1) = false := by rfl) : EvN X (.Call (.Name "list" p0) [e] [] pos) σ s xs :=
  en_T1 call_list_of hg hm (by decide +kernel) ha (fun v s2 r2 Q q => by
    obtain ⟨p, vs, rfl, h1, h2⟩ := r2
    exact ⟨p, vs, rfl, .inl h1, fun l hl => q l (s2.newO l _ hl) (Ex.newO hl) hl (own_new hl h2)⟩) (he := he) (hpl := hpl)
theorem en_copyT {xs : Tu α} (hm : X.mg "list" = none) (ha : Ev X e σ s xs) (hg : Gl X "list" := by rfl) (he : starEach [e] X.env = (false, eval e X.env) :: starEach [] X.env := by rfl) (hpl : (backTo pos (starEach [] X.env)).any (·.1) = false := by rfl) : EvN X (.Call (.Name "list" p0) [e] [] pos) σ s xs.l := fun s1 k Q q =>
  we_of (pe_callTy call_list_of hg hm (by decide +kernel) (pa_cons pe_we pa_nil he) (he := he) (hpl := hpl)) (ha s1 k _ fun v s2 k2 r2 => by
    obtain ⟨p, vs, rfl, h1, h2⟩ := r2
    exact ⟨p, vs, rfl, .inr (sqt_mono s2.sub h1), fun l hl => q l (s2.newO l _ hl) (k2.trans (Ex.newO hl)) (fr_back k2 hl) (own_new hl h2)⟩)
theorem ev_tuple {xs : List α} (hm : X.mg "tuple" = none) (ha : EvR X e σ s xs) (hg : Gl X "tuple" := by rfl) (he : starEach [e] X.env = (false, eval e X.env) :: starEach [] X.env := by rfl) (hpl : (backTo pos (starEach [] X.env)).any (·.1) = false := by rfl) : Ev X (.Call (.Name "tuple" p0) [e] [] pos) σ s (⟨xs⟩ : Tu α) := fun s1 k Q q =>
  we_of (pe_callTy call_tuple_of hg hm (by decide +kernel) (pa_cons pe_we pa_nil he) (he := he) (hpl := hpl)) (ha s1 k _ fun v s2 k2 r2 => by
    obtain ⟨p, vs, rfl, h1, h2⟩ := r2
    exact ⟨p, vs, rfl, .inl ⟨h1, fun l hl => q _ (s2.newF l _ hl) (k2.trans (Ex.newF hl)) ⟨l, vs, rfl, tup_new hl, h2.mono (Ex.newF hl).f⟩⟩⟩)
theorem ev_tupleT {xs : Tu α} (hm : X.mg "tuple" = none) (ha : Ev X e σ s xs) (hg : Gl X "tuple" := by rfl) (he : starEach [e] X.env = (false, eval e X.env) :: starEach [] X.env := by rfl) (hpl : (backTo pos (starEach [] X.env)).any (·.1) = false := by rfl) : Ev X (.Call (.Name "tuple" p0) [e] [] pos) σ s xs := fun s1 k Q q =>
  we_of (pe_callTy call_tuple_of hg hm (by decide +kernel) (pa_cons pe_we pa_nil he) (he := he) (hpl := hpl)) (ha s1 k _ fun v s2 k2 r2 => by
    obtain ⟨p, vs, rfl, h1, h2⟩ := r2
    exact ⟨p, vs, rfl, .inr ⟨sqt_mono s2.sub h1, q _ s2 k2 ⟨p, vs, rfl, h1, h2⟩⟩⟩)
def rng (a b : Int) : List Int := (List.range (b - a).toNat).map fun i : Nat => a + (i : Int)
theorem rgV_rng (a b : Int) : rgV a b = (rng a b).map V.int := by
  unfold rgV rng
  rw [List.map_map]; rfl
theorem en_listRg1 {n : Int} (hm : X.mg "list" = none) (hr : X.mg "range" = none) (ha : Ev X e σ s n) (hz : RgOk 0 n) (hc : X.calm = true := by rfl) (hg : Gl X "list" := by rfl) (hgr : Gl X "range" := by rfl)
    (he : starEach [e] X.env = (false, eval e X.env) :: starEach [] X.env := by rfl) (he2 : starEach [.Call (.Name "range" p1) [e] [] p2] X.env = (false, eval (.Call (.Name "range" p1) [e] [] p2) X.env) :: starEach [] X.env := by rfl) :
    EvN X (.Call (.Name "list" p0) [.Call (.Name "range" p1) [e] [] p2] [] pos) σ s (rng 0 n) := fun s1 k Q q =>
  we_of (pe_listRg hc hg hm (prg_1 hgr hr pe_we he) he2) (ha s1 k _ fun v s2 k2 r2 => ⟨n, r2, hz, fun l hl => q l (s2.newO l _ hl) (k2.trans (Ex.newO hl)) (fr_back k2 hl) (own_new hl (by rw [rgV_rng]; exact Reps.of_flat _))⟩)
theorem en_listRg2 {m n : Int} (hm : X.mg "list" = none) (hr : X.mg "range" = none) (ha : Ev X a σ s m) (hb : Ev X b σ s n) (hz : RgOk m n) (hc : X.calm = true := by rfl) (hg : Gl X "list" := by rfl) (hgr : Gl X "range" := by rfl)
    (he : starEach [a, b] X.env = (false, eval a X.env) :: starEach [b] X.env := by rfl) (heb : starEach [b] X.env = (false, eval b X.env) :: starEach [] X.env := by rfl) (hpl : (backTo p2 (starEach [b] X.env)).any (·.1) = false := by rfl)
    (he2 : starEach [.Call (.Name "range" p1) [a, b] [] p2] X.env = (false, eval (.Call (.Name "range" p1) [a, b] [] p2) X.env) :: starEach [] X.env := by rfl) :
    EvN X (.Call (.Name "list" p0) [.Call (.Name "range" p1) [a, b] [] p2] [] pos) σ s (rng m n) := fun s1 k Q q =>
  we_of (pe_listRg hc hg hm (prg_2 hgr hr pe_we pe_we he heb hpl) he2) (ha s1 k _ fun v s2 k2 r2 => hb s2 (k.trans k2) _ fun u s3 k3 r3 => ⟨m, n, r2, r3, hz, fun l hl => q l (s3.newO l _ hl) ((k2.trans k3).trans (Ex.newO hl)) (fr_back (k2.trans k3) hl) (own_new hl (by rw [rgV_rng]; exact Reps.of_flat _))⟩)
def cut {τ : Type} (xs : List τ) (lo hi : Option Int) : List τ := (xs.drop (HT.sIx xs.length 0 lo)).take (HT.sIx xs.length xs.length hi - HT.sIx xs.length 0 lo)
theorem Reps.cut {K : PySem.W.Frag} {F : Hp} {vs : List V} {xs : List α} (r : Reps K F vs xs) (lo hi : Option Int) : Reps K F (cutV vs lo hi) (Dy.cut xs lo hi) := by
  unfold cutV Dy.cut
  rw [r.len]
  exact (r.drop _).take _
def EvO (X : Cx) (o : Option Expr) (σ : St) (s : S) (x : Option Int) : Prop := match o, x with
  | none, none => True
  | some e, some i => Ev X e σ s i
  | _, _ => False
theorem po_evo {o : Option Expr} {x : Option Int} (h : EvO X o σ s x) : ∃ t, PO X o t ∧ ∀ s1, Ex s s1 → ∀ Q : Option Int → Hp → Prop, (∀ s2, Ex s1 s2 → Q x s2.H) → t σ s1.H Q := by
  cases o with
  | none =>
    cases x with
    | none => exact ⟨_, po_none, fun s1 k Q q => q s1 (Ex.refl _)⟩
    | some i => exact h.elim
  | some e =>
    cases x with
    | none => exact h.elim
    | some i => exact ⟨_, po_some pe_we, fun s1 k Q q => (show Ev X e σ s i from h) s1 k _ fun v s2 k2 r2 => ⟨i, r2, q s2 k2⟩⟩
theorem eo_none : EvO X none σ s none := trivial
theorem eo_some {i : Int} (h : Ev X e σ s i) : EvO X (some e) σ s (some i) := h
theorem en_slice {xs : List α} {lo hi : Option Expr} {l h : Option Int} (ha : EvR X a σ s xs) (hl : EvO X lo σ s l) (hh : EvO X hi σ s h) : EvN X (.Subscript a (.Slice lo hi none p2) pos) σ s (cut xs l h) := fun s1 k Q q => by
  obtain ⟨tl, pl, ql⟩ := po_evo hl
  obtain ⟨th, ph, qh⟩ := po_evo hh
  refine we_of (pe_slice sl_list pe_we pl ph) (ha s1 k _ fun v s2 k2 r2 => ql s2 (k.trans k2) _ fun s3 k3 => qh s3 ((k.trans k2).trans k3) _ fun s4 k4 => ?_)
  obtain ⟨p, vs, rfl, h1, h2⟩ := (r2.ex k3).ex k4
  exact ⟨p, vs, rfl, h1, fun l hl => q l (s4.newO l _ hl) (((k2.trans k3).trans k4).trans (Ex.newO hl)) (fr_back ((k2.trans k3).trans k4) hl) (own_new hl (h2.cut _ _))⟩
theorem ev_sliceS {x : Str} {lo hi : Option Expr} {l h : Option Int} (hz : x.length ≤ sizeLine) (ha : Ev X a σ s x) (hl : EvO X lo σ s l) (hh : EvO X hi σ s h) : Ev X (.Subscript a (.Slice lo hi none p2) pos) σ s (cutS x l h) := fun s1 k Q q => by
  obtain ⟨tl, pl, ql⟩ := po_evo hl
  obtain ⟨th, ph, qh⟩ := po_evo hh
  exact we_of (pe_slice sl_str pe_we pl ph) (ha s1 k _ fun v s2 k2 r2 => ql s2 (k.trans k2) _ fun s3 k3 => qh s3 ((k.trans k2).trans k3) _ fun s4 k4 => ⟨x, r2, hz, q _ s4 ((k2.trans k3).trans k4) rfl⟩)
theorem op_catS : OpR X (binaryOp .Add) (fun x y H Q => ∃ l b xs zs, x = .ref l ∧ y = .ref b ∧ SqL X.K H l xs ∧ SqL X.K H b zs ∧ xs.length + zs.length ≤ sizeLine ∧ ∀ p, H p = none → Q (.ref p) (upd H p (.lst (xs ++ zs)))) := by
  intro pins s σ H x y v u Q I rx ry h
  obtain ⟨l, b, xs, zs, rfl, rfl, hH, hB, hz, q⟩ := h
  cases rx
  cases ry
  obtain ⟨its, r, ⟨⟨cls, dd, data, sl⟩, n, ho, hc, hd0, hd⟩, z1⟩ := I.list hH
  obtain ⟨its2, r2, ⟨⟨cls2, dd2, data2, sl2⟩, n2, ho2, hc2, hd02, hd2⟩, z2⟩ := I.list hB
  simp only at hc hd hc2 hd2 hd0 hd02
  subst hc hd hc2 hd2 hd0 hd02
  have e : its.toArray ++ its2.toArray = (its ++ its2).toArray := by simp
  have h1 := r.length
  have h2 := r2.length
  refine concat_meets ⟨_, ho, rfl⟩ ⟨_, ho2, rfl⟩ noFill_list_add seq_list_add PySem.F.slot_list_add PySem.F.entry_list_add (PySem.F.args_list_add_2 _ _) (list_addW l b its.toArray its2.toArray n n2 none none sl sl2 (by rw [List.size_toArray, List.size_toArray]; omega)) ⟨ho, ho2, ?_⟩
  rw [e]
  exact ⟨.ref _, _, I.lnew (t' := s.toks) (r.append r2) (by rw [List.length_append]; omega), rfl, q _ I.fresh⟩
theorem en_cat {xs ys : List α} (ha : EvR X a σ s xs) (hb : EvR X b σ s ys) (hz : xs.length + ys.length ≤ sizeLine) : EvN X (.BinOp a .Add b pos) σ s (xs ++ ys) := fun s1 k Q q =>
  we_of (pe_op op_catS pe_we pe_we) (ha s1 k _ fun v s2 k2 r2 => hb s2 (k.trans k2) _ fun u s3 k3 r3 => by
    obtain ⟨p, vs, rfl, h1, h2⟩ := r2.ex k3
    obtain ⟨p', ws, rfl, h3, h4⟩ := r3
    exact ⟨p, p', vs, ws, rfl, rfl, h1, h3, by rw [h2.len, h4.len]; exact hz, fun l hl => q l (s3.newO l _ hl) ((k2.trans k3).trans (Ex.newO hl)) (fr_back (k2.trans k3) hl) (own_new hl (h2.app h4))⟩)
def repl {τ : Type} (n : Int) (xs : List τ) : List τ := (List.replicate n.toNat xs).flatten
theorem Reps.repF {K : PySem.W.Frag} {F : Hp} {vs : List V} {xs : List α} (r : Reps K F vs xs) (n : Nat) : Reps K F (List.replicate n vs).flatten (List.replicate n xs).flatten := by
  induction n with
  | zero => exact trivial
  | succ n ih => rw [List.replicate_succ, List.replicate_succ, List.flatten_cons, List.flatten_cons]; exact r.app ih
def RepOk (n : Int) (l : Nat) : Prop := -(2 ^ 63) ≤ n ∧ n < 2 ^ 63 ∧ l * n.toNat ≤ sizeLine
theorem en_rep {xs : List α} {n : Int} (ha : EvN X a σ s xs) (hb : ∀ t, Ex s t → Ev X b σ t n) (hz : RepOk n xs.length) : EvN X (.BinOp a .Mult b pos) σ s (repl n xs) := fun s1 k Q q =>
  we_of (pe_op op_rep pe_we pe_we) (ha s1 k _ fun p s2 k2 n2 o2 => hb s2 (k.trans k2) s2 (Ex.refl _) _ fun u s3 k3 r3 => by
    obtain ⟨_, vs, h1, h2⟩ := o2.ex k3
    exact ⟨p, n, vs, rfl, r3, h1, hz.1, hz.2.1, by rw [h2.len]; exact hz.2.2, fun l hl => q l (s3.newO l _ hl) ((k2.trans k3).trans (Ex.newO hl)) (fr_back (k2.trans k3) hl) (own_new hl (h2.repF _))⟩)
theorem en_sorted {xs : List Int} (hm : X.mg "sorted" = none) (ha : EvR X e σ s xs) (hg : Gl X "sorted" := by rfl) (he : starEach [e] X.env = (false, eval e X.env) :: starEach [] X.env := by rfl) (hpl : (backTo pos (starEach [] X.env)).any (·.1) = false := by rfl) :
    EvN X (.Call (.Name "sorted" p0) [e] [] pos) σ s (xs.mergeSort (fun x y => decide (x ≤ y))) := fun s1 k Q q =>
  we_of (pe_callB cr_sortedI hg hm (by decide +kernel) (pa_cons pe_we pa_nil he) (he := he) (hpl := hpl)) (ha s1 k _ fun v s2 k2 r2 => by
    obtain ⟨p, vs, rfl, h1, h2⟩ := r2
    rw [h2.flat] at h1
    refine ⟨p, xs, rfl, h1, fun ys l hp hs hl => ?_⟩
    have e1 : ys = xs.mergeSort (fun x y => decide (x ≤ y)) := by
      refine List.Perm.eq_of_pairwise (le := fun x y : Int => x ≤ y) (fun a b _ _ h h' => Int.le_antisymm h h') hs ?_ (hp.trans (List.mergeSort_perm _ _).symm)
      have := List.pairwise_mergeSort (le := fun x y : Int => decide (x ≤ y)) (fun a b c h1 h2 => by simp at *; omega) (fun a b => by simp; omega) xs
      exact this.imp (by simp)
    subst e1
    exact q l (s2.newO l _ hl) (k2.trans (Ex.newO hl)) (fr_back k2 hl) (own_new hl (Reps.of_flat _)))
theorem en_split {x y : Str} (ha : Ev X a σ s x) (hb : Ev X b σ s y) (h1 : (y.length == 0) = false) (h2 : x.length + 2 ≤ sizeLine) (hs : starEach [b] X.env = [(false, eval b X.env)] := by rfl) (hbase : attributeBase a "split" X.env (eval a X.env) = eval a X.env := by rfl) (hline : (p1.endLine == pos.line) = true := by rfl) :
    EvN X (.Call (.Attribute a "split" p1) [b] [] pos) σ s (Txt.split x y) := fun s1 k Q q =>
  we_of (pe_split pe_we pe_we hs hbase hline) (ha s1 k _ fun v s2 k2 r2 => ⟨⟨x, r2⟩, hb s2 (k.trans k2) _ fun u s3 k3 r3 => ⟨x, y, r2, by rw [show u = V.str y from r3], h1, h2, fun l hl =>
    q l (s3.newO l _ hl) ((k2.trans k3).trans (Ex.newO hl)) (fr_back (k2.trans k3) hl) (own_new hl (Reps.of_flat _))⟩⟩)
def JnOk (x : Str) (ys : List Str) : Prop := (ys.map (·.length)).sum + ys.length * x.length ≤ 16777216
theorem ev_join {x : Str} {ys : List Str} (ha : Ev X a σ s x) (hb : EvR X b σ s ys) (h : JnOk x ys) (hs : starEach [b] X.env = [(false, eval b X.env)] := by rfl) (hbase : attributeBase a "join" X.env (eval a X.env) = eval a X.env := by rfl) (hline : (p1.endLine == pos.line) = true := by rfl) :
    Ev X (.Call (.Attribute a "join" p1) [b] [] pos) σ s (Txt.join x ys) := fun s1 k Q q =>
  we_of (pe_join pe_we pe_we hs hbase hline) (ha s1 k _ fun v s2 k2 r2 => ⟨⟨x, r2⟩, hb s2 (k.trans k2) _ fun u s3 k3 r3 => by
    obtain ⟨p, vs, rfl, h1, h2⟩ := r3
    obtain rfl := h2.flat
    exact ⟨x, p, ys, r2, rfl, .inl h1, h, q _ s3 (k2.trans k3) rfl⟩⟩)
def ixOf {τ : Type} [DecidableEq τ] (x : τ) : List τ → Option Nat
  | [] => none
  | y :: ys => if y = x then some 0 else (ixOf x ys).map (· + 1)
theorem ixOf_some {τ : Type} [DecidableEq τ] {x : τ} : ∀ {ys : List τ} {j : Nat}, ixOf x ys = some j → ys[j]? = some x ∧ ∀ m z, m < j → ys[m]? = some z → z ≠ x
  | [], _, h => by cases h
  | y :: ys, j, h => by
    unfold ixOf at h
    split at h
    · rename_i e; cases h; exact ⟨by simp [e], fun m z hm => absurd hm (Nat.not_lt_zero _)⟩
    · rename_i e
      obtain ⟨i, h1, rfl⟩ := Option.map_eq_some_iff.mp h
      obtain ⟨h2, h3⟩ := ixOf_some h1
      refine ⟨by simpa using h2, fun m z hm hz => ?_⟩
      cases m with
      | zero => simp at hz; subst hz; exact e
      | succ m => exact h3 m z (by omega) (by simpa using hz)
theorem ev_index {ε : Type} [Eqs ε] [DecidableEq ε] {x : ε} {xs : List ε} {j : Nat} (ha : EvR X a σ s xs) (hb : Ev X b σ s x) (h : ixOf x xs = some j)
    (hbase : attributeBase a "index" X.env (eval a X.env) = eval a X.env := by rfl)
    (hfew : ((backTo pos (starEach [b] X.env)).all (fun x => !x.1) && (backToKw pos (keywordEach [] X.env)).all (fun x => x.1.isSome) && decide (([b] : List Expr).length + ([] : List Keyword).length + (if ([] : List Keyword).isEmpty then 0 else 1) < 30)) = true := by rfl)
    (hline : (p1.endLine == pos.line) = true := by rfl) (hs : starEach [b] X.env = (false, eval b X.env) :: starEach [] X.env := by rfl) (hplain : (backTo pos (starEach [] X.env)).any (·.1) = false := by rfl) :
    Ev X (.Call (.Attribute a "index" p1) [b] [] pos) σ s (j : Int) := fun s1 k Q q =>
  we_of (pe_bm PySem.F.plainAttrs_list PySem.F.slot_list_index PySem.F.type_list_index mt_index pe_we (pa_cons pe_we pa_nil hs) hbase hfew hline hs hplain) (ha s1 k _ fun v s2 k2 r2 => by
    obtain ⟨p, vs, rfl, h1, h2⟩ := r2
    obtain rfl := h2.flat
    refine ⟨.inl ⟨rfl, _, h1⟩, hb s2 (k.trans k2) _ fun u s3 k3 r3 => ?_⟩
    rw [Flat.iff.mp r3]
    obtain ⟨h3, h4⟩ := ixOf_some h
    refine ⟨p, _, toV x, j, toV x, rfl, rfl, sql_mono k3.h h1, Flat.flat x, flat_all xs, by rw [List.getElem?_map, h3]; rfl, (Flat.inj x x).mpr rfl, fun m z hm hz => ?_, q _ s3 (k2.trans k3) rfl⟩
    rw [List.getElem?_map] at hz
    obtain ⟨y, h5, rfl⟩ := Option.map_eq_some_iff.mp hz
    exact Bool.eq_false_iff.mpr fun z => h4 m y hm h5 ((Flat.inj y x).mp z))

structure Cal (P : Program) (w : World) (K : PySem.W.Frag) (mg : Str → Option Value) (base : Heap) (CX : CXT) (k : Nat) (x : Str) (q : Sp) : Prop where
  ex : ∃ (f : Addr) (fd : FuncData) (ps : List Str), FnOk P w K mg base CX k f fd ps q ∧ mg x = some (.ref f) ∧ PySem.W.keepIn K (.ref f) = true ∧ Binds K fd ps []
theorem pe_c0 {n : Str} {k j : Nat} {q : Sp} {ta : TA} (C : Cal X.prog X.w X.K X.mg X.base CX0 k n q) (hr : Room j X.A) (hk : k ≤ j) (hg : Gl X n) (ha : PA X (e :: es) ta) (hdb : (n == ("__debug__" : Str)) = false := by decide)
    (he : starEach (e :: es) X.env = (false, eval e X.env) :: starEach es X.env := by rfl) (hpl : (backTo pos (starEach es X.env)).any (·.1) = false := by rfl) : PE X (.Call (.Name n p0) (e :: es) [] pos) (tCall q [] E0 ta) := by
  obtain ⟨f, fd, ps, F, hm, kp, b⟩ := C.ex
  exact pe_call F (hr.mono hk) hg hm kp b .nil pass0 ha hdb he hpl
def sp {A : Type} [EncA A] {ρ : Type} [Enc ρ] (K : PySem.W.Frag) (m : A → Option ρ) : Sp := fun vs H Q _ => ∃ (s : S) (x : A) (r : ρ), s.H = H ∧ repA K s.F vs x ∧ m x = some r ∧ ∀ v s', Ex s s' → rep K s'.F v r → Q v s'.H
def spN {A : Type} [EncA A] {ρ : Type} [Enc ρ] (K : PySem.W.Frag) (m : A → Option (List ρ)) : Sp := fun vs H Q _ => ∃ (s : S) (x : A) (r : List ρ), s.H = H ∧ repA K s.F vs x ∧ m x = some r ∧ ∀ p s', Ex s s' → s.H p = none → Own K s' p r → Q (.ref p) s'.H
theorem ev_call {A : Type} [EncA A] {m : A → Option α} {n : Str} {k j : Nat} {x : A} {r : α} (C : Cal X.prog X.w X.K X.mg X.base CX0 k n (sp X.K m)) (hr : Room j X.A) (hk : k ≤ j) (ha : EvA X (e :: es) σ s x) (h : m x = some r) (hg : Gl X n := by rfl)
    (hdb : (n == ("__debug__" : Str)) = false := by decide) (he : starEach (e :: es) X.env = (false, eval e X.env) :: starEach es X.env := by rfl) (hpl : (backTo pos (starEach es X.env)).any (·.1) = false := by rfl) : Ev X (.Call (.Name n p0) (e :: es) [] pos) σ s r := fun s1 k1 Q q =>
  we_of (pe_c0 C hr hk hg pa_wa hdb he hpl) (ha s1 k1 _ fun vs s2 k2 r2 => ⟨s2, x, r, rfl, by rw [List.append_nil]; exact r2, h, fun v s3 k3 r3 => q v s3 (k2.trans k3) r3⟩)
theorem en_call {A : Type} [EncA A] {m : A → Option (List α)} {n : Str} {k j : Nat} {x : A} {r : List α} (C : Cal X.prog X.w X.K X.mg X.base CX0 k n (spN X.K m)) (hr : Room j X.A) (hk : k ≤ j) (ha : EvA X (e :: es) σ s x) (h : m x = some r) (hg : Gl X n := by rfl)
    (hdb : (n == ("__debug__" : Str)) = false := by decide) (he : starEach (e :: es) X.env = (false, eval e X.env) :: starEach es X.env := by rfl) (hpl : (backTo pos (starEach es X.env)).any (·.1) = false := by rfl) : EvN X (.Call (.Name n p0) (e :: es) [] pos) σ s r := fun s1 k1 Q q =>
  we_of (pe_c0 C hr hk hg pa_wa hdb he hpl) (ha s1 k1 _ fun vs s2 k2 r2 => ⟨s2, x, r, rfl, by rw [List.append_nil]; exact r2, h, fun v s3 k3 n3 r3 => q v s3 (k2.trans k3) (fr_back k2 n3) r3⟩)
end
end Dy

namespace Dy
open PySem PySem.Spec L2
open PyProof.Rows hiding St
open Enc (rep)
open Flat (toV)
open EncA (repA)

noncomputable def chk {α : Type} (c : Prop) (m : Option α) : Option α := open Classical in if c then m else none
theorem chk_pos {α : Type} {c : Prop} {m : Option α} (h : c) : chk c m = m := by unfold chk; exact if_pos h
theorem chkE {α : Type} {c : Prop} {m : Option α} {r : α} (h : chk c m = some r) : c ∧ m = some r := by
  unfold chk at h
  split at h
  · rename_i hc; exact ⟨hc, h⟩
  · cases h
def lt {α β : Type} (x : α) (f : α → Option β) : Option β := f x
theorem ltE {α β : Type} {x : α} {f : α → Option β} {r : β} (h : lt x f = some r) : ∃ y, y = x ∧ f y = some r := ⟨x, rfl, h⟩
abbrev bnd {α β : Type} (m : Option α) (f : α → Option β) : Option β := m.bind f
theorem bndE {α β : Type} {m : Option α} {f : α → Option β} {r : β} (h : bnd m f = some r) : ∃ y, m = some y ∧ f y = some r := by
  cases m with
  | none => cases h
  | some y => exact ⟨y, rfl, h⟩
theorem iteE1 {α : Type} {b : Bool} {m k : Option α} {r : α} (h : (if b = true then m else k) = some r) (e : b = true) : m = some r := by rw [if_pos e] at h; exact h
theorem iteE2 {α : Type} {b : Bool} {m k : Option α} {r : α} (h : (if b = true then m else k) = some r) (e : b = false) : k = some r := by rw [if_neg (by rw [e]; exact Bool.false_ne_true)] at h; exact h
def andO (a : Bool) (m : Option Bool) : Option Bool := if a = true then m else some false
def orO (a : Bool) (m : Option Bool) : Option Bool := if a = true then some true else m
theorem andE {a r : Bool} {m : Option Bool} (h : andO a m = some r) : (a = true → m = some r) ∧ (a = false → r = false) := by
  unfold andO at h
  cases a with
  | true => exact ⟨fun _ => h, fun z => Bool.noConfusion z⟩
  | false => exact ⟨fun z => Bool.noConfusion z, fun _ => (Option.some.inj h).symm⟩
theorem orE {a r : Bool} {m : Option Bool} (h : orO a m = some r) : (a = false → m = some r) ∧ (a = true → r = true) := by
  unfold orO at h
  cases a with
  | false => exact ⟨fun _ => h, fun z => Bool.noConfusion z⟩
  | true => exact ⟨fun z => Bool.noConfusion z, fun _ => (Option.some.inj h).symm⟩
inductive Fl (β ρ : Type) where
  | nx (b : β)
  | rt (r : ρ)
def foldO {α β : Type} (f : β → α → Option β) : β → List α → Option β
  | b, [] => some b
  | b, x :: r => (f b x).bind fun b' => foldO f b' r
def foldF {α β ρ : Type} (f : β → α → Option (Fl β ρ)) : β → List α → Option (Fl β ρ)
  | b, [] => some (.nx b)
  | b, x :: r => (f b x).bind fun o => match o with
    | .nx b' => foldF f b' r
    | .rt v => some (.rt v)
def whileO {β : Type} (c : β → Option Bool) (f : β → Option β) : Nat → β → Option β
  | 0, _ => none
  | n + 1, b => (c b).bind fun t => if t = true then (f b).bind fun b' => whileO c f n b' else some b
def whileF {β ρ : Type} (c : β → Option Bool) (f : β → Option (Fl β ρ)) : Nat → β → Option (Fl β ρ)
  | 0, _ => none
  | n + 1, b => (c b).bind fun t => if t = true then (f b).bind fun o => (match o with
    | .nx b' => whileF c f n b'
    | .rt v => some (.rt v)) else some (.nx b)
def compO {α β : Type} (t : α → Option Bool) (f : α → Option β) : List α → Option (List β)
  | [] => some []
  | x :: r => (t x).bind fun b => if b = true then (f x).bind fun y => (compO t f r).bind fun ys => some (y :: ys) else compO t f r
theorem compO_pure {α β : Type} (t : α → Bool) (f : α → β) : ∀ xs : List α, compO (fun x => some (t x)) (fun x => some (f x)) xs = some ((xs.filter t).map f)
  | [] => rfl
  | x :: r => by
    unfold compO
    rw [Option.bind_some, compO_pure t f r, List.filter_cons]
    split
    · rfl
    · rfl
theorem compO_map {α β : Type} (f : α → β) : ∀ xs : List α, compO (fun _ => some true) (fun x => some (f x)) xs = some (xs.map f)
  | [] => rfl
  | x :: r => by
    unfold compO
    rw [Option.bind_some, compO_map f r]
    rfl
def mapO {α β : Type} (f : α → Option β) (xs : List α) : Option (List β) := compO (fun _ => some true) f xs

def WI (X : Cx) (tg iter : Expr) : TI := fun σ H R => Hold (∀ (pins : List (Addr × Obj)) (s : Shared), Inv X pins σ H s →
  wpAny (model X.prog X.w) X.A (eval iter X.env) (fun v s1 => wpAny (model X.prog X.w) X.A (pyIter v) (PIE X pins σ tg R) X.xe s1) X.xe s)
theorem pi_wi {X : Cx} {tg iter : Expr} : PI X tg iter (WI X tg iter) := ⟨fun pins s _ _ _ I h => Hold.run h pins s I⟩
theorem wi_of {X : Cx} {tg iter : Expr} {t : TI} {σ : St} {H : Hp} {R : It → Hp → Prop} (h : PI X tg iter t) (q : t σ H R) : WI X tg iter σ H R := Hold.mk fun pins s I => h.run pins s σ H R I q
section
variable {α β γ δ : Type} [Enc α] [Enc β] [Enc γ] [Enc δ] {X : Cx} {σ : St} {s t : S} {e a b c tg : Expr} {es : List Expr} {pos p0 p1 p2 p3 : Pos}
structure Walk (K : PySem.W.Frag) (F : Hp) (J : It) (xs : List α) : Prop where
  go : ∀ (i : Nat) (t : S) (x : α), Fle F t.F → xs[i]? = some x → J.go i t.H ∧ ∀ v H', J.yld i t.H v H' → ∃ t' : S, t'.H = H' ∧ Ex t t' ∧ rep K t'.F v x
  stop : ∀ (i : Nat) (t : S), Fle F t.F → xs.length ≤ i → J.stop i t.H
def EvI (X : Cx) (tg e : Expr) (σ : St) (s : S) (xs : List α) : Prop := ∀ s1, Ex s s1 → ∀ R : It → Hp → Prop, (∀ J s2, Ex s1 s2 → Walk X.K s2.F J xs → R J s2.H) → WI X tg e σ s1.H R
theorem ei_list {xs : List α} (h : Ev X e σ s xs) : EvI X tg e σ s xs := fun s1 k R q =>
  wi_of (pi_list pe_we) (h s1 k _ fun v s2 k2 r2 => by
    obtain ⟨p, vs, rfl, h1, h2⟩ := r2
    refine ⟨p, rfl, ⟨vs, sql_mono s2.sub h1⟩, q _ s2 k2 ⟨fun i t x f hx => ?_, fun i t f hi => ⟨vs, sql_mono t.sub (sql_mono f h1), by rw [h2.len]; exact hi⟩⟩⟩
    obtain ⟨v, h3, h4⟩ := h2.get hx
    refine ⟨⟨vs, v, sql_mono t.sub (sql_mono f h1), h3⟩, fun w H' ⟨e1, hy⟩ => ⟨t, e1.symm, Ex.refl _, ?_⟩⟩
    have := hy vs (sql_mono t.sub (sql_mono f h1))
    rw [h3] at this
    cases this
    exact Enc.mono f h4)
theorem ei_tup {xs : Tu α} (h : Ev X e σ s xs) : EvI X tg e σ s xs.l := fun s1 k R q =>
  wi_of (pi_tup pe_we) (h s1 k _ fun v s2 k2 r2 => by
    obtain ⟨p, vs, rfl, h1, h2⟩ := r2
    refine ⟨p, rfl, ⟨vs, sqt_mono s2.sub h1⟩, q _ s2 k2 ⟨fun i t x f hx => ?_, fun i t f hi => ⟨vs, sqt_mono t.sub (sqt_mono f h1), by rw [h2.len]; exact hi⟩⟩⟩
    obtain ⟨v, h3, h4⟩ := h2.get hx
    refine ⟨⟨vs, v, sqt_mono t.sub (sqt_mono f h1), h3⟩, fun w H' ⟨e1, hy⟩ => ⟨t, e1.symm, Ex.refl _, ?_⟩⟩
    have := hy vs (sqt_mono t.sub (sqt_mono f h1))
    rw [h3] at this
    cases this
    exact Enc.mono f h4)
theorem rng_get {a b : Int} {i : Nat} {x : Int} (h : (rng a b)[i]? = some x) : i < (b - a).toNat ∧ x = a + (i : Int) := by
  unfold rng at h
  rw [List.getElem?_map] at h
  obtain ⟨j, h1, rfl⟩ := Option.map_eq_some_iff.mp h
  obtain ⟨h2, h3⟩ := List.getElem?_eq_some_iff.mp h1
  rw [List.length_range] at h2
  rw [List.getElem_range] at h3
  subst h3
  exact ⟨h2, rfl⟩
theorem rng_len (a b : Int) : (rng a b).length = (b - a).toNat := by unfold rng; rw [List.length_map, List.length_range]
theorem walk_rng {K : PySem.W.Frag} {F : Hp} {a b : Int} : Walk K F (Itr a (b - a).toNat) (rng a b) :=
  ⟨fun i t x f hx => ⟨(rng_get hx).1, fun v H' ⟨e1, e2⟩ => ⟨t, e1.symm, Ex.refl _, by rw [e2, (rng_get hx).2]; rfl⟩⟩, fun i t f hi => by rw [rng_len] at hi; exact hi⟩
def RgB (x : Int) : Prop := -(2 ^ 62) ≤ x ∧ x < 2 ^ 62
theorem ei_range1 {n : Int} (hm : X.mg "range" = none) (h : Ev X e σ s n) (hb : RgB n) (hg : Gl X "range" := by rfl) (hs : starEach [e] X.env = [(false, eval e X.env)] := by rfl) (hs2 : starEach [e] X.env = (false, eval e X.env) :: starEach [] X.env := by rfl) :
    EvI X tg (.Call (.Name "range" p0) [e] [] pos) σ s (rng 0 n) := fun s1 k R q =>
  wi_of (pi_range1 hg hm (pa_cons pe_we pa_nil hs2) hs) (h s1 k _ fun v s2 k2 r2 => ⟨n, by rw [show v = V.int n from r2], hb.1, hb.2, q _ s2 k2 (by
    have := walk_rng (K := X.K) (F := s2.F) (a := 0) (b := n)
    rw [Int.sub_zero] at this
    exact this)⟩)
theorem ei_range2 {m n : Int} (hm : X.mg "range" = none) (ha : Ev X a σ s m) (hb : Ev X b σ s n) (h1 : RgB m) (h2 : RgB n) (hg : Gl X "range" := by rfl) (hs : starEach [a, b] X.env = [(false, eval a X.env), (false, eval b X.env)] := by rfl) (hs2 : starEach [b] X.env = [(false, eval b X.env)] := by rfl)
    (hs3 : starEach [a, b] X.env = (false, eval a X.env) :: starEach [b] X.env := by rfl) (hs4 : starEach [b] X.env = (false, eval b X.env) :: starEach [] X.env := by rfl) :
    EvI X tg (.Call (.Name "range" p0) [a, b] [] pos) σ s (rng m n) := fun s1 k R q =>
  wi_of (pi_range2 hg hm (pa_cons pe_we (pa_cons pe_we pa_nil hs4) hs3) hs hs2) (ha s1 k _ fun v s2 k2 r2 => hb s2 (k.trans k2) _ fun u s3 k3 r3 => ⟨m, n, by rw [show v = V.int m from r2, show u = V.int n from r3], ⟨h1.1, h1.2, h2.1, h2.2⟩, q _ s3 (k2.trans k3) walk_rng⟩)
def chars (x : Str) : List Str := x.cps.toList.map fun c => ⟨#[c]⟩
theorem ei_str {x : Str} (h : Ev X e σ s x) : EvI X tg e σ s (chars x) := fun s1 k R q =>
  wi_of (pi_str pe_we) (h s1 k _ fun v s2 k2 r2 => ⟨x, r2, q _ s2 k2 ⟨fun i t y f hy => by
    unfold chars at hy
    rw [List.getElem?_map] at hy
    obtain ⟨c, h1, rfl⟩ := Option.map_eq_some_iff.mp hy
    have h1' : x.cps[i]? = some c := by simpa using h1
    refine ⟨?_, fun v H' ⟨e1, d, h2, h3⟩ => ⟨t, e1.symm, Ex.refl _, ?_⟩⟩
    · obtain ⟨z, _⟩ := Array.getElem?_eq_some_iff.mp h1'
      exact z
    · rw [h1'] at h2
      cases h2
      exact h3, fun i t f hi => by
    unfold chars at hi
    rw [List.length_map, Array.length_toList] at hi
    exact hi⟩⟩)
end

structure Tgt {α : Type} [Enc α] (K : PySem.W.Frag) (g : TG) (B : Hp → α → St → St → Prop) : Prop where
  run : ∀ (t : S) (v : V) (x : α) (σ : St) (Q : St → Hp → Prop), rep K t.F v x → (∀ σ2, B t.F x σ σ2 → Q σ2 t.H) → g v σ t.H Q
def BN {α : Type} [Enc α] (K : PySem.W.Frag) (j : Nat) : Hp → α → St → St → Prop := fun F x σ σ2 => ∃ v, rep K F v x ∧ σ2 = σ.set j (some v)
def B2 {α β : Type} [Enc α] [Enc β] (K : PySem.W.Frag) (i j : Nat) : Hp → α × β → St → St → Prop := fun F x σ σ2 => ∃ v w, rep K F v x.1 ∧ rep K F w x.2 ∧ σ2 = (σ.set i (some v)).set j (some w)
def B3 {α β γ : Type} [Enc α] [Enc β] [Enc γ] (K : PySem.W.Frag) (i j k : Nat) : Hp → T3 α β γ → St → St → Prop := fun F x σ σ2 => ∃ v w u, rep K F v x.a ∧ rep K F w x.b ∧ rep K F u x.c ∧ σ2 = ((σ.set i (some v)).set j (some w)).set k (some u)
theorem tg_n {α : Type} [Enc α] {K : PySem.W.Frag} {j : Nat} : Tgt (α := α) K (gName j) (BN K j) := ⟨fun t v x σ Q r h => h _ ⟨v, r, rfl⟩⟩
theorem tg_2 {α β : Type} [Enc α] [Enc β] {K : PySem.W.Frag} {i j : Nat} : Tgt (α := α × β) K (gTup K 2 (gCons (gName i) (gCons (gName j) gNil))) (B2 K i j) := ⟨fun t v x σ Q r h => by
  obtain ⟨p, v1, v2, rfl, h0, h1, h2⟩ := r
  exact ⟨p, _, rfl, sqt_mono t.sub h0, rfl, v1, _, rfl, v2, _, rfl, rfl, h _ ⟨v1, v2, h1, h2, rfl⟩⟩⟩
theorem tg_3 {α β γ : Type} [Enc α] [Enc β] [Enc γ] {K : PySem.W.Frag} {i j k : Nat} : Tgt (α := T3 α β γ) K (gTup K 3 (gCons (gName i) (gCons (gName j) (gCons (gName k) gNil)))) (B3 K i j k) := ⟨fun t v x σ Q r h => by
  obtain ⟨p, v1, v2, v3, rfl, h0, h1, h2, h3⟩ := r
  exact ⟨p, _, rfl, sqt_mono t.sub h0, rfl, v1, _, rfl, v2, _, rfl, v3, _, rfl, rfl, h _ ⟨v1, v2, v3, h1, h2, h3, rfl⟩⟩⟩

section
variable {α β : Type} [Enc α] [Enc β] {X : Cx} {σ : St} {s : S} {elt tg iter c : Expr} {ifs : List Expr} {scope : Scope} {own : List (Str × Nat)} {pos : Pos}
abbrev Blk (X : Cx) (scope : Scope) (s0 : Shared) (H0 : Hp) (C : Addr) (cl : List (Str × Addr)) (fp : List Addr) : Cx := X.blk s0 H0 scope (compEnvC scope cl C X.env) fp
theorem comp_read {xs : List α} {ys : List β} {t : α → Option Bool} {f : α → Option β} {g : TG} {B : Hp → α → St → St → Prop} {tt : TT} (hc : X.calm = true) (hN : X.N.Nodup) (hi : EvI X tg iter σ s xs) (ok : BlkOk X.N X.env.scope scope own)
    (hg : ∀ s0 H0 C cl fp, PG (Blk X scope s0 H0 C cl fp) tg g) (T : Tgt (α := α) X.K g B) (htt : ∀ s0 H0 C cl fp, PTs (Blk X scope s0 H0 C cl fp) ifs tt) (hf : compO t f xs = some ys) (hz : ys.length ≤ sizeLine)
    (hw : ∀ (F : Hp) (x : α) σ2, B F x (wipe σ (own.map (·.2))) σ2 → wipe σ2 (own.map (·.2)) = wipe σ (own.map (·.2)))
    (ht : ∀ (x : α) (b : Bool) (s1 : S) (σ2 : St) (Q : Bool → Hp → Prop), x ∈ xs → Ex s s1 → B s1.F x (wipe σ (own.map (·.2))) σ2 → t x = some b → (∀ s2, Ex s1 s2 → Q b s2.H) → tt σ2 s1.H Q)
    (he : ∀ (x : α) (y : β) (s1 : S) (σ2 : St), x ∈ xs → Ex s s1 → B s1.F x (wipe σ (own.map (·.2))) σ2 → t x = some true → f x = some y → ∀ s0 H0 C cl fp, Ev (Blk X scope s0 H0 C cl fp) elt σ2 s1 y)
    (s1 : S) (k : Ex s s1) (Q : VK) (q : ∀ p s2, Ex s1 s2 → s1.H p = none → Own X.K s2 p ys → Q (.ref p) s2.H) : tLc (WI X tg iter) g tt (fun σ H Q => ∀ s0 H0 C cl fp, WE (Blk X scope s0 H0 C cl fp) elt σ H Q) (own.map (·.2)) σ s1.H Q := by
  refine hi s1 k _ fun J s2 k2 W => ?_
  intro D hD
  refine ⟨fun i m H => ∃ (u : S) (pre : List β) (vs : List V), u.H = H ∧ m = xs.length - i ∧ Ex s2 u ∧ u.F D = none ∧ u.H D = some (.lst vs) ∧ Reps X.K u.F vs pre ∧ (∃ suf, compO t f (xs.drop i) = some suf ∧ pre ++ suf = ys), ⟨xs.length, s2.newO D (.lst []) hD, [], [], rfl, rfl, Ex.newO hD, (fF hD : s2.F D = none), upd_same, trivial, ys, hf, rfl⟩, ?_⟩
  rintro i m H ⟨u, pre, vs, rfl, rfl, ku, n1, n2, n3, suf, h1, h2⟩
  by_cases hi' : i < xs.length
  · right
    have hx : xs[i]? = some xs[i] := List.getElem?_eq_getElem hi'
    obtain ⟨g1, g2⟩ := W.go i u xs[i] ku.f hx
    refine ⟨g1, fun H' => ∃ m', m' < xs.length - i ∧ ∃ (u : S) (pre : List β) (vs : List V), u.H = H' ∧ m' = xs.length - (i + 1) ∧ Ex s2 u ∧ u.F D = none ∧ u.H D = some (.lst vs) ∧ Reps X.K u.F vs pre ∧ (∃ suf, compO t f (xs.drop (i + 1)) = some suf ∧ pre ++ suf = ys), fun H' z => z, fun v H' hy => ?_⟩
    obtain ⟨u', rfl, ku', rv⟩ := g2 v H' hy
    refine T.run u' v xs[i] _ _ rv fun σ2 hB => ⟨hw _ _ _ hB, ?_⟩
    rw [List.drop_eq_getElem_cons hi'] at h1
    unfold compO at h1
    cases hb : t xs[i] with
    | none => rw [hb] at h1; cases h1
    | some b =>
      rw [hb, Option.bind_some] at h1
      have mem : xs[i] ∈ xs := List.getElem_mem hi'
      have base : Ex s u' := (k.trans k2).trans (ku.trans ku')
      refine ht xs[i] b u' σ2 _ mem base hB hb fun u3 k3 => ?_
      have hlt : xs.length - (i + 1) < xs.length - i := by omega
      have kk : Ex u u3 := ku'.trans k3
      cases b with
      | false =>
        rw [if_neg Bool.false_ne_true] at h1 ⊢
        exact ⟨_, hlt, u3, pre, vs, rfl, rfl, ku.trans kk, kk.n _ _ n2 n1, kk.h _ _ n2, n3.mono kk.f, suf, h1, h2⟩
      | true =>
        rw [if_pos rfl] at h1 ⊢
        cases hfx : f xs[i] with
        | none => rw [hfx] at h1; cases h1
        | some y =>
          rw [hfx, Option.bind_some] at h1
          cases hr : compO t f (xs.drop (i + 1)) with
          | none => rw [hr] at h1; cases h1
          | some suf' =>
            rw [hr] at h1
            cases h1
            intro s0 H0 C cl fp
            refine he xs[i] y u' σ2 mem base hB hb hfx s0 H0 C cl fp u3 k3 _ fun w u4 k4 r4 => ?_
            have k5 : Ex u u4 := kk.trans k4
            have hD4 : u4.H D = some (.lst vs) := k5.h _ _ n2
            have hF4 : u4.F D = none := k5.n _ _ n2 n1
            have hlen : vs.length < sizeLine := by
              have e1 := n3.len
              have e2 : ys.length = pre.length + (suf'.length + 1) := by rw [← h2, List.length_append, List.length_cons]
              omega
            refine ⟨vs, hD4, hlen, _, hlt, u4.put D (.lst (vs ++ [w])) hF4, pre ++ [y], vs ++ [w], rfl, rfl, (ku.trans k5).mu1 (Mx.put hF4) hD, hF4, upd_same, (n3.mono k5.f).snoc r4, suf', rfl, by rw [List.append_assoc]; exact h2⟩
  · left
    have hd : xs.drop i = [] := List.drop_eq_nil_of_le (by omega)
    rw [hd] at h1
    cases h1
    refine ⟨W.stop i u ku.f (by omega), q D u (k2.trans ku) (fr_back k2 hD) ⟨n1, vs, n2, ?_⟩⟩
    rw [← h2, List.append_nil]
    exact n3
structure EvL (X : Cx) (elt tg iter : Expr) (ifs : List Expr) (scope : Scope) (σ : St) (s : S) (ys : List β) : Prop where
  calm : X.calm = true
  nd : X.N.Nodup
  fs : ∀ x, foldedSetIterable iter X.env x = pure x
  ex : ∃ (own : List (Str × Nat)) (g : TG) (tt : TT), BlkOk X.N X.env.scope scope own ∧ (∀ s0 H0 C cl fp, PG (Blk X scope s0 H0 C cl fp) tg g) ∧ (∀ s0 H0 C cl fp, PTs (Blk X scope s0 H0 C cl fp) ifs tt) ∧
    ∀ s1, Ex s s1 → ∀ Q : VK, (∀ p s2, Ex s1 s2 → s1.H p = none → Own X.K s2 p ys → Q (.ref p) s2.H) → tLc (WI X tg iter) g tt (fun σ H Q => ∀ s0 H0 C cl fp, WE (Blk X scope s0 H0 C cl fp) elt σ H Q) (own.map (·.2)) σ s1.H Q
theorem EvL.n {ys : List β} (h : EvL X elt tg iter ifs scope σ s ys) : EvN X (.ListComp elt [⟨tg, iter, ifs, 0⟩] scope pos) σ s ys := fun s1 k Q q => by
  obtain ⟨own, g, tt, h1, h2, h3, h4⟩ := h.ex
  exact we_of (pe_lc h.calm h.nd pi_wi h1 h2 h3 (fun s0 H0 C cl fp => pe_im fun _ _ _ h => h s0 H0 C cl fp) h.fs) (h4 s1 k Q q)
theorem do_setL (i : Nat) {ys : List β} {n : Str} {py : Pos} {rest : List Stmt} {D : Ends} {spos : Pos} (h : EvL X elt tg iter ifs scope σ s ys) (k : ∀ p s1, Ex s s1 → s.H p = none → Own X.K s1 p ys → WSs X rest D (σ.set i (some (.ref p))) s1.H) (hk : X.env.scope.kind = .function) (hy : X.env.scope.names.lookup n = some .local)
    (hl : (py.line == pos.line) = true := by rfl) (ha : (scope.names.any fun (m, k) => m == n && (k == .local || k == .cell)) = false := by decide +kernel) (hi : X.N[i]? = some n := by rfl) :
    WSs X (.Assign [.Name n py] (.ListComp elt [⟨tg, iter, ifs, 0⟩] scope pos) spos :: rest) D σ s.H := by
  obtain ⟨own, g, tt, h1, h2, h3, h4⟩ := h.ex
  exact ws_of (pss_cons (ps_setLc (te := fun σ H Q => ∀ s0 H0 C cl fp, WE (Blk X scope s0 H0 C cl fp) elt σ H Q) h.calm h.nd hi hy (sw_true hk hy hl ha) pi_wi h1 h2 h3 (fun s0 H0 C cl fp => pe_im fun _ _ _ h => h s0 H0 C cl fp) h.fs) pss_ws) (h4 s (Ex.refl _) (fun x H1 => WSs X rest D (σ.set i (some x)) H1) fun p s2 k2 n2 o2 => k p s2 k2 n2 o2)
theorem wipe_set {τ : St} {j : Nat} {o : Option V} : ∀ {vs : List Nat}, j ∈ vs → wipe (τ.set j o) vs = wipe τ vs
  | v :: vs, h => by
    show (wipe (τ.set j o) vs).set v none = (wipe τ vs).set v none
    by_cases e : j ∈ vs
    · rw [wipe_set e]
    · have : j = v := by
        rcases List.mem_cons.mp h with z | z
        · exact z
        · exact absurd z e
      subst this
      have : ∀ {ws : List Nat} {τ : St}, j ∉ ws → wipe (τ.set j o) ws = (wipe τ ws).set j o := by
        intro ws
        induction ws with
        | nil => intro τ _; rfl
        | cons a r ih =>
          intro τ h
          show (wipe (τ.set j o) r).set a none = ((wipe τ r).set a none).set j o
          rw [ih fun z => h (List.mem_cons_of_mem _ z), List.set_comm _ _ (fun z => h (by rw [z]; exact List.mem_cons_self))]
      rw [this e, List.set_set]
theorem wipe_wipe {τ : St} : ∀ {vs ws : List Nat}, (∀ v ∈ vs, v ∈ ws) → wipe (wipe τ vs) ws = wipe τ ws
  | [], _, _ => rfl
  | v :: vs, ws, h => by
    show wipe ((wipe τ vs).set v none) ws = wipe τ ws
    rw [wipe_set (h v List.mem_cons_self)]
    exact wipe_wipe fun u hu => h u (List.mem_cons_of_mem _ hu)
theorem en_comp0 {xs : List α} {ys : List β} {f : α → Option β} {j : Nat} {n : Str} {py : Pos} (hc : X.calm = true) (hN : X.N.Nodup) (hi : EvI X (.Name n py) iter σ s xs) (ok : BlkOk X.N X.env.scope scope own) (hj : X.N[j]? = some n)
    (hjo : j ∈ own.map (·.2)) (hg : ∀ s0 H0 C cl fp, PG (Blk X scope s0 H0 C cl fp) (.Name n py) (gName j)) (hf : mapO f xs = some ys) (hz : ys.length ≤ sizeLine)
    (he : ∀ (x : α) (y : β) (v : V) (s1 : S), x ∈ xs → Ex s s1 → rep X.K s1.F v x → f x = some y → ∀ s0 H0 C cl fp, Ev (Blk X scope s0 H0 C cl fp) elt ((wipe σ (own.map (·.2))).set j (some v)) s1 y)
    (hs : ∀ x, foldedSetIterable iter X.env x = pure x := by intro _; rfl) : EvL X elt (.Name n py) iter [] scope σ s ys :=
  ⟨hc, hN, hs, own, _, _, ok, hg, fun _ _ _ _ _ => pts_nil, fun s1 k Q q => comp_read (t := fun _ => some true) hc hN hi ok hg tg_n (fun _ _ _ _ _ => pts_nil) hf hz (fun F x σ2 ⟨v, _, e⟩ => by rw [e, wipe_set hjo]; exact wipe_wipe fun _ z => z)
    (fun x b s1 σ2 Q _ _ _ hb q => by cases hb; exact q s1 (Ex.refl _)) (fun x y s1 σ2 hx k ⟨v, r, e⟩ _ hfx => by subst e; exact he x y v s1 hx k r hfx) s1 k Q q⟩
theorem en_comp1 {xs : List α} {ys : List β} {t : α → Option Bool} {f : α → Option β} {j : Nat} {n : Str} {py : Pos} (hc : X.calm = true) (hN : X.N.Nodup) (hi : EvI X (.Name n py) iter σ s xs) (ok : BlkOk X.N X.env.scope scope own) (hj : X.N[j]? = some n)
    (hjo : j ∈ own.map (·.2)) (hg : ∀ s0 H0 C cl fp, PG (Blk X scope s0 H0 C cl fp) (.Name n py) (gName j)) (hf : compO t f xs = some ys) (hz : ys.length ≤ sizeLine)
    (ht : ∀ (x : α) (b : Bool) (v : V) (s1 : S), x ∈ xs → Ex s s1 → rep X.K s1.F v x → t x = some b → ∀ s0 H0 C cl fp, EvT (Blk X scope s0 H0 C cl fp) c ((wipe σ (own.map (·.2))).set j (some v)) s1 b)
    (he : ∀ (x : α) (y : β) (v : V) (s1 : S), x ∈ xs → Ex s s1 → rep X.K s1.F v x → t x = some true → f x = some y → ∀ s0 H0 C cl fp, Ev (Blk X scope s0 H0 C cl fp) elt ((wipe σ (own.map (·.2))).set j (some v)) s1 y)
    (hs : ∀ x, foldedSetIterable iter X.env x = pure x := by intro _; rfl) : EvL X elt (.Name n py) iter [c] scope σ s ys :=
  ⟨hc, hN, hs, own, _, _, ok, hg, fun s0 H0 C cl fp => pts_one (pt_im fun _ _ _ h => h s0 H0 C cl fp), fun s1 k Q q => comp_read (tt := fun σ H Q => ∀ s0 H0 C cl fp, WT (Blk X scope s0 H0 C cl fp) c σ H Q) hc hN hi ok hg tg_n (fun s0 H0 C cl fp => pts_one (pt_im fun _ _ _ h => h s0 H0 C cl fp)) hf hz (fun F x σ2 ⟨v, _, e⟩ => by rw [e, wipe_set hjo]; exact wipe_wipe fun _ z => z)
    (fun x b s1 σ2 Q hx k ⟨v, r, e⟩ hb q => by subst e; intro s0 H0 C cl fp; exact ht x b v s1 hx k r hb s0 H0 C cl fp s1 (Ex.refl _) Q q) (fun x y s1 σ2 hx k ⟨v, r, e⟩ htx hfx => by subst e; exact he x y v s1 hx k r htx hfx) s1 k Q q⟩
end
end Dy

namespace Dy
open PySem PySem.Spec L2
open PyProof.Rows hiding St
open Enc (rep)
open Flat (toV)
open EncA (repA)

abbrev MD (D : Ends) (M : St → S → Prop) : Ends := { D with nx := fun σ H => ∃ s : S, s.H = H ∧ M σ s }
abbrev ND (D : Ends) : Ends := { D with nx := fun _ _ => False }
abbrev LD (D : Ends) (M : St → S → Prop) : Ends := { nx := fun σ H => ∃ s : S, s.H = H ∧ M σ s, rt := D.rt }
abbrev RD (Q : VK) : Ends := { nx := fun _ H' => Q .non H', rt := Q }
section
variable {α β γ δ : Type} [Enc α] [Enc β] [Enc γ] [Enc δ] {X : Cx} {σ : St} {s t : S} {e a b c tg iter : Expr} {es : List Expr} {pos p0 p1 p2 p3 : Pos} {D : Ends} {rest A B : List Stmt}
theorem do_nil (h : D.nx σ s.H) : WSs X [] D σ s.H := ws_of pss_nil h
theorem do_cons {st : Stmt} {ts : TS} (h : PS X st ts) (q : ts { D with nx := fun σ' H' => WSs X rest D σ' H' } σ s.H) : WSs X (st :: rest) D σ s.H := ws_of (pss_cons h pss_ws) q
theorem do_set (i : Nat) {x : α} {n : Str} {py : Pos} (h : Ev X e σ s x) (k : ∀ v s1, Ex s s1 → rep X.K s1.F v x → WSs X rest D (σ.set i (some v)) s1.H) (hN : X.N.Nodup) (hx : Loc X.env.scope n := by first | exact Or.inl rfl | exact Or.inr rfl) (hi : X.N[i]? = some n := by rfl)
    (hs : swapsWith e (some (.Name n py)) pos.line X.env = pure false := by rfl) (hf : X.fn n = true ∨ X.env.scope.names.lookup n = some .local := by first | exact .inl rfl | exact .inr rfl) : WSs X (.Assign [.Name n py] e pos :: rest) D σ s.H :=
  do_cons (ps_set hN hi hx pe_we hs hf) (h s (Ex.refl _) _ fun v s1 k1 r => k v s1 k1 r)
theorem do_setN (i : Nat) {xs : List α} {n : Str} {py : Pos} (h : EvN X e σ s xs) (k : ∀ p s1, Ex s s1 → s.H p = none → Own X.K s1 p xs → WSs X rest D (σ.set i (some (.ref p))) s1.H) (hN : X.N.Nodup) (hx : Loc X.env.scope n := by first | exact Or.inl rfl | exact Or.inr rfl) (hi : X.N[i]? = some n := by rfl)
    (hs : swapsWith e (some (.Name n py)) pos.line X.env = pure false := by rfl) (hf : X.fn n = true ∨ X.env.scope.names.lookup n = some .local := by first | exact .inl rfl | exact .inr rfl) : WSs X (.Assign [.Name n py] e pos :: rest) D σ s.H :=
  do_cons (ps_set hN hi hx pe_we hs hf) (h s (Ex.refl _) _ fun v s1 k1 n1 r => k v s1 k1 n1 r)
theorem do_ret {x : α} (h : Ev X e σ s x) (k : ∀ v s1, Ex s s1 → rep X.K s1.F v x → D.rt v s1.H) : WSs X (.Return (some e) pos :: rest) D σ s.H :=
  do_cons (ps_ret pe_we) (h s (Ex.refl _) _ fun v s1 k1 r => k v s1 k1 r)
theorem do_retN {xs : List α} (h : EvN X e σ s xs) (k : ∀ p s1, Ex s s1 → s.H p = none → Own X.K s1 p xs → D.rt (.ref p) s1.H) : WSs X (.Return (some e) pos :: rest) D σ s.H :=
  do_cons (ps_ret pe_we) (h s (Ex.refl _) _ fun v s1 k1 n1 r => k v s1 k1 n1 r)
theorem do_retO (i : Nat) {p : Addr} {n : Str} (h : σ[i]? = some (some (.ref p))) (k : D.rt (.ref p) s.H) (hN : X.N[i]? = some n := by rfl) (hv : Vis X.env.scope n := by first | exact Or.inl rfl | exact Or.inr (Or.inl rfl) | exact Or.inr (Or.inr rfl)) (hd : (n == ("__debug__" : Str)) = false := by decide)
    (hcd : (n == ("__classdict__" : Str)) = false := by decide) : WSs X (.Return (some (.Name n p0)) pos :: rest) D σ s.H :=
  do_cons (ps_ret (pe_var hN hv hd hcd)) ⟨_, h, k⟩
theorem do_if {x : Bool} (hc : EvT X c σ s x) (M : St → S → Prop) (h1 : x = true → ∀ s1, Ex s s1 → WSs X A (MD D M) σ s1.H) (h2 : x = false → ∀ s1, Ex s s1 → WSs X B (MD D M) σ s1.H)
    (h3 : ∀ σ' s', M σ' s' → WSs X rest D σ' s'.H) : WSs X (.If c A B pos :: rest) D σ s.H :=
  do_cons (ps_if pt_wt pss_ws pss_ws) (hc s (Ex.refl _) _ fun s1 k => by
    cases x with
    | true => exact iteT ((h1 rfl s1 k).imp (fun σ' H' ⟨s', e, m⟩ => e ▸ h3 σ' s' m) (fun _ _ q => q) (fun _ _ q => q) fun _ _ q => q)
    | false => exact iteF ((h2 rfl s1 k).imp (fun σ' H' ⟨s', e, m⟩ => e ▸ h3 σ' s' m) (fun _ _ q => q) (fun _ _ q => q) fun _ _ q => q))
theorem do_ifR {x : Bool} (hc : EvT X c σ s x) (h1 : x = true → ∀ s1, Ex s s1 → WSs X A (ND D) σ s1.H) (h2 : x = false → ∀ s1, Ex s s1 → WSs X rest D σ s1.H) : WSs X (.If c A [] pos :: rest) D σ s.H :=
  do_cons (ps_if pt_wt pss_ws pss_nil) (hc s (Ex.refl _) _ fun s1 k => by
    cases x with
    | true => exact iteT ((h1 rfl s1 k).imp (fun _ _ z => z.elim) (fun _ _ q => q) (fun _ _ q => q) fun _ _ q => q)
    | false => exact iteF (h2 rfl s1 k))
theorem do_ifRR {x : Bool} (hc : EvT X c σ s x) (h1 : x = true → ∀ s1, Ex s s1 → WSs X A (ND D) σ s1.H) (h2 : x = false → ∀ s1, Ex s s1 → WSs X B (ND D) σ s1.H) : WSs X (.If c A B pos :: rest) D σ s.H :=
  do_cons (ps_if pt_wt pss_ws pss_ws) (hc s (Ex.refl _) _ fun s1 k => by
    cases x with
    | true => exact iteT ((h1 rfl s1 k).imp (fun _ _ z => z.elim) (fun _ _ q => q) (fun _ _ q => q) fun _ _ q => q)
    | false => exact iteF ((h2 rfl s1 k).imp (fun _ _ z => z.elim) (fun _ _ q => q) (fun _ _ q => q) fun _ _ q => q))

theorem st_set {l : St} {i : Nat} {v : V} (h : l[i]? = some (some v)) : l[i]? = some (some v) := h
theorem do_append (i : Nat) {p : Addr} {n : Str} {xs : List α} {x : α} (hσ : σ[i]? = some (some (.ref p))) (o : Own X.K s p xs) (he : Ev X e σ s x) (hz : xs.length < sizeLine)
    (k : ∀ s1, Mx (· = p) s s1 → Own X.K s1 p (xs ++ [x]) → WSs X rest D σ s1.H)
    (hN : X.N[i]? = some n := by rfl) (hv : Vis X.env.scope n := by first | exact Or.inl rfl | exact Or.inr (Or.inl rfl) | exact Or.inr (Or.inr rfl)) (hd : (n == ("__debug__" : Str)) = false := by decide) (hcd : (n == ("__classdict__" : Str)) = false := by decide)
    (hbase : attributeBase (.Name n p0) "append" X.env (eval (.Name n p0) X.env) = eval (.Name n p0) X.env := by rfl)
    (hfew : ((backTo p2 (starEach [e] X.env)).all (fun x => !x.1) && (backToKw p2 (keywordEach [] X.env)).all (fun x => x.1.isSome) && decide (([e] : List Expr).length + ([] : List Keyword).length + (if ([] : List Keyword).isEmpty then 0 else 1) < 30)) = true := by rfl)
    (hline : (p1.endLine == p2.line) = true := by rfl) (hs : starEach [e] X.env = (false, eval e X.env) :: starEach [] X.env := by rfl) (hplain : (backTo p2 (starEach [] X.env)).any (·.1) = false := by rfl)
    (hsw : swapsWith (.Call (.Attribute (.Name n p0) "append" p1) [e] [] p2) none p3.line X.env = pure false := by rfl) :
    WSs X (.Expr (.Call (.Attribute (.Name n p0) "append" p1) [e] [] p2) p3 :: rest) D σ s.H :=
  do_cons (ps_expr (pe_bm PySem.F.plainAttrs_list PySem.F.slot_list_append PySem.F.type_list_append mt_append (pe_var hN hv hd hcd) (pa_cons pe_we pa_nil hs) hbase hfew hline hs hplain) hsw) (by
    obtain ⟨h1, vs, h2, h3⟩ := id o
    refine ⟨_, hσ, .inl ⟨rfl, vs, .inl (.inl h2)⟩, he s (Ex.refl _) _ fun v s1 k1 r1 => ?_⟩
    have f1 := k1.n _ _ h2 h1
    have g1 := k1.h _ _ h2
    refine ⟨p, vs, v, rfl, rfl, g1, by rw [h3.len]; exact hz, ?_⟩
    exact k (s1.put p (.lst (vs ++ [v])) f1) (k1.mx.trans (Mx.put f1)) ⟨f1, _, upd_same, (h3.mono k1.f).snoc r1⟩)
theorem do_extend (i : Nat) {p : Addr} {n : Str} {xs ys : List α} (hσ : σ[i]? = some (some (.ref p))) (o : Own X.K s p xs) (he : EvN X e σ s ys) (hz : xs.length + ys.length ≤ sizeLine)
    (k : ∀ s1, Mx (· = p) s s1 → Own X.K s1 p (xs ++ ys) → WSs X rest D σ s1.H)
    (hN : X.N[i]? = some n := by rfl) (hv : Vis X.env.scope n := by first | exact Or.inl rfl | exact Or.inr (Or.inl rfl) | exact Or.inr (Or.inr rfl)) (hd : (n == ("__debug__" : Str)) = false := by decide) (hcd : (n == ("__classdict__" : Str)) = false := by decide)
    (hbase : attributeBase (.Name n p0) "extend" X.env (eval (.Name n p0) X.env) = eval (.Name n p0) X.env := by rfl)
    (hfew : ((backTo p2 (starEach [e] X.env)).all (fun x => !x.1) && (backToKw p2 (keywordEach [] X.env)).all (fun x => x.1.isSome) && decide (([e] : List Expr).length + ([] : List Keyword).length + (if ([] : List Keyword).isEmpty then 0 else 1) < 30)) = true := by rfl)
    (hline : (p1.endLine == p2.line) = true := by rfl) (hs : starEach [e] X.env = (false, eval e X.env) :: starEach [] X.env := by rfl) (hplain : (backTo p2 (starEach [] X.env)).any (·.1) = false := by rfl)
    (hsw : swapsWith (.Call (.Attribute (.Name n p0) "extend" p1) [e] [] p2) none p3.line X.env = pure false := by rfl) :
    WSs X (.Expr (.Call (.Attribute (.Name n p0) "extend" p1) [e] [] p2) p3 :: rest) D σ s.H :=
  do_cons (ps_expr (pe_bm PySem.F.plainAttrs_list PySem.F.slot_list_extend PySem.F.type_list_extend mt_extend (pe_var hN hv hd hcd) (pa_cons pe_we pa_nil hs) hbase hfew hline hs hplain) hsw) (by
    obtain ⟨h1, vs, h2, h3⟩ := id o
    refine ⟨_, hσ, .inl ⟨rfl, vs, .inl (.inl h2)⟩, he s (Ex.refl _) _ fun q s1 k1 n1 o1 => ?_⟩
    obtain ⟨_, ws, h4, h5⟩ := o1
    have f1 := k1.n _ _ h2 h1
    have g1 := k1.h _ _ h2
    refine ⟨p, q, vs, ws, rfl, rfl, g1, h4, by rw [h3.len, h5.len]; exact hz, ?_⟩
    exact k (s1.put p (.lst (vs ++ ws)) f1) (k1.mx.trans (Mx.put f1)) ⟨f1, _, upd_same, (h3.mono k1.f).app h5⟩)
theorem do_setItem (i : Nat) {p : Addr} {n : Str} {xs : List α} {x : α} {z : Int} {j : Nat} (hσ : σ[i]? = some (some (.ref p))) (o : Own X.K s p xs) (he : Ev X e σ s x) (hi : Ev X a σ s z) (hj : ixN xs.length z = some j)
    (k : ∀ s1, Mx (· = p) s s1 → Own X.K s1 p (xs.set j x) → WSs X rest D σ s1.H)
    (hN : X.N[i]? = some n := by rfl) (hv : Vis X.env.scope n := by first | exact Or.inl rfl | exact Or.inr (Or.inl rfl) | exact Or.inr (Or.inr rfl)) (hd : (n == ("__debug__" : Str)) = false := by decide) (hcd : (n == ("__classdict__" : Str)) = false := by decide)
    (ha : ∀ v, assign (.Subscript (.Name n p0) a p1) X.env v = (do
      let ov ← holding [v] (eval (.Name n p0) X.env)
      let iv ← holding [v, ov] (eval a X.env)
      standAt p1
      holding [v, ov, iv] (setItem ov iv v)
      release [v, ov, iv] []) := by intro _; rfl)
    (hs : swapsWithSole [.Subscript (.Name n p0) a p1] e pos.line X.env = pure false := by rfl) (hw : swappedStores [.Subscript (.Name n p0) a p1] e X.env = pure none := by rfl)
    (h1 : (assignEach [.Subscript (.Name n p0) a p1] X.env).map (·.2) = [assign (.Subscript (.Name n p0) a p1) X.env] := by rfl) :
    WSs X (.Assign [.Subscript (.Name n p0) a p1] e pos :: rest) D σ s.H :=
  do_cons (ps_asg pe_we (pg_sub (pe_var hN hv hd hcd) pe_we set_list ha) hs hw h1) (by
    obtain ⟨f0, vs, h2, h3⟩ := id o
    refine he s (Ex.refl _) _ fun v s1 k1 r1 => ⟨_, hσ, hi s1 k1 _ fun u s2 k2 r2 => ?_⟩
    have k3 := k1.trans k2
    have f1 := k3.n _ _ h2 f0
    have g1 := k3.h _ _ h2
    refine ⟨p, vs, z, j, rfl, r2, g1, by rw [h3.len]; exact hj, ?_⟩
    exact k (s2.put p (.lst (vs.set j v)) f1) (k3.mx.trans (Mx.put f1)) ⟨f1, _, upd_same, (h3.mono k3.f).set j (Enc.mono k2.f r1)⟩)
theorem do_frz {p : Addr} {xs : List α} {ss : List Stmt} (o : Own X.K s p xs) (k : ∀ s' : S, s'.H = s.H → Fle s.F s'.F → (∀ q, q ≠ p → s'.F q = s.F q) → rep X.K s'.F (.ref p) xs → WSs X ss D σ s'.H) : WSs X ss D σ s.H := by
  obtain ⟨s', h1, h2, h3, h4⟩ := o.frz
  have := k s' h1 h2 h3 h4
  rw [h1] at this
  exact this

theorem foldO_drop {τ υ : Type} {f : υ → τ → Option υ} {b b1 : υ} {xs : List τ} {i : Nat} (hi : i < xs.length) (h : foldO f b (xs.drop i) = some b1) : ∃ b', f b xs[i] = some b' ∧ foldO f b' (xs.drop (i + 1)) = some b1 := by
  rw [List.drop_eq_getElem_cons hi] at h
  exact bndE h
theorem do_for_core {τ : Type} [Enc τ] {xs : List τ} {body : List Stmt} {g : TG} {B : Hp → τ → St → St → Prop} (hp : PassesOwn (model X.prog X.w) X.A X.env X.xe) (hc : X.calm = true) (hi : EvI X tg iter σ s xs) (hg : PG X tg g) (T : Tgt (α := τ) X.K g B)
    (R : Nat → St → S → Prop) (h0 : ∀ s1, Ex s s1 → R 0 σ s1)
    (hb : ∀ s1, Ex s s1 → ∀ (i : Nat) (x : τ) (σ' σ2 : St) (t t' : S), xs[i]? = some x → Fle s1.F t.F → R i σ' t → Ex t t' → B t'.F x σ' σ2 → WSs X body (LD D fun σ s => Fle t'.F s.F ∧ R (i + 1) σ s) σ2 t'.H)
    (hd : ∀ s1, Ex s s1 → ∀ σ' t, Fle s1.F t.F → R xs.length σ' t → WSs X rest D σ' t.H)
    (hs : ∀ x, foldedSetIterable iter X.env x = pure x := by intro _; rfl) : WSs X (.For tg iter body [] pos :: rest) D σ s.H :=
  do_cons (ps_for hp hc pi_wi hg pss_ws hs) (hi s (Ex.refl _) _ fun J s1 k1 W => by
    refine ⟨fun i m σ' H' => ∃ t : S, t.H = H' ∧ m = xs.length - i ∧ i ≤ xs.length ∧ Fle s1.F t.F ∧ R i σ' t, ⟨xs.length, s1, rfl, rfl, Nat.zero_le _, Fle.refl _, h0 s1 k1⟩, ?_⟩
    rintro i m σ' H' ⟨t, rfl, rfl, hle, f, r⟩
    by_cases hlt : i < xs.length
    · right
      obtain ⟨g1, g2⟩ := W.go i t xs[i] f (List.getElem?_eq_getElem hlt)
      refine ⟨g1, fun σ' H' => ∃ u : S, u.H = H' ∧ Fle s1.F u.F ∧ R (i + 1) σ' u, fun σ' H' ⟨u, e1, f1, r1⟩ => ⟨xs.length - (i + 1), by omega, u, e1, rfl, hlt, f1, r1⟩, fun v H' hy => ?_⟩
      obtain ⟨t', rfl, kt, rv⟩ := g2 v H' hy
      refine T.run t' v xs[i] _ _ rv fun σ2 hB => ?_
      have := hb s1 k1 i xs[i] σ' σ2 t t' (List.getElem?_eq_getElem hlt) f r kt hB
      exact this.imp (fun σ3 H3 ⟨u, e1, f1, r1⟩ => ⟨u, e1, (f.trans kt.f).trans f1, r1⟩) (fun _ _ q => q) (fun _ _ q => q.elim) (fun _ _ q => q.elim)
    · left
      have e : i = xs.length := by omega
      subst e
      exact ⟨W.stop _ t f (Nat.le_refl _), hd s1 k1 σ' t f r⟩)
theorem do_forO {τ υ : Type} [Enc τ] {xs : List τ} {f : υ → τ → Option υ} {b0 b1 : υ} {body : List Stmt} {g : TG} {B : Hp → τ → St → St → Prop} (hp : PassesOwn (model X.prog X.w) X.A X.env X.xe) (hc : X.calm = true) (hi : EvI X tg iter σ s xs) (hg : PG X tg g) (T : Tgt (α := τ) X.K g B)
    (hf : foldO f b0 xs = some b1) (R : υ → St → S → Prop) (h0 : ∀ s1, Ex s s1 → R b0 σ s1)
    (hb : ∀ s1, Ex s s1 → ∀ (x : τ) (b b' : υ) (σ' σ2 : St) (t t' : S), x ∈ xs → f b x = some b' → Fle s1.F t.F → R b σ' t → Ex t t' → B t'.F x σ' σ2 → WSs X body (LD D fun σ s => Fle t'.F s.F ∧ R b' σ s) σ2 t'.H)
    (hd : ∀ s1, Ex s s1 → ∀ σ' t, Fle s1.F t.F → R b1 σ' t → WSs X rest D σ' t.H)
    (hs : ∀ x, foldedSetIterable iter X.env x = pure x := by intro _; rfl) : WSs X (.For tg iter body [] pos :: rest) D σ s.H :=
  do_for_core hp hc hi hg T (fun i σ' t => ∃ b, foldO f b (xs.drop i) = some b1 ∧ R b σ' t) (fun s1 k => ⟨b0, hf, h0 s1 k⟩)
    (fun s1 k i x σ' σ2 t t' hx fl ⟨b, h1, h2⟩ kt hB => by
      obtain ⟨hlt, rfl⟩ := List.getElem?_eq_some_iff.mp hx
      obtain ⟨b', h3, h4⟩ := foldO_drop hlt h1
      exact (hb s1 k xs[i] b b' σ' σ2 t t' (List.getElem_mem hlt) h3 fl h2 kt hB).imp (fun σ3 H3 ⟨u, e1, f1, r1⟩ => ⟨u, e1, f1, b', h4, r1⟩) (fun _ _ q => q) (fun _ _ q => q.elim) (fun _ _ q => q.elim))
    (fun s1 k σ' t fl ⟨b, h1, h2⟩ => by
      rw [List.drop_length] at h1
      cases h1
      exact hd s1 k σ' t fl h2) hs
theorem foldF_drop {τ υ ρ : Type} {f : υ → τ → Option (Fl υ ρ)} {b : υ} {o : Fl υ ρ} {xs : List τ} {i : Nat} (hi : i < xs.length) (h : foldF f b (xs.drop i) = some o) : ∃ q, f b xs[i] = some q ∧ (∀ b', q = .nx b' → foldF f b' (xs.drop (i + 1)) = some o) ∧ ∀ r, q = .rt r → o = .rt r := by
  rw [List.drop_eq_getElem_cons hi] at h
  obtain ⟨q, h1, h2⟩ := bndE h
  refine ⟨q, h1, fun b' e => by subst e; exact h2, fun r e => by subst e; exact (Option.some.inj h2).symm⟩
theorem do_forF {τ υ ρ : Type} [Enc τ] {xs : List τ} {f : υ → τ → Option (Fl υ ρ)} {b0 : υ} {o : Fl υ ρ} {body : List Stmt} {g : TG} {B : Hp → τ → St → St → Prop} (hp : PassesOwn (model X.prog X.w) X.A X.env X.xe) (hc : X.calm = true) (hi : EvI X tg iter σ s xs) (hg : PG X tg g) (T : Tgt (α := τ) X.K g B)
    (hf : foldF f b0 xs = some o) (R : υ → St → S → Prop) (h0 : ∀ s1, Ex s s1 → R b0 σ s1)
    (hb : ∀ s1, Ex s s1 → ∀ (x : τ) (b : υ) (q : Fl υ ρ) (σ' σ2 : St) (t t' : S), x ∈ xs → f b x = some q → (∀ r, q = .rt r → o = .rt r) → Fle s1.F t.F → R b σ' t → Ex t t' → B t'.F x σ' σ2 → WSs X body (LD D fun σ s => ∃ b', q = .nx b' ∧ Fle t'.F s.F ∧ R b' σ s) σ2 t'.H)
    (hd : ∀ s1, Ex s s1 → ∀ b1 σ' t, o = .nx b1 → Fle s1.F t.F → R b1 σ' t → WSs X rest D σ' t.H)
    (hs : ∀ x, foldedSetIterable iter X.env x = pure x := by intro _; rfl) : WSs X (.For tg iter body [] pos :: rest) D σ s.H :=
  do_for_core hp hc hi hg T (fun i σ' t => ∃ b, foldF f b (xs.drop i) = some o ∧ R b σ' t) (fun s1 k => ⟨b0, hf, h0 s1 k⟩)
    (fun s1 k i x σ' σ2 t t' hx fl ⟨b, h1, h2⟩ kt hB => by
      obtain ⟨hlt, rfl⟩ := List.getElem?_eq_some_iff.mp hx
      obtain ⟨q, h3, h4, h5⟩ := foldF_drop hlt h1
      exact (hb s1 k xs[i] b q σ' σ2 t t' (List.getElem_mem hlt) h3 h5 fl h2 kt hB).imp (fun σ3 H3 ⟨u, e1, b', e2, f1, r1⟩ => ⟨u, e1, f1, b', h4 b' e2, r1⟩) (fun _ _ q => q) (fun _ _ q => q.elim) (fun _ _ q => q.elim))
    (fun s1 k σ' t fl ⟨b, h1, h2⟩ => by
      rw [List.drop_length] at h1
      cases h1
      exact hd s1 k b σ' t rfl fl h2) hs
theorem do_whileO {υ : Type} {cf : υ → Option Bool} {f : υ → Option υ} {n : Nat} {b0 b1 : υ} {body : List Stmt} (hp : PassesOwn (model X.prog X.w) X.A X.env X.xe) (hf : whileO cf f n b0 = some b1) (R : υ → St → S → Prop) (h0 : R b0 σ s)
    (hc : ∀ (b : υ) (x : Bool) (σ' : St) (t : S), cf b = some x → Fle s.F t.F → R b σ' t → EvT X c σ' t x)
    (hb : ∀ (b b' : υ) (σ' : St) (t t' : S), cf b = some true → f b = some b' → Fle s.F t.F → R b σ' t → Ex t t' → WSs X body (LD D fun σ s => Fle t'.F s.F ∧ R b' σ s) σ' t'.H)
    (hd : ∀ σ' t t', cf b1 = some false → Fle s.F t.F → R b1 σ' t → Ex t t' → WSs X rest D σ' t'.H) : WSs X (.While c body [] pos :: rest) D σ s.H :=
  do_cons (ps_while hp pt_wt pss_ws) (by
    refine ⟨fun m σ' H' => ∃ (t : S) (b : υ), t.H = H' ∧ Fle s.F t.F ∧ whileO cf f m b = some b1 ∧ R b σ' t, ⟨n, s, b0, rfl, Fle.refl _, hf, h0⟩, ?_⟩
    rintro m σ' H' ⟨t, b, rfl, fl, h1, h2⟩
    cases m with
    | zero => cases h1
    | succ m =>
      obtain ⟨x, h3, h4⟩ := bndE h1
      refine hc b x σ' t h3 fl h2 t (Ex.refl _) _ fun t' kt => ?_
      cases x with
      | true =>
        refine iteT ?_
        rw [if_pos rfl] at h4
        obtain ⟨b', h5, h6⟩ := bndE h4
        refine ⟨fun σ3 H3 => ∃ u : S, u.H = H3 ∧ Fle s.F u.F ∧ R b' σ3 u, fun σ3 H3 ⟨u, e1, f1, r1⟩ => ⟨m, Nat.lt_succ_self _, u, b', e1, f1, h6, r1⟩, ?_⟩
        exact (hb b b' σ' t t' h3 h5 fl h2 kt).imp (fun σ3 H3 ⟨u, e1, f1, r1⟩ => ⟨u, e1, (fl.trans kt.f).trans f1, r1⟩) (fun _ _ q => q) (fun _ _ q => q.elim) (fun _ _ q => q.elim)
      | false =>
        refine iteF ?_
        rw [if_neg Bool.false_ne_true] at h4
        cases h4
        exact hd σ' t t' h3 fl h2 kt)
end
end Dy

namespace Dy
open PySem PySem.Spec L2
open PyProof.Rows hiding St
open Enc (rep)
open Flat (toV)
open EncA (repA)

section
variable {P : Program} {w : World} {K : PySem.W.Frag} {mg : Str → Option Value} {base : Heap}
abbrev FunP (K : PySem.W.Frag) (x : Str) (st : Stmt) (f : Addr) (fd : FuncData) : Prop := FunD K x x (defArgs st) (defBody st) (defScope st) [] [] f fd
theorem mk_fn {A ρ : Type} [EncA A] [Enc ρ] {m : A → Option ρ} {x : Str} {st : Stmt} {f : Addr} {fd : FuncData} {N ps : List Str} {k : Nat} (F : FunP K x st f fd) (Sc : FnScope N ps (defScope st))
    (hl : ∀ (F : Hp) (vs : List V) (a : A), repA K F vs a → vs.length = ps.length)
    (body : ∀ (cdv : Value) (A' : Around) (outer : List Env) (s0 : Shared) (H0 : Hp) (E0 : XK), Room k (A'.deeper (envOfC x (defScope st) s0.heap.objs.size f cdv)) → ∀ (s : S) (vs : List V) (a : A) (r : ρ) (Q : VK), repA K s.F vs a → m a = some r →
      (∀ v s', Ex s s' → rep K s'.F v r → Q v s'.H) → WSs (cxOf CX0 P w K mg base N x (defScope st) f cdv A' outer s0 H0 E0).nox (defBody st) (RD Q) (start N vs) s.H) : FnOk P w K mg base CX0 (k + 1) f fd ps (sp K m) :=
  F.ok Sc (fun vs H Q E ⟨s, a, r, _, h, _⟩ => hl s.F vs a h) (fun cdv A' outer s0 H0 vs Q E hr ⟨s, a, r, e, h1, h2, h3⟩ => ⟨_, pss_ws.nox, by
    have := body cdv A' outer s0 H0 E hr s vs a r Q h1 h2 h3
    rw [e] at this
    exact this⟩)
theorem mk_cal {A ρ : Type} [EncA A] [Enc ρ] {m : A → Option ρ} {x : Str} {st : Stmt} {f : Addr} {fd : FuncData} {N ps : List Str} {k : Nat} (F : FunP K x st f fd) (hm : mg x = some (.ref f)) (b : Binds K fd ps []) (Sc : FnScope N ps (defScope st))
    (hl : ∀ (F : Hp) (vs : List V) (a : A), repA K F vs a → vs.length = ps.length)
    (body : ∀ (cdv : Value) (A' : Around) (outer : List Env) (s0 : Shared) (H0 : Hp) (E0 : XK), Room k (A'.deeper (envOfC x (defScope st) s0.heap.objs.size f cdv)) → ∀ (s : S) (vs : List V) (a : A) (r : ρ) (Q : VK), repA K s.F vs a → m a = some r →
      (∀ v s', Ex s s' → rep K s'.F v r → Q v s'.H) → WSs (cxOf CX0 P w K mg base N x (defScope st) f cdv A' outer s0 H0 E0).nox (defBody st) (RD Q) (start N vs) s.H) : Cal P w K mg base CX0 (k + 1) x (sp K m) :=
  ⟨f, fd, ps, F.ok Sc (fun vs H Q E ⟨s, a, r, _, h, _⟩ => hl s.F vs a h) (fun cdv A' outer s0 H0 vs Q E hr ⟨s, a, r, e, h1, h2, h3⟩ => ⟨_, pss_ws.nox, by
    have := body cdv A' outer s0 H0 E hr s vs a r Q h1 h2 h3
    rw [e] at this
    exact this⟩), hm, F.kp, b⟩
theorem mk_calN {A ρ : Type} [EncA A] [Enc ρ] {m : A → Option (List ρ)} {x : Str} {st : Stmt} {f : Addr} {fd : FuncData} {N ps : List Str} {k : Nat} (F : FunP K x st f fd) (hm : mg x = some (.ref f)) (b : Binds K fd ps []) (Sc : FnScope N ps (defScope st))
    (hl : ∀ (F : Hp) (vs : List V) (a : A), repA K F vs a → vs.length = ps.length)
    (body : ∀ (cdv : Value) (A' : Around) (outer : List Env) (s0 : Shared) (H0 : Hp) (E0 : XK), Room k (A'.deeper (envOfC x (defScope st) s0.heap.objs.size f cdv)) → ∀ (s : S) (vs : List V) (a : A) (r : List ρ) (Q : VK), repA K s.F vs a → m a = some r →
      (∀ p s', Ex s s' → s.H p = none → Own K s' p r → Q (.ref p) s'.H) → WSs (cxOf CX0 P w K mg base N x (defScope st) f cdv A' outer s0 H0 E0).nox (defBody st) (RD Q) (start N vs) s.H) : Cal P w K mg base CX0 (k + 1) x (spN K m) :=
  ⟨f, fd, ps, F.ok Sc (fun vs H Q E ⟨s, a, r, _, h, _⟩ => hl s.F vs a h) (fun cdv A' outer s0 H0 vs Q E hr ⟨s, a, r, e, h1, h2, h3⟩ => ⟨_, pss_ws.nox, by
    have := body cdv A' outer s0 H0 E hr s vs a r Q h1 h2 h3
    rw [e] at this
    exact this⟩), hm, F.kp, b⟩
theorem len1 {α : Type} [Enc α] (F : Hp) (vs : List V) (a : α × Unit) (h : repA K F vs a) : vs.length = 1 := by obtain ⟨_, _, rfl, _, rfl⟩ := h; rfl
theorem len2 {α β : Type} [Enc α] [Enc β] (F : Hp) (vs : List V) (a : α × β × Unit) (h : repA K F vs a) : vs.length = 2 := by obtain ⟨_, _, rfl, _, _, _, rfl, _, rfl⟩ := h; rfl
theorem len3 {α β γ : Type} [Enc α] [Enc β] [Enc γ] (F : Hp) (vs : List V) (a : α × β × γ × Unit) (h : repA K F vs a) : vs.length = 3 := by obtain ⟨_, _, rfl, _, _, _, rfl, _, _, _, rfl, _, rfl⟩ := h; rfl
theorem len4 {α β γ δ : Type} [Enc α] [Enc β] [Enc γ] [Enc δ] (F : Hp) (vs : List V) (a : α × β × γ × δ × Unit) (h : repA K F vs a) : vs.length = 4 := by obtain ⟨_, _, rfl, _, _, _, rfl, _, _, _, rfl, _, _, _, rfl, _, rfl⟩ := h; rfl
theorem len5 {α β γ δ ε : Type} [Enc α] [Enc β] [Enc γ] [Enc δ] [Enc ε] (F : Hp) (vs : List V) (a : α × β × γ × δ × ε × Unit) (h : repA K F vs a) : vs.length = 5 := by obtain ⟨_, _, rfl, _, _, _, rfl, _, _, _, rfl, _, _, _, rfl, _, _, _, rfl, _, rfl⟩ := h; rfl
theorem len6 {α β γ δ ε ζ : Type} [Enc α] [Enc β] [Enc γ] [Enc δ] [Enc ε] [Enc ζ] (F : Hp) (vs : List V) (a : α × β × γ × δ × ε × ζ × Unit) (h : repA K F vs a) : vs.length = 6 := by obtain ⟨_, _, rfl, _, _, _, rfl, _, _, _, rfl, _, _, _, rfl, _, _, _, rfl, _, _, _, rfl, _, rfl⟩ := h; rfl
end

class Ty (α : Type) extends Enc α where
  ty : α → String
  is : ∀ {K : PySem.W.Frag} {F H : Hp} {v : V} {x : α}, rep K F v x → Fle F H → TyX K H v (.type (ty x))
theorem sql_ty {K : PySem.W.Frag} {H : Hp} {p : Addr} {vs : List V} (h : SqL K H p vs) : TyX K H (.ref p) (.type "list") := by
  rcases h with (h | ⟨o, h⟩) | ⟨o, its, n, h, hc, _⟩
  · exact .base (.lst h)
  · exact .base (.frz h)
  · exact .kList h hc
theorem sqt_ty {K : PySem.W.Frag} {H : Hp} {p : Addr} {vs : List V} (h : SqT K H p vs) : TyX K H (.ref p) (.type "tuple") := by
  rcases h with (h | ⟨o, h⟩) | ⟨o, its, n, h, hc, _⟩
  · exact .base (.tup h)
  · exact .fTuple h
  · exact .kTuple h hc
instance : Ty Int := ⟨fun _ => "int", fun {K F H v x} h _ => by rw [show v = V.int x from h]; exact .base (.int _)⟩
instance : Ty Bool := ⟨fun _ => "bool", fun {K F H v x} h _ => by rw [show v = V.bl x from h]; exact .base (.bl _)⟩
instance : Ty Str := ⟨fun _ => "str", fun {K F H v x} h _ => by rw [show v = V.str x from h]; exact .base (.str _)⟩
instance {α : Type} [Ty α] : Ty (Option α) := ⟨fun x => match x with | none => "NoneType" | some y => Ty.ty y, fun {K F H v x} h f => by
  cases x with
  | none => rw [show v = V.non from h]; exact .base .non
  | some y => exact Ty.is (α := α) h f⟩
instance {α : Type} [Enc α] : Ty (List α) := ⟨fun _ => "list", fun h f => by
  obtain ⟨p, vs, rfl, h1, _⟩ := h
  exact sql_ty (sql_mono f h1)⟩
instance {α : Type} [Enc α] : Ty (Tu α) := ⟨fun _ => "tuple", fun h f => by
  obtain ⟨p, vs, rfl, h1, _⟩ := h
  exact sqt_ty (sqt_mono f h1)⟩
instance {α β : Type} [Enc α] [Enc β] : Ty (α × β) := ⟨fun _ => "tuple", fun h f => by
  obtain ⟨p, v1, v2, rfl, h1, _⟩ := h
  exact sqt_ty (sqt_mono f h1)⟩
instance {α : Type} [Enc α] : Ty (T1 α) := ⟨fun _ => "tuple", fun h f => by
  obtain ⟨p, v1, rfl, h1, _⟩ := h
  exact sqt_ty (sqt_mono f h1)⟩
instance {α β γ : Type} [Enc α] [Enc β] [Enc γ] : Ty (T3 α β γ) := ⟨fun _ => "tuple", fun h f => by
  obtain ⟨p, v1, v2, v3, rfl, h1, _⟩ := h
  exact sqt_ty (sqt_mono f h1)⟩
instance {α β γ δ : Type} [Enc α] [Enc β] [Enc γ] [Enc δ] : Ty (T4 α β γ δ) := ⟨fun _ => "tuple", fun h f => by
  obtain ⟨p, v1, v2, v3, v4, rfl, h1, _⟩ := h
  exact sqt_ty (sqt_mono f h1)⟩
instance {α β γ δ ε : Type} [Enc α] [Enc β] [Enc γ] [Enc δ] [Enc ε] : Ty (T5 α β γ δ ε) := ⟨fun _ => "tuple", fun h f => by
  obtain ⟨p, v1, v2, v3, v4, v5, rfl, h1, _⟩ := h
  exact sqt_ty (sqt_mono f h1)⟩
section
variable {α β : Type} {X : Cx} {σ : St} {s : S} {a b : Expr} {pos p0 p1 p2 p3 : Pos}
theorem ev_isi [Ty α] {x : α} {n : Str} {T : String} {r : Bool} (hm : X.mg "isinstance" = none) (hn : X.mg n = none) (hv : bootBuiltins n = some (.type T)) (ha : Ev X a σ s x) (h : kitB (Ty.ty x) T = some r)
    (hg : Gl X "isinstance" := by rfl) (hgn : Gl X n := by rfl) (he : starEach [a, .Name n p1] X.env = (false, eval a X.env) :: starEach [.Name n p1] X.env := by rfl) (he2 : starEach [.Name n p1] X.env = (false, eval (.Name n p1) X.env) :: starEach [] X.env := by rfl) (hpl : (backTo pos (starEach [.Name n p1] X.env)).any (·.1) = false := by rfl)
    (hnn : n ≠ "__name__" := by decide) (hnd : (n == ("__debug__" : Str)) = false := by decide) :
    Ev X (.Call (.Name "isinstance" p0) [a, .Name n p1] [] pos) σ s r := fun s1 k Q q =>
  we_of (pe_callB call_isi hg hm (by decide +kernel) (pa_cons pe_we (pa_cons (pe_bltn (v := .ty T) hgn hn hv rfl hnn hnd) pa_nil he2) he) (he := he) (hpl := hpl)) (ha s1 k _ fun v s2 k2 r2 =>
    ⟨v, .ty T, .type (Ty.ty x), .type T, r, rfl, .ty T, Ty.is r2 s2.sub, kit_ty h, q _ s2 k2 rfl⟩)

class EqD (α : Type) extends Enc α where
  toD : α → PyData
  dp : ∀ {K : PySem.W.Frag} {F H : Hp} {v : V} {x : α}, rep K F v x → Fle F H → Dp K H v (toD x)
  eqv : ∀ x y : α, PyData.eqv (toD x) (toD y) = true ↔ x = y
def DpR {α : Type} [EqD α] {K : PySem.W.Frag} {F H : Hp} (f : Fle F H) : ∀ {vs : List V} {xs : List α}, Reps K F vs xs → DpAll K H vs (xs.map EqD.toD)
  | [], [], _ => .nil
  | _ :: _, _ :: _, ⟨h, t⟩ => .cons (EqD.dp h f) (DpR f t)
  | [], _ :: _, h => h.elim
  | _ :: _, [], h => h.elim
theorem eqv_all {α : Type} [EqD α] : ∀ xs ys : List α, PyData.eqvAll (xs.map EqD.toD) (ys.map EqD.toD) = true ↔ xs = ys
  | [], [] => by simp [PyData.eqvAll]
  | [], _ :: _ => by simp [PyData.eqvAll]
  | _ :: _, [] => by simp [PyData.eqvAll]
  | x :: xs, y :: ys => by
    show (PyData.eqv (EqD.toD x) (EqD.toD y) && PyData.eqvAll (xs.map EqD.toD) (ys.map EqD.toD)) = true ↔ _
    rw [Bool.and_eq_true, EqD.eqv, eqv_all xs ys]
    simp
instance : EqD Int := ⟨PyData.int, fun {K F H v x} h _ => by rw [show v = V.int x from h]; exact .int _, fun x y => by show (x == y) = true ↔ _; simp⟩
instance : EqD Bool := ⟨PyData.bool, fun {K F H v x} h _ => by rw [show v = V.bl x from h]; exact .bl _, fun x y => by show (x == y) = true ↔ _; simp⟩
instance : EqD Str := ⟨PyData.str, fun {K F H v x} h _ => by rw [show v = V.str x from h]; exact .str _, fun x y => by show (x == y) = true ↔ _; simp⟩
instance : EqD (Option Int) := ⟨fun x => match x with | none => .none | some i => .int i, fun {K F H v x} h _ => by
  cases x with
  | none => rw [show v = V.non from h]; exact .non
  | some i => rw [show v = V.int i from h]; exact .int _, fun x y => by cases x <;> cases y <;> simp [PyData.eqv]⟩
instance : EqD (Option Str) := ⟨fun x => match x with | none => .none | some i => .str i, fun {K F H v x} h _ => by
  cases x with
  | none => rw [show v = V.non from h]; exact .non
  | some i => rw [show v = V.str i from h]; exact .str _, fun x y => by cases x <;> cases y <;> simp [PyData.eqv]⟩
instance {α : Type} [EqD α] : EqD (List α) := ⟨fun xs => .list (xs.map EqD.toD), fun h f => by
  obtain ⟨p, vs, rfl, h1, h2⟩ := h
  exact .lst (sql_mono f h1) (DpR f h2), fun x y => eqv_all x y⟩
instance {α : Type} [EqD α] : EqD (Tu α) := ⟨fun xs => .tuple (xs.l.map EqD.toD), fun h f => by
  obtain ⟨p, vs, rfl, h1, h2⟩ := h
  exact .tup (sqt_mono f h1) (DpR f h2), fun x y => by
    obtain ⟨x⟩ := x
    obtain ⟨y⟩ := y
    show PyData.eqvAll _ _ = true ↔ _
    rw [eqv_all]; simp⟩
instance {α β : Type} [EqD α] [EqD β] : EqD (α × β) := ⟨fun x => .tuple [EqD.toD x.1, EqD.toD x.2], fun h f => by
  obtain ⟨p, v1, v2, rfl, h0, h1, h2⟩ := h
  exact .tup (sqt_mono f h0) (.cons (EqD.dp h1 f) (.cons (EqD.dp h2 f) .nil)), fun x y => by
    obtain ⟨x1, x2⟩ := x
    obtain ⟨y1, y2⟩ := y
    show (PyData.eqv _ _ && (PyData.eqv _ _ && true)) = true ↔ _
    rw [Bool.and_eq_true, Bool.and_eq_true, EqD.eqv, EqD.eqv]; simp⟩
instance {α β γ : Type} [EqD α] [EqD β] [EqD γ] : EqD (T3 α β γ) := ⟨fun x => .tuple [EqD.toD x.a, EqD.toD x.b, EqD.toD x.c], fun h f => by
  obtain ⟨p, v1, v2, v3, rfl, h0, h1, h2, h3⟩ := h
  exact .tup (sqt_mono f h0) (.cons (EqD.dp h1 f) (.cons (EqD.dp h2 f) (.cons (EqD.dp h3 f) .nil))), fun x y => by
    obtain ⟨x1, x2, x3⟩ := x
    obtain ⟨y1, y2, y3⟩ := y
    show (PyData.eqv _ _ && (PyData.eqv _ _ && (PyData.eqv _ _ && true))) = true ↔ _
    rw [Bool.and_eq_true, Bool.and_eq_true, Bool.and_eq_true, EqD.eqv, EqD.eqv, EqD.eqv]; simp⟩
instance {α : Type} [EqD α] : EqD (T1 α) := ⟨fun x => .tuple [EqD.toD x.a], fun h f => by
  obtain ⟨p, v1, rfl, h0, h1⟩ := h
  exact .tup (sqt_mono f h0) (.cons (EqD.dp h1 f) .nil), fun x y => by
    obtain ⟨x1⟩ := x
    obtain ⟨y1⟩ := y
    show (PyData.eqv _ _ && true) = true ↔ _
    rw [Bool.and_eq_true, EqD.eqv]; simp⟩
def shp {α : Type} [EqD α] (x : α) : Prop := SeqAt.shaped (EqD.toD x) = true
theorem eqv_dec {α : Type} [EqD α] [DecidableEq α] (x y : α) : PyData.eqv (EqD.toD x) (EqD.toD y) = decide (x = y) := by
  rw [Bool.eq_iff_iff, EqD.eqv, decide_eq_true_eq]
theorem repR_d {α : Type} [EqD α] {K : PySem.W.Frag} {v : V} {xs : List α} (h : RepR K s v xs) : Dp K s.H v (EqD.toD xs) := by
  obtain ⟨p, vs, rfl, h1, h2⟩ := h
  exact .lst h1 (DpR s.sub h2)
theorem hu64 {j : Nat} (hr : Room j X.A) : X.A.units + 64 < cLine := by
  have := hr.un
  omega
theorem eb_eqD [EqD α] [DecidableEq α] {x y : α} {j : Nat} (hr : Room j X.A) (ha : Ev X a σ s x) (hb : Ev X b σ s y) (h1 : shp x) (h2 : shp y) : EvB X (.Compare a [.Eq] [b] pos) σ s (decide (x = y)) :=
  eb_cmp (op_eqD (hu64 hr)) ha hb (fun v u s2 hv hu Q q => ⟨_, _, EqD.dp hv s2.sub, EqD.dp hu s2.sub, h1, h2, by rw [eqv_dec]; exact q⟩) (nomark _)
theorem eb_neD [EqD α] [DecidableEq α] {x y : α} {j : Nat} (hr : Room j X.A) (ha : Ev X a σ s x) (hb : Ev X b σ s y) (h1 : shp x) (h2 : shp y) : EvB X (.Compare a [.NotEq] [b] pos) σ s (!decide (x = y)) :=
  eb_cmp (op_neD (hu64 hr)) ha hb (fun v u s2 hv hu Q q => ⟨_, _, EqD.dp hv s2.sub, EqD.dp hu s2.sub, h1, h2, by rw [eqv_dec]; exact q⟩) (nomark _)
theorem eb_eqL [EqD α] [DecidableEq α] {x y : List α} {j : Nat} (hr : Room j X.A) (ha : EvR X a σ s x) (hb : EvR X b σ s y) (h1 : shp x) (h2 : shp y) : EvB X (.Compare a [.Eq] [b] pos) σ s (decide (x = y)) :=
  eb_cmpRR (op_eqD (hu64 hr)) ha hb (fun v u s2 hv hu Q q => ⟨_, _, repR_d hv, repR_d hu, h1, h2, by rw [eqv_dec]; exact q⟩) (nomark _)
theorem eb_neL [EqD α] [DecidableEq α] {x y : List α} {j : Nat} (hr : Room j X.A) (ha : EvR X a σ s x) (hb : EvR X b σ s y) (h1 : shp x) (h2 : shp y) : EvB X (.Compare a [.NotEq] [b] pos) σ s (!decide (x = y)) :=
  eb_cmpRR (op_neD (hu64 hr)) ha hb (fun v u s2 hv hu Q q => ⟨_, _, repR_d hv, repR_d hu, h1, h2, by rw [eqv_dec]; exact q⟩) (nomark _)
end

class Shp (α : Type) (n : outParam Nat) extends EqD α where
  ok : ∀ x : α, PyData.canLay0 (EqD.toD x) = true ∧ PyData.depth (EqD.toD x) ≤ n
theorem shp_all {α : Type} {n : Nat} [Shp α n] : ∀ xs : List α, PyData.canLayAll0 (xs.map EqD.toD) = true ∧ PyData.depthAll (xs.map EqD.toD) ≤ n
  | [] => ⟨by simp [PyData.canLayAll0], by simp [PyData.depthAll]⟩
  | x :: xs => by
    obtain ⟨h1, h2⟩ := shp_all xs
    obtain ⟨h3, h4⟩ := Shp.ok x
    refine ⟨?_, ?_⟩
    · show PyData.canLayAll0 (EqD.toD x :: xs.map EqD.toD) = true
      unfold PyData.canLayAll0
      rw [h3, h1]; rfl
    · show PyData.depthAll (EqD.toD x :: xs.map EqD.toD) ≤ n
      unfold PyData.depthAll
      omega
instance : Shp Int 0 := ⟨fun x => ⟨by show PyData.canLay0 (.int x) = true; unfold PyData.canLay0; rfl, by show PyData.depth (.int x) ≤ 0; unfold PyData.depth; omega⟩⟩
instance : Shp Bool 0 := ⟨fun x => ⟨by show PyData.canLay0 (.bool x) = true; unfold PyData.canLay0; rfl, by show PyData.depth (.bool x) ≤ 0; unfold PyData.depth; omega⟩⟩
instance : Shp (Option Int) 0 := ⟨fun x => by
  cases x with
  | none => exact ⟨by show PyData.canLay0 .none = true; unfold PyData.canLay0; rfl, by show PyData.depth .none ≤ 0; unfold PyData.depth; omega⟩
  | some i => exact ⟨by show PyData.canLay0 (.int i) = true; unfold PyData.canLay0; rfl, by show PyData.depth (.int i) ≤ 0; unfold PyData.depth; omega⟩⟩
instance {α : Type} {n : Nat} [Shp α n] : Shp (List α) (n + 1) := ⟨fun x => by
  obtain ⟨h1, h2⟩ := shp_all x
  refine ⟨?_, ?_⟩
  · show PyData.canLay0 (.list (x.map EqD.toD)) = true
    unfold PyData.canLay0; exact h1
  · show PyData.depth (.list (x.map EqD.toD)) ≤ n + 1
    unfold PyData.depth; omega⟩
instance {α : Type} {n : Nat} [Shp α n] : Shp (Tu α) (n + 1) := ⟨fun x => by
  obtain ⟨h1, h2⟩ := shp_all x.l
  refine ⟨?_, ?_⟩
  · show PyData.canLay0 (.tuple (x.l.map EqD.toD)) = true
    unfold PyData.canLay0; exact h1
  · show PyData.depth (.tuple (x.l.map EqD.toD)) ≤ n + 1
    unfold PyData.depth; omega⟩
instance {α β : Type} {n m : Nat} [Shp α n] [Shp β m] : Shp (α × β) (n + m + 1) := ⟨fun x => by
  obtain ⟨h1, h2⟩ := Shp.ok x.1
  obtain ⟨h3, h4⟩ := Shp.ok x.2
  refine ⟨?_, ?_⟩
  · show PyData.canLay0 (.tuple [EqD.toD x.1, EqD.toD x.2]) = true
    simp [PyData.canLay0, PyData.canLayAll0, h1, h3]
  · show PyData.depth (.tuple [EqD.toD x.1, EqD.toD x.2]) ≤ n + m + 1
    simp [PyData.depth, PyData.depthAll]
    omega⟩
instance {α : Type} {n : Nat} [Shp α n] : Shp (T1 α) (n + 1) := ⟨fun x => by
  obtain ⟨h1, h2⟩ := Shp.ok x.a
  refine ⟨?_, ?_⟩
  · show PyData.canLay0 (.tuple [EqD.toD x.a]) = true
    simp [PyData.canLay0, PyData.canLayAll0, h1]
  · show PyData.depth (.tuple [EqD.toD x.a]) ≤ n + 1
    simp [PyData.depth, PyData.depthAll]
    omega⟩
theorem shp_of {α : Type} {n : Nat} [Shp α n] (x : α) (h : n ≤ 64 := by decide) : shp x := by
  obtain ⟨h1, h2⟩ := Shp.ok x
  unfold shp SeqAt.shaped
  rw [h1, decide_eq_true (Nat.le_trans h2 h)]; rfl

def spLaw (K : PySem.W.Frag) : Sp := fun vs H Q _ => ∃ (a : Addr) (ns : List Int), vs = [.ref a] ∧ SqL K H a (ns.map V.int) ∧ ns.length ≤ 63 ∧ ∀ H', Q (.bl true) H'
theorem law_of {P : Program} {w : World} {K : PySem.W.Frag} {mg : Str → Option Value} {base : Heap} {CX : CXT} {k : Nat} {f : Addr} {fd : FuncData} {ps : List Str} {m : List Int × Unit → Option Bool} (F : FnOk P w K mg base CX k f fd ps (sp K m)) (h : ∀ ns : List Int, ns.length ≤ 63 → m (ns, ()) = some true) : FnOk P w K mg base CX k f fd ps (spLaw K) :=
  F.imp fun vs H Q E ⟨a, ns, e, hs, hl, q⟩ => by
    subst e
    exact ⟨⟨H, H, fun _ _ h => h⟩, (ns, ()), true, rfl, ⟨.ref a, [], rfl, ⟨a, ns.map V.int, rfl, hs, Reps.of_flat ns⟩, rfl⟩, h ns hl, fun v s' _ r => by rw [show v = V.bl true from r]; exact q _⟩
end Dy

namespace Dy
open PySem PySem.Spec L2
open PyProof.Rows hiding St
open Enc (rep)
open Flat (toV)
open EncA (repA)

def strI (x : Int) : Str := toString x
noncomputable def sortI (xs : List Int) : List Int := xs.mergeSort (fun x y => decide (x ≤ y))
def Fl.go {β ρ γ : Type} (o : Fl β ρ) (k : β → γ) (e : ρ → γ) : γ := match o with
  | .nx b => k b
  | .rt r => e r
@[irreducible] def fuel : Nat := 1000000
theorem rng_mem {a b x : Int} (h : x ∈ rng a b) : a ≤ x ∧ x < b := by
  obtain ⟨i, hi⟩ := List.mem_iff_getElem?.mp h
  obtain ⟨h1, h2⟩ := rng_get hi
  omega
theorem frzE {s0 s s' : S} {p : Addr} (E : Ex s0 s) (n : s0.H p = none) (h1 : s'.H = s.H) (h2 : Fle s.F s'.F) (h3 : ∀ q, q ≠ p → s'.F q = s.F q) : Ex s0 s' :=
  ⟨E.f.trans h2, fun a o h => by rw [h1]; exact E.h a o h, fun a o h m => by rw [h3 a (ne_of_none h n)]; exact E.n a o h m⟩
theorem ownFrz {α : Type} [Enc α] {K : PySem.W.Frag} {s s' : S} {p q : Addr} {xs : List α} (o : Own K s q xs) (hne : q ≠ p) (h1 : s'.H = s.H) (h2 : Fle s.F s'.F) (h3 : ∀ q, q ≠ p → s'.F q = s.F q) : Own K s' q xs := by
  obtain ⟨hn, vs, hp, r⟩ := o
  exact ⟨by rw [h3 q hne]; exact hn, vs, by rw [h1]; exact hp, r.mono h2⟩
section
variable {α β γ δ ε : Type} [Enc α] [Enc β] [Enc γ] [Enc δ] [Enc ε] {X : Cx} {σ : St} {s t : S} {e a b c tg iter : Expr} {es : List Expr} {pos p0 p1 p2 p3 : Pos} {D : Ends} {rest A B body : List Stmt}
theorem ec_andO {x r : Bool} (h : EvB X a σ s x) (h2 : x = true → EvC X (.BoolOp .And (b :: es) pos) σ s r) (h3 : x = false → r = false) : EvC X (.BoolOp .And (a :: b :: es) pos) σ s r := by
  cases x with
  | true => exact (ec_and h h2 : EvC X _ σ s (true && r))
  | false =>
    have := ec_and (y := false) (es := es) (b := b) (pos := pos) h (fun z => Bool.noConfusion z)
    rw [h3 rfl]
    exact this
theorem ec_orO {x r : Bool} (h : EvB X a σ s x) (h2 : x = false → EvC X (.BoolOp .Or (b :: es) pos) σ s r) (h3 : x = true → r = true) : EvC X (.BoolOp .Or (a :: b :: es) pos) σ s r := by
  cases x with
  | false => exact (ec_or h h2 : EvC X _ σ s (false || r))
  | true =>
    have := ec_or (y := true) (es := es) (b := b) (pos := pos) h (fun z => Bool.noConfusion z)
    rw [h3 rfl]
    exact this
theorem et_tru {xs : List α} (h : EvR X e σ s xs) (he : ∀ whole, isTrue e X.env whole = (do let v ← whole; standAt e.pos; holding [v] (truthy v)) := by intro _; rfl) : EvT X e σ s (!xs.isEmpty) := fun s1 k Q q =>
  wt_of (pt_truth pe_we he) (h s1 k _ fun v s2 k2 r => by
    obtain ⟨p, vs, rfl, h1, h2⟩ := r
    refine ⟨_, .inl ⟨vs, h1, ?_⟩, q s2 k2⟩
    have := h2.len
    cases vs <;> cases xs <;> simp at this ⊢)
theorem isi_optT {τ : Type} [Ty τ] (x : Option τ) {T : String} (h1 : ∀ y : τ, kitB (Ty.ty y) T = some true) (h2 : kitB "NoneType" T = some false) : kitB (Ty.ty x) T = some x.isSome := by
  cases x with
  | none => exact h2
  | some y => exact h1 y
theorem isi_optF {τ : Type} [Ty τ] (x : Option τ) {T : String} (h1 : ∀ y : τ, kitB (Ty.ty y) T = some false) (h2 : kitB "NoneType" T = some false) : kitB (Ty.ty x) T = some false := by
  cases x with
  | none => exact h2
  | some y => exact h1 y
theorem en_rev {xs : List α} {k q1 q2 q3} (ha : EvR X e σ s xs) : EvN X (.Subscript e (.Slice none none (some (.UnaryOp .USub (.Constant (.int 1) k q1) q2)) q3) pos) σ s xs.reverse := fun s1 k1 Q q =>
  we_of (pe_revL pe_we) (ha s1 k1 _ fun v s2 k2 r2 => by
    obtain ⟨p, vs, rfl, h1, h2⟩ := r2
    exact ⟨p, vs, rfl, h1, fun l hl => q l (s2.newO l _ hl) (k2.trans (Ex.newO hl)) (fr_back k2 hl) (own_new hl h2.rev)⟩)
theorem do_drop {x : α} (h : Ev X e σ s x) (k : ∀ s1, Ex s s1 → WSs X rest D σ s1.H) (hs : swapsWith e none pos.line X.env = pure false := by rfl) : WSs X (.Expr e pos :: rest) D σ s.H :=
  do_cons (ps_expr pe_we hs) (h s (Ex.refl _) _ fun v s1 k1 r => k s1 k1)
theorem do_unp2 (i j : Nat) {x : α × β} (h : Ev X e σ s x) (k : ∀ v w s1, Ex s s1 → rep X.K s1.F v x.1 → rep X.K s1.F w x.2 → WSs X rest D ((σ.set i (some v)).set j (some w)) s1.H)
    (hg : PG X tg (gTup X.K 2 (gCons (gName i) (gCons (gName j) gNil)))) (hs : swapsWithSole [tg] e pos.line X.env = pure false := by rfl) (hw : swappedStores [tg] e X.env = pure none := by rfl)
    (h1 : (assignEach [tg] X.env).map (·.2) = [assign tg X.env] := by rfl) : WSs X (.Assign [tg] e pos :: rest) D σ s.H :=
  do_cons (ps_asg pe_we hg hs hw h1) (h s (Ex.refl _) _ fun v s1 k1 r => by
    obtain ⟨p, v1, v2, rfl, h0, h1, h2⟩ := r
    exact ⟨p, _, rfl, sqt_mono s1.sub h0, rfl, v1, _, rfl, v2, _, rfl, rfl, k v1 v2 s1 k1 h1 h2⟩)
theorem do_unp3 (i j l : Nat) {x : T3 α β γ} (h : Ev X e σ s x) (k : ∀ v w u s1, Ex s s1 → rep X.K s1.F v x.a → rep X.K s1.F w x.b → rep X.K s1.F u x.c → WSs X rest D (((σ.set i (some v)).set j (some w)).set l (some u)) s1.H)
    (hg : PG X tg (gTup X.K 3 (gCons (gName i) (gCons (gName j) (gCons (gName l) gNil))))) (hs : swapsWithSole [tg] e pos.line X.env = pure false := by rfl) (hw : swappedStores [tg] e X.env = pure none := by rfl)
    (h1 : (assignEach [tg] X.env).map (·.2) = [assign tg X.env] := by rfl) : WSs X (.Assign [tg] e pos :: rest) D σ s.H :=
  do_cons (ps_asg pe_we hg hs hw h1) (h s (Ex.refl _) _ fun v s1 k1 r => by
    obtain ⟨p, v1, v2, v3, rfl, h0, h1, h2, h3⟩ := r
    exact ⟨p, _, rfl, sqt_mono s1.sub h0, rfl, v1, _, rfl, v2, _, rfl, v3, _, rfl, rfl, k v1 v2 v3 s1 k1 h1 h2 h3⟩)
theorem do_whileF {υ ρ : Type} {cf : υ → Option Bool} {f : υ → Option (Fl υ ρ)} {n : Nat} {b0 : υ} {o : Fl υ ρ} (hp : PassesOwn (model X.prog X.w) X.A X.env X.xe) (hf : whileF cf f n b0 = some o) (R : υ → St → S → Prop) (h0 : R b0 σ s)
    (hc : ∀ (b : υ) (x : Bool) (σ' : St) (t : S), cf b = some x → Fle s.F t.F → R b σ' t → EvT X c σ' t x)
    (hb : ∀ (b : υ) (q : Fl υ ρ) (σ' : St) (t t' : S), cf b = some true → f b = some q → (∀ r, q = .rt r → o = .rt r) → Fle s.F t.F → R b σ' t → Ex t t' → WSs X body (LD D fun σ s => ∃ b', q = .nx b' ∧ Fle t'.F s.F ∧ R b' σ s) σ' t'.H)
    (hd : ∀ b1 σ' t t', o = .nx b1 → cf b1 = some false → Fle s.F t.F → R b1 σ' t → Ex t t' → WSs X rest D σ' t'.H) : WSs X (.While c body [] pos :: rest) D σ s.H :=
  do_cons (ps_while hp pt_wt pss_ws) (by
    refine ⟨fun m σ' H' => ∃ (t : S) (b : υ), t.H = H' ∧ Fle s.F t.F ∧ whileF cf f m b = some o ∧ R b σ' t, ⟨n, s, b0, rfl, Fle.refl _, hf, h0⟩, ?_⟩
    rintro m σ' H' ⟨t, b, rfl, fl, h1, h2⟩
    cases m with
    | zero => cases h1
    | succ m =>
      obtain ⟨x, h3, h4⟩ := bndE h1
      refine hc b x σ' t h3 fl h2 t (Ex.refl _) _ fun t' kt => ?_
      cases x with
      | true =>
        refine iteT ?_
        rw [if_pos rfl] at h4
        obtain ⟨q, h5, h6⟩ := bndE h4
        refine ⟨fun σ3 H3 => ∃ b', q = .nx b' ∧ ∃ u : S, u.H = H3 ∧ Fle s.F u.F ∧ R b' σ3 u, fun σ3 H3 ⟨b', e0, u, e1, f1, r1⟩ => ⟨m, Nat.lt_succ_self _, u, b', e1, f1, by subst e0; exact h6, r1⟩, ?_⟩
        exact (hb b q σ' t t' h3 h5 (fun r e0 => by subst e0; exact (Option.some.inj h6).symm) fl h2 kt).imp (fun σ3 H3 ⟨u, e1, b', e2, f1, r1⟩ => ⟨b', e2, u, e1, (fl.trans kt.f).trans f1, r1⟩) (fun _ _ q => q) (fun _ _ q => q.elim) (fun _ _ q => q.elim)
      | false =>
        refine iteF ?_
        rw [if_neg Bool.false_ne_true] at h4
        cases h4
        exact hd b σ' t t' rfl h3 fl h2 kt)
end
end Dy

namespace Dy
open PySem PySem.Spec L2
open PyProof.Rows hiding St

def Ok {α : Type} (m : Option α) (P : α → Prop) : Prop := ∃ r, m = some r ∧ P r
section
variable {α β γ ρ : Type}
theorem Ok.imp {m : Option α} {P Q : α → Prop} (h : Ok m P) (k : ∀ r, P r → Q r) : Ok m Q := let ⟨r, e, p⟩ := h; ⟨r, e, k r p⟩
theorem Ok.eq {m : Option α} {x : α} (h : Ok m (· = x)) : m = some x := by obtain ⟨r, e, rfl⟩ := h; exact e
theorem ok_eq {m : Option α} {x : α} {P : α → Prop} (h : m = some x) (p : P x) : Ok m P := ⟨x, h, p⟩
theorem ok_some {x : α} {P : α → Prop} (p : P x) : Ok (some x) P := ⟨x, rfl, p⟩
theorem ok_bnd {m : Option α} {f : α → Option β} {P : α → Prop} {Q : β → Prop} (h : Ok m P) (k : ∀ r, P r → Ok (f r) Q) : Ok (bnd m f) Q := by
  obtain ⟨r, e, p⟩ := h
  subst e
  exact k r p
theorem ok_chk {c : Prop} {m : Option α} {Q : α → Prop} (h : c) (k : Ok m Q) : Ok (chk c m) Q := by rw [chk_pos h]; exact k
theorem ok_lt {x : α} {f : α → Option β} {Q : β → Prop} (k : ∀ y, y = x → Ok (f y) Q) : Ok (lt x f) Q := k x rfl
theorem ok_ite {b : Bool} {m k : Option α} {Q : α → Prop} (h1 : b = true → Ok m Q) (h2 : b = false → Ok k Q) : Ok (if b = true then m else k) Q := by
  cases b with
  | true => exact h1 rfl
  | false => exact h2 rfl
theorem ok_andO {a : Bool} {m : Option Bool} {Q : Bool → Prop} (h1 : a = true → Ok m Q) (h2 : a = false → Q false) : Ok (andO a m) Q := by
  cases a with
  | true => exact h1 rfl
  | false => exact ⟨false, rfl, h2 rfl⟩
theorem ok_orO {a : Bool} {m : Option Bool} {Q : Bool → Prop} (h1 : a = false → Ok m Q) (h2 : a = true → Q true) : Ok (orO a m) Q := by
  cases a with
  | false => exact h1 rfl
  | true => exact ⟨true, rfl, h2 rfl⟩
theorem ok_foldO {f : β → α → Option β} (I : Nat → β → Prop) : ∀ {xs : List α} {b : β} {Q : β → Prop}, I 0 b → (∀ i b x, xs[i]? = some x → I i b → Ok (f b x) (I (i + 1))) → (∀ b, I xs.length b → Q b) → Ok (foldO f b xs) Q := by
  have key : ∀ (xs : List α) (b : β) (k : Nat), I k b → (∀ i b x, xs[i]? = some x → I (k + i) b → Ok (f b x) (I (k + i + 1))) → Ok (foldO f b xs) (I (k + xs.length)) := by
    intro xs
    induction xs with
    | nil => intro b k h _; exact ⟨b, rfl, h⟩
    | cons x r ih =>
      intro b k h hs
      refine ok_bnd (hs 0 b x rfl h) fun b' h' => ?_
      have := ih b' (k + 1) h' (fun i b y hy hI => by
        have := hs (i + 1) b y (by simpa using hy) (by rw [show k + (i + 1) = k + 1 + i by omega]; exact hI)
        rw [show k + (i + 1) + 1 = k + 1 + i + 1 by omega] at this
        exact this)
      rw [List.length_cons, show k + (r.length + 1) = k + 1 + r.length by omega]
      exact this
  intro xs b Q h0 hs hd
  have := key xs b 0 h0 (fun i b x hx hI => by
    have := hs i b x hx (by rw [Nat.zero_add] at hI; exact hI)
    rw [Nat.zero_add]; exact this)
  rw [Nat.zero_add] at this
  exact this.imp hd
theorem ok_foldF {f : β → α → Option (Fl β ρ)} (I : Nat → β → Prop) (Rr : ρ → Prop) : ∀ {xs : List α} {b : β} {Q : Fl β ρ → Prop}, I 0 b → (∀ i b x, xs[i]? = some x → I i b → Ok (f b x) (fun o => match o with | .nx b' => I (i + 1) b' | .rt r => Rr r)) →
    (∀ b, I xs.length b → Q (.nx b)) → (∀ r, Rr r → Q (.rt r)) → Ok (foldF f b xs) Q := by
  have key : ∀ (xs : List α) (b : β) (k : Nat), I k b → (∀ i b x, xs[i]? = some x → I (k + i) b → Ok (f b x) (fun o => match o with | .nx b' => I (k + i + 1) b' | .rt r => Rr r)) → Ok (foldF f b xs) (fun o => match o with | .nx b' => I (k + xs.length) b' | .rt r => Rr r) := by
    intro xs
    induction xs with
    | nil => intro b k h _; exact ⟨.nx b, rfl, h⟩
    | cons x r ih =>
      intro b k h hs
      refine ok_bnd (hs 0 b x rfl h) fun o h' => ?_
      cases o with
      | rt r => exact ⟨.rt r, rfl, h'⟩
      | nx b' =>
        have := ih b' (k + 1) h' (fun i b y hy hI => by
          have := hs (i + 1) b y (by simpa using hy) (by rw [show k + (i + 1) = k + 1 + i by omega]; exact hI)
          rw [show k + (i + 1) + 1 = k + 1 + i + 1 by omega] at this
          exact this)
        rw [List.length_cons, show k + (r.length + 1) = k + 1 + r.length by omega]
        exact this
  intro xs b Q h0 hs hd hr
  have := key xs b 0 h0 (fun i b x hx hI => by
    have := hs i b x hx (by rw [Nat.zero_add] at hI; exact hI)
    rw [Nat.zero_add]; exact this)
  rw [Nat.zero_add] at this
  refine this.imp fun o h => ?_
  cases o with
  | nx b => exact hd b h
  | rt r => exact hr r h
theorem ok_go {o : Fl β ρ} {k : β → Option γ} {e : ρ → Option γ} {Q : γ → Prop} (h1 : ∀ b, o = .nx b → Ok (k b) Q) (h2 : ∀ r, o = .rt r → Ok (e r) Q) : Ok (o.go k e) Q := by
  cases o with
  | nx b => exact h1 b rfl
  | rt r => exact h2 r rfl
theorem ok_compO {t : α → Option Bool} {f : α → Option β} {P : α → β → Prop} {T : α → Bool} : ∀ {xs : List α}, (∀ x ∈ xs, Ok (t x) (· = T x)) → (∀ x ∈ xs, T x = true → Ok (f x) (P x)) → Ok (compO t f xs) (fun ys => ys.length = (xs.filter T).length ∧ ∀ (i : Nat) (y : β), ys[i]? = some y → ∃ x, (xs.filter T)[i]? = some x ∧ P x y)
  | [], _, _ => ⟨[], rfl, rfl, fun i y h => by simp at h⟩
  | x :: r, h1, h2 => by
    unfold compO
    refine ok_bnd (h1 x List.mem_cons_self) fun b hb => ?_
    subst hb
    have ih := ok_compO (xs := r) (fun z hz => h1 z (List.mem_cons_of_mem _ hz)) (fun z hz => h2 z (List.mem_cons_of_mem _ hz))
    refine ok_ite (fun hb => ?_) (fun hb => ?_)
    · refine ok_bnd (h2 x List.mem_cons_self hb) fun y hy => ?_
      refine ok_bnd ih fun ys ⟨e1, e2⟩ => ok_some ?_
      rw [List.filter_cons, if_pos hb]
      refine ⟨by simp [e1], fun i z hz => ?_⟩
      cases i with
      | zero => simp at hz; subst hz; exact ⟨x, rfl, hy⟩
      | succ i => exact e2 i z (by simpa using hz)
    · rw [List.filter_cons, if_neg (by rw [hb]; exact Bool.false_ne_true)]
      exact ih
theorem ok_mapO {f : α → Option β} {P : α → β → Prop} {xs : List α} (h : ∀ x ∈ xs, Ok (f x) (P x)) : Ok (mapO f xs) (fun ys => ys.length = xs.length ∧ ∀ (i : Nat) (y : β), ys[i]? = some y → ∃ x, xs[i]? = some x ∧ P x y) := by
  have := ok_compO (t := fun _ => some true) (T := fun _ => true) (xs := xs) (fun x _ => ok_some rfl) (fun x hx _ => h x hx)
  rw [show xs.filter (fun _ => true) = xs from List.filter_eq_self.mpr (fun _ _ => rfl)] at this
  exact this
theorem mapO_eq {f : α → Option β} {g : α → β} : ∀ {xs : List α}, (∀ x ∈ xs, f x = some (g x)) → mapO f xs = some (xs.map g)
  | [], _ => rfl
  | x :: r, h => by
    have ih := mapO_eq (xs := r) (fun z hz => h z (List.mem_cons_of_mem _ hz))
    unfold mapO at ih ⊢
    unfold compO
    rw [Option.bind_some, if_pos rfl, h x List.mem_cons_self, Option.bind_some, ih]
    rfl
theorem compO_eq {t : α → Option Bool} {T : α → Bool} {f : α → Option β} {g : α → β} : ∀ {xs : List α}, (∀ x ∈ xs, t x = some (T x)) → (∀ x ∈ xs, T x = true → f x = some (g x)) → compO t f xs = some ((xs.filter T).map g)
  | [], _, _ => rfl
  | x :: r, h1, h2 => by
    have ih := compO_eq (xs := r) (fun z hz => h1 z (List.mem_cons_of_mem _ hz)) (fun z hz => h2 z (List.mem_cons_of_mem _ hz))
    unfold compO
    rw [h1 x List.mem_cons_self, Option.bind_some, List.filter_cons]
    cases hT : T x with
    | true => rw [if_pos rfl, if_pos rfl, h2 x List.mem_cons_self hT, Option.bind_some, ih]; rfl
    | false => rw [if_neg Bool.false_ne_true, if_neg Bool.false_ne_true, ih]
theorem foldO_eq {f : β → α → Option β} {g : β → α → β} : ∀ {xs : List α} {b : β}, (∀ b, ∀ x ∈ xs, f b x = some (g b x)) → foldO f b xs = some (xs.foldl g b)
  | [], _, _ => rfl
  | x :: r, b, h => by
    unfold foldO
    rw [h b x List.mem_cons_self, Option.bind_some, foldO_eq (xs := r) (fun b z hz => h b z (List.mem_cons_of_mem _ hz))]
    rfl
theorem ok_whileO {c : β → Option Bool} {f : β → Option β} (I : β → Prop) (μ : β → Nat) {Q : β → Prop} (hc : ∀ b, I b → Ok (c b) (fun t => if t = true then Ok (f b) (fun b' => I b' ∧ μ b' < μ b) else Q b)) : ∀ (n : Nat) (b : β), I b → μ b < n → Ok (whileO c f n b) Q
  | 0, b, _, h => absurd h (Nat.not_lt_zero _)
  | n + 1, b, hI, h => by
    unfold whileO
    refine ok_bnd (hc b hI) fun t ht => ?_
    cases t with
    | true =>
      rw [if_pos rfl] at ht ⊢
      exact ok_bnd ht fun b' ⟨h1, h2⟩ => ok_whileO I μ hc n b' h1 (by omega)
    | false =>
      rw [if_neg Bool.false_ne_true] at ht ⊢
      exact ok_some ht
theorem ok_whileF {c : β → Option Bool} {f : β → Option (Fl β ρ)} (I : β → Prop) (μ : β → Nat) {Q : Fl β ρ → Prop} (hc : ∀ b, I b → Ok (c b) (fun t => if t = true then Ok (f b) (fun o => match o with | .nx b' => I b' ∧ μ b' < μ b | .rt r => Q (.rt r)) else Q (.nx b))) : ∀ (n : Nat) (b : β), I b → μ b < n → Ok (whileF c f n b) Q
  | 0, b, _, h => absurd h (Nat.not_lt_zero _)
  | n + 1, b, hI, h => by
    unfold whileF
    refine ok_bnd (hc b hI) fun t ht => ?_
    cases t with
    | true =>
      rw [if_pos rfl] at ht ⊢
      refine ok_bnd ht fun o ho => ?_
      cases o with
      | nx b' => exact ok_whileF I μ hc n b' ho.1 (by have := ho.2; omega)
      | rt r => exact ok_some ho
    | false =>
      rw [if_neg Bool.false_ne_true] at ht ⊢
      exact ok_some ht
theorem fuel_eq : fuel = 1000000 := by unfold fuel; rfl
theorem mul_l {x y : Int} (h1 : -1000000000000000000 < x) (h2 : x < 1000000000000000000) : MulOk x y := .inl (.inl ⟨by omega, by omega⟩)
theorem mul_r {x y : Int} (h1 : -1000000000000000000 < y) (h2 : y < 1000000000000000000) : MulOk x y := .inl (.inr ⟨by omega, by omega⟩)
set_option exponentiation.threshold 10000 in
theorem div_small {y : Int} (h1 : 0 < y) (h2 : y < 1000000000000000000) : DivOk y := ⟨h1, PySem.Flt.log2_lt_of (by decide) (show y.natAbs < 2 ^ 9000 from Nat.lt_of_lt_of_le (show y.natAbs < 2 ^ 64 by omega) (Nat.pow_le_pow_right (by decide) (by decide)))⟩
theorem szl : sizeLine = 16777216 := rfl
theorem atI_get {xs : List α} {i : Int} (h0 : 0 ≤ i) (h1 : i < xs.length) : atI xs i = xs[i.toNat]? := by
  unfold atI ixN
  rw [if_pos h0, if_pos h1]; rfl
theorem ok_atI {xs : List α} {i : Int} {Q : α → Prop} (h0 : 0 ≤ i) (h1 : i < xs.length) (h : ∀ x, xs[i.toNat]? = some x → Q x) : Ok (atI xs i) Q := by
  rw [atI_get h0 h1]
  have hl : i.toNat < xs.length := by omega
  exact ⟨xs[i.toNat], List.getElem?_eq_getElem hl, h _ (List.getElem?_eq_getElem hl)⟩
theorem cut_len_le (xs : List α) (lo hi : Option Int) : (cut xs lo hi).length ≤ xs.length := by
  unfold cut
  rw [List.length_take, List.length_drop]
  omega
theorem cut_hi (xs : List α) (n : Nat) : cut xs none (some (n : Int)) = xs.take n := by
  unfold cut
  rw [HT.sIx_none, show HT.sIx xs.length xs.length (some (n : Int)) = min n xs.length from HT.sIx_nat xs.length xs.length n]
  simp only [List.drop_zero, Nat.sub_zero]
  by_cases h : n ≤ xs.length
  · rw [Nat.min_eq_left h]
  · rw [Nat.min_eq_right (by omega), List.take_of_length_le (Nat.le_refl _), List.take_of_length_le (by omega)]
theorem rng_len_nn {n : Int} (h : 0 ≤ n) : (rng 0 n).length = n.toNat := by rw [rng_len]; congr 1; omega
theorem rng_at {a b : Int} {i : Nat} {x : Int} (h : (rng a b)[i]? = some x) : x = a + (i : Int) ∧ a + (i : Int) < b := by
  obtain ⟨h1, h2⟩ := rng_get h
  omega
end
theorem chars_len (x : Str) : (chars x).length = x.length := by
  unfold chars
  rw [List.length_map, Array.length_toList]; rfl
theorem join_len0 (ys : List Str) : (Txt.join ("" : Str) ys).length = (ys.map (·.length)).sum := by
  have h : ∀ z : Str, z.length = (TL.tl z).length := fun z => by show z.cps.size = z.cps.toList.length; rw [Array.length_toList]
  have key : ∀ ps : List (List Nat), (TL.joinL [] ps).length = (ps.map List.length).sum := by
    intro ps
    induction ps with
    | nil => rfl
    | cons p r ih =>
      cases r with
      | nil => simp [TL.joinL]
      | cons q r =>
        have e : TL.joinL [] (p :: q :: r) = p ++ ([] ++ TL.joinL [] (q :: r)) := by simp [TL.joinL]
        rw [e, List.nil_append, List.length_append, ih]; rfl
  rw [h, TL.join_eq, TL.tl_join, show TL.tl ("" : Str) = [] from rfl, key, List.map_map]
  exact congrArg List.sum (List.map_congr_left fun z _ => (h z).symm)
theorem sum_ones {ys : List Str} (h : ∀ y ∈ ys, y.length = 1) : (ys.map (·.length)).sum = ys.length := by
  induction ys with
  | nil => rfl
  | cons y r ih =>
    rw [List.map_cons, List.sum_cons, ih fun z hz => h z (List.mem_cons_of_mem _ hz), h y List.mem_cons_self, List.length_cons]
    omega
theorem foldF_any {α ρ : Type} {p : α → Bool} {f : Unit → α → Option (Fl Unit ρ)} {r : ρ} (h : ∀ x, f () x = if p x = true then some (.rt r) else some (.nx ())) : ∀ xs : List α, foldF f () xs = some (if xs.any p = true then .rt r else .nx ())
  | [] => rfl
  | x :: xs => by
    unfold foldF
    rw [h x, List.any_cons]
    cases hp : p x with
    | true => rfl
    | false =>
      rw [if_neg Bool.false_ne_true]
      show foldF f () xs = _
      rw [foldF_any h xs, Bool.false_or]
end Dy

namespace Dy
open PySem PySem.Spec L2
open PyProof.Rows hiding St
open Enc (rep)
open Flat (toV)
open EncA (repA)

section
variable {α β γ δ : Type} [Enc α] [Enc β] [Enc γ] [Enc δ] {X : Cx} {σ : St} {s t : S} {e a b c tg iter : Expr} {es : List Expr} {pos p0 p1 p2 p3 : Pos} {D : Ends} {rest A B body : List Stmt}
def RepS (x : Str) (n : Int) : Prop := PySem.MulOk x n
@[irreducible] def replS (x : Str) (n : Int) : Str := Txt.mul x n
theorem op_repStr : OpR X (binaryOp .Mult) (fun x y H Q => ∃ z n, x = .str z ∧ y = .int n ∧ RepS z n ∧ Q (.str (replS z n)) H) := by
  intro pins s σ H x y v u Q I rx ry h
  obtain ⟨z, n, rfl, rfl, hok, q⟩ := h
  obtain ⟨t, rfl⟩ := rx
  obtain ⟨t', rfl⟩ := ry
  unfold replS at q
  exact PySem.SB.mul hok fun t' k => ⟨.str _, H, I.tok _, ⟨_, rfl⟩, q⟩
theorem ev_repS {x : Str} {n : Int} (ha : Ev X a σ s x) (hb : Ev X b σ s n) (h : RepS x n) : Ev X (.BinOp a .Mult b pos) σ s (replS x n) :=
  ev_op op_repStr ha hb fun v u s2 hv hu Q q => ⟨x, n, hv, hu, h, q _ s2 (Ex.refl _) rfl⟩
theorem repS_small {x : Str} {n : Int} (h0 : x.length ≤ 1000) (h1 : n ≤ 1000) (h2 : -1000 ≤ n) : RepS x n := by
  refine ⟨by rw [Bool.or_eq_false_iff]; exact ⟨decide_eq_false (by omega), decide_eq_false (by omega)⟩, fun h3 _ => ?_, fun h3 _ => ?_⟩
  · intro h
    have : (2 ^ 63 - 1) / n ≥ 1000 := by
      refine (Int.le_ediv_iff_mul_le (by omega)).mpr ?_
      omega
    omega
  · unfold Builtin.Str.tooLong
    have : x.length * n.toNat ≤ 1000 * 1000 := Nat.mul_le_mul h0 (by omega)
    refine decide_eq_false ?_
    have := szl
    omega
def stepN (a b c : Int) : Nat := if a < b then ((b - a - 1) / c + 1).toNat else 0
def rngS (a b c : Int) : List Int := (List.range (stepN a b c)).map fun i : Nat => a + (i : Int) * c
def RgS (a b c : Int) : Prop := (-(2 ^ 61) ≤ a ∧ a < 2 ^ 61) ∧ (-(2 ^ 61) ≤ b ∧ b < 2 ^ 61) ∧ 0 < c ∧ c < 1000000
theorem rgC_of {a b c : Int} (h : RgS a b c) : RgC a b c (stepN a b c) := by
  obtain ⟨⟨h1, h2⟩, ⟨h3, h4⟩, h5, h6⟩ := h
  have hs : Builtin.Range.rangeSize a b c = (stepN a b c : Nat) := by
    unfold Builtin.Range.rangeSize stepN
    rw [if_pos h5]
    split
    · have : 0 ≤ (b - a - 1) / c := Int.ediv_nonneg (by omega) (by omega)
      omega
    · rfl
  refine ⟨by omega, by omega, ?_, hs⟩
  have e1 : a < b → c * ((b - a - 1) / c) ≤ b - a - 1 := fun _ => Int.mul_ediv_self_le (by omega)
  have e2 : a < b → 0 ≤ (b - a - 1) / c := fun _ => Int.ediv_nonneg (by omega) (by omega)
  have e3 : a < b → (b - a - 1) / c ≤ b - a - 1 := fun _ => by
    refine Int.ediv_le_self _ (by omega)
  unfold Builtin.Range.small
  unfold Builtin.Range.rangeSize
  simp only [Builtin.Range.rangeFitsLong, Bool.and_eq_true, Bool.or_eq_true, decide_eq_true_eq, beq_iff_eq, if_pos h5]
  split
  · rename_i hlt
    have e1 := e1 hlt
    have e2 := e2 hlt
    have e3 := e3 hlt
    generalize hq : (b - a - 1) / c = q at *
    have e4 : c * q = q * c := Int.mul_comm _ _
    have e5 : (q + 1) * c = q * c + c := by rw [Int.add_mul]; omega
    have e6 : 0 ≤ c * q := Int.mul_nonneg (by omega) e2
    refine ⟨?_, ?_⟩ <;> omega
  · omega
theorem rngS_get {a b c : Int} {i : Nat} {x : Int} (h : (rngS a b c)[i]? = some x) : i < stepN a b c ∧ x = a + (i : Int) * c := by
  unfold rngS at h
  rw [List.getElem?_map] at h
  obtain ⟨j, h1, rfl⟩ := Option.map_eq_some_iff.mp h
  obtain ⟨h2, h3⟩ := List.getElem?_eq_some_iff.mp h1
  rw [List.length_range] at h2
  rw [List.getElem_range] at h3
  subst h3
  exact ⟨h2, rfl⟩
theorem rngS_len (a b c : Int) : (rngS a b c).length = stepN a b c := by unfold rngS; rw [List.length_map, List.length_range]
theorem ei_range3 {x y z : Int} (hm : X.mg "range" = none) (ha : Ev X a σ s x) (hb : Ev X b σ s y) (hc : Ev X c σ s z) (h : RgS x y z) (hg : Gl X "range" := by rfl)
    (hs : starEach [a, b, c] X.env = (false, eval a X.env) :: starEach [b, c] X.env := by rfl) (hs2 : starEach [b, c] X.env = (false, eval b X.env) :: starEach [c] X.env := by rfl) (hs3 : starEach [c] X.env = (false, eval c X.env) :: starEach [] X.env := by rfl) (hpl : (backTo pos (starEach [b, c] X.env)).any (·.1) = false := by rfl) :
    EvI X tg (.Call (.Name "range" p0) [a, b, c] [] pos) σ s (rngS x y z) := fun s1 k R q =>
  wi_of (pi_range3 hg hm (pa_cons pe_we (pa_cons pe_we (pa_cons pe_we pa_nil hs3) hs2) hs) hs hpl) (ha s1 k _ fun v s2 k2 r2 => hb s2 (k.trans k2) _ fun u s3 k3 r3 => hc s3 ((k.trans k2).trans k3) _ fun w s4 k4 r4 =>
    ⟨x, y, z, stepN x y z, by rw [show v = V.int x from r2, show u = V.int y from r3, show w = V.int z from r4], rgC_of h, q _ s4 ((k2.trans k3).trans k4) ⟨fun i t w f hw => ⟨(rngS_get hw).1, fun v' H' ⟨e1, e2⟩ => ⟨t, e1.symm, Ex.refl _, by rw [e2, (rngS_get hw).2]; rfl⟩⟩, fun i t f hi => by rw [rngS_len] at hi; exact hi⟩⟩)
theorem ev_isiR {xs : List α} {n : Str} {T : String} {r : Bool} (hm : X.mg "isinstance" = none) (hn : X.mg n = none) (hv : bootBuiltins n = some (.type T)) (ha : EvR X a σ s xs) (h : kitB "list" T = some r)
    (hg : Gl X "isinstance" := by rfl) (hgn : Gl X n := by rfl) (he : starEach [a, .Name n p1] X.env = (false, eval a X.env) :: starEach [.Name n p1] X.env := by rfl) (he2 : starEach [.Name n p1] X.env = (false, eval (.Name n p1) X.env) :: starEach [] X.env := by rfl) (hpl : (backTo pos (starEach [.Name n p1] X.env)).any (·.1) = false := by rfl)
    (hnn : n ≠ "__name__" := by decide) (hnd : (n == ("__debug__" : Str)) = false := by decide) :
    Ev X (.Call (.Name "isinstance" p0) [a, .Name n p1] [] pos) σ s r := fun s1 k Q q =>
  we_of (pe_callB call_isi hg hm (by decide +kernel) (pa_cons pe_we (pa_cons (pe_bltn (v := .ty T) hgn hn hv rfl hnn hnd) pa_nil he2) he) (he := he) (hpl := hpl)) (ha s1 k _ fun v s2 k2 r2 => by
    obtain ⟨p, vs, rfl, h1, _⟩ := r2
    exact ⟨.ref p, .ty T, .type "list", .type T, r, rfl, .ty T, sql_ty h1, kit_ty h, q _ s2 k2 rfl⟩)
theorem eb_isB {x y : Bool} (ha : Ev X a σ s x) (hb : Ev X b σ s y) : EvB X (.Compare a [.Is] [b] pos) σ s (decide (x = y)) :=
  eb_cmp op_isBl ha hb (fun v u s2 hv hu Q q => ⟨x, y, hv, hu, q⟩) (nomark _)
theorem eb_isnotB {x y : Bool} (ha : Ev X a σ s x) (hb : Ev X b σ s y) : EvB X (.Compare a [.IsNot] [b] pos) σ s (!decide (x = y)) :=
  eb_cmp op_notBl ha hb (fun v u s2 hv hu Q q => ⟨x, y, hv, hu, q⟩) (nomark _)
theorem ev_sliceT {x : Tu α} {lo hi : Option Expr} {l h : Option Int} (ha : Ev X a σ s x) (hl : EvO X lo σ s l) (hh : EvO X hi σ s h) : Ev X (.Subscript a (.Slice lo hi none p2) pos) σ s (Tu.mk (cut x.l l h)) := fun s1 k Q q => by
  obtain ⟨tl, pl, ql⟩ := po_evo hl
  obtain ⟨th, ph, qh⟩ := po_evo hh
  refine we_of (pe_slice sl_tupA pe_we pl ph) (ha s1 k _ fun v s2 k2 r2 => ql s2 (k.trans k2) _ fun s3 k3 => qh s3 ((k.trans k2).trans k3) _ fun s4 k4 => ?_)
  obtain ⟨p, vs, rfl, h1, h2⟩ := Enc.mono (α := Tu α) (k3.trans k4).f r2
  have kk := (k2.trans k3).trans k4
  refine ⟨p, vs, rfl, sqt_mono s4.sub h1, fun hw => ?_, fun _ l hl => q _ (s4.newF l _ hl) (kk.trans (Ex.newF hl)) ⟨l, _, rfl, tup_new hl, (h2.cut _ _).mono (Ex.newF hl).f⟩⟩
  refine q _ s4 kk ⟨p, vs, rfl, h1, ?_⟩
  have e : cut x.l l h = x.l := by
    unfold cut
    rw [← h2.len, hw.1, hw.2, List.drop_zero, Nat.sub_zero, h2.len, List.take_length]
  show Reps _ _ vs (cut x.l l h)
  rw [e]; exact h2
def popN (n : Nat) (i : Int) : Option Nat := if -(2 ^ 63) ≤ i ∧ i < 2 ^ 63 then seqIndex? i n else none
theorem seqIx_lt {n : Nat} {i : Int} {k : Nat} (h : seqIndex? i n = some k) : k < n := by
  unfold seqIndex? at h
  dsimp only at h
  split at h <;> split at h
  all_goals first | (rename_i h2; simp only [Bool.and_eq_true, decide_eq_true_eq] at h2; cases h; omega) | cases h
theorem do_popAt (i : Nat) {p : Addr} {n : Str} {xs : List α} {z : Int} {j : Nat} (hσ : σ[i]? = some (some (.ref p))) (o : Own X.K s p xs) (he : Ev X e σ s z) (hj : popN xs.length z = some j)
    (k : ∀ s1, Mx (· = p) s s1 → Own X.K s1 p (xs.eraseIdx j) → WSs X rest D σ s1.H)
    (hN : X.N[i]? = some n := by rfl) (hv : Vis X.env.scope n := by first | exact Or.inl rfl | exact Or.inr (Or.inl rfl) | exact Or.inr (Or.inr rfl)) (hd : (n == ("__debug__" : Str)) = false := by decide) (hcd : (n == ("__classdict__" : Str)) = false := by decide)
    (hbase : attributeBase (.Name n p0) "pop" X.env (eval (.Name n p0) X.env) = eval (.Name n p0) X.env := by rfl)
    (hfew : ((backTo p2 (starEach [e] X.env)).all (fun x => !x.1) && (backToKw p2 (keywordEach [] X.env)).all (fun x => x.1.isSome) && decide (([e] : List Expr).length + ([] : List Keyword).length + (if ([] : List Keyword).isEmpty then 0 else 1) < 30)) = true := by rfl)
    (hline : (p1.endLine == p2.line) = true := by rfl) (hs : starEach [e] X.env = (false, eval e X.env) :: starEach [] X.env := by rfl) (hplain : (backTo p2 (starEach [] X.env)).any (·.1) = false := by rfl)
    (hsw : swapsWith (.Call (.Attribute (.Name n p0) "pop" p1) [e] [] p2) none p3.line X.env = pure false := by rfl) :
    WSs X (.Expr (.Call (.Attribute (.Name n p0) "pop" p1) [e] [] p2) p3 :: rest) D σ s.H :=
  do_cons (ps_expr (pe_bm PySem.F.plainAttrs_list PySem.F.slot_list_pop PySem.F.type_list_pop mt_popAt (pe_var hN hv hd hcd) (pa_cons pe_we pa_nil hs) hbase hfew hline hs hplain) hsw) (by
    obtain ⟨h1, vs, h2, h3⟩ := id o
    refine ⟨_, hσ, .inl ⟨rfl, vs, .inl (.inl h2)⟩, he s (Ex.refl _) _ fun v s1 k1 r1 => ?_⟩
    have f1 := k1.n _ _ h2 h1
    have g1 := k1.h _ _ h2
    unfold popN at hj
    split at hj
    · rename_i hb
      have hlt : j < vs.length := by rw [h3.len]; exact seqIx_lt hj
      refine ⟨p, vs, z, j, vs[j], rfl, by rw [show v = V.int z from r1], g1, hb.1, hb.2, by rw [h3.len]; exact hj, List.getElem?_eq_getElem hlt, ?_⟩
      exact k (s1.put p (.lst (vs.eraseIdx j)) f1) (k1.mx.trans (Mx.put f1)) ⟨f1, _, upd_same, (h3.mono k1.f).erase j⟩
    · cases hj)
def InsOk (i : Int) (n : Nat) : Prop := 0 ≤ i ∧ i < 2 ^ 63 ∧ n < sizeLine
def insI {τ : Type} (xs : List τ) (i : Int) (x : τ) : List τ := xs.take i.toNat ++ [x] ++ xs.drop i.toNat
theorem do_insert (i : Nat) {p : Addr} {n : Str} {xs : List α} {z : Int} {x : α} (hσ : σ[i]? = some (some (.ref p))) (o : Own X.K s p xs) (ha : Ev X a σ s z) (hb : Ev X b σ s x) (hj : InsOk z xs.length)
    (k : ∀ s1, Mx (· = p) s s1 → Own X.K s1 p (insI xs z x) → WSs X rest D σ s1.H)
    (hN : X.N[i]? = some n := by rfl) (hv : Vis X.env.scope n := by first | exact Or.inl rfl | exact Or.inr (Or.inl rfl) | exact Or.inr (Or.inr rfl)) (hd : (n == ("__debug__" : Str)) = false := by decide) (hcd : (n == ("__classdict__" : Str)) = false := by decide)
    (hbase : attributeBase (.Name n p0) "insert" X.env (eval (.Name n p0) X.env) = eval (.Name n p0) X.env := by rfl)
    (hfew : ((backTo p2 (starEach [a, b] X.env)).all (fun x => !x.1) && (backToKw p2 (keywordEach [] X.env)).all (fun x => x.1.isSome) && decide (([a, b] : List Expr).length + ([] : List Keyword).length + (if ([] : List Keyword).isEmpty then 0 else 1) < 30)) = true := by rfl)
    (hline : (p1.endLine == p2.line) = true := by rfl) (hs : starEach [a, b] X.env = (false, eval a X.env) :: starEach [b] X.env := by rfl) (hs2 : starEach [b] X.env = (false, eval b X.env) :: starEach [] X.env := by rfl) (hplain : (backTo p2 (starEach [b] X.env)).any (·.1) = false := by rfl)
    (hsw : swapsWith (.Call (.Attribute (.Name n p0) "insert" p1) [a, b] [] p2) none p3.line X.env = pure false := by rfl) :
    WSs X (.Expr (.Call (.Attribute (.Name n p0) "insert" p1) [a, b] [] p2) p3 :: rest) D σ s.H :=
  do_cons (ps_expr (pe_bm PySem.F.plainAttrs_list PySem.F.slot_list_insert PySem.F.type_list_insert mt_insert (pe_var hN hv hd hcd) (pa_cons pe_we (pa_cons pe_we pa_nil hs2) hs) hbase hfew hline hs hplain) hsw) (by
    obtain ⟨h1, vs, h2, h3⟩ := id o
    refine ⟨_, hσ, .inl ⟨rfl, vs, .inl (.inl h2)⟩, ha s (Ex.refl _) _ fun u s1 k1 r1 => hb s1 k1 _ fun v s2 k2 r2 => ?_⟩
    have kk := k1.trans k2
    have f1 := kk.n _ _ h2 h1
    have g1 := kk.h _ _ h2
    refine ⟨p, vs, z, v, rfl, by rw [show u = V.int z from r1], g1, by rw [h3.len]; exact hj.2.2, hj.1, hj.2.1, ?_⟩
    exact k (s2.put p (.lst (vs.take z.toNat ++ [v] ++ vs.drop z.toNat)) f1) (kk.mx.trans (Mx.put f1)) ⟨f1, _, upd_same, (((h3.mono kk.f).take _).snoc r2).app ((h3.mono kk.f).drop _)⟩)
theorem do_reverse (i : Nat) {p : Addr} {n : Str} {xs : List α} (hσ : σ[i]? = some (some (.ref p))) (o : Own X.K s p xs)
    (k : ∀ s1, Mx (· = p) s s1 → Own X.K s1 p xs.reverse → WSs X rest D σ s1.H)
    (hN : X.N[i]? = some n := by rfl) (hv : Vis X.env.scope n := by first | exact Or.inl rfl | exact Or.inr (Or.inl rfl) | exact Or.inr (Or.inr rfl)) (hd : (n == ("__debug__" : Str)) = false := by decide) (hcd : (n == ("__classdict__" : Str)) = false := by decide)
    (hbase : attributeBase (.Name n p0) "reverse" X.env (eval (.Name n p0) X.env) = eval (.Name n p0) X.env := by rfl) (hline : (p1.endLine == p2.line) = true := by rfl)
    (hsw : swapsWith (.Call (.Attribute (.Name n p0) "reverse" p1) [] [] p2) none p3.line X.env = pure false := by rfl) :
    WSs X (.Expr (.Call (.Attribute (.Name n p0) "reverse" p1) [] [] p2) p3 :: rest) D σ s.H :=
  do_cons (ps_expr (pe_bm0 PySem.F.plainAttrs_list PySem.F.slot_list_reverse PySem.F.type_list_reverse mt_reverse (pe_var hN hv hd hcd) hbase hline) hsw) (by
    obtain ⟨h1, vs, h2, h3⟩ := id o
    refine ⟨_, hσ, .inl ⟨rfl, vs, .inl (.inl h2)⟩, p, vs, rfl, rfl, h2, ?_⟩
    exact k (s.put p (.lst vs.reverse) h1) (Mx.put h1) ⟨h1, _, upd_same, h3.rev⟩)
theorem do_clear (i : Nat) {p : Addr} {n : Str} {xs : List α} (hσ : σ[i]? = some (some (.ref p))) (o : Own X.K s p xs)
    (k : ∀ s1, Mx (· = p) s s1 → Own X.K s1 p ([] : List α) → WSs X rest D σ s1.H)
    (hN : X.N[i]? = some n := by rfl) (hv : Vis X.env.scope n := by first | exact Or.inl rfl | exact Or.inr (Or.inl rfl) | exact Or.inr (Or.inr rfl)) (hd : (n == ("__debug__" : Str)) = false := by decide) (hcd : (n == ("__classdict__" : Str)) = false := by decide)
    (hbase : attributeBase (.Name n p0) "clear" X.env (eval (.Name n p0) X.env) = eval (.Name n p0) X.env := by rfl) (hline : (p1.endLine == p2.line) = true := by rfl)
    (hsw : swapsWith (.Call (.Attribute (.Name n p0) "clear" p1) [] [] p2) none p3.line X.env = pure false := by rfl) :
    WSs X (.Expr (.Call (.Attribute (.Name n p0) "clear" p1) [] [] p2) p3 :: rest) D σ s.H :=
  do_cons (ps_expr (pe_bm0 PySem.F.plainAttrs_list PySem.F.slot_list_clear PySem.F.type_list_clear mt_clear (pe_var hN hv hd hcd) hbase hline) hsw) (by
    obtain ⟨h1, vs, h2, h3⟩ := id o
    refine ⟨_, hσ, .inl ⟨rfl, vs, .inl (.inl h2)⟩, p, vs, rfl, rfl, h2, ?_⟩
    exact k (s.put p (.lst []) h1) (Mx.put h1) ⟨h1, _, upd_same, trivial⟩)
theorem ev_catT {x y : Tu α} (ha : Ev X a σ s x) (hb : Ev X b σ s y) (hz : x.l.length + y.l.length ≤ sizeLine) : Ev X (.BinOp a .Add b pos) σ s (Tu.mk (x.l ++ y.l)) := fun s1 k Q q =>
  we_of (pe_op op_catA pe_we pe_we) (ha s1 k _ fun v s2 k2 r2 => hb s2 (k.trans k2) _ fun u s3 k3 r3 => by
    obtain ⟨p, vs, rfl, h1, h2⟩ := Enc.mono (α := Tu α) k3.f r2
    obtain ⟨p', ws, rfl, h3, h4⟩ := r3
    have kk := k2.trans k3
    refine ⟨p, p', vs, ws, rfl, rfl, sqt_mono s3.sub h1, sqt_mono s3.sub h3, by rw [h2.len, h4.len]; exact hz, fun e => ?_, fun _ e => ?_, fun _ _ l hl => q _ (s3.newF l _ hl) (kk.trans (Ex.newF hl)) ⟨l, _, rfl, tup_new hl, (h2.app h4).mono (Ex.newF hl).f⟩⟩
    · refine q _ s3 kk ⟨p', ws, rfl, h3, ?_⟩
      subst e
      have e2 : x.l = [] := List.length_eq_zero_iff.mp h2.len.symm
      show Reps _ _ ws (x.l ++ y.l)
      rw [e2]; exact h4
    · refine q _ s3 kk ⟨p, vs, rfl, h1, ?_⟩
      subst e
      have e2 : y.l = [] := List.length_eq_zero_iff.mp h4.len.symm
      show Reps _ _ vs (x.l ++ y.l)
      rw [e2, List.append_nil]; exact h2)
end
theorem foldO_app {α β : Type} {N : Nat} {f : List β → α → Option (List β)} {g : α → β} : ∀ {xs : List α} {b : List β}, (∀ b x, b.length < N → x ∈ xs → f b x = some (b ++ [g x])) → b.length + xs.length ≤ N → foldO f b xs = some (b ++ xs.map g)
  | [], b, _, _ => by simp [foldO]
  | x :: r, b, h, hl => by
    rw [List.length_cons] at hl
    unfold foldO
    rw [h b x (by omega) List.mem_cons_self, Option.bind_some, foldO_app (xs := r) (b := b ++ [g x]) (fun b y hb hy => h b y hb (List.mem_cons_of_mem _ hy)) (by rw [List.length_append, List.length_singleton]; omega)]
    simp
theorem atI_map {α β : Type} {f : α → β} {xs : List α} {i : Int} {x : α} (h : atI xs i = some x) : atI (xs.map f) i = some (f x) := by
  unfold atI at h ⊢
  rw [List.length_map]
  cases hj : ixN xs.length i with
  | none => rw [hj] at h; cases h
  | some j =>
    rw [hj] at h
    show (xs.map f)[j]? = _
    rw [List.getElem?_map]
    have : xs[j]? = some x := h
    rw [this]; rfl
theorem foldF_none {α ρ : Type} {f : Unit → α → Option (Fl Unit ρ)} : ∀ {xs : List α}, (∀ x ∈ xs, f () x = some (.nx ())) → foldF f () xs = some (.nx ())
  | [], _ => rfl
  | x :: r, h => by
    unfold foldF
    rw [h x List.mem_cons_self]
    exact foldF_none fun y hy => h y (List.mem_cons_of_mem _ hy)
theorem foldF_ok {α ρ : Type} {f : Unit → α → Option (Fl Unit ρ)} {xs : List α} {Q : Fl Unit ρ → Prop} (h : ∀ x ∈ xs, Ok (f () x) (· = .nx ())) (q : Q (.nx ())) : Ok (foldF f () xs) Q :=
  ⟨_, foldF_none fun x hx => (h x hx).eq, q⟩
def Drawn (sizes ds : List Int) : Prop := ds.length = sizes.length ∧ ∀ (j : Nat) (d n : Int), ds[j]? = some d → sizes[j]? = some n → 0 ≤ d ∧ d < n
theorem ok_draw {sizes ds : List Int} (h : Drawn sizes ds) (k : Nat) {n : Int} (hk : sizes[k]? = some n) {Q : Int → Prop} (q : ∀ d, 0 ≤ d → d < n → Q d) : Ok (atI ds (k : Int)) Q := by
  obtain ⟨h1, h2⟩ := h
  have hlt : k < ds.length := by rw [h1]; exact (List.getElem?_eq_some_iff.mp hk).1
  refine ok_atI (by omega) (by omega) fun d hd => ?_
  rw [show (k : Int).toNat = k by omega] at hd
  obtain ⟨a, b⟩ := h2 k d n hd hk
  exact q d a b
theorem ok_sgn {x : Str} {i : Int} {Q : Str → Prop} (hz : x.length ≤ sizeLine) (h0 : 0 ≤ i) (h1 : i < x.length) (h : ∀ c, x.cps.toList[i.toNat]? = some c → Q ⟨#[c]⟩) : Ok (sgn x i) Q := by
  unfold sgn
  rw [if_pos hz]
  have hl : i.toNat < x.cps.toList.length := by
    rw [Array.length_toList]
    show i.toNat < x.length
    omega
  rw [atI_get h0 (by rw [Array.length_toList]; show i < (x.length : Int); exact h1), List.getElem?_eq_getElem hl]
  exact ok_some (h _ (List.getElem?_eq_getElem hl))
theorem bnd_some {α : Type} (m : Option α) : (bnd m fun x => some x) = m := by cases m <;> rfl
theorem ok_ret {α : Type} {m : Option α} {P : α → Prop} (h : Ok m P) : Ok (bnd m fun x => some x) P := by rw [bnd_some]; exact h
def txt (x : Str) : Prop := PyData.strOk x = true
theorem shp_strs {xs : List Str} (h : ∀ x ∈ xs, txt x) : shp xs := by
  unfold shp SeqAt.shaped
  have h1 : PyData.canLay0 (EqD.toD xs) = true := by
    show PyData.canLay0 (.list (xs.map PyData.str)) = true
    unfold PyData.canLay0
    induction xs with
    | nil => simp [PyData.canLayAll0]
    | cons x r ih =>
      rw [List.map_cons]
      unfold PyData.canLayAll0
      rw [ih fun y hy => h y (List.mem_cons_of_mem _ hy)]
      show (PyData.canLay0 (.str x) && true) = true
      unfold PyData.canLay0
      rw [show PyData.strOk x = true from h x List.mem_cons_self]; rfl
  have h2 : PyData.depth (EqD.toD xs) ≤ 64 := by
    show PyData.depth (.list (xs.map PyData.str)) ≤ 64
    unfold PyData.depth
    have : PyData.depthAll (xs.map PyData.str) = 0 := by
      clear h h1
      induction xs with
      | nil => simp [PyData.depthAll]
      | cons x r ih => rw [List.map_cons]; unfold PyData.depthAll; rw [ih]; simp [PyData.depth]
    omega
  rw [h1, decide_eq_true h2]; rfl
end Dy

namespace Dy
open PySem PySem.Spec L2
open PyProof.Rows hiding St
open Enc (rep)
open Flat (toV)
open EncA (repA)

def S.back (s t : S) (h : Fle s.F t.F) : S := ⟨s.F, t.H, fun a o q => t.sub a o (h a o q)⟩
theorem backE {s0 s t : S} (h : Fle s.F t.F) (E : Ex s0 s) (E' : Ex s0 t) : Ex s0 (s.back t h) := ⟨E.f, E'.h, E.n⟩
theorem backOwn {α : Type} [Enc α] {K : PySem.W.Frag} {s s1 t : S} {p : Addr} {xs : List α} (h : Fle s.F t.F) (o : Own K s p xs) (h1 : s1.F p = s.H p) (h2 : Fle s1.F t.F) : Own K (s.back t h) p xs := by
  obtain ⟨n, vs, e, r⟩ := o
  exact ⟨n, vs, t.sub _ _ (h2 _ _ (h1.trans e)), r⟩
theorem backOwn2 {α : Type} [Flat α] {K : PySem.W.Frag} {s t : S} {q : Addr} {xs : List α} (h : Fle s.F t.F) (o : Own K t q xs) : Own K (s.back t h) q xs := by
  obtain ⟨n, vs, e, r⟩ := o
  refine ⟨?_, vs, e, ?_⟩
  · show s.F q = none
    cases z : s.F q with
    | none => rfl
    | some u => rw [h _ _ z] at n; cases n
  · rw [r.flat]; exact Reps.of_flat xs
theorem backFlat {α : Type} [Flat α] {K : PySem.W.Frag} {s t : S} {v : V} {x : α} (h : Fle s.F t.F) (r : rep K t.F v x) : rep K (s.back t h).F v x := Flat.iff.mpr (Flat.iff.mp r)
section
variable {α β γ δ : Type} [Enc α] [Enc β] [Enc γ] [Enc δ] {X : Cx} {σ : St} {s t : S} {e a b c tg iter : Expr} {es : List Expr} {pos p0 p1 p2 p3 p4 p5 : Pos} {D : Ends} {rest A B body : List Stmt}
theorem do_frz2 {p : Addr} {xs : List α} {ss : List Stmt} (o : Own X.K s p xs) (k : ∀ s' : S, s'.H = s.H → Fle s.F s'.F → (∀ q, q ≠ p → s'.F q = s.F q) → rep X.K s'.F (.ref p) xs → s'.F p = s.H p → WSs X ss D σ s'.H) : WSs X ss D σ s.H := by
  obtain ⟨hn, vs, hp, r⟩ := o
  have f : Fle s.F (upd s.F p (.lst vs)) := fun a o q => by rw [upd_ne (ne_of_none q hn)]; exact q
  exact k ⟨upd s.F p (.lst vs), s.H, fun a o q => by
    unfold upd at q
    split at q
    · rename_i e; cases q; rw [e]; exact hp
    · exact s.sub a o q⟩ rfl f (fun q hq => upd_ne hq) ⟨p, vs, rfl, .inl (.inl upd_same), r.mono f⟩ (by show upd s.F p (.lst vs) p = _; rw [upd_same, hp])
theorem do_back {ss : List Stmt} (s : S) {t : S} (h : Fle s.F t.F) (k : WSs X ss D σ (s.back t h).H) : WSs X ss D σ t.H := k

section
variable {p : Addr} {n : Str} {xs : List α}
theorem we_pop (i : Nat) {z : Int} {j : Nat} {y : α} {Q : VK} (hσ : σ[i]? = some (some (.ref p))) (o : Own X.K s p xs) (he : Ev X e σ s z) (hj : popN xs.length z = some j) (hy : xs[j]? = some y)
    (k : ∀ v s1, Mx (· = p) s s1 → Own X.K s1 p (xs.eraseIdx j) → rep X.K s1.F v y → Q v s1.H)
    (hN : X.N[i]? = some n := by rfl) (hv : Vis X.env.scope n := by first | exact Or.inl rfl | exact Or.inr (Or.inl rfl) | exact Or.inr (Or.inr rfl)) (hd : (n == ("__debug__" : Str)) = false := by decide) (hcd : (n == ("__classdict__" : Str)) = false := by decide)
    (hbase : attributeBase (.Name n p0) "pop" X.env (eval (.Name n p0) X.env) = eval (.Name n p0) X.env := by rfl)
    (hfew : ((backTo p2 (starEach [e] X.env)).all (fun x => !x.1) && (backToKw p2 (keywordEach [] X.env)).all (fun x => x.1.isSome) && decide (([e] : List Expr).length + ([] : List Keyword).length + (if ([] : List Keyword).isEmpty then 0 else 1) < 30)) = true := by rfl)
    (hline : (p1.endLine == p2.line) = true := by rfl) (hs : starEach [e] X.env = (false, eval e X.env) :: starEach [] X.env := by rfl) (hplain : (backTo p2 (starEach [] X.env)).any (·.1) = false := by rfl) :
    WE X (.Call (.Attribute (.Name n p0) "pop" p1) [e] [] p2) σ s.H Q :=
  we_of (pe_bm PySem.F.plainAttrs_list PySem.F.slot_list_pop PySem.F.type_list_pop mt_popAt (pe_var hN hv hd hcd) (pa_cons pe_we pa_nil hs) hbase hfew hline hs hplain) (by
    obtain ⟨h1, vs, h2, h3⟩ := id o
    refine ⟨_, hσ, .inl ⟨rfl, vs, .inl (.inl h2)⟩, he s (Ex.refl _) _ fun v s1 k1 r1 => ?_⟩
    have f1 := k1.n _ _ h2 h1
    have g1 := k1.h _ _ h2
    unfold popN at hj
    split at hj
    · rename_i hb
      obtain ⟨w, hw, rw'⟩ := (h3.mono k1.f).get hy
      refine ⟨p, vs, z, j, w, rfl, by rw [show v = V.int z from r1], g1, hb.1, hb.2, by rw [h3.len]; exact hj, hw, ?_⟩
      exact k w (s1.put p (.lst (vs.eraseIdx j)) f1) (k1.mx.trans (Mx.put f1)) ⟨f1, _, upd_same, (h3.mono k1.f).erase j⟩ rw'
    · cases hj)
end
def popAt {τ : Type} (xs : List τ) (z : Int) : Option (τ × List τ) := (popN xs.length z).bind fun j => (xs[j]?).map fun y => (y, xs.eraseIdx j)
theorem popAt_some {τ : Type} {xs ys : List τ} {z : Int} {y : τ} (h : popAt xs z = some (y, ys)) : ∃ j, popN xs.length z = some j ∧ xs[j]? = some y ∧ ys = xs.eraseIdx j := by
  unfold popAt at h
  obtain ⟨j, h1, h2⟩ := bndE h
  obtain ⟨w, h3, h4⟩ := Option.map_eq_some_iff.mp h2
  cases h4
  exact ⟨j, h1, h3, rfl⟩
theorem do_setPop (i l : Nat) {p : Addr} {n m : Str} {xs ys : List α} {z : Int} {y : α} {py : Pos} (hσ : σ[i]? = some (some (.ref p))) (o : Own X.K s p xs) (he : Ev X e σ s z) (hj : popAt xs z = some (y, ys))
    (k : ∀ v s1, Mx (· = p) s s1 → Own X.K s1 p ys → rep X.K s1.F v y → WSs X rest D (σ.set l (some v)) s1.H)
    (hnd : X.N.Nodup) (hN : X.N[i]? = some n := by rfl) (hv : Vis X.env.scope n := by first | exact Or.inl rfl | exact Or.inr (Or.inl rfl) | exact Or.inr (Or.inr rfl)) (hd : (n == ("__debug__" : Str)) = false := by decide) (hcd : (n == ("__classdict__" : Str)) = false := by decide)
    (hbase : attributeBase (.Name n p0) "pop" X.env (eval (.Name n p0) X.env) = eval (.Name n p0) X.env := by rfl)
    (hfew : ((backTo p2 (starEach [e] X.env)).all (fun x => !x.1) && (backToKw p2 (keywordEach [] X.env)).all (fun x => x.1.isSome) && decide (([e] : List Expr).length + ([] : List Keyword).length + (if ([] : List Keyword).isEmpty then 0 else 1) < 30)) = true := by rfl)
    (hline : (p1.endLine == p2.line) = true := by rfl) (hs : starEach [e] X.env = (false, eval e X.env) :: starEach [] X.env := by rfl) (hplain : (backTo p2 (starEach [] X.env)).any (·.1) = false := by rfl)
    (hx : Loc X.env.scope m := by first | exact Or.inl rfl | exact Or.inr rfl) (hi : X.N[l]? = some m := by rfl)
    (hsw : swapsWith (.Call (.Attribute (.Name n p0) "pop" p1) [e] [] p2) (some (.Name m py)) pos.line X.env = pure false := by rfl) (hf : X.fn m = true ∨ X.env.scope.names.lookup m = some .local := by first | exact .inl rfl | exact .inr rfl) :
    WSs X (.Assign [.Name m py] (.Call (.Attribute (.Name n p0) "pop" p1) [e] [] p2) pos :: rest) D σ s.H := by
  obtain ⟨j, h1, h2, rfl⟩ := popAt_some hj
  exact do_cons (ps_set hnd hi hx pe_we hsw hf) (we_pop i hσ o he h1 h2 (fun v s1 m1 o1 r1 => k v s1 m1 o1 r1) hN hv hd hcd hbase hfew hline hs hplain)
theorem do_appPop (i l : Nat) {p q : Addr} {n m : Str} {xs ys zs : List α} {z : Int} {y : α} {py : Pos} (hσ : σ[i]? = some (some (.ref p))) (hσ2 : σ[l]? = some (some (.ref q))) (hpq : q ≠ p) (o : Own X.K s p xs) (o2 : Own X.K s q zs) (hz : zs.length < sizeLine) (he : Ev X e σ s z) (hj : popAt xs z = some (y, ys))
    (k : ∀ s1, Mx (fun a => a = p ∨ a = q) s s1 → Own X.K s1 p ys → Own X.K s1 q (zs ++ [y]) → WSs X rest D σ s1.H)
    (hN : X.N[i]? = some n := by rfl) (hv : Vis X.env.scope n := by first | exact Or.inl rfl | exact Or.inr (Or.inl rfl) | exact Or.inr (Or.inr rfl)) (hd : (n == ("__debug__" : Str)) = false := by decide) (hcd : (n == ("__classdict__" : Str)) = false := by decide)
    (hbase : attributeBase (.Name n p0) "pop" X.env (eval (.Name n p0) X.env) = eval (.Name n p0) X.env := by rfl)
    (hfew : ((backTo p2 (starEach [e] X.env)).all (fun x => !x.1) && (backToKw p2 (keywordEach [] X.env)).all (fun x => x.1.isSome) && decide (([e] : List Expr).length + ([] : List Keyword).length + (if ([] : List Keyword).isEmpty then 0 else 1) < 30)) = true := by rfl)
    (hline : (p1.endLine == p2.line) = true := by rfl) (hs : starEach [e] X.env = (false, eval e X.env) :: starEach [] X.env := by rfl) (hplain : (backTo p2 (starEach [] X.env)).any (·.1) = false := by rfl)
    (hN2 : X.N[l]? = some m := by rfl) (hv2 : Vis X.env.scope m := by first | exact Or.inl rfl | exact Or.inr (Or.inl rfl) | exact Or.inr (Or.inr rfl)) (hd2 : (m == ("__debug__" : Str)) = false := by decide) (hcd2 : (m == ("__classdict__" : Str)) = false := by decide)
    (hbase2 : attributeBase (.Name m py) "append" X.env (eval (.Name m py) X.env) = eval (.Name m py) X.env := by rfl)
    (hfew2 : ((backTo p4 (starEach [.Call (.Attribute (.Name n p0) "pop" p1) [e] [] p2] X.env)).all (fun x => !x.1) && (backToKw p4 (keywordEach [] X.env)).all (fun x => x.1.isSome) && decide (([.Call (.Attribute (.Name n p0) "pop" p1) [e] [] p2] : List Expr).length + ([] : List Keyword).length + (if ([] : List Keyword).isEmpty then 0 else 1) < 30)) = true := by rfl)
    (hline2 : (p3.endLine == p4.line) = true := by rfl) (hs2 : starEach [.Call (.Attribute (.Name n p0) "pop" p1) [e] [] p2] X.env = (false, eval (.Call (.Attribute (.Name n p0) "pop" p1) [e] [] p2) X.env) :: starEach [] X.env := by rfl) (hplain2 : (backTo p4 (starEach [] X.env)).any (·.1) = false := by rfl)
    (hsw : swapsWith (.Call (.Attribute (.Name m py) "append" p3) [.Call (.Attribute (.Name n p0) "pop" p1) [e] [] p2] [] p4) none p5.line X.env = pure false := by rfl) :
    WSs X (.Expr (.Call (.Attribute (.Name m py) "append" p3) [.Call (.Attribute (.Name n p0) "pop" p1) [e] [] p2] [] p4) p5 :: rest) D σ s.H := by
  obtain ⟨j, h1, h2, rfl⟩ := popAt_some hj
  refine do_cons (ps_expr (pe_bm PySem.F.plainAttrs_list PySem.F.slot_list_append PySem.F.type_list_append mt_append (pe_var hN2 hv2 hd2 hcd2) (pa_cons pe_we pa_nil hs2) hbase2 hfew2 hline2 hs2 hplain2) hsw) ?_
  obtain ⟨g1, vs, g2, g3⟩ := id o2
  refine ⟨_, hσ2, .inl ⟨rfl, vs, .inl (.inl g2)⟩, we_pop i hσ o he h1 h2 (fun v s1 m1 o1 r1 => ?_) hN hv hd hcd hbase hfew hline hs hplain⟩
  obtain ⟨f1, ws, f2, f3⟩ := o2.mx m1 hpq
  refine ⟨q, ws, v, rfl, rfl, f2, by rw [f3.len]; exact hz, ?_⟩
  have m2 : Mx (fun a => a = p ∨ a = q) s1 (s1.put q (.lst (ws ++ [v])) f1) := ⟨(Mx.put f1).f, fun a u h nn => (Mx.put f1).h a u h fun z => nn (.inr z), (Mx.put f1).n, (Mx.put f1).d⟩
  have m0 : Mx (fun a => a = p ∨ a = q) s s1 := ⟨m1.f, fun a u h nn => m1.h a u h fun z => nn (.inl z), m1.n, m1.d⟩
  refine k (s1.put q (.lst (ws ++ [v])) f1) (m0.trans m2) (o1.mx (Mx.put f1) fun z => hpq z.symm) ⟨f1, _, upd_same, f3.snoc r1⟩
theorem Ex.mu2 {s t u : S} {p q : Addr} (a : Ex s t) (b : Mx (fun a => a = p ∨ a = q) t u) (h : s.H p = none) (h2 : s.H q = none) : Ex s u := a.mu b fun _ e => e.elim (fun z => z ▸ h) fun z => z ▸ h2
def popAll {σ τ : Type} (f : List τ → σ → Option Int) : List τ → List σ → Option (List τ)
  | _, [] => some []
  | l, x :: r => (f l x).bind fun z => (popAt l z).bind fun y => (popAll f y.2 r).bind fun ys => some (y.1 :: ys)
theorem do_retPop (i j : Nat) {τ : Type} [Enc τ] {zs : List τ} {xs ys : List α} {f : List α → τ → Option Int} {p : Addr} {n x : Str} {px : Pos} {ie : Expr} {scope : Scope} {own : List (Str × Nat)} (hc : X.calm = true) (hN : X.N.Nodup) (hi : EvI X (.Name x px) iter σ s zs) (o : Own X.K s p xs) (ok : BlkOk X.N X.env.scope scope own)
    (hj : X.N[j]? = some x) (hjo : j ∈ own.map (·.2)) (hg : ∀ s0 H0 C cl fp, PG (Blk X scope s0 H0 C cl fp) (.Name x px) (gName j)) (hσ : ∀ v, ((wipe σ (own.map (·.2))).set j (some v))[i]? = some (some (.ref p))) (hf : popAll f xs zs = some ys) (hz : ys.length ≤ sizeLine)
    (he : ∀ (l : List α) (y : τ) (z : Int) (v : V) (s1 : S), y ∈ zs → Mx (· = p) s s1 → Own X.K s1 p l → rep X.K s1.F v y → f l y = some z → ∀ s0 H0 C cl fp, Ev (Blk X scope s0 H0 C cl fp) ie ((wipe σ (own.map (·.2))).set j (some v)) s1 z)
    (k : ∀ q s1, Mx (· = p) s s1 → s.H q = none → Own X.K s1 q ys → D.rt (.ref q) s1.H)
    (hNi : X.N[i]? = some n := by rfl)
    (hv : ∀ s0 H0 C cl fp, Vis (Blk X scope s0 H0 C cl fp).env.scope n := by intros; first | exact Or.inl rfl | exact Or.inr (Or.inl rfl) | exact Or.inr (Or.inr rfl)) (hd : (n == ("__debug__" : Str)) = false := by decide) (hcd : (n == ("__classdict__" : Str)) = false := by decide)
    (hbase : ∀ s0 H0 C cl fp, attributeBase (.Name n p0) "pop" (Blk X scope s0 H0 C cl fp).env (eval (.Name n p0) (Blk X scope s0 H0 C cl fp).env) = eval (.Name n p0) (Blk X scope s0 H0 C cl fp).env := by intros; rfl)
    (hfew : ∀ s0 H0 C cl fp, ((backTo p2 (starEach [ie] (Blk X scope s0 H0 C cl fp).env)).all (fun x => !x.1) && (backToKw p2 (keywordEach [] (Blk X scope s0 H0 C cl fp).env)).all (fun x => x.1.isSome) && decide (([ie] : List Expr).length + ([] : List Keyword).length + (if ([] : List Keyword).isEmpty then 0 else 1) < 30)) = true := by intros; rfl)
    (hline : (p1.endLine == p2.line) = true := by rfl) (hs1 : ∀ s0 H0 C cl fp, starEach [ie] (Blk X scope s0 H0 C cl fp).env = (false, eval ie (Blk X scope s0 H0 C cl fp).env) :: starEach [] (Blk X scope s0 H0 C cl fp).env := by intros; rfl) (hplain : ∀ s0 H0 C cl fp, (backTo p2 (starEach [] (Blk X scope s0 H0 C cl fp).env)).any (·.1) = false := by intros; rfl)
    (hs : ∀ x, foldedSetIterable iter X.env x = pure x := by intro _; rfl) : WSs X (.Return (some (.ListComp (.Call (.Attribute (.Name n p0) "pop" p1) [ie] [] p2) [⟨.Name x px, iter, [], 0⟩] scope p3)) pos :: rest) D σ s.H := by
  have hpe : PE X (.ListComp (.Call (.Attribute (.Name n p0) "pop" p1) [ie] [] p2) [⟨.Name x px, iter, [], 0⟩] scope p3) (tLc (WI X (.Name x px) iter) (gName j) tYes (fun σ H Q => ∀ s0 H0 C cl fp, WE (Blk X scope s0 H0 C cl fp) (.Call (.Attribute (.Name n p0) "pop" p1) [ie] [] p2) σ H Q) (own.map (·.2))) :=
    pe_lc hc hN pi_wi ok hg (fun s0 H0 C cl fp => pts_nil) (fun s0 H0 C cl fp => pe_im fun _ _ _ h => h s0 H0 C cl fp) hs
  refine do_cons (ps_ret hpe) ?_
  refine (show EvI X (.Name x px) iter σ s zs from hi) s (Ex.refl _) _ fun J s2 k2 W => ?_
  intro Dd hD
  have o2 : Own X.K s2 p xs := o.ex k2
  have hne : p ≠ Dd := Own.ne o2 hD
  refine ⟨fun i m H => ∃ (u : S) (pre l : List α) (vs : List V), u.H = H ∧ m = zs.length - i ∧ Mx (· = p) s2 u ∧ Own X.K u p l ∧ u.F Dd = none ∧ u.H Dd = some (.lst vs) ∧ Reps X.K u.F vs pre ∧ (∃ suf, popAll f l (zs.drop i) = some suf ∧ pre ++ suf = ys), ⟨zs.length, s2.newO Dd (.lst []) hD, [], xs, [], rfl, rfl, (Ex.newO hD).mx, o2.ex (Ex.newO hD), (fF hD : s2.F Dd = none), upd_same, trivial, ys, hf, rfl⟩, ?_⟩
  rintro i' m H ⟨u, pre, l, vs, rfl, rfl, ku, ol, n1, n2, n3, suf, h1, h2⟩
  by_cases hi' : i' < zs.length
  · right
    obtain ⟨g1, g2⟩ := W.go i' u zs[i'] ku.f (List.getElem?_eq_getElem hi')
    refine ⟨g1, fun H' => ∃ m', m' < zs.length - i' ∧ ∃ (u : S) (pre l : List α) (vs : List V), u.H = H' ∧ m' = zs.length - (i' + 1) ∧ Mx (· = p) s2 u ∧ Own X.K u p l ∧ u.F Dd = none ∧ u.H Dd = some (.lst vs) ∧ Reps X.K u.F vs pre ∧ (∃ suf, popAll f l (zs.drop (i' + 1)) = some suf ∧ pre ++ suf = ys), fun H' z => z, fun v H' hy => ?_⟩
    obtain ⟨u', rfl, ku', rv⟩ := g2 v H' hy
    refine ⟨by show wipe ((wipe σ (own.map (·.2))).set j (some v)) (own.map (·.2)) = _; rw [wipe_set hjo]; exact wipe_wipe fun _ z => z, ?_⟩
    unfold tYes
    dsimp only
    rw [if_pos rfl]
    rw [List.drop_eq_getElem_cons hi'] at h1
    unfold popAll at h1
    obtain ⟨z, hz1, h1⟩ := bndE h1
    obtain ⟨⟨y, l'⟩, hz2, h1⟩ := bndE h1
    obtain ⟨suf', hz3, h1⟩ := bndE h1
    cases h1
    obtain ⟨jj, e1, e2, e3⟩ := popAt_some hz2
    subst e3
    have kk : Mx (· = p) s u' := (k2.mx.trans ku).trans ku'.mx
    intro s0 H0 C cl fp
    refine we_pop (X := Blk X scope s0 H0 C cl fp) (e := ie) i (hσ v) (ol.ex ku') (he l zs[i'] z v u' (List.getElem_mem hi') kk (ol.ex ku') rv hz1 s0 H0 C cl fp) e1 e2 (fun w u4 m4 o4 r4 => ?_) hNi (hv s0 H0 C cl fp) hd hcd (hbase s0 H0 C cl fp) (hfew s0 H0 C cl fp) hline (hs1 s0 H0 C cl fp) (hplain s0 H0 C cl fp)
    have k5 : Mx (· = p) u u4 := ku'.mx.trans m4
    have hD4 : u4.H Dd = some (.lst vs) := k5.h _ _ n2 fun z => hne z.symm
    have hF4 : u4.F Dd = none := k5.n _ _ n2 n1
    have hlen : vs.length < sizeLine := by
      have e1 := n3.len
      have e2 : ys.length = pre.length + (suf'.length + 1) := by rw [← h2, List.length_append, List.length_cons]
      omega
    have hlt : zs.length - (i' + 1) < zs.length - i' := by omega
    have md : Mx (· = p) s2 (u4.put Dd (.lst (vs ++ [w])) hF4) := ⟨(ku.trans k5).f, fun a ob h nn => by
      show upd u4.H Dd _ a = some ob
      rw [upd_ne (ne_of_none h hD)]; exact (ku.trans k5).h a ob h nn, (ku.trans k5).n, fun a ob h => by
      obtain ⟨ob', h'⟩ := (ku.trans k5).d a ob h
      exact ⟨ob', by show upd u4.H Dd _ a = some ob'; rw [upd_ne (ne_of_none h hD)]; exact h'⟩⟩
    exact ⟨vs, hD4, hlen, _, hlt, u4.put Dd (.lst (vs ++ [w])) hF4, pre ++ [y], _, vs ++ [w], rfl, rfl, md, o4.mx (Mx.put hF4) hne, hF4, upd_same, (n3.mono k5.f).snoc r4, suf', hz3, by rw [List.append_assoc]; exact h2⟩
  · left
    have hd : zs.drop i' = [] := List.drop_eq_nil_of_le (by omega)
    rw [hd] at h1
    cases h1
    refine ⟨W.stop i' u ku.f (by omega), k Dd u (k2.mx.trans ku) (fr_back k2 hD) ⟨n1, vs, n2, ?_⟩⟩
    rw [← h2, List.append_nil]
    exact n3
end
end Dy

namespace Dy
open PySem PySem.Spec L2
open PyProof.Rows hiding St

theorem php : ∀ (n : Nat) (l : List Nat), l.Nodup → (∀ x ∈ l, x < n) → l.length ≤ n
  | 0, [], _, _ => Nat.le_refl _
  | 0, x :: _, _, h => absurd (h x List.mem_cons_self) (Nat.not_lt_zero _)
  | n + 1, l, hn, h => by
    by_cases hm : n ∈ l
    · have h1 := php n (l.erase n) (hn.erase n) (fun x hx => by
        have h2 := h x (List.mem_of_mem_erase hx)
        have h3 : x ≠ n := (hn.mem_erase_iff.mp hx).1
        omega)
      rw [List.length_erase_of_mem hm] at h1
      omega
    · have := php n l hn (fun x hx => by
        have h2 := h x hx
        have h3 : x ≠ n := fun e => hm (e ▸ hx)
        omega)
      omega
theorem mem_rng {a b x : Int} : x ∈ rng a b ↔ a ≤ x ∧ x < b := by
  constructor
  · exact rng_mem
  · intro ⟨h1, h2⟩
    unfold rng
    refine List.mem_map.mpr ⟨(x - a).toNat, List.mem_range.mpr (by omega), by omega⟩
theorem rng_nodup (a b : Int) : (rng a b).Nodup := by
  unfold rng
  refine List.Pairwise.map _ (fun x y h e => h (by omega)) List.nodup_range
theorem rng_sorted (a b : Int) : (rng a b).Pairwise (· ≤ ·) := by
  unfold rng
  refine List.Pairwise.map _ (fun x y h => ?_) List.pairwise_lt_range
  omega
theorem sort_perm (xs : List Int) : (sortI xs).Perm xs := List.mergeSort_perm _ _
theorem sort_of_perm {xs ys : List Int} (h : xs.Perm ys) (hs : ys.Pairwise (· ≤ ·)) : sortI xs = ys := by
  refine List.Perm.eq_of_pairwise (le := fun x y : Int => x ≤ y) (fun a b _ _ h h' => Int.le_antisymm h h') ?_ hs ((sort_perm xs).trans h)
  have := List.pairwise_mergeSort (le := fun x y : Int => decide (x ≤ y)) (fun a b c h1 h2 => by simp at *; omega) (fun a b => by simp; omega) xs
  exact this.imp (by simp)
theorem perm_rng {l : List Int} {n : Nat} (h1 : l.Nodup) (h2 : l.length = n) (h3 : ∀ x ∈ l, 0 ≤ x ∧ x < n) : l.Perm (rng 0 n) := by
  refine (List.perm_ext_iff_of_nodup h1 (rng_nodup 0 n)).mpr fun a => ⟨fun h => mem_rng.mpr (h3 a h), fun h => ?_⟩
  obtain ⟨a0, a1⟩ := mem_rng.mp h
  refine Classical.byContradiction fun hn => ?_
  have h4 : ((a :: l).map Int.toNat).Nodup := by
    refine List.Pairwise.map (R := fun x y => x ≠ y ∧ 0 ≤ x ∧ 0 ≤ y) _ (fun x y ⟨h, p, q⟩ e => h (by omega)) ?_
    refine List.pairwise_cons.mpr ⟨fun x hx => ⟨fun e => hn (e ▸ hx), a0, (h3 x hx).1⟩, ?_⟩
    refine List.Pairwise.imp_of_mem (fun {x y} hx hy h => ⟨h, (h3 x hx).1, (h3 y hy).1⟩) h1
  have h5 := php n _ h4 (fun x hx => by
    obtain ⟨y, hy, rfl⟩ := List.mem_map.mp hx
    rcases List.mem_cons.mp hy with rfl | hy
    · omega
    · have := h3 y hy; omega)
  simp at h5
  omega
def nxt (o : List Int) (x : Int) : Int := o.getD x.toNat 0
def it (o : List Int) : Nat → Int → Int
  | 0, x => x
  | k + 1, x => nxt o (it o k x)
theorem it_add (o : List Int) (a b : Nat) (x : Int) : it o (a + b) x = it o a (it o b x) := by
  induction a with
  | zero => rw [Nat.zero_add]; rfl
  | succ a ih => rw [Nat.succ_add]; show nxt o _ = nxt o _; rw [ih]
theorem it_one (o : List Int) (x : Int) : it o 1 x = nxt o x := rfl
theorem it_comm (o : List Int) (a b : Nat) (x : Int) : it o a (it o b x) = it o b (it o a x) := by rw [← it_add, ← it_add, Nat.add_comm]
structure IsOrd (o : List Int) : Prop where
  l1 : 1 ≤ o.length
  l2 : o.length ≤ 40
  pm : o.Perm (rng 0 o.length)
theorem isOrd_sort {o : List Int} (h1 : 1 ≤ o.length) (h2 : o.length ≤ 40) (h3 : sortI o = rng 0 o.length) : IsOrd o := ⟨h1, h2, by rw [← h3]; exact (sort_perm o).symm⟩
section
variable {o : List Int}
theorem IsOrd.sort (h : IsOrd o) : sortI o = rng 0 o.length := sort_of_perm h.pm (rng_sorted _ _)
theorem IsOrd.nd (h : IsOrd o) : o.Nodup := h.pm.nodup_iff.mpr (rng_nodup _ _)
theorem IsOrd.mem (h : IsOrd o) {x : Int} : x ∈ o ↔ 0 ≤ x ∧ x < o.length := h.pm.mem_iff.trans mem_rng
theorem nxt_get {x : Int} (h0 : 0 ≤ x) (h1 : x < o.length) : o[x.toNat]? = some (nxt o x) := by
  unfold nxt
  have : x.toNat < o.length := by omega
  rw [List.getElem?_eq_getElem this, List.getD_eq_getElem?_getD, List.getElem?_eq_getElem this]; rfl
theorem nxt_at {x : Int} (h0 : 0 ≤ x) (h1 : x < o.length) : atI o x = some (nxt o x) := by rw [atI_get h0 h1, nxt_get h0 h1]
theorem IsOrd.nxt (h : IsOrd o) {x : Int} (h0 : 0 ≤ x) (h1 : x < o.length) : 0 ≤ Dy.nxt o x ∧ Dy.nxt o x < o.length := h.mem.mp (List.mem_of_getElem? (nxt_get h0 h1))
theorem IsOrd.it (h : IsOrd o) {x : Int} (h0 : 0 ≤ x) (h1 : x < o.length) : ∀ k, 0 ≤ Dy.it o k x ∧ Dy.it o k x < o.length
  | 0 => ⟨h0, h1⟩
  | k + 1 => h.nxt (h.it h0 h1 k).1 (h.it h0 h1 k).2
theorem IsOrd.inj (h : IsOrd o) {x y : Int} (x0 : 0 ≤ x) (x1 : x < o.length) (y0 : 0 ≤ y) (y1 : y < o.length) (e : Dy.nxt o x = Dy.nxt o y) : x = y := by
  have h1 := nxt_get x0 x1
  have h2 := nxt_get y0 y1
  rw [← e] at h2
  obtain ⟨a1, b1⟩ := List.getElem?_eq_some_iff.mp h1
  obtain ⟨a2, b2⟩ := List.getElem?_eq_some_iff.mp h2
  have := (List.getElem_inj h.nd (i := x.toNat) (j := y.toNat) (h₀ := a1) (h₁ := a2)).mp (b1.trans b2.symm)
  omega
theorem IsOrd.itInj (h : IsOrd o) : ∀ (k : Nat) {x y : Int}, 0 ≤ x → x < o.length → 0 ≤ y → y < o.length → Dy.it o k x = Dy.it o k y → x = y
  | 0, _, _, _, _, _, _, e => e
  | k + 1, _, _, x0, x1, y0, y1, e => h.itInj k x0 x1 y0 y1 (h.inj (h.it x0 x1 k).1 (h.it x0 x1 k).2 (h.it y0 y1 k).1 (h.it y0 y1 k).2 e)
theorem least {p : Nat → Prop} : ∀ n, p n → ∃ m, m ≤ n ∧ p m ∧ ∀ k, k < m → ¬ p k := by
  intro n
  induction n using Nat.strongRecOn with
  | _ n ih =>
    intro h
    by_cases hk : ∃ k, k < n ∧ p k
    · obtain ⟨k, h1, h2⟩ := hk
      obtain ⟨m, h3, h4, h5⟩ := ih k h1 h2
      exact ⟨m, by omega, h4, h5⟩
    · exact ⟨n, Nat.le_refl _, h, fun k hk' hp => hk ⟨k, hk', hp⟩⟩
theorem IsOrd.cycle (h : IsOrd o) {x : Int} (h0 : 0 ≤ x) (h1 : x < o.length) : ∃ L, 1 ≤ L ∧ L ≤ o.length ∧ Dy.it o L x = x ∧ ∀ k, 0 < k → k < L → Dy.it o k x ≠ x := by
  have ex : ∃ L, 1 ≤ L ∧ L ≤ o.length ∧ Dy.it o L x = x := by
    refine Classical.byContradiction fun hn => ?_
    have hne : ∀ i j, i < j → j ≤ o.length → Dy.it o i x ≠ Dy.it o j x := fun i j hij hj e => by
      refine hn ⟨j - i, by omega, by omega, ?_⟩
      have e2 : Dy.it o i x = Dy.it o i (Dy.it o (j - i) x) := by rw [← it_add, show i + (j - i) = j by omega]; exact e
      have := h.it h0 h1 (j - i)
      exact (h.itInj i h0 h1 this.1 this.2 e2).symm
    have h2 : ((List.range (o.length + 1)).map fun k => (Dy.it o k x).toNat).Nodup := by
      refine List.Pairwise.map (R := fun a b => a < b ∧ b ≤ o.length) _ (fun a b ⟨p, q⟩ e => ?_) ?_
      · have e1 := h.it h0 h1 a
        have e2 := h.it h0 h1 b
        exact hne a b p q (by omega)
      · refine List.Pairwise.imp_of_mem (fun {a b} ha hb hlt => ⟨hlt, by have := List.mem_range.mp hb; omega⟩) List.pairwise_lt_range
    have h3 := php o.length _ h2 (fun y hy => by
      obtain ⟨k, _, rfl⟩ := List.mem_map.mp hy
      have := h.it h0 h1 k
      omega)
    rw [List.length_map, List.length_range] at h3
    omega
  obtain ⟨L, a, b, c⟩ := ex
  obtain ⟨m, m1, ⟨m2, m3, m4⟩, m5⟩ := least (p := fun L => 1 ≤ L ∧ L ≤ o.length ∧ Dy.it o L x = x) L ⟨a, b, c⟩
  exact ⟨m, m2, m3, m4, fun k k0 k1 e => m5 k k1 ⟨by omega, by omega, e⟩⟩
theorem it_mul {L : Nat} {x : Int} (h : Dy.it o L x = x) : ∀ q, Dy.it o (L * q) x = x
  | 0 => rfl
  | q + 1 => by rw [Nat.mul_succ, it_add, h, it_mul h q]
theorem it_mod {L : Nat} {x : Int} (h : Dy.it o L x = x) (m : Nat) : Dy.it o (m % L) x = Dy.it o m x := by
  conv => rhs; rw [← Nat.mod_add_div m L, it_add, it_mul h]
def srv (o : List Int) (m : Nat) : List Int := (rng 0 o.length).map (Dy.it o m)
theorem srv_len (o : List Int) (m : Nat) : (srv o m).length = o.length := by unfold srv; rw [List.length_map, rng_len]; omega
theorem rng_getE {a b : Int} {i : Nat} (h : i < (b - a).toNat) : (rng a b)[i]? = some (a + (i : Int)) := by
  unfold rng
  rw [List.getElem?_map, List.getElem?_range h]; rfl
theorem srv_at {m : Nat} {x : Int} (h0 : 0 ≤ x) (h1 : x < o.length) : atI (srv o m) x = some (Dy.it o m x) := by
  rw [atI_get h0 (by rw [srv_len]; exact h1)]
  unfold srv
  rw [List.getElem?_map, rng_getE (by omega)]
  show some (Dy.it o m (0 + (x.toNat : Int))) = _
  rw [show (0 : Int) + (x.toNat : Int) = x by omega]
theorem srv_perm (h : IsOrd o) (m : Nat) : (srv o m).Perm (rng 0 o.length) := by
  refine perm_rng ?_ (srv_len o m) (fun x hx => ?_)
  · refine List.Pairwise.map (R := fun (a b : Int) => a ≠ b ∧ (0 ≤ a ∧ a < (o.length : Int)) ∧ 0 ≤ b ∧ b < (o.length : Int)) _ (fun a b ⟨p, q, r⟩ e => p (h.itInj m q.1 q.2 r.1 r.2 e)) ?_
    exact List.Pairwise.imp_of_mem (fun {a b} ha hb hne => ⟨hne, mem_rng.mp ha, mem_rng.mp hb⟩) (rng_nodup _ _)
  · obtain ⟨y, hy, rfl⟩ := List.mem_map.mp hx
    obtain ⟨a, b⟩ := mem_rng.mp hy
    exact h.it a b m
theorem srv_mem (h : IsOrd o) {m : Nat} {x : Int} (hx : x ∈ srv o m) : 0 ≤ x ∧ x < o.length := mem_rng.mp ((srv_perm h m).mem_iff.mp hx)
theorem srv_zero (o : List Int) : srv o 0 = rng 0 o.length := by
  unfold srv
  have : (Dy.it o 0 : Int → Int) = id := by funext x; rfl
  rw [this, List.map_id]
theorem srv_one (o : List Int) : srv o 1 = o := by
  refine List.ext_getElem? fun i => ?_
  unfold srv
  rw [List.getElem?_map]
  by_cases h : i < o.length
  · rw [rng_getE (by omega)]
    show some (Dy.nxt o (0 + (i : Int))) = _
    have := nxt_get (o := o) (x := (i : Int)) (by omega) (by omega)
    rw [show (0 : Int) + (i : Int) = (i : Int) by omega, ← this]
    congr 1
  · rw [List.getElem?_eq_none (by rw [rng_len]; omega), List.getElem?_eq_none (by omega)]; rfl
theorem srv_add (a b : Nat) : (srv o a).map (Dy.it o b) = srv o (b + a) := by
  unfold srv
  rw [List.map_map]
  exact List.map_congr_left fun x _ => (it_add o b a x).symm
end
theorem erase_perm {τ : Type} : ∀ (l : List τ) (i : Nat) (h : i < l.length), (l[i] :: l.eraseIdx i).Perm l
  | [], i, h => absurd h (Nat.not_lt_zero _)
  | x :: xs, 0, _ => List.Perm.refl _
  | x :: xs, i + 1, h => (List.Perm.swap x _ _).trans (List.Perm.cons x (erase_perm xs i (Nat.lt_of_succ_lt_succ h)))
theorem popAt_ok {τ : Type} {l : List τ} {z : Int} (h0 : 0 ≤ z) (h1 : z < l.length) (h2 : l.length < 1000000) : Ok (popAt l z) (fun r => (r.1 :: r.2).Perm l) := by
  unfold popAt popN seqIndex?
  have hl : z.toNat < l.length := by omega
  rw [if_pos ⟨by omega, by omega⟩]
  simp only
  rw [show (if z < 0 then z + (l.length : Int) else z) = z from if_neg (by omega), if_pos (by rw [Bool.and_eq_true]; exact ⟨decide_eq_true h0, decide_eq_true h1⟩), Option.bind_some, List.getElem?_eq_getElem hl]
  exact ok_some (erase_perm l _ hl)
theorem ok_popAll {σ τ : Type} {f : List τ → σ → Option Int} : ∀ {xs : List σ} {l : List τ}, (∀ l' x, l' ≠ [] → l'.length ≤ l.length → x ∈ xs → Ok (f l' x) (fun z => 0 ≤ z ∧ z < l'.length)) → xs.length ≤ l.length → l.length < 1000000 → Ok (popAll f l xs) (fun ys => ys.length = xs.length ∧ ∃ r, (ys ++ r).Perm l)
  | [], l, _, _, _ => ⟨[], rfl, rfl, l, List.Perm.refl _⟩
  | x :: xs, l, h, hl, hz => by
    rw [List.length_cons] at hl
    have hne : l ≠ [] := fun e => by subst e; simp at hl
    unfold popAll
    refine ok_bnd (h l x hne (Nat.le_refl _) List.mem_cons_self) fun z ⟨z0, z1⟩ => ok_bnd (popAt_ok z0 z1 hz) fun r hr => ?_
    have hlen : r.2.length + 1 = l.length := by have := hr.length_eq; rw [List.length_cons] at this; exact this
    refine ok_bnd (ok_popAll (fun l' y hn hl' hy => h l' y hn (by omega) (List.mem_cons_of_mem _ hy)) (by omega) (by omega)) fun ys ⟨e1, r', e2⟩ => ok_some ⟨by rw [List.length_cons, List.length_cons, e1], r', ?_⟩
    exact (List.Perm.cons r.1 e2).trans hr
theorem repl_one {τ : Type} (n : Int) (x : τ) : repl n [x] = List.replicate n.toNat x := by
  unfold repl
  exact List.flatten_replicate_singleton
end Dy

namespace Dy
open PySem PySem.Spec L2
open PyProof.Rows hiding St
instance {α β : Type} [Enc α] [Enc β] : Opn (α × β) := ⟨fun h => by obtain ⟨_, _, _, e, _⟩ := h; cases e⟩
instance {α β γ : Type} [Enc α] [Enc β] [Enc γ] : Opn (T3 α β γ) := ⟨fun h => by obtain ⟨_, _, _, _, e, _⟩ := h; cases e⟩
instance {α β γ : Type} {n m k : Nat} [Shp α n] [Shp β m] [Shp γ k] : Shp (T3 α β γ) (n + m + k + 1) := ⟨fun x => by
  obtain ⟨h1, h2⟩ := Shp.ok x.a
  obtain ⟨h3, h4⟩ := Shp.ok x.b
  obtain ⟨h5, h6⟩ := Shp.ok x.c
  refine ⟨?_, ?_⟩
  · show PyData.canLay0 (.tuple [EqD.toD x.a, EqD.toD x.b, EqD.toD x.c]) = true
    simp [PyData.canLay0, PyData.canLayAll0, h1, h3, h5]
  · show PyData.depth (.tuple [EqD.toD x.a, EqD.toD x.b, EqD.toD x.c]) ≤ n + m + k + 1
    simp [PyData.depth, PyData.depthAll]
    omega⟩
section
variable {X : Cx} {K : PySem.W.Frag} {a b e : Expr} {σ : St} {s : S} {p0 p1 p2 pos : Pos} {α β : Type} [Enc α] [Enc β]
def ixS (x y : Str) : Option Nat := (Builtin.Str.occurrences y x 0 y.length 1).head?
theorem ev_indexS {x y : Str} {j : Nat} (ha : Ev X a σ s y) (hb : Ev X b σ s x) (h : ixS x y = some j)
    (hs : starEach [b] X.env = [(false, eval b X.env)] := by rfl) (hbase : attributeBase a "index" X.env (eval a X.env) = eval a X.env := by rfl) (hline : (p1.endLine == pos.line) = true := by rfl) :
    Ev X (.Call (.Attribute a "index" p1) [b] [] pos) σ s (j : Int) := fun s1 k Q q =>
  we_of (pe_m1 PySem.F.slot_str_index PySem.F.type_str_index mt_sindex pe_we pe_we hs hbase hline) (ha s1 k _ fun v s2 k2 r2 => ⟨⟨y, r2⟩, hb s2 (k.trans k2) _ fun u s3 k3 r3 => by
    unfold ixS at h
    obtain ⟨rest, hr⟩ : ∃ rest, Builtin.Str.occurrences y x 0 y.length 1 = j :: rest := by
      cases ho : Builtin.Str.occurrences y x 0 y.length 1 with
      | nil => rw [ho] at h; cases h
      | cons i rest => rw [ho] at h; cases h; exact ⟨rest, rfl⟩
    exact ⟨y, x, j, rest, r2, by rw [show u = V.str x from r3], hr, q _ s3 (k2.trans k3) rfl⟩⟩)
end
section
variable {α α' α'' β : Type} [Enc α] [Enc α'] [Enc α''] [Enc β] {X : Cx} {σ : St} {s : S} {elt tg iter c : Expr} {ifs : List Expr} {scope : Scope} {own : List (Str × Nat)} {pos : Pos}
theorem ev_some' {e : Expr} {x : Option α} {y : α} (ha : Ev X e σ s x) (h : x = some y) : Ev X e σ s y := fun s1 k Q q => by
  subst h
  exact ha s1 k Q fun v s2 k2 r2 => q v s2 k2 r2
theorem en_comp0P {xs : List (α × α')} {ys : List β} {f : α × α' → Option β} {i j : Nat} (hc : X.calm = true) (hN : X.N.Nodup) (hi : EvI X tg iter σ s xs) (ok : BlkOk X.N X.env.scope scope own)
    (hio : i ∈ own.map (·.2)) (hjo : j ∈ own.map (·.2)) (hg : ∀ s0 H0 C cl fp, PG (Blk X scope s0 H0 C cl fp) tg (gTup X.K 2 (gCons (gName i) (gCons (gName j) gNil)))) (hf : mapO f xs = some ys) (hz : ys.length ≤ sizeLine)
    (he : ∀ (x : α × α') (y : β) (v u : V) (s1 : S), x ∈ xs → Ex s s1 → Enc.rep X.K s1.F v x.1 → Enc.rep X.K s1.F u x.2 → f x = some y → ∀ s0 H0 C cl fp, Ev (Blk X scope s0 H0 C cl fp) elt (((wipe σ (own.map (·.2))).set i (some v)).set j (some u)) s1 y)
    (hs : ∀ x, foldedSetIterable iter X.env x = pure x := by intro _; rfl) : EvL X elt tg iter [] scope σ s ys :=
  ⟨hc, hN, hs, own, _, _, ok, hg, fun _ _ _ _ _ => pts_nil, fun s1 k Q q => comp_read (t := fun _ => some true) hc hN hi ok hg tg_2 (fun _ _ _ _ _ => pts_nil) hf hz (fun F x σ2 ⟨v, u, _, _, e⟩ => by rw [e, wipe_set hjo, wipe_set hio]; exact wipe_wipe fun _ z => z)
    (fun x b s1 σ2 Q _ _ _ hb q => by cases hb; exact q s1 (Ex.refl _)) (fun x y s1 σ2 hx k ⟨v, u, r, r', e⟩ _ hfx => by subst e; exact he x y v u s1 hx k r r' hfx) s1 k Q q⟩
theorem en_comp1P {xs : List (α × α')} {ys : List β} {t : α × α' → Option Bool} {f : α × α' → Option β} {i j : Nat} (hc : X.calm = true) (hN : X.N.Nodup) (hi : EvI X tg iter σ s xs) (ok : BlkOk X.N X.env.scope scope own)
    (hio : i ∈ own.map (·.2)) (hjo : j ∈ own.map (·.2)) (hg : ∀ s0 H0 C cl fp, PG (Blk X scope s0 H0 C cl fp) tg (gTup X.K 2 (gCons (gName i) (gCons (gName j) gNil)))) (hf : compO t f xs = some ys) (hz : ys.length ≤ sizeLine)
    (ht : ∀ (x : α × α') (b : Bool) (v u : V) (s1 : S), x ∈ xs → Ex s s1 → Enc.rep X.K s1.F v x.1 → Enc.rep X.K s1.F u x.2 → t x = some b → ∀ s0 H0 C cl fp, EvT (Blk X scope s0 H0 C cl fp) c (((wipe σ (own.map (·.2))).set i (some v)).set j (some u)) s1 b)
    (he : ∀ (x : α × α') (y : β) (v u : V) (s1 : S), x ∈ xs → Ex s s1 → Enc.rep X.K s1.F v x.1 → Enc.rep X.K s1.F u x.2 → t x = some true → f x = some y → ∀ s0 H0 C cl fp, Ev (Blk X scope s0 H0 C cl fp) elt (((wipe σ (own.map (·.2))).set i (some v)).set j (some u)) s1 y)
    (hs : ∀ x, foldedSetIterable iter X.env x = pure x := by intro _; rfl) : EvL X elt tg iter [c] scope σ s ys :=
  ⟨hc, hN, hs, own, _, _, ok, hg, fun s0 H0 C cl fp => pts_one (pt_im fun _ _ _ h => h s0 H0 C cl fp), fun s1 k Q q => comp_read (tt := fun σ H Q => ∀ s0 H0 C cl fp, WT (Blk X scope s0 H0 C cl fp) c σ H Q) hc hN hi ok hg tg_2 (fun s0 H0 C cl fp => pts_one (pt_im fun _ _ _ h => h s0 H0 C cl fp)) hf hz (fun F x σ2 ⟨v, u, _, _, e⟩ => by rw [e, wipe_set hjo, wipe_set hio]; exact wipe_wipe fun _ z => z)
    (fun x b s1 σ2 Q hx k ⟨v, u, r, r', e⟩ hb q => by subst e; intro s0 H0 C cl fp; exact ht x b v u s1 hx k r r' hb s0 H0 C cl fp s1 (Ex.refl _) Q q) (fun x y s1 σ2 hx k ⟨v, u, r, r', e⟩ htx hfx => by subst e; exact he x y v u s1 hx k r r' htx hfx) s1 k Q q⟩
end
end Dy

namespace Dy
open PySem PySem.Spec L2
open PyProof.Rows hiding St
open Enc (rep)
open EncA (repA)

inductive Er where
  | pl (c : Str)
  | pi (c f : Str) (i : Int)
  | ps (c f x : Str)
def Er.c : Er → Str
  | .pl c => c
  | .pi c _ _ => c
  | .ps c _ _ => c
inductive Rz (ρ : Type) where
  | ok (r : ρ)
  | er (e : Er)
def tb {α β : Type} (m : Option (Rz α)) (h : Er → Option β) (k : α → Option β) : Option β := match m with
  | none => none
  | some (.ok r) => k r
  | some (.er e) => h e
theorem tbE {α β : Type} {m : Option (Rz α)} {h : Er → Option β} {k : α → Option β} {o : β} (hm : tb m h k = some o) : (∃ e, m = some (.er e) ∧ h e = some o) ∨ ∃ r, m = some (.ok r) ∧ k r = some o := by
  cases m with
  | none => cases hm
  | some x => cases x with
    | ok r => exact .inr ⟨r, rfl, hm⟩
    | er e => exact .inl ⟨e, rfl, hm⟩
def ExR (K : PySem.W.Frag) (F : Hp) (e : Er) (cls : Value) (d : Option Addr) : Prop := match e with
  | .pl c => cls = .ref (He.ga K c) ∧ d = none
  | .pi c f i => cls = .ref (He.ga K c) ∧ ∃ dd, d = some dd ∧ F dd = some (.xd [(f, V.int i)])
  | .ps c f x => cls = .ref (He.ga K c) ∧ ∃ dd, d = some dd ∧ F dd = some (.xd [(f, V.str x)])
theorem exR_cls {K : PySem.W.Frag} {F : Hp} {e : Er} {cls : Value} {d : Option Addr} (h : ExR K F e cls d) : cls = .ref (He.ga K e.c) := by
  cases e with
  | pl c => exact h.1
  | pi c f i => exact h.1
  | ps c f x => exact h.1
theorem ExR.mono {K : PySem.W.Frag} {F F' : Hp} {e : Er} {cls : Value} {d : Option Addr} (k : Fle F F') (h : ExR K F e cls d) : ExR K F' e cls d := by
  cases e with
  | pl c => exact h
  | pi c f i => obtain ⟨h1, dd, h2, h3⟩ := h; exact ⟨h1, dd, h2, k _ _ h3⟩
  | ps c f x => obtain ⟨h1, dd, h2, h3⟩ := h; exact ⟨h1, dd, h2, k _ _ h3⟩
def RzQ {ρ : Type} [Enc ρ] (K : PySem.W.Frag) (s : S) (o : Rz ρ) (Q : VK) (E : XK) : Prop := match o with
  | .ok r => ∀ v s', Ex s s' → rep K s'.F v r → Q v s'.H
  | .er e => ∀ cls d s', Ex s s' → ExR K s'.F e cls d → E cls d s'.H
def spR {A : Type} [EncA A] {ρ : Type} [Enc ρ] (K : PySem.W.Frag) (m : A → Option (Rz ρ)) : Sp := fun vs H Q E => ∃ (s : S) (x : A) (o : Rz ρ), s.H = H ∧ repA K s.F vs x ∧ m x = some o ∧ RzQ K s o Q E
section
variable {X : Cx} {σ : St} {s : S} {e : Expr} {es : List Expr} {p0 p1 p2 pos : Pos} {α : Type} [Enc α]
theorem ev_callR {A : Type} [EncA A] {m : A → Option (Rz α)} {n : Str} {k j : Nat} {x : A} {r : α} (C : Cal X.prog X.w X.K X.mg X.base (L2.CX X.prog X.w) k n (spR X.K m)) (hr : Room j X.A) (hk : k ≤ j) (ha : EvA X (e :: es) σ s x) (h : m x = some (.ok r)) (hg : Gl X n := by rfl)
    (hdb : (n == ("__debug__" : Str)) = false := by decide) (he : starEach (e :: es) X.env = (false, eval e X.env) :: starEach es X.env := by rfl) (hpl : (backTo pos (starEach es X.env)).any (·.1) = false := by rfl) : Ev X (.Call (.Name n p0) (e :: es) [] pos) σ s r := fun s1 k1 Q q => by
  obtain ⟨f, fd, ps, F, hm, kp, b⟩ := C.ex
  refine we_of (pe_callS (E := fun _ _ _ _ => False) F (hr.mono hk) hg hm kp b (fun σ' pins H sh ev s' I c => ?_) pa_wa hdb he hpl) (ha s1 k1 _ fun vs s2 k2 r2 => ⟨s2, x, .ok r, rfl, r2, h, fun v s3 k3 r3 => q v s3 (k2.trans k3) r3⟩)
  obtain ⟨_, _, _, _, _, _, _, _, _, _, _, _, hf⟩ := c
  exact hf.elim
def EvX (X : Cx) (e : Expr) (σ : St) (s : S) : Prop := ∀ s1, Ex s s1 → ∀ Q, WE X e σ s1.H Q
theorem EvX.ev (h : EvX X e σ s) (x : α) : Ev X e σ s x := fun s1 k Q _ => h s1 k Q
theorem evX_call {A : Type} [EncA A] {ρ : Type} [Enc ρ] {m : A → Option (Rz ρ)} {n : Str} {k j : Nat} {x : A} {er : Er} {W : WX} (C : Cal X.prog X.w X.K X.mg X.base (L2.CX X.prog X.w) k n (spR X.K m)) (tk : Takes X W) (hr : Room j X.A) (hk : k ≤ j) (ha : EvA X (e :: es) σ s x) (h : m x = some (.er er))
    (hw : ∀ cls d s2, Ex s s2 → ExR X.K s2.F er cls d → W cls d σ s2.H) (hg : Gl X n := by rfl)
    (hdb : (n == ("__debug__" : Str)) = false := by decide) (he : starEach (e :: es) X.env = (false, eval e X.env) :: starEach es X.env := by rfl) (hpl : (backTo pos (starEach es X.env)).any (·.1) = false := by rfl) : EvX X (.Call (.Name n p0) (e :: es) [] pos) σ s := fun s1 k1 Q => by
  obtain ⟨f, fd, ps, F, hm, kp, b⟩ := C.ex
  exact we_of (pe_callS (E := L2.WE W) F (hr.mono hk) hg hm kp b (fun σ' => passAt tk σ') pa_wa hdb he hpl) (ha s1 k1 _ fun vs s2 k2 r2 => ⟨s2, x, .er er, rfl, r2, h, fun cls d s3 k3 r3 => hw cls d s3 ((k1.trans k2).trans k3) r3⟩)
inductive Nv where
  | nv
instance : Enc Nv := ⟨fun _ _ _ _ => False, fun _ h => h⟩
theorem nv_elim {K : PySem.W.Frag} {F : Hp} {v : V} {x : Nv} {p : Prop} (h : rep K F v x) : p := (show False from h).elim
theorem nv2_elim {β : Type} [Enc β] {K : PySem.W.Frag} {F : Hp} {v : V} {x : β × Nv} {p : Prop} (h : rep K F v x) : p := by
  obtain ⟨_, _, _, _, _, _, h⟩ := h
  exact (show False from h).elim
end
section
variable {P : Program} {w : World} {K : PySem.W.Frag} {mg : Str → Option Value} {base : Heap}
theorem mk_calR {A ρ : Type} [EncA A] [Enc ρ] {m : A → Option (Rz ρ)} {x : Str} {st : Stmt} {f : Addr} {fd : FuncData} {N ps : List Str} {k : Nat} (F : FunP K x st f fd) (hm : mg x = some (.ref f)) (b : Binds K fd ps []) (Sc : FnScope N ps (defScope st))
    (hl : ∀ (F : Hp) (vs : List V) (a : A), repA K F vs a → vs.length = ps.length)
    (body : ∀ (cdv : Value) (A' : Around) (outer : List Env) (s0 : Shared) (H0 : Hp) (E0 : XK), Room k (A'.deeper (envOfC x (defScope st) s0.heap.objs.size f cdv)) → ∀ (s : S) (vs : List V) (a : A) (o : Rz ρ) (Q : VK), repA K s.F vs a → m a = some o →
      RzQ K s o Q E0 → WSs (cxOf (L2.CX P w) P w K mg base N x (defScope st) f cdv A' outer s0 H0 E0) (defBody st) (RD Q) (start N vs) s.H) : Cal P w K mg base (L2.CX P w) (k + 1) x (spR K m) :=
  ⟨f, fd, ps, F.ok Sc (fun vs H Q E ⟨s, a, r, _, h, _⟩ => hl s.F vs a h) (fun cdv A' outer s0 H0 vs Q E hr ⟨s, a, o, e, h1, h2, h3⟩ => ⟨_, pss_ws, by
    have := body cdv A' outer s0 H0 E hr s vs a o Q h1 h2 h3
    rw [e] at this
    exact this⟩), hm, F.kp, b⟩
end
structure ExcF (K : PySem.W.Frag) (mg : Str → Option Value) (c : Str) : Prop where
  q : PySem.W.excIn K (He.ga K c) He.veBase "ValueError.__new__" = true
  kp : PySem.W.keepIn K (.ref (He.ga K c)) = true
  sb : PySem.W.subIn K (.ref (He.ga K c)) (.type "BaseException") = some true
  ty : PySem.W.typeIn K (.ref (He.ga K c)) = some (.type "type")
  gl : mg c = some (.ref (He.ga K c))
section
variable {X : Cx} {σ : St} {s : S} {D : Ends} {rest : List Stmt} {W : WX}
theorem do_raise0 {c m : Str} {j : Nat} {p p2 pos pos' : Pos} (T : ExcF X.K X.mg c) (tk : Takes X W) (h : W (.ref (He.ga X.K c)) none σ s.H) (hc : X.calm = true := by rfl) (hg : Gl X c := by rfl) (hdb : (c == ("__debug__" : Str)) = false := by decide) :
    WSs X (.Raise (some (.Call (.Name c p) [.Constant (.str m) j p2] [] pos)) none pos' :: rest) D σ s.H :=
  do_cons (ps_raise hc tk (pmk_own F.excBase_ValueError T.q T.gl T.kp (raises_own T.sb T.ty) hg hdb)) h
theorem do_tryAs (i : Nat) {x n : Str} {c : Value} {body suite : List Stmt} {b₀ : Stmt} {np pos pos' : Pos} {Wout : WX} (hN : X.N.Nodup) (hcN : Names X x c) (tk : Takes X Wout)
    (h : ∀ pn xe, Takes (X.tr pn xe) (wAs X.K c i (fun a cls d D σ H => ∀ (oe : Obj) (pn : List (Addr × Obj)), Zc cls d oe → (∃ vs, oe.data = .fields vs) → WSs (X.suite a ((a, oe) :: pn)) (b₀ :: suite) D σ H) Wout { D with nx := fun σ' H' => WSs X rest D σ' H' }) → PassesOwn (model X.prog X.w) X.A X.env xe →
      WSs (X.tr pn xe) body { D with nx := fun σ' H' => WSs X rest D σ' H' } σ s.H)
    (hs : X.stack = X.env :: X.outer := by rfl) (hf : X.env.frame = some X.env.locals := by rfl) (hi : X.N[i]? = some n := by rfl) (hln : X.env.kindOf n = some .local := by rfl) :
    WSs X (.Try body [.ExceptHandler (some (.Name x np)) (some n) (b₀ :: suite) pos'] [] [] pos :: rest) D σ s.H :=
  do_cons (ps_try_as (tb := fun W D σ H => ∀ pn xe, Takes (X.tr pn xe) W → PassesOwn (model X.prog X.w) X.A X.env xe → WSs (X.tr pn xe) body D σ H) (ts := fun a cls d D σ H => ∀ (oe : Obj) (pn : List (Addr × Obj)), Zc cls d oe → (∃ vs, oe.data = .fields vs) → WSs (X.suite a ((a, oe) :: pn)) (b₀ :: suite) D σ H)
    hs hf hN hi hln hcN tk (fun W pn xe t po => pss_im fun D σ H hh => hh pn xe t po) (fun a oe cls d pn hz hv => pss_im fun D σ H hh => hh oe pn hz hv)) h
end
end Dy

namespace Dy
open PySem PySem.Spec L2
open PyProof.Rows hiding St
open Enc (rep)
open EncA (repA)

section
open PySem.W PySem.Calls
variable {prog : Program} {w : World} {A : Around} {E : Value → Shared → Prop} {K : Frag} {x D : Addr} {ox : Obj} {od : Option Obj}
theorem cls_bind (T : ExcC K D) : findObj K D od "__class__" = some (.bind (.builtin "getset_descriptor.__get__") (.builtin "object.__class__")) := by
  obtain ⟨cd, hc⟩ := Option.isSome_iff_exists.mp (show (clsIn K D).isSome = true by obtain ⟨cd, hc, _⟩ := any_some T.hd; rw [hc]; rfl)
  unfold findObj
  rw [hc, Option.bind_some, T.ha, Option.bind_some]
  simp [T.hn, T.ht]
theorem asks_cls {s : Shared} {Q : Option Value → Shared → Prop} (T : ExcC K D) (X : K.In s.heap) (I : PySem.W.InstAt s.heap x ox D od) (h : Q (some (.ref D)) { s with toks := s.toks + 1 }) : wpAny (model prog w) A (getAttr? (.ref x) "__class__") Q E s := by
  obtain ⟨hp, g, d, t, os⟩ := s
  have l0 := I.type (M := model prog w)
  have l1 := looks_findIn (M := model prog w) X T.hg
  have l2 := looks_findIn (M := model prog w) X T.hk
  have l3 := looks_find (M := model prog w) X I (cls_bind T)
  have sub : Looks (model prog w) hp (isInstance (.ref x) (.type "BaseException")) true := l0.andThen (looks_subIn X T.hs)
  unfold getAttr? getAttrBy? getAttrBy
  refine wpAny_bind (wpAny_mkText (wpAny_bind (wpAny_attempt (wpAny_holding (wpAny_bind (l0.at (wpAny_bind (l1.at ?_))))))))
  have no : (onTheHeap (Value.ref D) && Value.builtin "BaseException.__getattribute__" == Value.builtin "object.__getattribute__") = false := by
    rw [show (Value.builtin "BaseException.__getattribute__" == Value.builtin "object.__getattribute__") = false by decide +kernel]; rfl
  show wpAny _ _ (if (onTheHeap (Value.ref D) && Value.builtin "BaseException.__getattribute__" == Value.builtin "object.__getattribute__") = true then _ else _) _ _ _
  rw [no, if_neg Bool.false_ne_true]
  unfold getAttrByItsOwn hookBefore
  refine wpAny_bind ?_
  rw [if_pos (show onTheHeap (Value.ref D) = true from rfl)]
  refine l2.at (wpAny_bind (wpAny_attempt (wpAny_holding ?_)))
  unfold callGetattribute
  rw [show (false && onTheHeap (Value.builtin "BaseException.__getattribute__")) = false from rfl, if_neg Bool.false_ne_true]
  unfold boundAndCalled
  rw [PySem.F.excAttr_ValueError.ga.bind (.ref x)]
  refine wpAny_bind (wpAny_pure ?_)
  show wpAny _ _ (call (.builtin "BaseException.__getattribute__") [.ref x, .str "__class__" t]) _ _ _
  refine wpAny_call (codeAny_call_builtin PySem.F.excAttr_ValueError.ga.plain PySem.F.entry_bexc_ga ?_)
  refine @check_slot (model prog w) _ _ ⟨hp, g, d, t + 1, os⟩ "BaseException.__getattribute__" "BaseException" "__getattribute__" (.ref x) [.str "__class__" t] [] _ (by decide +kernel) (by decide +kernel) sub (PySem.F.args_bexc_ga (.ref x) (.str "__class__" t)) ?_
  unfold Builtin.«object.__getattribute__»
  refine wpAny_bind (wpAny_of_eq (a := ((Value.ref x : Value), [Value.str "__class__" t])) (by first | rfl | (simp only [slotArgs]; rfl)) ?_)
  refine wpAny_bind (wpAny_pure (wpAny_bind (l0.at (wpAny_bind (l3.at ?_)))))
  show wpAny _ _ (holding [Value.builtin "object.__class__"] (call (.builtin "getset_descriptor.__get__") [.builtin "object.__class__", .ref x, .ref D]) >>= ret) _ _ _
  refine wpAny_bind (wpAny_holding (wpAny_call (class_get (s := ⟨hp, g, d, t + 1, os⟩) (ox := ox) (od := od) X I T.hm (wpAny_pure ?_))))
  show wpAny _ _ (handedOut (.ref D)) _ _ _
  rw [handedOut_of (v := .ref D) rfl]
  first
    | exact wpAny_pure (wpAny_pure h)
    | exact wpAny_pure h
    | exact wpAny_pure (wpAny_bind (wpAny_pure (wpAny_pure h)))
theorem cls_at (T : ExcC K D) : ∃ c' d' cd' sl', K.lookup D = some ⟨c', d', .cls cd', sl'⟩ := by
  obtain ⟨cd, hc, _⟩ := any_some T.hd
  unfold clsIn at hc
  split at hc
  · rename_i c' d' cd' sl' ho
    exact ⟨c', d', cd', sl', ho⟩
  · cases hc
def InstE (a D : Addr) (oe : Obj) : Heap → Prop := fun h => ∃ od, PySem.W.InstAt h a oe D od
theorem kit_exc (T : ExcC K D) : KitX K (.ref x) (.ref D) (InstE x D ox) where
  ty := fun _ _ _ ⟨_, I⟩ => I.type
  it := fun _ _ X _ => by
    obtain ⟨_, _, _, _, ho⟩ := cls_at T
    intro A' Q' E' s' k q
    unfold isType loadHead
    exact wpAny_bind (wpAny_loadPart (k _ _ (X _ _ ho)) (wpAny_pure q))
  ne := fun h tp dd its n sl X htp => by
    obtain ⟨_, _, _, _, ho⟩ := cls_at T
    refine Bool.eq_false_iff.mpr fun q => ?_
    obtain rfl : D = tp := Value.ref.inj (beq_iff_eq.mp q)
    cases (X _ _ ho).symm.trans htp
  ca := fun X ⟨_, I⟩ k => asks_cls T X I k
end

structure Rw where
  v : V
instance : Enc Rw := ⟨fun _ _ v x => v = x.v, fun _ h => h⟩
theorem rw_reps {K : PySem.W.Frag} {F : Hp} : ∀ {vs : List V} {xs : List Rw}, Reps K F vs xs → vs = xs.map (·.v)
  | [], [], _ => rfl
  | _ :: _, _ :: _, ⟨h, t⟩ => by rw [List.map_cons, ← rw_reps t, show _ = _ from h]
  | [], _ :: _, h => h.elim
  | _ :: _, [], h => h.elim
def clsR (K : PySem.W.Frag) (c : Str) : V := if c = ("ValueError" : Str) then .ty "ValueError" else .ref (He.ga K c)
def clsV (K : PySem.W.Frag) (c : Str) : Value := if c = ("ValueError" : Str) then .type "ValueError" else .ref (He.ga K c)
theorem cls_cv (K : PySem.W.Frag) (c : Str) : ClsV (clsR K c) (clsV K c) := by
  unfold clsR clsV
  split
  · exact .ty _
  · exact .own _
theorem cls_all (K : PySem.W.Frag) : ∀ cs : List Str, Paired ClsV (cs.map (clsR K)) (cs.map (clsV K))
  | [] => .nil
  | c :: cs => .cons (cls_cv K c) (cls_all K cs)
def excCB (K : PySem.W.Frag) (D : Addr) : Bool := xfB K D && (He.eqO (PySem.W.findIn K (.ref D) "__class__") (some (some (.builtin "object.__class__"))) && (He.eqO (PySem.W.specialIn K (.builtin "object.__class__") "__get__") (some (some (.builtin "getset_descriptor.__get__"))) &&
  (decide (PySem.W.takesIn K (.builtin "object.__class__") = some true) && decide (PySem.W.mroIn K D (.type "object") = some true))))
theorem excCB_ok {K : PySem.W.Frag} {D : Addr} (h : excCB K D = true) : ExcC K D := by
  unfold excCB at h
  obtain ⟨h0, h⟩ := He.ba h
  obtain ⟨h5, h⟩ := He.ba h
  obtain ⟨h6, h⟩ := He.ba h
  obtain ⟨h7, h8⟩ := He.ba h
  unfold xfB at h0
  obtain ⟨h1, h0⟩ := He.ba h0
  obtain ⟨h2, h0⟩ := He.ba h0
  obtain ⟨h3, h4⟩ := He.ba h0
  exact ⟨of_decide_eq_true h1, of_decide_eq_true h2, of_decide_eq_true h3, h4, He.eqO_ok h5, He.eqO_ok h6, of_decide_eq_true h7, of_decide_eq_true h8⟩
structure ETab where
  ds : List Str
  fl : List (Str × Str)
  is : List ((Str × Str) × Bool)
  ex : List ((Str × Str) × Bool)
def lk (d c : Str) : List ((Str × Str) × Bool) → Option Bool
  | [] => none
  | q :: r => if q.1 = (d, c) then some q.2 else lk d c r
theorem lk_mem {d c : Str} {b : Bool} : ∀ {l : List ((Str × Str) × Bool)}, lk d c l = some b → ((d, c), b) ∈ l
  | [], h => by cases h
  | q :: r, h => by
    unfold lk at h
    split at h
    · rename_i e
      cases h
      rw [← e]
      exact List.mem_cons_self
    · exact List.mem_cons_of_mem _ (lk_mem h)
def ETab.ok (t : ETab) (K : PySem.W.Frag) : Bool := ((t.ds.all fun d => excCB K (He.ga K d)) && t.fl.all fun q => He.eqO (PySem.W.findIn K (.ref (He.ga K q.1)) q.2) (some none)) && ((t.is.all fun q => decide (PySem.W.kitOne K (.ref (He.ga K q.1.1)) (clsV K q.1.2) = some q.2)) && t.ex.all fun q => decide (PySem.W.exmOne K (.ref (He.ga K q.1.1)) (clsV K q.1.2) = some q.2))
def isE (t : ETab) (e : Er) (c : Str) : Option Bool := if e.c ∈ t.ds then lk e.c c t.is else none
def isEs (t : ETab) (e : Er) : List Str → Option Bool
  | [] => some false
  | c :: r => (isE t e c).bind fun b => if b = true then some true else isEs t e r
def exE (t : ETab) (e : Er) (c : Str) : Option Bool := lk e.c c t.ex
def erI (t : ETab) (e : Er) (f : Str) : Option Int := match e with
  | .pi c g i => if g = f ∧ (c, g) ∈ t.fl ∧ c ∈ t.ds then some i else none
  | _ => none
def erS (t : ETab) (e : Er) (f : Str) : Option Str := match e with
  | .ps c g x => if g = f ∧ (c, g) ∈ t.fl ∧ c ∈ t.ds then some x else none
  | _ => none
section
variable {K : PySem.W.Frag} {t : ETab}
theorem ETab.ds_ok (h : t.ok K = true) {d : Str} (hd : d ∈ t.ds) : ExcC K (He.ga K d) := by
  unfold ETab.ok at h
  exact excCB_ok (List.all_eq_true.mp (He.ba (He.ba h).1).1 d hd)
theorem ETab.xf_ok (h : t.ok K = true) {d : Str} (hd : d ∈ t.ds) : XfC K (He.ga K d) := by
  unfold ETab.ok at h
  have := List.all_eq_true.mp (He.ba (He.ba h).1).1 d hd
  unfold excCB at this
  exact xfB_ok (He.ba this).1
theorem ETab.fl_ok (h : t.ok K = true) {d f : Str} (hd : (d, f) ∈ t.fl) : PySem.W.findIn K (.ref (He.ga K d)) f = some none := by
  unfold ETab.ok at h
  exact He.eqO_ok (List.all_eq_true.mp (He.ba (He.ba h).1).2 _ hd)
theorem ETab.is_ok (h : t.ok K = true) {d c : Str} {b : Bool} (hl : lk d c t.is = some b) : PySem.W.kitOne K (.ref (He.ga K d)) (clsV K c) = some b := by
  unfold ETab.ok at h
  exact of_decide_eq_true (List.all_eq_true.mp (He.ba (He.ba h).2).1 _ (lk_mem hl))
theorem ETab.ex_ok (h : t.ok K = true) {d c : Str} {b : Bool} (hl : lk d c t.ex = some b) : PySem.W.exmOne K (.ref (He.ga K d)) (clsV K c) = some b := by
  unfold ETab.ok at h
  exact of_decide_eq_true (List.all_eq_true.mp (He.ba (He.ba h).2).2 _ (lk_mem hl))
theorem exE_ok (h : t.ok K = true) {e : Er} {c : Str} {b : Bool} {cls : Value} {d : Option Addr} {F : Hp} (he : ExR K F e cls d) (hl : exE t e c = some b) : PySem.W.exmOne K cls (clsV K c) = some b := by
  rw [exR_cls he]
  exact ETab.ex_ok h hl
end
section
variable {X : Cx} {σ : St} {s : S} {e : Expr} {es : List Expr} {p0 p1 p2 p3 pos : Pos} {a : Addr} {oe : Obj} {pn : List (Addr × Obj)}
theorem exc_inst {D : Addr} {d : Option Addr} {pins : List (Addr × Obj)} {σ : St} {H : Hp} {sh : Shared} (hz : Zc (.ref D) d oe) (hf : ∃ vs, oe.data = .fields vs) (hd : ∀ dd, d = some dd → ∃ fs, H dd = some (.xd fs)) (I : Inv (X.suite a ((a, oe) :: pn)) pins σ H sh) : InstE a D oe sh.heap := by
  obtain ⟨hget, _⟩ := I.pin (a, oe) (List.mem_append.mpr (.inl List.mem_cons_self))
  obtain ⟨vs, hv⟩ := hf
  cases d with
  | none =>
    exact ⟨none, hget, hz.1, by unfold PySem.W.notCls; rw [hv], by rw [hz.2]; trivial⟩
  | some dd =>
    obtain ⟨fs, he⟩ := hd dd rfl
    obtain ⟨mA, hns, _⟩ := (show ObjOk X.prog X.w H sh.heap dd (.xd fs) from I.hok dd _ he)
    obtain ⟨od, ho, _⟩ := lookIn_ns hns
    exact ⟨some od, hget, hz.1, by unfold PySem.W.notCls; rw [hv], by rw [hz.2]; exact ho⟩
theorem call_isE1 {D : Addr} {d : Option Addr} (C : ExcC X.K D) (hz : Zc (.ref D) d oe) (hf : ∃ vs, oe.data = .fields vs) : CallR (X.suite a ((a, oe) :: pn)) (.builtin "isinstance") (fun xs H Q => (∀ dd, d = some dd → ∃ fs, H dd = some (.xd fs)) ∧ ∃ (c : V) (cv : Value) (b : Bool), xs = [.ref a, c] ∧ ClsV c cv ∧ PySem.W.kitOne X.K (.ref D) cv = some b ∧ Q (.bl b) H) := by
  intro pins s σ H xs us Q I r h
  obtain ⟨hd, c, cv, b, rfl, k, e, q⟩ := h
  obtain ⟨u1, u2, rfl, r1, r2⟩ := vals2 r
  cases (show u1 = Value.ref a from r1)
  have e2 := k.eq r2
  subst e2
  exact PySem.W.kia_one (kit_exc C) I.kIn (exc_inst hz hf hd I) e (fun z => nomatch z) fun tk => ⟨.bl b, H, I.kept (t' := tk) fun _ _ z => z, rfl, q⟩
theorem call_isET {D : Addr} {d : Option Addr} (C : ExcC X.K D) (hz : Zc (.ref D) d oe) (hf : ∃ vs, oe.data = .fields vs) : CallR (X.suite a ((a, oe) :: pn)) (.builtin "isinstance") (fun xs H Q => (∀ dd, d = some dd → ∃ fs, H dd = some (.xd fs)) ∧ ∃ (tp : Addr) (cs : List V) (us : List Value) (b : Bool), xs = [.ref a, .ref tp] ∧ H tp = some (.tup cs) ∧ Paired ClsV cs us ∧ PySem.W.kitAny X.K (.ref D) us = some b ∧ Q (.bl b) H) := by
  intro pins s σ H xs us Q I r h
  obtain ⟨hd, tp, cs, ws, b, rfl, hT, k, e, q⟩ := h
  obtain ⟨u1, u2, rfl, r1, r2⟩ := vals2 r
  cases (show u1 = Value.ref a from r1)
  cases (show u2 = Value.ref tp from r2)
  obtain ⟨_, its, rv, o, h1, h2, n, h3⟩ := (show ObjOk X.prog X.w H s.heap tp (.tup cs) from I.hok tp _ hT)
  have e3 := ClsV.all k rv
  subst e3
  obtain ⟨oc, od, dt, sl⟩ := o
  simp only at h2 h3
  subst h2 h3
  exact PySem.W.kia_tup (kit_exc C) I.kIn (exc_inst hz hf hd I) h1 e (fun z => nomatch z) fun tk => ⟨.bl b, H, I.kept (t' := tk) fun _ _ z => z, rfl, q⟩
theorem exR_xd {K : PySem.W.Frag} {F : Hp} {e : Er} {cls : Value} {d : Option Addr} (h : ExR K F e cls d) : ∀ dd, d = some dd → ∃ fs, F dd = some (.xd fs) := fun dd e1 => by
  cases e with
  | pl c => rw [h.2] at e1; cases e1
  | pi c f i => obtain ⟨_, d2, h2, h3⟩ := h; rw [h2] at e1; cases e1; exact ⟨_, h3⟩
  | ps c f x => obtain ⟨_, d2, h2, h3⟩ := h; rw [h2] at e1; cases e1; exact ⟨_, h3⟩
theorem kit_any {K : PySem.W.Frag} {t : ETab} (h : t.ok K = true) {er : Er} : ∀ {cs : List Str} {b : Bool}, isEs t er cs = some b → PySem.W.kitAny K (.ref (He.ga K er.c)) (cs.map (clsV K)) = some b
  | [], b, e => e
  | c :: r, b, e => by
    unfold isEs isE at e
    by_cases hd : er.c ∈ t.ds
    · rw [if_pos hd] at e
      cases hl : lk er.c c t.is with
      | none => rw [hl] at e; cases e
      | some b1 =>
        rw [hl] at e
        have k1 := ETab.is_ok h hl
        rw [List.map_cons]
        unfold PySem.W.kitAny
        rw [k1]
        cases b1 with
        | true => exact e
        | false => exact kit_any h e
    · rw [if_neg hd] at e; cases e
theorem ev_cls {c : Str} (h : (c ≠ ("ValueError" : Str) ∧ X.mg c = some (.ref (He.ga X.K c))) ∨ (c = ("ValueError" : Str) ∧ X.mg c = none)) (hg : Gl X c := by rfl) (hd : (c == ("__debug__" : Str)) = false := by decide) : Ev X (.Name c pos) σ s (Rw.mk (clsR X.K c)) := by
  rcases h with ⟨h1, h2⟩ | ⟨h1, h2⟩
  · have : clsR X.K c = .ref (He.ga X.K c) := if_neg h1
    rw [this]
    exact ev_glob ⟨.ref (He.ga X.K c), _, h2, rfl, fun _ => rfl⟩ hg hd
  · subst h1
    exact fun s1 k Q q => we_of (pe_bltn (v := .ty "ValueError") hg h2 PyProof.Rows.Boot.«ValueError» rfl (by decide) (by decide)) (q _ s1 (Ex.refl _) rfl)
theorem ev_isE {c : Str} {er : Er} {d : Option Addr} {b : Bool} {t : ETab} (h : t.ok X.K = true) (hl : isE t er c = some b) (hz : Zc (.ref (He.ga X.K er.c)) d oe) (hf : ∃ vs, oe.data = .fields vs) (hx : ExR X.K s.F er (.ref (He.ga X.K er.c)) d) (hm : X.mg "isinstance" = none)
    (ha : Ev (X.suite a ((a, oe) :: pn)) e σ s (Rw.mk (.ref a))) (hb : Ev (X.suite a ((a, oe) :: pn)) (.Name c p1) σ s (Rw.mk (clsR X.K c))) (hg : Gl (X.suite a ((a, oe) :: pn)) "isinstance" := by rfl)
    (he : starEach [e, .Name c p1] X.env = (false, eval e X.env) :: starEach [.Name c p1] X.env := by rfl) (he2 : starEach [.Name c p1] X.env = (false, eval (.Name c p1) X.env) :: starEach [] X.env := by rfl) (hpl : (backTo pos (starEach [.Name c p1] X.env)).any (·.1) = false := by rfl) :
    Ev (X.suite a ((a, oe) :: pn)) (.Call (.Name "isinstance" p0) [e, .Name c p1] [] pos) σ s b := fun s1 k Q q => by
  unfold isE at hl
  by_cases hd : er.c ∈ t.ds
  · rw [if_pos hd] at hl
    refine we_of (pe_callB (call_isE1 (d := d) (ETab.ds_ok h hd) hz hf) hg hm (by decide +kernel) (pa_cons pe_we (pa_cons pe_we pa_nil he2) he) (he := he) (hpl := hpl)) (ha s1 k _ fun v s2 k2 r2 => hb s2 (k.trans k2) _ fun u s3 k3 r3 => ?_)
    cases (show v = .ref a from r2)
    cases (show u = clsR X.K c from r3)
    exact ⟨fun dd e1 => by
      obtain ⟨fs, z⟩ := exR_xd hx dd e1
      exact ⟨fs, s3.sub _ _ (((k.trans k2).trans k3).f _ _ z)⟩, clsR X.K c, clsV X.K c, b, rfl, cls_cv X.K c, ETab.is_ok h hl, q _ s3 (k2.trans k3) rfl⟩
  · rw [if_neg hd] at hl; cases hl
theorem ev_xfI {f : Str} {er : Er} {d : Option Addr} {i : Int} {t : ETab} (h : t.ok X.K = true) (hl : erI t er f = some i) (hz : Zc (.ref (He.ga X.K er.c)) d oe) (hf : ∃ vs, oe.data = .fields vs) (hx : ExR X.K s.F er (.ref (He.ga X.K er.c)) d)
    (ha : Ev (X.suite a ((a, oe) :: pn)) e σ s (Rw.mk (.ref a))) (hb : attributeBase e f X.env (eval e X.env) = eval e X.env := by rfl) : Ev (X.suite a ((a, oe) :: pn)) (.Attribute e f pos) σ s i := fun s1 k Q q => by
  cases er with
  | pl c => cases hl
  | ps c g x => cases hl
  | pi c g j =>
    unfold erI at hl
    dsimp only at hl
    split at hl
    · rename_i hh
      obtain ⟨rfl, h2, h3⟩ := hh
      cases hl
      obtain ⟨_, dd, rfl, h5⟩ := hx
      refine we_of (pe_xf (ETab.xf_ok h h3) (ETab.fl_ok h h2) hz hf pe_we hb) (ha s1 k _ fun v s2 k2 r2 => ?_)
      cases (show v = .ref a from r2)
      exact ⟨rfl, rfl, dd, _, _, rfl, s2.sub _ _ ((k.trans k2).f _ _ h5), by simp, q _ s2 k2 rfl⟩
    · cases hl
theorem ev_xfS {f : Str} {er : Er} {d : Option Addr} {x : Str} {t : ETab} (h : t.ok X.K = true) (hl : erS t er f = some x) (hz : Zc (.ref (He.ga X.K er.c)) d oe) (hf : ∃ vs, oe.data = .fields vs) (hx : ExR X.K s.F er (.ref (He.ga X.K er.c)) d)
    (ha : Ev (X.suite a ((a, oe) :: pn)) e σ s (Rw.mk (.ref a))) (hb : attributeBase e f X.env (eval e X.env) = eval e X.env := by rfl) : Ev (X.suite a ((a, oe) :: pn)) (.Attribute e f pos) σ s x := fun s1 k Q q => by
  cases er with
  | pl c => cases hl
  | pi c g x => cases hl
  | ps c g j =>
    unfold erS at hl
    dsimp only at hl
    split at hl
    · rename_i hh
      obtain ⟨rfl, h2, h3⟩ := hh
      cases hl
      obtain ⟨_, dd, rfl, h5⟩ := hx
      refine we_of (pe_xf (ETab.xf_ok h h3) (ETab.fl_ok h h2) hz hf pe_we hb) (ha s1 k _ fun v s2 k2 r2 => ?_)
      cases (show v = .ref a from r2)
      exact ⟨rfl, rfl, dd, _, _, rfl, s2.sub _ _ ((k.trans k2).f _ _ h5), by simp, q _ s2 k2 rfl⟩
    · cases hl
theorem isEs_ds {t : ETab} {er : Er} {c : Str} {r : List Str} {b : Bool} (h : isEs t er (c :: r) = some b) : er.c ∈ t.ds := by
  unfold isEs isE at h
  by_cases hd : er.c ∈ t.ds
  · exact hd
  · rw [if_neg hd] at h; cases h
theorem names_of {c : Str} (h : X.mg c = some (.ref (He.ga X.K c))) (hg : Gl X c := by rfl) (hd : (c == ("__debug__" : Str)) = false := by decide) (hv : c ≠ ("ValueError" : Str) := by decide) : Names X c (clsV X.K c) := ⟨hg, hd, .inl (by rw [h]; exact congrArg some (if_neg hv).symm)⟩
theorem takes_false : Takes X (fun _ _ _ _ => False) := fun u s' ⟨_, _, _, _, _, _, _, _, _, _, _, _, _, _, _, _, h⟩ => h.elim
theorem ev_isEs {c0 : Str} {cr : List Str} {er : Er} {d : Option Addr} {cs : List Str} {b : Bool} {t : ETab} {n} (h : t.ok X.K = true) (hl : isEs t er cs = some b) (hz : Zc (.ref (He.ga X.K er.c)) d oe) (hf : ∃ vs, oe.data = .fields vs) (hx : ExR X.K s.F er (.ref (He.ga X.K er.c)) d) (hm : X.mg "isinstance" = none)
    (ha : Ev (X.suite a ((a, oe) :: pn)) e σ s (Rw.mk (.ref a))) (hb : EvE (X.suite a ((a, oe) :: pn)) es σ s (cs.map fun c => Rw.mk (clsR X.K c))) (hc : cs.length ≤ 1000) (e0 : cs = c0 :: cr := by rfl) (hg : Gl (X.suite a ((a, oe) :: pn)) "isinstance" := by rfl)
    (he : starEach [e, .Tuple es n p1] X.env = (false, eval e X.env) :: starEach [.Tuple es n p1] X.env := by rfl) (he2 : starEach [.Tuple es n p1] X.env = (false, eval (.Tuple es n p1) X.env) :: starEach [] X.env := by rfl) (hpl : (backTo pos (starEach [.Tuple es n p1] X.env)).any (·.1) = false := by rfl) :
    Ev (X.suite a ((a, oe) :: pn)) (.Call (.Name "isinstance" p0) [e, .Tuple es n p1] [] pos) σ s b := fun s1 k Q q =>
  we_of (pe_callB (call_isET (d := d) (ETab.ds_ok h (isEs_ds (by rw [e0] at hl; exact hl))) hz hf) hg hm (by decide +kernel) (pa_cons pe_we (pa_cons (pe_tup pa_wa) pa_nil he2) he) (he := he) (hpl := hpl)) (ha s1 k _ fun v s2 k2 r2 => hb s2 (k.trans k2) _ fun us s3 k3 r3 => by
    cases (show v = .ref a from r2)
    have e := rw_reps r3
    have e2 : us = cs.map (clsR X.K) := by rw [e, List.map_map]; rfl
    subst e2
    refine ⟨by rw [List.length_map, sizeLine_eq]; omega, fun p hp => ⟨fun dd e1 => ?_, p, _, cs.map (clsV X.K), b, rfl, upd_same, cls_all X.K cs, kit_any h hl, q _ (s3.newF p (.tup (cs.map (clsR X.K))) hp) ((k2.trans k3).trans (Ex.newF hp)) rfl⟩⟩
    obtain ⟨fs, z⟩ := exR_xd hx dd e1
    exact ⟨fs, (s3.newF p _ hp).sub _ _ ((((k.trans k2).trans k3).trans (Ex.newF hp)).f _ _ z)⟩)
end
section
variable {X : Cx} {σ : St} {s : S} {D : Ends} {rest : List Stmt} {e : Expr} {pos : Pos}
theorem do_dropX (h : EvX X e σ s) (hs : swapsWith e none pos.line X.env = pure false := by rfl) : WSs X (.Expr e pos :: rest) D σ s.H :=
  do_cons (ps_expr pe_we hs) (h s (Ex.refl _) _)
theorem do_retX (h : EvX X e σ s) : WSs X (.Return (some e) pos :: rest) D σ s.H := do_cons (ps_ret pe_we) (h s (Ex.refl _) _)
theorem do_setX (i : Nat) {n : Str} {py : Pos} (h : EvX X e σ s) (hN : X.N.Nodup) (hx : Loc X.env.scope n := by first | exact Or.inl rfl | exact Or.inr rfl) (hi : X.N[i]? = some n := by rfl)
    (hs : swapsWith e (some (.Name n py)) pos.line X.env = pure false := by rfl) (hf : X.fn n = true ∨ X.env.scope.names.lookup n = some .local := by first | exact .inl rfl | exact .inr rfl) : WSs X (.Assign [.Name n py] e pos :: rest) D σ s.H :=
  do_cons (ps_set hN hi hx pe_we hs hf) (h s (Ex.refl _) _)
theorem do_unpX (i j : Nat) {tg : Expr} (h : EvX X e σ s) (hg : PG X tg (gTup X.K 2 (gCons (gName i) (gCons (gName j) gNil)))) (hs : swapsWithSole [tg] e pos.line X.env = pure false := by rfl) (hw : swappedStores [tg] e X.env = pure none := by rfl)
    (h1 : (assignEach [tg] X.env).map (·.2) = [assign tg X.env] := by rfl) : WSs X (.Assign [tg] e pos :: rest) D σ s.H :=
  do_cons (ps_asg pe_we hg hs hw h1) (h s (Ex.refl _) _)
theorem was_of {K : PySem.W.Frag} {c : Value} {i : Nat} {ts : Addr → Value → Option Addr → TS} {Wout : WX} {cls : Value} {d : Option Addr} {σ : St} {H : Hp} (h1 : PySem.W.exmOne K cls c = some true)
    (h2 : ∀ a, H a = none → ts a cls d { nx := fun σ' H' => D.nx (σ'.set i none) H', rt := D.rt, bk := fun σ' H' => D.bk (σ'.set i none) H', ct := fun σ' H' => D.ct (σ'.set i none) H' } (σ.set i (some (.ref a))) H) : wAs K c i ts Wout D cls d σ H := ⟨true, h1, fun _ => h2, fun z => nomatch z⟩
theorem do_ifC {c : Expr} {A B : List Stmt} {x : Bool} (hc : EvT X c σ s x) (h1 : x = true → ∀ s1, Ex s s1 → WSs X A { D with nx := fun σ' H' => WSs X rest D σ' H' } σ s1.H) (h2 : x = false → ∀ s1, Ex s s1 → WSs X B { D with nx := fun σ' H' => WSs X rest D σ' H' } σ s1.H) : WSs X (.If c A B pos :: rest) D σ s.H :=
  do_cons (ps_if pt_wt pss_ws pss_ws) (hc s (Ex.refl _) _ fun s1 k => by
    cases x with
    | true => exact iteT (h1 rfl s1 k)
    | false => exact iteF (h2 rfl s1 k))
end

section
variable {α : Type} [Enc α] {X : Cx} {σ : St} {s : S} {a b : Expr} {pos : Pos}
theorem en_repO {p : Addr} {xs : List α} {n : Int} (ha : Ev X a σ s (Rw.mk (.ref p))) (o : Own X.K s p xs) (hb : ∀ t, Ex s t → Ev X b σ t n) (hz : RepOk n xs.length) : EvN X (.BinOp a .Mult b pos) σ s (repl n xs) := fun s1 k Q q =>
  we_of (pe_op op_rep pe_we pe_we) (ha s1 k _ fun v s2 k2 r2 => by
    cases (show v = V.ref p from r2)
    exact hb s2 (k.trans k2) s2 (Ex.refl _) _ fun u s3 k3 r3 => by
      obtain ⟨_, vs, h1, h2⟩ := o.ex ((k.trans k2).trans k3)
      exact ⟨p, n, vs, rfl, r3, h1, hz.1, hz.2.1, by rw [h2.len]; exact hz.2.2, fun l hl => q l (s3.newO l _ hl) ((k2.trans k3).trans (Ex.newO hl)) (fr_back (k2.trans k3) hl) (own_new hl (h2.repF _))⟩)
end
theorem goN {β ρ γ : Type} {b : β} {k : β → γ} {e : ρ → γ} {r : γ} (h : Fl.go (Fl.nx b) k e = r) : k b = r := h
def obsX (n : Nat) (fa : List He.Fa) (fn : List He.DefD) (gs : PySem.W.Frag → Bool) (g : Addr → Option Obj) : Bool × He.AlD := (gs (He.frG g (He.asD g n)), He.obsDG n fa fn g)
def hookX (n : Nat) (fa : List He.Fa) (fn : List He.DefD) (gs : PySem.W.Frag → Bool) : PySem.W.Hook where
  α := Bool × He.AlD
  obs := fun s => obsX n fa fn gs s.heap.get?
  val := fun _ => (true, He.valD fn)
  says := fun _ h => ∃ K : PySem.W.Frag, K.In h ∧ He.SaysD fa fn K ∧ gs K = true
  of := fun _ _ e => ⟨_, He.frG_in, congrArg (fun z : Bool × He.AlD => z.2) e, congrArg (fun z : Bool × He.AlD => z.1) e⟩
  keeps := fun _ _ _ ⟨K, hK, c, d⟩ k => ⟨K, PySem.W.Frag.In.keeps hK k, c, d⟩
theorem obsX_eq {n : Nat} {fa : List He.Fa} {fn : List He.DefD} {gs : PySem.W.Frag → Bool} {g : Addr → Option Obj} {s : Shared} (h : ∀ a, g a = s.heap.get? a) : obsX n fa fn gs g = (hookX n fa fn gs).obs s := by
  have e : g = s.heap.get? := funext h
  rw [e] <;> rfl
end Dy

namespace Dy
open PySem PySem.Spec L2
open PyProof.Rows hiding St
open Enc (rep)
open EncA (repA)

def oexB (K : PySem.W.Frag) (C : Addr) : Bool := match K.lookup C with
  | some ⟨.type "type", _, .cls cd, sl⟩ => (match cd.mro, sl.toList with
    | .ref C' :: bm, [_, _, _, _, some (.builtin n), _] => C' == C && (n == "ValueError.__new__" && (!cd.hasDel && (cd.hasDict && PySem.HandSPX.refsVE bm)))
    | _, _ => false)
  | _ => false
theorem oexB_ok {K : PySem.W.Frag} {C : Addr} (h : oexB K C = true) : ∃ nm q N bs bm sn sub ab col dd k0 k1 k2 k3 k5, K.lookup C = some (excClassObj nm q C N bs bm true sn sub ab col dd k0 k1 k2 k3 k5 "ValueError.__new__") ∧ PySem.HandSPX.refsVE bm = true := by
  unfold oexB at h
  split at h
  · rename_i dd cd sl ho
    split at h
    · rename_i C' bm k0 k1 k2 k3 n k5 hm hs
      simp only [Bool.and_eq_true, beq_iff_eq, Bool.not_eq_true'] at h
      obtain ⟨rfl, rfl, h1, h2, h3⟩ := h
      obtain ⟨nm, bs, mro, ns, qn, hd, sn, sub, ab, col, del⟩ := cd
      dsimp only at hm h1 h2
      subst hm h1 h2
      obtain ⟨l⟩ := sl
      simp only at hs
      subst hs
      exact ⟨nm, qn, ns, bs, bm, sn, sub, ab, col, dd, k0, k1, k2, k3, k5, ho, h3⟩
    · cases h
  · cases h
def payB (K : PySem.W.Frag) (c f : Str) : Bool := oexB K (He.ga K c) && (He.eqO (PySem.W.findIn K (.ref (He.ga K c)) "__setattr__") (some (some (.builtin "object.__setattr__"))) && (decide (PySem.W.subIn K (.ref (He.ga K c)) (.type "BaseException") = some true) && (decide (PySem.W.typeIn K (.ref (He.ga K c)) = some (.type "type")) &&
  (PySem.W.keepIn K (.ref (He.ga K c)) && (He.eqO (PySem.W.findIn K (.ref (He.ga K c)) "__init__") (some (some (.ref (He.fAd K (c, some "__init__"))))) && (decide (PySem.W.typeIn K (.ref (He.fAd K (c, some "__init__"))) = some (.type "function")) && He.eqO (PySem.W.findIn K (.ref (He.ga K c)) f) (some none)))))))
structure PayF (K : PySem.W.Frag) (c f : Str) : Prop where
  o : OexC K (He.ga K c)
  i : PySem.W.findIn K (.ref (He.ga K c)) "__init__" = some (some (.ref (He.fAd K (c, some "__init__"))))
  t : PySem.W.typeIn K (.ref (He.fAd K (c, some "__init__"))) = some (.type "function")
  n : PySem.W.findIn K (.ref (He.ga K c)) f = some none
theorem payB_ok {K : PySem.W.Frag} {c f : Str} (h : payB K c f = true) : PayF K c f := by
  unfold payB at h
  obtain ⟨h1, h⟩ := He.ba h
  obtain ⟨h2, h⟩ := He.ba h
  obtain ⟨h3, h⟩ := He.ba h
  obtain ⟨h4, h⟩ := He.ba h
  obtain ⟨h5, h⟩ := He.ba h
  obtain ⟨h6, h⟩ := He.ba h
  obtain ⟨h7, h8⟩ := He.ba h
  exact ⟨⟨oexB_ok h1, He.eqO_ok h2, of_decide_eq_true h3, of_decide_eq_true h4, h5⟩, He.eqO_ok h6, of_decide_eq_true h7, He.eqO_ok h8⟩
def spInit (K : PySem.W.Frag) (f : Str) : Sp := fun vs H Q _ => ∃ (a C : Addr) (v : V), vs = [.ref a, v] ∧ H a = some (exo a C none) ∧ OexC K C ∧ PySem.W.findIn K (.ref C) f = some none ∧ ∀ dx, H dx = none → dx ≠ a → Q .non (upd (upd H dx (exd dx [(f, v)])) a (exo a C (some dx)))
section
variable {P : Program} {w : World} {K : PySem.W.Frag} {mg : Str → Option Value} {base : Heap}
theorem mk_init {f x : Str} {ar : Arguments} {sc : Scope} {q : Str} {fI : Addr} {fd : FuncData} {k : Nat} {p1 p2 p3 p4 : Pos} (F : FunD K "__init__" q ar [.Assign [.Attribute (.Name "self" p1) f p2] (.Name x p3) p4] sc [] [] fI fd) (Sc : FnScope ["self", x] ["self", x] sc)
    (hv : ∀ (cdv : Value) (A' : Around) (outer : List Env) (s0 : Shared) (H0 : Hp) (E0 : XK), Vis (cxOf CX0 P w K mg base ["self", x] q sc fI cdv A' outer s0 H0 E0).nox.env.scope "self" ∧ Vis (cxOf CX0 P w K mg base ["self", x] q sc fI cdv A' outer s0 H0 E0).nox.env.scope x ∧
      swapsWith (.Name x p3) (some (.Attribute (.Name "self" p1) f p2)) p4.line (cxOf CX0 P w K mg base ["self", x] q sc fI cdv A' outer s0 H0 E0).nox.env = pure false)
    (hx : (x == ("__debug__" : Str)) = false := by decide) (hx2 : (x == ("__classdict__" : Str)) = false := by decide) : FnOk P w K mg base CX0 (k + 1) fI fd ["self", x] (spInit K f) :=
  F.ok Sc (fun vs H Q E ⟨a, C, v, e, _⟩ => by rw [e]; rfl) (fun cdv A' outer s0 H0 vs Q E hr ⟨a, C, v, e, h1, h2, h3, h4⟩ => by
    obtain ⟨v1, v2, v3⟩ := hv cdv A' outer s0 H0 E
    subst e
    exact ⟨_, PSs.nox (pss_cons (ps_ost (pe_var (i := 0) rfl v1 (by decide) (by decide)) (pe_var (i := 1) rfl v2 hx hx2) v3) pss_nil), v, rfl, .ref a, rfl, a, C, rfl, h2, h3, .inl ⟨h1, fun dx n ne => h4 dx n ne⟩⟩)
end
section
variable {X : Cx} {σ : St} {s : S} {D : Ends} {rest : List Stmt} {W : WX} {e : Expr}
theorem do_raiseI {c f : Str} {fd : FuncData} {ps : List Str} {k j : Nat} {i : Int} {p pos pos' : Pos} (T : PayF X.K c f) (gC : X.mg c = some (.ref (He.ga X.K c))) (F1 : FnOk X.prog X.w X.K X.mg X.base CX0 k (He.fAd X.K (c, some "__init__")) fd ps (spInit X.K f)) (hb : Binds X.K fd ps [])
    (tk : Takes X W) (hr : Room j X.A) (hk : k + 1 ≤ j) (ha : Ev X e σ s i) (h : ∀ d s1, Ex s s1 → s1.F d = some (.xd [(f, V.int i)]) → W (.ref (He.ga X.K c)) (some d) σ s1.H)
    (hc : X.calm = true := by rfl) (hg : Gl X c := by rfl) (hdb : (c == ("__debug__" : Str)) = false := by decide) (he : starEach [e] X.env = (false, eval e X.env) :: starEach [] X.env := by rfl) (hpl : (backTo pos (starEach [] X.env)).any (·.1) = false := by rfl) :
    WSs X (.Raise (some (.Call (.Name c p) [e] [] pos)) none pos' :: rest) D σ s.H :=
  do_cons (ps_raise hc tk (pmk_oex T.o T.i T.t F1 (hr.mono hk) hb .nil pass0 hg gC (pa_cons pe_we pa_nil he) hdb he hpl)) (ha s (Ex.refl _) _ fun v s2 k2 r2 => by
    obtain rfl : v = V.int i := r2
    refine ⟨by simp, fun a hna => ⟨a, He.ga X.K c, V.int i, rfl, upd_same, T.o, T.n, fun dx h1 h2 => ?_⟩⟩
    have hdx : s2.H dx = none := by rw [upd_ne h2] at h1; exact h1
    refine ⟨rfl, dx, _, upd_same, by rw [upd_ne h2, upd_same], hdx, ?_⟩
    have eH : upd (del (upd (upd (upd s2.H a (exo a (He.ga X.K c) none)) dx (exd dx [(f, V.int i)])) a (exo a (He.ga X.K c) (some dx))) a) dx (.xd [(f, V.int i)]) = (s2.newF dx (.xd [(f, V.int i)]) hdx).H := by
      funext b
      show _ = upd s2.H dx (.xd [(f, V.int i)]) b
      by_cases hb1 : b = dx
      · subst hb1; rw [upd_same, upd_same]
      · rw [upd_ne hb1, upd_ne hb1]
        by_cases hb2 : b = a
        · subst hb2; rw [del_same, hna]
        · rw [del_ne hb2, upd_ne hb2, upd_ne hb1, upd_ne hb2]
    rw [eH]
    exact h dx _ (k2.trans (Ex.newF hdx)) upd_same)
end
def InitOk (P : Program) (w : World) (K : PySem.W.Frag) (mg : Str → Option Value) (base : Heap) (c f : Str) : Prop := ∃ (fd : FuncData) (ps : List Str), FnOk P w K mg base CX0 1 (He.fAd K (c, some "__init__")) fd ps (spInit K f) ∧ Binds K fd ps []
section
variable {α : Type} [Enc α] {X : Cx} {σ : St} {s : S} {e : Expr}
theorem ev_t2u {x : α × α} (h : Ev X e σ s x) : Ev X e σ s (⟨[x.1, x.2]⟩ : Tu α) := fun s1 k Q q => h s1 k Q fun v s2 k2 r => q v s2 k2 (by
  obtain ⟨p, v1, v2, rfl, h0, h1, h2⟩ := r
  exact ⟨p, [v1, v2], rfl, h0, h1, h2, trivial⟩)
end
class Arity (α : Type) (n : outParam Nat) extends Enc α where
  ar : ∀ {K : PySem.W.Frag} {F : Hp} {v : V} {x : α}, rep K F v x → ∃ p vs, v = .ref p ∧ SqT K F p vs ∧ vs.length = n
instance {α β : Type} [Enc α] [Enc β] : Arity (α × β) 2 := ⟨fun h => by
  obtain ⟨p, v1, v2, e, h, _⟩ := h
  exact ⟨p, _, e, h, rfl⟩⟩
instance {α β γ : Type} [Enc α] [Enc β] [Enc γ] : Arity (T3 α β γ) 3 := ⟨fun h => by
  obtain ⟨p, v1, v2, v3, e, h, _⟩ := h
  exact ⟨p, _, e, h, rfl⟩⟩
section
variable {α : Type} {X : Cx} {σ : St} {s : S} {e : Expr} {p0 pos : Pos}
theorem ev_lenA {n : Nat} [Arity α n] {x : α} (hm : X.mg "len" = none) (ha : Ev X e σ s x) (hg : Gl X "len" := by rfl) (he : starEach [e] X.env = (false, eval e X.env) :: starEach [] X.env := by rfl) (hpl : (backTo pos (starEach [] X.env)).any (·.1) = false := by rfl) : Ev X (.Call (.Name "len" p0) [e] [] pos) σ s (n : Int) :=
  ev_B1 call_len_seq hg hm boot_len ha (fun v s2 r2 Q q => by
    obtain ⟨p, vs, rfl, h1, h2⟩ := Arity.ar r2
    exact ⟨p, vs, rfl, .inr (sqt_mono s2.sub h1), q _ s2 (Ex.refl _) (by rw [h2]; rfl)⟩) (he := he) (hpl := hpl)
end
end Dy

namespace Dy
open PySem PySem.Spec L2
open PyProof.Rows hiding St
open Enc (rep)

def dsz (ns : List Int) : Nat := (PyProof.Rows.firstMet (fun i => ns.getD i 0) ns.length).length
section
variable {X : Cx} {a : Expr} {ta : TE} {p p2 q pos : Pos}
def tDsz (K : PySem.W.Frag) (ta : TE) : TE := fun σ H Q => ta σ H fun x H1 => ∃ (l : Addr) (ns : List Int), x = .ref l ∧ SqL K H1 l (ns.map V.int) ∧ ns.length ≤ 4000 ∧ dsz ns ≤ ns.length ∧ Q (.int (dsz ns : Nat)) H1
theorem pe_dsz (hg : Gl X "len") (hm : X.mg "len" = none) (hg2 : Gl X "set") (hm2 : X.mg "set" = none) (ha : PE X a ta) (hc : X.calm = true := by rfl)
    (na : starEach [a] X.env = (false, eval a X.env) :: starEach [] X.env := by rfl) : PE X (.Call (.Name "len" p) [.Call (.Name "set" p2) [a] [] q] [] pos) (tDsz X.K ta) := by
  refine ⟨fun pins s σ H Q I h => ?_⟩
  refine Call_ (ld_blt I hg hm boot_len (PyProof.Rows.callWith_builtin1 (PyProof.Rows.args_cons (Call_ (ld_blt I hg2 hm2 boot_set (PyProof.Rows.callWith_type1 (PyProof.Rows.args_cons (thn (ha.run pins s σ H _ I h) fun v s1 ⟨x, H1, I1, r1, l, ns, e, hq, hl, hd0, q1⟩ => PyProof.Rows.args_nil ?_) na) na rfl))) rfl) rfl rfl))
  subst e
  cases r1
  obtain ⟨its, r, pl, hz⟩ := I1.list hq
  have hlen : its.toArray.size = ns.length := by rw [List.size_toArray, ← r.length, List.length_map]
  refine call_set_list (I1.ok.hd hc) pl.isList (by simpa using RZ.intsAre_vals r) (by rw [hlen]; unfold scanBound; omega) fun h' tk hS hk => PyProof.Rows.args_nil ?_
  rw [hlen] at hS
  obtain ⟨o, es, ep, t, ho, hex, hd, _, _, _, hf, hn⟩ := hS
  have I2 : Inv X pins σ H1 { s1 with heap := h', toks := tk } := I1.kept fun b o e => hk b o (Heap.lt_size e) e
  unfold dsz at hd0 q1
  exact call_len_set ho hex hd hf (by rw [hn] <;> omega) ⟨.int (dsz ns : Nat), H1, I2.tok _, ⟨_, by rw [hn]; rfl⟩, q1⟩
theorem dsz_le (ns : List Int) : dsz ns ≤ ns.length := PyProof.Rows.firstMet_length_le _ _
variable {σ : St} {s : S}
theorem ev_dsz {xs : List Int} (hm : X.mg "len" = none) (hm2 : X.mg "set" = none) (ha : EvR X a σ s xs) (hz : xs.length ≤ 4000) (hc : X.calm = true := by rfl) (hg : Gl X "len" := by rfl) (hg2 : Gl X "set" := by rfl) (na : starEach [a] X.env = (false, eval a X.env) :: starEach [] X.env := by rfl) :
    Ev X (.Call (.Name "len" p) [.Call (.Name "set" p2) [a] [] q] [] pos) σ s ((dsz xs : Nat) : Int) := fun s1 k Q qq =>
  we_of (pe_dsz hg hm hg2 hm2 pe_we hc na) (ha s1 k _ fun v s2 k2 r2 => by
    obtain ⟨p, vs, rfl, h1, h2⟩ := r2
    obtain rfl := h2.flat
    exact ⟨p, xs, rfl, h1, hz, dsz_le xs, qq _ s2 k2 rfl⟩)
end
theorem fm_inv (ns : List Int) : ∀ i, i ≤ ns.length → (∀ x, x ∈ PyProof.Rows.firstMet (fun i => ns.getD i 0) i ↔ x ∈ ns.take i) ∧ ((PyProof.Rows.firstMet (fun i => ns.getD i 0) i).length = i ↔ (ns.take i).Nodup)
  | 0, _ => by
    rw [PyProof.Rows.firstMet_zero]
    simp
  | i + 1, h => by
    obtain ⟨h1, h2⟩ := fm_inv ns i (by omega)
    have h3 := PyProof.Rows.firstMet_length_le (fun i => ns.getD i 0) i
    have e1 : ns.getD i 0 = ns[i] := by rw [List.getD_eq_getElem?_getD, List.getElem?_eq_getElem (by omega)]; rfl
    have e2 : ns.take (i + 1) = ns.take i ++ [ns[i]] := by rw [List.take_add_one, List.getElem?_eq_getElem (by omega)]; rfl
    rw [PyProof.Rows.firstMet_succ, e2]
    generalize PyProof.Rows.firstMet (fun i => ns.getD i 0) i = m at *
    have e3 : PyProof.Rows.step_dedup m (ns.getD i 0) = if ns[i] ∈ m then m else m ++ [ns[i]] := by
      unfold PyProof.Rows.step_dedup
      rw [e1]
      have e4 : (m.any fun x => x == ns[i]) = true ↔ ns[i] ∈ m := by
        rw [List.any_eq_true]
        exact ⟨fun ⟨y, hy, ey⟩ => eq_of_beq ey ▸ hy, fun hm => ⟨_, hm, beq_self_eq_true _⟩⟩
      by_cases hm : ns[i] ∈ m
      · rw [if_pos hm, if_pos (e4.mpr hm)]
      · rw [if_neg hm, if_neg (fun z => hm (e4.mp z))]
    show (∀ x, x ∈ PyProof.Rows.step_dedup m (ns.getD i 0) ↔ _) ∧ ((PyProof.Rows.step_dedup m (ns.getD i 0)).length = i + 1 ↔ _)
    rw [e3]
    by_cases hm : ns[i] ∈ m
    · rw [if_pos hm]
      have hm2 := (h1 _).mp hm
      refine ⟨fun x => ?_, fun e => by omega, fun hn => ?_⟩
      · rw [List.mem_append, h1, List.mem_singleton]
        exact ⟨.inl, fun z => z.elim id fun z => z ▸ hm2⟩
      · exact absurd rfl ((List.nodup_append.mp hn).2.2 _ hm2 _ (List.mem_singleton.mpr rfl))
    · rw [if_neg hm]
      have hm2 : ns[i] ∉ ns.take i := fun z => hm ((h1 _).mpr z)
      refine ⟨fun x => by rw [List.mem_append, List.mem_append, h1], fun e => ?_, fun hn => ?_⟩
      · rw [List.length_append, List.length_singleton] at e
        refine List.nodup_append.mpr ⟨h2.mp (by omega), by simp, fun a ha b hb e => ?_⟩
        rw [List.mem_singleton.mp hb] at e
        exact hm2 (e ▸ ha)
      · rw [List.length_append, List.length_singleton, h2.mpr (List.nodup_append.mp hn).1]
theorem dsz_eq (ns : List Int) : dsz ns = ns.length ↔ ns.Nodup := by
  have := (fm_inv ns ns.length (Nat.le_refl _)).2
  rw [List.take_length] at this
  exact this
structure HL2 (α β : Type) where
  a : α
  b : β
deriving DecidableEq
instance {α β : Type} [Enc α] [Enc β] : Enc (HL2 α β) := ⟨fun K F v x => ∃ p v1 v2, v = .ref p ∧ SqL K F p [v1, v2] ∧ rep K F v1 x.a ∧ rep K F v2 x.b, fun e h => by
  obtain ⟨p, v1, v2, rfl, h0, h1, h2⟩ := h
  exact ⟨p, v1, v2, rfl, sql_mono e h0, Enc.mono e h1, Enc.mono e h2⟩⟩
instance {α β : Type} [EqD α] [EqD β] : EqD (HL2 α β) := ⟨fun x => .list [EqD.toD x.a, EqD.toD x.b], fun h f => by
  obtain ⟨p, v1, v2, rfl, h0, h1, h2⟩ := h
  exact .lst (sql_mono f h0) (.cons (EqD.dp h1 f) (.cons (EqD.dp h2 f) .nil)), fun x y => by
    obtain ⟨x1, x2⟩ := x
    obtain ⟨y1, y2⟩ := y
    show (PyData.eqv _ _ && (PyData.eqv _ _ && true)) = true ↔ _
    rw [Bool.and_eq_true, Bool.and_eq_true, EqD.eqv, EqD.eqv]; simp⟩
section
variable {α β : Type} [Enc α] [Enc β] {X : Cx} {σ : St} {s : S} {es : List Expr} {pos : Pos}
theorem ev_hl2 {x : α} {y : β} (h : EvA X es σ s (x, y, ())) : Ev X (.List es pos) σ s (⟨x, y⟩ : HL2 α β) := fun s1 k Q q =>
  we_of (pe_lst pa_wa) (h s1 k _ fun vs s2 k2 r2 => by
    obtain ⟨v1, _, rfl, r1, v2, _, rfl, r2, rfl⟩ := r2
    exact ⟨show _ ≤ 2 ^ 24 by simp, fun p hp => q _ (s2.newF p (.lst [v1, v2]) hp) (k2.trans (Ex.newF hp)) ⟨p, v1, v2, rfl, .inl (.inl upd_same), Enc.mono (Ex.newF hp).f r1, Enc.mono (Ex.newF hp).f r2⟩⟩)
end
def relS (scope sc : Scope) : Scope := { scope with names := scope.names.map fun (n, k) => if (k == .free && sc.kind == .function && sc.names.lookup n == some .cell) then (n, .cell) else (n, k) }
theorem blkOk_n {N : List Str} {scope1 sc0 scope : Scope} {env : Env} {own : List (Str × Nat)} (e : env.scope = sc0) (h : blkC N (relS scope1 sc0) scope own = true) : BlkOk N (relabel scope1 env) scope own := by
  have : relabel scope1 env = relS scope1 sc0 := by subst e; rfl
  rw [this]
  exact blkOk_by h
end Dy

namespace Dy
open PySem PySem.Spec L2
open PyProof.Rows hiding St
open Enc (rep)

inductive An where
  | b (x : Bool)
  | i (x : Int)
  | o (x : Option Int)
  | s (x : Str)
  | l (xs : List Int)
  | ls (xs : List Str)
  | ts (xs : Tu Str)
instance : Enc An := ⟨fun K F v x => match x with
  | .b x => rep K F v x
  | .i x => rep K F v x
  | .o x => rep K F v x
  | .s x => rep K F v x
  | .l x => rep K F v x
  | .ls x => rep K F v x
  | .ts x => rep K F v x, fun {K F F' v x} e h => by
  cases x with
  | b x => exact Enc.mono (α := Bool) e h
  | i x => exact Enc.mono (α := Int) e h
  | o x => exact Enc.mono (α := Option Int) e h
  | s x => exact Enc.mono (α := Str) e h
  | l x => exact Enc.mono (α := List Int) e h
  | ls x => exact Enc.mono (α := List Str) e h
  | ts x => exact Enc.mono (α := Tu Str) e h⟩
class ToD (α : Type) extends Enc α where
  td : α → PyData
  tdp : ∀ {K : PySem.W.Frag} {F H : Hp} {v : V} {x : α}, rep K F v x → Fle F H → Dp K H v (td x)
instance : ToD An := ⟨fun x => match x with
  | .b x => EqD.toD x
  | .i x => EqD.toD x
  | .o x => EqD.toD x
  | .s x => EqD.toD x
  | .l x => EqD.toD x
  | .ls x => EqD.toD x
  | .ts x => EqD.toD x, fun {K F H v x} h f => by
  cases x with
  | b x => exact EqD.dp (α := Bool) h f
  | i x => exact EqD.dp (α := Int) h f
  | o x => exact EqD.dp (α := Option Int) h f
  | s x => exact EqD.dp (α := Str) h f
  | l x => exact EqD.dp (α := List Int) h f
  | ls x => exact EqD.dp (α := List Str) h f
  | ts x => exact EqD.dp (α := Tu Str) h f⟩
instance {α : Type} [EqD α] : ToD (α × An) := ⟨fun x => .tuple [EqD.toD x.1, ToD.td x.2], fun h f => by
  obtain ⟨p, v1, v2, rfl, h0, h1, h2⟩ := h
  exact .tup (sqt_mono f h0) (.cons (EqD.dp h1 f) (.cons (ToD.tdp h2 f) .nil))⟩
def eqvD {α : Type} [ToD α] (x y : α) : Bool := PyData.eqv (ToD.td x) (ToD.td y)
def shpD {α : Type} [ToD α] (x : α) : Prop := SeqAt.shaped (ToD.td x) = true
section
variable {α : Type} {X : Cx} {σ : St} {s : S} {a b e : Expr} {pos : Pos}
theorem eb_eqV [ToD α] {x y : α} {j : Nat} (hr : Room j X.A) (ha : Ev X a σ s x) (hb : Ev X b σ s y) (h1 : shpD x) (h2 : shpD y) : EvB X (.Compare a [.Eq] [b] pos) σ s (eqvD x y) :=
  eb_cmp (op_eqD (hu64 hr)) ha hb (fun v u s2 hv hu Q q => ⟨_, _, ToD.tdp hv s2.sub, ToD.tdp hu s2.sub, h1, h2, q⟩) (nomark _)
theorem eb_neV [ToD α] {x y : α} {j : Nat} (hr : Room j X.A) (ha : Ev X a σ s x) (hb : Ev X b σ s y) (h1 : shpD x) (h2 : shpD y) : EvB X (.Compare a [.NotEq] [b] pos) σ s (!eqvD x y) :=
  eb_cmp (op_neD (hu64 hr)) ha hb (fun v u s2 hv hu Q q => ⟨_, _, ToD.tdp hv s2.sub, ToD.tdp hu s2.sub, h1, h2, q⟩) (nomark _)
theorem an_b {x : Bool} (h : Ev X e σ s x) : Ev X e σ s (An.b x) := h
theorem an_i {x : Int} (h : Ev X e σ s x) : Ev X e σ s (An.i x) := h
theorem an_o {x : Option Int} (h : Ev X e σ s x) : Ev X e σ s (An.o x) := h
theorem an_s {x : Str} (h : Ev X e σ s x) : Ev X e σ s (An.s x) := h
theorem an_l {x : List Int} (h : Ev X e σ s x) : Ev X e σ s (An.l x) := h
theorem an_ls {x : List Str} (h : Ev X e σ s x) : Ev X e σ s (An.ls x) := h
theorem an_ts {x : Tu Str} (h : Ev X e σ s x) : Ev X e σ s (An.ts x) := h
def anB : An → Option Bool
  | .b x => some x
  | _ => none
theorem ev_anB {x : An} {y : Bool} (h : Ev X e σ s x) (hy : anB x = some y) : Ev X e σ s y := by
  cases x with
  | b z => cases hy; exact h
  | _ => cases hy
end
end Dy

namespace Dy
open PySem PySem.Spec L2
open PyProof.Rows hiding St
open Enc (rep)
open Flat (toV)
open EncA (repA)

structure OA where
  p : PySem.W.Frag → Hp → Hp → (Addr → Prop) → Prop
  mono : ∀ {K : PySem.W.Frag} {F F' H : Hp} {P : Addr → Prop}, Fle F F' → p K F H P → p K F' H P
  loc : ∀ {K : PySem.W.Frag} {F H H' : Hp} {P : Addr → Prop}, (∀ a, P a → H' a = H a) → p K F H P → p K F H' P
  dom : ∀ {K : PySem.W.Frag} {F H : Hp} {P : Addr → Prop} {a : Addr}, p K F H P → P a → ∃ o, H a = some o
def top : OA := ⟨fun _ _ _ P => ∀ a, ¬ P a, fun _ h => h, fun _ h => h, fun h q => absurd q (h _)⟩
def fz {α : Type} [Enc α] (v : V) (x : α) : OA := ⟨fun K F _ P => rep K F v x ∧ ∀ a, ¬ P a, fun e h => ⟨Enc.mono e h.1, h.2⟩, fun _ h => h, fun h q => absurd q (h.2 _)⟩
def ol {α : Type} [Enc α] (p : Addr) (xs : List α) : OA := ⟨fun K F H P => (∀ a, P a ↔ a = p) ∧ ∃ vs, H p = some (.lst vs) ∧ Reps K F vs xs, fun e ⟨h0, vs, h1, h2⟩ => ⟨h0, vs, h1, h2.mono e⟩,
  fun e ⟨h0, vs, h1, h2⟩ => ⟨h0, vs, by rw [e p ((h0 p).mpr rfl)]; exact h1, h2⟩, fun ⟨h0, vs, h1, h2⟩ q => ⟨_, (congrArg _ ((h0 _).mp q)).trans h1⟩⟩
class DKey (κ : Type) extends Eqs κ where
  dec : DecidableEq κ
  toK : κ → Key
  kv : ∀ k, kV (toK k) = toV k
  kinj : ∀ a b, toK a = toK b ↔ a = b
instance : DKey Int := { dec := inferInstance, toK := Sum.inl, kv := fun _ => rfl, kinj := fun a b => ⟨fun h => Sum.inl.inj h, fun h => by rw [h]⟩ }
instance : DKey Str := { dec := inferInstance, toK := Sum.inr, kv := fun _ => rfl, kinj := fun a b => ⟨fun h => Sum.inr.inj h, fun h => by rw [h]⟩ }
def KReps {κ α : Type} [DKey κ] [Enc α] (K : PySem.W.Frag) (F : Hp) : List (Key × V) → List (κ × α) → Prop
  | [], [] => True
  | (k, v) :: r, (j, x) :: xs => k = DKey.toK j ∧ rep K F v x ∧ KReps K F r xs
  | _, _ => False
theorem KReps.mono {κ α : Type} [DKey κ] [Enc α] {K : PySem.W.Frag} {F F' : Hp} (e : Fle F F') : ∀ {kv : List (Key × V)} {xs : List (κ × α)}, KReps K F kv xs → KReps K F' kv xs
  | [], [], _ => trivial
  | _ :: _, _ :: _, ⟨h1, h2, t⟩ => ⟨h1, Enc.mono e h2, KReps.mono e t⟩
  | [], _ :: _, h => h.elim
  | _ :: _, [], h => h.elim
theorem KReps.len {κ α : Type} [DKey κ] [Enc α] {K : PySem.W.Frag} {F : Hp} : ∀ {kv : List (Key × V)} {xs : List (κ × α)}, KReps K F kv xs → kv.length = xs.length
  | [], [], _ => rfl
  | _ :: _, _ :: _, ⟨_, _, t⟩ => congrArg (· + 1) (KReps.len t)
  | [], _ :: _, h => h.elim
  | _ :: _, [], h => h.elim
def od {κ α : Type} [DKey κ] [Enc α] (p : Addr) (xs : List (κ × α)) : OA := ⟨fun K F H P => (∀ a, P a ↔ a = p) ∧ ∃ kv, H p = some (.dK kv) ∧ KReps K F kv xs, fun e ⟨h0, vs, h1, h2⟩ => ⟨h0, vs, h1, h2.mono e⟩,
  fun e ⟨h0, vs, h1, h2⟩ => ⟨h0, vs, by rw [e p ((h0 p).mpr rfl)]; exact h1, h2⟩, fun ⟨h0, vs, h1, h2⟩ q => ⟨_, (congrArg _ ((h0 _).mp q)).trans h1⟩⟩
def odl {κ α : Type} [DKey κ] [Enc α] (p : Addr) (o : Obj) (kv : List (Key × V)) (xs : List (κ × α)) : OA := ⟨fun K F H P => (∀ a, P a ↔ a = p) ∧ H p = some (.frz o (.dK kv)) ∧ KReps K F kv xs, fun e ⟨h0, h1, h2⟩ => ⟨h0, h1, h2.mono e⟩,
  fun e ⟨h0, h1, h2⟩ => ⟨h0, by rw [e p ((h0 p).mpr rfl)]; exact h1, h2⟩, fun ⟨h0, h1, h2⟩ q => ⟨_, (congrArg _ ((h0 _).mp q)).trans h1⟩⟩
def cell (p : Addr) (c : Str) (fs : List (Str × V)) : OA := ⟨fun K F H P => ∃ dx, (∀ a, P a ↔ (a = p ∨ a = dx)) ∧ H p = some (.ins (He.ga K c) dx fs) ∧ H dx = some (.own p), fun e h => h,
  fun e ⟨dx, h0, h1, h2⟩ => ⟨dx, h0, by rw [e p ((h0 p).mpr (.inl rfl))]; exact h1, by rw [e dx ((h0 dx).mpr (.inr rfl))]; exact h2⟩, fun ⟨dx, h0, h1, h2⟩ q => by
    rcases (h0 _).mp q with rfl | rfl
    · exact ⟨_, h1⟩
    · exact ⟨_, h2⟩⟩

structure Mz (P : Addr → Prop) (s t : S) : Prop where
  f : Fle s.F t.F
  h : ∀ a o, s.H a = some o → ¬ P a → t.H a = some o
  n : ∀ a o, s.H a = some o → ¬ P a → s.F a = none → t.F a = none
  d : ∀ a o, s.H a = some o → ∃ u, t.H a = some u
theorem Mx.z {P : Addr → Prop} {s t : S} (m : Mx P s t) : Mz P s t := ⟨m.f, m.h, fun a o h _ q => m.n a o h q, m.d⟩
theorem Ex.z {P : Addr → Prop} {s t : S} (e : Ex s t) : Mz P s t := e.mx.z
theorem Mz.trans {P : Addr → Prop} {s t u : S} (a : Mz P s t) (b : Mz P t u) : Mz P s u :=
  ⟨fun x o h => b.f x o (a.f x o h), fun x o h n => b.h x o (a.h x o h n) n,
   fun x o h p n => by obtain ⟨v, hv⟩ := a.d x o h; exact b.n x v hv p (a.n x o h p n),
   fun x o h => by obtain ⟨v, hv⟩ := a.d x o h; exact b.d x v hv⟩
theorem Mz.fr_back {P : Addr → Prop} {s t : S} (e : Mz P s t) {p : Addr} (h : t.H p = none) : s.H p = none := by
  cases q : s.H p with
  | none => rfl
  | some o => obtain ⟨u, z⟩ := e.d p o q; rw [z] at h; cases h
structure Iv (K : PySem.W.Frag) (P0 : Addr → Prop) (s0 s : S) (L : List OA) : Prop where
  m : Mz P0 s0 s
  o : ∃ φ : Nat → Addr → Prop, (∀ (i : Nat) (A : OA), L[i]? = some A → A.p K s.F s.H (φ i)) ∧ (∀ (i j : Nat) (a : Addr), φ i a → φ j a → i = j) ∧ (∀ (i : Nat) (a : Addr), φ i a → s.F a = none ∧ (P0 a ∨ s0.H a = none) ∧ i < L.length)
section
variable {α β κ : Type} [Enc α] [Enc β] [DKey κ] {K : PySem.W.Frag} {P0 : Addr → Prop} {s0 s s1 t : S} {L M : List OA}
theorem Iv.fz (h : Iv K P0 s0 s L) (i : Nat) {v : V} {x : α} (e : L[i]? = some (Dy.fz v x) := by rfl) : rep K s.F v x := by
  obtain ⟨φ, h1, _⟩ := h.o
  exact (h1 i _ e).1
theorem Iv.ol (h : Iv K P0 s0 s L) (i : Nat) {p : Addr} {xs : List α} (e : L[i]? = some (Dy.ol p xs) := by rfl) : Own K s p xs := by
  obtain ⟨φ, h1, h2, h3⟩ := h.o
  obtain ⟨q, vs, hp, r⟩ := h1 i _ e
  exact ⟨(h3 i p ((q p).mpr rfl)).1, vs, hp, r⟩
theorem Iv.at (h : Iv K P0 s0 s L) (i : Nat) {A : OA} (e : L[i]? = some A := by rfl) : ∃ P, A.p K s.F s.H P ∧ ∀ a, P a → s.F a = none := by
  obtain ⟨φ, h1, h2, h3⟩ := h.o
  exact ⟨φ i, h1 i A e, fun a q => (h3 i a q).1⟩
theorem Iv.ex (h : Iv K P0 s0 s L) (e : Ex s s1) : Iv K P0 s0 s1 L := by
  obtain ⟨φ, h1, h2, h3⟩ := h.o
  refine ⟨h.m.trans e.z, φ, fun i A hA => ?_, h2, fun i a q => ?_⟩
  · have h4 := h1 i A hA
    exact A.mono e.f (A.loc (fun a q => by
      obtain ⟨o, ho⟩ := A.dom h4 q
      rw [ho]; exact e.h _ _ ho) h4)
  · obtain ⟨h5, h6, h7⟩ := h3 i a q
    obtain ⟨A, hA⟩ : ∃ A, L[i]? = some A := ⟨L[i], List.getElem?_eq_getElem h7⟩
    obtain ⟨o, ho⟩ := A.dom (h1 i A hA) q
    exact ⟨e.n _ _ ho h5, h6, h7⟩
theorem Iv.upd (h : Iv K P0 s0 s L) (i : Nat) {A A' : OA} (hA : L[i]? = some A) (st : ∀ P, A.p K s.F s.H P → (∀ a, P a → s.F a = none) → ∃ P', A'.p K s1.F s1.H P' ∧ (∀ a, P' a → s1.F a = none ∧ (P a ∨ s.H a = none)) ∧ Mz P s s1) : Iv K P0 s0 s1 (L.set i A') := by
  obtain ⟨φ, h1, h2, h3⟩ := h.o
  obtain ⟨P', g1, g2, g3⟩ := st (φ i) (h1 i A hA) fun a q => (h3 i a q).1
  have hi : i < L.length := (List.getElem?_eq_some_iff.mp hA).1
  have old : ∀ j a, φ j a → ∃ o, s.H a = some o := fun j a q => by
    obtain ⟨_, _, h7⟩ := h3 j a q
    exact (L[j]).dom (h1 j _ (List.getElem?_eq_getElem h7)) q
  have m1 : Mz P0 s0 s1 := by
    refine ⟨h.m.f.trans g3.f, fun a o q n => g3.h _ _ (h.m.h a o q n) fun z => ?_, fun a o q np n => ?_, fun a o q => ?_⟩
    · rcases (h3 i a z).2.1 with w | w
      · exact n w
      · rw [w] at q; cases q
    · obtain ⟨u, hu⟩ := h.m.d a o q
      exact g3.n a u hu (fun z => by
        rcases (h3 i a z).2.1 with w | w
        · exact np w
        · rw [w] at q; cases q) (h.m.n a o q np n)
    · obtain ⟨u, hu⟩ := h.m.d a o q
      exact g3.d a u hu
  refine ⟨m1, fun j a => if j = i then P' a else φ j a, fun j B hB => ?_, fun j k a => ?_, fun j a => ?_⟩
  · by_cases e : j = i
    · subst e
      rw [List.getElem?_set_self hi] at hB
      cases hB
      simpa using g1
    · rw [List.getElem?_set_ne (Ne.symm e)] at hB
      simp only [e, if_false]
      have h4 := h1 j B hB
      exact B.mono g3.f (B.loc (fun a q => by
        obtain ⟨o, ho⟩ := B.dom h4 q
        rw [ho]; exact g3.h _ _ ho fun z => e (h2 _ _ _ q z)) h4)
  · intro q r
    by_cases e : j = i <;> by_cases e2 : k = i
    · rw [e, e2]
    · exfalso
      simp only [e, if_true] at q
      simp only [e2, if_false] at r
      rcases (g2 a q).2 with z | z
      · exact e2 (h2 _ _ _ r z)
      · obtain ⟨o, ho⟩ := old k a r
        rw [z] at ho; cases ho
    · exfalso
      simp only [e, if_false] at q
      simp only [e2, if_true] at r
      rcases (g2 a r).2 with z | z
      · exact e (h2 _ _ _ q z)
      · obtain ⟨o, ho⟩ := old j a q
        rw [z] at ho; cases ho
    · simp only [e, if_false] at q
      simp only [e2, if_false] at r
      exact h2 _ _ _ q r
  · intro q
    rw [List.length_set]
    by_cases e : j = i
    · simp only [e, if_true] at q
      obtain ⟨z1, z2⟩ := g2 a q
      refine ⟨z1, ?_, by rw [e]; exact hi⟩
      rcases z2 with z | z
      · exact (h3 i a z).2.1
      · refine .inr ?_
        exact h.m.fr_back z
    · simp only [e, if_false] at q
      obtain ⟨z1, z2, z3⟩ := h3 j a q
      obtain ⟨o, ho⟩ := old j a q
      exact ⟨g3.n _ _ ho (fun z => e (h2 _ _ _ q z)) z1, z2, z3⟩
theorem Iv.put (h : Iv K P0 s0 s L) (i : Nat) {A' : OA} (e : Ex s s1) (st : ∃ P', A'.p K s1.F s1.H P' ∧ ∀ a, P' a → s1.F a = none ∧ s.H a = none) : Iv K P0 s0 s1 (L.set i A') := by
  by_cases hi : i < L.length
  case neg => rw [List.set_eq_of_length_le (by omega)]; exact h.ex e
  refine h.upd i (List.getElem?_eq_getElem hi) fun P _ _ => ?_
  obtain ⟨P', g1, g2⟩ := st
  exact ⟨P', g1, fun a q => ⟨(g2 a q).1, .inr (g2 a q).2⟩, e.z⟩
theorem Iv.sf (h : Iv K P0 s0 s L) (i : Nat) {v : V} {x y : α} (e : Ex s s1) (r : rep K s1.F v x) (q : y = x) : Iv K P0 s0 s1 (L.set i (Dy.fz v y)) := by
  subst q
  exact h.put i e ⟨fun _ => False, ⟨r, fun _ z => z⟩, fun _ z => z.elim⟩
theorem Iv.sl (h : Iv K P0 s0 s L) (i : Nat) {p : Addr} {xs ys : List α} (e : Ex s s1) (n : s.H p = none) (o : Own K s1 p xs) (q : ys = xs) : Iv K P0 s0 s1 (L.set i (Dy.ol p ys)) := by
  subst q
  obtain ⟨o1, vs, o2, o3⟩ := o
  exact h.put i e ⟨fun a => a = p, ⟨fun _ => Iff.rfl, vs, o2, o3⟩, fun a z => by rw [z]; exact ⟨o1, n⟩⟩
theorem Iv.ml (h : Iv K P0 s0 s L) (i : Nat) {p : Addr} {xs : List α} {ys zs : List β} (m : Mx (· = p) s s1) (o : Own K s1 p ys) (q : zs = ys) (hA : L[i]? = some (Dy.ol p xs) := by rfl) : Iv K P0 s0 s1 (L.set i (Dy.ol p zs)) := by
  subst q
  obtain ⟨o1, vs, o2, o3⟩ := o
  refine h.upd i hA fun P hP _ => ⟨P, ?_, ?_, ?_⟩
  · exact ⟨hP.1, vs, o2, o3⟩
  · intro a z
    rw [(hP.1 a).mp z]
    exact ⟨o1, .inl ((hP.1 p).mpr rfl)⟩
  · exact ⟨m.f, fun a o q n => m.h a o q fun z => n ((hP.1 a).mpr z), fun a o q _ z => m.n a o q z, m.d⟩
def pick (L : List OA) (js : List (Option Nat)) : List OA := js.map fun o => match o with | none => top | some i => L.getD i top
theorem Iv.sel (h : Iv K P0 s0 s L) (js : List (Option Nat)) (hn : (js.filterMap id).Nodup) (hM : pick L js = M) : Iv K P0 s0 s M := by
  subst hM
  obtain ⟨φ, h1, h2, h3⟩ := h.o
  refine ⟨h.m, fun k a => ∃ i, js[k]? = some (some i) ∧ φ i a, fun k A hA => ?_, fun k l a ⟨i, e1, q1⟩ ⟨j, e2, q2⟩ => ?_, fun k a ⟨i, e1, q1⟩ => ?_⟩
  · unfold pick at hA
    rw [List.getElem?_map] at hA
    obtain ⟨o, e1, e2⟩ := Option.map_eq_some_iff.mp hA
    cases o with
    | none =>
      subst e2
      intro a ⟨i, e3, _⟩
      rw [e1] at e3; cases e3
    | some i =>
      dsimp only at e2
      have eφ : (fun a => ∃ j, js[k]? = some (some j) ∧ φ j a) = φ i := by
        funext a
        apply propext
        constructor
        · rintro ⟨j, e3, q⟩
          rw [e1] at e3
          cases e3
          exact q
        · exact fun q => ⟨i, e1, q⟩
      show A.p K s.F s.H (fun a => ∃ j, js[k]? = some (some j) ∧ φ j a)
      rw [eφ]
      cases hg : L[i]? with
      | none =>
        rw [List.getD_eq_getElem?_getD, hg] at e2
        subst e2
        intro a q
        have := (h3 i a q).2.2
        rw [List.getElem?_eq_getElem this] at hg
        cases hg
      | some B =>
        rw [List.getD_eq_getElem?_getD, hg] at e2
        subst e2
        exact h1 i B hg
  · have := h2 _ _ _ q1 q2
    subst this
    have key : ∀ (js : List (Option Nat)) (k l : Nat), (js.filterMap id).Nodup → js[k]? = some (some i) → js[l]? = some (some i) → k = l := by
      intro js
      induction js with
      | nil => intro k l _ e; cases e
      | cons x r ih =>
        intro k l hn e1 e2
        cases x with
        | none =>
          cases k with
          | zero => cases e1
          | succ k =>
            cases l with
            | zero => cases e2
            | succ l => exact congrArg (· + 1) (ih k l (by simpa using hn) (by simpa using e1) (by simpa using e2))
        | some y =>
          have hn' : y ∉ r.filterMap id ∧ (r.filterMap id).Nodup := by simpa using hn
          have mem : ∀ k, r[k]? = some (some i) → i ∈ r.filterMap id := fun k e => List.mem_filterMap.mpr ⟨some i, List.mem_of_getElem? e, rfl⟩
          cases k with
          | zero =>
            cases l with
            | zero => rfl
            | succ l =>
              have : y = i := by simpa using e1
              exact absurd (mem l (by simpa using e2)) (this ▸ hn'.1)
          | succ k =>
            cases l with
            | zero =>
              have : y = i := by simpa using e2
              exact absurd (mem k (by simpa using e1)) (this ▸ hn'.1)
            | succ l => exact congrArg (· + 1) (ih k l hn'.2 (by simpa using e1) (by simpa using e2))
    exact key js k l hn e1 e2
  · obtain ⟨z1, z2, z3⟩ := h3 i a q1
    refine ⟨z1, z2, ?_⟩
    unfold pick
    rw [List.length_map]
    exact (List.getElem?_eq_some_iff.mp e1).1
theorem Iv.tops (n : Nat) (s : S) : Iv K P0 s s (List.replicate n top) := by
  refine ⟨(Ex.refl s).z, fun _ _ => False, fun i A hA => ?_, fun _ _ _ z => z.elim, fun _ _ z => z.elim⟩
  have := List.mem_of_getElem? hA
  rw [List.eq_of_mem_replicate this]
  exact fun _ z => z
theorem Iv.exx (h : Iv K (fun _ => False) s0 s L) : Ex s0 s := ⟨h.m.f, fun a o q => h.m.h a o q fun z => z, fun a o q n => h.m.n a o q (fun z => z) n⟩
theorem Iv.frz (h : Iv K P0 s0 s L) (i : Nat) {p : Addr} {xs : List α} (hA : L[i]? = some (Dy.ol p xs) := by rfl) : ∃ s' : S, s'.H = s.H ∧ Fle s.F s'.F ∧ Iv K P0 s0 s' (L.set i (Dy.fz (.ref p) xs)) := by
  obtain ⟨s', h1, h2, h3, h4⟩ := (h.ol i hA).frz
  refine ⟨s', h1, h2, ?_⟩
  obtain ⟨φ, g1, g2, g3⟩ := h.o
  have hi : i < L.length := (List.getElem?_eq_some_iff.mp hA).1
  have hp : φ i p := ((g1 i _ hA).1 p).mpr rfl
  refine ⟨⟨h.m.f.trans h2, fun a o q n => by rw [h1]; exact h.m.h a o q n, fun a o q np n => ?_, fun a o q => by rw [h1]; exact h.m.d a o q⟩, fun j a => if j = i then False else φ j a, fun j B hB => ?_, fun j k a q r => ?_, fun j a q => ?_⟩
  · have ne : a ≠ p := fun z => by
      subst z
      rcases (g3 i a hp).2.1 with w | w
      · exact np w
      · rw [w] at q; cases q
    rw [h3 a ne]
    exact h.m.n a o q np n
  · by_cases e : j = i
    · subst e
      rw [List.getElem?_set_self hi] at hB
      cases hB
      exact ⟨h4, fun a => by simp⟩
    · rw [List.getElem?_set_ne (Ne.symm e)] at hB
      simp only [e, if_false]
      rw [h1]
      exact B.mono h2 (g1 j B hB)
  · by_cases e : j = i
    · simp only [e, if_true] at q
    · by_cases e2 : k = i
      · simp only [e2, if_true] at r
      · simp only [e, if_false] at q
        simp only [e2, if_false] at r
        exact g2 _ _ _ q r
  · by_cases e : j = i
    · simp only [e, if_true] at q
    · simp only [e, if_false] at q
      obtain ⟨z1, z2, z3⟩ := g3 j a q
      have ne : a ≠ p := fun z => e (g2 _ _ _ q (z ▸ hp))
      exact ⟨by rw [h3 a ne]; exact z1, z2, by rw [List.length_set]; exact z3⟩
structure Ro (K : PySem.W.Frag) (P0 : Addr → Prop) (s0 : S) (R : List OA) : Prop where
  o : ∀ (i : Nat) (A : OA), R[i]? = some A → ∃ P, A.p K s0.F s0.H P ∧ ∀ a, P a → ¬ P0 a
theorem OA.stay {A : OA} {P : Addr → Prop} (h : A.p K s.F s.H P) (m : Mz P0 s t) (n : ∀ a, P a → ¬ P0 a) : A.p K t.F t.H P :=
  A.mono m.f (A.loc (fun a q => by
    obtain ⟨o, ho⟩ := A.dom h q
    rw [ho]; exact m.h _ _ ho (n a q)) h)
theorem Iv.ro (h : Iv K P0 s0 s L) {R : List OA} (r : Ro K P0 s0 R) (i : Nat) {A : OA} (e : R[i]? = some A := by rfl) : ∃ P, A.p K s.F s.H P := by
  obtain ⟨P, h1, h2⟩ := r.o i A e
  exact ⟨P, OA.stay h1 h.m h2⟩
def rem (L : List OA) (ks : List Nat) : List OA := L.mapIdx fun i A => if i ∈ ks then top else A
def rsel (L R0 : List OA) (rs : List (Nat ⊕ Nat)) : List OA := rs.map fun z => match z with | .inl i => L.getD i top | .inr j => R0.getD j top
theorem call_in (h : Iv K P0 s0 s L) {R0 : List OA} (ro : Ro K P0 s0 R0) (ks : List Nat) (hn : ks.Nodup) (hk : ∀ k ∈ ks, k < L.length) (Lf : List OA) (hf : ∀ A ∈ Lf, A.p K s.F s.H (fun _ => False)) (rs : List (Nat ⊕ Nat)) (hrs : ∀ i, Sum.inl i ∈ rs → i ∉ ks) :
    ∃ P1, Iv K P1 s s (ks.map (fun k => L.getD k top) ++ Lf) ∧ Ro K P1 s (rsel L R0 rs) ∧ (ks = [] → ∀ a, ¬ P1 a) ∧ ∀ s' L', Iv K P1 s s' L' → Iv K P0 s0 s' (rem L ks ++ L') := by
  obtain ⟨φ, h1, h2, h3⟩ := h.o
  refine ⟨fun a => ∃ k ∈ ks, φ k a, ⟨(Ex.refl s).z, fun i a => ∃ k, ks[i]? = some k ∧ φ k a, fun i A hA => ?_, fun i j a ⟨k, e1, q1⟩ ⟨l, e2, q2⟩ => ?_, fun i a ⟨k, e1, q1⟩ => ?_⟩, ⟨fun i A hA => ?_⟩, fun e a w => (by obtain ⟨k, hk, _⟩ := w; rw [e] at hk; cases hk), fun s' L' iv => ?_⟩
  · by_cases hi : i < ks.length
    · rw [List.getElem?_append_left (by rw [List.length_map]; exact hi), List.getElem?_map, List.getElem?_eq_getElem hi, Option.map_some] at hA
      have hA := Option.some.inj hA
      have hkl := hk ks[i] (List.getElem_mem hi)
      rw [List.getD_eq_getElem?_getD, List.getElem?_eq_getElem hkl, Option.getD_some] at hA
      have eφ : (fun a => ∃ k, ks[i]? = some k ∧ φ k a) = φ ks[i] := by
        funext a
        apply propext
        rw [List.getElem?_eq_getElem hi]
        exact ⟨fun ⟨k, e, q⟩ => by cases e; exact q, fun q => ⟨_, rfl, q⟩⟩
      show A.p K s.F s.H (fun a => ∃ k, ks[i]? = some k ∧ φ k a)
      rw [eφ, ← hA]
      exact h1 _ _ (List.getElem?_eq_getElem hkl)
    · rw [List.getElem?_append_right (by rw [List.length_map]; omega)] at hA
      have eφ : (fun a => ∃ k, ks[i]? = some k ∧ φ k a) = fun _ => False := by
        funext a
        apply propext
        rw [List.getElem?_eq_none (by omega)]
        exact ⟨fun w => (by obtain ⟨k, e, _⟩ := w; cases e), fun z => z.elim⟩
      show A.p K s.F s.H (fun a => ∃ k, ks[i]? = some k ∧ φ k a)
      rw [eφ]
      exact hf A (List.mem_of_getElem? hA)
  · obtain ⟨hi, ei⟩ := List.getElem?_eq_some_iff.mp e1
    obtain ⟨hj, ej⟩ := List.getElem?_eq_some_iff.mp e2
    have e := h2 _ _ _ q1 q2
    rw [← ei, ← ej] at e
    exact (List.getElem_inj hn).mp e
  · exact ⟨(h3 k a q1).1, .inl ⟨k, List.mem_of_getElem? e1, q1⟩, by rw [List.length_append, List.length_map]; have := (List.getElem?_eq_some_iff.mp e1).1; omega⟩
  · unfold rsel at hA
    rw [List.getElem?_map] at hA
    obtain ⟨z, e1, e2⟩ := Option.map_eq_some_iff.mp hA
    have hz := List.mem_of_getElem? e1
    have tp : top.p K s.F s.H (fun _ => False) := fun _ z => z
    cases z with
    | inl i =>
      by_cases hi : i < L.length
      · have e3 : L[i]? = some A := by
          rw [List.getElem?_eq_getElem hi]
          simp only [List.getD_eq_getElem?_getD, List.getElem?_eq_getElem hi, Option.getD_some] at e2
          rw [e2]
        exact ⟨φ i, h1 i A e3, fun a q ⟨k, hk, q2⟩ => hrs i hz (h2 _ _ _ q q2 ▸ hk)⟩
      · simp only [List.getD_eq_getElem?_getD, List.getElem?_eq_none (Nat.le_of_not_lt hi), Option.getD_none] at e2
        rw [← e2]
        exact ⟨_, tp, fun _ z => z.elim⟩
    | inr j =>
      by_cases hj : j < R0.length
      · have e3 : R0[j]? = some A := by
          rw [List.getElem?_eq_getElem hj]
          simp only [List.getD_eq_getElem?_getD, List.getElem?_eq_getElem hj, Option.getD_some] at e2
          rw [e2]
        obtain ⟨P, g1, g2⟩ := ro.o j A e3
        refine ⟨P, OA.stay g1 h.m g2, fun a q ⟨k, hk, q2⟩ => ?_⟩
        rcases (h3 k a q2).2.1 with w | w
        · exact g2 a q w
        · obtain ⟨o, ho⟩ := A.dom g1 q
          rw [w] at ho; cases ho
      · simp only [List.getD_eq_getElem?_getD, List.getElem?_eq_none (Nat.le_of_not_lt hj), Option.getD_none] at e2
        rw [← e2]
        exact ⟨_, tp, fun _ z => z.elim⟩
  · obtain ⟨φ', g1, g2, g3⟩ := iv.o
    have hP : ∀ a o, s0.H a = some o → ¬ P0 a → ¬ ∃ k ∈ ks, φ k a := fun a o q np ⟨k, _, q2⟩ => by
      rcases (h3 k a q2).2.1 with w | w
      · exact np w
      · rw [w] at q; cases q
    have hlen : (rem L ks).length = L.length := by unfold rem; rw [List.length_mapIdx]
    refine ⟨⟨h.m.f.trans iv.m.f, fun a o q n => iv.m.h a o (h.m.h a o q n) (hP a o q n), fun a o q np n => ?_, fun a o q => ?_⟩, fun i a => if i < L.length then (i ∉ ks ∧ φ i a) else φ' (i - L.length) a, fun i A hA => ?_, fun i j a q r => ?_, fun i a q => ?_⟩
    · obtain ⟨u, hu⟩ := h.m.d a o q
      exact iv.m.n a u hu (hP a o q np) (h.m.n a o q np n)
    · obtain ⟨u, hu⟩ := h.m.d a o q
      exact iv.m.d a u hu
    · by_cases hi : i < L.length
      · rw [List.getElem?_append_left (by omega)] at hA
        unfold rem at hA
        rw [List.getElem?_mapIdx, List.getElem?_eq_getElem hi, Option.map_some] at hA
        have hA := Option.some.inj hA
        simp only [hi, if_true]
        by_cases hik : i ∈ ks
        · rw [if_pos hik] at hA
          rw [← hA]
          exact fun a ⟨z, _⟩ => z hik
        · rw [if_neg hik] at hA
          show A.p K s'.F s'.H (fun a => i ∉ ks ∧ φ i a)
          have eφ : (fun a => i ∉ ks ∧ φ i a) = φ i := by
            funext a
            apply propext
            exact ⟨fun z => z.2, fun z => ⟨hik, z⟩⟩
          rw [eφ, ← hA]
          exact OA.stay (h1 i _ (List.getElem?_eq_getElem hi)) iv.m fun a q ⟨k, hk, q2⟩ => hik (h2 _ _ _ q q2 ▸ hk)
      · rw [List.getElem?_append_right (by omega), hlen] at hA
        simp only [hi, if_false]
        exact g1 _ A hA
    · have apart : ∀ i j a, i < L.length → i ∉ ks → φ i a → φ' j a → False := fun i j a hi hik q r => by
        rcases (g3 j a r).2.1 with ⟨k, hk, q2⟩ | w
        · exact hik (h2 _ _ _ q q2 ▸ hk)
        · obtain ⟨o, ho⟩ := (L[i]).dom (h1 i _ (List.getElem?_eq_getElem hi)) q
          rw [w] at ho; cases ho
      by_cases hi : i < L.length <;> by_cases hj : j < L.length
      · simp only [hi, if_true] at q
        simp only [hj, if_true] at r
        exact h2 _ _ _ q.2 r.2
      · simp only [hi, if_true] at q
        simp only [hj, if_false] at r
        exact (apart _ _ _ hi q.1 q.2 r).elim
      · simp only [hi, if_false] at q
        simp only [hj, if_true] at r
        exact (apart _ _ _ hj r.1 r.2 q).elim
      · simp only [hi, if_false] at q
        simp only [hj, if_false] at r
        have := g2 _ _ _ q r
        omega
    · rw [List.length_append, hlen]
      by_cases hi : i < L.length
      · simp only [hi, if_true] at q
        obtain ⟨z1, z2, z3⟩ := h3 i a q.2
        obtain ⟨o, ho⟩ := (L[i]).dom (h1 i _ (List.getElem?_eq_getElem hi)) q.2
        exact ⟨iv.m.n a o ho (fun ⟨k, hk, q2⟩ => q.1 (h2 _ _ _ q.2 q2 ▸ hk)) z1, z2, by omega⟩
      · simp only [hi, if_false] at q
        obtain ⟨z1, z2, z3⟩ := g3 _ a q
        refine ⟨z1, ?_, by omega⟩
        rcases z2 with ⟨k, hk, q2⟩ | w
        · exact (h3 k a q2).2.1
        · exact .inr (h.m.fr_back w)
theorem Iv.fresh (h : Iv K (fun _ => False) s0 s L) (i : Nat) {p : Addr} {xs : List α} (e : L[i]? = some (Dy.ol p xs) := by rfl) : s0.H p = none := by
  obtain ⟨φ, h1, h2, h3⟩ := h.o
  obtain ⟨q, vs, hp, r⟩ := h1 i _ e
  rcases (h3 i p ((q p).mpr rfl)).2.1 with w | w
  · exact w.elim
  · exact w
theorem do_frzI {X : Cx} {σ : L2.St} {D : Ends} {ss : List Stmt} (h : Iv X.K P0 s0 s L) (i : Nat) {p : Addr} {xs : List α} (hA : L[i]? = some (Dy.ol p xs)) (k : ∀ s', Fle s.F s'.F → Iv X.K P0 s0 s' (L.set i (Dy.fz (.ref p) xs)) → WSs X ss D σ s'.H) : WSs X ss D σ s.H := by
  obtain ⟨s', h1, h2, h3⟩ := h.frz i hA
  rw [← h1]
  exact k s' h2 h3
end
end Dy

namespace Dy
open PySem PySem.Spec L2
open PyProof.Rows hiding St
open Enc (rep)
open Flat (toV)
open EncA (repA)

section
variable {κ τ : Type} [DecidableEq κ]
def dval (xs : List (κ × τ)) (k : κ) : Option τ := (xs.find? fun z => decide (z.1 = k)).map (·.2)
def dput (xs : List (κ × τ)) (k : κ) (y : τ) : List (κ × τ) := if (xs.any fun z => decide (z.1 = k)) = true then xs.map fun z => if z.1 = k then (z.1, y) else z else xs ++ [(k, y)]
def ddrop (xs : List (κ × τ)) (k : κ) : List (κ × τ) := xs.filter fun z => decide (z.1 ≠ k)
end
section
variable {κ α : Type} [DKey κ] [DecidableEq κ] [Enc α] {K : PySem.W.Frag} {F F' : Hp}
theorem toK_dec (a b : κ) : decide (DKey.toK a = DKey.toK b) = decide (a = b) := decide_eq_decide.mpr (DKey.kinj a b)
theorem KReps.val {k : κ} : ∀ {kv : List (Key × V)} {xs : List (κ × α)}, KReps K F kv xs → match dval xs k with
    | none => valV kv (DKey.toK k) = none
    | some x => ∃ v, valV kv (DKey.toK k) = some v ∧ rep K F v x
  | [], [], _ => rfl
  | (j, v) :: r, (i, x) :: xs, ⟨e, h, t⟩ => by
    subst e
    unfold dval valV
    rw [List.find?_cons, List.find?_cons]
    dsimp only
    rw [toK_dec i k]
    cases decide (i = k) with
    | true => exact ⟨v, rfl, h⟩
    | false => exact KReps.val (k := k) t
  | [], _ :: _, h => h.elim
  | _ :: _, [], h => h.elim
theorem KReps.any {k : κ} : ∀ {kv : List (Key × V)} {xs : List (κ × α)}, KReps K F kv xs → (kv.any fun z => decide (z.1 = DKey.toK k)) = xs.any fun z => decide (z.1 = k)
  | [], [], _ => rfl
  | (j, v) :: r, (i, x) :: xs, ⟨e, h, t⟩ => by
    subst e
    rw [List.any_cons, List.any_cons, KReps.any (k := k) t, toK_dec i k]
  | [], _ :: _, h => h.elim
  | _ :: _, [], h => h.elim
theorem KReps.app : ∀ {kv kw : List (Key × V)} {xs ys : List (κ × α)}, KReps K F kv xs → KReps K F kw ys → KReps K F (kv ++ kw) (xs ++ ys)
  | [], _, [], _, _, h => h
  | _ :: _, _, _ :: _, _, ⟨e, h, t⟩, w => ⟨e, h, KReps.app t w⟩
  | [], _, _ :: _, _, h, _ => h.elim
  | _ :: _, _, [], _, h, _ => h.elim
theorem KReps.repl {k : κ} {v : V} {y : α} (r : rep K F v y) : ∀ {kv : List (Key × V)} {xs : List (κ × α)}, KReps K F kv xs → KReps K F (kv.map fun z => if z.1 = DKey.toK k then (z.1, v) else z) (xs.map fun z => if z.1 = k then (z.1, y) else z)
  | [], [], _ => trivial
  | (j, u) :: kv, (i, x) :: xs, ⟨e, h, t⟩ => by
    subst e
    rw [List.map_cons, List.map_cons]
    dsimp only
    by_cases hh : i = k
    · rw [if_pos hh, if_pos (by rw [hh])]
      exact ⟨rfl, r, KReps.repl r t⟩
    · rw [if_neg hh, if_neg (fun z => hh ((DKey.kinj i k).mp z))]
      exact ⟨rfl, h, KReps.repl r t⟩
  | [], _ :: _, h => h.elim
  | _ :: _, [], h => h.elim
theorem KReps.put {k : κ} {v : V} {y : α} {kv : List (Key × V)} {xs : List (κ × α)} (h : KReps K F kv xs) (r : rep K F v y) : KReps K F (putK kv (DKey.toK k) v) (dput xs k y) := by
  unfold putK dput
  rw [h.any (k := k)]
  split
  · exact h.repl r
  · exact h.app ⟨rfl, r, trivial⟩
theorem KReps.drop {k : κ} : ∀ {kv : List (Key × V)} {xs : List (κ × α)}, KReps K F kv xs → KReps K F (dropK kv (DKey.toK k)) (ddrop xs k)
  | [], [], _ => trivial
  | (j, v) :: r, (i, x) :: xs, ⟨e, h, t⟩ => by
    subst e
    unfold dropK ddrop
    rw [List.filter_cons, List.filter_cons]
    dsimp only
    by_cases hh : i = k
    · rw [if_neg (by simp [hh]), if_neg (by simp [hh])]
      exact KReps.drop t
    · rw [if_pos (by simpa using fun z => hh ((DKey.kinj i k).mp z)), if_pos (by simpa using hh)]
      exact ⟨rfl, h, KReps.drop t⟩
  | [], _ :: _, h => h.elim
  | _ :: _, [], h => h.elim
theorem KReps.get : ∀ {kv : List (Key × V)} {xs : List (κ × α)} {i : Nat} {z : κ × α}, KReps K F kv xs → xs[i]? = some z → ∃ v, kv[i]? = some (DKey.toK z.1, v) ∧ rep K F v z.2
  | [], [], _, _, _, e => by simp at e
  | (j, v) :: _, (i, x) :: _, 0, z, ⟨e, h, _⟩, e2 => by
    have : (i, x) = z := Option.some.inj e2
    subst this
    exact ⟨v, by rw [e]; rfl, h⟩
  | _ :: kv, _ :: xs, i + 1, z, ⟨_, _, t⟩, e => by
    obtain ⟨v, h1, h2⟩ := KReps.get (i := i) t (by simpa using e)
    exact ⟨v, by simpa using h1, h2⟩
  | [], _ :: _, _, _, h, _ => h.elim
  | _ :: _, [], _, _, h, _ => h.elim
theorem KReps.keys : ∀ {kv : List (Key × V)} {xs : List (κ × α)}, KReps K F kv xs → Reps K F (kv.map fun z => kV z.1) (xs.map (·.1))
  | [], [], _ => trivial
  | (j, v) :: _, (i, x) :: _, ⟨e, _, t⟩ => by
    subst e
    exact ⟨Flat.iff.mpr (DKey.kv i), KReps.keys t⟩
  | [], _ :: _, h => h.elim
  | _ :: _, [], h => h.elim
end
def RepD {κ α : Type} [DKey κ] [Enc α] (K : PySem.W.Frag) (s : S) (p : Addr) (xs : List (κ × α)) : Prop := ∃ kv, Rd s.H p (.dK kv) ∧ KReps K s.F kv xs
def OwnD {κ α : Type} [DKey κ] [Enc α] (K : PySem.W.Frag) (s : S) (p : Addr) (xs : List (κ × α)) : Prop := s.F p = none ∧ ∃ kv, s.H p = some (.dK kv) ∧ KReps K s.F kv xs
def CellAt (s : S) (K : PySem.W.Frag) (p : Addr) (c : Str) (fs : List (Str × V)) : Prop := ∃ dx, s.H p = some (.ins (He.ga K c) dx fs)
section
variable {α β κ : Type} [Enc α] [Enc β] [DKey κ] {K : PySem.W.Frag} {P0 : Addr → Prop} {s0 s s1 t : S} {L M R : List OA}
theorem Rd.ex {p : Addr} {u : HO} (h : Rd s.H p u) (e : Ex s t) : Rd t.H p u := h.elim (fun z => .inl (e.h _ _ z)) fun ⟨o, z⟩ => .inr ⟨o, e.h _ _ z⟩
theorem RepD.ex {p : Addr} {xs : List (κ × α)} (h : RepD K s p xs) (e : Ex s t) : RepD K t p xs := by
  obtain ⟨kv, h1, h2⟩ := h
  exact ⟨kv, Rd.ex h1 e, h2.mono e.f⟩
theorem OwnD.r {p : Addr} {xs : List (κ × α)} (h : OwnD K s p xs) : RepD K s p xs := by
  obtain ⟨_, kv, h1, h2⟩ := h
  exact ⟨kv, .inl h1, h2⟩
theorem CellAt.ex {p : Addr} {c : Str} {fs : List (Str × V)} (h : CellAt s K p c fs) (e : Ex s t) : CellAt t K p c fs := by
  obtain ⟨dx, h1⟩ := h
  exact ⟨dx, e.h _ _ h1⟩
theorem OwnD.ex {p : Addr} {xs : List (κ × α)} (h : OwnD K s p xs) (e : Ex s t) : OwnD K t p xs := by
  obtain ⟨h0, kv, h1, h2⟩ := h
  exact ⟨e.n _ _ h1 h0, kv, e.h _ _ h1, h2.mono e.f⟩
theorem Iv.od (h : Iv K P0 s0 s L) (i : Nat) {p : Addr} {xs : List (κ × α)} (e : L[i]? = some (Dy.od p xs) := by rfl) : OwnD K s p xs := by
  obtain ⟨P, ⟨h0, kv, h1, h2⟩, h3⟩ := h.at i e
  exact ⟨h3 p ((h0 p).mpr rfl), kv, h1, h2⟩
theorem Iv.odl (h : Iv K P0 s0 s L) (i : Nat) {p : Addr} {o : Obj} {kv : List (Key × V)} {xs : List (κ × α)} (e : L[i]? = some (Dy.odl p o kv xs) := by rfl) : s.F p = none ∧ s.H p = some (.frz o (.dK kv)) ∧ KReps K s.F kv xs := by
  obtain ⟨P, ⟨h0, h1, h2⟩, h3⟩ := h.at i e
  exact ⟨h3 p ((h0 p).mpr rfl), h1, h2⟩
theorem Iv.odr (h : Iv K P0 s0 s L) (i : Nat) {p : Addr} {o : Obj} {kv : List (Key × V)} {xs : List (κ × α)} (e : L[i]? = some (Dy.odl p o kv xs) := by rfl) : RepD K s p xs := ⟨kv, .inr ⟨o, (h.odl i e).2.1⟩, (h.odl i e).2.2⟩
theorem Iv.cell (h : Iv K P0 s0 s L) (i : Nat) {p : Addr} {c : Str} {fs : List (Str × V)} (e : L[i]? = some (Dy.cell p c fs) := by rfl) : CellAt s K p c fs := by
  obtain ⟨P, ⟨dx, h0, h1, h2⟩, h3⟩ := h.at i e
  exact ⟨dx, h1⟩
theorem Iv.rol (h : Iv K P0 s0 s L) (r : Ro K P0 s0 R) (i : Nat) {p : Addr} {xs : List α} (e : R[i]? = some (Dy.ol p xs) := by rfl) : RepR K s (.ref p) xs := by
  obtain ⟨P, h0, vs, h1, h2⟩ := h.ro r i e
  exact ⟨p, vs, rfl, .inl (.inl h1), h2⟩
theorem Iv.rod (h : Iv K P0 s0 s L) (r : Ro K P0 s0 R) (i : Nat) {p : Addr} {xs : List (κ × α)} (e : R[i]? = some (Dy.od p xs) := by rfl) : RepD K s p xs := by
  obtain ⟨P, h0, kv, h1, h2⟩ := h.ro r i e
  exact ⟨kv, .inl h1, h2⟩
theorem Iv.rcell (h : Iv K P0 s0 s L) (r : Ro K P0 s0 R) (i : Nat) {p : Addr} {c : Str} {fs : List (Str × V)} (e : R[i]? = some (Dy.cell p c fs) := by rfl) : CellAt s K p c fs := by
  obtain ⟨P, dx, h0, h1, h2⟩ := h.ro r i e
  exact ⟨dx, h1⟩
theorem Iv.rfz (h : Iv K P0 s0 s L) (r : Ro K P0 s0 R) (i : Nat) {v : V} {x : α} (e : R[i]? = some (Dy.fz v x) := by rfl) : rep K s.F v x := by
  obtain ⟨P, h0, h1⟩ := h.ro r i e
  exact h0
theorem Iv.sd (h : Iv K P0 s0 s L) (i : Nat) {p : Addr} {xs ys : List (κ × α)} (e : Ex s s1) (n : s.H p = none) (o : OwnD K s1 p xs) (q : ys = xs) : Iv K P0 s0 s1 (L.set i (Dy.od p ys)) := by
  subst q
  obtain ⟨o1, vs, o2, o3⟩ := o
  exact h.put i e ⟨fun a => a = p, ⟨fun _ => Iff.rfl, vs, o2, o3⟩, fun a z => by rw [z]; exact ⟨o1, n⟩⟩
theorem Iv.md (h : Iv K P0 s0 s L) (i : Nat) {p : Addr} {xs : List (κ × α)} {ys zs : List (κ × β)} (m : Mx (· = p) s s1) (o : OwnD K s1 p ys) (q : zs = ys) (hA : L[i]? = some (Dy.od p xs) := by rfl) : Iv K P0 s0 s1 (L.set i (Dy.od p zs)) := by
  subst q
  obtain ⟨o1, vs, o2, o3⟩ := o
  refine h.upd i hA fun P hP _ => ⟨P, ?_, ?_, ?_⟩
  · exact ⟨hP.1, vs, o2, o3⟩
  · intro a z
    rw [(hP.1 a).mp z]
    exact ⟨o1, .inl ((hP.1 p).mpr rfl)⟩
  · exact ⟨m.f, fun a o q n => m.h a o q fun z => n ((hP.1 a).mpr z), fun a o q _ z => m.n a o q z, m.d⟩
def lockS (s : S) (p : Addr) (u : HO) (h : s.F p = none) : S := s.put p u h
theorem Iv.lock (h : Iv K P0 s0 s L) (i : Nat) {p : Addr} {kv : List (Key × V)} {xs : List (κ × α)} (o : Obj) (hA : L[i]? = some (Dy.od p xs)) (hf : s.F p = none) (h1 : s.H p = some (.dK kv)) (h2 : KReps K s.F kv xs) : Iv K P0 s0 (s.put p (.frz o (.dK kv)) hf) (L.set i (Dy.odl p o kv xs)) :=
  h.upd i hA fun P hP _ => ⟨P, ⟨hP.1, upd_same, h2⟩, fun a z => by rw [(hP.1 a).mp z]; exact ⟨hf, .inl ((hP.1 p).mpr rfl)⟩, by
    have m : Mx (· = p) s (s.put p (.frz o (.dK kv)) hf) := Mx.put hf
    exact ⟨m.f, fun a o q n => m.h a o q fun z => n ((hP.1 a).mpr z), fun a o q _ z => m.n a o q z, m.d⟩⟩
theorem Iv.unlock (h : Iv K P0 s0 s L) (i : Nat) {p : Addr} {o : Obj} {kv : List (Key × V)} {xs : List (κ × α)} (hA : L[i]? = some (Dy.odl p o kv xs)) : ∃ s' : S, s'.H = L2.upd s.H p (.dK kv) ∧ s'.F = s.F ∧ Iv K P0 s0 s' (L.set i (Dy.od p xs)) := by
  obtain ⟨hf, h1, h2⟩ := h.odl i hA
  refine ⟨s.put p (.dK kv) hf, rfl, rfl, h.upd i hA fun P hP _ => ⟨P, ⟨hP.1, kv, upd_same, h2⟩, fun a z => by rw [(hP.1 a).mp z]; exact ⟨hf, .inl ((hP.1 p).mpr rfl)⟩, ?_⟩⟩
  have m : Mx (· = p) s (s.put p (.dK kv) hf) := Mx.put hf
  exact ⟨m.f, fun a o q n => m.h a o q fun z => n ((hP.1 a).mpr z), fun a o q _ z => m.n a o q z, m.d⟩
end
section
variable {α β γ κ : Type} [Enc α] [Enc β] [Enc γ] [DKey κ] [DecidableEq κ] {X : Cx} {σ : L2.St} {P0 : Addr → Prop} {s0 s t : S} {L : List OA} {e a b c o i : Expr} {es : List Expr} {pos p0 p1 p2 p3 : Pos} {D : Ends} {rest : List Stmt} {n : Str} {p : Addr}
theorem ev_raw {v : V} {x : α} (h : Ev X e σ s (Rw.mk v)) (r : rep X.K s.F v x) : Ev X e σ s x := fun s1 k Q q => h s1 k Q fun u s2 k2 e1 => by
  cases (show u = v from e1)
  exact q v s2 k2 (Enc.mono (k.trans k2).f r)
theorem er_raw {p : Addr} {xs : List α} (h : Ev X e σ s (Rw.mk (.ref p))) (r : RepR X.K s (.ref p) xs) : EvR X e σ s xs := fun s1 k Q q => h s1 k Q fun u s2 k2 e1 => by
  cases (show u = V.ref p from e1)
  exact q _ s2 k2 (r.ex (k.trans k2))
theorem raw_var (i : Nat) {v : V} (h : σ[i]? = some (some v)) (hN : X.N[i]? = some n := by rfl) (hv : Vis X.env.scope n := by first | exact Or.inl rfl | exact Or.inr (Or.inl rfl) | exact Or.inr (Or.inr rfl)) (hd : (n == ("__debug__" : Str)) = false := by decide)
    (hcd : (n == ("__classdict__" : Str)) = false := by decide) : Ev X (.Name n pos) σ s (Rw.mk v) := ev_var i h (show rep _ _ v (Rw.mk v) from rfl) hN hv hd hcd
theorem raw_fld {f c : Str} {v : V} {fs : List (Str × V)} (h : Ev X e σ s (Rw.mk (.ref p))) (r : CellAt s X.K p c fs) (hl : fs.lookup f = some v) (hc : Cls X.K (He.ga X.K c)) (hn : NoAttr X.K (He.ga X.K c) f) (hb : attributeBase e f X.env (eval e X.env) = eval e X.env := by rfl) : Ev X (.Attribute e f pos) σ s (Rw.mk v) := fun s1 k Q q =>
  we_of (pe_fld pe_we hb) (h s1 k _ fun u s2 k2 e1 => by
    cases (show u = V.ref p from e1)
    obtain ⟨dx, h1⟩ := r.ex (k.trans k2)
    exact ⟨p, _, dx, fs, v, rfl, h1, hc, hn, hl, q v s2 k2 rfl⟩)
theorem hu1 {j : Nat} (hr : Room j X.A) : X.A.units + 1 < cLine := by have := hu64 hr; omega
theorem dget_of {K : PySem.W.Frag} {k : κ} {xs : List (κ × α)} {w : V} (r : RepD K s p xs) (hw : w = toV k) : ∃ o, DGet s.H p w o ∧ match dval xs k with | none => o = none | some x => ∃ v, o = some v ∧ rep K s.F v x := by
  obtain ⟨kv, h1, h2⟩ := r
  refine ⟨valV kv (DKey.toK k), .inl ⟨kv, DKey.toK k, h1, by rw [hw, DKey.kv], rfl⟩, ?_⟩
  have := h2.val (k := k)
  cases hd : dval xs k with
  | none => rw [hd] at this; exact this
  | some x => rw [hd] at this; exact this
theorem ev_dget {j : Nat} {k : κ} {xs : List (κ × α)} {x : α} (hr : Room j X.A) (ho : Ev X o σ s (Rw.mk (.ref p))) (r : RepD X.K s p xs) (hi : Ev X i σ s k) (h : dval xs k = some x) (hs : NoSl i := by intro _ _; rfl) : Ev X (.Subscript o i pos) σ s x := fun s1 k1 Q q =>
  we_of (pe_dget (hu1 hr) pe_we pe_we hs) (ho s1 k1 _ fun v s2 k2 e2 => hi s2 (k1.trans k2) _ fun u s3 k3 e3 => by
    cases (show v = V.ref p from e2)
    obtain ⟨o', g1, g2⟩ := dget_of (r.ex ((k1.trans k2).trans k3)) (Flat.iff.mp e3)
    rw [h] at g2
    obtain ⟨w, rfl, g3⟩ := g2
    exact ⟨p, w, rfl, g1, q w s3 (k2.trans k3) g3⟩)
theorem dval_some {xs : List (κ × α)} {k : κ} {o : Option V} {K : PySem.W.Frag} {F : Hp} (g : match dval xs k with | none => o = none | some x => ∃ v, o = some v ∧ rep K F v x) : o.isSome = (dval xs k).isSome := by
  cases hd : dval xs k with
  | none => rw [hd] at g; rw [g]; rfl
  | some x => rw [hd] at g; obtain ⟨v, rfl, _⟩ := g; rfl
theorem ev_din {j : Nat} {k : κ} {xs : List (κ × α)} (hr : Room j X.A) (hi : Ev X i σ s k) (ho : Ev X o σ s (Rw.mk (.ref p))) (r : RepD X.K s p xs) (h1 : behindInMarks .In o = false := by rfl) : EvB X (.Compare i [.In] [o] pos) σ s (dval xs k).isSome :=
  ⟨fun s1 k1 Q q => we_of (pe_cmp (pc_din (hu1 hr) pe_we pe_we) h1) (hi s1 k1 _ fun u s2 k2 e2 => ho s2 (k1.trans k2) _ fun v s3 k3 e3 => by
    cases (show v = V.ref p from e3)
    obtain ⟨o', g1, g2⟩ := dget_of (r.ex ((k1.trans k2).trans k3)) ((Flat.iff.mp (e2 : rep _ _ u k)))
    exact ⟨p, o', rfl, g1, by rw [dval_some g2]; exact q _ s3 (k2.trans k3) rfl⟩),
   fun s1 k1 Q q => wt_of (pt_cmp (pc_din (hu1 hr) pe_we pe_we) h1) (hi s1 k1 _ fun u s2 k2 e2 => ho s2 (k1.trans k2) _ fun v s3 k3 e3 => by
    cases (show v = V.ref p from e3)
    obtain ⟨o', g1, g2⟩ := dget_of (r.ex ((k1.trans k2).trans k3)) ((Flat.iff.mp (e2 : rep _ _ u k)))
    exact ⟨p, o', rfl, g1, _, by rw [dval_some g2], q s3 (k2.trans k3)⟩)⟩
theorem ev_dnotIn {j : Nat} {k : κ} {xs : List (κ × α)} (hr : Room j X.A) (hi : Ev X i σ s k) (ho : Ev X o σ s (Rw.mk (.ref p))) (r : RepD X.K s p xs) (h1 : behindInMarks .NotIn o = false := by rfl) : EvB X (.Compare i [.NotIn] [o] pos) σ s (!(dval xs k).isSome) :=
  ⟨fun s1 k1 Q q => we_of (pe_cmp (pc_dnotin (hu1 hr) pe_we pe_we) h1) (hi s1 k1 _ fun u s2 k2 e2 => ho s2 (k1.trans k2) _ fun v s3 k3 e3 => by
    cases (show v = V.ref p from e3)
    obtain ⟨o', g1, g2⟩ := dget_of (r.ex ((k1.trans k2).trans k3)) ((Flat.iff.mp (e2 : rep _ _ u k)))
    exact ⟨p, o', rfl, g1, by rw [dval_some g2]; exact q _ s3 (k2.trans k3) rfl⟩),
   fun s1 k1 Q q => wt_of (pt_cmp (pc_dnotin (hu1 hr) pe_we pe_we) h1) (hi s1 k1 _ fun u s2 k2 e2 => ho s2 (k1.trans k2) _ fun v s3 k3 e3 => by
    cases (show v = V.ref p from e3)
    obtain ⟨o', g1, g2⟩ := dget_of (r.ex ((k1.trans k2).trans k3)) ((Flat.iff.mp (e2 : rep _ _ u k)))
    exact ⟨p, o', rfl, g1, _, by rw [dval_some g2], q s3 (k2.trans k3)⟩)⟩
theorem ev_dget1 {j : Nat} {k : κ} {xs : List (κ × α)} (hr : Room j X.A) (ho : Ev X o σ s (Rw.mk (.ref p))) (r : RepD X.K s p xs) (hi : Ev X i σ s k) (m : M1 X o "get" p1 i pos := by exact ⟨rfl, rfl, rfl, rfl⟩) : Ev X (.Call (.Attribute o "get" p1) [i] [] pos) σ s (dval xs k) := fun s1 k1 Q q =>
  we_of (pe_dget1 (hu1 hr) pe_we pe_we m) (ho s1 k1 _ fun v s2 k2 e2 => by
    cases (show v = V.ref p from e2)
    refine ⟨p, rfl, ?_, hi s2 (k1.trans k2) _ fun u s3 k3 e3 => ?_⟩
    · obtain ⟨kv, h1, _⟩ := r.ex (k1.trans k2)
      exact .inl ⟨kv, h1⟩
    · obtain ⟨o', g1, g2⟩ := dget_of (r.ex ((k1.trans k2).trans k3)) (Flat.iff.mp e3)
      refine ⟨o', g1, q _ s3 (k2.trans k3) ?_⟩
      cases hd : dval xs k with
      | none => rw [hd] at g2; rw [g2]; rfl
      | some x => rw [hd] at g2; obtain ⟨w, rfl, g3⟩ := g2; exact g3)
theorem ev_dlen {xs : List (κ × α)} (hm : X.mg "len" = none) (ho : Ev X o σ s (Rw.mk (.ref p))) (r : OwnD X.K s p xs) (hg : Gl X "len" := by rfl) (he : starEach [o] X.env = (false, eval o X.env) :: starEach [] X.env := by rfl) (hpl : (backTo pos (starEach [] X.env)).any (·.1) = false := by rfl) : Ev X (.Call (.Name "len" p0) [o] [] pos) σ s (xs.length : Int) := fun s1 k1 Q q =>
  we_of (pe_callB call_lenD hg hm boot_len (pa_cons pe_we pa_nil he) (he := he) (hpl := hpl)) (ho s1 k1 _ fun v s2 k2 e2 => by
    cases (show v = V.ref p from e2)
    obtain ⟨_, kv, h1, h2⟩ := r.ex (k1.trans k2)
    exact ⟨p, kv, rfl, h1, q _ s2 k2 (by rw [h2.len]; rfl)⟩)
theorem en_dlist {xs : List (κ × α)} (hm : X.mg "list" = none) (ho : Ev X o σ s (Rw.mk (.ref p))) (r : OwnD X.K s p xs) (hc : X.calm = true := by rfl) (hg : Gl X "list" := by rfl) (he : starEach [o] X.env = (false, eval o X.env) :: starEach [] X.env := by rfl) (hpl : (backTo pos (starEach [] X.env)).any (·.1) = false := by rfl) : EvN X (.Call (.Name "list" p0) [o] [] pos) σ s (xs.map (·.1)) := fun s1 k1 Q q =>
  we_of (pe_callTy (call_list_dK hc) hg hm (by decide +kernel) (pa_cons pe_we pa_nil he) (he := he) (hpl := hpl)) (ho s1 k1 _ fun v s2 k2 e2 => by
    cases (show v = V.ref p from e2)
    obtain ⟨_, kv, h1, h2⟩ := r.ex (k1.trans k2)
    exact ⟨p, kv, rfl, h1, fun l hl => q l (s2.newO l _ hl) (k2.trans (Ex.newO hl)) (fr_back k2 hl) (own_new hl h2.keys)⟩)
def EvND (X : Cx) (e : Expr) (σ : L2.St) (s : S) (xs : List (κ × α)) : Prop := ∀ s1, Ex s s1 → ∀ Q : VK, (∀ p s2, Ex s1 s2 → s1.H p = none → OwnD X.K s2 p xs → Q (.ref p) s2.H) → WE X e σ s1.H Q
theorem en_dnew : EvND X (.Dict [] [] pos) σ s ([] : List (κ × α)) := fun s1 k1 Q q => we_of pe_dnewK fun p hp => q p (s1.newO p (.dK []) hp) (Ex.newO hp) hp ⟨(fF hp : s1.F p = none), [], upd_same, trivial⟩
theorem do_setD (i : Nat) {xs : List (κ × α)} {n : Str} {py : Pos} (h : EvND X e σ s xs) (k : ∀ p s1, Ex s s1 → s.H p = none → OwnD X.K s1 p xs → WSs X rest D (σ.set i (some (.ref p))) s1.H) (hN : X.N.Nodup) (hx : Loc X.env.scope n := by first | exact Or.inl rfl | exact Or.inr rfl) (hi : X.N[i]? = some n := by rfl)
    (hs : swapsWith e (some (.Name n py)) pos.line X.env = pure false := by rfl) (hf : X.fn n = true ∨ X.env.scope.names.lookup n = some .local := by first | exact .inl rfl | exact .inr rfl) : WSs X (.Assign [.Name n py] e pos :: rest) D σ s.H :=
  do_cons (ps_set hN hi hx pe_we hs hf) (h s (Ex.refl _) _ fun v s1 k1 n1 r => k v s1 k1 n1 r)
theorem do_dput {j : Nat} {k : κ} {xs : List (κ × α)} {y : α} (hr : Room j X.A) (ho : Ev X o σ s (Rw.mk (.ref p))) (r : OwnD X.K s p xs) (hv : Ev X e σ s y) (hi : Ev X i σ s k) (hz : xs.length < sizeLine) (kk : ∀ s1, Mx (· = p) s s1 → OwnD X.K s1 p (dput xs k y) → WSs X rest D σ s1.H)
    (hs : swapsWith e (some (.Subscript o i p1)) pos.line X.env = pure false := by rfl) : WSs X (.Assign [.Subscript o i p1] e pos :: rest) D σ s.H :=
  do_cons (ps_dput (hu1 hr) pe_we pe_we pe_we hs) (hv s (Ex.refl _) _ fun v s1 k1 e1 => ho s1 k1 _ fun u s2 k2 e2 => hi s2 (k1.trans k2) _ fun w s3 k3 e3 => by
    cases (show u = V.ref p from e2)
    have kx := (k1.trans k2).trans k3
    obtain ⟨f0, kv, h1, h2⟩ := r.ex kx
    refine ⟨p, _, rfl, .inl ⟨kv, DKey.toK k, h1, by rw [Flat.iff.mp e3, DKey.kv], by rw [h2.len]; exact hz, rfl⟩, ?_⟩
    exact kk (s3.put p (.dK (putK kv (DKey.toK k) v)) f0) (kx.mx.trans (Mx.put f0)) ⟨f0, _, upd_same, h2.put (Enc.mono (k2.trans k3).f e1)⟩)
theorem do_dpop1 {k : κ} {xs : List (κ × α)} {x : α} (ho : Ev X o σ s (Rw.mk (.ref p))) (r : OwnD X.K s p xs) (hi : Ev X i σ s k) (h : dval xs k = some x) (kk : ∀ s1, Mx (· = p) s s1 → OwnD X.K s1 p (ddrop xs k) → WSs X rest D σ s1.H)
    (m : M1 X o "pop" p1 i p2 := by exact ⟨rfl, rfl, rfl, rfl⟩) (hs : swapsWith (.Call (.Attribute o "pop" p1) [i] [] p2) none pos.line X.env = pure false := by rfl) : WSs X (.Expr (.Call (.Attribute o "pop" p1) [i] [] p2) pos :: rest) D σ s.H :=
  do_cons (ps_expr (pe_dpop1 pe_we pe_we m) hs) (ho s (Ex.refl _) _ fun u s1 k1 e1 => by
    cases (show u = V.ref p from e1)
    refine ⟨p, rfl, ?_, hi s1 k1 _ fun w s2 k2 e2 => ?_⟩
    · obtain ⟨_, kv, h1, _⟩ := r.ex k1
      exact .inl ⟨kv, .inl h1⟩
    · have kx := k1.trans k2
      obtain ⟨f0, kv, h1, h2⟩ := r.ex kx
      have := h2.val (k := k)
      rw [h] at this
      obtain ⟨v, hv, _⟩ := this
      exact ⟨kv, DKey.toK k, v, h1, by rw [Flat.iff.mp e2, DKey.kv], hv, kk (s2.put p (.dK (dropK kv (DKey.toK k))) f0) (kx.mx.trans (Mx.put f0)) ⟨f0, _, upd_same, h2.drop⟩⟩)
theorem ddrop_none {xs : List (κ × α)} {k : κ} (h : dval xs k = none) : ddrop xs k = xs := by
  unfold ddrop
  rw [List.filter_eq_self]
  intro z hz
  unfold dval at h
  rw [Option.map_eq_none_iff, List.find?_eq_none] at h
  have := h z hz
  simpa using this
theorem do_dpop2 {k : κ} {xs : List (κ × α)} {z : β} (ho : Ev X o σ s (Rw.mk (.ref p))) (r : OwnD X.K s p xs) (hi : Ev X i σ s k) (he : Ev X e σ s z) (kk : ∀ s1, Mx (· = p) s s1 → OwnD X.K s1 p (ddrop xs k) → WSs X rest D σ s1.H)
    (m : M2 X o "pop" p1 i e p2 := by exact ⟨rfl, rfl, rfl, rfl⟩) (hs : swapsWith (.Call (.Attribute o "pop" p1) [i, e] [] p2) none pos.line X.env = pure false := by rfl) : WSs X (.Expr (.Call (.Attribute o "pop" p1) [i, e] [] p2) pos :: rest) D σ s.H :=
  do_cons (ps_expr (pe_dpop2 pe_we pe_we pe_we m) hs) (ho s (Ex.refl _) _ fun u s1 k1 e1 => by
    cases (show u = V.ref p from e1)
    refine ⟨p, rfl, ?_, hi s1 k1 _ fun w s2 k2 e2 => he s2 (k1.trans k2) _ fun y s3 k3 e3 => ?_⟩
    · obtain ⟨_, kv, h1, _⟩ := r.ex k1
      exact .inl ⟨kv, .inl h1⟩
    · have kx := (k1.trans k2).trans k3
      obtain ⟨f0, kv, h1, h2⟩ := r.ex kx
      have hval := h2.val (k := k)
      refine ⟨kv, DKey.toK k, h1, by rw [Flat.iff.mp (e2 : rep _ _ w k), DKey.kv], fun v hv => ?_, fun hn => ?_⟩
      · exact kk (s3.put p (.dK (dropK kv (DKey.toK k))) f0) (kx.mx.trans (Mx.put f0)) ⟨f0, _, upd_same, h2.drop⟩
      · have hd : dval xs k = none := by
          cases hd : dval xs k with
          | none => rfl
          | some x => rw [hd] at hval; obtain ⟨v, hv, _⟩ := hval; rw [hv] at hn; cases hn
        exact kk s3 kx.mx (by rw [ddrop_none hd]; exact ⟨f0, kv, h1, h2⟩))


end
end Dy

namespace Dy
open PySem PySem.Spec L2
open PyProof.Rows hiding St
open Enc (rep)
open Flat (toV)
open EncA (repA)

section
variable {α β γ κ τ υ ρ : Type} [Enc α] [Enc β] [Enc γ] [Enc τ] [DKey κ] [DecidableEq κ] {X : Cx} {σ : L2.St} {P0 : Addr → Prop} {s0 s t : S} {L : List OA} {e a b c o i tg iter elt : Expr} {ifs : List Expr} {scope : Scope} {own : List (Str × Nat)} {es : List Expr} {pos p0 p1 p2 p3 : Pos} {D : Ends} {rest body : List Stmt} {n : Str} {p : Addr}
structure WalkG (K : PySem.W.Frag) (G : S → Prop) (J : It) (xs : List α) : Prop where
  go : ∀ (i : Nat) (t : S) (x : α), G t → xs[i]? = some x → J.go i t.H ∧ ∀ v H', J.yld i t.H v H' → ∃ t' : S, t'.H = H' ∧ Ex t t' ∧ rep K t'.F v x
  stop : ∀ (i : Nat) (t : S), G t → xs.length ≤ i → J.stop i t.H
def EvIG (X : Cx) (tg e : Expr) (σ : L2.St) (s : S) (G : S → Prop) (xs : List α) : Prop := ∀ s1, Ex s s1 → ∀ R : It → Hp → Prop, (∀ J s2, Ex s1 s2 → WalkG X.K G J xs → R J s2.H) → WI X tg e σ s1.H R
def GL (K : PySem.W.Frag) (p : Addr) (xs : List α) : S → Prop := fun t => RepR K t (.ref p) xs
def GD (K : PySem.W.Frag) (p : Addr) (o : Obj) (kv : List (Key × V)) (xs : List (κ × α)) : S → Prop := fun t => t.H p = some (.frz o (.dK kv)) ∧ KReps K t.F kv xs
theorem GL.ex {K : PySem.W.Frag} {xs : List α} (h : GL K p xs s) (e : Ex s t) : GL K p xs t := RepR.ex h e
theorem GD.ex {K : PySem.W.Frag} {o : Obj} {kv : List (Key × V)} {xs : List (κ × α)} (h : GD K p o kv xs s) (e : Ex s t) : GD K p o kv xs t := ⟨e.h _ _ h.1, h.2.mono e.f⟩
theorem ei_rawL {xs : List α} (h : Ev X e σ s (Rw.mk (.ref p))) (r : RepR X.K s (.ref p) xs) : EvIG X tg e σ s (GL X.K p xs) xs := fun s1 k R q =>
  wi_of (pi_list pe_we) (h s1 k _ fun v s2 k2 e2 => by
    cases (show v = V.ref p from e2)
    have w : WalkG X.K (GL X.K p xs) (Itl X.K p) xs := ⟨fun i t x ⟨a, vs, e, h1, h2⟩ hx => by
      cases e
      obtain ⟨v, h3, h4⟩ := h2.get hx
      refine ⟨⟨vs, v, h1, h3⟩, fun w H' ⟨e1, hy⟩ => ⟨t, e1.symm, Ex.refl _, ?_⟩⟩
      have := hy vs h1
      rw [h3] at this
      cases this
      exact h4, fun i t ⟨a, vs, e, h1, h2⟩ hi => by
      cases e
      exact ⟨vs, h1, by rw [h2.len]; exact hi⟩⟩
    obtain ⟨a, vs, e, h1, h2⟩ := r.ex (k.trans k2)
    cases e
    exact ⟨p, rfl, ⟨vs, h1⟩, q _ s2 k2 w⟩)
theorem ei_keys {ob : Obj} {kv : List (Key × V)} {xs : List (κ × α)} (h : Ev X e σ s (Rw.mk (.ref p))) (r : GD X.K p ob kv xs s) : EvIG X tg e σ s (GD X.K p ob kv xs) (xs.map (·.1)) := fun s1 k R q =>
  wi_of (pi_keys pe_we) (h s1 k _ fun v s2 k2 e2 => by
    cases (show v = V.ref p from e2)
    exact ⟨p, ob, rfl, .inl ⟨kv, (GD.ex r (k.trans k2)).1, q _ s2 k2 ⟨fun i t x g hx => by
      rw [List.getElem?_map] at hx
      obtain ⟨z, h1, h2⟩ := Option.map_eq_some_iff.mp hx
      obtain ⟨w, h3, h4⟩ := g.2.get h1
      refine ⟨⟨g.1, (List.getElem?_eq_some_iff.mp h3).1⟩, fun y H' ⟨e1, k', v', h5, h6⟩ => ⟨t, e1.symm, Ex.refl _, ?_⟩⟩
      rw [h3] at h5
      cases h5
      rw [h6, ← h2]
      exact Flat.iff.mpr (DKey.kv _), fun i t g hi => ⟨g.1, by rw [g.2.len]; rw [List.length_map] at hi; exact hi⟩⟩⟩⟩)
theorem ei_vals {ob : Obj} {kv : List (Key × V)} {xs : List (κ × α)} (h : Ev X e σ s (Rw.mk (.ref p))) (r : GD X.K p ob kv xs s) (hbase : attributeBase e "values" X.env (eval e X.env) = eval e X.env := by rfl) (hline : (p1.endLine == pos.line) = true := by rfl) : EvIG X tg (.Call (.Attribute e "values" p1) [] [] pos) σ s (GD X.K p ob kv xs) (xs.map (·.2)) := fun s1 k R q =>
  wi_of (pi_values pe_we hbase hline) (h s1 k _ fun v s2 k2 e2 => by
    cases (show v = V.ref p from e2)
    exact ⟨p, ob, kv, rfl, (GD.ex r (k.trans k2)).1, q _ s2 k2 ⟨fun i t x g hx => by
      rw [List.getElem?_map] at hx
      obtain ⟨z, h1, h2⟩ := Option.map_eq_some_iff.mp hx
      obtain ⟨w, h3, h4⟩ := g.2.get h1
      refine ⟨⟨g.1, (List.getElem?_eq_some_iff.mp h3).1⟩, fun y H' ⟨e1, k', h5⟩ => ⟨t, e1.symm, Ex.refl _, ?_⟩⟩
      rw [h3] at h5
      cases h5
      rw [← h2]
      exact h4, fun i t g hi => ⟨g.1, by rw [g.2.len]; rw [List.length_map] at hi; exact hi⟩⟩⟩)
theorem ei_items {elts : List Expr} {kk : Nat} {tpos : Pos} {ob : Obj} {kv : List (Key × V)} {xs : List (κ × α)} (h : Ev X e σ s (Rw.mk (.ref p))) (r : GD X.K p ob kv xs s) (hbase : attributeBase e "items" X.env (eval e X.env) = eval e X.env := by rfl) (hline : (p1.endLine == pos.line) = true := by rfl) : EvIG X (.Tuple elts kk tpos) (.Call (.Attribute e "items" p1) [] [] pos) σ s (GD X.K p ob kv xs) xs := fun s1 k R q =>
  wi_of (pi_items pe_we hbase hline) (h s1 k _ fun v s2 k2 e2 => by
    cases (show v = V.ref p from e2)
    exact ⟨p, ob, kv, rfl, (GD.ex r (k.trans k2)).1, q _ s2 k2 ⟨fun i t z g h1 => by
      obtain ⟨w, h3, h4⟩ := g.2.get h1
      refine ⟨⟨g.1, (List.getElem?_eq_some_iff.mp h3).1⟩, fun y H' ⟨T, k', v', h5, h6, h7, h8⟩ => ⟨t.newF T (.tup [kV k', v']) h7, h8.symm, Ex.newF h7, ?_⟩⟩
      rw [h3] at h5
      cases h5
      rw [h6]
      exact ⟨T, _, _, rfl, tup_new h7, Flat.iff.mpr (DKey.kv _), Enc.mono (Ex.newF h7).f h4⟩, fun i t g hi => ⟨g.1, by rw [g.2.len]; exact hi⟩⟩⟩)
theorem for_read {xs : List τ} {g : TG} {B : Hp → τ → St → St → Prop} {G : S → Prop} (hi : EvIG X tg iter σ s G xs) (T : Tgt (α := τ) X.K g B)
    (R : Nat → St → S → Prop) (hG : ∀ i σ' t, R i σ' t → G t) (h0 : ∀ s1, Ex s s1 → R 0 σ s1)
    (hb : ∀ (i : Nat) (x : τ) (σ' σ2 : St) (t t' : S), xs[i]? = some x → R i σ' t → Ex t t' → B t'.F x σ' σ2 → WSs X body (LD D fun σ s => R (i + 1) σ s) σ2 t'.H)
    (hd : ∀ σ' t, R xs.length σ' t → D.nx σ' t.H) : tFor (WI X tg iter) g (WSs X body) D σ s.H :=
  hi s (Ex.refl _) _ fun J s1 k1 W => by
    refine ⟨fun i m σ' H' => ∃ t : S, t.H = H' ∧ m = xs.length - i ∧ i ≤ xs.length ∧ R i σ' t, ⟨xs.length, s1, rfl, rfl, Nat.zero_le _, h0 s1 k1⟩, ?_⟩
    rintro i m σ' H' ⟨t, rfl, rfl, hle, r⟩
    by_cases hlt : i < xs.length
    · right
      obtain ⟨g1, g2⟩ := W.go i t xs[i] (hG i σ' t r) (List.getElem?_eq_getElem hlt)
      refine ⟨g1, fun σ' H' => ∃ u : S, u.H = H' ∧ R (i + 1) σ' u, fun σ' H' ⟨u, e1, r1⟩ => ⟨xs.length - (i + 1), by omega, u, e1, rfl, hlt, r1⟩, fun v H' hy => ?_⟩
      obtain ⟨t', rfl, kt, rv⟩ := g2 v H' hy
      refine T.run t' v xs[i] _ _ rv fun σ2 hB => ?_
      exact (hb i xs[i] σ' σ2 t t' (List.getElem?_eq_getElem hlt) r kt hB).imp (fun σ3 H3 ⟨u, e1, r1⟩ => ⟨u, e1, r1⟩) (fun _ _ q => q) (fun _ _ q => q.elim) (fun _ _ q => q.elim)
    · left
      have e : i = xs.length := by omega
      subst e
      exact ⟨W.stop _ t (hG _ σ' t r) (Nat.le_refl _), hd σ' t r⟩
theorem for_readO {xs : List τ} {f : υ → τ → Option υ} {b0 b1 : υ} {g : TG} {B : Hp → τ → St → St → Prop} {G : S → Prop} (hi : EvIG X tg iter σ s G xs) (T : Tgt (α := τ) X.K g B) (hf : foldO f b0 xs = some b1)
    (R : υ → St → S → Prop) (hG : ∀ b σ' t, R b σ' t → G t) (h0 : ∀ s1, Ex s s1 → R b0 σ s1)
    (hb : ∀ (x : τ) (b b' : υ) (σ' σ2 : St) (t t' : S), x ∈ xs → f b x = some b' → R b σ' t → Ex t t' → B t'.F x σ' σ2 → WSs X body (LD D fun σ s => R b' σ s) σ2 t'.H)
    (hd : ∀ σ' t, R b1 σ' t → D.nx σ' t.H) : tFor (WI X tg iter) g (WSs X body) D σ s.H :=
  for_read hi T (fun i σ' t => ∃ b, foldO f b (xs.drop i) = some b1 ∧ R b σ' t) (fun i σ' t ⟨b, _, r⟩ => hG b σ' t r) (fun s1 k => ⟨b0, hf, h0 s1 k⟩)
    (fun i x σ' σ2 t t' hx ⟨b, h1, h2⟩ kt hB => by
      obtain ⟨hlt, rfl⟩ := List.getElem?_eq_some_iff.mp hx
      obtain ⟨b', h3, h4⟩ := foldO_drop hlt h1
      exact (hb xs[i] b b' σ' σ2 t t' (List.getElem_mem hlt) h3 h2 kt hB).imp (fun σ3 H3 ⟨u, e1, r1⟩ => ⟨u, e1, b', h4, r1⟩) (fun _ _ q => q) (fun _ _ q => q.elim) (fun _ _ q => q.elim))
    (fun σ' t ⟨b, h1, h2⟩ => by
      rw [List.drop_length] at h1
      cases h1
      exact hd σ' t h2)
theorem for_readF {xs : List τ} {f : υ → τ → Option (Fl υ ρ)} {b0 : υ} {o : Fl υ ρ} {g : TG} {B : Hp → τ → St → St → Prop} {G : S → Prop} (hi : EvIG X tg iter σ s G xs) (T : Tgt (α := τ) X.K g B) (hf : foldF f b0 xs = some o)
    (R : υ → St → S → Prop) (hG : ∀ b σ' t, R b σ' t → G t) (h0 : ∀ s1, Ex s s1 → R b0 σ s1)
    (hb : ∀ (x : τ) (b : υ) (q : Fl υ ρ) (σ' σ2 : St) (t t' : S), x ∈ xs → f b x = some q → (∀ r, q = .rt r → o = .rt r) → R b σ' t → Ex t t' → B t'.F x σ' σ2 → WSs X body (LD D fun σ s => ∃ b', q = .nx b' ∧ R b' σ s) σ2 t'.H)
    (hd : ∀ b1 σ' t, o = .nx b1 → R b1 σ' t → D.nx σ' t.H) : tFor (WI X tg iter) g (WSs X body) D σ s.H :=
  for_read hi T (fun i σ' t => ∃ b, foldF f b (xs.drop i) = some o ∧ R b σ' t) (fun i σ' t ⟨b, _, r⟩ => hG b σ' t r) (fun s1 k => ⟨b0, hf, h0 s1 k⟩)
    (fun i x σ' σ2 t t' hx ⟨b, h1, h2⟩ kt hB => by
      obtain ⟨hlt, rfl⟩ := List.getElem?_eq_some_iff.mp hx
      obtain ⟨q, h3, h4, h5⟩ := foldF_drop hlt h1
      exact (hb xs[i] b q σ' σ2 t t' (List.getElem_mem hlt) h3 h5 h2 kt hB).imp (fun σ3 H3 ⟨u, e1, b', e2, r1⟩ => ⟨u, e1, b', h4 b' e2, r1⟩) (fun _ _ q => q) (fun _ _ q => q.elim) (fun _ _ q => q.elim))
    (fun σ' t ⟨b, h1, h2⟩ => by
      rw [List.drop_length] at h1
      cases h1
      exact hd b σ' t rfl h2)
theorem do_forG {g : TG} (hp : PassesOwn (model X.prog X.w) X.A X.env X.xe) (hc : X.calm = true) (hg : PG X tg g) (h : tFor (WI X tg iter) g (WSs X body) { D with nx := fun σ' H' => WSs X rest D σ' H' } σ s.H)
    (hs : ∀ x, foldedSetIterable iter X.env x = pure x := by intro _; rfl) : WSs X (.For tg iter body [] pos :: rest) D σ s.H :=
  do_cons (ps_for hp hc pi_wi hg pss_ws hs) h
abbrev LK (D : Ends) (rest : List Stmt) (X : Cx) (p : Addr) (ob : Obj) (kv : List (Key × V)) : Ends :=
  ⟨fun σ' H' => H' p = some (.frz ob (.dK kv)) ∧ WSs X rest D σ' (upd H' p (.dK kv)), fun v H' => H' p = some (.frz ob (.dK kv)) ∧ D.rt v (upd H' p (.dK kv)), fun σ' H' => H' p = some (.frz ob (.dK kv)) ∧ D.bk σ' (upd H' p (.dK kv)), fun σ' H' => H' p = some (.frz ob (.dK kv)) ∧ D.ct σ' (upd H' p (.dK kv))⟩
theorem do_forD {g : TG} {xs : List (κ × α)} (iv : Iv X.K P0 s0 s L) (i : Nat) (hA : L[i]? = some (Dy.od p xs)) (hp : PassesOwn (model X.prog X.w) X.A X.env X.xe) (hc : X.calm = true) (hg : PG X tg g)
    (h : ∀ (ob : Obj) (kv : List (Key × V)) (s1 : S), Fle s.F s1.F → Iv X.K P0 s0 s1 (L.set i (Dy.odl p ob kv xs)) → tFor (WI X tg iter) g (WSs X body) (LK D rest X p ob kv) σ s1.H)
    (hs : ∀ x, foldedSetIterable iter X.env x = pure x := by intro _; rfl) : WSs X (.For tg iter body [] pos :: rest) D σ s.H :=
  do_cons (ps_lock (ps_for hp hc pi_wi hg pss_ws hs)) (by
    obtain ⟨hf, kv, h1, h2⟩ := iv.od i hA
    exact ⟨p, .dK kv, h1, trivial, fun ob => h ob kv (s.put p (.frz ob (.dK kv)) hf) (Fle.refl _) (iv.lock i ob hA hf h1 h2)⟩)
theorem lk_nx {xs : List (κ × α)} {ob : Obj} {kv : List (Key × V)} (iv : Iv X.K P0 s0 s L) (i : Nat) (hA : L[i]? = some (Dy.odl p ob kv xs)) (k : ∀ s1, s1.F = s.F → Iv X.K P0 s0 s1 (L.set i (Dy.od p xs)) → WSs X rest D σ s1.H) : (LK D rest X p ob kv).nx σ s.H := by
  obtain ⟨s', e1, e2, iv'⟩ := iv.unlock i hA
  have := k s' e2 iv'
  rw [e1] at this
  exact ⟨(iv.odl i hA).2.1, this⟩
theorem lk_rt {xs : List (κ × α)} {ob : Obj} {kv : List (Key × V)} {v : V} (iv : Iv X.K P0 s0 s L) (i : Nat) (hA : L[i]? = some (Dy.odl p ob kv xs)) (k : ∀ s1, s1.F = s.F → Iv X.K P0 s0 s1 (L.set i (Dy.od p xs)) → D.rt v s1.H) : (LK D rest X p ob kv).rt v s.H := by
  obtain ⟨s', e1, e2, iv'⟩ := iv.unlock i hA
  have := k s' e2 iv'
  rw [e1] at this
  exact ⟨(iv.odl i hA).2.1, this⟩
theorem lk_ex {kv : List (Key × V)} {ob : Obj} {s1 : S} (hf : s.F p = none) (h1 : s.H p = some (.dK kv)) (k : Ex s s1) : ∃ (hf1 : s1.F p = none), Ex (s.put p (.frz ob (.dK kv)) hf) (s1.put p (.frz ob (.dK kv)) hf1) := by
  refine ⟨k.n _ _ h1 hf, k.f, fun a o q => ?_, fun a o q n => ?_⟩
  · by_cases e : a = p
    · subst e
      have q : upd s.H a (.frz ob (.dK kv)) a = some o := q
      rw [upd_same] at q
      show upd s1.H a _ a = _
      rw [upd_same]; exact q
    · have q : upd s.H p (.frz ob (.dK kv)) a = some o := q
      rw [upd_ne e] at q
      show upd s1.H p _ a = _
      rw [upd_ne e]; exact k.h _ _ q
  · by_cases e : a = p
    · subst e; exact k.n _ _ h1 hf
    · have q : upd s.H p (.frz ob (.dK kv)) a = some o := q
      rw [upd_ne e] at q
      exact k.n _ _ q n
theorem lk_back {kv : List (Key × V)} {ob : Obj} {s1 s2 : S} (hf : s1.F p = none) (h1 : s1.H p = some (.dK kv)) (k : Ex (s1.put p (.frz ob (.dK kv)) hf) s2) : ∃ (hf2 : s2.F p = none), s2.H p = some (.frz ob (.dK kv)) ∧ Ex s1 (s2.put p (.dK kv) hf2) := by
  have hf2 : s2.F p = none := k.n p _ (show upd s1.H p _ p = _ from upd_same) hf
  refine ⟨hf2, k.h p _ (show upd s1.H p _ p = _ from upd_same), k.f, fun a o q => ?_, fun a o q n => ?_⟩
  · by_cases e : a = p
    · subst e
      rw [h1] at q
      cases q
      exact upd_same
    · show upd s2.H p _ a = _
      rw [upd_ne e]
      exact k.h _ _ (show upd s1.H p _ a = _ by rw [upd_ne e]; exact q)
  · by_cases e : a = p
    · subst e; exact hf2
    · exact k.n a o (show upd s1.H p _ a = _ by rw [upd_ne e]; exact q) n
theorem en_lock {ys : List β} {xs : List (κ × α)} (r : OwnD X.K s p xs) (h : ∀ (ob : Obj) (kv : List (Key × V)) (s1 : S), s1.F = s.F → (∀ a o, s.H a = some o → a ≠ p → s1.H a = some o) → GD X.K p ob kv xs s1 → (∀ hf, s1 = s.put p (.frz ob (.dK kv)) hf → EvN X e σ s1 ys)) : EvN X e σ s ys := fun s1 k Q q => by
  obtain ⟨hf, kv, h1, h2⟩ := r
  refine we_of (pe_lock pe_we) ⟨p, .dK kv, k.h _ _ h1, trivial, fun ob => ?_⟩
  obtain ⟨hf1, kx⟩ := lk_ex (ob := ob) hf h1 k
  have := h ob kv (s.put p (.frz ob (.dK kv)) hf) rfl (fun a o q n => (upd_ne n).trans q) ⟨upd_same, h2⟩ hf rfl
  refine this _ kx _ fun p2 s2 k2 n2 o2 => ?_
  obtain ⟨hf2, g1, k3⟩ := lk_back hf1 (k.h _ _ h1) k2
  refine ⟨g1, ?_⟩
  have ne : p2 ≠ p := fun z => by
    have : upd s1.H p (.frz ob (.dK kv)) p2 = none := n2
    rw [z, upd_same] at this; cases this
  have n2' : s1.H p2 = none := by
    have : upd s1.H p (.frz ob (.dK kv)) p2 = none := n2
    rw [upd_ne ne] at this; exact this
  obtain ⟨o1, vs, o3, o4⟩ := o2
  exact q p2 (s2.put p (.dK kv) hf2) k3 n2' ⟨o1, vs, (upd_ne ne).trans o3, o4⟩
theorem comp_readG {xs : List α} {ys : List β} {t : α → Option Bool} {f : α → Option β} {g : TG} {B : Hp → α → St → St → Prop} {tt : TT} {G : S → Prop} (hGx : ∀ s1 s2, Ex s1 s2 → G s1 → G s2) (hG0 : G s) (hi : EvIG X tg iter σ s G xs)
    (T : Tgt (α := α) X.K g B) (hf : compO t f xs = some ys) (hz : ys.length ≤ sizeLine)
    (hw : ∀ (F : Hp) (x : α) σ2, B F x (wipe σ (own.map (·.2))) σ2 → wipe σ2 (own.map (·.2)) = wipe σ (own.map (·.2)))
    (ht : ∀ (x : α) (b : Bool) (s1 : S) (σ2 : St) (Q : Bool → Hp → Prop), x ∈ xs → Ex s s1 → B s1.F x (wipe σ (own.map (·.2))) σ2 → t x = some b → (∀ s2, Ex s1 s2 → Q b s2.H) → tt σ2 s1.H Q)
    (he : ∀ (x : α) (y : β) (s1 : S) (σ2 : St), x ∈ xs → Ex s s1 → B s1.F x (wipe σ (own.map (·.2))) σ2 → t x = some true → f x = some y → ∀ s0 H0 C cl fp, Ev (Blk X scope s0 H0 C cl fp) elt σ2 s1 y)
    (s1 : S) (k : Ex s s1) (Q : VK) (q : ∀ p s2, Ex s1 s2 → s1.H p = none → Own X.K s2 p ys → Q (.ref p) s2.H) : tLc (WI X tg iter) g tt (fun σ H Q => ∀ s0 H0 C cl fp, WE (Blk X scope s0 H0 C cl fp) elt σ H Q) (own.map (·.2)) σ s1.H Q := by
  refine hi s1 k _ fun J s2 k2 W => ?_
  intro D hD
  have hgG : ∀ u, Ex s2 u → G u := fun u ku => hGx _ _ ((k.trans k2).trans ku) hG0
  refine ⟨fun i m H => ∃ (u : S) (pre : List β) (vs : List V), u.H = H ∧ m = xs.length - i ∧ Ex s2 u ∧ u.F D = none ∧ u.H D = some (.lst vs) ∧ Reps X.K u.F vs pre ∧ (∃ suf, compO t f (xs.drop i) = some suf ∧ pre ++ suf = ys), ⟨xs.length, s2.newO D (.lst []) hD, [], [], rfl, rfl, Ex.newO hD, (fF hD : s2.F D = none), upd_same, trivial, ys, by rw [List.drop_zero]; exact hf, rfl⟩, ?_⟩
  rintro i m H ⟨u, pre, vs, rfl, rfl, ku, n1, n2, n3, suf, h1, h2⟩
  by_cases hi' : i < xs.length
  · right
    have hx : xs[i]? = some xs[i] := List.getElem?_eq_getElem hi'
    obtain ⟨g1, g2⟩ := W.go i u xs[i] (hgG u ku) hx
    refine ⟨g1, fun H' => ∃ m', m' < xs.length - i ∧ ∃ (u : S) (pre : List β) (vs : List V), u.H = H' ∧ m' = xs.length - (i + 1) ∧ Ex s2 u ∧ u.F D = none ∧ u.H D = some (.lst vs) ∧ Reps X.K u.F vs pre ∧ (∃ suf, compO t f (xs.drop (i + 1)) = some suf ∧ pre ++ suf = ys), fun H' z => z, fun v H' hy => ?_⟩
    obtain ⟨u', rfl, ku', rv⟩ := g2 v H' hy
    refine T.run u' v xs[i] _ _ rv fun σ2 hB => ⟨hw _ _ _ hB, ?_⟩
    rw [List.drop_eq_getElem_cons hi'] at h1
    unfold compO at h1
    cases hb : t xs[i] with
    | none => rw [hb] at h1; cases h1
    | some b =>
      rw [hb, Option.bind_some] at h1
      have mem : xs[i] ∈ xs := List.getElem_mem hi'
      have base : Ex s u' := (k.trans k2).trans (ku.trans ku')
      refine ht xs[i] b u' σ2 _ mem base hB hb fun u3 k3 => ?_
      have hlt : xs.length - (i + 1) < xs.length - i := by omega
      have kk : Ex u u3 := ku'.trans k3
      cases b with
      | false =>
        rw [if_neg Bool.false_ne_true] at h1 ⊢
        exact ⟨_, hlt, u3, pre, vs, rfl, rfl, ku.trans kk, kk.n _ _ n2 n1, kk.h _ _ n2, n3.mono kk.f, suf, h1, h2⟩
      | true =>
        rw [if_pos rfl] at h1 ⊢
        cases hfx : f xs[i] with
        | none => rw [hfx] at h1; cases h1
        | some y =>
          rw [hfx, Option.bind_some] at h1
          cases hr : compO t f (xs.drop (i + 1)) with
          | none => rw [hr] at h1; cases h1
          | some suf' =>
            rw [hr] at h1
            cases h1
            intro s0 H0 C cl fp
            refine he xs[i] y u' σ2 mem base hB hb hfx s0 H0 C cl fp u3 k3 _ fun w u4 k4 r4 => ?_
            have k5 : Ex u u4 := kk.trans k4
            have hD4 : u4.H D = some (.lst vs) := k5.h _ _ n2
            have hF4 : u4.F D = none := k5.n _ _ n2 n1
            have hlen : vs.length < sizeLine := by
              have e1 := n3.len
              have e2 : ys.length = pre.length + (suf'.length + 1) := by rw [← h2, List.length_append, List.length_cons]
              omega
            refine ⟨vs, hD4, hlen, _, hlt, u4.put D (.lst (vs ++ [w])) hF4, pre ++ [y], vs ++ [w], rfl, rfl, (ku.trans k5).mu1 (Mx.put hF4) hD, hF4, upd_same, (n3.mono k5.f).snoc r4, suf', rfl, by rw [List.append_assoc]; exact h2⟩
  · left
    have hd : xs.drop i = [] := List.drop_eq_nil_of_le (by omega)
    rw [hd] at h1
    cases h1
    refine ⟨W.stop i u (hgG u ku) (by omega), q D u (k2.trans ku) (fr_back k2 hD) ⟨n1, vs, n2, ?_⟩⟩
    rw [← h2, List.append_nil]
    exact n3
theorem en_comp0G {xs : List α} {ys : List β} {f : α → Option β} {j : Nat} {n : Str} {py : Pos} {G : S → Prop} (hGx : ∀ s1 s2, Ex s1 s2 → G s1 → G s2) (hG0 : G s) (hc : X.calm = true) (hN : X.N.Nodup) (hi : EvIG X (.Name n py) iter σ s G xs) (ok : BlkOk X.N X.env.scope scope own) (hj : X.N[j]? = some n)
    (hjo : j ∈ own.map (·.2)) (hg : ∀ s0 H0 C cl fp, PG (Blk X scope s0 H0 C cl fp) (.Name n py) (gName j)) (hf : mapO f xs = some ys) (hz : ys.length ≤ sizeLine)
    (he : ∀ (x : α) (y : β) (v : V) (s1 : S), x ∈ xs → Ex s s1 → rep X.K s1.F v x → f x = some y → ∀ s0 H0 C cl fp, Ev (Blk X scope s0 H0 C cl fp) elt ((wipe σ (own.map (·.2))).set j (some v)) s1 y)
    (hs : ∀ x, foldedSetIterable iter X.env x = pure x := by intro _; rfl) : EvL X elt (.Name n py) iter [] scope σ s ys :=
  ⟨hc, hN, hs, own, _, _, ok, hg, fun _ _ _ _ _ => pts_nil, fun s1 k Q q => comp_readG (t := fun _ => some true) hGx hG0 hi tg_n hf hz (fun F x σ2 ⟨v, _, e⟩ => by rw [e, wipe_set hjo]; exact wipe_wipe fun _ z => z)
    (fun x b s1 σ2 Q _ _ _ hb q => by cases hb; exact q s1 (Ex.refl _)) (fun x y s1 σ2 hx k ⟨v, r, e⟩ _ hfx => by subst e; exact he x y v s1 hx k r hfx) s1 k Q q⟩
theorem en_comp1G {xs : List α} {ys : List β} {t : α → Option Bool} {f : α → Option β} {j : Nat} {n : Str} {py : Pos} {G : S → Prop} (hGx : ∀ s1 s2, Ex s1 s2 → G s1 → G s2) (hG0 : G s) (hc : X.calm = true) (hN : X.N.Nodup) (hi : EvIG X (.Name n py) iter σ s G xs) (ok : BlkOk X.N X.env.scope scope own) (hj : X.N[j]? = some n)
    (hjo : j ∈ own.map (·.2)) (hg : ∀ s0 H0 C cl fp, PG (Blk X scope s0 H0 C cl fp) (.Name n py) (gName j)) (hf : compO t f xs = some ys) (hz : ys.length ≤ sizeLine)
    (ht : ∀ (x : α) (b : Bool) (v : V) (s1 : S), x ∈ xs → Ex s s1 → rep X.K s1.F v x → t x = some b → ∀ s0 H0 C cl fp, EvT (Blk X scope s0 H0 C cl fp) c ((wipe σ (own.map (·.2))).set j (some v)) s1 b)
    (he : ∀ (x : α) (y : β) (v : V) (s1 : S), x ∈ xs → Ex s s1 → rep X.K s1.F v x → t x = some true → f x = some y → ∀ s0 H0 C cl fp, Ev (Blk X scope s0 H0 C cl fp) elt ((wipe σ (own.map (·.2))).set j (some v)) s1 y)
    (hs : ∀ x, foldedSetIterable iter X.env x = pure x := by intro _; rfl) : EvL X elt (.Name n py) iter [c] scope σ s ys :=
  ⟨hc, hN, hs, own, _, _, ok, hg, fun s0 H0 C cl fp => pts_one (pt_im fun _ _ _ h => h s0 H0 C cl fp), fun s1 k Q q => comp_readG (tt := fun σ H Q => ∀ s0 H0 C cl fp, WT (Blk X scope s0 H0 C cl fp) c σ H Q) hGx hG0 hi tg_n hf hz (fun F x σ2 ⟨v, _, e⟩ => by rw [e, wipe_set hjo]; exact wipe_wipe fun _ z => z)
    (fun x b s1 σ2 Q hx k ⟨v, r, e⟩ hb q => by subst e; intro s0 H0 C cl fp; exact ht x b v s1 hx k r hb s0 H0 C cl fp s1 (Ex.refl _) Q q) (fun x y s1 σ2 hx k ⟨v, r, e⟩ htx hfx => by subst e; exact he x y v s1 hx k r htx hfx) s1 k Q q⟩
end
end Dy

namespace Dy
open PySem PySem.Spec L2
open PyProof.Rows hiding St
open Enc (rep)
open Flat (toV)
open EncA (repA)

def tc (p : Addr) (vs : List V) : OA := ⟨fun K F H P => (∀ a, P a ↔ a = p) ∧ H p = some (.tup vs), fun e h => h, fun e ⟨h0, h1⟩ => ⟨h0, by rw [e p ((h0 p).mpr rfl)]; exact h1⟩, fun ⟨h0, h1⟩ q => ⟨_, (congrArg _ ((h0 _).mp q)).trans h1⟩⟩
abbrev No : Addr → Prop := fun _ => False
def spI {A O : Type} (K : PySem.W.Frag) (pre : List V → A → List OA → List OA → Prop) (m : A → Option O) (ok : List V → A → O → V → List OA → Prop) (er : List V → A → O → Er → List OA → Prop) : Sp := fun vs H Q E =>
  ∃ (s : S) (P0 : Addr → Prop) (L R : List OA) (x : A) (o : O), s.H = H ∧ pre vs x L R ∧ Iv K P0 s s L ∧ Ro K P0 s R ∧ m x = some o ∧
    (∀ v s' L', ok vs x o v L' → Iv K P0 s s' L' → Q v s'.H) ∧ (∀ e cls d s' L', er vs x o e L' → Iv K P0 s s' L' → ExR K s'.F e cls d → E cls d s'.H)
def noEr {A O : Type} : List V → A → O → Er → List OA → Prop := fun _ _ _ _ _ => False
abbrev FunM (K : PySem.W.Frag) (x q : Str) (st : Stmt) (f : Addr) (fd : FuncData) : Prop := FunD K x q (defArgs st) (defBody st) (defScope st) [] [] f fd
section
variable {P : Program} {w : World} {K : PySem.W.Frag} {mg : Str → Option Value} {base : Heap} {A O : Type} {pre : List V → A → List OA → List OA → Prop} {m : A → Option O} {ok : List V → A → O → V → List OA → Prop} {er : List V → A → O → Er → List OA → Prop}
theorem mk_I {x q : Str} {st : Stmt} {f : Addr} {fd : FuncData} {N ps : List Str} {k : Nat} (F : FunM K x q st f fd) (Sc : FnScope N ps (defScope st)) (hl : ∀ vs a L R, pre vs a L R → vs.length = ps.length)
    (body : ∀ (cdv : Value) (A' : Around) (outer : List Env) (s0 : Shared) (H0 : Hp) (E0 : XK), Room k (A'.deeper (envOfC q (defScope st) s0.heap.objs.size f cdv)) → ∀ (s : S) (P0 : Addr → Prop) (L R : List OA) (vs : List V) (a : A) (o : O) (Q : VK), pre vs a L R → Iv K P0 s s L → Ro K P0 s R → m a = some o →
      (∀ v s' L', ok vs a o v L' → Iv K P0 s s' L' → Q v s'.H) → WSs (cxOf CX0 P w K mg base N q (defScope st) f cdv A' outer s0 H0 E0).nox (defBody st) (RD Q) (start N vs) s.H) : FnOk P w K mg base CX0 (k + 1) f fd ps (spI K pre m ok noEr) :=
  F.ok Sc (fun vs H Q E ⟨s, P0, L, R, a, o, _, h, _⟩ => hl vs a L R h) (fun cdv A' outer s0 H0 vs Q E hr ⟨s, P0, L, R, a, o, e, h1, h2, h3, h4, h5, _⟩ => ⟨_, pss_ws.nox, by
    have := body cdv A' outer s0 H0 E hr s P0 L R vs a o Q h1 h2 h3 h4 h5
    rw [e] at this
    exact this⟩)
theorem mk_IX {x q : Str} {st : Stmt} {f : Addr} {fd : FuncData} {N ps : List Str} {k : Nat} (F : FunM K x q st f fd) (Sc : FnScope N ps (defScope st)) (hl : ∀ vs a L R, pre vs a L R → vs.length = ps.length)
    (body : ∀ (cdv : Value) (A' : Around) (outer : List Env) (s0 : Shared) (H0 : Hp) (E0 : XK), Room k (A'.deeper (envOfC q (defScope st) s0.heap.objs.size f cdv)) → ∀ (s : S) (P0 : Addr → Prop) (L R : List OA) (vs : List V) (a : A) (o : O) (Q : VK), pre vs a L R → Iv K P0 s s L → Ro K P0 s R → m a = some o →
      (∀ v s' L', ok vs a o v L' → Iv K P0 s s' L' → Q v s'.H) → (∀ e cls d s' L', er vs a o e L' → Iv K P0 s s' L' → ExR K s'.F e cls d → E0 cls d s'.H) → WSs (cxOf (L2.CX P w) P w K mg base N q (defScope st) f cdv A' outer s0 H0 E0) (defBody st) (RD Q) (start N vs) s.H) : FnOk P w K mg base (L2.CX P w) (k + 1) f fd ps (spI K pre m ok er) :=
  F.ok Sc (fun vs H Q E ⟨s, P0, L, R, a, o, _, h, _⟩ => hl vs a L R h) (fun cdv A' outer s0 H0 vs Q E hr ⟨s, P0, L, R, a, o, e, h1, h2, h3, h4, h5, h6⟩ => ⟨_, pss_ws, by
    have := body cdv A' outer s0 H0 E hr s P0 L R vs a o Q h1 h2 h3 h4 h5 h6
    rw [e] at this
    exact this⟩)
theorem cal_of {CX : CXT} {q : Sp} {x : Str} {f : Addr} {fd : FuncData} {ps : List Str} {k : Nat} (h : FnOk P w K mg base CX k f fd ps q) (hm : mg x = some (.ref f)) (kp : PySem.W.keepIn K (.ref f) = true) (b : Binds K fd ps []) : Cal P w K mg base CX k x q := ⟨f, fd, ps, h, hm, kp, b⟩
structure CalM (P : Program) (w : World) (K : PySem.W.Frag) (mg : Str → Option Value) (base : Heap) (CX : CXT) (k : Nat) (c m : Str) (q : Sp) : Prop where
  ex : ∃ (f : Addr) (fd : FuncData) (ps : List Str), FnOk P w K mg base CX k f fd ps q ∧ Meth K (He.ga K c) m f ∧ Binds K fd ps []
structure CalC (P : Program) (w : World) (K : PySem.W.Frag) (mg : Str → Option Value) (base : Heap) (CX : CXT) (k : Nat) (c : Str) (q : Sp) : Prop where
  ex : ∃ (f : Addr) (fd : FuncData) (ps : List Str), FnOk P w K mg base CX k f fd ps q ∧ Mk K (He.ga K c) f ∧ mg c = some (.ref (He.ga K c)) ∧ Binds K fd ps []
end
section
variable {X : Cx} {CX : CXT} {k j : Nat} {f C : Addr} {fd : FuncData} {ps : List Str} {sp : Sp} {o e : Expr} {es : List Expr} {ta : TE} {t : TA} {m n : Str} {pos apos p0 : Pos} {σ : L2.St} {s : S}
def tMethS (C : Addr) (m : Str) (sp : Sp) (E : L2.St → XK) (ta : TE) (t : TA) : TE := fun σ H Q => ta σ H fun x H1 => ∃ a dx fs, x = .ref a ∧ H1 a = some (.ins C dx fs) ∧ fs.lookup m = none ∧ t σ H1 fun vs H2 => sp (x :: vs) H2 Q (E σ)
theorem pe_methX {E : L2.St → XK} {pl : Sem Bool} (he : PE X o ta) (c : Cls X.K C) (hm : Meth X.K C m f) (F : FnOk X.prog X.w X.K X.mg X.base CX k f fd ps sp) (hr : Room k X.A) (hb : Binds X.K fd ps []) (hx : ∀ σ, PassesAt CX X σ (E σ)) (ha : PA X (e :: es) t)
    (hst : starEach (e :: es) X.env = (false, eval e X.env) :: starEach es X.env := by rfl) (hpl : (backTo pos (starEach es X.env)).any (·.1) = false := by rfl)
    (ht : eval (.Call (.Attribute o m apos) (e :: es) [] pos) X.env = (do
      let ov ← eval o X.env
      standAt apos.atName
      let (f, first) ← holding [ov] (getMethod ov m pl)
      callWith pos f first (backTo pos (starEach (e :: es) X.env)) (backToKw pos (keywordEach [] X.env))) := by rfl) :
    PE X (.Call (.Attribute o m apos) (e :: es) [] pos) (tMethS C m sp E ta t) := by
  refine ⟨fun pins s σ H Q I h => ?_⟩
  refine PySem.W.methodCall_KW (pl := pl) (thn (he.run pins s σ H _ I h) fun u s1 ⟨x, H1, I1, rx, a, dx, fs, ex, ea, l, q⟩ => ?_) ht
  subst ex
  obtain rfl : u = Value.ref a := rx
  refine getmeth_ok I1 ea c hm l ?_
  refine PySem.W.callWith_K (first := [.ref a]) (h₀ := X.base) I1.ok.mod.kin hm.kp (thn (ha.run pos pins s1 σ H1 _ I1 q) fun us s2 ⟨vs, H2, I2, r, q2⟩ => ⟨I2.kIn, ?_⟩) hst hpl
  exact run_fnS (us := .ref a :: us) (vs := .ref a :: vs) F hr hb (hx σ) I2 (.cons rfl r) q2
theorem pe_methX0 {E : L2.St → XK} {pl : Sem Bool} (he : PE X o ta) (c : Cls X.K C) (hm : Meth X.K C m f) (F : FnOk X.prog X.w X.K X.mg X.base CX k f fd ps sp) (hr : Room k X.A) (hb : Binds X.K fd ps []) (hx : ∀ σ, PassesAt CX X σ (E σ))
    (ht : eval (.Call (.Attribute o m apos) [] [] pos) X.env = (do
      let ov ← eval o X.env
      standAt apos.atName
      let (f, first) ← holding [ov] (getMethod ov m pl)
      callWith pos f first (backTo pos (starEach [] X.env)) (backToKw pos (keywordEach [] X.env))) := by rfl) :
    PE X (.Call (.Attribute o m apos) [] [] pos) (tMethS C m sp E ta tNil) := by
  refine ⟨fun pins s σ H Q I h => ?_⟩
  refine PySem.W.methodCall_KW (pl := pl) (thn (he.run pins s σ H _ I h) fun u s1 ⟨x, H1, I1, rx, a, dx, fs, ex, ea, l, q⟩ => ?_) ht
  subst ex
  obtain rfl : u = Value.ref a := rx
  refine getmeth_ok I1 ea c hm l ?_
  exact PySem.W.callWith_K0 (first := [.ref a]) I1.kIn hm.kp (run_fnS (us := [.ref a]) (vs := [.ref a]) F hr hb (hx σ) I1 (.cons rfl .nil) q)
theorem run_makeS {E : XK} {pins : List (Addr × Obj)} {σ : L2.St} {H : Hp} {s : Shared} {Q : VK} {us : List Value} {vs : List V} (M : Mk X.K C f) (F : FnOk X.prog X.w X.K X.mg X.base CX k f fd ps sp) (hr : Room (k + 1) X.A) (hb : Binds X.K fd ps [])
    (hx : PassesAt CX X σ E) (I : Inv X pins σ H s) (r : Vals vs us)
    (h : ∀ x dx, H x = none → H dx = none → dx ≠ x → sp (.ref x :: vs) (upd (upd H dx (.own x)) x (.ins C dx [])) (fun v H2 => v = .non ∧ Q (.ref x) H2) E) :
    wpAny (model X.prog X.w) X.A (call (.ref C) us) (EP X pins σ Q) X.xe s := by
  have hq := h (s.heap.objs.size + 1) s.heap.objs.size (I.hok.fresh (Nat.le_succ _)) (I.hok.fresh (Nat.le_refl _)) (Nat.ne_of_lt (Nat.lt_succ_self _))
  have I2 := Inv.made (C := C) I
  have r2 : Vals (V.ref (s.heap.objs.size + 1) :: vs) (Value.ref (s.heap.objs.size + 1) :: us) := .cons rfl r
  have hl : (Value.ref (s.heap.objs.size + 1) :: us).length = ps.length := by
    have e := r2.length
    rw [F.len _ _ _ _ hq] at e
    exact e.symm
  refine wpAny_call (make_map (f := f) I.kIn M.makes M.init (beq_iff_eq.mp M.fn) (codeAny_mono (F.run _ X.stack _ _ ⟨Value.ref (s.heap.objs.size + 1) :: us, []⟩ (Value.ref (s.heap.objs.size + 1) :: us) _ _ E (hr.make C us [])
    (I2.env0.make C us []) (by
      have := hb _ (Value.ref (s.heap.objs.size + 1) :: us) I2.kIn (by rw [List.append_nil]; exact hl)
      rw [List.append_nil] at this
      exact this) r2 hq) fun r s' hq' => ?_))
  cases r with
  | error e => exact hx pins _ _ e s' I2 hq'
  | ok fl =>
    cases fl with
    | ret u =>
      obtain ⟨v, H', I3, rv, ev, q3⟩ := I2.after hq'
      subst ev
      exact ⟨rv, ⟨V.ref (s.heap.objs.size + 1), H', I3, rfl, q3⟩⟩
    | next => exact False.elim hq'
    | brk => exact False.elim hq'
    | cont => exact False.elim hq'
def tMakeS (C : Addr) (sp : Sp) (E : L2.St → XK) (t : TA) : TE := fun σ H Q => t σ H fun vs H1 => ∀ x dx, H1 x = none → H1 dx = none → dx ≠ x → sp (.ref x :: vs) (upd (upd H1 dx (.own x)) x (.ins C dx [])) (fun v H2 => v = .non ∧ Q (.ref x) H2) (E σ)
theorem pe_makeX {E : L2.St → XK} (M : Mk X.K C f) (F : FnOk X.prog X.w X.K X.mg X.base CX k f fd ps sp) (hr : Room (k + 1) X.A) (hg : Gl X n) (hm : X.mg n = some (.ref C)) (hb : Binds X.K fd ps []) (hx : ∀ σ, PassesAt CX X σ (E σ))
    (ha : PA X (e :: es) t) (hdb : (n == ("__debug__" : Str)) = false := by decide) (he : starEach (e :: es) X.env = (false, eval e X.env) :: starEach es X.env := by rfl) (hpl : (backTo pos (starEach es X.env)).any (·.1) = false := by rfl) :
    PE X (.Call (.Name n p0) (e :: es) [] pos) (tMakeS C sp E t) := by
  refine ⟨fun pins s σ H Q I h => ?_⟩
  refine wpAny_Call_Name_kw (ld_glob I hg hm ?_ hdb)
  refine PySem.W.callWith_K (h₀ := X.base) I.ok.mod.kin M.kp (thn (ha.run pos pins s σ H _ I h) fun us s1 ⟨vs, H1, I1, r, q⟩ => ⟨I1.kIn, ?_⟩) he hpl
  exact run_makeS M F hr hb (hx σ) I1 r q
theorem pe_makeX0 {E : L2.St → XK} (M : Mk X.K C f) (F : FnOk X.prog X.w X.K X.mg X.base CX k f fd ps sp) (hr : Room (k + 1) X.A) (hg : Gl X n) (hm : X.mg n = some (.ref C)) (hb : Binds X.K fd ps []) (hx : ∀ σ, PassesAt CX X σ (E σ))
    (hdb : (n == ("__debug__" : Str)) = false := by decide) : PE X (.Call (.Name n p0) [] [] pos) (tMakeS C sp E tNil) := by
  refine ⟨fun pins s σ H Q I h => ?_⟩
  refine wpAny_Call_Name_kw (ld_glob I hg hm ?_ hdb)
  exact PySem.W.callWith_K0 I.kIn M.kp (run_makeS (us := []) M F hr hb (hx σ) I .nil h)

def Calls (X : Cx) (e : Expr) (σ : L2.St) (s : S) (sp : Sp) (E : XK) (Φ : List V → S → Prop) : Prop := ∀ s1, Ex s s1 → ∀ Q : VK, (∀ vs s2, Ex s1 s2 → Φ vs s2 → sp vs s2.H Q E) → WE X e σ s1.H Q
theorem ca_fn {A : Type} [EncA A] {a : A} {E : L2.St → XK} (C : Cal X.prog X.w X.K X.mg X.base CX k n sp) (hx : ∀ σ, PassesAt CX X σ (E σ)) (hr : Room j X.A) (hk : k ≤ j) (ha : EvA X (e :: es) σ s a) (hg : Gl X n := by rfl)
    (hdb : (n == ("__debug__" : Str)) = false := by decide) (he : starEach (e :: es) X.env = (false, eval e X.env) :: starEach es X.env := by rfl) (hpl : (backTo pos (starEach es X.env)).any (·.1) = false := by rfl) : Calls X (.Call (.Name n p0) (e :: es) [] pos) σ s sp (E σ) (fun vs s2 => repA X.K s2.F vs a) := fun s1 k1 Q q => by
  obtain ⟨f, fd, ps, F, hm, kp, b⟩ := C.ex
  exact we_of (pe_callS (E := E) F (hr.mono hk) hg hm kp b hx pa_wa hdb he hpl) (ha s1 k1 _ fun vs s2 k2 r2 => q vs s2 k2 r2)
theorem ca_meth {A : Type} [EncA A] {a : A} {E : L2.St → XK} {c : Str} {p : Addr} {fs : List (Str × V)} (C : CalM X.prog X.w X.K X.mg X.base CX k c m sp) (hc : Cls X.K (He.ga X.K c)) (hx : ∀ σ, PassesAt CX X σ (E σ)) (hr : Room j X.A) (hk : k ≤ j) (ho : Ev X o σ s (Rw.mk (.ref p))) (r : CellAt s X.K p c fs) (hl : fs.lookup m = none) (ha : EvA X (e :: es) σ s a)
    {pl : Sem Bool} (hst : starEach (e :: es) X.env = (false, eval e X.env) :: starEach es X.env := by rfl) (hpl : (backTo pos (starEach es X.env)).any (·.1) = false := by rfl)
    (ht : eval (.Call (.Attribute o m apos) (e :: es) [] pos) X.env = (do
      let ov ← eval o X.env
      standAt apos.atName
      let (f, first) ← holding [ov] (getMethod ov m pl)
      callWith pos f first (backTo pos (starEach (e :: es) X.env)) (backToKw pos (keywordEach [] X.env))) := by rfl) : Calls X (.Call (.Attribute o m apos) (e :: es) [] pos) σ s sp (E σ) (fun vs s2 => ∃ ws, vs = .ref p :: ws ∧ repA X.K s2.F ws a) := fun s1 k1 Q q => by
  obtain ⟨f, fd, ps, F, hm, b⟩ := C.ex
  refine we_of (pe_methX (E := E) (pl := pl) pe_we hc hm F (hr.mono hk) b hx pa_wa hst hpl ht) (ho s1 k1 _ fun v s2 k2 e2 => ?_)
  cases (show v = V.ref p from e2)
  obtain ⟨dx, h1⟩ := r.ex (k1.trans k2)
  exact ⟨p, dx, fs, rfl, h1, hl, ha s2 (k1.trans k2) _ fun ws s3 k3 r3 => q _ s3 (k2.trans k3) ⟨ws, rfl, r3⟩⟩
theorem ca_meth0 {E : L2.St → XK} {c : Str} {p : Addr} {fs : List (Str × V)} (C : CalM X.prog X.w X.K X.mg X.base CX k c m sp) (hc : Cls X.K (He.ga X.K c)) (hx : ∀ σ, PassesAt CX X σ (E σ)) (hr : Room j X.A) (hk : k ≤ j) (ho : Ev X o σ s (Rw.mk (.ref p))) (r : CellAt s X.K p c fs) (hl : fs.lookup m = none)
    {pl : Sem Bool} (ht : eval (.Call (.Attribute o m apos) [] [] pos) X.env = (do
      let ov ← eval o X.env
      standAt apos.atName
      let (f, first) ← holding [ov] (getMethod ov m pl)
      callWith pos f first (backTo pos (starEach [] X.env)) (backToKw pos (keywordEach [] X.env))) := by rfl) : Calls X (.Call (.Attribute o m apos) [] [] pos) σ s sp (E σ) (fun vs s2 => ∃ ws, vs = .ref p :: ws ∧ repA X.K s2.F ws ()) := fun s1 k1 Q q => by
  obtain ⟨f, fd, ps, F, hm, b⟩ := C.ex
  refine we_of (pe_methX0 (E := E) (pl := pl) pe_we hc hm F (hr.mono hk) b hx ht) (ho s1 k1 _ fun v s2 k2 e2 => ?_)
  cases (show v = V.ref p from e2)
  obtain ⟨dx, h1⟩ := r.ex (k1.trans k2)
  exact ⟨p, dx, fs, rfl, h1, hl, q _ s2 k2 ⟨[], rfl, rfl⟩⟩
def CallsN (X : Cx) (e : Expr) (σ : L2.St) (s : S) (c : Str) (sp : Sp) (E : XK) (Φ : List V → S → Prop) : Prop := ∀ s1, Ex s s1 → ∀ Q : VK, (∀ vs s2, Ex s1 s2 → Φ vs s2 → ∀ x dx, s2.H x = none → s2.H dx = none → dx ≠ x → sp (.ref x :: vs) (upd (upd s2.H dx (.own x)) x (.ins (He.ga X.K c) dx [])) (fun v H2 => v = .non ∧ Q (.ref x) H2) E) → WE X e σ s1.H Q
theorem ca_make {A : Type} [EncA A] {a : A} {E : L2.St → XK} (C : CalC X.prog X.w X.K X.mg X.base CX k n sp) (hx : ∀ σ, PassesAt CX X σ (E σ)) (hr : Room j X.A) (hk : k + 1 ≤ j) (ha : EvA X (e :: es) σ s a) (hg : Gl X n := by rfl)
    (hdb : (n == ("__debug__" : Str)) = false := by decide) (he : starEach (e :: es) X.env = (false, eval e X.env) :: starEach es X.env := by rfl) (hpl : (backTo pos (starEach es X.env)).any (·.1) = false := by rfl) : CallsN X (.Call (.Name n p0) (e :: es) [] pos) σ s n sp (E σ) (fun vs s2 => repA X.K s2.F vs a) := fun s1 k1 Q q => by
  obtain ⟨f, fd, ps, F, M, hm, b⟩ := C.ex
  exact we_of (pe_makeX (E := E) M F (hr.mono hk) hg hm b hx pa_wa hdb he hpl) (ha s1 k1 _ fun vs s2 k2 r2 => fun x dx h1 h2 h3 => q vs s2 k2 r2 x dx h1 h2 h3)
theorem ca_make0 {E : L2.St → XK} (C : CalC X.prog X.w X.K X.mg X.base CX k n sp) (hx : ∀ σ, PassesAt CX X σ (E σ)) (hr : Room j X.A) (hk : k + 1 ≤ j) (hg : Gl X n := by rfl)
    (hdb : (n == ("__debug__" : Str)) = false := by decide) : CallsN X (.Call (.Name n p0) [] [] pos) σ s n sp (E σ) (fun vs s2 => repA X.K s2.F vs ()) := fun s1 k1 Q q => by
  obtain ⟨f, fd, ps, F, M, hm, b⟩ := C.ex
  exact we_of (pe_makeX0 (E := E) M F (hr.mono hk) hg hm b hx hdb) fun x dx h1 h2 h3 => q [] s1 (Ex.refl _) rfl x dx h1 h2 h3
theorem pass00 {E : L2.St → XK} : ∀ σ, PassesAt CX0 X σ (E σ) := fun σ pins H s e s' I c => c.elim
theorem passF : ∀ σ, PassesAt (L2.CX X.prog X.w) X σ ((fun _ _ _ _ => False : L2.St → XK) σ) := fun σ pins H s e s' I c => by
  obtain ⟨_, _, _, _, _, _, _, _, _, _, _, _, hf⟩ := c
  exact hf.elim
def EvK (X : Cx) (e : Expr) (σ : L2.St) (s : S) (Φ : V → S → Prop) : Prop := ∀ Q : VK, (∀ v s2, Φ v s2 → Q v s2.H) → WE X e σ s.H Q
def EvG (X : Cx) (e : Expr) (σ : L2.St) (s : S) (ok : V → List OA → Prop) : Prop := ∀ s1, Ex s s1 → ∀ Q : VK, (∀ v s2 L', ok v L' → Iv X.K No s1 s2 L' → Q v s2.H) → WE X e σ s1.H Q
end
section
variable {X : Cx} {P0 : Addr → Prop} {s0 s s1 t : S} {L R0 M : List OA} {K : PySem.W.Frag}
theorem Iv.add (h : Iv K P0 s0 s L) (g : Iv K No s s1 M) : Iv K P0 s0 s1 (L ++ M) := by
  obtain ⟨P1, _, _, h3, h4⟩ := call_in h (R0 := []) ⟨fun i A e => by cases e⟩ [] List.nodup_nil (fun k hk => by cases hk) [] (fun A hA => by cases hA) [] (fun i hi => by cases hi)
  have e0 : P1 = No := by
    funext a
    exact propext ⟨fun z => (h3 rfl a z).elim, fun z => z.elim⟩
  have := h4 s1 M (by rw [e0]; exact g)
  have er : rem L [] = L := by
    unfold rem
    apply List.ext_getElem?
    intro i
    rw [List.getElem?_mapIdx]
    cases L[i]? <;> simp
  rw [er] at this
  exact this
theorem Iv.noex (h : Iv K No s0 s L) : Ex s0 s := h.exx
theorem Iv.nil : Iv K P0 s s [] := Iv.tops 0 s
theorem Iv.cons1 {A : OA} (h : Iv K No s s1 [A]) : A :: [] = [A] := rfl
theorem ev_ivf {α : Type} [Enc α] {v : V} {x : α} (e : Ex s s1) (r : rep K s1.F v x) : Iv K No s s1 [Dy.fz v x] := (Iv.sf (Iv.tops (K := K) (P0 := No) 1 s) 0 e r rfl)
theorem ev_ivl {α : Type} [Enc α] {p : Addr} {x : List α} (e : Ex s s1) (n : s.H p = none) (o : Own K s1 p x) : Iv K No s s1 [Dy.ol p x] := (Iv.sl (Iv.tops (K := K) (P0 := No) 1 s) 0 e n o rfl)
theorem ev_ivd {α κ : Type} [DKey κ] [Enc α] {p : Addr} {x : List (κ × α)} (e : Ex s s1) (n : s.H p = none) (o : OwnD K s1 p x) : Iv K No s s1 [Dy.od p x] := (Iv.sd (Iv.tops (K := K) (P0 := No) 1 s) 0 e n o rfl)
end
section
variable {X : Cx} {CX : CXT} {k j : Nat} {e : Expr} {es : List Expr} {pos p0 p1 : Pos} {σ : L2.St} {P0 : Addr → Prop} {s0 s : S} {L R0 : List OA} {A O : Type} {pre : List V → A → List OA → List OA → Prop} {m : A → Option O} {ok : List V → A → O → V → List OA → Prop} {er : List V → A → O → Er → List OA → Prop} {x : A} {o : O} {E : XK} {Φ : List V → S → Prop} {ok' : V → List OA → Prop}
theorem eg_call (c : Calls X e σ s (spI X.K pre m ok er) E Φ) (iv : Iv X.K P0 s0 s L) (ro : Ro X.K P0 s0 R0) (rs : List (Nat ⊕ Nat))
    (hp : ∀ vs s2, Ex s s2 → Φ vs s2 → ∃ Lf, pre vs x Lf (rsel L R0 rs) ∧ (∀ A ∈ Lf, A.p X.K s2.F s2.H No) ∧ (∀ v L', ok vs x o v L' → ok' v L') ∧ (∀ e L', er vs x o e L' → False)) (hm : m x = some o) : EvG X e σ s ok' := fun s1 k1 Q q =>
  c s1 k1 Q fun vs s2 k2 φ => by
    obtain ⟨Lf, h1, h2, h3, h4⟩ := hp vs s2 (k1.trans k2) φ
    obtain ⟨P1, g1, g2, g3, g4⟩ := call_in (iv.ex (k1.trans k2)) ro [] List.nodup_nil (fun k hk => by cases hk) Lf h2 rs (fun i _ z => by cases z)
    have e0 : P1 = No := by
      funext a
      exact propext ⟨fun z => (g3 rfl a z).elim, fun z => z.elim⟩
    subst e0
    exact ⟨s2, No, Lf, _, x, o, rfl, h1, g1, g2, hm, fun v s' L' hok iv' => q v s' L' (h3 v L' hok) ⟨k2.z.trans iv'.m, by
      obtain ⟨φ, f1, f2, f3⟩ := iv'.o
      exact ⟨φ, f1, f2, fun i a z => ⟨(f3 i a z).1, (f3 i a z).2.1.elim (fun z => z.elim) (fun z => .inr (fr_back k2 z)), (f3 i a z).2.2⟩⟩⟩, fun e cls d s' L' z _ _ => (h4 e L' z).elim⟩
theorem ek_call (c : Calls X e σ s (spI X.K pre m ok er) E Φ) (iv : Iv X.K P0 s0 s L) (ro : Ro X.K P0 s0 R0) (ks : List Nat) (hn : ks.Nodup) (hk : ∀ k ∈ ks, k < L.length) (rs : List (Nat ⊕ Nat)) (hrs : ∀ i, Sum.inl i ∈ rs → i ∉ ks)
    (hp : ∀ vs s2, Ex s s2 → Φ vs s2 → ∃ Lf, pre vs x (ks.map (fun k => L.getD k top) ++ Lf) (rsel L R0 rs) ∧ (∀ A ∈ Lf, A.p X.K s2.F s2.H No) ∧ (∀ v L', ok vs x o v L' → ok' v L') ∧ (∀ e L', er vs x o e L' → False)) (hm : m x = some o) :
    EvK X e σ s (fun v s' => ∃ L', ok' v L' ∧ Fle s.F s'.F ∧ Iv X.K P0 s0 s' (rem L ks ++ L')) := fun Q q =>
  c s (Ex.refl _) Q fun vs s2 k2 φ => by
    obtain ⟨Lf, h1, h2, h3, h4⟩ := hp vs s2 k2 φ
    obtain ⟨P1, g1, g2, g3, g4⟩ := call_in (iv.ex k2) ro ks hn hk Lf h2 rs hrs
    exact ⟨s2, P1, _, _, x, o, rfl, h1, g1, g2, hm, fun v s' L' hok iv' => q v s' ⟨L', h3 v L' hok, k2.f.trans iv'.m.f, g4 s' L' iv'⟩, fun e cls d s' L' z _ _ => (h4 e L' z).elim⟩
theorem ex_call {er' : Er → List OA → Prop} {W : WX} (c : Calls X e σ s (spI X.K pre m ok er) (L2.WE W σ) Φ) (iv : Iv X.K P0 s0 s L) (ro : Ro X.K P0 s0 R0) (ks : List Nat) (hn : ks.Nodup) (hk : ∀ k ∈ ks, k < L.length) (rs : List (Nat ⊕ Nat)) (hrs : ∀ i, Sum.inl i ∈ rs → i ∉ ks)
    (hp : ∀ vs s2, Ex s s2 → Φ vs s2 → ∃ Lf, pre vs x (ks.map (fun k => L.getD k top) ++ Lf) (rsel L R0 rs) ∧ (∀ A ∈ Lf, A.p X.K s2.F s2.H No) ∧ (∀ v L', ok vs x o v L' → False) ∧ (∀ e L', er vs x o e L' → er' e L')) (hm : m x = some o)
    (hw : ∀ e cls d s' L', er' e L' → Iv X.K P0 s0 s' (rem L ks ++ L') → ExR X.K s'.F e cls d → W cls d σ s'.H) : EvX X e σ s := fun s1 k1 Q =>
  c s1 k1 Q fun vs s2 k2 φ => by
    obtain ⟨Lf, h1, h2, h3, h4⟩ := hp vs s2 (k1.trans k2) φ
    obtain ⟨P1, g1, g2, g3, g4⟩ := call_in (iv.ex (k1.trans k2)) ro ks hn hk Lf h2 rs hrs
    exact ⟨s2, P1, _, _, x, o, rfl, h1, g1, g2, hm, fun v s' L' hok iv' => (h3 v L' hok).elim, fun e cls d s' L' z iv' r => hw e cls d s' L' (h4 e L' z) (g4 s' L' iv') r⟩
theorem mk_cell {c : Str} {p dx : Addr} (iv : Iv X.K P0 s0 s L) (hx : s.H p = none) (hd : s.H dx = none) (ne : dx ≠ p) : ∃ s1 : S, s1.H = upd (upd s.H dx (.own p)) p (.ins (He.ga X.K c) dx []) ∧ Ex s s1 ∧ Iv X.K P0 s0 s1 (L ++ [Dy.cell p c []]) ∧ Iv X.K No s s1 [Dy.cell p c []] := by
  have e1 : Ex s (s.newO dx (.own p) hd) := Ex.newO hd
  have hx1 : (s.newO dx (.own p) hd).H p = none := by show upd s.H dx _ p = none; rw [upd_ne (Ne.symm ne)]; exact hx
  have e2 := Ex.newO (o := HO.ins (He.ga X.K c) dx []) hx1
  have e3 := e1.trans e2
  have g : Iv X.K No s ((s.newO dx (.own p) hd).newO p (.ins (He.ga X.K c) dx []) hx1) [Dy.cell p c []] := by
    refine Iv.put (L := [top]) (Iv.tops (P0 := No) 1 s) 0 e3 ⟨fun a => a = p ∨ a = dx, ⟨dx, fun _ => Iff.rfl, upd_same, ?_⟩, fun a z => ?_⟩
    · show upd (upd s.H dx (.own p)) p _ dx = _
      rw [upd_ne ne, upd_same]
    · rcases z with rfl | rfl
      · exact ⟨(fF hx : s.F a = none), hx⟩
      · exact ⟨(fF hd : s.F a = none), hd⟩
  exact ⟨_, rfl, e3, iv.add g, g⟩
theorem eg_make {c : Str} (ca : CallsN X e σ s c (spI X.K pre m ok er) E Φ) (iv : Iv X.K P0 s0 s L) (ro : Ro X.K P0 s0 R0) (rs : List (Nat ⊕ Nat))
    (hp : ∀ vs s2 p, Ex s s2 → Φ vs s2 → ∃ Lf, pre (.ref p :: vs) x (Dy.cell p c [] :: Lf) (rsel L R0 rs) ∧ (∀ (A : OA) (s3 : S), Ex s2 s3 → A ∈ Lf → A.p X.K s3.F s3.H No) ∧ (∀ v L', ok (.ref p :: vs) x o v L' → v = .non ∧ ok' (.ref p) L') ∧ (∀ e L', er (.ref p :: vs) x o e L' → False)) (hm : m x = some o) : EvG X e σ s ok' := fun s1 k1 Q q =>
  ca s1 k1 Q fun vs s2 k2 φ p dx n1 n2 ne => by
    obtain ⟨Lf, h1, h2, h3, h4⟩ := hp vs s2 p (k1.trans k2) φ
    obtain ⟨s3, e3, k3, iv3, iv4⟩ := mk_cell (c := c) (iv.ex (k1.trans k2)) n1 n2 ne
    have kk := k2.trans k3
    obtain ⟨P1, g1, g2, g3, g4⟩ := call_in (R0 := rsel L R0 rs) (K := X.K) (s0 := s3) (s := s3) (P0 := fun a => a = p ∨ a = dx) (L := [Dy.cell p c []]) ⟨(Ex.refl s3).z, by
        obtain ⟨φ, f1, f2, f3⟩ := iv4.o
        refine ⟨φ, f1, f2, fun i a z => ⟨(f3 i a z).1, .inl ?_, (f3 i a z).2.2⟩⟩
        have hi : i = 0 := by have := (f3 i a z).2.2; simpa using this
        subst hi
        obtain ⟨dx', w0, w1, w2⟩ := f1 0 _ rfl
        have : dx' = dx := by
          rw [e3, upd_same] at w1
          cases w1; rfl
        subst this
        exact (w0 a).mp z⟩ ⟨fun i A hA => by
        obtain ⟨PP, w1, w2, _, _⟩ := call_in (iv.ex (k1.trans k2)) ro [] List.nodup_nil (fun k hk => by cases hk) [] (fun A hA => by cases hA) rs (fun i _ z => by cases z)
        obtain ⟨Pa, u1, u2⟩ := w2.o i A hA
        refine ⟨Pa, OA.stay (P0 := No) u1 k3.z fun _ _ z => z, fun a ha z => ?_⟩
        obtain ⟨o', ho'⟩ := A.dom u1 ha
        rcases z with rfl | rfl
        · rw [n1] at ho'; cases ho'
        · rw [n2] at ho'; cases ho'⟩ [0] (by decide) (by simp) Lf (fun A hA => h2 A s3 k3 hA) ((List.range rs.length).map Sum.inr) (fun i z => by simp at z)
    refine ⟨s3, P1, _, _, x, o, e3, ?_, g1, g2, hm, fun v s' L' hok iv' => ?_, fun e cls d s' L' z _ _ => (h4 e L' z).elim⟩
    · have er : rsel [Dy.cell p c []] (rsel L R0 rs) ((List.range rs.length).map Sum.inr) = rsel L R0 rs := by
        apply List.ext_getElem?
        intro i
        unfold rsel
        rw [List.map_map, List.getElem?_map]
        by_cases hi : i < rs.length
        · rw [List.getElem?_range hi]
          simp only [Option.map_some, Function.comp]
          rw [List.getD_eq_getElem?_getD, List.getElem?_map, List.getElem?_eq_getElem hi]
          rfl
        · rw [List.getElem?_eq_none (by rw [List.length_range]; omega), List.getElem?_map, List.getElem?_eq_none (by omega)]; rfl
      rw [er]
      exact h1
    · obtain ⟨v0, hok'⟩ := h3 v L' hok
      have := g4 s' L' iv'
      refine ⟨v0, q _ s' L' hok' ?_⟩
      have iv5 : Iv X.K (fun a => a = p ∨ a = dx) s3 s' L' := by
        have := this.sel ((List.range L'.length).map fun i => some (i + 1)) (by
          have : (List.map (fun i => some (i + 1)) (List.range L'.length)).filterMap id = (List.range L'.length).map (· + 1) := by
            rw [List.filterMap_map]
            exact (List.filterMap_eq_map (f := fun i : Nat => i + 1)) ▸ rfl
          rw [this]
          exact List.Pairwise.map _ (fun a b h e => h (Nat.succ.inj e)) List.nodup_range) (M := L') (by
          unfold pick rem
          apply List.ext_getElem?
          intro i
          rw [List.map_map, List.getElem?_map]
          by_cases hi : i < L'.length
          · rw [List.getElem?_range hi]
            simp [List.getD_eq_getElem?_getD, List.getElem?_eq_getElem hi]
          · rw [List.getElem?_eq_none (by rw [List.length_range]; omega), List.getElem?_eq_none (by omega)]; rfl)
        exact this
      refine ⟨⟨kk.f.trans iv5.m.f, fun a o h _ => ?_, fun a o h _ n => ?_, fun a o h => ?_⟩, ?_⟩
      · have : ¬ (a = p ∨ a = dx) := fun z => by
          rcases z with rfl | rfl
          · rw [k2.h _ _ h] at n1; cases n1
          · rw [k2.h _ _ h] at n2; cases n2
        exact iv5.m.h _ _ (kk.h _ _ h) this
      · have : ¬ (a = p ∨ a = dx) := fun z => by
          rcases z with rfl | rfl
          · rw [k2.h _ _ h] at n1; cases n1
          · rw [k2.h _ _ h] at n2; cases n2
        exact iv5.m.n _ _ (kk.h _ _ h) this (kk.n _ _ h n)
      · exact iv5.m.d _ _ (kk.h _ _ h)
      · obtain ⟨φ, f1, f2, f3⟩ := iv5.o
        refine ⟨φ, f1, f2, fun i a z => ⟨(f3 i a z).1, .inr ?_, (f3 i a z).2.2⟩⟩
        rcases (f3 i a z).2.1 with (rfl | rfl) | w
        · exact fr_back k2 n1
        · exact fr_back k2 n2
        · exact fr_back kk w
theorem ex_make {c : Str} {er' : Er → Prop} {W : WX} (ca : CallsN X e σ s c (spI X.K pre m ok er) (L2.WE W σ) Φ) (iv : Iv X.K P0 s0 s L) (ro : Ro X.K P0 s0 R0) (rs : List (Nat ⊕ Nat))
    (hp : ∀ vs s2 p, Ex s s2 → Φ vs s2 → ∃ Lf, pre (.ref p :: vs) x (Dy.cell p c [] :: Lf) (rsel L R0 rs) ∧ (∀ (A : OA) (s3 : S), Ex s2 s3 → A ∈ Lf → A.p X.K s3.F s3.H No) ∧ (∀ v L', ok (.ref p :: vs) x o v L' → False) ∧ (∀ e L', er (.ref p :: vs) x o e L' → er' e)) (hm : m x = some o)
    (hw : ∀ e cls d s', er' e → Ex s s' → ExR X.K s'.F e cls d → W cls d σ s'.H) : EvX X e σ s := fun s1 k1 Q =>
  ca s1 k1 Q fun vs s2 k2 φ p dx n1 n2 ne => by
    obtain ⟨Lf, h1, h2, h3, h4⟩ := hp vs s2 p (k1.trans k2) φ
    obtain ⟨s3, e3, k3, iv3, iv4⟩ := mk_cell (c := c) (iv.ex (k1.trans k2)) n1 n2 ne
    have kk := (k1.trans k2).trans k3
    obtain ⟨P1, g1, g2, g3, g4⟩ := call_in (R0 := rsel L R0 rs) (K := X.K) (s0 := s3) (s := s3) (P0 := fun a => a = p ∨ a = dx) (L := [Dy.cell p c []]) ⟨(Ex.refl s3).z, by
        obtain ⟨φ, f1, f2, f3⟩ := iv4.o
        refine ⟨φ, f1, f2, fun i a z => ⟨(f3 i a z).1, .inl ?_, (f3 i a z).2.2⟩⟩
        have hi : i = 0 := by have := (f3 i a z).2.2; simpa using this
        subst hi
        obtain ⟨dx', w0, w1, w2⟩ := f1 0 _ rfl
        have : dx' = dx := by
          rw [e3, upd_same] at w1
          cases w1; rfl
        subst this
        exact (w0 a).mp z⟩ ⟨fun i A hA => by
        obtain ⟨PP, w1, w2, _, _⟩ := call_in (iv.ex (k1.trans k2)) ro [] List.nodup_nil (fun k hk => by cases hk) [] (fun A hA => by cases hA) rs (fun i _ z => by cases z)
        obtain ⟨Pa, u1, u2⟩ := w2.o i A hA
        refine ⟨Pa, OA.stay (P0 := No) u1 k3.z fun _ _ z => z, fun a ha z => ?_⟩
        obtain ⟨o', ho'⟩ := A.dom u1 ha
        rcases z with rfl | rfl
        · rw [n1] at ho'; cases ho'
        · rw [n2] at ho'; cases ho'⟩ [0] (by decide) (by simp) Lf (fun A hA => h2 A s3 k3 hA) ((List.range rs.length).map Sum.inr) (fun i z => by simp at z)
    refine ⟨s3, P1, _, _, x, o, e3, ?_, g1, g2, hm, fun v s' L' hok iv' => (h3 v L' hok).elim, fun e cls d s' L' z iv' r => hw e cls d s' (h4 e L' z) ?_ r⟩
    · have er : rsel [Dy.cell p c []] (rsel L R0 rs) ((List.range rs.length).map Sum.inr) = rsel L R0 rs := by
        apply List.ext_getElem?
        intro i
        unfold rsel
        rw [List.map_map, List.getElem?_map]
        by_cases hi : i < rs.length
        · rw [List.getElem?_range hi]
          simp only [Option.map_some, Function.comp]
          rw [List.getD_eq_getElem?_getD, List.getElem?_map, List.getElem?_eq_getElem hi]
          rfl
        · rw [List.getElem?_eq_none (by rw [List.length_range]; omega), List.getElem?_map, List.getElem?_eq_none (by omega)]; rfl
      rw [er]
      exact h1
    · have iv5 := g4 s' L' iv'
      have k0 := k1.trans k2
      refine ⟨kk.f.trans iv5.m.f, fun a o h => ?_, fun a o h n => ?_⟩
      · have : ¬ (a = p ∨ a = dx) := fun z => by
          rcases z with rfl | rfl
          · rw [k0.h _ _ h] at n1; cases n1
          · rw [k0.h _ _ h] at n2; cases n2
        exact iv5.m.h _ _ (kk.h _ _ h) this
      · have : ¬ (a = p ∨ a = dx) := fun z => by
          rcases z with rfl | rfl
          · rw [k0.h _ _ h] at n1; cases n1
          · rw [k0.h _ _ h] at n2; cases n2
        exact iv5.m.n _ _ (kk.h _ _ h) this (kk.n _ _ h n)
end
end Dy

namespace Dy
open PySem PySem.Spec L2
open PyProof.Rows hiding St
open Enc (rep)
open Flat (toV)
open EncA (repA)

structure Dc (κ α : Type) where
  l : List (κ × α)
instance {κ α : Type} [DKey κ] [Enc α] : Enc (Dc κ α) := ⟨fun K F v x => ∃ p o kv, v = .ref p ∧ F p = some (.frz o (.dK kv)) ∧ KReps K F kv x.l, fun e ⟨p, o, kv, h1, h2, h3⟩ => ⟨p, o, kv, h1, e _ _ h2, h3.mono e⟩⟩
section
variable {α β γ κ τ υ ρ : Type} [Enc α] [Enc β] [Enc γ] [Enc τ] [DKey κ] [DecidableEq κ] {X : Cx} {σ : L2.St} {P0 : Addr → Prop} {s0 s s1 t : S} {L M : List OA} {e a b c o i tg iter elt : Expr} {es : List Expr} {pos p0 p1 p2 p3 : Pos} {D : Ends} {rest body : List Stmt} {n : Str} {p : Addr} {K : PySem.W.Frag}
theorem Iv.tc (h : Iv K P0 s0 s L) (i : Nat) {p : Addr} {vs : List V} (e : L[i]? = some (Dy.tc p vs) := by rfl) : s.H p = some (.tup vs) := by
  obtain ⟨P, ⟨h0, h1⟩, h3⟩ := h.at i e
  exact h1
theorem eg_ev {x : α} (h : Ev X e σ s x) : EvG X e σ s (fun v L' => L' = [fz v x]) := fun s1 k Q q => h s1 k Q fun v s2 k2 r => q v s2 _ rfl (ev_ivf k2 r)
theorem eg_new {xs : List α} (h : EvN X e σ s xs) : EvG X e σ s (fun v L' => ∃ p, v = .ref p ∧ L' = [ol p xs]) := fun s1 k Q q => h s1 k Q fun p s2 k2 n2 r => q _ s2 _ ⟨p, rfl, rfl⟩ (ev_ivl k2 n2 r)
theorem eg_newD {xs : List (κ × α)} (h : EvND X e σ s xs) : EvG X e σ s (fun v L' => ∃ p, v = .ref p ∧ L' = [od p xs]) := fun s1 k Q q => h s1 k Q fun p s2 k2 n2 r => q _ s2 _ ⟨p, rfl, rfl⟩ (ev_ivd k2 n2 r)
theorem eg_raw {v0 : V} (h : Ev X e σ s (Rw.mk v0)) : EvG X e σ s (fun v L' => v = v0 ∧ L' = []) := fun s1 k Q q => h s1 k Q fun v s2 k2 r => q v s2 [] ⟨r, rfl⟩ ((Iv.tops (P0 := No) 0 s1).ex k2)
theorem EvG.imp {ok ok' : V → List OA → Prop} (h : EvG X e σ s ok) (k : ∀ v L', ok v L' → ok' v L') : EvG X e σ s ok' := fun s1 k1 Q q => h s1 k1 Q fun v s2 L' z => q v s2 L' (k v L' z)
theorem ev_of_eg {x : α} {ok : V → List OA → Prop} (h : EvG X e σ s ok) (k : ∀ v L', ok v L' → ∃ M, L' = fz v x :: M) : Ev X e σ s x := fun s1 k1 Q q => h s1 k1 Q fun v s2 L' z iv => by
  obtain ⟨M, rfl⟩ := k v L' z
  exact q v s2 iv.exx (iv.fz 0)
theorem en_of_eg {xs : List α} {ok : V → List OA → Prop} (h : EvG X e σ s ok) (k : ∀ v L', ok v L' → ∃ p M, v = .ref p ∧ L' = ol p xs :: M) : EvN X e σ s xs := fun s1 k1 Q q => h s1 k1 Q fun v s2 L' z iv => by
  obtain ⟨p, M, rfl, rfl⟩ := k v L' z
  exact q p s2 iv.exx (iv.fresh 0) (iv.ol 0)
def EvGs (X : Cx) (es : List Expr) (σ : L2.St) (s : S) (ok : List V → List OA → Prop) : Prop := ∀ s1, Ex s s1 → ∀ Q : List V → Hp → Prop, (∀ vs s2 L', ok vs L' → Iv X.K No s1 s2 L' → Q vs s2.H) → WA X es σ s1.H Q
theorem egs_nil : EvGs X [] σ s (fun vs L' => vs = [] ∧ L' = []) := fun s1 k Q q => wa_of pa_nil (q [] s1 [] ⟨rfl, rfl⟩ (Iv.tops (P0 := No) 0 s1))
theorem egs_cons {ok : V → List OA → Prop} {ok2 : List V → List OA → Prop} (h : EvG X e σ s ok) (hr : EvGs X es σ s ok2) (hs : starEach (e :: es) X.env = (false, eval e X.env) :: starEach es X.env := by exact star_cons rfl) :
    EvGs X (e :: es) σ s (fun vs L' => ∃ v L1 ws L2, vs = v :: ws ∧ L' = L1 ++ L2 ∧ ok v L1 ∧ ok2 ws L2) := fun s1 k Q q =>
  wa_of (pa_cons pe_we pa_wa hs) (h s1 k _ fun v s2 L1 z1 iv1 => hr s2 (k.trans iv1.exx) _ fun ws s3 L2 z2 iv2 => q _ s3 _ ⟨v, L1, ws, L2, rfl, rfl, z1, z2⟩ (iv1.add iv2))
theorem eg_tup {ok : List V → List OA → Prop} {k} (h : EvGs X es σ s ok) (hz : ∀ vs L', ok vs L' → vs.length ≤ 1000) : EvG X (.Tuple es k pos) σ s (fun v L' => ∃ p vs L1, v = .ref p ∧ ok vs L1 ∧ L' = tc p vs :: L1) := fun s1 k1 Q q =>
  we_of (pe_tup pa_wa) (h s1 k1 _ fun vs s2 L1 z1 iv1 => ⟨by rw [sizeLine_eq]; have := hz vs L1 z1; omega, fun p hp => by
    have iv2 : Iv X.K No s2 (s2.newO p (.tup vs) hp) [tc p vs] := Iv.put (L := [top]) (Iv.tops (P0 := No) 1 s2) 0 (Ex.newO hp) ⟨fun a => a = p, ⟨fun _ => Iff.rfl, upd_same⟩, fun a z => by rw [z]; exact ⟨(fF hp : s2.F p = none), hp⟩⟩
    have := iv1.add iv2
    have iv3 := this.sel (M := tc p vs :: L1) (some L1.length :: (List.range L1.length).map some) (by
      have e1 : (some L1.length :: (List.range L1.length).map some).filterMap id = L1.length :: List.range L1.length := by simp
      rw [e1]
      exact List.nodup_cons.mpr ⟨by simp, List.nodup_range⟩) (by
      unfold pick
      rw [List.map_cons]
      congr 1
      · simp [List.getD_eq_getElem?_getD]
      · apply List.ext_getElem?
        intro i
        rw [List.map_map, List.getElem?_map]
        by_cases hi : i < L1.length
        · rw [List.getElem?_range hi]
          simp [List.getD_eq_getElem?_getD, List.getElem?_append_left hi, List.getElem?_eq_getElem hi]
        · rw [List.getElem?_eq_none (by rw [List.length_range]; omega), List.getElem?_eq_none (by omega)]; rfl)
    exact q _ _ _ ⟨p, vs, L1, rfl, z1, rfl⟩ iv3⟩)
theorem do_setG (i : Nat) {n : Str} {py : Pos} {ok : V → List OA → Prop} (h : EvG X e σ s ok) (k : ∀ v s1 L', ok v L' → Iv X.K No s s1 L' → WSs X rest D (σ.set i (some v)) s1.H) (hN : X.N.Nodup) (hx : Loc X.env.scope n := by first | exact Or.inl rfl | exact Or.inr rfl) (hi : X.N[i]? = some n := by rfl)
    (hs : swapsWith e (some (.Name n py)) pos.line X.env = pure false := by rfl) (hf : X.fn n = true ∨ X.env.scope.names.lookup n = some .local := by first | exact .inl rfl | exact .inr rfl) : WSs X (.Assign [.Name n py] e pos :: rest) D σ s.H :=
  do_cons (ps_set hN hi hx pe_we hs hf) (h s (Ex.refl _) _ fun v s1 L' z iv => k v s1 L' z iv)
theorem do_setK (i : Nat) {n : Str} {py : Pos} {Φ : V → S → Prop} (h : EvK X e σ s Φ) (k : ∀ v s1, Φ v s1 → WSs X rest D (σ.set i (some v)) s1.H) (hN : X.N.Nodup) (hx : Loc X.env.scope n := by first | exact Or.inl rfl | exact Or.inr rfl) (hi : X.N[i]? = some n := by rfl)
    (hs : swapsWith e (some (.Name n py)) pos.line X.env = pure false := by rfl) (hf : X.fn n = true ∨ X.env.scope.names.lookup n = some .local := by first | exact .inl rfl | exact .inr rfl) : WSs X (.Assign [.Name n py] e pos :: rest) D σ s.H :=
  do_cons (ps_set hN hi hx pe_we hs hf) (h _ fun v s1 z => k v s1 z)
theorem do_exprK {Φ : V → S → Prop} (h : EvK X e σ s Φ) (k : ∀ v s1, Φ v s1 → WSs X rest D σ s1.H) (hs : swapsWith e none pos.line X.env = pure false := by rfl) : WSs X (.Expr e pos :: rest) D σ s.H :=
  do_cons (ps_expr pe_we hs) (h _ fun v s1 z => k v s1 z)
theorem do_retK {Φ : V → S → Prop} (h : EvK X e σ s Φ) (k : ∀ v s1, Φ v s1 → D.rt v s1.H) : WSs X (.Return (some e) pos :: rest) D σ s.H :=
  do_cons (ps_ret pe_we) (h _ fun v s1 z => k v s1 z)
theorem do_retE (k : D.rt .non s.H) : WSs X (.Return none pos :: rest) D σ s.H := do_cons ps_retN k
theorem ek_of {ok : V → List OA → Prop} (h : EvG X e σ s ok) (iv : Iv X.K P0 s0 s L) : EvK X e σ s (fun v s' => ∃ L', ok v L' ∧ Fle s.F s'.F ∧ Iv X.K P0 s0 s' (L ++ L')) := fun Q q => h s (Ex.refl _) Q fun v s1 L' z iv' => q v s1 ⟨L', z, iv'.m.f, iv.add iv'⟩
theorem do_exprG {ok : V → List OA → Prop} (h : EvG X e σ s ok) (k : ∀ v s1 L', ok v L' → Iv X.K No s s1 L' → WSs X rest D σ s1.H) (hs : swapsWith e none pos.line X.env = pure false := by rfl) : WSs X (.Expr e pos :: rest) D σ s.H :=
  do_cons (ps_expr pe_we hs) (h s (Ex.refl _) _ fun v s1 L' z iv => k v s1 L' z iv)
theorem do_unpK2 (i j : Nat) {Φ : V → S → Prop} (h : EvK X e σ s Φ) (k : ∀ v s1, Φ v s1 → ∃ p v1 v2, v = .ref p ∧ s1.H p = some (.tup [v1, v2]) ∧ WSs X rest D ((σ.set i (some v1)).set j (some v2)) s1.H)
    (hg : PG X tg (gTup X.K 2 (gCons (gName i) (gCons (gName j) gNil)))) (hs : swapsWithSole [tg] e pos.line X.env = pure false := by rfl) (hw : swappedStores [tg] e X.env = pure none := by rfl)
    (h1 : (assignEach [tg] X.env).map (·.2) = [assign tg X.env] := by rfl) : WSs X (.Assign [tg] e pos :: rest) D σ s.H :=
  do_cons (ps_asg pe_we hg hs hw h1) (h _ fun v s1 z => by
    obtain ⟨p, v1, v2, rfl, h0, kk⟩ := k v s1 z
    exact ⟨p, _, rfl, .inl (.inl h0), rfl, v1, _, rfl, v2, _, rfl, rfl, kk⟩)
theorem do_unpK3 (i j l : Nat) {Φ : V → S → Prop} (h : EvK X e σ s Φ) (k : ∀ v s1, Φ v s1 → ∃ p v1 v2 v3, v = .ref p ∧ s1.H p = some (.tup [v1, v2, v3]) ∧ WSs X rest D (((σ.set i (some v1)).set j (some v2)).set l (some v3)) s1.H)
    (hg : PG X tg (gTup X.K 3 (gCons (gName i) (gCons (gName j) (gCons (gName l) gNil))))) (hs : swapsWithSole [tg] e pos.line X.env = pure false := by rfl) (hw : swappedStores [tg] e X.env = pure none := by rfl)
    (h1 : (assignEach [tg] X.env).map (·.2) = [assign tg X.env] := by rfl) : WSs X (.Assign [tg] e pos :: rest) D σ s.H :=
  do_cons (ps_asg pe_we hg hs hw h1) (h _ fun v s1 z => by
    obtain ⟨p, v1, v2, v3, rfl, h0, kk⟩ := k v s1 z
    exact ⟨p, _, rfl, .inl (.inl h0), rfl, v1, _, rfl, v2, _, rfl, v3, _, rfl, rfl, kk⟩)
theorem do_fldG {f cn : Str} {fs : List (Str × V)} {ok : V → List OA → Prop} (iv : Iv X.K P0 s0 s L) (i : Nat) (hA : L[i]? = some (Dy.cell p cn fs)) (ho : Ev X o σ s (Rw.mk (.ref p))) (h : EvG X e σ s ok) (hc : Cls X.K (He.ga X.K cn)) (hn : NoAttr X.K (He.ga X.K cn) f) (hl : fs.length < 1000)
    (k : ∀ v s1 L', ok v L' → Fle s.F s1.F → Iv X.K P0 s0 s1 (L.set i (Dy.cell p cn (putF f v fs)) ++ L') → WSs X rest D σ s1.H)
    (hs : swapsWith e (some (.Attribute o f p1)) pos.line X.env = pure false := by rfl) : WSs X (.Assign [.Attribute o f p1] e pos :: rest) D σ s.H :=
  do_cons (ps_fld pe_we pe_we hs) (h s (Ex.refl _) _ fun v s1 L' z iv1 => ho s1 iv1.exx _ fun u s2 k2 e2 => by
    cases (show u = V.ref p from e2)
    have ivA := (iv.add iv1).ex k2
    have hA2 : (L ++ L')[i]? = some (Dy.cell p cn fs) := by rw [List.getElem?_append_left (List.getElem?_eq_some_iff.mp hA).1]; exact hA
    obtain ⟨P, ⟨dx, h0, h1, h2⟩, h3⟩ := ivA.at i hA2
    have ne : dx ≠ p := ne_of h2 h1 (by intro z; cases z)
    have hf : s2.F p = none := h3 p ((h0 p).mpr (.inl rfl))
    refine ⟨p, _, dx, fs, rfl, h1, hc, hn, hl, ?_⟩
    have iv3 : Iv X.K P0 s0 (s2.put p (.ins (He.ga X.K cn) dx (putF f v fs)) hf) ((L ++ L').set i (Dy.cell p cn (putF f v fs))) := by
      refine ivA.upd i hA2 fun P hP hPf => ⟨P, ?_, ?_, ?_⟩
      · obtain ⟨dx', g0, g1, g2⟩ := hP
        have : dx' = dx := by rw [h1] at g1; cases g1; rfl
        subst this
        exact ⟨dx', g0, upd_same, (upd_ne ne).trans g2⟩
      · exact fun a z => ⟨hPf a z, .inl z⟩
      · have m : Mx (· = p) s2 (s2.put p (.ins (He.ga X.K cn) dx (putF f v fs)) hf) := Mx.put hf
        obtain ⟨dx', g0, g1, g2⟩ := hP
        exact ⟨m.f, fun a o q n => m.h a o q fun z => n ((g0 a).mpr (.inl z)), fun a o q _ z => m.n a o q z, m.d⟩
    rw [List.set_append_left _ _ (List.getElem?_eq_some_iff.mp hA).1] at iv3
    exact k v (s2.put p (.ins (He.ga X.K cn) dx (putF f v fs)) hf) L' z (iv1.m.f.trans k2.f) iv3)
theorem do_setItemP {xs : List α} {x : α} {z : Int} {j : Nat} (ho : Ev X o σ s (Rw.mk (.ref p))) (r : Own X.K s p xs) (he : Ev X e σ s x) (hi : Ev X a σ s z) (hj : ixN xs.length z = some j)
    (k : ∀ s1, Mx (· = p) s s1 → Own X.K s1 p (xs.set j x) → WSs X rest D σ s1.H)
    (ha : ∀ v, assign (.Subscript o a p1) X.env v = (do
      let ov ← holding [v] (eval o X.env)
      let iv ← holding [v, ov] (eval a X.env)
      standAt p1
      holding [v, ov, iv] (setItem ov iv v)
      release [v, ov, iv] []) := by intro _; rfl)
    (hs : swapsWithSole [.Subscript o a p1] e pos.line X.env = pure false := by rfl) (hw : swappedStores [.Subscript o a p1] e X.env = pure none := by rfl)
    (h1 : (assignEach [.Subscript o a p1] X.env).map (·.2) = [assign (.Subscript o a p1) X.env] := by rfl) :
    WSs X (.Assign [.Subscript o a p1] e pos :: rest) D σ s.H :=
  do_cons (ps_asg pe_we (pg_sub pe_we pe_we set_list ha) hs hw h1) (he s (Ex.refl _) _ fun v s1 k1 r1 => ho s1 k1 _ fun w s2 k2 e2 => by
    cases (show w = V.ref p from e2)
    have k12 := k1.trans k2
    exact hi s2 k12 _ fun u s3 k3 r3 => by
      obtain ⟨f0, vs, h2, h3⟩ := r.ex (k12.trans k3)
      refine ⟨p, vs, z, j, rfl, r3, h2, by rw [h3.len]; exact hj, ?_⟩
      exact k (s3.put p (.lst (vs.set j v)) f0) ((k12.trans k3).mx.trans (Mx.put f0)) ⟨f0, _, upd_same, h3.set j (Enc.mono (k2.trans k3).f r1)⟩)
theorem do_appendP {xs : List α} {x : α} (ho : Ev X o σ s (Rw.mk (.ref p))) (r : Own X.K s p xs) (he : Ev X e σ s x) (hz : xs.length < sizeLine)
    (k : ∀ s1, Mx (· = p) s s1 → Own X.K s1 p (xs ++ [x]) → WSs X rest D σ s1.H)
    (hbase : attributeBase o "append" X.env (eval o X.env) = eval o X.env := by rfl)
    (hfew : ((backTo p2 (starEach [e] X.env)).all (fun x => !x.1) && (backToKw p2 (keywordEach [] X.env)).all (fun x => x.1.isSome) && decide (([e] : List Expr).length + ([] : List Keyword).length + (if ([] : List Keyword).isEmpty then 0 else 1) < 30)) = true := by rfl)
    (hline : (p1.endLine == p2.line) = true := by rfl) (hs : starEach [e] X.env = (false, eval e X.env) :: starEach [] X.env := by rfl) (hplain : (backTo p2 (starEach [] X.env)).any (·.1) = false := by rfl)
    (hsw : swapsWith (.Call (.Attribute o "append" p1) [e] [] p2) none p3.line X.env = pure false := by rfl) :
    WSs X (.Expr (.Call (.Attribute o "append" p1) [e] [] p2) p3 :: rest) D σ s.H :=
  do_cons (ps_expr (pe_bm PySem.F.plainAttrs_list PySem.F.slot_list_append PySem.F.type_list_append mt_append pe_we (pa_cons pe_we pa_nil hs) hbase hfew hline hs hplain) hsw) (ho s (Ex.refl _) _ fun w s1 k1 e1 => by
    cases (show w = V.ref p from e1)
    obtain ⟨f1, vs, h2, h3⟩ := r.ex k1
    refine ⟨.inl ⟨rfl, vs, .inl (.inl h2)⟩, he s1 k1 _ fun v s2 k2 r2 => ?_⟩
    obtain ⟨f2, ws, g2, g3⟩ := r.ex (k1.trans k2)
    exact ⟨p, ws, v, rfl, rfl, g2, by rw [g3.len]; exact hz, k (s2.put p (.lst (ws ++ [v])) f2) ((k1.trans k2).mx.trans (Mx.put f2)) ⟨f2, _, upd_same, g3.snoc r2⟩⟩)
theorem raw_tup {vs : List V} {v : V} {z : Int} (h : Ev X e σ s (Rw.mk (.ref p))) (r : s.H p = some (.tup vs)) (hb : Ev X b σ s z) (hv : atI vs z = some v) (hp : PlainIx b := by intro _ _; rfl) : Ev X (.Subscript e b pos) σ s (Rw.mk v) := fun s1 k Q q =>
  we_of (pe_ix ix_tup pe_we pe_we hp) (h s1 k _ fun u s2 k2 e2 => hb s2 (k.trans k2) _ fun w s3 k3 e3 => by
    cases (show u = V.ref p from e2)
    exact ⟨p, vs, z, v, rfl, e3, .inl (.inl (((k.trans k2).trans k3).h _ _ r)), hv, q v s3 (k2.trans k3) rfl⟩)
theorem ev_lenTc {vs : List V} {z : Int} (hm : X.mg "len" = none) (ha : Ev X e σ s (Rw.mk (.ref p))) (r : s.H p = some (.tup vs)) (hz : (vs.length : Int) = z) (hg : Gl X "len" := by rfl) (he : starEach [e] X.env = (false, eval e X.env) :: starEach [] X.env := by rfl) (hpl : (backTo pos (starEach [] X.env)).any (·.1) = false := by rfl) : Ev X (.Call (.Name "len" p0) [e] [] pos) σ s z := fun s1 k Q q =>
  we_of (pe_callB call_len_seq hg hm boot_len (pa_cons pe_we pa_nil he) (he := he) (hpl := hpl)) (ha s1 k _ fun u s2 k2 e2 => by
    cases (show u = V.ref p from e2)
    subst hz
    exact ⟨p, vs, rfl, .inr (.inl (.inl ((k.trans k2).h _ _ r))), q _ s2 k2 rfl⟩)
theorem own_some {xs : List α} (h : Own K s p xs) : Own K s p (xs.map some) := by
  obtain ⟨h0, vs, h1, h2⟩ := h
  refine ⟨h0, vs, h1, ?_⟩
  have : ∀ {vs : List V} {xs : List α}, Reps K s.F vs xs → Reps K s.F vs (xs.map some) := by
    intro vs
    induction vs with
    | nil => intro xs h; cases xs with | nil => trivial | cons _ _ => exact h.elim
    | cons v vs ih => intro xs h; cases xs with
      | nil => exact h.elim
      | cons x xs => exact ⟨h.1, ih h.2⟩
  exact this h2
theorem en_some {xs : List α} (h : EvN X e σ s xs) : EvN X e σ s (xs.map some) := fun s1 k Q q => h s1 k Q fun p s2 k2 n2 o2 => q p s2 k2 n2 (own_some o2)
def memF {ε : Type} [DecidableEq ε] (x : ε) (xs : List ε) : Bool := decide (x ∈ xs)
theorem memF_iff {ε : Type} [DecidableEq ε] {x : ε} {xs : List ε} : memF x xs = true ↔ x ∈ xs := decide_eq_true_iff
theorem eb_inF {ε : Type} [Flat ε] [DecidableEq ε] {x : ε} {xs : List ε} (ha : Ev X a σ s x) (hb : EvR X b σ s xs) (hm : behindInMarks .In b = false := by rfl) : EvB X (.Compare a [.In] [b] pos) σ s (memF x xs) :=
  eb_cmpR op_in_seq ha hb (fun v u s2 hv hu Q q => by
    obtain ⟨p, vs, rfl, h1, h2⟩ := hu
    rw [Flat.iff.mp hv]
    obtain rfl := h2.flat
    refine ⟨p, _, rfl, .inl h1, Flat.flat x, flat_all xs, ?_⟩
    rw [inV_flat]; exact q) hm
theorem eb_notInF {ε : Type} [Flat ε] [DecidableEq ε] {x : ε} {xs : List ε} (ha : Ev X a σ s x) (hb : EvR X b σ s xs) (hm : behindInMarks .NotIn b = false := by rfl) : EvB X (.Compare a [.NotIn] [b] pos) σ s (!memF x xs) :=
  eb_cmpR op_notIn_seq ha hb (fun v u s2 hv hu Q q => by
    obtain ⟨p, vs, rfl, h1, h2⟩ := hu
    rw [Flat.iff.mp hv]
    obtain rfl := h2.flat
    refine ⟨p, _, rfl, .inl h1, Flat.flat x, flat_all xs, ?_⟩
    rw [inV_flat]; exact q) hm
def S.all (s : S) : S := ⟨s.H, s.H, fun _ _ h => h⟩
def EvV {A : Type} [EncA A] (X : Cx) (es : List Expr) (σ : L2.St) (s : S) (a : A) : Prop := ∀ s1, Ex s s1 → ∀ Q : List V → Hp → Prop, (∀ vs s2, Ex s1 s2 → repA X.K s2.H vs a → Q vs s2.H) → WA X es σ s1.H Q
theorem evv_nil : EvV X [] σ s () := fun s1 k Q q => wa_of pa_nil (q [] s1 (Ex.refl _) rfl)
theorem repA_H {A : Type} [EncA A] {vs : List V} {a : A} (e : Ex s t) (h : repA K s.H vs a) : repA K t.H vs a := EncA.monoA e.h h
theorem evv_cons {A : Type} [EncA A] {x : α} {r : A} (h : Ev X e σ s x) (hr : EvV X es σ s r) (hs : starEach (e :: es) X.env = (false, eval e X.env) :: starEach es X.env := by exact star_cons rfl) : EvV X (e :: es) σ s (x, r) := fun s1 k Q q =>
  wa_of (pa_cons pe_we pa_wa hs) (h s1 k _ fun v s2 k2 r2 => hr s2 (k.trans k2) _ fun vs s3 k3 r3 => q _ s3 (k2.trans k3) ⟨v, vs, rfl, Enc.mono (Fle.trans k3.f s3.sub) r2, r3⟩)
theorem evv_consR {A : Type} [EncA A] {xs : List α} {r : A} (h : EvR X e σ s xs) (hr : EvV X es σ s r) (hs : starEach (e :: es) X.env = (false, eval e X.env) :: starEach es X.env := by exact star_cons rfl) : EvV X (e :: es) σ s (xs, r) := fun s1 k Q q =>
  wa_of (pa_cons pe_we pa_wa hs) (h s1 k _ fun v s2 k2 r2 => hr s2 (k.trans k2) _ fun vs s3 k3 r3 => q _ s3 (k2.trans k3) ⟨v, vs, rfl, by
    obtain ⟨p, vs, e1, h1, h2⟩ := r2.ex k3
    exact ⟨p, vs, e1, h1, h2.mono s3.sub⟩, r3⟩)
def S.backH (s t : S) (h : ∀ a o, s.H a = some o → t.H a = some o) : S := ⟨s.F, t.H, fun a o q => h a o (s.sub a o q)⟩
theorem backH_ex (e : Ex s.all t) : Ex s (s.backH t e.h) := ⟨fun _ _ h => h, e.h, fun _ _ _ h => h⟩
theorem ev_callT {A ε : Type} [EncA A] [Flat ε] {m : A → Option ε} {n : Str} {k j : Nat} {x : A} {r : ε} (C : Cal X.prog X.w X.K X.mg X.base CX0 k n (sp X.K m)) (hr : Room j X.A) (hk : k ≤ j) (ha : EvV X (e :: es) σ s x) (h : m x = some r) (hg : Gl X n := by rfl)
    (hdb : (n == ("__debug__" : Str)) = false := by decide) (he : starEach (e :: es) X.env = (false, eval e X.env) :: starEach es X.env := by rfl) (hpl : (backTo pos (starEach es X.env)).any (·.1) = false := by rfl) : Ev X (.Call (.Name n p0) (e :: es) [] pos) σ s r := fun s1 k1 Q q =>
  we_of (pe_c0 C hr hk hg pa_wa hdb he hpl) (ha s1 k1 _ fun vs s2 k2 r2 => ⟨s2.all, x, r, rfl, by rw [List.append_nil]; exact r2, h, fun v s3 k3 r3 => q v (s2.backH s3 k3.h) (k2.trans (backH_ex k3)) (Flat.iff.mpr (Flat.iff.mp r3))⟩)
theorem en_callT {A ε : Type} [EncA A] [Flat ε] {m : A → Option (List ε)} {n : Str} {k j : Nat} {x : A} {r : List ε} (C : Cal X.prog X.w X.K X.mg X.base CX0 k n (spN X.K m)) (hr : Room j X.A) (hk : k ≤ j) (ha : EvV X (e :: es) σ s x) (h : m x = some r) (hg : Gl X n := by rfl)
    (hdb : (n == ("__debug__" : Str)) = false := by decide) (he : starEach (e :: es) X.env = (false, eval e X.env) :: starEach es X.env := by rfl) (hpl : (backTo pos (starEach es X.env)).any (·.1) = false := by rfl) : EvN X (.Call (.Name n p0) (e :: es) [] pos) σ s r := fun s1 k1 Q q =>
  we_of (pe_c0 C hr hk hg pa_wa hdb he hpl) (ha s1 k1 _ fun vs s2 k2 r2 => ⟨s2.all, x, r, rfl, by rw [List.append_nil]; exact r2, h, fun p s3 k3 n3 ⟨_, vs, o1, o2⟩ => q p (s2.backH s3 k3.h) (k2.trans (backH_ex k3)) (fr_back k2 n3) ⟨(fF (s := s2) n3 : s2.F p = none), vs, o1, by rw [o2.flat]; exact Reps.of_flat _⟩⟩)
theorem do_frzD {ss : List Stmt} {xs : List (κ × α)} (iv : Iv X.K P0 s0 s L) (i : Nat) (hA : L[i]? = some (Dy.od p xs)) (k : ∀ s', Fle s.F s'.F → Iv X.K P0 s0 s' (L.set i (fz (.ref p) (Dc.mk xs))) → WSs X ss D σ s'.H) : WSs X ss D σ s.H := Hold.mk fun pins sh I => by
  obtain ⟨hf, kv, h1, h2⟩ := iv.od i hA
  obtain ⟨ob, I2⟩ := I.lock h1 trivial
  have iv1 := iv.lock i ob hA hf h1 h2
  have f : Fle s.F (upd s.F p (.frz ob (.dK kv))) := fun a o q => by rw [upd_ne (ne_of_none q hf)]; exact q
  let s' : S := ⟨upd s.F p (.frz ob (.dK kv)), upd s.H p (.frz ob (.dK kv)), fun a o q => by
    unfold upd at q ⊢
    split
    · rename_i e; rw [if_pos e] at q; exact q
    · rename_i e; rw [if_neg e] at q; exact s.sub a o q⟩
  refine Hold.run (k s' f ?_) pins sh I2
  obtain ⟨φ, g1, g2, g3⟩ := iv.o
  have hi : i < L.length := (List.getElem?_eq_some_iff.mp hA).1
  have hp : φ i p := ((g1 i _ hA).1 p).mpr rfl
  have hx : P0 p ∨ s0.H p = none := (g3 i p hp).2.1
  refine ⟨⟨iv.m.f.trans f, fun a o q n => ?_, fun a o q np n => ?_, fun a o q => ?_⟩, fun j a => if j = i then False else φ j a, fun j B hB => ?_, fun j k a q r => ?_, fun j a q => ?_⟩
  · have ne : a ≠ p := fun z => by
      subst z
      rcases hx with w | w
      · exact n w
      · rw [w] at q; cases q
    exact (upd_ne ne).trans (iv.m.h a o q n)
  · have ne : a ≠ p := fun z => by
      subst z
      rcases hx with w | w
      · exact np w
      · rw [w] at q; cases q
    exact (upd_ne ne).trans (iv.m.n a o q np n)
  · by_cases e : a = p
    · exact ⟨_, by rw [e]; exact upd_same⟩
    · obtain ⟨u, hu⟩ := iv.m.d a o q
      exact ⟨u, (upd_ne e).trans hu⟩
  · by_cases e : j = i
    · subst e
      rw [List.getElem?_set_self hi] at hB
      cases hB
      exact ⟨⟨p, ob, kv, rfl, upd_same, h2.mono f⟩, fun a => by simp⟩
    · rw [List.getElem?_set_ne (Ne.symm e)] at hB
      simp only [e, if_false]
      exact B.mono f (B.loc (fun a q => upd_ne fun z => e (g2 _ _ _ q (z ▸ hp))) (g1 j B hB))
  · by_cases e : j = i
    · simp only [e, if_true] at q
    · by_cases e2 : k = i
      · simp only [e2, if_true] at r
      · simp only [e, if_false] at q
        simp only [e2, if_false] at r
        exact g2 _ _ _ q r
  · by_cases e : j = i
    · simp only [e, if_true] at q
    · simp only [e, if_false] at q
      obtain ⟨z1, z2, z3⟩ := g3 j a q
      have ne : a ≠ p := fun z => e (g2 _ _ _ q (z ▸ hp))
      exact ⟨(upd_ne ne).trans z1, z2, by rw [List.length_set]; exact z3⟩
theorem ei_itemsF {elts : List Expr} {kk : Nat} {tpos : Pos} {x : Dc κ α} (h : Ev X e σ s x) (hbase : attributeBase e "items" X.env (eval e X.env) = eval e X.env := by rfl) (hline : (p1.endLine == pos.line) = true := by rfl) : EvI X (.Tuple elts kk tpos) (.Call (.Attribute e "items" p1) [] [] pos) σ s x.l := fun s1 k R q =>
  wi_of (pi_items pe_we hbase hline) (h s1 k _ fun v s2 k2 r2 => by
    obtain ⟨p, ob, kv, rfl, h1, h2⟩ := r2
    exact ⟨p, ob, kv, rfl, s2.sub _ _ h1, q _ s2 k2 ⟨fun i t z f hz => by
      obtain ⟨w, h3, h4⟩ := h2.get hz
      refine ⟨⟨t.sub _ _ (f _ _ h1), (List.getElem?_eq_some_iff.mp h3).1⟩, fun y H' ⟨T, k', v', h5, h6, h7, h8⟩ => ⟨t.newF T (.tup [kV k', v']) h7, h8.symm, Ex.newF h7, ?_⟩⟩
      rw [h3] at h5
      cases h5
      rw [h6]
      exact ⟨T, _, _, rfl, tup_new h7, Flat.iff.mpr (DKey.kv _), Enc.mono (Ex.newF h7).f (Enc.mono f h4)⟩, fun i t f hi => ⟨t.sub _ _ (f _ _ h1), by rw [h2.len]; exact hi⟩⟩⟩)
end
section
variable {α β κ ε : Type} [Enc α] [Enc β] [DKey κ] [DecidableEq κ] {X : Cx} {σ : L2.St} {P0 : Addr → Prop} {s0 s : S} {L R : List OA} {e a b : Expr} {pos p0 p1 : Pos} {p : Addr} {K : PySem.W.Frag}
theorem en_lockI {ys : List β} {xs : List (κ × α)} (iv : Iv X.K P0 s0 s L) (i : Nat) (hA : L[i]? = some (Dy.od p xs)) (h : ∀ (ob : Obj) (kv : List (Key × V)) (s1 : S), Iv X.K P0 s0 s1 (L.set i (Dy.odl p ob kv xs)) → EvN X e σ s1 ys) : EvN X e σ s ys := fun s1 k Q q => by
  obtain ⟨hf, kv, h1, h2⟩ := iv.od i hA
  refine we_of (pe_lock pe_we) ⟨p, .dK kv, k.h _ _ h1, trivial, fun ob => ?_⟩
  obtain ⟨hf1, kx⟩ := lk_ex (ob := ob) hf h1 k
  refine h ob kv (s.put p (.frz ob (.dK kv)) hf) (iv.lock i ob hA hf h1 h2) _ kx _ fun p2 s2 k2 n2 o2 => ?_
  obtain ⟨hf2, g1, k3⟩ := lk_back hf1 (k.h _ _ h1) k2
  refine ⟨g1, ?_⟩
  have ne : p2 ≠ p := fun z => by
    have : upd s1.H p (.frz ob (.dK kv)) p2 = none := n2
    rw [z, upd_same] at this; cases this
  have n2' : s1.H p2 = none := by
    have : upd s1.H p (.frz ob (.dK kv)) p2 = none := n2
    rw [upd_ne ne] at this; exact this
  obtain ⟨o1, vs, o3, o4⟩ := o2
  exact q p2 (s2.put p (.dK kv) hf2) k3 n2' ⟨o1, vs, (upd_ne ne).trans o3, o4⟩
theorem Iv.gd (h : Iv K P0 s0 s L) (i : Nat) {o : Obj} {kv : List (Key × V)} {xs : List (κ × α)} (e : L[i]? = some (Dy.odl p o kv xs) := by rfl) : GD K p o kv xs s := (h.odl i e).2
theorem ro0 : Ro K P0 s [] := ⟨fun i A e => by cases e⟩
def AllF (K : PySem.W.Frag) (s : S) (L : List OA) : Prop := ∀ A ∈ L, A.p K s.F s.H No
theorem all_nil : AllF K s [] := fun A h => by cases h
theorem all_cons {v : V} {x : α} (r : rep K s.F v x) (h : AllF K s L) : AllF K s (fz v x :: L) := fun A hA => by
  rcases List.mem_cons.mp hA with rfl | hA
  · exact ⟨r, fun _ z => z⟩
  · exact h A hA
theorem AllF.ex {t : S} (h : AllF K s L) (e : Ex s t) : AllF K t L := fun A hA => OA.stay (P0 := No) (h A hA) e.z fun _ _ z => z
class EqO (ε : Type) extends Flat ε where
  sc : ∀ x y : ε, scal (toV x) (toV y) = true
  ij : ∀ x y : ε, toV x = toV y ↔ x = y
instance : EqO (Option Int) := { sc := fun x y => by cases x <;> cases y <;> rfl, ij := fun x y => by cases x <;> cases y <;> simp [Flat.toV] }
instance : EqO (Option Str) := { sc := fun x y => by cases x <;> cases y <;> rfl, ij := fun x y => by cases x <;> cases y <;> simp [Flat.toV] }
theorem eb_eqF {ε : Type} [EqO ε] [DecidableEq ε] {x y : ε} (ha : Ev X a σ s x) (hb : Ev X b σ s y) : EvB X (.Compare a [.Eq] [b] pos) σ s (decide (x = y)) :=
  eb_cmp op_eq ha hb (fun v u s2 hv hu Q q => by
    rw [Flat.iff.mp hv, Flat.iff.mp hu]
    refine ⟨EqO.sc x y, ?_⟩
    rw [show decide (toV x = toV y) = decide (x = y) from decide_eq_decide.mpr (EqO.ij x y)]
    exact q) (nomark _)
theorem eb_neF {ε : Type} [EqO ε] [DecidableEq ε] {x y : ε} (ha : Ev X a σ s x) (hb : Ev X b σ s y) : EvB X (.Compare a [.NotEq] [b] pos) σ s (!decide (x = y)) :=
  eb_cmp op_ne ha hb (fun v u s2 hv hu Q q => by
    rw [Flat.iff.mp hv, Flat.iff.mp hu]
    refine ⟨EqO.sc x y, ?_⟩
    rw [show decide (toV x = toV y) = decide (x = y) from decide_eq_decide.mpr (EqO.ij x y)]
    exact q) (nomark _)
theorem eb_ch_lt_lt {x y z : Int} {c : Expr} (ha : Ev X a σ s x) (hb : Ev X b σ s y) (hc : Ev X c σ s z) (hm : lastMarks [.Lt, .Lt] [b, c] = false := by with_unfolding_all rfl) : EvB X (.Compare a [.Lt, .Lt] [b, c] pos) σ s (decide (x < y) && decide (y < z)) := eb_chain op_lt rfl op_lt rfl ha hb hc hm
theorem eb_ch_lt_le {x y z : Int} {c : Expr} (ha : Ev X a σ s x) (hb : Ev X b σ s y) (hc : Ev X c σ s z) (hm : lastMarks [.Lt, .LtE] [b, c] = false := by with_unfolding_all rfl) : EvB X (.Compare a [.Lt, .LtE] [b, c] pos) σ s (decide (x < y) && decide (y ≤ z)) := eb_chain op_lt rfl op_le rfl ha hb hc hm
theorem eb_ch_le_lt {x y z : Int} {c : Expr} (ha : Ev X a σ s x) (hb : Ev X b σ s y) (hc : Ev X c σ s z) (hm : lastMarks [.LtE, .Lt] [b, c] = false := by with_unfolding_all rfl) : EvB X (.Compare a [.LtE, .Lt] [b, c] pos) σ s (decide (x ≤ y) && decide (y < z)) := eb_chain op_le rfl op_lt rfl ha hb hc hm
theorem eb_ch_le_le {x y z : Int} {c : Expr} (ha : Ev X a σ s x) (hb : Ev X b σ s y) (hc : Ev X c σ s z) (hm : lastMarks [.LtE, .LtE] [b, c] = false := by with_unfolding_all rfl) : EvB X (.Compare a [.LtE, .LtE] [b, c] pos) σ s (decide (x ≤ y) && decide (y ≤ z)) := eb_chain op_le rfl op_le rfl ha hb hc hm
theorem ev_isiTc {n : Str} {T : String} {r : Bool} {vs : List V} (hm : X.mg "isinstance" = none) (hn : X.mg n = none) (hv : bootBuiltins n = some (.type T)) (ha : Ev X a σ s (Rw.mk (.ref p))) (hc : s.H p = some (.tup vs)) (h : kitB "tuple" T = some r)
    (hg : Gl X "isinstance" := by rfl) (hgn : Gl X n := by rfl) (he : starEach [a, .Name n p1] X.env = (false, eval a X.env) :: starEach [.Name n p1] X.env := by rfl) (he2 : starEach [.Name n p1] X.env = (false, eval (.Name n p1) X.env) :: starEach [] X.env := by rfl) (hpl : (backTo pos (starEach [.Name n p1] X.env)).any (·.1) = false := by rfl)
    (hnn : n ≠ "__name__" := by decide) (hnd : (n == ("__debug__" : Str)) = false := by decide) :
    Ev X (.Call (.Name "isinstance" p0) [a, .Name n p1] [] pos) σ s r := fun s1 k Q q =>
  we_of (pe_callB call_isi hg hm (by decide +kernel) (pa_cons pe_we (pa_cons (pe_bltn (v := .ty T) hgn hn hv rfl hnn hnd) pa_nil he2) he) (he := he) (hpl := hpl)) (ha s1 k _ fun v s2 k2 r2 => by
    cases (show v = V.ref p from r2)
    exact ⟨.ref p, .ty T, .type "tuple", .type T, r, rfl, .ty T, sqt_ty (K := X.K) (.inl (.inl ((k.trans k2).h _ _ hc))), kit_ty h, q _ s2 k2 rfl⟩)
end
def clsB (K : PySem.W.Frag) (c : Str) (fs ms : List Str) : Bool := PySem.W.plainGet K (He.ga K c) Str.empty && (PySem.W.hasDictIn K (He.ga K c) && (PySem.W.plainOver K (He.ga K c) && (He.eqO (PySem.W.findIn K (.ref (He.ga K c)) "__setattr__") (some (some (.builtin "object.__setattr__"))) &&
  (PySem.W.makesIn K (He.ga K c) && (PySem.W.keepIn K (.ref (He.ga K c)) && ((fs.all fun f => He.eqO (PySem.W.findIn K (.ref (He.ga K c)) f) (some none)) && (ms.all fun m => He.eqO (PySem.W.findIn K (.ref (He.ga K c)) m) (some (some (.ref (He.fAd K (c, some m))))) && (PySem.W.isFn K (.ref (He.fAd K (c, some m))) && PySem.W.keepIn K (.ref (He.fAd K (c, some m)))))))))))
structure ClsF (K : PySem.W.Frag) (c : Str) (fs ms : List Str) : Prop where
  cl : Cls K (He.ga K c)
  ma : PySem.W.makesIn K (He.ga K c) = true
  kp : PySem.W.keepIn K (.ref (He.ga K c)) = true
  na : ∀ f ∈ fs, NoAttr K (He.ga K c) f
  me : ∀ m ∈ ms, Meth K (He.ga K c) m (He.fAd K (c, some m))
theorem clsB_ok {K : PySem.W.Frag} {c : Str} {fs ms : List Str} (h : clsB K c fs ms = true) : ClsF K c fs ms := by
  unfold clsB at h
  obtain ⟨h1, h⟩ := He.ba h
  obtain ⟨h2, h⟩ := He.ba h
  obtain ⟨h3, h⟩ := He.ba h
  obtain ⟨h4, h⟩ := He.ba h
  obtain ⟨h5, h⟩ := He.ba h
  obtain ⟨h6, h⟩ := He.ba h
  obtain ⟨h7, h8⟩ := He.ba h
  refine ⟨⟨h1, h2, h3, He.eqO_ok h4⟩, h5, h6, fun f hf => He.eqO_ok (List.all_eq_true.mp h7 f hf), fun m hm => ?_⟩
  obtain ⟨g1, g⟩ := He.ba (List.all_eq_true.mp h8 m hm)
  obtain ⟨g2, g3⟩ := He.ba g
  exact ⟨He.eqO_ok g1, g2, g3⟩
theorem ClsF.mkOf {K : PySem.W.Frag} {c : Str} {fs ms : List Str} (h : ClsF K c fs ms) (hi : ("__init__" : Str) ∈ ms) : Mk K (He.ga K c) (He.fAd K (c, some "__init__")) := ⟨h.ma, (h.me _ hi).at_, (h.me _ hi).fn, h.kp⟩
end Dy

namespace Dy
open PySem PySem.Spec L2
open PyProof.Rows hiding St
open Enc (rep)
open Flat (toV)
open EncA (repA)
section
variable {X : Cx} {α β γ δ ε κ : Type} [Enc α] [Enc β] [Enc γ] [Enc δ] [Enc ε] [DKey κ] {K : PySem.W.Frag} {σ : L2.St} {s t : S} {a b e o : Expr} {es rest : List Expr} {p : Addr} {v : V} {pos p0 p1 p2 p3 : Pos}
theorem repH_v {x : α} (h : rep K s.F v x) (e : Ex s t) : rep K t.H v x := Enc.mono (Fle.trans e.f t.sub) h
theorem repH_r {xs : List α} (h : RepR K s v xs) (e : Ex s t) : rep K t.H v xs := by
  obtain ⟨p, vs, e1, h1, h2⟩ := h.ex e
  exact ⟨p, vs, e1, h1, h2.mono t.sub⟩
theorem repH_l {xs : List α} (h : Own K s p xs) (e : Ex s t) : rep K t.H (.ref p) xs := repH_r h.r e
theorem repH_t2 {v1 v2 : V} {x : α} {y : β} (h : s.H p = some (.tup [v1, v2])) (e : Ex s t) (h1 : rep K t.H v1 x) (h2 : rep K t.H v2 y) : rep K t.H (.ref p) (x, y) := ⟨p, v1, v2, rfl, .inl (.inl (e.h _ _ h)), h1, h2⟩
theorem repH_t3 {v1 v2 v3 : V} {x : α} {y : β} {z : γ} (h : s.H p = some (.tup [v1, v2, v3])) (e : Ex s t) (h1 : rep K t.H v1 x) (h2 : rep K t.H v2 y) (h3 : rep K t.H v3 z) : rep K t.H (.ref p) (⟨x, y, z⟩ : T3 α β γ) := ⟨p, v1, v2, v3, rfl, .inl (.inl (e.h _ _ h)), h1, h2, h3⟩
theorem repH_t4 {v1 v2 v3 v4 : V} {x : α} {y : β} {z : γ} {w : δ} (h : s.H p = some (.tup [v1, v2, v3, v4])) (e : Ex s t) (h1 : rep K t.H v1 x) (h2 : rep K t.H v2 y) (h3 : rep K t.H v3 z) (h4 : rep K t.H v4 w) : rep K t.H (.ref p) (⟨x, y, z, w⟩ : T4 α β γ δ) := ⟨p, v1, v2, v3, v4, rfl, .inl (.inl (e.h _ _ h)), h1, h2, h3, h4⟩
theorem repH_t5 {v1 v2 v3 v4 v5 : V} {x : α} {y : β} {z : γ} {w : δ} {u : ε} (h : s.H p = some (.tup [v1, v2, v3, v4, v5])) (e : Ex s t) (h1 : rep K t.H v1 x) (h2 : rep K t.H v2 y) (h3 : rep K t.H v3 z) (h4 : rep K t.H v4 w) (h5 : rep K t.H v5 u) : rep K t.H (.ref p) (⟨x, y, z, w, u⟩ : T5 α β γ δ ε) := ⟨p, v1, v2, v3, v4, v5, rfl, .inl (.inl (e.h _ _ h)), h1, h2, h3, h4, h5⟩
theorem evv_consP {A : Type} [EncA A] {x : α} {r : A} (h : Ev X e σ s (Rw.mk v)) (hx : ∀ t, Ex s t → rep X.K t.H v x) (hr : EvV X es σ s r) (hs : starEach (e :: es) X.env = (false, eval e X.env) :: starEach es X.env := by exact star_cons rfl) : EvV X (e :: es) σ s (x, r) := fun s1 k Q q =>
  wa_of (pa_cons pe_we pa_wa hs) (h s1 k _ fun w s2 k2 e2 => by
    cases (show w = v from e2)
    exact hr s2 (k.trans k2) _ fun vs s3 k3 r3 => q _ s3 (k2.trans k3) ⟨v, vs, rfl, hx s3 ((k.trans k2).trans k3), r3⟩)
theorem evv_consG {A : Type} [EncA A] {x : α} {r : A} {ok : V → List OA → Prop} (h : EvG X e σ s ok) (hx : ∀ v s1 s2 L', ok v L' → Iv X.K No s1 s2 L' → rep X.K s2.H v x) (hr : EvV X es σ s r) (hs : starEach (e :: es) X.env = (false, eval e X.env) :: starEach es X.env := by exact star_cons rfl) : EvV X (e :: es) σ s (x, r) := fun s1 k Q q =>
  wa_of (pa_cons pe_we pa_wa hs) (h s1 k _ fun w s2 L' z iv => hr s2 (k.trans iv.exx) _ fun vs s3 k3 r3 => q _ s3 (iv.exx.trans k3) ⟨w, vs, rfl, Enc.mono k3.h (hx w s1 s2 L' z iv), r3⟩)
end
section
variable {X : Cx} {D : Ends} {α : Type} [Enc α] {σ : L2.St} {s : S} {o : Expr} {rest : List Stmt} {p : Addr} {p1 p2 p3 : Pos}
theorem do_clearP {xs : List α} (ho : Ev X o σ s (Rw.mk (.ref p))) (r : Own X.K s p xs)
    (k : ∀ s1, Mx (· = p) s s1 → Own X.K s1 p ([] : List α) → WSs X rest D σ s1.H)
    (hbase : attributeBase o "clear" X.env (eval o X.env) = eval o X.env := by rfl) (hline : (p1.endLine == p2.line) = true := by rfl)
    (hsw : swapsWith (.Call (.Attribute o "clear" p1) [] [] p2) none p3.line X.env = pure false := by rfl) :
    WSs X (.Expr (.Call (.Attribute o "clear" p1) [] [] p2) p3 :: rest) D σ s.H :=
  do_cons (ps_expr (pe_bm0 PySem.F.plainAttrs_list PySem.F.slot_list_clear PySem.F.type_list_clear mt_clear pe_we hbase hline) hsw) (ho s (Ex.refl _) _ fun w s1 k1 e1 => by
    cases (show w = V.ref p from e1)
    obtain ⟨f1, vs, h2, h3⟩ := r.ex k1
    exact ⟨.inl ⟨rfl, vs, .inl (.inl h2)⟩, p, vs, rfl, rfl, h2, k (s1.put p (.lst []) f1) (k1.mx.trans (Mx.put f1)) ⟨f1, _, upd_same, trivial⟩⟩)
end
end Dy

set_option maxHeartbeats 1000000
namespace RT
open PySem PySem.Spec PyProof.Rows PySem.W
section
variable {prog : Program} {w : World} {A : Around} {E : Value → Shared → Prop} {s : Shared}
theorem call_list_rev {it l : Addr} {items : Array Value} {Q : Value → Shared → Prop} (hh : A.handled = none) (hit : s.heap.IsRevIter it l ((items.size : Int) - 1)) (hl : s.heap.IsList l items) (hne : l ≠ it) (hn : items.size ≤ sizeLine)
    (hQ : ∀ (h' : Heap) (tk : Nat) (acc : Array Value) (c' : Nat), (∀ b o, b ≠ it → s.heap.get? b = some o → h'.get? b = some o) → h'.get? s.heap.objs.size = some { cls := .type "list", dict := none, data := .seq acc c', slots := #[] } → ItemsOf (fun i v => items[items.size - 1 - i]? = some v) acc items.size →
      Q (.ref s.heap.objs.size) { s with heap := h', toks := tk }) :
    wpAny (model prog w) A (call (.type "list") [.ref it]) Q E s := by
  refine callType_codes (Q₁ := fun obj s₁ => obj = .ref s.heap.objs.size ∧ s₁ = { s with heap := s.heap.push { cls := .type "list", data := .seq #[] } }) PySem.F.called_list (PySem.F.typeCall_list_1 _) PySem.F.entry_list_init
    (code_list_new _ ⟨rfl, rfl⟩) fun obj s₁ h₁ => ?_
  obtain ⟨rfl, rfl⟩ := h₁
  have hS : (s.heap.push { cls := .type "list", data := .seq #[] }).get? s.heap.objs.size = some { cls := .type "list", data := .seq #[] } := Heap.get?_push_size _ rfl
  obtain ⟨oi, hoi, _⟩ := id hit
  obtain ⟨ol, hol, _⟩ := id hl
  have hSi : s.heap.objs.size ≠ it := Nat.ne_of_gt (Heap.lt_size hoi)
  have hSl : s.heap.objs.size ≠ l := Nat.ne_of_gt (Heap.lt_size hol)
  have hSf : s.heap.objs.size ∉ [it, l] := by simp only [List.mem_cons, List.not_mem_nil, or_false, not_or]; exact ⟨hSi, hSl⟩
  have W := (Walks.listRev (prog := prog) (w := w) (A := A.in1.in1) hh it l hne items).toS
  refine ⟨⟨_, hS, rfl⟩, PySem.F.args_list_init_2 _ _, ?_⟩
  generalize hS0 : s.heap.objs.size = S at *
  have oth0 : ∀ b o, s.heap.get? b = some o → (s.heap.push { cls := .type "list", data := .seq #[] }).get? b = some o := fun b o e => Heap.get?_push_of_some _ e
  show wpAny _ _ (do let old ← Builtin.List.listItems (.ref S); Builtin.List.listUpdate (.ref S) (fun _ => #[]); letGo old.toList.reverse; Builtin.List.listExtendWith (.ref S) (.ref it) .none) _ _ _
  refine wpAny_bind ?_
  unfold Builtin.List.listItems
  refine wpAny_bind (wpAny_seqItems hS rfl (wpAny_pure ?_))
  show wpAny _ _ (updateSeq S (fun _ => #[]) >>= fun _ => letGo (#[] : Array Value).toList.reverse >>= fun _ => Builtin.List.listExtendWith (.ref S) (.ref it) .none) _ _ _
  refine wpAny_bind (wpAny_updateSeq hS rfl ?_)
  have hS₂ := Heap.get?_update_self (Obj.mapSeq (fun _ => (#[] : Array Value))) hS rfl
  have oth : ∀ b o, b ≠ S → s.heap.get? b = some o → ((s.heap.push { cls := .type "list", data := .seq #[] }).update S (Obj.mapSeq (fun _ => (#[] : Array Value)))).get? b = some o :=
    fun b o hb e => (Heap.get?_update_other _ _ (Ne.symm hb)).trans (oth0 b o e)
  generalize hH : (s.heap.push { cls := .type "list", data := .seq #[] }).update S (Obj.mapSeq (fun _ => (#[] : Array Value))) = H2 at *
  refine wpAny_bind (wpAny_letGo ?_)
  have hit1 : H2.IsRevIter it l ((items.size : Int) - 1) := hit.at fun o e => oth it o (Ne.symm hSi) e
  have hl1 : H2.IsList l items := hl.at fun o e => oth l o (Ne.symm hSl) e
  have hT : ({ s with heap := H2 } : Shared).TypeIs (.ref it) "list_reverseiterator" := Heap.IsRevIter.typeIs (s := { s with heap := H2 }) hit1
  have h1 : Builtin.List.listSameRef (.ref S) (.ref it) = false := by simp [Builtin.List.listSameRef, hSi]
  unfold Builtin.List.listExtendWith
  refine wpAny_bind (wpAny_typeOf hT ?_)
  rw [if_neg (by rw [h1]; decide)]
  refine wpAny_bind (wpAny_pyIter_revIter (s := { s with heap := H2 }) hit1 ?_)
  refine wpAny_bind (wpAny_holding ?_)
  unfold Builtin.List.listLengthHint
  refine wpAny_bind (wpAny_specialOf hT nolen_lri ?_)
  show wpAny _ _ (specialOf (Value.ref it) (Str.ofString "__length_hint__") >>= _) _ _ _
  refine wpAny_bind (wpAny_specialOf hT hint_lri ?_)
  generalize hid : ("list_reverseiterator.__length_hint__" : String) = id0
  wp_delta
  rw [show splitId id0 = some ("list_reverseiterator", "__length_hint__") from by subst hid; decide +kernel]
  subst hid
  refine wpAny_bind (wpAny_isInstance (b := true) hT (by rw [isSubtype_type]; kernel_rfl) ?_)
  refine wpAny_pure ?_
  rw [if_neg (by decide)]
  have e0 : ((items.size : Nat) : Int) - 1 - ((0 : Nat) : Int) = (items.size : Int) - 1 := by omega
  refine wpAny_pure ⟨plainId_quiet F.plain_extend_loop _, codeAny_extend_loopS W hn _ hSf _ items.size 0 _ _ _ rfl (Nat.zero_le _) ⟨Nat.zero_le _, by rw [e0]; exact hit1, hl1⟩ hS₂ (ItemsOf.nil _) fun s' acc' c' hm hS' hacc => ?_⟩
  rw [Moved.eq_with hm]
  refine ⟨rfl, hQ s'.heap s'.toks acc' c' (fun b o hb e => hm.heap b o (fun hmem => ?_) (oth b o (fun z => ?_) e)) hS' hacc⟩
  · rcases List.mem_cons.mp hmem with e' | hmem
    · exact absurd (Heap.lt_size e) (by rw [e', hS0]; exact Nat.lt_irrefl _)
    · exact hb (List.mem_singleton.mp hmem)
  · exact absurd (Heap.lt_size e) (by rw [z, hS0]; exact Nat.lt_irrefl _)
end
end RT
namespace L2
open PySem PySem.Spec PyProof.Rows RT
section
variable {X : Cx}
def tLstRev (K : PySem.W.Frag) (te : TE) : TE := fun σ H Q => te σ H fun v H1 => ∃ (a : Addr) (xs : List V), v = .ref a ∧ SqL K H1 a xs ∧ ∀ q, H1 q = none → Q (.ref q) (upd H1 q (.lst xs.reverse))
theorem pe_listRev {e : Expr} {te : TE} {p p2 pos pos2 : Pos} (hc : X.calm = true) (hg : Gl X "list") (hm : X.mg "list" = none) (hg2 : Gl X "reversed") (hm2 : X.mg "reversed" = none) (he : PE X e te)
    (hs : starEach [e] X.env = (false, eval e X.env) :: starEach [] X.env := by rfl)
    (hs2 : starEach [.Call (.Name "reversed" p2) [e] [] pos2] X.env = (false, eval (.Call (.Name "reversed" p2) [e] [] pos2) X.env) :: starEach [] X.env := by rfl) :
    PE X (.Call (.Name "list" p) [.Call (.Name "reversed" p2) [e] [] pos2] [] pos) (tLstRev X.K te) := by
  refine ⟨fun pins s σ H Q I h => ?_⟩
  refine Call_ (ld_blt I hg hm boot_list (PyProof.Rows.callWith_type1 (args_cons (Call_ (ld_blt I hg2 hm2 PyProof.Rows.boot_reversed (PyProof.Rows.callWith_type1 (args_cons (thn (he.run pins s σ H _ I h) fun u s1 ⟨v, H1, I1, r1, q1⟩ => args_nil ?_) hs) hs rfl))) hs2) hs2 rfl))
  obtain ⟨a, xs, ev, hq, q⟩ := q1
  subst ev
  obtain rfl : u = Value.ref a := r1
  obtain ⟨its, rv, p', hz⟩ := I1.list hq
  refine call_reversed_list p'.isList (args_nil ?_)
  have k0 : ∀ b o, s1.heap.get? b = some o → (s1.heap.push (revObj a ((its.toArray.size : Int) - 1))).get? b = some o := fun b o e => Heap.get?_push_of_some _ e
  have I2 : Inv X pins σ H1 { s1 with heap := s1.heap.push (revObj a ((its.toArray.size : Int) - 1)) } := I1.kept (t' := s1.toks) k0
  obtain ⟨f0, f1, f2, f3, f4, f5⟩ := I1.fpOk (H' := H1) (b := s1.heap.objs.size) (Nat.le_refl _) (I1.hok.fresh (Nat.le_refl _))
  have hl := p'.isList
  obtain ⟨ol, hol, _⟩ := id hl
  have hne : a ≠ s1.heap.objs.size := Nat.ne_of_lt (Heap.lt_size hol)
  have hn : its.toArray.size ≤ sizeLine := by rw [List.size_toArray, ← rv.length]; exact hz
  refine call_list_rev (s := { s1 with heap := s1.heap.push (revObj a ((its.toArray.size : Int) - 1)) }) (I1.ok.hd hc) ⟨_, Heap.get?_push_size _ rfl, rfl, rfl⟩ (hl.push _) hne hn fun h' tk acc c' hk hS' hi => ?_
  have hfr : H1 (s1.heap.push (revObj a ((its.toArray.size : Int) - 1))).objs.size = none := I2.hok.fresh (Nat.le_refl _)
  have k1 : ∀ b o, (s1.heap.push (revObj a ((its.toArray.size : Int) - 1))).get? b = some o → ((s1.heap.push (revObj a ((its.toArray.size : Int) - 1))).push { cls := .type "list", dict := none, data := .seq acc c', slots := #[] }).get? b = some o := fun b o e => Heap.get?_push_of_some _ e
  have I3 := I2.laid (t' := s1.toks) k1 (Nat.le_refl _) (show ObjOk X.prog X.w _ _ _ (.lst xs.reverse) from ⟨by rw [List.length_reverse]; exact hz, acc.toList, c', vals_rev rv hi, by rw [Array.toArray_toList]; exact Heap.get?_push_size _ rfl⟩)
  have hin : s1.heap.objs.size ≠ (s1.heap.push (revObj a ((its.toArray.size : Int) - 1))).objs.size := by
    rw [show (s1.heap.push (revObj a ((its.toArray.size : Int) - 1))).objs.size = s1.heap.objs.size + 1 from by simp [Heap.push]]
    omega
  have I4 : Inv X pins σ (upd H1 (s1.heap.push (revObj a ((its.toArray.size : Int) - 1))).objs.size (.lst xs.reverse)) { s1 with heap := h', toks := tk } := Inv.turned (s := { s1 with heap := (s1.heap.push (revObj a ((its.toArray.size : Int) - 1))).push { cls := .type "list", dict := none, data := .seq acc c', slots := #[] } }) I3 (t' := tk) (it := s1.heap.objs.size) (fun b o hb e => by
    rcases PySem.Heap.get?_push_cases e with ⟨e1, e2⟩ | e1
    · rw [e1, e2]; exact hS'
    · exact hk b o hb e1) (by rw [upd_ne hin]; exact f0) f1 f3 f4 f5
  exact ⟨.ref _, _, I4, rfl, q _ hfr⟩
end
end L2
namespace Dy
open PySem PySem.Spec L2
open PyProof.Rows hiding St
section
variable {X : Cx} {α : Type} [Enc α] {σ : L2.St} {s : S} {e : Expr} {p0 p2 pos pos2 : Pos}
theorem en_listRev {xs : List α} (hm : X.mg "list" = none) (hm2 : X.mg "reversed" = none) (ha : EvR X e σ s xs) (hc : X.calm = true := by rfl) (hg : Gl X "list" := by rfl) (hg2 : Gl X "reversed" := by rfl)
    (hs : starEach [e] X.env = (false, eval e X.env) :: starEach [] X.env := by rfl)
    (hs2 : starEach [.Call (.Name "reversed" p2) [e] [] pos2] X.env = (false, eval (.Call (.Name "reversed" p2) [e] [] pos2) X.env) :: starEach [] X.env := by rfl) : EvN X (.Call (.Name "list" p0) [.Call (.Name "reversed" p2) [e] [] pos2] [] pos) σ s xs.reverse := fun s1 k Q q =>
  we_of (pe_listRev hc hg hm hg2 hm2 pe_we hs hs2) (ha s1 k _ fun v s2 k2 r2 => by
    obtain ⟨p, vs, ev, h1, h2⟩ := r2
    exact ⟨p, vs, ev, h1, fun l hl => q l (s2.newO l _ hl) (k2.trans (Ex.newO hl)) (fr_back k2 hl) (own_new hl h2.rev)⟩)
end
end Dy

namespace Dy
open PySem PySem.Spec L2
open PyProof.Rows hiding St
open Enc (rep)
open EncA (repA)
section
variable {X : Cx} {σ : L2.St} {s : S} {a b c : Expr} {pos : Pos} {okA okB : V → List OA → Prop} {x : Bool}
theorem eg_if (h : EvT X c σ s x) (h1 : x = true → EvG X a σ s okA) (h2 : x = false → EvG X b σ s okB) : EvG X (.IfExp c a b pos) σ s (fun v L' => (x = true ∧ okA v L') ∨ (x = false ∧ okB v L')) := fun s1 k Q q =>
  we_of (pe_ifExp pt_wt pe_we pe_we) (h s1 k _ fun s2 k2 => by
    cases x with
    | true => exact iteT (h1 rfl s2 (k.trans k2) Q fun v s3 L' z i => q v s3 L' (.inl ⟨rfl, z⟩) (((Iv.tops (P0 := No) 0 s1).ex k2).add i))
    | false => exact iteF (h2 rfl s2 (k.trans k2) Q fun v s3 L' z i => q v s3 L' (.inr ⟨rfl, z⟩) (((Iv.tops (P0 := No) 0 s1).ex k2).add i)))
end
end Dy

set_option maxHeartbeats 1000000
namespace L2
open PySem PySem.Spec PyProof.Rows
def wAsM (K : PySem.W.Frag) (i : Nat) : List (Value × (Addr → Value → Option Addr → TS)) → WX → Ends → WX
  | [], Wout, _ => Wout
  | (c, ts) :: r, Wout, D => wAs K c i ts (wAsM K i r Wout D) D
inductive HdsAs (X : Cx) (i : Nat) (n : Str) : List ExceptHandler → List (Value × (Addr → Value → Option Addr → TS)) → Prop
  | nil : HdsAs X i n [] []
  | cons {x : Str} {c : Value} {ts : Addr → Value → Option Addr → TS} {b₀ : Stmt} {suite : List Stmt} {np pos' : Pos} {hds : List ExceptHandler} {l : List (Value × (Addr → Value → Option Addr → TS))} (hc : Names X x c)
      (hsu : ∀ (a : Addr) (oe : Obj) (cls : Value) (d : Option Addr) (pn : List (Addr × Obj)), Zc cls d oe → (∃ vs, oe.data = .fields vs) → PSs (X.suite a ((a, oe) :: pn)) (b₀ :: suite) (ts a cls d)) (r : HdsAs X i n hds l) :
      HdsAs X i n (.ExceptHandler (some (.Name x np)) (some n) (b₀ :: suite) pos' :: hds) ((c, ts) :: l)
section
variable {X : Cx} {n : Str} {i : Nat} {body : List Stmt} {h₀ : ExceptHandler} {hds : List ExceptHandler} {l : List (Value × (Addr → Value → Option Addr → TS))} {pos : Pos} {tb : WX → TS} {Wout : WX}
theorem ps_try_asN (hs : X.stack = X.env :: X.outer) (hf : X.env.frame = some X.env.locals) (hN : X.N.Nodup) (hi : X.N[i]? = some n) (hln : X.env.kindOf n = some .local) (tk : Takes X Wout)
    (hb : ∀ (W : WX) (pn : List (Addr × Obj)) (xe : Value → Shared → Prop), Takes (X.tr pn xe) W → PassesOwn (model X.prog X.w) X.A X.env xe → PSs (X.tr pn xe) body (tb W))
    (hh : HdsAs X i n (h₀ :: hds) l) :
    PS X (.Try body (h₀ :: hds) [] [] pos) (fun D σ H => tb (wAsM X.K i l Wout D) D σ H) := by
  refine ⟨fun pins s σ H D I h => ?_⟩
  have ok := I.ok
  have hfr : X.A.frames = some (X.env :: X.outer) := by rw [ok.frames, hs]
  have hloc : Loc X.env.scope n := .inl hln
  refine wpAny_Try_except ?_
  refine wpAny_mono ((hb (wAsM X.K i l Wout D) (X.pn ++ pins) (fun e s₁ => wpAny (model X.prog X.w) X.A (noteFrame e X.env) (fun _ s₂ => wpAny (model X.prog X.w) X.A (setFlight e none) (fun _ s₃ =>
    wpAny (model X.prog X.w) X.A (handleBy e X.env (h₀ :: hds)) (SP X pins D) X.xe s₃) X.xe s₂) X.xe s₁) (fun u s' xx => ?_) PassesOwn.looking).run [] s σ H D (I.toTry _) h) (fun f s1 hsp => ?_) (fun e s1 he => he)
  · -- the catch
    obtain ⟨a, B, sI, pins', σ', H', cls, d, rfl, J', nb, up, sky, na, os, ag, w⟩ := xx
    have J : Inv X pins σ' H' sI := J'.ofTry ok
    have sky' : Sky B (X.env :: X.outer) a (Zc cls d) X.env.locals s'.heap := by rw [← hs]; exact sky
    show wpAny (model X.prog X.w) X.A (noteFrame (.ref a) X.env) _ _ _
    refine Sky.land Zc.steady hfr hf sky' fun h3 fl3 up3 => ?_
    have J3 : Inv X pins σ' H' { s' with heap := h3 } := J.landed nb fl3.1 (up.trans up3) os ag
    obtain ⟨oe3, vs3, he3, hz3, hd3⟩ := fl3.there
    have notFr : ∀ {h : Heap} {o : Obj} {vs : Array Value}, h.FunFrames B (X.env :: X.outer) → h.get? a = some o → o.data = .fields vs → a ∉ frs (X.env :: X.outer) := fun {h o vs} ff e dd hm => by
      obtain ⟨_, o', e', hnf⟩ := ff.mem hm
      rw [e] at e'; cases e'
      exact hnf _ dd
    have nfr := notFr fl3.2.2.1 he3 hd3
    have nL : a ≠ X.env.locals := fun z => nfr (List.mem_filterMap.mpr ⟨X.env, List.mem_cons_self, by rw [hf, z]⟩)
    have nF : a ∉ X.fs := fun hm => by
      obtain ⟨e, he, q⟩ := List.mem_filterMap.mp hm
      exact nfr (List.mem_filterMap.mpr ⟨e, List.mem_cons_of_mem _ he, q⟩)
    have S3 := J3.suite he3 hd3 na nL nF
    have go : ∀ {hds' : List ExceptHandler} {l' : List (Value × (Addr → Value → Option Addr → TS))}, HdsAs X i n hds' l' → wAsM X.K i l' Wout D cls d σ' H' →
        wpAny (model X.prog X.w) X.A (handleBy (.ref a) X.env hds') (SP X pins D) X.xe { s' with heap := h3 } := by
      intro hds' l' hk
      induction hk with
      | nil =>
        intro w
        refine wpAny_handleBy_nil ?_
        obtain ⟨k1, k2, k3, oe, vs, T, oT, ts', he, hz, hd, h1, hr⟩ := id fl3
        unfold PySem.passOn
        refine wpAny_bind (wpAny_field he hd h1 ?_)
        rw [if_neg (show ¬ ((Value.ref T == Value.none) = true) from by simp)]
        have fin : wpAny (model X.prog X.w) X.A (setFlight (.ref a) X.env.frame) (fun _ s4 => wpAny (model X.prog X.w) X.A (throw (.ref a) : Sem Flow) (SP X pins D) X.xe s4) X.xe { s' with heap := h3 } := by
          rw [hf]
          refine HandSPX.setFlight_upZ fl3 fun h4 hh4 up4 => wpAny_throw (tk _ _ ?_)
          exact ⟨a, B, sI, pins, σ', H', cls, d, rfl, J, nb, (up.trans up3).trans up4, .inr (.inr (by rw [hs]; exact hh4)), na, os, ag, w⟩
        first
          | exact wpAny_bind (wpAny_pure (wpAny_bind fin))
          | exact wpAny_bind fin
      | @cons x c ts b₀ suite np pos' hds2 l2 hc hsu r ih =>
        intro w
        obtain ⟨b, hb1, hyes, hno⟩ := w
        refine wpAny_handleBy_cons (codeAny_handlers_test ?_) (by intro q; cases q)
        have LT : PySem.W.Looks (model X.prog X.w) h3 (typeOf (.ref a)) cls := fun A Q E s k q => wpAny_typeOf_ref (k _ _ he3) (by rw [hz3.1]; exact q)
        have LM := PySem.W.exm_one (M := model X.prog X.w) (J3.kIn) LT hb1
        have test : ∀ {Q : Value → Shared → Prop} {E : Value → Shared → Prop}, Q c { s' with heap := h3 } → wpAny (model X.prog X.w) (X.A.mark (some (.ref a))) (eval (.Name x np) X.env) Q E { s' with heap := h3 } := fun {Q E} q => by
          obtain ⟨hg, hdbg, hm | ⟨hm, hv, hnn⟩⟩ := hc
          · exact ld_glob (X := X.suite a ((a, oe3) :: (X.pn ++ pins))) S3 hg hm q hdbg
          · exact ld_blt (X := X.suite a ((a, oe3) :: (X.pn ++ pins))) S3 hg hm hv q hnn hdbg
        refine test (LM.here ?_)
        cases b with
        | true =>
          refine codeAny_handlers_suite_as ?_
          refine HandSPX.lands_againZ fl3 fun h4 fl4 up4 => ?_
          have J4 : Inv X pins σ' H' { s' with heap := h4 } := J.landed nb fl4.1 ((up.trans up3).trans up4) os ag
          obtain ⟨oe4, vs4, he4, hz4, hd4⟩ := fl4.there
          have S4 := J4.suite he4 hd4 na nL nF
          refine store_ok (X := X.suite a ((a, oe4) :: (X.pn ++ pins))) (v := .ref a) S4 hN hi hloc rfl (fun s5 S5 => ?_) (.inr hln)
          refine wpAny_mono ((hsu a oe4 cls d (X.pn ++ pins) hz4 ⟨_, hd4⟩).run [] s5 _ H' _ S5 (hyes rfl a na)) (fun f s6 hsp => ?_) (fun _ _ z => False.elim z)
          have end_ : ∀ {σ6 : St} {H6 : Hp} {Q : Shared → Prop}, Inv (X.suite a ((a, oe4) :: (X.pn ++ pins))) [] σ6 H6 s6 → (∀ s7, Inv X pins (σ6.set i none) H6 s7 → Q s7) →
              wpAny (model X.prog X.w) X.A (do bindName X.env n .none; unbindBehindTheSuite X.env n pos') (fun _ s7 => Q s7) X.xe s6 := fun {σ6 H6 Q} S6 hq => gone_ok (S6.unsuite ok) hN hi hln hq
          cases f with
          | next =>
            obtain ⟨σ6, H6, S6, q6⟩ := hsp
            exact end_ S6 fun s7 J7 => ⟨_, _, J7, q6⟩
          | brk =>
            obtain ⟨σ6, H6, S6, q6⟩ := hsp
            exact end_ S6 fun s7 J7 => ⟨_, _, J7, q6⟩
          | cont =>
            obtain ⟨σ6, H6, S6, q6⟩ := hsp
            exact end_ S6 fun s7 J7 => ⟨_, _, J7, q6⟩
          | ret u =>
            obtain ⟨v6, σ6, H6, S6, r6, q6⟩ := hsp
            exact end_ S6 fun s7 J7 => ⟨_, _, _, J7, r6, q6⟩
        | false => exact ih (hno rfl)
    exact go hh w
  · cases f with
    | next =>
      obtain ⟨σ', H', J', q⟩ := hsp
      exact wpAny_execs_nil ⟨σ', H', J'.ofTry ok, q⟩
    | brk =>
      obtain ⟨σ', H', J', q⟩ := hsp
      exact ⟨σ', H', J'.ofTry ok, q⟩
    | cont =>
      obtain ⟨σ', H', J', q⟩ := hsp
      exact ⟨σ', H', J'.ofTry ok, q⟩
    | ret u =>
      obtain ⟨v, σ', H', J', r, q⟩ := hsp
      exact ⟨v, σ', H', J'.ofTry ok, r, q⟩
end
end L2
namespace Dy
open PySem PySem.Spec L2
open PyProof.Rows hiding St
section
variable {X : Cx} {σ : L2.St} {s : S} {D : Ends} {rest : List Stmt}
theorem was_no {K : PySem.W.Frag} {c : Value} {i : Nat} {ts : Addr → Value → Option Addr → TS} {Wout : WX} {cls : Value} {d : Option Addr} {H : Hp} (h1 : PySem.W.exmOne K cls c = some false) (h2 : Wout cls d σ H) : wAs K c i ts Wout D cls d σ H := ⟨false, h1, fun z => (by cases z), fun _ => h2⟩
theorem do_tryAs2 (i : Nat) {x y n : Str} {c c' : Value} {body suite suite' : List Stmt} {b₀ b₁ : Stmt} {np np' pos pos' pos'' : Pos} {Wout : WX} (hN : X.N.Nodup) (hcN : Names X x c) (hcN' : Names X y c') (tk : Takes X Wout)
    (h : ∀ pn xe, Takes (X.tr pn xe) (wAs X.K c i (fun a cls d D σ H => ∀ (oe : Obj) (pn : List (Addr × Obj)), Zc cls d oe → (∃ vs, oe.data = .fields vs) → WSs (X.suite a ((a, oe) :: pn)) (b₀ :: suite) D σ H)
        (wAs X.K c' i (fun a cls d D σ H => ∀ (oe : Obj) (pn : List (Addr × Obj)), Zc cls d oe → (∃ vs, oe.data = .fields vs) → WSs (X.suite a ((a, oe) :: pn)) (b₁ :: suite') D σ H) Wout { D with nx := fun σ' H' => WSs X rest D σ' H' }) { D with nx := fun σ' H' => WSs X rest D σ' H' }) → PassesOwn (model X.prog X.w) X.A X.env xe →
      WSs (X.tr pn xe) body { D with nx := fun σ' H' => WSs X rest D σ' H' } σ s.H)
    (hs : X.stack = X.env :: X.outer := by rfl) (hf : X.env.frame = some X.env.locals := by rfl) (hi : X.N[i]? = some n := by rfl) (hln : X.env.kindOf n = some .local := by rfl) :
    WSs X (.Try body [.ExceptHandler (some (.Name x np)) (some n) (b₀ :: suite) pos', .ExceptHandler (some (.Name y np')) (some n) (b₁ :: suite') pos''] [] [] pos :: rest) D σ s.H :=
  do_cons (ps_try_asN (l := [(c, fun a cls d D σ H => ∀ (oe : Obj) (pn : List (Addr × Obj)), Zc cls d oe → (∃ vs, oe.data = .fields vs) → WSs (X.suite a ((a, oe) :: pn)) (b₀ :: suite) D σ H), (c', fun a cls d D σ H => ∀ (oe : Obj) (pn : List (Addr × Obj)), Zc cls d oe → (∃ vs, oe.data = .fields vs) → WSs (X.suite a ((a, oe) :: pn)) (b₁ :: suite') D σ H)])
    (tb := fun W D σ H => ∀ pn xe, Takes (X.tr pn xe) W → PassesOwn (model X.prog X.w) X.A X.env xe → WSs (X.tr pn xe) body D σ H)
    hs hf hN hi hln tk (fun W pn xe t po => pss_im fun D σ H hh => hh pn xe t po)
    (.cons hcN (fun a oe cls d pn hz hv => pss_im fun D σ H hh => hh oe pn hz hv) (.cons hcN' (fun a oe cls d pn hz hv => pss_im fun D σ H hh => hh oe pn hz hv) .nil))) h
end
end Dy

namespace Dy
open PySem PySem.Spec L2
open PyProof.Rows hiding St
open Enc (rep)
open EncA (repA)
structure HL4 (α β γ δ : Type) where
  a : α
  b : β
  c : γ
  d : δ
deriving DecidableEq
instance {α β γ δ : Type} [Enc α] [Enc β] [Enc γ] [Enc δ] : Enc (HL4 α β γ δ) := ⟨fun K F v x => ∃ p v1 v2 v3 v4, v = .ref p ∧ SqL K F p [v1, v2, v3, v4] ∧ rep K F v1 x.a ∧ rep K F v2 x.b ∧ rep K F v3 x.c ∧ rep K F v4 x.d, fun e h => by
  obtain ⟨p, v1, v2, v3, v4, rfl, h0, h1, h2, h3, h4⟩ := h
  exact ⟨p, v1, v2, v3, v4, rfl, sql_mono e h0, Enc.mono e h1, Enc.mono e h2, Enc.mono e h3, Enc.mono e h4⟩⟩
instance {α β γ δ : Type} [EqD α] [EqD β] [EqD γ] [EqD δ] : EqD (HL4 α β γ δ) := ⟨fun x => .list [EqD.toD x.a, EqD.toD x.b, EqD.toD x.c, EqD.toD x.d], fun h f => by
  obtain ⟨p, v1, v2, v3, v4, rfl, h0, h1, h2, h3, h4⟩ := h
  exact .lst (sql_mono f h0) (.cons (EqD.dp h1 f) (.cons (EqD.dp h2 f) (.cons (EqD.dp h3 f) (.cons (EqD.dp h4 f) .nil)))), fun x y => by
    obtain ⟨x1, x2, x3, x4⟩ := x
    obtain ⟨y1, y2, y3, y4⟩ := y
    show (PyData.eqv _ _ && (PyData.eqv _ _ && (PyData.eqv _ _ && (PyData.eqv _ _ && true)))) = true ↔ _
    rw [Bool.and_eq_true, Bool.and_eq_true, Bool.and_eq_true, Bool.and_eq_true, EqD.eqv, EqD.eqv, EqD.eqv, EqD.eqv]; simp⟩
section
variable {α β γ δ : Type} [Enc α] [Enc β] [Enc γ] [Enc δ] {X : Cx} {σ : L2.St} {s : S} {es : List Expr} {pos : Pos}
theorem ev_hl4 {x : α} {y : β} {z : γ} {w : δ} (h : EvA X es σ s (x, y, z, w, ())) : Ev X (.List es pos) σ s (⟨x, y, z, w⟩ : HL4 α β γ δ) := fun s1 k Q q =>
  we_of (pe_lst pa_wa) (h s1 k _ fun vs s2 k2 r2 => by
    obtain ⟨v1, _, rfl, r1, v2, _, rfl, r2, v3, _, rfl, r3, v4, _, rfl, r4, rfl⟩ := r2
    exact ⟨show _ ≤ 2 ^ 24 by simp, fun p hp => q _ (s2.newF p (.lst [v1, v2, v3, v4]) hp) (k2.trans (Ex.newF hp)) ⟨p, v1, v2, v3, v4, rfl, .inl (.inl upd_same), Enc.mono (Ex.newF hp).f r1, Enc.mono (Ex.newF hp).f r2, Enc.mono (Ex.newF hp).f r3, Enc.mono (Ex.newF hp).f r4⟩⟩)
end
end Dy
namespace Dy
open PySem PySem.Spec L2
open PyProof.Rows hiding St
open Enc (rep)
open EncA (repA)
section
variable {X : Cx} {σ : L2.St} {s s0 : S} {P0 : Addr → Prop} {L R0 : List OA} {e : Expr} {A O : Type} {pre : List V → A → List OA → List OA → Prop} {m : A → Option O} {ok : List V → A → O → V → List OA → Prop} {er : List V → A → O → Er → List OA → Prop} {Φ : List V → S → Prop} {x : A} {o : O}
theorem ex_callG {er' : Er → Prop} {W : WX} (c : Calls X e σ s (spI X.K pre m ok er) (L2.WE W σ) Φ) (iv : Iv X.K P0 s0 s L) (ro : Ro X.K P0 s0 R0) (rs : List (Nat ⊕ Nat))
    (hp : ∀ vs s2, Ex s s2 → Φ vs s2 → ∃ Lf, pre vs x Lf (rsel L R0 rs) ∧ (∀ A ∈ Lf, A.p X.K s2.F s2.H No) ∧ (∀ v L', ok vs x o v L' → False) ∧ (∀ e L', er vs x o e L' → er' e)) (hm : m x = some o)
    (hw : ∀ e cls d s', er' e → Ex s s' → ExR X.K s'.F e cls d → W cls d σ s'.H) : EvX X e σ s := fun s1 k1 Q =>
  c s1 k1 Q fun vs s2 k2 φ => by
    obtain ⟨Lf, h1, h2, h3, h4⟩ := hp vs s2 (k1.trans k2) φ
    obtain ⟨P1, g1, g2, g3, g4⟩ := call_in (iv.ex (k1.trans k2)) ro [] List.nodup_nil (fun k hk => by simp at hk) Lf h2 rs (fun i _ hk => by simp at hk)
    have hP : ∀ s' L', Iv X.K P1 s2 s' L' → Ex s2 s' := fun s' L' i => by
      have e1 : P1 = fun _ => False := funext fun a => propext ⟨fun z => g3 rfl a z, fun z => z.elim⟩
      subst e1
      exact i.exx
    exact ⟨s2, P1, _, _, x, o, rfl, h1, g1, g2, hm, fun v s' L' hok iv' => (h3 v L' hok).elim, fun e cls d s' L' z iv' r => hw e cls d s' (h4 e L' z) ((k1.trans k2).trans (hP s' L' iv')) r⟩
end
section
def DpRD {α : Type} [ToD α] {K : PySem.W.Frag} {F H : Hp} (f : Fle F H) : ∀ {vs : List V} {xs : List α}, Reps K F vs xs → DpAll K H vs (xs.map ToD.td)
  | [], [], _ => .nil
  | _ :: _, _ :: _, ⟨h, t⟩ => .cons (ToD.tdp h f) (DpRD f t)
  | [], _ :: _, h => h.elim
  | _ :: _, [], h => h.elim
instance {α : Type} [ToD α] : ToD (Tu α) := ⟨fun x => .tuple (x.l.map ToD.td), fun h f => by
  obtain ⟨p, vs, rfl, h1, h2⟩ := h
  exact .tup (sqt_mono f h1) (DpRD f h2)⟩
end
end Dy

namespace Dy
open PySem PySem.Spec L2
open PyProof.Rows hiding St
open Enc (rep)
open EncA (repA)
instance {α β : Type} [Enc α] [Enc β] : Enc (α ⊕ β) := ⟨fun K F v x => match x with
  | .inl y => rep K F v y
  | .inr y => rep K F v y, fun {K F F' v x} e h => by
  cases x with
  | inl y => exact Enc.mono (α := α) e h
  | inr y => exact Enc.mono (α := β) e h⟩
def sm {α β γ : Type} (x : α ⊕ β) (f : α → γ) (g : β → γ) : γ := match x with
  | .inl y => f y
  | .inr y => g y
theorem smL {α β γ : Type} {y : α} {f : α → γ} {g : β → γ} {r : γ} (h : sm (.inl y) f g = r) : f y = r := h
theorem smR {α β γ : Type} {y : β} {f : α → γ} {g : β → γ} {r : γ} (h : sm (.inr y) f g = r) : g y = r := h
end Dy

namespace Dy
open PySem PySem.Spec L2
open PyProof.Rows hiding St

section
variable {M : Model} {A : Around} {E : Value → Shared → Prop} {s : Shared} {env : Env}
def cEnd (M : Model) (A : Around) (E : Value → Shared → Prop) (use : Option (Value → Sem Unit)) (Q : Value → Shared → Prop) (acc : Value) (ce : Env) (r : Result) (t : Shared) : Prop := match r, use with
  | .ok _, none => ∃ m, t.heap.Ns ce.locals m ∧ ∀ g, Heap.SameBut ce.locals t.heap g → Q acc { t with heap := g }
  | .ok _, some u => wpAny M A (u acc) (fun _ t' => ∃ m, t'.heap.Ns ce.locals m ∧ ∀ g, Heap.SameBut ce.locals t'.heap g → Q .none { t' with heap := g }) E t
  | .error x, _ => ∃ m, t.heap.Ns ce.locals m ∧ ∀ g, Heap.SameBut ce.locals t.heap g → wpAny M A (passOn "comprehension.variables-let-go" x ce : Sem Value) (fun _ _ => False) E { t with heap := g }
theorem cEnd_err {use : Option (Value → Sem Unit)} {Q : Value → Shared → Prop} {acc : Value} {ce : Env} {x : Value} {t : Shared} (h : ∃ m, t.heap.Ns ce.locals m ∧ ∀ g, Heap.SameBut ce.locals t.heap g → wpAny M A (passOn "comprehension.variables-let-go" x ce : Sem Value) (fun _ _ => False) E { t with heap := g }) : cEnd M A E use Q acc ce (.error x) t := by
  cases use <;> exact h
theorem cEnd_errE {use : Option (Value → Sem Unit)} {Q : Value → Shared → Prop} {acc : Value} {ce : Env} {x : Value} {t : Shared} (h : cEnd M A E use Q acc ce (.error x) t) : ∃ m, t.heap.Ns ce.locals m ∧ ∀ g, Heap.SameBut ce.locals t.heap g → wpAny M A (passOn "comprehension.variables-let-go" x ce : Sem Value) (fun _ _ => False) E { t with heap := g } := by
  cases use <;> exact h
theorem comp_runs {e : Expr} {scope : Scope} {pos : Pos} {newAcc first : Sem Value} {c0 : Comprehension} {cs : List Comprehension} {cl : List (Str × Addr)} {use : Option (Value → Sem Unit)} {Q : Value → Shared → Prop}
    (h1 : clausesOf e = c0 :: cs) (h2 : ∀ x, foldedSetIterable c0.iter env x = pure x) (h3 : closureFor scope env = pure cl) (h4 : scope.kind = .function) (h5 : ∀ x ∈ scope.names, x.2 = .local → scope.names.lookup x.1 = some .local)
    (h : wpAny M A first (fun x t₁ => wpAny M A (pyIter x) (fun it t₂ => wpAny M A newAcc (fun acc t₃ => wpAny M A (newFunctionEnv scope env.globals cl [] env.qual none .none (some env)) (fun ce t₄ =>
      codeAny M A (.compStart e 0 it acc { ce with scope := relabel scope env }) (cEnd M A E use Q acc { ce with scope := relabel scope env }) t₄) E t₃) E t₂) E t₁) E s) :
    wpAny M A (comprehension e scope env pos newAcc false first use) Q E s := by
  unfold comprehension; rw [h3, h1]
  apply wpAny_bind
  apply wpAny_mono h _ (fun _ _ z => z)
  intro x t₁ k₁
  apply wpAny_bind; apply wpAny_standAt; apply wpAny_bind
  apply wpAny_of_eq (h2 x)
  apply wpAny_bind; apply wpAny_holding
  apply wpAny_mono k₁ _ (fun _ _ z => z)
  intro it t₂ k₂
  apply wpAny_standIf; apply wpAny_bind
  apply wpAny_mono k₂ _ (fun _ _ z => z)
  intro acc t₃ k₃
  apply wpAny_bind; apply wpAny_pure; apply wpAny_bind
  apply wpAny_mono k₃ _ (fun _ _ z => z)
  intro ce t₄ k₄
  dsimp only
  generalize hce : ({ ce with scope := relabel scope env } : Env) = ce' at k₄
  have hl : ce'.locals = ce.locals := by subst hce; rfl
  have hk : ce'.scope.kind = .function := by subst hce; exact h4
  have hv : ∀ x ∈ (scope.names.filter fun x => (x.2 == .local || x.2 == .cell) && x.1 != (".0" : Str)).reverse, x.2 = .local → Env.kindOf ce' x.1 = some .local := by
    intro x hx e
    subst hce
    exact lookup_relabel_local (h5 x (List.mem_filter.mp (List.mem_reverse.mp hx)).1 e)
  have hw : ∀ x ∈ (scope.names.filter fun x => (x.2 == .local || x.2 == .cell) && x.1 != (".0" : Str)).reverse.drop 1 ++ (scope.names.filter fun x => (x.2 == .local || x.2 == .cell) && x.1 != (".0" : Str)).reverse.take 1, x.2 = .local → Env.kindOf ce' x.1 = some .local := by
    intro x hx e
    exact (List.mem_append.mp hx).elim (fun z => hv x (List.mem_of_mem_drop z) e) fun z => hv x (List.mem_of_mem_take z) e
  apply wpAny_holding; apply wpAny_bind; apply wpAny_attempt; apply wpAny_holding
  subst hce
  refine wpAny_run (codeAny_mono k₄ ?_)
  intro r t₅ k₅
  rcases r with x | f
  · obtain ⟨m, n, k⟩ := cEnd_errE k₅
    refine wpAny_bind (wpAny_holding (wpAny_comp_letGo hk _ t₅ m hv n ?_))
    intro g m' _ sb
    exact wpAny_mono (k g sb) (fun _ _ z => z.elim) (fun _ _ z => z)
  · cases use with
    | none =>
      obtain ⟨m, n, k⟩ := k₅
      refine wpAny_bind (wpAny_holding (wpAny_comp_letGo hk _ t₅ m hv n ?_))
      intro g m' _ sb
      exact wpAny_pure (k g sb)
    | some u =>
      apply wpAny_bind; apply wpAny_rule; apply wpAny_bind; apply wpAny_holding
      refine wpAny_mono k₅ ?_ (fun _ _ z => z)
      intro _ t₆ k₆
      obtain ⟨m, n, k⟩ := k₆
      refine wpAny_bind (wpAny_comp_letGo hk _ t₆ m hw n ?_)
      intro g m' _ sb
      exact wpAny_pure (k g sb)
end
theorem note_same {x : Value} {e1 e2 : Env} (h : e1.frame = e2.frame) : noteFrame x e1 = noteFrame x e2 := by
  unfold noteFrame PySem.frameOf
  rw [h]
theorem blk_out {X : Cx} {W : WX} {s3 : Shared} {H3 : Hp} {σ : L2.St} {pins : List (Addr × Obj)} {scope : Scope} {ce : Env} {fp : List Addr} {use : Option (Value → Sem Unit)} {Qf : Value → Shared → Prop} {acc : Value} (tk : Takes X W)
    (hs : X.stack = X.env :: X.outer) (hf : X.env.frame = some X.env.locals) (I3 : Inv X pins σ H3 s3) (f3 : ∀ b ∈ fp, FpOk X pins H3 b ∧ b < s3.heap.objs.size) (cL : ce.locals = s3.heap.objs.size) (cf : ce.frame = X.env.frame) (pn : List (Addr × Obj)) (σ' : L2.St) :
    PassesAt (L2.CX X.prog X.w) ((X.blk s3 H3 scope ce fp).tr pn (notedBy (model X.prog X.w) X.A ce fun e t => cEnd (model X.prog X.w) X.A X.xe use Qf acc ce (.error e) t)) σ' (fun cls d H' => W cls d σ H') := by
  intro ps H s5 e s6 I5 c
  obtain ⟨a, B, H', cls, d, rfl, fl, hokB, ub, na, os, ag, w⟩ := c
  have hfr : X.A.frames = some (X.env :: X.outer) := I3.ok.frames.trans (by rw [hs])
  obtain ⟨m, hm, _⟩ := id I5.loc
  have hm : s5.heap.Ns s3.heap.objs.size m := by rw [← cL]; exact hm
  obtain ⟨oC, es, ep, hC, hCd, hCr⟩ := id hm
  have nC : H s3.heap.objs.size = none := by rw [← cL]; exact I5.free
  have fs : ∀ b ∈ frs X.stack, b < s3.heap.objs.size := fun b hb => by
    obtain ⟨_, o, z, _⟩ := I3.stack.mem hb
    exact Heap.lt_size z
  have nfC : s3.heap.objs.size ∉ frs X.stack := fun z => Nat.lt_irrefl _ (fs _ z)
  have BC : B.get? s3.heap.objs.size = some oC := ub.keep _ _ hC nC nfC
  have un : Un (frs X.stack) fp H3 H s3.heap s5.heap := I5.base
  show wpAny _ X.A (noteFrame (.ref a) ce) _ _ s6
  rw [note_same cf]
  have fl' : HandSPX.FlyingZ B (X.env :: X.outer) a (Zc cls d) s6.heap := by rw [← hs]; exact fl
  refine HandSPX.looks_onZ Zc.steady hfr hf fl' ?_
  intro h1 held up1
  refine cEnd_err ?_
  refine ⟨m, ?_, ?_⟩
  · rw [cL]
    exact ⟨oC, es, ep, held.1 _ _ BC, hCd, hCr⟩
  intro h2 sb
  rw [cL] at sb
  obtain ⟨k1, k2, k3, oe, vs, T, oT, ts, t1, t2, t3, t4, t5, t6, t7, t8, t9⟩ := held
  have aC : a ≠ s3.heap.objs.size := fun z => by rw [z, BC] at k2; cases k2
  have TC : T ≠ s3.heap.objs.size := fun z => by rw [z, BC] at t5; cases t5
  obtain ⟨B', b1, b2⟩ := restrict B fun b => decide (b ≠ s3.heap.objs.size)
  have b1' : ∀ b, b ≠ s3.heap.objs.size → B'.get? b = B.get? b := fun b hb => b1 b (by simpa using hb)
  have b2' : B'.get? s3.heap.objs.size = none := b2 _ (by simp)
  have low : ∀ b o, B'.get? b = some o → B.get? b = some o ∧ b ≠ s3.heap.objs.size := fun b o z => by
    by_cases q : b = s3.heap.objs.size
    · rw [q, b2'] at z; cases z
    · exact ⟨(b1' b q).symm.trans z, q⟩
  have gone : ∀ b, B.get? b = none → B'.get? b = none := fun b z => by
    cases q : B'.get? b with
    | none => rfl
    | some o => rw [(low b o q).1] at z; cases z
  have held2 : HandSPX.HeldZ B' (X.env :: X.outer) a (Zc cls d) X.env.locals h2 := by
    refine ⟨fun b o z => ?_, gone a k2, ?_, oe, vs, T, oT, ts, (sb.2 a aC).trans t1, t2, t3, t4, gone T t5, t6, (sb.2 T TC).trans t7, t8, t9⟩
    · obtain ⟨q1, q2⟩ := low b o z
      exact (sb.2 b q2).trans (k1 b o q1)
    · have all : ∀ l : List Env, (∀ b ∈ frs l, b ≠ s3.heap.objs.size) → h1.FunFrames B l → h2.FunFrames B' l := by
        intro l
        induction l with
        | nil => intro _ _; trivial
        | cons x r ih =>
          intro hne hh
          obtain ⟨f1, ⟨L, o, f2, f3, f4, f5⟩, f6⟩ := hh
          have hL : L ∈ frs (x :: r) := List.mem_filterMap.mpr ⟨x, List.mem_cons_self, f2⟩
          refine ⟨f1, ⟨L, o, f2, gone L f3, (sb.2 L (hne L hL)).trans f4, f5⟩, ih (fun b hb => hne b ?_) f6⟩
          obtain ⟨y, hy, q⟩ := List.mem_filterMap.mp hb
          exact List.mem_filterMap.mpr ⟨y, List.mem_cons_of_mem _ hy, q⟩
      exact all _ (fun b hb => Nat.ne_of_lt (fs b (by rw [hs]; exact hb))) k3
  show wpAny _ X.A (passOn "comprehension.variables-let-go" (.ref a) ce : Sem Value) _ X.xe { s6 with heap := h2 }
  unfold PySem.passOn
  refine wpAny_bind (wpAny_field ((sb.2 a aC).trans t1) t3 t4 ?_)
  have nn : (Value.ref T == Value.none) = false := by simp
  rw [nn, if_neg Bool.false_ne_true]
  refine wpAny_bind ?_
  rw [cf, hf]
  refine HandSPX.setFlight_onZ (s := { s6 with heap := h2 }) held2 ?_
  intro h3 held3 up3
  refine wpAny_throw (tk _ _ ?_)
  obtain ⟨G, g1, g2⟩ := restrict h3 fun b => (B'.get? b).isSome || decide (b ∈ frs X.stack)
  have st3 : B'.StaysIn h3 := held3.1
  have gB : ∀ b o, B'.get? b = some o → G.get? b = some o := fun b o z => (g1 b (by simp [z])).trans (st3 b o z)
  have gF : ∀ b, b ∈ frs X.stack → G.get? b = h3.get? b := fun b hb => g1 b (by simp [hb])
  have og : ∀ b o, G.get? b = some o → h3.get? b = some o ∧ ((B'.get? b).isSome = true ∨ b ∈ frs X.stack) := fun b o z => by
    cases q : ((B'.get? b).isSome || decide (b ∈ frs X.stack)) with
    | false => rw [g2 b q] at z; cases z
    | true => exact ⟨(g1 b q).symm.trans z, by simpa [Bool.or_eq_true] using q⟩
  have n3 : ∀ {b o}, s3.heap.get? b = some o → b ≠ s3.heap.objs.size := fun z => Nat.ne_of_lt (Heap.lt_size z)
  have nHC : H' s3.heap.objs.size = none := ub.free _ _ hC nC
  have slots : ∀ b ∈ frs X.stack, ∀ o, s3.heap.get? b = some o → H3 b = none → b ∉ fp → ∃ sl, G.get? b = some { o with slots := sl } := fun b hb o z hn hx => by
    obtain ⟨_, o', z', nf⟩ := I3.stack.mem hb
    rw [z] at z'; cases z'
    obtain ⟨l1, z1⟩ := un.slot b o z hn hb hx
    obtain ⟨l2, z2⟩ := ub.slot b _ z1 hb
    obtain ⟨l3, z3⟩ := up1 b _ z2 nf
    have z4 := (sb.2 b (n3 z)).trans z3
    obtain ⟨l5, z5⟩ := up3 b _ z4 nf
    exact ⟨l5, (gF b hb).trans z5⟩
  have u : Un (frs X.stack) fp H3 H' s3.heap G := by
    refine ⟨fun b o z hn hb hx => ?_, fun b o z hn hb hx => slots b hb o z hn hx, fun b o z hn hx => ?_, fun b o z hx => ?_, fun b xs z => ub.tups _ _ (un.tups _ _ z), fun b o xs z => ub.frzs _ _ _ (un.frzs _ _ _ z), fun b p z => ?_⟩
    · exact gB b o ((b1' b (n3 z)).trans (ub.keep b o (un.keep b o z hn hb hx) (un.free b o z hn hx) hb))
    · obtain ⟨o', z'⟩ := un.there b o z hx
      exact ub.free b o' z' (un.free b o z hn hx)
    · by_cases hb : b ∈ frs X.stack
      · obtain ⟨_, o', z', _⟩ := I3.stack.mem hb
        rw [z] at z'; cases z'
        obtain ⟨l, q⟩ := slots b hb o z (I3.stkFree b hb) hx
        exact ⟨_, q⟩
      · obtain ⟨o', z'⟩ := un.there b o z hx
        obtain ⟨o2, z2⟩ := ub.there b o' z' hb
        exact ⟨o2, gB b o2 ((b1' b (n3 z)).trans z2)⟩
    · obtain ⟨p1, q1⟩ := un.tbls b p z
      obtain ⟨p2, q2⟩ := ub.tbls b _ q1
      exact ⟨p1 ++ p2, by rw [q2, Array.append_assoc]⟩
  have hokG : HOk X.prog X.w H' G := fun b o q => (hokB b o q).stay (fun c v hc z => gB c v ((b1' c fun e => by
      rcases hc with r | r
      · rw [← r, e, nHC] at q; cases q
      · rw [e, nHC] at r; cases r).trans z)) (fun _ z => z) fun _ _ z => z
  have IG : Inv X pins σ H' { s6 with heap := G } := I3.call' (ch := fp) (by show s6.os = s3.os; rw [os]; exact I5.os) u hokG ag fun b hb => ⟨(f3 b hb).1.2.2.2.1, (f3 b hb).1.2.1, (f3 b hb).1.2.2.2.2.1, (f3 b hb).1.2.2.2.2.2⟩
  refine ⟨a, B', { s6 with heap := G }, pins, σ, H', cls, d, rfl, IG, fun b o z hb => ?_, Heap.UpToSlots.of_keeps fun b o z => (og b o z).1, .inr (.inr ?_), na, rfl, ag, w⟩
  · obtain ⟨z1, z2⟩ := og b o z
    rcases z2 with z2 | z2
    · obtain ⟨o', q⟩ := Option.isSome_iff_exists.mp z2
      rw [st3 b o' q] at z1; cases z1
      exact q
    · exact absurd z2 hb
  · rw [hs]; exact held3
abbrev BlkX (X : Cx) (scope : Scope) (s0 : Shared) (H0 : Hp) (C : Addr) (cl : List (Str × Addr)) (fp : List Addr) (pn : List (Addr × Obj)) (xe : Value → Shared → Prop) : Cx := (X.blk s0 H0 scope (compEnvC scope cl C X.env) fp).tr pn xe
theorem lcx_core {X : Cx} {W : WX} {pins : List (Addr × Obj)} {s : Shared} {σ : L2.St} {H : Hp} {Q : VK} {elt tg iter : Expr} {ifs : List Expr} {scope : Scope} {own : List (Str × Nat)} {pos pos' : Pos} {wi : TI} {g : TG} {tt : TT} {te : TE} {use : Option (Value → Sem Unit)} {Qf : Value → Shared → Prop}
    (hc : X.calm = true) (hN : X.N.Nodup) (tk : Takes X W) (hs0 : X.stack = X.env :: X.outer) (hf0 : X.env.frame = some X.env.locals) (I : Inv X pins σ H s) (hi : PI X tg iter wi) (ok : BlkOk X.N X.env.scope scope own)
    (hg : ∀ (s : Shared) (H : Hp) (C : Addr) (cl : List (Str × Addr)) (fp : List Addr), PG (X.blk s H scope (compEnvC scope cl C X.env) fp) tg g) (ht : ∀ (s : Shared) (H : Hp) (C : Addr) (cl : List (Str × Addr)) (fp : List Addr), PTs (X.blk s H scope (compEnvC scope cl C X.env) fp) ifs tt)
    (he : ∀ s0 H0 C cl fp pn xe, (∀ σ', PassesAt (L2.CX X.prog X.w) (BlkX X scope s0 H0 C cl fp pn xe) σ' (fun cls d H' => W cls d σ H')) → PE (BlkX X scope s0 H0 C cl fp pn xe) elt te) (hs : ∀ x, foldedSetIterable iter X.env x = pure x)
    (h : tLc wi g tt te (own.map (·.2)) σ H Q)
    (hRR : ∀ D ce s' m H', Inv X pins σ H' s' → Q (.ref D) H' → s'.heap.Ns ce.locals m → FpOk X pins H' ce.locals → cEnd (model X.prog X.w) X.A X.xe use Qf (.ref D) ce (.ok .next) s') :
    wpAny (model X.prog X.w) X.A (comprehension (.ListComp elt [⟨tg, iter, ifs, 0⟩] scope pos) scope X.env pos' (newList []) false (eval iter X.env) use) Qf X.xe s := by
  have hfree : ∀ y ∈ scope.names, y.2 = .free → ∃ c, X.env.cells.lookup y.1 = some c := by
    intro y hy e
    exact (ok.free y hy e).elim (fun k => I.ok.has _ (.inl k)) fun k => I.ok.has _ (.inr k)
  refine comp_runs (use := use) rfl hs (closure_ok hfree) ok.kind (fun y hy e => by rw [ok.uniq y hy, e]) ?_
  apply thn (hi.run pins s σ H _ I h)
  intro xv t1 hx
  apply thn hx
  rintro itv t2 ⟨it, fp, tn, J, H2, rfl, I2, T, st2, f2, q⟩
  refine wpAny_newObj_type (newEnv_comp ?_) (by show 0 ≤ sizeLine; decide)
  obtain ⟨D, hD⟩ : ∃ D, D = t2.heap.objs.size := ⟨_, rfl⟩
  rw [← hD]
  obtain ⟨W0, ⟨m0, w0⟩, turn⟩ := q D (I2.hok.fresh (Nat.le_of_eq hD.symm))
  generalize hs3 : ({ t2 with heap := t2.heap.push { cls := .type "list", data := .seq ([] : List Value).toArray } } : Shared) = s3
  have e3 : s3.heap = t2.heap.push { cls := .type "list", data := .seq ([] : List Value).toArray } := by rw [← hs3]
  have I3 : Inv X pins σ (upd H2 D (.lst [])) s3 := by
    subst hs3 hD
    exact I2.laid (t' := t2.toks) (fun b o z => Heap.get?_push_of_some _ z) (Nat.le_refl _) ⟨Nat.zero_le _, [], 0, .nil, Heap.get?_push_size _ rfl⟩
  have f3 : ∀ b ∈ fp, FpOk X pins (upd H2 D (.lst [])) b ∧ b < s3.heap.objs.size := by
    intro b hb
    obtain ⟨o, z, _⟩ := T.obj _ _ st2 b hb
    have lt := Heap.lt_size z
    refine ⟨⟨?_, (f2 b hb).2⟩, by rw [e3, Heap.size_push]; exact Nat.lt_succ_of_lt lt⟩
    rw [upd_ne (by rw [hD]; exact Nat.ne_of_lt lt)]
    exact (f2 b hb).1
  have st3 : tn 0 s3.heap := T.keep _ _ _ st2 fun b _ o z => by rw [e3]; exact Heap.get?_push_of_some _ z
  have I4 := block_start I3 ok hN f3
  show codeAny _ _ (.compStart (.ListComp elt [⟨tg, iter, ifs, 0⟩] scope pos) 0 (.ref it) (.ref D) (compEnvC scope (cellsFrom (s3.heap.objs.size + 1) scope.names (cloFrom X.env.cells scope.names [])) s3.heap.objs.size X.env)) (cEnd (model X.prog X.w) X.A X.xe use Qf (.ref D) (compEnvC scope (cellsFrom (s3.heap.objs.size + 1) scope.names (cloFrom X.env.cells scope.names [])) s3.heap.objs.size X.env)) { s3 with heap := pushCells (s3.heap.push { cls := .type "dict", data := .dict #[] }) scope.names }
  generalize cellsFrom (s3.heap.objs.size + 1) scope.names (cloFrom X.env.cells scope.names []) = cl at I4 ⊢
  have pg := hg s3 (upd H2 D (.lst [])) s3.heap.objs.size cl fp
  have pt := ht s3 (upd H2 D (.lst [])) s3.heap.objs.size cl fp
  have px := he s3 (upd H2 D (.lst [])) s3.heap.objs.size cl fp
  unfold BlkX at px
  have pas := fun pn σ' => blk_out (scope := scope) (ce := compEnvC scope cl s3.heap.objs.size X.env) (use := use) (Qf := Qf) (acc := .ref D) tk hs0 hf0 I3 f3 rfl rfl pn σ'
  have n3 : ∀ b ∈ fp, (upd H2 D (.lst [])) b = none := fun b hb => (f3 b hb).1.1
  have cL : (compEnvC scope cl s3.heap.objs.size X.env).locals = s3.heap.objs.size := rfl
  generalize hce : compEnvC scope cl s3.heap.objs.size X.env = ce at I4 pg pt px pas cL ⊢
  generalize upd H2 D (.lst []) = H3 at I3 I4 pg pt px pas w0 n3 f3
  generalize hs4 : ({ s3 with heap := pushCells (s3.heap.push { cls := .type "dict", data := .dict #[] }) scope.names } : Shared) = s4 at I4 ⊢
  have st4 : tn 0 s4.heap := T.keep _ _ _ st3 fun b _ o z => by rw [← hs4]; exact pushCells_keeps _ _ _ _ (Heap.get?_push_of_some _ z)
  have stat : ∀ {σ' : L2.St} {H' : Hp} {s' : Shared}, Inv (X.blk s3 H3 scope ce fp) [] σ' H' s' → (∀ b ∈ fp, H' b = none) → ∀ b ∈ fp, FpOk (X.blk s3 H3 scope ce fp) [] H' b := by
    intro σ' H' s' I' hn b hb
    exact ⟨hn b hb, (I'.ok.exf b hb).1, I'.ok.exfs b hb, .inl hb, fun x c z => (I'.ok.exf b hb).2 x c z, fun p hp => absurd (show p ∈ ([] : List (Addr × Obj)) ++ [] from hp) (by simp)⟩
  have loop : codeAny (model X.prog X.w) X.A (.compLoop (.ListComp elt [⟨tg, iter, ifs, 0⟩] scope pos) 0 (.ref it) (.ref D) ce) (cEnd (model X.prog X.w) X.A X.xe use Qf (.ref D) ce) s4 := by
    apply compLoop_any (fun n s' => ∃ i H', Inv (X.blk s3 H3 scope ce fp) [] (wipe σ (own.map (·.2))) H' s' ∧ tn i s'.heap ∧ (∀ b ∈ fp, H' b = none) ∧ W0 i n H') _ m0 ⟨0, H3, I4, st4, n3, w0⟩
    rintro n s5 ⟨i, H5, I5, st5, n5, w5⟩
    rcases turn i n H5 w5 with ⟨stop, qq⟩ | ⟨go, Nx, hNx, step⟩
    · apply thnF (T.done (X.blk s3 H3 scope ce fp) rfl rfl rfl hc i [] s5 _ H5 (fun _ _ => False) I5 (stat I5 n5) st5 stop)
      rintro r s6 ⟨rfl, I6⟩
      have I7 : Inv X pins σ H5 s6 := I3.call' (ch := fp) I6.os I6.base I6.hok I6.bare fun b hb => ⟨(f3 b hb).1.2.2.2.1, (f3 b hb).1.2.1, (f3 b hb).1.2.2.2.2.1, (f3 b hb).1.2.2.2.2.2⟩
      have nC : H5 ce.locals = none := I6.free
      obtain ⟨m, hn, _⟩ := I6.loc
      exact hRR D ce s6 m H5 I7 qq hn (I3.fpOk (by rw [cL]; exact Nat.le_refl _) nC)
    · apply thnF (T.item (X.blk s3 H3 scope ce fp) rfl rfl rfl hc i [] s5 _ H5 (fun _ _ => False) I5 (stat I5 n5) st5 go)
      rintro r s6 ⟨u, rfl, h6⟩
      apply thnF h6
      rintro _ s7 ⟨x, H7, I7, r7, y7, st7, n7⟩
      apply thnF (pg.run _ s7 _ H7 x u _ (I7.pinned (stat I7 n7) (T.obj _ _ st7)) r7 (step x H7 y7))
      rintro _ s8 ⟨σ8, H8, I8, hw8, q8⟩
      apply thnF (pt.run _ s8 σ8 H8 _ I8 q8)
      rintro b s9 ⟨H9, I9, q9⟩
      have fin : ∀ {s' : Shared} {H' : Hp}, Inv (X.blk s3 H3 scope ce fp) ([] ++ pinsAt fp s7.heap) σ8 H' s' → Nx H' → ∃ m, m < n ∧ ∃ i H', Inv (X.blk s3 H3 scope ce fp) [] (wipe σ (own.map (·.2))) H' s' ∧ tn i s'.heap ∧ (∀ b ∈ fp, H' b = none) ∧ W0 i m H' := by
        intro s' H' I' nx
        obtain ⟨m', hm, w'⟩ := hNx H' nx
        have pin' : ∀ b ∈ fp, ∀ o, s7.heap.get? b = some o → s'.heap.get? b = some o ∧ H' b = none := by
          intro b hb o z
          obtain ⟨z1, z2, _⟩ := I'.pin (b, o) (List.mem_append_right _ (List.mem_append_right _ (mem_pinsAt hb z)))
          exact ⟨z1, z2⟩
        refine ⟨m', hm, i + 1, H', (I'.unpinned (pins := [])).weak (by rw [← hw8, wipe_length]) ?_, T.keep _ _ _ st7 fun b hb o z => (pin' b hb o z).1, ?_, w'⟩
        · intro j v z
          rw [← hw8] at z
          exact (wipe_some z).1
        · intro b hb
          obtain ⟨o, z, _⟩ := T.obj _ _ st7 b hb
          exact (pin' b hb o z).2
      cases b with
      | false =>
        rw [if_neg Bool.false_ne_true] at q9 ⊢
        exact fin I9 q9
      | true =>
        rw [if_pos rfl] at q9 ⊢
        have pe := px _ _ (pas ((X.blk s3 H3 scope ce fp).pn ++ ([] ++ pinsAt fp s7.heap)))
        refine wpAny_mono (pe.run [] s9 σ8 H9 _ (I9.toTry _) q9) ?_ (fun _ _ z => z)
        rintro z s10 ⟨yv, H10, I10, r10, acc, hD10, hz10, nx⟩
        exact app_ok (X := X.blk s3 H3 scope ce fp) (I10.ofTry I9.ok) hD10 hz10 r10 fun s11 I11 => fin I11 nx
  exact codeAny_compStart_list loop (T.self X.A 0 _ _ _ st4 loop)
end Dy

namespace Dy
open PySem PySem.Spec L2
open PyProof.Rows hiding St
open Enc (rep)
open EncA (repA)

def mapR {α β : Type} (f : α → Option (Rz β)) : List α → Option (Rz (List β))
  | [] => some (.ok [])
  | x :: xs => match f x with
    | none => none
    | some (.er e) => some (.er e)
    | some (.ok y) => match mapR f xs with
      | none => none
      | some (.er e) => some (.er e)
      | some (.ok ys) => some (.ok (y :: ys))
def okO {β : Type} (m : Option (Rz β)) : Option β := match m with
  | some (.ok y) => some y
  | _ => none
theorem okO_some {β : Type} {m : Option (Rz β)} {y : β} (h : okO m = some y) : m = some (.ok y) := by
  match m with
  | none => cases h
  | some (.er e) => cases h
  | some (.ok z) => cases h; rfl
theorem mapR_ok {α β : Type} {f : α → Option (Rz β)} : ∀ {xs : List α} {ys : List β}, mapR f xs = some (.ok ys) → mapO (fun x => okO (f x)) xs = some ys
  | [], ys, h => by cases h; rfl
  | x :: xs, ys, h => by
    unfold mapR at h
    cases hx : f x with
    | none => rw [hx] at h; cases h
    | some r => cases r with
      | er e => rw [hx] at h; cases h
      | ok y =>
        rw [hx] at h
        dsimp only at h
        cases hr : mapR f xs with
        | none => rw [hr] at h; cases h
        | some q => cases q with
          | er e => rw [hr] at h; cases h
          | ok zs =>
            rw [hr] at h
            cases h
            have := mapR_ok hr
            unfold mapO at this ⊢
            unfold compO
            rw [Option.bind_some, if_pos rfl, hx]
            show Option.bind (some y) _ = _
            rw [Option.bind_some, this]
            rfl
def ErX (K : PySem.W.Frag) (s : S) (er : Er) : XK := fun cls d H' => ∃ s2 : S, s2.H = H' ∧ Ex s s2 ∧ ExR K s2.F er cls d
section
variable {X : Cx} {σ : L2.St} {s : S} {e : Expr} {es : List Expr} {p0 pos : Pos}
theorem evX_callP {A : Type} [EncA A] {ρ : Type} [Enc ρ] {m : A → Option (Rz ρ)} {n : Str} {k j : Nat} {x : A} {er : Er} {s0 : S} (C : Cal X.prog X.w X.K X.mg X.base (L2.CX X.prog X.w) k n (spR X.K m)) (px : ∀ σ', PassesAt (L2.CX X.prog X.w) X σ' (ErX X.K s0 er)) (k0 : Ex s0 s) (hr : Room j X.A) (hk : k ≤ j)
    (ha : EvA X (e :: es) σ s x) (h : m x = some (.er er)) (hg : Gl X n := by rfl)
    (hdb : (n == ("__debug__" : Str)) = false := by decide) (he : starEach (e :: es) X.env = (false, eval e X.env) :: starEach es X.env := by rfl) (hpl : (backTo pos (starEach es X.env)).any (·.1) = false := by rfl) : EvX X (.Call (.Name n p0) (e :: es) [] pos) σ s := fun s1 k1 Q => by
  obtain ⟨f, fd, ps, F, hm, kp, b⟩ := C.ex
  exact we_of (pe_callS (E := fun _ => ErX X.K s0 er) F (hr.mono hk) hg hm kp b px pa_wa hdb he hpl) (ha s1 k1 _ fun vs s2 k2 r2 => ⟨s2, x, .er er, rfl, r2, h, fun cls d s3 k3 r3 => ⟨s3, rfl, k0.trans ((k1.trans k2).trans k3), r3⟩⟩)
end
section
variable {α β : Type} [Enc α] [Enc β] {X : Cx} {σ : L2.St} {s : S} {elt tg iter c : Expr} {scope : Scope} {own : List (Str × Nat)} {pos : Pos} {W : WX}
abbrev teX (X : Cx) (scope : Scope) (elt : Expr) (s : S) (er : Er) : TE := fun σ H Q => ∀ s0 H0 C cl fp pn xe, (∀ σ', PassesAt (L2.CX X.prog X.w) (BlkX X scope s0 H0 C cl fp pn xe) σ' (ErX X.K s er)) → WE (BlkX X scope s0 H0 C cl fp pn xe) elt σ H Q
theorem comp_readX {xs : List α} {f : α → Option (Rz β)} {er : Er} {g : TG} {B : Hp → α → L2.St → L2.St → Prop} (hi : EvI X tg iter σ s xs) (T : Tgt (α := α) X.K g B) (hf : mapR f xs = some (.er er)) (hz : xs.length ≤ sizeLine)
    (hw : ∀ (F : Hp) (x : α) σ2, B F x (wipe σ (own.map (·.2))) σ2 → wipe σ2 (own.map (·.2)) = wipe σ (own.map (·.2)))
    (he : ∀ (x : α) (y : β) (s1 : S) (σ2 : L2.St), x ∈ xs → Ex s s1 → B s1.F x (wipe σ (own.map (·.2))) σ2 → f x = some (.ok y) → ∀ s0 H0 C cl fp pn xe, Ev (BlkX X scope s0 H0 C cl fp pn xe) elt σ2 s1 y)
    (hx : ∀ (x : α) (s1 : S) (σ2 : L2.St), x ∈ xs → Ex s s1 → B s1.F x (wipe σ (own.map (·.2))) σ2 → f x = some (.er er) → ∀ s0 H0 C cl fp pn xe, (∀ σ', PassesAt (L2.CX X.prog X.w) (BlkX X scope s0 H0 C cl fp pn xe) σ' (ErX X.K s er)) → EvX (BlkX X scope s0 H0 C cl fp pn xe) elt σ2 s1)
    (s1 : S) (k : Ex s s1) (Q : VK) : tLc (WI X tg iter) g tYes (teX X scope elt s er) (own.map (·.2)) σ s1.H Q := by
  refine hi s1 k _ fun J s2 k2 W => ?_
  intro D hD
  refine ⟨fun i m H => ∃ (u : S) (pre : List β) (vs : List V), u.H = H ∧ m = xs.length - i ∧ Ex s2 u ∧ u.F D = none ∧ u.H D = some (.lst vs) ∧ Reps X.K u.F vs pre ∧ vs.length = i ∧ mapR f (xs.drop i) = some (.er er), ⟨xs.length, s2.newO D (.lst []) hD, [], [], rfl, rfl, Ex.newO hD, (fF hD : s2.F D = none), upd_same, trivial, rfl, hf⟩, ?_⟩
  rintro i m H ⟨u, pre, vs, rfl, rfl, ku, n1, n2, n3, n4, h1⟩
  by_cases hi' : i < xs.length
  · right
    have hx' : xs[i]? = some xs[i] := List.getElem?_eq_getElem hi'
    obtain ⟨g1, g2⟩ := W.go i u xs[i] ku.f hx'
    refine ⟨g1, fun H' => ∃ m', m' < xs.length - i ∧ ∃ (u : S) (pre : List β) (vs : List V), u.H = H' ∧ m' = xs.length - (i + 1) ∧ Ex s2 u ∧ u.F D = none ∧ u.H D = some (.lst vs) ∧ Reps X.K u.F vs pre ∧ vs.length = i + 1 ∧ mapR f (xs.drop (i + 1)) = some (.er er), fun H' z => z, fun v H' hy => ?_⟩
    obtain ⟨u', rfl, ku', rv⟩ := g2 v H' hy
    refine T.run u' v xs[i] _ _ rv fun σ2 hB => ⟨hw _ _ _ hB, ?_⟩
    have mem : xs[i] ∈ xs := List.getElem_mem hi'
    have base : Ex s u' := (k.trans k2).trans (ku.trans ku')
    unfold tYes
    dsimp only
    rw [if_pos rfl]
    rw [List.drop_eq_getElem_cons hi'] at h1
    unfold mapR at h1
    intro s0 H0 C cl fp pn xe hp
    cases hfx : f xs[i] with
    | none => rw [hfx] at h1; cases h1
    | some r => cases r with
      | er e2 =>
        rw [hfx] at h1
        cases h1
        exact hx xs[i] u' σ2 mem base hB hfx s0 H0 C cl fp pn xe hp u' (Ex.refl u') _
      | ok y =>
        rw [hfx] at h1
        dsimp only at h1
        have h2 : mapR f (xs.drop (i + 1)) = some (.er er) := by
          cases hr : mapR f (xs.drop (i + 1)) with
          | none => rw [hr] at h1; cases h1
          | some q => cases q with
            | er e2 => rw [hr] at h1; cases h1; rfl
            | ok ys => rw [hr] at h1; cases h1
        refine he xs[i] y u' σ2 mem base hB hfx s0 H0 C cl fp pn xe u' (Ex.refl _) _ fun w u4 k4 r4 => ?_
        have k5 : Ex u u4 := ku'.trans k4
        have hD4 : u4.H D = some (.lst vs) := k5.h _ _ n2
        have hF4 : u4.F D = none := k5.n _ _ n2 n1
        exact ⟨vs, hD4, by omega, _, by omega, u4.put D (.lst (vs ++ [w])) hF4, pre ++ [y], vs ++ [w], rfl, rfl, (ku.trans k5).mu1 (Mx.put hF4) hD, hF4, upd_same, (n3.mono k5.f).snoc r4, by rw [List.length_append, n4]; rfl, h2⟩
  · rw [List.drop_eq_nil_of_le (by omega)] at h1
    cases h1
structure EvLX (X : Cx) (elt tg iter : Expr) (scope : Scope) (σ : L2.St) (s : S) : Prop where
  calm : X.calm = true
  nd : X.N.Nodup
  fs : ∀ x, foldedSetIterable iter X.env x = pure x
  st : X.stack = X.env :: X.outer
  fr : X.env.frame = some X.env.locals
  ex : ∃ (own : List (Str × Nat)) (g : TG) (W : WX) (er : Er), BlkOk X.N X.env.scope scope own ∧ (∀ s0 H0 C cl fp, PG (Blk X scope s0 H0 C cl fp) tg g) ∧ Takes X W ∧ (∀ s2, Ex s s2 → ∀ cls d, ExR X.K s2.F er cls d → W cls d σ s2.H) ∧
    ∀ s1, Ex s s1 → ∀ Q : VK, tLc (WI X tg iter) g tYes (teX X scope elt s er) (own.map (·.2)) σ s1.H Q
theorem EvLX.run {ps : Pos} {use : Option (Value → Sem Unit)} {Qf : Value → Shared → Prop} {pins : List (Addr × Obj)} {sh : Shared} {s1 : S} (h : EvLX X elt tg iter scope σ s) (k : Ex s s1) (I : Inv X pins σ s1.H sh) :
    wpAny (model X.prog X.w) X.A (comprehension (.ListComp elt [⟨tg, iter, [], 0⟩] scope pos) scope X.env ps (newList []) false (eval iter X.env) use) Qf X.xe sh := by
  obtain ⟨own, g, W, er, h1, h2, tk, hw, h4⟩ := h.ex
  have tk' : Takes X (fun cls d σ' H' => σ' = σ ∧ ErX X.K s er cls d H') := tk.imp fun cls d σ' H' z => by
    obtain ⟨rfl, s2, rfl, k2, r⟩ := z
    exact hw s2 k2 cls d r
  refine lcx_core (W := fun cls d σ' H' => σ' = σ ∧ ErX X.K s er cls d H') h.calm h.nd tk' h.st h.fr I pi_wi h1 h2 (fun _ _ _ _ _ => pts_nil) (te := teX X scope elt s er) (fun s0 H0 C cl fp pn xe hp => pe_im fun _ _ _ q => q s0 H0 C cl fp pn xe (fun σ' pins H s' e s'' i c => hp σ' pins H s' e s'' i ?_)) h.fs (h4 s1 k (fun _ _ => False)) (fun D ce s' m H' _ q => q.elim)
  obtain ⟨a, B, H', cls, d, c1, c2, c3, c4, c5, c6, c7, c8⟩ := c
  exact ⟨a, B, H', cls, d, c1, c2, c3, c4, c5, c6, c7, rfl, c8⟩
theorem EvLX.x (h : EvLX X elt tg iter scope σ s) : EvX X (.ListComp elt [⟨tg, iter, [], 0⟩] scope pos) σ s := fun s1 k Q => Hold.mk fun pins sh I => by
  rw [eval_ListComp]
  exact h.run k I
theorem do_setLX {n : Str} {py spos : Pos} {rest : List Stmt} {D : Ends} (h : EvLX X elt tg iter scope σ s) (hk : X.env.scope.kind = .function) (hy : X.env.scope.names.lookup n = some .local)
    (hl : (py.line == pos.line) = true := by rfl) (ha : (scope.names.any fun (m, k) => m == n && (k == .local || k == .cell)) = false := by decide +kernel) :
    WSs X (.Assign [.Name n py] (.ListComp elt [⟨tg, iter, [], 0⟩] scope pos) spos :: rest) D σ s.H := by
  refine do_cons (ts := fun D σ' H' => σ' = σ ∧ H' = s.H) ⟨fun pins sh σ' H' D' I z => ?_⟩ ⟨rfl, rfl⟩
  obtain ⟨rfl, rfl⟩ := z
  rw [exec_Assign_Name_used _ _ _ _ (sw_true hk hy hl ha)]
  refine wpAny_bind (wpAny_standAt (wpAny_bind ?_))
  exact wpAny_bind (h.run (Ex.refl s) I)
theorem en_compX {xs : List α} {f : α → Option (Rz β)} {er : Er} {j : Nat} {n : Str} {py : Pos} (hc : X.calm = true) (hN : X.N.Nodup) (st : X.stack = X.env :: X.outer) (fr : X.env.frame = some X.env.locals) (tk : Takes X W) (hi : EvI X (.Name n py) iter σ s xs) (ok : BlkOk X.N X.env.scope scope own) (hj : X.N[j]? = some n)
    (hjo : j ∈ own.map (·.2)) (hg : ∀ s0 H0 C cl fp, PG (Blk X scope s0 H0 C cl fp) (.Name n py) (gName j)) (hf : mapR f xs = some (.er er)) (hz : xs.length ≤ sizeLine) (hw : ∀ cls d s2, Ex s s2 → ExR X.K s2.F er cls d → W cls d σ s2.H)
    (he : ∀ (x : α) (y : β) (v : V) (s1 : S), x ∈ xs → Ex s s1 → rep X.K s1.F v x → f x = some (.ok y) → ∀ s0 H0 C cl fp pn xe, Ev (BlkX X scope s0 H0 C cl fp pn xe) elt ((wipe σ (own.map (·.2))).set j (some v)) s1 y)
    (hx : ∀ (x : α) (v : V) (s1 : S), x ∈ xs → Ex s s1 → rep X.K s1.F v x → f x = some (.er er) → ∀ s0 H0 C cl fp pn xe, (∀ σ', PassesAt (L2.CX X.prog X.w) (BlkX X scope s0 H0 C cl fp pn xe) σ' (ErX X.K s er)) → EvX (BlkX X scope s0 H0 C cl fp pn xe) elt ((wipe σ (own.map (·.2))).set j (some v)) s1)
    (hs : ∀ x, foldedSetIterable iter X.env x = pure x := by intro _; rfl) : EvLX X elt (.Name n py) iter scope σ s :=
  ⟨hc, hN, hs, st, fr, own, _, W, er, ok, hg, tk, fun s2 k cls d r => hw cls d s2 k r, fun s1 k Q => comp_readX hi tg_n hf hz (fun F x σ2 ⟨v, _, e⟩ => by rw [e, wipe_set hjo]; exact wipe_wipe fun _ z => z)
    (fun x y s1 σ2 hx' k ⟨v, r, e⟩ hfx => by subst e; exact he x y v s1 hx' k r hfx) (fun x s1 σ2 hx' k ⟨v, r, e⟩ hfx => by subst e; exact hx x v s1 hx' k r hfx) s1 k Q⟩
theorem evX_sum {p0 : Pos} (hm : X.mg "sum" = none) (ha : EvX X elt σ s) (hc : X.calm = true := by rfl) (hg : Gl X "sum" := by rfl) (he : starEach [elt] X.env = (false, eval elt X.env) :: starEach [] X.env := by rfl) (hpl : (backTo pos (starEach [] X.env)).any (·.1) = false := by rfl) : EvX X (.Call (.Name "sum" p0) [elt] [] pos) σ s := fun s1 k Q =>
  we_of (pe_callB (cr_sum hc) hg hm (by decide +kernel) (pa_cons pe_we pa_nil he) (by decide) (by decide) he hpl) (ha s1 k _)
end
section
variable {X : Cx} {σ : L2.St} {s : S} {a b : Expr} {es : List Expr} {pos : Pos}
theorem ew_and1 {x : Bool} (h : EvT X a σ s x) : EvW X (.BoolOp .And [a] pos) σ s x := fun s1 k Q q => ww_of (pw_and1 pt_wt) (h s1 k Q q)
theorem ew_or1 {x : Bool} (h : EvT X a σ s x) : EvW X (.BoolOp .Or [a] pos) σ s x := fun s1 k Q q => ww_of (pw_or1 pt_wt) (h s1 k Q q)
theorem ew_and {x y : Bool} (h : EvT X a σ s x) (h2 : x = true → EvW X (.BoolOp .And (b :: es) pos) σ s y) : EvW X (.BoolOp .And (a :: b :: es) pos) σ s (x && y) := fun s1 k Q q =>
  ww_of (pw_and pt_wt pw_ww) (h s1 k _ fun s2 k2 => by
    cases x with
    | true => exact iteT ((h2 rfl) s2 (k.trans k2) Q fun s3 k3 => q s3 (k2.trans k3))
    | false => exact iteF (q s2 k2))
theorem ew_or {x y : Bool} (h : EvT X a σ s x) (h2 : x = false → EvW X (.BoolOp .Or (b :: es) pos) σ s y) : EvW X (.BoolOp .Or (a :: b :: es) pos) σ s (x || y) := fun s1 k Q q =>
  ww_of (pw_or pt_wt pw_ww) (h s1 k _ fun s2 k2 => by
    cases x with
    | true => exact iteT (q s2 k2)
    | false => exact iteF ((h2 rfl) s2 (k.trans k2) Q fun s3 k3 => q s3 (k2.trans k3)))
end
end Dy

set_option maxHeartbeats 1000000
namespace L2
open PySem PySem.Spec PyProof.Rows
abbrev SuT := Addr → Value → Option Addr → TS
def wG (K : PySem.W.Frag) : List (Option Nat × Value × SuT) → WX → Ends → WX
  | [], Wout, _ => Wout
  | (some i, c, ts) :: r, Wout, D => wAs K c i ts (wG K r Wout D) D
  | (none, c, ts) :: r, Wout, D => wOnly K c ts (wG K r Wout D) D
inductive HdsG (X : Cx) : List ExceptHandler → List (Option Nat × Value × SuT) → Prop
  | nil : HdsG X [] []
  | as {x n : Str} {i : Nat} {c : Value} {ts : SuT} {b₀ : Stmt} {suite : List Stmt} {np pos' : Pos} {hds : List ExceptHandler} {l : List (Option Nat × Value × SuT)} (hi : X.N[i]? = some n) (hln : X.env.kindOf n = some .local) (hc : Names X x c)
      (hsu : ∀ (a : Addr) (oe : Obj) (cls : Value) (d : Option Addr) (pn : List (Addr × Obj)), Zc cls d oe → (∃ vs, oe.data = .fields vs) → PSs (X.suite a ((a, oe) :: pn)) (b₀ :: suite) (ts a cls d)) (r : HdsG X hds l) :
      HdsG X (.ExceptHandler (some (.Name x np)) (some n) (b₀ :: suite) pos' :: hds) ((some i, c, ts) :: l)
  | no {x : Str} {c : Value} {ts : SuT} {b₀ : Stmt} {suite : List Stmt} {np pos' : Pos} {hds : List ExceptHandler} {l : List (Option Nat × Value × SuT)} (hc : Names X x c)
      (hsu : ∀ (a : Addr) (oe : Obj) (cls : Value) (d : Option Addr) (pn : List (Addr × Obj)), Zc cls d oe → (∃ vs, oe.data = .fields vs) → PSs (X.suite a ((a, oe) :: pn)) (b₀ :: suite) (ts a cls d)) (r : HdsG X hds l) :
      HdsG X (.ExceptHandler (some (.Name x np)) none (b₀ :: suite) pos' :: hds) ((none, c, ts) :: l)
section
variable {X : Cx} {body : List Stmt} {h₀ : ExceptHandler} {hds : List ExceptHandler} {l : List (Option Nat × Value × SuT)} {pos : Pos} {tb : WX → TS} {Wout : WX}
theorem ps_tryG (hs : X.stack = X.env :: X.outer) (hf : X.env.frame = some X.env.locals) (hN : X.N.Nodup) (tk : Takes X Wout)
    (hb : ∀ (W : WX) (pn : List (Addr × Obj)) (xe : Value → Shared → Prop), Takes (X.tr pn xe) W → PassesOwn (model X.prog X.w) X.A X.env xe → PSs (X.tr pn xe) body (tb W))
    (hh : HdsG X (h₀ :: hds) l) :
    PS X (.Try body (h₀ :: hds) [] [] pos) (fun D σ H => tb (wG X.K l Wout D) D σ H) := by
  refine ⟨fun pins s σ H D I h => ?_⟩
  have ok := I.ok
  have hfr : X.A.frames = some (X.env :: X.outer) := by rw [ok.frames, hs]
  refine wpAny_Try_except ?_
  refine wpAny_mono ((hb (wG X.K l Wout D) (X.pn ++ pins) (fun e s₁ => wpAny (model X.prog X.w) X.A (noteFrame e X.env) (fun _ s₂ => wpAny (model X.prog X.w) X.A (setFlight e none) (fun _ s₃ =>
    wpAny (model X.prog X.w) X.A (handleBy e X.env (h₀ :: hds)) (SP X pins D) X.xe s₃) X.xe s₂) X.xe s₁) (fun u s' xx => ?_) PassesOwn.looking).run [] s σ H D (I.toTry _) h) (fun f s1 hsp => ?_) (fun e s1 he => he)
  · -- the catch
    obtain ⟨a, B, sI, pins', σ', H', cls, d, rfl, J', nb, up, sky, na, os, ag, w⟩ := xx
    have J : Inv X pins σ' H' sI := J'.ofTry ok
    have sky' : Sky B (X.env :: X.outer) a (Zc cls d) X.env.locals s'.heap := by rw [← hs]; exact sky
    show wpAny (model X.prog X.w) X.A (noteFrame (.ref a) X.env) _ _ _
    refine Sky.land Zc.steady hfr hf sky' fun h3 fl3 up3 => ?_
    have J3 : Inv X pins σ' H' { s' with heap := h3 } := J.landed nb fl3.1 (up.trans up3) os ag
    obtain ⟨oe3, vs3, he3, hz3, hd3⟩ := fl3.there
    have notFr : ∀ {h : Heap} {o : Obj} {vs : Array Value}, h.FunFrames B (X.env :: X.outer) → h.get? a = some o → o.data = .fields vs → a ∉ frs (X.env :: X.outer) := fun {h o vs} ff e dd hm => by
      obtain ⟨_, o', e', hnf⟩ := ff.mem hm
      rw [e] at e'; cases e'
      exact hnf _ dd
    have nfr := notFr fl3.2.2.1 he3 hd3
    have nL : a ≠ X.env.locals := fun z => nfr (List.mem_filterMap.mpr ⟨X.env, List.mem_cons_self, by rw [hf, z]⟩)
    have nF : a ∉ X.fs := fun hm => by
      obtain ⟨e, he, q⟩ := List.mem_filterMap.mp hm
      exact nfr (List.mem_filterMap.mpr ⟨e, List.mem_cons_of_mem _ he, q⟩)
    have S3 := J3.suite he3 hd3 na nL nF
    have go : ∀ {hds' : List ExceptHandler} {l' : List (Option Nat × Value × SuT)}, HdsG X hds' l' → wG X.K l' Wout D cls d σ' H' →
        wpAny (model X.prog X.w) X.A (handleBy (.ref a) X.env hds') (SP X pins D) X.xe { s' with heap := h3 } := by
      intro hds' l' hk
      induction hk with
      | nil =>
        intro w
        refine wpAny_handleBy_nil ?_
        obtain ⟨k1, k2, k3, oe, vs, T, oT, ts', he, hz, hd, h1, hr⟩ := id fl3
        unfold PySem.passOn
        refine wpAny_bind (wpAny_field he hd h1 ?_)
        rw [if_neg (show ¬ ((Value.ref T == Value.none) = true) from by simp)]
        have fin : wpAny (model X.prog X.w) X.A (setFlight (.ref a) X.env.frame) (fun _ s4 => wpAny (model X.prog X.w) X.A (throw (.ref a) : Sem Flow) (SP X pins D) X.xe s4) X.xe { s' with heap := h3 } := by
          rw [hf]
          refine HandSPX.setFlight_upZ fl3 fun h4 hh4 up4 => wpAny_throw (tk _ _ ?_)
          exact ⟨a, B, sI, pins, σ', H', cls, d, rfl, J, nb, (up.trans up3).trans up4, .inr (.inr (by rw [hs]; exact hh4)), na, os, ag, w⟩
        first
          | exact wpAny_bind (wpAny_pure (wpAny_bind fin))
          | exact wpAny_bind fin
      | @as x n i c ts b₀ suite np pos' hds2 l2 hi hln hc hsu r ih =>
        intro w
        have hloc : Loc X.env.scope n := .inl hln
        obtain ⟨b, hb1, hyes, hno⟩ := w
        refine wpAny_handleBy_cons (codeAny_handlers_test ?_) (by intro q; cases q)
        have LT : PySem.W.Looks (model X.prog X.w) h3 (typeOf (.ref a)) cls := fun A Q E s k q => wpAny_typeOf_ref (k _ _ he3) (by rw [hz3.1]; exact q)
        have LM := PySem.W.exm_one (M := model X.prog X.w) (J3.kIn) LT hb1
        have test : ∀ {Q : Value → Shared → Prop} {E : Value → Shared → Prop}, Q c { s' with heap := h3 } → wpAny (model X.prog X.w) (X.A.mark (some (.ref a))) (eval (.Name x np) X.env) Q E { s' with heap := h3 } := fun {Q E} q => by
          obtain ⟨hg, hdbg, hm | ⟨hm, hv, hnn⟩⟩ := hc
          · exact ld_glob (X := X.suite a ((a, oe3) :: (X.pn ++ pins))) S3 hg hm q hdbg
          · exact ld_blt (X := X.suite a ((a, oe3) :: (X.pn ++ pins))) S3 hg hm hv q hnn hdbg
        refine test (LM.here ?_)
        cases b with
        | true =>
          refine codeAny_handlers_suite_as ?_
          refine HandSPX.lands_againZ fl3 fun h4 fl4 up4 => ?_
          have J4 : Inv X pins σ' H' { s' with heap := h4 } := J.landed nb fl4.1 ((up.trans up3).trans up4) os ag
          obtain ⟨oe4, vs4, he4, hz4, hd4⟩ := fl4.there
          have S4 := J4.suite he4 hd4 na nL nF
          refine store_ok (X := X.suite a ((a, oe4) :: (X.pn ++ pins))) (v := .ref a) S4 hN hi hloc rfl (fun s5 S5 => ?_) (.inr hln)
          refine wpAny_mono ((hsu a oe4 cls d (X.pn ++ pins) hz4 ⟨_, hd4⟩).run [] s5 _ H' _ S5 (hyes rfl a na)) (fun f s6 hsp => ?_) (fun _ _ z => False.elim z)
          have end_ : ∀ {σ6 : St} {H6 : Hp} {Q : Shared → Prop}, Inv (X.suite a ((a, oe4) :: (X.pn ++ pins))) [] σ6 H6 s6 → (∀ s7, Inv X pins (σ6.set i none) H6 s7 → Q s7) →
              wpAny (model X.prog X.w) X.A (do bindName X.env n .none; unbindBehindTheSuite X.env n pos') (fun _ s7 => Q s7) X.xe s6 := fun {σ6 H6 Q} S6 hq => gone_ok (S6.unsuite ok) hN hi hln hq
          cases f with
          | next =>
            obtain ⟨σ6, H6, S6, q6⟩ := hsp
            exact end_ S6 fun s7 J7 => ⟨_, _, J7, q6⟩
          | brk =>
            obtain ⟨σ6, H6, S6, q6⟩ := hsp
            exact end_ S6 fun s7 J7 => ⟨_, _, J7, q6⟩
          | cont =>
            obtain ⟨σ6, H6, S6, q6⟩ := hsp
            exact end_ S6 fun s7 J7 => ⟨_, _, J7, q6⟩
          | ret u =>
            obtain ⟨v6, σ6, H6, S6, r6, q6⟩ := hsp
            exact end_ S6 fun s7 J7 => ⟨_, _, _, J7, r6, q6⟩
        | false => exact ih (hno rfl)
      | @no x c ts b₀ suite np pos' hds2 l2 hc hsu r ih =>
        intro w
        obtain ⟨b, hb1, hyes, hno⟩ := w
        refine wpAny_handleBy_cons (codeAny_handlers_test ?_) (by intro q; cases q)
        have LT : PySem.W.Looks (model X.prog X.w) h3 (typeOf (.ref a)) cls := fun A Q E s k q => wpAny_typeOf_ref (k _ _ he3) (by rw [hz3.1]; exact q)
        have LM := PySem.W.exm_one (M := model X.prog X.w) (J3.kIn) LT hb1
        have test : ∀ {Q : Value → Shared → Prop} {E : Value → Shared → Prop}, Q c { s' with heap := h3 } → wpAny (model X.prog X.w) (X.A.mark (some (.ref a))) (eval (.Name x np) X.env) Q E { s' with heap := h3 } := fun {Q E} q => by
          obtain ⟨hg, hdbg, hm | ⟨hm, hv, hnn⟩⟩ := hc
          · exact ld_glob (X := X.suite a ((a, oe3) :: (X.pn ++ pins))) S3 hg hm q hdbg
          · exact ld_blt (X := X.suite a ((a, oe3) :: (X.pn ++ pins))) S3 hg hm hv q hnn hdbg
        refine test (LM.here ?_)
        cases b with
        | true =>
          refine codeAny_handlers_suite (HandSPX.lands_againZ fl3 fun h4 fl4 up4 => ?_)
          have J4 : Inv X pins σ' H' { s' with heap := h4 } := J.landed nb fl4.1 ((up.trans up3).trans up4) os ag
          obtain ⟨oe4, vs4, he4, hz4, hd4⟩ := fl4.there
          have S4 := J4.suite he4 hd4 na nL nF
          apply wpAny_mono ((hsu a oe4 cls d (X.pn ++ pins) hz4 ⟨_, hd4⟩).run [] _ _ H' _ S4 (hyes rfl a na)) _ (fun _ _ z => False.elim z)
          intro f s6 hsp
          cases f with
          | ret u =>
            obtain ⟨v6, σ6, H6, S6, r6, q6⟩ := hsp
            exact ⟨_, _, _, S6.unsuite ok, r6, q6⟩
          | _ =>
            obtain ⟨σ6, H6, S6, q6⟩ := hsp
            exact ⟨_, _, S6.unsuite ok, q6⟩
        | false => exact ih (hno rfl)
    exact go hh w
  · cases f with
    | next =>
      obtain ⟨σ', H', J', q⟩ := hsp
      exact wpAny_execs_nil ⟨σ', H', J'.ofTry ok, q⟩
    | brk =>
      obtain ⟨σ', H', J', q⟩ := hsp
      exact ⟨σ', H', J'.ofTry ok, q⟩
    | cont =>
      obtain ⟨σ', H', J', q⟩ := hsp
      exact ⟨σ', H', J'.ofTry ok, q⟩
    | ret u =>
      obtain ⟨v, σ', H', J', r, q⟩ := hsp
      exact ⟨v, σ', H', J'.ofTry ok, r, q⟩
end
end L2
namespace Dy
open PySem PySem.Spec L2
open PyProof.Rows hiding St
section
variable {X : Cx} {σ : L2.St} {s : S} {D : Ends} {rest : List Stmt} {K : PySem.W.Frag} {c cls : Value} {i : Nat} {ts : SuT} {r : List (Option Nat × Value × SuT)} {Wout : WX} {d : Option Addr} {H : Hp}
theorem wg_as (h : wAs K c i ts (wG K r Wout D) D cls d σ H) : wG K ((some i, c, ts) :: r) Wout D cls d σ H := h
theorem wg_no (h : wOnly K c ts (wG K r Wout D) D cls d σ H) : wG K ((none, c, ts) :: r) Wout D cls d σ H := h
theorem won_of (h1 : PySem.W.exmOne K cls c = some true) (h2 : ∀ a, H a = none → ts a cls d D σ H) : wOnly K c ts Wout D cls d σ H := ⟨true, h1, fun _ => h2, fun z => (by cases z)⟩
theorem won_no (h1 : PySem.W.exmOne K cls c = some false) (h2 : Wout cls d σ H) : wOnly K c ts Wout D cls d σ H := ⟨false, h1, fun z => (by cases z), fun _ => h2⟩
abbrev suT (X : Cx) (ss : List Stmt) : SuT := fun a cls d D σ H => ∀ (oe : Obj) (pn : List (Addr × Obj)), Zc cls d oe → (∃ vs, oe.data = .fields vs) → WSs (X.suite a ((a, oe) :: pn)) ss D σ H
theorem hd_as {x n : Str} {i : Nat} {c : Value} {b₀ : Stmt} {suite : List Stmt} {np pos' : Pos} {hds : List ExceptHandler} {l : List (Option Nat × Value × SuT)} (i' : i = i) (hc : Names X x c) (r : HdsG X hds l) (hi : X.N[i]? = some n := by rfl) (hln : X.env.kindOf n = some .local := by rfl) :
    HdsG X (.ExceptHandler (some (.Name x np)) (some n) (b₀ :: suite) pos' :: hds) ((some i, c, suT X (b₀ :: suite)) :: l) := .as hi hln hc (fun a oe cls d pn hz hv => pss_im fun D σ H hh => hh oe pn hz hv) r
theorem hd_no {x : Str} {c : Value} {b₀ : Stmt} {suite : List Stmt} {np pos' : Pos} {hds : List ExceptHandler} {l : List (Option Nat × Value × SuT)} (hc : Names X x c) (r : HdsG X hds l) :
    HdsG X (.ExceptHandler (some (.Name x np)) none (b₀ :: suite) pos' :: hds) ((none, c, suT X (b₀ :: suite)) :: l) := .no hc (fun a oe cls d pn hz hv => pss_im fun D σ H hh => hh oe pn hz hv) r
theorem do_tryG {body : List Stmt} {h₀ : ExceptHandler} {hds : List ExceptHandler} {l : List (Option Nat × Value × SuT)} {pos : Pos} (hN : X.N.Nodup) (hh : HdsG X (h₀ :: hds) l) (tk : Takes X Wout)
    (h : ∀ pn xe, Takes (X.tr pn xe) (wG X.K l Wout { D with nx := fun σ' H' => WSs X rest D σ' H' }) → PassesOwn (model X.prog X.w) X.A X.env xe → WSs (X.tr pn xe) body { D with nx := fun σ' H' => WSs X rest D σ' H' } σ s.H)
    (hs : X.stack = X.env :: X.outer := by rfl) (hf : X.env.frame = some X.env.locals := by rfl) : WSs X (.Try body (h₀ :: hds) [] [] pos :: rest) D σ s.H :=
  do_cons (ps_tryG (tb := fun W D σ H => ∀ pn xe, Takes (X.tr pn xe) W → PassesOwn (model X.prog X.w) X.A X.env xe → WSs (X.tr pn xe) body D σ H) hs hf hN tk (fun W pn xe t po => pss_im fun D σ H hh => hh pn xe t po) hh) h
end
end Dy

namespace Dy
open PySem PySem.Spec L2
open PyProof.Rows hiding St
open Enc (rep)
open Flat (toV)
open EncA (repA)

section
variable {X : Cx} {σ : L2.St} {s t : S} {e a : Expr} {p1 pos : Pos} {α β : Type} [Enc α] [Enc β] {K : PySem.W.Frag}
theorem all_ex (k : Ex s t) : Ex s.all t.all := ⟨fun x o h => k.h x o h, k.h, fun x o h n => by
  have h1 : s.H x = some o := h
  have h2 : s.H x = none := n
  rw [h1] at h2; cases h2⟩
theorem asV {ε : Type} [Flat ε] {x : ε} (h : Ev X e σ s.all x) : Ev X e σ s x := fun s1 k Q q =>
  h s1.all (all_ex k) Q fun v t k2 r => q v (s1.backH t k2.h) (backH_ex k2) (Flat.iff.mpr (Flat.iff.mp r))
theorem asT {x : Bool} (h : EvT X e σ s.all x) : EvT X e σ s x := fun s1 k Q q =>
  h s1.all (all_ex k) Q fun t k2 => q (s1.backH t k2.h) (backH_ex k2)
theorem asB {x : Bool} (h : EvB X e σ s.all x) : EvB X e σ s x := ⟨asV h.v, asT h.t⟩
theorem asW {x : Bool} (h : EvW X e σ s.all x) : EvW X e σ s x := fun s1 k Q q =>
  h s1.all (all_ex k) Q fun t k2 => q (s1.backH t k2.h) (backH_ex k2)
theorem asC {x : Bool} (h : EvC X e σ s.all x) : EvC X e σ s x := ⟨asV h.v, asW h.w⟩
theorem all_v {v : V} {x : α} (h : rep K s.F v x) : rep K s.all.F v x := Enc.mono s.sub h
theorem eb_isRaw {p : Addr} {j} (ha : Ev X a σ s (Rw.mk (.ref p))) : EvB X (.Compare a [.Is] [.Constant .none j p1] pos) σ s false :=
  eb_cmp op_isN ha ev_non (fun v u s2 hv hu Q q => by
    refine ⟨hu, ?_⟩
    have e : v = V.ref p := hv
    rw [e]
    exact q) (nomark _)
theorem eb_notRaw {p : Addr} {j} (ha : Ev X a σ s (Rw.mk (.ref p))) : EvB X (.Compare a [.IsNot] [.Constant .none j p1] pos) σ s true :=
  eb_cmp op_notN ha ev_non (fun v u s2 hv hu Q q => by
    refine ⟨hu, ?_⟩
    have e : v = V.ref p := hv
    rw [e]
    exact q) (nomark _)
def unO {α : Type} : List (Option α) → Option (List α)
  | [] => some []
  | none :: _ => none
  | some x :: r => (unO r).map (x :: ·)
theorem unO_some {α : Type} : ∀ {xs : List (Option α)} {ys : List α}, unO xs = some ys → xs = ys.map some
  | [], ys, h => by cases h; rfl
  | none :: _, ys, h => by cases h
  | some x :: r, ys, h => by
    unfold unO at h
    cases hr : unO r with
    | none => rw [hr] at h; cases h
    | some zs =>
      rw [hr] at h
      cases h
      rw [List.map_cons, unO_some hr]
theorem unO_map {α : Type} : ∀ ys : List α, unO (ys.map some) = some ys
  | [] => rfl
  | y :: r => by
    show (unO (r.map some)).map (y :: ·) = _
    rw [unO_map r]; rfl
theorem reps_un {F : Hp} : ∀ {vs : List V} {ys : List α}, Reps K F vs (ys.map some) → Reps K F vs ys
  | [], [], _ => trivial
  | _ :: _, _ :: _, ⟨h, t⟩ => ⟨h, reps_un t⟩
  | [], _ :: _, h => h.elim
  | _ :: _, [], h => h.elim
theorem er_un {xs : List (Option α)} {ys : List α} (h : EvR X e σ s xs) (hu : unO xs = some ys) : EvR X e σ s ys := by
  obtain rfl := unO_some hu
  exact fun s1 k Q q => h s1 k Q fun v s2 k2 ⟨p, vs, e1, h1, h2⟩ => q v s2 k2 ⟨p, vs, e1, h1, reps_un h2⟩
theorem ev_un {xs : List (Option α)} {ys : List α} (h : Ev X e σ s xs) (hu : unO xs = some ys) : Ev X e σ s ys := by
  obtain rfl := unO_some hu
  exact fun s1 k Q q => h s1 k Q fun v s2 k2 ⟨p, vs, e1, h1, h2⟩ => q v s2 k2 ⟨p, vs, e1, h1, reps_un h2⟩
theorem en_un {xs : List (Option α)} {ys : List α} (h : EvN X e σ s xs) (hu : unO xs = some ys) : EvN X e σ s ys := by
  obtain rfl := unO_some hu
  exact fun s1 k Q q => h s1 k Q fun p s2 k2 n ⟨o1, vs, o2, o3⟩ => q p s2 k2 n ⟨o1, vs, o2, reps_un o3⟩
def isL {α β : Type} : α ⊕ β → Bool
  | .inl _ => true
  | .inr _ => false
theorem eb_isNG {j} {b : Bool} {ok : V → List OA → Prop} (h : EvG X a σ s ok) (hb : ∀ (v : V) (s2 : S) (L' : List OA), ok v L' → (∀ (i : Nat) (w : V) (x : Unit), L'[i]? = some (fz w x) → rep X.K s2.F w x) → (b = true ∧ v = .non) ∨ (b = false ∧ ∃ p, v = .ref p)) : EvB X (.Compare a [.Is] [.Constant .none j p1] pos) σ s b := by
  have key : ∀ (v : V) {s1 s2 : S} {L' : List OA}, ok v L' → Iv X.K No s1 s2 L' → decide (v = V.non) = b := fun v s1 s2 L' z i => by
    rcases hb v s2 L' z (fun k w x e => Iv.fz i k e) with ⟨rfl, rfl⟩ | ⟨rfl, p, rfl⟩ <;> rfl
  exact ⟨fun s1 k Q q => we_of (pe_cmpR op_isN pe_we pe_we (nomark _)) (h s1 k _ fun v s2 L' z i => ev_non s2 (Ex.refl _) _ fun u s3 k3 r3 => ⟨r3, by rw [key v z i]; exact q _ s3 ((Iv.exx i).trans k3) rfl⟩),
    fun s1 k Q q => wt_of (pt_cmpR op_isN pe_we pe_we (nomark _)) (h s1 k _ fun v s2 L' z i => ev_non s2 (Ex.refl _) _ fun u s3 k3 r3 => ⟨r3, by rw [key v z i]; exact ⟨b, rfl, q s3 ((Iv.exx i).trans k3)⟩⟩)⟩
theorem reps_so {F : Hp} : ∀ {vs : List V} {ys : List α}, Reps K F vs ys → Reps K F vs (ys.map some)
  | [], [], _ => trivial
  | _ :: _, _ :: _, ⟨h, t⟩ => ⟨h, reps_so t⟩
  | [], _ :: _, h => h.elim
  | _ :: _, [], h => h.elim
theorem er_so {ys : List α} (h : EvR X e σ s ys) : EvR X e σ s (ys.map some) := fun s1 k Q q => h s1 k Q fun v s2 k2 ⟨p, vs, e1, h1, h2⟩ => q v s2 k2 ⟨p, vs, e1, h1, reps_so h2⟩
theorem ev_so {ys : List α} (h : Ev X e σ s ys) : Ev X e σ s (ys.map some) := fun s1 k Q q => h s1 k Q fun v s2 k2 ⟨p, vs, e1, h1, h2⟩ => q v s2 k2 ⟨p, vs, e1, h1, reps_so h2⟩
theorem en_so {ys : List α} (h : EvN X e σ s ys) : EvN X e σ s (ys.map some) := fun s1 k Q q => h s1 k Q fun p s2 k2 n ⟨o1, vs, o2, o3⟩ => q p s2 k2 n ⟨o1, vs, o2, reps_so o3⟩
end
instance {α β γ δ : Type} [Enc α] [Enc β] [Enc γ] [Enc δ] : Arity (T4 α β γ δ) 4 := ⟨fun h => by
  obtain ⟨p, v0, v1, v2, v3, e, h, _⟩ := h
  exact ⟨p, _, e, h, rfl⟩⟩
theorem p4_0 {α β γ δ : Type} [Enc α] [Enc β] [Enc γ] [Enc δ] {K : PySem.W.Frag} {x : T4 α β γ δ} {F : Hp} {v : V} (h : rep K F v x) : ∃ p vs w, v = .ref p ∧ SqT K F p vs ∧ atI vs 0 = some w ∧ rep K F w x.a := by
  obtain ⟨p, v0, v1, v2, v3, rfl, h0, h1, h2, h3, h4⟩ := h
  exact ⟨p, _, v0, rfl, h0, rfl, h1⟩
theorem p4_1 {α β γ δ : Type} [Enc α] [Enc β] [Enc γ] [Enc δ] {K : PySem.W.Frag} {x : T4 α β γ δ} {F : Hp} {v : V} (h : rep K F v x) : ∃ p vs w, v = .ref p ∧ SqT K F p vs ∧ atI vs 1 = some w ∧ rep K F w x.b := by
  obtain ⟨p, v0, v1, v2, v3, rfl, h0, h1, h2, h3, h4⟩ := h
  exact ⟨p, _, v1, rfl, h0, rfl, h2⟩
theorem p4_2 {α β γ δ : Type} [Enc α] [Enc β] [Enc γ] [Enc δ] {K : PySem.W.Frag} {x : T4 α β γ δ} {F : Hp} {v : V} (h : rep K F v x) : ∃ p vs w, v = .ref p ∧ SqT K F p vs ∧ atI vs 2 = some w ∧ rep K F w x.c := by
  obtain ⟨p, v0, v1, v2, v3, rfl, h0, h1, h2, h3, h4⟩ := h
  exact ⟨p, _, v2, rfl, h0, rfl, h3⟩
theorem p4_3 {α β γ δ : Type} [Enc α] [Enc β] [Enc γ] [Enc δ] {K : PySem.W.Frag} {x : T4 α β γ δ} {F : Hp} {v : V} (h : rep K F v x) : ∃ p vs w, v = .ref p ∧ SqT K F p vs ∧ atI vs 3 = some w ∧ rep K F w x.d := by
  obtain ⟨p, v0, v1, v2, v3, rfl, h0, h1, h2, h3, h4⟩ := h
  exact ⟨p, _, v3, rfl, h0, rfl, h4⟩
instance {α β γ δ ε : Type} [Enc α] [Enc β] [Enc γ] [Enc δ] [Enc ε] : Arity (T5 α β γ δ ε) 5 := ⟨fun h => by
  obtain ⟨p, v0, v1, v2, v3, v4, e, h, _⟩ := h
  exact ⟨p, _, e, h, rfl⟩⟩
theorem p5_0 {α β γ δ ε : Type} [Enc α] [Enc β] [Enc γ] [Enc δ] [Enc ε] {K : PySem.W.Frag} {x : T5 α β γ δ ε} {F : Hp} {v : V} (h : rep K F v x) : ∃ p vs w, v = .ref p ∧ SqT K F p vs ∧ atI vs 0 = some w ∧ rep K F w x.a := by
  obtain ⟨p, v0, v1, v2, v3, v4, rfl, h0, h1, h2, h3, h4, h5⟩ := h
  exact ⟨p, _, v0, rfl, h0, rfl, h1⟩
theorem p5_1 {α β γ δ ε : Type} [Enc α] [Enc β] [Enc γ] [Enc δ] [Enc ε] {K : PySem.W.Frag} {x : T5 α β γ δ ε} {F : Hp} {v : V} (h : rep K F v x) : ∃ p vs w, v = .ref p ∧ SqT K F p vs ∧ atI vs 1 = some w ∧ rep K F w x.b := by
  obtain ⟨p, v0, v1, v2, v3, v4, rfl, h0, h1, h2, h3, h4, h5⟩ := h
  exact ⟨p, _, v1, rfl, h0, rfl, h2⟩
theorem p5_2 {α β γ δ ε : Type} [Enc α] [Enc β] [Enc γ] [Enc δ] [Enc ε] {K : PySem.W.Frag} {x : T5 α β γ δ ε} {F : Hp} {v : V} (h : rep K F v x) : ∃ p vs w, v = .ref p ∧ SqT K F p vs ∧ atI vs 2 = some w ∧ rep K F w x.c := by
  obtain ⟨p, v0, v1, v2, v3, v4, rfl, h0, h1, h2, h3, h4, h5⟩ := h
  exact ⟨p, _, v2, rfl, h0, rfl, h3⟩
theorem p5_3 {α β γ δ ε : Type} [Enc α] [Enc β] [Enc γ] [Enc δ] [Enc ε] {K : PySem.W.Frag} {x : T5 α β γ δ ε} {F : Hp} {v : V} (h : rep K F v x) : ∃ p vs w, v = .ref p ∧ SqT K F p vs ∧ atI vs 3 = some w ∧ rep K F w x.d := by
  obtain ⟨p, v0, v1, v2, v3, v4, rfl, h0, h1, h2, h3, h4, h5⟩ := h
  exact ⟨p, _, v3, rfl, h0, rfl, h4⟩
theorem p5_4 {α β γ δ ε : Type} [Enc α] [Enc β] [Enc γ] [Enc δ] [Enc ε] {K : PySem.W.Frag} {x : T5 α β γ δ ε} {F : Hp} {v : V} (h : rep K F v x) : ∃ p vs w, v = .ref p ∧ SqT K F p vs ∧ atI vs 4 = some w ∧ rep K F w x.e := by
  obtain ⟨p, v0, v1, v2, v3, v4, rfl, h0, h1, h2, h3, h4, h5⟩ := h
  exact ⟨p, _, v4, rfl, h0, rfl, h5⟩
section
variable {α β γ δ ε : Type} [Enc α] [Enc β] [Enc γ] [Enc δ] [Enc ε] {X : Cx} {σ : L2.St} {s : S} {e tg : Expr} {pos : Pos} {rest : List Stmt} {D : Ends}
theorem do_unp4 (i j l m : Nat) {x : T4 α β γ δ} (h : Ev X e σ s x) (k : ∀ v w u z s1, Ex s s1 → rep X.K s1.F v x.a → rep X.K s1.F w x.b → rep X.K s1.F u x.c → rep X.K s1.F z x.d → WSs X rest D ((((σ.set i (some v)).set j (some w)).set l (some u)).set m (some z)) s1.H)
    (hg : PG X tg (gTup X.K 4 (gCons (gName i) (gCons (gName j) (gCons (gName l) (gCons (gName m) gNil)))))) (hs : swapsWithSole [tg] e pos.line X.env = pure false := by rfl) (hw : swappedStores [tg] e X.env = pure none := by rfl)
    (h1 : (assignEach [tg] X.env).map (·.2) = [assign tg X.env] := by rfl) : WSs X (.Assign [tg] e pos :: rest) D σ s.H :=
  do_cons (ps_asg pe_we hg hs hw h1) (h s (Ex.refl _) _ fun v s1 k1 r => by
    obtain ⟨p, v1, v2, v3, v4, rfl, h0, h1, h2, h3, h4⟩ := r
    exact ⟨p, _, rfl, sqt_mono s1.sub h0, rfl, v1, _, rfl, v2, _, rfl, v3, _, rfl, v4, _, rfl, rfl, k v1 v2 v3 v4 s1 k1 h1 h2 h3 h4⟩)
theorem do_unp5 (i j l m n : Nat) {x : T5 α β γ δ ε} (h : Ev X e σ s x) (k : ∀ v w u z y s1, Ex s s1 → rep X.K s1.F v x.a → rep X.K s1.F w x.b → rep X.K s1.F u x.c → rep X.K s1.F z x.d → rep X.K s1.F y x.e → WSs X rest D (((((σ.set i (some v)).set j (some w)).set l (some u)).set m (some z)).set n (some y)) s1.H)
    (hg : PG X tg (gTup X.K 5 (gCons (gName i) (gCons (gName j) (gCons (gName l) (gCons (gName m) (gCons (gName n) gNil))))))) (hs : swapsWithSole [tg] e pos.line X.env = pure false := by rfl) (hw : swappedStores [tg] e X.env = pure none := by rfl)
    (h1 : (assignEach [tg] X.env).map (·.2) = [assign tg X.env] := by rfl) : WSs X (.Assign [tg] e pos :: rest) D σ s.H :=
  do_cons (ps_asg pe_we hg hs hw h1) (h s (Ex.refl _) _ fun v s1 k1 r => by
    obtain ⟨p, v1, v2, v3, v4, v5, rfl, h0, h1, h2, h3, h4, h5⟩ := r
    exact ⟨p, _, rfl, sqt_mono s1.sub h0, rfl, v1, _, rfl, v2, _, rfl, v3, _, rfl, v4, _, rfl, v5, _, rfl, rfl, k v1 v2 v3 v4 v5 s1 k1 h1 h2 h3 h4 h5⟩)
end
end Dy

namespace Dy
open PySem PySem.Spec L2
open PyProof.Rows hiding St
open Enc (rep)
open Flat (toV)
open EncA (repA)

structure PK where
  a : Int
  b : Int
instance : Enc PK := ⟨fun K F v x => ∃ p, v = .ref p ∧ F p = some (.tup [.int x.a, .int x.b]), fun e ⟨p, h1, h2⟩ => ⟨p, h1, e _ _ h2⟩⟩
def PK.pr (x : PK) : Int × Int := (x.a, x.b)
def PK.key (x : PK) : List Key := [.inl x.a, .inl x.b]
theorem PK.kinj (x y : Int × Int) : ([.inl x.1, .inl x.2] : List Key) = [.inl y.1, .inl y.2] ↔ x = y := by
  obtain ⟨a, b⟩ := x; obtain ⟨c, d⟩ := y
  simp
def kp (x : Int × Int) : List Key := [.inl x.1, .inl x.2]
theorem kp_dec (a b : Int × Int) : decide (kp a = kp b) = decide (a = b) := decide_eq_decide.mpr (PK.kinj a b)
theorem rep_pk {K : PySem.W.Frag} {F : Hp} {v : V} {x : PK} (h : rep K F v x) : rep K F v x.pr := by
  obtain ⟨p, h1, h2⟩ := h
  exact ⟨p, _, _, h1, .inl (.inl h2), rfl, rfl⟩
section
variable {α β : Type} [Enc α] [Enc β] {K : PySem.W.Frag} {F F' : Hp}
def TReps (K : PySem.W.Frag) (F : Hp) : List (List Key × V) → List ((Int × Int) × α) → Prop
  | [], [] => True
  | (k, v) :: r, (j, x) :: xs => k = kp j ∧ rep K F v x ∧ TReps K F r xs
  | _, _ => False
theorem TReps.mono (e : Fle F F') : ∀ {kv : List (List Key × V)} {xs : List ((Int × Int) × α)}, TReps K F kv xs → TReps K F' kv xs
  | [], [], _ => trivial
  | (_, _) :: _, (_, _) :: _, ⟨h1, h2, h3⟩ => ⟨h1, Enc.mono e h2, TReps.mono e h3⟩
  | [], _ :: _, h => h.elim
  | _ :: _, [], h => h.elim
theorem TReps.len : ∀ {kv : List (List Key × V)} {xs : List ((Int × Int) × α)}, TReps K F kv xs → kv.length = xs.length
  | [], [], _ => rfl
  | (_, _) :: _, (_, _) :: _, ⟨_, _, h3⟩ => by rw [List.length_cons, List.length_cons, TReps.len h3]
  | [], _ :: _, h => h.elim
  | _ :: _, [], h => h.elim
theorem TReps.val {k : Int × Int} : ∀ {kv : List (List Key × V)} {xs : List ((Int × Int) × α)}, TReps K F kv xs → (valV kv (kp k)).isSome = (dval xs k).isSome
  | [], [], _ => rfl
  | (j, v) :: r, (i, x) :: xs, ⟨e, h, t⟩ => by
    subst e
    unfold dval valV
    rw [List.find?_cons, List.find?_cons]
    dsimp only
    rw [kp_dec i k]
    cases decide (i = k) with
    | true => rfl
    | false => exact TReps.val (k := k) t
  | [], _ :: _, h => h.elim
  | _ :: _, [], h => h.elim
theorem TReps.any {k : Int × Int} : ∀ {kv : List (List Key × V)} {xs : List ((Int × Int) × α)}, TReps K F kv xs → (kv.any fun z => decide (z.1 = kp k)) = xs.any fun z => decide (z.1 = k)
  | [], [], _ => rfl
  | (j, v) :: r, (i, x) :: xs, ⟨e, h, t⟩ => by
    subst e
    rw [List.any_cons, List.any_cons, TReps.any (k := k) t, kp_dec i k]
  | [], _ :: _, h => h.elim
  | _ :: _, [], h => h.elim
theorem TReps.app : ∀ {kv kw : List (List Key × V)} {xs ys : List ((Int × Int) × α)}, TReps K F kv xs → TReps K F kw ys → TReps K F (kv ++ kw) (xs ++ ys)
  | [], _, [], _, _, h => h
  | _ :: _, _, _ :: _, _, ⟨e, h, t⟩, w => ⟨e, h, TReps.app t w⟩
  | [], _, _ :: _, _, h, _ => h.elim
  | _ :: _, _, [], _, h, _ => h.elim
theorem TReps.repl {k : Int × Int} {v : V} {y : α} (r : rep K F v y) : ∀ {kv : List (List Key × V)} {xs : List ((Int × Int) × α)}, TReps K F kv xs → TReps K F (kv.map fun z => if z.1 = kp k then (z.1, v) else z) (xs.map fun z => if z.1 = k then (z.1, y) else z)
  | [], [], _ => trivial
  | (j, u) :: kv, (i, x) :: xs, ⟨e, h, t⟩ => by
    subst e
    rw [List.map_cons, List.map_cons]
    dsimp only
    by_cases hh : i = k
    · rw [if_pos (show kp i = kp k by rw [hh]), if_pos hh]
      exact ⟨rfl, r, TReps.repl r t⟩
    · rw [if_neg (show ¬ kp i = kp k from fun z => hh ((PK.kinj i k).mp z)), if_neg hh]
      exact ⟨rfl, h, TReps.repl r t⟩
  | [], _ :: _, h => h.elim
  | _ :: _, [], h => h.elim
theorem TReps.put {k : Int × Int} {v : V} {y : α} {kv : List (List Key × V)} {xs : List ((Int × Int) × α)} (h : TReps K F kv xs) (r : rep K F v y) : TReps K F (putK kv (kp k) v) (dput xs k y) := by
  unfold putK dput
  rw [h.any (k := k)]
  split
  · exact h.repl r
  · exact h.app ⟨rfl, r, trivial⟩
end
def odT {α : Type} [Enc α] (p : Addr) (xs : List ((Int × Int) × α)) : OA := ⟨fun K F H P => (∀ a, P a ↔ a = p) ∧ ∃ kv, H p = some (.dT kv) ∧ TReps K F kv xs, fun e ⟨h0, vs, h1, h2⟩ => ⟨h0, vs, h1, h2.mono e⟩,
  fun e ⟨h0, vs, h1, h2⟩ => ⟨h0, vs, by rw [e p ((h0 p).mpr rfl)]; exact h1, h2⟩, fun ⟨h0, vs, h1, h2⟩ q => ⟨_, (congrArg _ ((h0 _).mp q)).trans h1⟩⟩
def OwnDT {α : Type} [Enc α] (K : PySem.W.Frag) (s : S) (p : Addr) (xs : List ((Int × Int) × α)) : Prop := s.F p = none ∧ ∃ kv, s.H p = some (.dT kv) ∧ TReps K s.F kv xs
section
variable {α β : Type} [Enc α] [Enc β] {K : PySem.W.Frag} {P0 : Addr → Prop} {s0 s s1 t : S} {L M R : List OA}
theorem OwnDT.ex {p : Addr} {xs : List ((Int × Int) × α)} (h : OwnDT K s p xs) (e : Ex s t) : OwnDT K t p xs := by
  obtain ⟨h0, kv, h1, h2⟩ := h
  exact ⟨e.n _ _ h1 h0, kv, e.h _ _ h1, h2.mono e.f⟩
theorem Iv.odT (h : Iv K P0 s0 s L) (i : Nat) {p : Addr} {xs : List ((Int × Int) × α)} (e : L[i]? = some (Dy.odT p xs) := by rfl) : OwnDT K s p xs := by
  obtain ⟨P, ⟨h0, kv, h1, h2⟩, h3⟩ := h.at i e
  exact ⟨h3 p ((h0 p).mpr rfl), kv, h1, h2⟩
theorem Iv.sdT (h : Iv K P0 s0 s L) (i : Nat) {p : Addr} {xs ys : List ((Int × Int) × α)} (e : Ex s s1) (n : s.H p = none) (o : OwnDT K s1 p xs) (q : ys = xs) : Iv K P0 s0 s1 (L.set i (Dy.odT p ys)) := by
  subst q
  obtain ⟨o1, vs, o2, o3⟩ := o
  exact h.put i e ⟨fun a => a = p, ⟨fun _ => Iff.rfl, vs, o2, o3⟩, fun a z => by rw [z]; exact ⟨o1, n⟩⟩
theorem Iv.mdT (h : Iv K P0 s0 s L) (i : Nat) {p : Addr} {xs : List ((Int × Int) × α)} {ys zs : List ((Int × Int) × β)} (m : Mx (· = p) s s1) (o : OwnDT K s1 p ys) (q : zs = ys) (hA : L[i]? = some (Dy.odT p xs) := by rfl) : Iv K P0 s0 s1 (L.set i (Dy.odT p zs)) := by
  subst q
  obtain ⟨o1, vs, o2, o3⟩ := o
  refine h.upd i hA fun P hP _ => ⟨P, ?_, ?_, ?_⟩
  · exact ⟨hP.1, vs, o2, o3⟩
  · intro a z
    rw [(hP.1 a).mp z]
    exact ⟨o1, .inl ((hP.1 p).mpr rfl)⟩
  · exact ⟨m.f, fun a o q n => m.h a o q fun z => n ((hP.1 a).mpr z), fun a o q _ z => m.n a o q z, m.d⟩
theorem ev_ivdT {p : Addr} {x : List ((Int × Int) × α)} (e : Ex s s1) (n : s.H p = none) (o : OwnDT K s1 p x) : Iv K No s s1 [Dy.odT p x] := (Iv.sdT (Iv.tops (K := K) (P0 := No) 1 s) 0 e n o rfl)
end
section
variable {α β : Type} [Enc α] [Enc β] {X : Cx} {σ : L2.St} {P0 : Addr → Prop} {s0 s t : S} {L : List OA} {e a b c o i : Expr} {es : List Expr} {pos p0 p1 p2 p3 : Pos} {D : Ends} {rest : List Stmt} {n : Str} {p : Addr}
theorem ev_pk {x y : Int} {n} (h : EvA X es σ s (x, y, ())) : Ev X (.Tuple es n pos) σ s (⟨x, y⟩ : PK) := fun s1 k Q q =>
  we_of (pe_tup pa_wa) (h s1 k _ fun vs s2 k2 r2 => by
    obtain ⟨v1, w1, rfl, r1, v2, w2, rfl, r3, rfl⟩ := r2
    cases (show v1 = V.int x from r1)
    cases (show v2 = V.int y from r3)
    exact ⟨show _ ≤ 2 ^ 24 by simp, fun p hp => q (.ref p) (s2.newF p (.tup [.int x, .int y]) hp) (k2.trans (Ex.newF hp)) ⟨p, rfl, upd_same⟩⟩)
theorem ev_pkr {x : PK} (h : Ev X e σ s x) : Ev X e σ s x.pr := fun s1 k Q q => h s1 k Q fun v s2 k2 r => q v s2 k2 (rep_pk r)
theorem dgetT_of {K : PySem.W.Frag} {k : PK} {xs : List ((Int × Int) × α)} {w : V} (r : OwnDT K s p xs) (hw : rep K s.F w k) : ∃ o, DGet s.H p w o ∧ o.isSome = (dval xs k.pr).isSome := by
  obtain ⟨_, kv, h1, h2⟩ := r
  obtain ⟨b, rfl, hb⟩ := hw
  refine ⟨valV kv (kp k.pr), .inr ⟨kv, kp k.pr, b, .inl h1, rfl, s.sub _ _ hb, rfl⟩, h2.val⟩
theorem ev_dtin {j : Nat} {k : PK} {xs : List ((Int × Int) × α)} (hr : Room j X.A) (hi : Ev X i σ s k) (ho : Ev X o σ s (Rw.mk (.ref p))) (r : OwnDT X.K s p xs) (h1 : behindInMarks .In o = false := by rfl) : EvB X (.Compare i [.In] [o] pos) σ s (dval xs k.pr).isSome :=
  ⟨fun s1 k1 Q q => we_of (pe_cmp (pc_din (hu1 hr) pe_we pe_we) h1) (hi s1 k1 _ fun u s2 k2 e2 => ho s2 (k1.trans k2) _ fun v s3 k3 e3 => by
    cases (show v = V.ref p from e3)
    obtain ⟨o', g1, g2⟩ := dgetT_of (r.ex ((k1.trans k2).trans k3)) (Enc.mono k3.f (e2 : rep _ _ u k))
    exact ⟨p, o', rfl, g1, by rw [g2]; exact q _ s3 (k2.trans k3) rfl⟩),
   fun s1 k1 Q q => wt_of (pt_cmp (pc_din (hu1 hr) pe_we pe_we) h1) (hi s1 k1 _ fun u s2 k2 e2 => ho s2 (k1.trans k2) _ fun v s3 k3 e3 => by
    cases (show v = V.ref p from e3)
    obtain ⟨o', g1, g2⟩ := dgetT_of (r.ex ((k1.trans k2).trans k3)) (Enc.mono k3.f (e2 : rep _ _ u k))
    exact ⟨p, o', rfl, g1, _, by rw [g2], q s3 (k2.trans k3)⟩)⟩
theorem ev_dtnotIn {j : Nat} {k : PK} {xs : List ((Int × Int) × α)} (hr : Room j X.A) (hi : Ev X i σ s k) (ho : Ev X o σ s (Rw.mk (.ref p))) (r : OwnDT X.K s p xs) (h1 : behindInMarks .NotIn o = false := by rfl) : EvB X (.Compare i [.NotIn] [o] pos) σ s (!(dval xs k.pr).isSome) :=
  ⟨fun s1 k1 Q q => we_of (pe_cmp (pc_dnotin (hu1 hr) pe_we pe_we) h1) (hi s1 k1 _ fun u s2 k2 e2 => ho s2 (k1.trans k2) _ fun v s3 k3 e3 => by
    cases (show v = V.ref p from e3)
    obtain ⟨o', g1, g2⟩ := dgetT_of (r.ex ((k1.trans k2).trans k3)) (Enc.mono k3.f (e2 : rep _ _ u k))
    exact ⟨p, o', rfl, g1, by rw [g2]; exact q _ s3 (k2.trans k3) rfl⟩),
   fun s1 k1 Q q => wt_of (pt_cmp (pc_dnotin (hu1 hr) pe_we pe_we) h1) (hi s1 k1 _ fun u s2 k2 e2 => ho s2 (k1.trans k2) _ fun v s3 k3 e3 => by
    cases (show v = V.ref p from e3)
    obtain ⟨o', g1, g2⟩ := dgetT_of (r.ex ((k1.trans k2).trans k3)) (Enc.mono k3.f (e2 : rep _ _ u k))
    exact ⟨p, o', rfl, g1, _, by rw [g2], q s3 (k2.trans k3)⟩)⟩
theorem ev_dtlen {xs : List ((Int × Int) × α)} (hm : X.mg "len" = none) (ho : Ev X o σ s (Rw.mk (.ref p))) (r : OwnDT X.K s p xs) (hg : Gl X "len" := by rfl) (he : starEach [o] X.env = (false, eval o X.env) :: starEach [] X.env := by rfl) (hpl : (backTo pos (starEach [] X.env)).any (·.1) = false := by rfl) : Ev X (.Call (.Name "len" p0) [o] [] pos) σ s (xs.length : Int) := fun s1 k1 Q q =>
  we_of (pe_callB call_len_dT hg hm boot_len (pa_cons pe_we pa_nil he) (he := he) (hpl := hpl)) (ho s1 k1 _ fun v s2 k2 e2 => by
    cases (show v = V.ref p from e2)
    obtain ⟨_, kv, h1, h2⟩ := r.ex (k1.trans k2)
    exact ⟨p, kv, rfl, h1, q _ s2 k2 (by rw [h2.len]; rfl)⟩)
def EvNT (X : Cx) (e : Expr) (σ : L2.St) (s : S) (xs : List ((Int × Int) × α)) : Prop := ∀ s1, Ex s s1 → ∀ Q : VK, (∀ p s2, Ex s1 s2 → s1.H p = none → OwnDT X.K s2 p xs → Q (.ref p) s2.H) → WE X e σ s1.H Q
theorem en_dtnew : EvNT X (.Dict [] [] pos) σ s ([] : List ((Int × Int) × α)) := fun s1 k1 Q q => we_of pe_dnewT fun p hp => q p (s1.newO p (.dT []) hp) (Ex.newO hp) hp ⟨(fF hp : s1.F p = none), [], upd_same, trivial⟩
theorem eg_newT {xs : List ((Int × Int) × α)} (h : EvNT X e σ s xs) : EvG X e σ s (fun v L' => ∃ p, v = .ref p ∧ L' = [odT p xs]) := fun s1 k Q q => h s1 k Q fun p s2 k2 n2 r => q _ s2 _ ⟨p, rfl, rfl⟩ (ev_ivdT k2 n2 r)
theorem do_dtput {j : Nat} {k : PK} {xs : List ((Int × Int) × α)} {y : α} (hr : Room j X.A) (ho : Ev X o σ s (Rw.mk (.ref p))) (r : OwnDT X.K s p xs) (hv : Ev X e σ s y) (hi : Ev X i σ s k) (hz : xs.length < sizeLine) (kk : ∀ s1, Mx (· = p) s s1 → OwnDT X.K s1 p (dput xs k.pr y) → WSs X rest D σ s1.H)
    (hs : swapsWith e (some (.Subscript o i p1)) pos.line X.env = pure false := by rfl) : WSs X (.Assign [.Subscript o i p1] e pos :: rest) D σ s.H :=
  do_cons (ps_dput (hu1 hr) pe_we pe_we pe_we hs) (hv s (Ex.refl _) _ fun v s1 k1 e1 => ho s1 k1 _ fun u s2 k2 e2 => hi s2 (k1.trans k2) _ fun w s3 k3 e3 => by
    cases (show u = V.ref p from e2)
    have kx := (k1.trans k2).trans k3
    obtain ⟨f0, kv, h1, h2⟩ := r.ex kx
    obtain ⟨b, rfl, hb⟩ := (e3 : rep _ _ w k)
    refine ⟨p, _, rfl, .inr ⟨kv, kp k.pr, b, h1, rfl, s3.sub _ _ hb, by rw [h2.len]; exact hz, rfl⟩, ?_⟩
    exact kk (s3.put p (.dT (putK kv (kp k.pr) v)) f0) (kx.mx.trans (Mx.put f0)) ⟨f0, _, upd_same, h2.put (Enc.mono (k2.trans k3).f e1)⟩)
end
end Dy

namespace Dy
open PySem PySem.Spec L2
open PyProof.Rows hiding St
open Enc (rep)
open Flat (toV)
open EncA (repA)

section
variable {X : Cx} {α β γ δ ε : Type} [Enc α] [Enc β] [Enc γ] [Enc δ] [Enc ε] {σ : L2.St} {s : S} {a : Expr} {lo hi : Option Expr} {p2 pos : Pos}
theorem ev_sl53 {x : T5 α β γ δ ε} (ha : Ev X a σ s x) (hh : EvO X hi σ s (some 3)) : Ev X (.Subscript a (.Slice none hi none p2) pos) σ s (⟨x.a, x.b, x.c⟩ : T3 α β γ) := fun s1 k Q q => by
  obtain ⟨tl, pl, ql⟩ := po_evo (eo_none (X := X) (σ := σ) (s := s))
  obtain ⟨th, ph, qh⟩ := po_evo hh
  refine we_of (pe_slice sl_tupA pe_we pl ph) (ha s1 k _ fun v s2 k2 r2 => ql s2 (k.trans k2) _ fun s3 k3 => qh s3 ((k.trans k2).trans k3) _ fun s4 k4 => ?_)
  obtain ⟨p, v1, v2, v3, v4, v5, rfl, h0, h1, h2, h3, _, _⟩ := Enc.mono (α := T5 α β γ δ ε) (k3.trans k4).f r2
  have kk := (k2.trans k3).trans k4
  refine ⟨p, _, rfl, sqt_mono s4.sub h0, fun hw => ?_, fun _ l hl => q _ (s4.newF l _ hl) (kk.trans (Ex.newF hl)) ⟨l, v1, v2, v3, rfl, tup_new hl, Enc.mono (Ex.newF hl).f h1, Enc.mono (Ex.newF hl).f h2, Enc.mono (Ex.newF hl).f h3⟩⟩
  exact absurd hw (show ¬ (HT.sIx 5 0 none = 0 ∧ HT.sIx 5 5 (some 3) = 5) by decide)
theorem ev_sl52 {x : T5 α β γ δ ε} (ha : Ev X a σ s x) (hh : EvO X hi σ s (some 2)) : Ev X (.Subscript a (.Slice none hi none p2) pos) σ s (x.a, x.b) := fun s1 k Q q => by
  obtain ⟨tl, pl, ql⟩ := po_evo (eo_none (X := X) (σ := σ) (s := s))
  obtain ⟨th, ph, qh⟩ := po_evo hh
  refine we_of (pe_slice sl_tupA pe_we pl ph) (ha s1 k _ fun v s2 k2 r2 => ql s2 (k.trans k2) _ fun s3 k3 => qh s3 ((k.trans k2).trans k3) _ fun s4 k4 => ?_)
  obtain ⟨p, v1, v2, v3, v4, v5, rfl, h0, h1, h2, h3, _, _⟩ := Enc.mono (α := T5 α β γ δ ε) (k3.trans k4).f r2
  have kk := (k2.trans k3).trans k4
  refine ⟨p, _, rfl, sqt_mono s4.sub h0, fun hw => ?_, fun _ l hl => q _ (s4.newF l _ hl) (kk.trans (Ex.newF hl)) ⟨l, v1, v2, rfl, tup_new hl, Enc.mono (Ex.newF hl).f h1, Enc.mono (Ex.newF hl).f h2⟩⟩
  exact absurd hw (show ¬ (HT.sIx 5 0 none = 0 ∧ HT.sIx 5 5 (some 2) = 5) by decide)
theorem ev_sl5t {p : Addr} {v1 v2 v3 v4 v5 : V} (ha : Ev X a σ s (Rw.mk (.ref p))) (hp : s.H p = some (.tup [v1, v2, v3, v4, v5])) (hl : EvO X lo σ s (some 2)) : Ev X (.Subscript a (.Slice lo none none p2) pos) σ s (⟨[Rw.mk v3, Rw.mk v4, Rw.mk v5]⟩ : Tu Rw) := fun s1 k Q q => by
  obtain ⟨tl, pl, ql⟩ := po_evo hl
  obtain ⟨th, ph, qh⟩ := po_evo (eo_none (X := X) (σ := σ) (s := s))
  refine we_of (pe_slice sl_tupA pe_we pl ph) (ha s1 k _ fun v s2 k2 r2 => ql s2 (k.trans k2) _ fun s3 k3 => qh s3 ((k.trans k2).trans k3) _ fun s4 k4 => ?_)
  cases (show v = V.ref p from r2)
  have kk := (k2.trans k3).trans k4
  refine ⟨p, _, rfl, .inl (.inl ((k.trans kk).h _ _ hp)), fun hw => ?_, fun _ l hl => q _ (s4.newF l _ hl) (kk.trans (Ex.newF hl)) ⟨l, [v3, v4, v5], rfl, tup_new hl, rfl, rfl, rfl, trivial⟩⟩
  exact absurd hw (show ¬ (HT.sIx 5 0 (some 2) = 0 ∧ HT.sIx 5 5 none = 5) by decide)
end
section
variable {X : Cx} {α β γ : Type} [Enc α] [Enc β] [Enc γ] {P0 : Addr → Prop} {s0 s : S} {L : List OA} {σ : L2.St} {D : Ends} {rest : List Stmt}
theorem do_app3 {p p3 p4 p5 : Addr} {v1 v2 : V} {xs3 : List α} {xs4 : List β} {xs5 : List γ} {y3 : α} {y4 : β} {y5 : γ} {k i3 i4 i5 : Nat} {nt : Str} {a e : Expr} {lo : Option Expr} {q1 q2 q3 q4 q5 q6 q7 q8 : Pos}
    (iv : Iv X.K P0 s0 s L) (hp0 : PassesOwn (model X.prog X.w) X.A X.env X.xe) (hc : X.calm = true) (ha : Ev X a σ s (Rw.mk (.ref p))) (ht : s.H p = some (.tup [v1, v2, .ref p3, .ref p4, .ref p5])) (hl : EvO X lo σ s (some 2))
    (hg : PG X (.Name nt q1) (gName k)) (h3 : L[i3]? = some (ol p3 xs3)) (h4 : L[i4]? = some (ol p4 xs4)) (h5 : L[i5]? = some (ol p5 xs5)) (d34 : i3 ≠ i4) (d35 : i3 ≠ i5) (d45 : i4 ≠ i5)
    (he : ∀ w t, Ev X e (σ.set k (some w)) t y3) (he4 : ∀ w t, Ev X e (σ.set k (some w)) t y4) (he5 : ∀ w t, Ev X e (σ.set k (some w)) t y5) (z3 : xs3.length < sizeLine) (z4 : xs4.length < sizeLine) (z5 : xs5.length < sizeLine)
    (kk : ∀ s1, Fle s.F s1.F → Iv X.K P0 s0 s1 (((L.set i3 (ol p3 (xs3 ++ [y3]))).set i4 (ol p4 (xs4 ++ [y4]))).set i5 (ol p5 (xs5 ++ [y5]))) → WSs X rest D (σ.set k (some (.ref p5))) s1.H)
    (hk : k < σ.length) (hN : X.N[k]? = some nt := by rfl) (hv : Vis X.env.scope nt := by first | exact Or.inl rfl | exact Or.inr (Or.inl rfl) | exact Or.inr (Or.inr rfl)) (hd : (nt == ("__debug__" : Str)) = false := by decide) (hcd : (nt == ("__classdict__" : Str)) = false := by decide)
    (hbase : attributeBase (.Name nt q4) "append" X.env (eval (.Name nt q4) X.env) = eval (.Name nt q4) X.env := by rfl)
    (hfew : ((backTo q6 (starEach [e] X.env)).all (fun x => !x.1) && (backToKw q6 (keywordEach [] X.env)).all (fun x => x.1.isSome) && decide (([e] : List Expr).length + ([] : List Keyword).length + (if ([] : List Keyword).isEmpty then 0 else 1) < 30)) = true := by rfl)
    (hline : (q5.endLine == q6.line) = true := by rfl) (hs : starEach [e] X.env = (false, eval e X.env) :: starEach [] X.env := by rfl) (hplain : (backTo q6 (starEach [] X.env)).any (·.1) = false := by rfl)
    (hsw : swapsWith (.Call (.Attribute (.Name nt q4) "append" q5) [e] [] q6) none q7.line X.env = pure false := by rfl)
    (hsf : ∀ x, foldedSetIterable (.Subscript a (.Slice lo none none q2) q3) X.env x = pure x := by intro _; rfl) :
    WSs X (.For (.Name nt q1) (.Subscript a (.Slice lo none none q2) q3) [.Expr (.Call (.Attribute (.Name nt q4) "append" q5) [e] [] q6) q7] [] q8 :: rest) D σ s.H := by
  have hat : ∀ v : V, (σ.set k (some v))[k]? = some (some v) := fun v => by rw [List.getElem?_set_self hk]
  refine do_for_core hp0 hc (ei_tup (ev_sl5t ha ht hl)) hg tg_n (fun i σ' t => match i with
    | 0 => σ' = σ ∧ Fle s.F t.F ∧ Iv X.K P0 s0 t L
    | 1 => σ' = σ.set k (some (.ref p3)) ∧ Fle s.F t.F ∧ Iv X.K P0 s0 t (L.set i3 (ol p3 (xs3 ++ [y3])))
    | 2 => σ' = σ.set k (some (.ref p4)) ∧ Fle s.F t.F ∧ Iv X.K P0 s0 t ((L.set i3 (ol p3 (xs3 ++ [y3]))).set i4 (ol p4 (xs4 ++ [y4])))
    | _ => σ' = σ.set k (some (.ref p5)) ∧ Fle s.F t.F ∧ Iv X.K P0 s0 t (((L.set i3 (ol p3 (xs3 ++ [y3]))).set i4 (ol p4 (xs4 ++ [y4]))).set i5 (ol p5 (xs5 ++ [y5]))))
    (fun s1 k1 => ⟨rfl, k1.f, iv.ex k1⟩) (fun s1 k1 i x σ' σ2 t t' hx fl hR kt hB => ?_) (fun s1 k1 σ' t fl hR => ?_) hsf
  · obtain ⟨w, rw_, rfl⟩ := hB
    match i, hx with
    | 0, hx =>
      obtain rfl : Rw.mk (.ref p3) = x := Option.some.inj hx
      cases (show w = V.ref p3 from rw_)
      obtain ⟨rfl, f0, iv0⟩ := hR
      have iv1 := iv0.ex kt
      exact do_appendP (raw_var k (hat _) hN hv hd hcd) (iv1.ol i3 h3) (he _ _) z3 (fun s2 m2 o2 => do_nil ⟨s2, rfl, m2.f, rfl, f0.trans (kt.f.trans m2.f), iv1.ml i3 m2 o2 rfl h3⟩) hbase hfew hline hs hplain hsw
    | 1, hx =>
      obtain rfl : Rw.mk (.ref p4) = x := Option.some.inj hx
      cases (show w = V.ref p4 from rw_)
      obtain ⟨rfl, f0, iv0⟩ := hR
      have iv1 := iv0.ex kt
      have h4' : (L.set i3 (ol p3 (xs3 ++ [y3])))[i4]? = some (ol p4 xs4) := by rw [List.getElem?_set_ne d34]; exact h4
      rw [List.set_set]
      exact do_appendP (raw_var k (hat _) hN hv hd hcd) (iv1.ol i4 h4') (he4 _ _) z4 (fun s2 m2 o2 => do_nil ⟨s2, rfl, m2.f, rfl, f0.trans (kt.f.trans m2.f), iv1.ml i4 m2 o2 rfl h4'⟩) hbase hfew hline hs hplain hsw
    | 2, hx =>
      obtain rfl : Rw.mk (.ref p5) = x := Option.some.inj hx
      cases (show w = V.ref p5 from rw_)
      obtain ⟨rfl, f0, iv0⟩ := hR
      have iv1 := iv0.ex kt
      have h5' : ((L.set i3 (ol p3 (xs3 ++ [y3]))).set i4 (ol p4 (xs4 ++ [y4])))[i5]? = some (ol p5 xs5) := by rw [List.getElem?_set_ne d45, List.getElem?_set_ne d35]; exact h5
      rw [List.set_set]
      exact do_appendP (raw_var k (hat _) hN hv hd hcd) (iv1.ol i5 h5') (he5 _ _) z5 (fun s2 m2 o2 => do_nil ⟨s2, rfl, m2.f, rfl, f0.trans (kt.f.trans m2.f), iv1.ml i5 m2 o2 rfl h5'⟩) hbase hfew hline hs hplain hsw
  · obtain ⟨rfl, f0, iv0⟩ := hR
    exact kk t f0 iv0
end
end Dy

namespace Dy
open PySem PySem.Spec L2
open PyProof.Rows hiding St
open Enc (rep)
open Flat (toV)
open EncA (repA)

section
variable {X : Cx} {α : Type} [Enc α] {σ : L2.St} {s : S} {o e : Expr} {D : Ends} {rest : List Stmt} {p1 p2 p3 : Pos}
theorem do_appendN {xs : List α} {x : α} (ho : EvN X o σ s xs) (he : Ev X e σ s x) (hz : xs.length < sizeLine)
    (k : ∀ s1, Ex s s1 → WSs X rest D σ s1.H)
    (hbase : attributeBase o "append" X.env (eval o X.env) = eval o X.env := by rfl)
    (hfew : ((backTo p2 (starEach [e] X.env)).all (fun x => !x.1) && (backToKw p2 (keywordEach [] X.env)).all (fun x => x.1.isSome) && decide (([e] : List Expr).length + ([] : List Keyword).length + (if ([] : List Keyword).isEmpty then 0 else 1) < 30)) = true := by rfl)
    (hline : (p1.endLine == p2.line) = true := by rfl) (hs : starEach [e] X.env = (false, eval e X.env) :: starEach [] X.env := by rfl) (hplain : (backTo p2 (starEach [] X.env)).any (·.1) = false := by rfl)
    (hsw : swapsWith (.Call (.Attribute o "append" p1) [e] [] p2) none p3.line X.env = pure false := by rfl) :
    WSs X (.Expr (.Call (.Attribute o "append" p1) [e] [] p2) p3 :: rest) D σ s.H :=
  do_cons (ps_expr (pe_bm PySem.F.plainAttrs_list PySem.F.slot_list_append PySem.F.type_list_append mt_append pe_we (pa_cons pe_we pa_nil hs) hbase hfew hline hs hplain) hsw) (ho s (Ex.refl _) _ fun p s1 k1 n1 r => by
    obtain ⟨f1, vs, h2, h3⟩ := id r
    refine ⟨.inl ⟨rfl, vs, .inl (.inl h2)⟩, he s1 k1 _ fun v s2 k2 r2 => ?_⟩
    obtain ⟨f2, ws, g2, g3⟩ := r.ex k2
    refine ⟨p, ws, v, rfl, rfl, g2, by rw [g3.len]; exact hz, ?_⟩
    have kx := k1.trans k2
    refine k (s2.put p (.lst (ws ++ [v])) f2) ⟨kx.f, fun a u q => ?_, fun a u q n => kx.n a u q n⟩
    by_cases ea : a = p
    · subst ea; rw [n1] at q; cases q
    · show upd s2.H p _ a = _
      rw [upd_ne ea]; exact kx.h _ _ q)
end
end Dy

namespace Dy
open PySem PySem.Spec L2
open PyProof.Rows hiding St

def cl (x : Str) : List Nat := x.cps.toList
theorem cl_ext {x y : Str} (h : cl x = cl y) : x = y := by
  cases x; cases y
  congr 1
  exact Array.toList_inj.mp h
theorem cl_app (x y : Str) : cl (x ++ y) = cl x ++ cl y := by
  show (x.cps ++ y.cps).toList = _
  exact Array.toList_append
theorem cl_len (x : Str) : (cl x).length = x.length := Array.length_toList
theorem app_uniq {c : Nat} : ∀ {a b x y : List Nat}, c ∉ a → c ∉ b → a ++ c :: x = b ++ c :: y → a = b ∧ x = y
  | [], [], _, _, _, _, e => ⟨rfl, (List.cons.inj e).2⟩
  | [], b :: r, _, _, _, hb, e => absurd (List.mem_cons.mpr (.inl (List.cons.inj e).1)) hb
  | a :: r, [], _, _, ha, _, e => absurd (List.mem_cons.mpr (.inl (List.cons.inj e).1.symm)) ha
  | a :: r, b :: q, x, y, ha, hb, e => by
    obtain ⟨h1, h2⟩ := List.cons.inj e
    obtain ⟨h3, h4⟩ := app_uniq (fun h => ha (List.mem_cons_of_mem _ h)) (fun h => hb (List.mem_cons_of_mem _ h)) h2
    exact ⟨by rw [h1, h3], h4⟩
theorem join_cons2 (sep a b : Str) (r : List Str) : cl (Str.join sep (a :: b :: r)) = cl a ++ (cl sep ++ cl (Str.join sep (b :: r))) := by
  show cl (a ++ sep ++ Str.join sep (b :: r)) = _
  rw [cl_app, cl_app, List.append_assoc]
theorem parse_uniq {c : Nat} : ∀ {as bs : List Str}, as ≠ [] → bs ≠ [] → (∀ a ∈ as, c ∉ cl a) → (∀ b ∈ bs, c ∉ cl b) → Str.join ⟨#[c]⟩ as = Str.join ⟨#[c]⟩ bs → as = bs
  | [], _, h, _, _, _, _ => absurd rfl h
  | _, [], _, h, _, _, _ => absurd rfl h
  | [a], [b], _, _, _, _, e => by rw [show a = b from e]
  | [a], b :: b2 :: r, _, _, ha, _, e => by
    have h1 := join_cons2 ⟨#[c]⟩ b b2 r
    rw [← e] at h1
    have : c ∈ cl a := by
      have h1 : cl a = _ := h1
      rw [h1]
      exact List.mem_append_right _ (List.mem_append_left _ (List.mem_singleton.mpr rfl))
    exact absurd this (ha a List.mem_cons_self)
  | a :: a2 :: r, [b], _, _, _, hb, e => by
    have h1 := join_cons2 ⟨#[c]⟩ a a2 r
    rw [e] at h1
    have : c ∈ cl b := by
      have h1 : cl b = _ := h1
      rw [h1]
      exact List.mem_append_right _ (List.mem_append_left _ (List.mem_singleton.mpr rfl))
    exact absurd this (hb b List.mem_cons_self)
  | a :: a2 :: r, b :: b2 :: q, _, _, ha, hb, e => by
    have h1 := congrArg cl e
    rw [join_cons2, join_cons2] at h1
    obtain ⟨h2, h3⟩ := app_uniq (c := c) (ha a List.mem_cons_self) (hb b List.mem_cons_self) h1
    rw [cl_ext h2, parse_uniq (as := a2 :: r) (bs := b2 :: q) (by simp) (by simp) (fun x hx => ha x (List.mem_cons_of_mem _ hx)) (fun x hx => hb x (List.mem_cons_of_mem _ hx)) (cl_ext h3)]
theorem split_ne (x y : Str) : Txt.split x y ≠ [] := fun e => by
  have := PyProof.Rows.split_pos x y
  rw [e] at this
  exact absurd this (by decide)
theorem split_join {sep : Str} {c : Nat} (hs : sep = ⟨#[c]⟩) {as : List Str} (h0 : as ≠ []) (h : ∀ a ∈ as, c ∉ cl a) : Txt.split (Txt.join sep as) sep = as := by
  subst hs
  refine parse_uniq (c := c) (split_ne _ _) h0 (fun p hp => StrLaws.split_free _ _ p hp) h ?_
  rw [StrLaws.join_split]
  show Builtin.Str.glued _ _ = _
  rw [StrLaws.glued_eq_join]
theorem split_free' {sep : Str} {c : Nat} (hs : sep = ⟨#[c]⟩) (x : Str) : ∀ p ∈ Txt.split x sep, c ∉ cl p := by
  subst hs
  exact fun p hp => StrLaws.split_free _ _ p hp
theorem split_none {sep : Str} {c : Nat} (hs : sep = ⟨#[c]⟩) {x : Str} (h : c ∉ cl x) : Txt.split x sep = [x] := by
  have := split_join hs (as := [x]) (by simp) (fun a ha => by rw [List.mem_singleton.mp ha]; exact h)
  exact this
theorem split_sum {x sep : Str} (hy : 1 ≤ sep.length) : ((Txt.split x sep).map (·.length)).sum + (Txt.split x sep).length ≤ x.length + 1 := PyProof.Rows.split_weight x sep hy
theorem join_le (sep : Str) (ys : List Str) : (Txt.join sep ys).length ≤ (ys.map (·.length)).sum + ys.length * sep.length := by
  show (Builtin.Str.glued sep ys).length ≤ _
  rw [StrLaws.glued_eq_join]
  exact StrLaws.join_length_le sep ys
def isFig (c : Nat) : Bool := decide (48 ≤ c ∧ c ≤ 57)
def numOf (x : Str) : Option Nat := if 1 ≤ x.length ∧ x.length ≤ 60 ∧ (cl x).all isFig = true ∧ ((cl x).head? = some 48 → x.length = 1) then some (NumText.digitsVal (cl x)) else none
theorem strI_cl (n : Nat) : cl (strI (n : Int)) = TL.numL n := TL.tl_num n
theorem numL_lead : ∀ n : Nat, (TL.numL n).head? = some 48 → TL.numL n = [48] := fun n => by
  induction n using Nat.strongRecOn with
  | _ n ih =>
    intro h
    by_cases h1 : n < 10
    · rw [TL.numL_lt h1] at h ⊢
      have := Option.some.inj h
      rw [this]
    · rw [TL.numL_step (by omega)] at h
      obtain ⟨c, r, e⟩ := List.exists_cons_of_ne_nil (TL.numL_ne (n / 10))
      rw [e] at h
      have h2 : (TL.numL (n / 10)).head? = some 48 := by rw [e]; exact h
      have h3 := ih (n / 10) (by omega) h2
      have h4 := TL.numL_val (n / 10)
      rw [h3] at h4
      have : (0 : Nat) = n / 10 := h4
      omega
theorem numOf_str {n : Nat} (h : n < 10 ^ 60) : numOf (strI (n : Int)) = some n := by
  unfold numOf
  have hl := TL.numL_len (n := n) (k := 60) (by decide) h
  have hlen : (strI (n : Int)).length = (TL.numL n).length := by rw [← cl_len, strI_cl]
  have hne : 1 ≤ (TL.numL n).length := List.length_pos_iff.mpr (TL.numL_ne n)
  rw [if_pos, strI_cl, TL.numL_val]
  refine ⟨by omega, by omega, ?_, fun h2 => ?_⟩
  · rw [strI_cl, List.all_eq_true]
    exact fun c hc => decide_eq_true (TL.numL_digits n c hc)
  · rw [strI_cl] at h2
    rw [hlen, numL_lead n h2]; rfl
theorem strI_free {n c : Nat} (h : c < 48 ∨ 57 < c) : c ∉ cl (strI (n : Int)) := by
  rw [strI_cl]
  exact TL.numL_free h
theorem strI_len {n : Nat} {k : Nat} (hk : 0 < k) (h : n < 10 ^ k) : (strI (n : Int)).length ≤ k := by
  rw [← cl_len, strI_cl]
  exact TL.numL_len hk h
end Dy

namespace Dy
open PySem PySem.Spec L2
open PyProof.Rows hiding St
open Enc (rep)
open EncA (repA)
def unR {α β : Type} : List (α ⊕ β) → Option (List β)
  | [] => some []
  | .inl _ :: _ => none
  | .inr x :: r => (unR r).map (x :: ·)
theorem unR_some {α β : Type} : ∀ {xs : List (α ⊕ β)} {ys : List β}, unR xs = some ys → xs = ys.map .inr
  | [], ys, h => by cases h; rfl
  | .inl _ :: _, ys, h => by cases h
  | .inr x :: r, ys, h => by
    unfold unR at h
    cases hr : unR r with
    | none => rw [hr] at h; cases h
    | some zs =>
      rw [hr] at h
      cases h
      rw [List.map_cons, unR_some hr]
theorem unR_map {α β : Type} : ∀ ys : List β, unR (ys.map (Sum.inr : β → α ⊕ β)) = some ys
  | [] => rfl
  | y :: r => by
    show (unR (r.map Sum.inr)).map (y :: ·) = _
    rw [unR_map r]; rfl
instance {α : Type} [EqD α] : EqD (Option (List α)) := ⟨fun x => match x with | none => .none | some l => EqD.toD l, fun {K F H v x} h f => by
  cases x with
  | none => rw [show v = V.non from h]; exact .non
  | some l => exact EqD.dp (α := List α) h f, fun x y => by
  cases x with
  | none => cases y with
    | none => exact ⟨fun _ => rfl, fun _ => rfl⟩
    | some m => exact ⟨fun h => (by cases (show false = true from h)), fun h => by cases h⟩
  | some l => cases y with
    | none => exact ⟨fun h => (by cases (show false = true from h)), fun h => by cases h⟩
    | some m => exact (EqD.eqv l m).trans ⟨fun h => by rw [h], fun h => Option.some.inj h⟩⟩
instance {α : Type} {n : Nat} [Shp α n] : Shp (Option (List α)) (n + 1) := ⟨fun x => by
  cases x with
  | none => exact ⟨by show PyData.canLay0 .none = true; unfold PyData.canLay0; rfl, by show PyData.depth .none ≤ n + 1; unfold PyData.depth; omega⟩
  | some l => exact Shp.ok (α := List α) l⟩
section
variable {X : Cx} {σ : L2.St} {s : S} {e : Expr} {α β : Type} [Enc α] [Enc β] {K : PySem.W.Frag}
theorem reps_unR {F : Hp} : ∀ {vs : List V} {ys : List β}, Reps K F vs (ys.map (Sum.inr : β → α ⊕ β)) → Reps K F vs ys
  | [], [], _ => trivial
  | _ :: _, _ :: _, ⟨h, t⟩ => ⟨h, reps_unR t⟩
  | [], _ :: _, h => h.elim
  | _ :: _, [], h => h.elim
theorem er_unR {xs : List (α ⊕ β)} {ys : List β} (h : EvR X e σ s xs) (hu : unR xs = some ys) : EvR X e σ s ys := by
  obtain rfl := unR_some hu
  exact fun s1 k Q q => h s1 k Q fun v s2 k2 ⟨p, vs, e1, h1, h2⟩ => q v s2 k2 ⟨p, vs, e1, h1, reps_unR h2⟩
theorem ev_unR {xs : List (α ⊕ β)} {ys : List β} (h : Ev X e σ s xs) (hu : unR xs = some ys) : Ev X e σ s ys := by
  obtain rfl := unR_some hu
  exact fun s1 k Q q => h s1 k Q fun v s2 k2 ⟨p, vs, e1, h1, h2⟩ => q v s2 k2 ⟨p, vs, e1, h1, reps_unR h2⟩
end
end Dy

namespace Dy
open PySem PySem.Spec L2
open PyProof.Rows hiding St
open Enc (rep)
open EncA (repA)
structure LL where
  p : Addr
  q : List Addr
def Cols {α : Type} [Enc α] (K : PySem.W.Frag) (F H : Hp) (qs : List Addr) (xss : List (List α)) : Prop := qs.length = xss.length ∧ ∀ (i : Nat) (q : Addr) (xs : List α), qs[i]? = some q → xss[i]? = some xs → ∃ vs, H q = some (.lst vs) ∧ Reps K F vs xs
def oll {α : Type} [Enc α] (l : LL) (xss : List (List α)) : OA := ⟨fun K F H P => l.q.Nodup ∧ l.p ∉ l.q ∧ (∀ a, P a ↔ (a = l.p ∨ a ∈ l.q)) ∧ H l.p = some (.lst (l.q.map .ref)) ∧ Cols K F H l.q xss,
  fun e ⟨h0, h1, h2, h3, h4, h5⟩ => ⟨h0, h1, h2, h3, h4, fun i q xs a b => by
    obtain ⟨vs, g1, g2⟩ := h5 i q xs a b
    exact ⟨vs, g1, g2.mono e⟩⟩,
  fun e ⟨h0, h1, h2, h3, h4, h5⟩ => ⟨h0, h1, h2, by rw [e _ ((h2 _).mpr (.inl rfl))]; exact h3, h4, fun i q xs a b => by
    obtain ⟨vs, g1, g2⟩ := h5 i q xs a b
    exact ⟨vs, by rw [e q ((h2 q).mpr (.inr (List.mem_of_getElem? a)))]; exact g1, g2⟩⟩,
  fun ⟨h0, h1, h2, h3, h4, h5⟩ q => by
    rcases (h2 _).mp q with rfl | hq
    · exact ⟨_, h3⟩
    · obtain ⟨i, hi⟩ := List.mem_iff_getElem?.mp hq
      have hl : i < xss.length := by rw [← h4]; exact (List.getElem?_eq_some_iff.mp hi).1
      obtain ⟨vs, g1, _⟩ := h5 i _ _ hi (List.getElem?_eq_getElem hl)
      exact ⟨_, g1⟩⟩
structure OwnLL {α : Type} [Enc α] (K : PySem.W.Frag) (s : S) (l : LL) (xss : List (List α)) : Prop where
  nd : l.q.Nodup
  np : l.p ∉ l.q
  fp : s.F l.p = none
  fq : ∀ q ∈ l.q, s.F q = none
  hp : s.H l.p = some (.lst (l.q.map .ref))
  c : Cols K s.F s.H l.q xss
section
variable {α τ : Type} [Enc α] [Enc τ] {K : PySem.W.Frag} {P0 : Addr → Prop} {s0 s s1 t : S} {L : List OA} {l : LL} {xss zss : List (List α)} {xs ys : List α} {i : Nat} {q : Addr}
theorem OwnLL.len (h : OwnLL K s l xss) : l.q.length = xss.length := h.c.1
theorem OwnLL.ref (h : OwnLL K s l xss) (hi : i < xss.length) : ∃ q, l.q[i]? = some q := ⟨l.q[i]'(by rw [h.len]; exact hi), List.getElem?_eq_getElem _⟩
theorem OwnLL.row (h : OwnLL K s l xss) (hq : l.q[i]? = some q) (hx : xss[i]? = some xs) : Own K s q xs := by
  obtain ⟨vs, h1, h2⟩ := h.c.2 i q xs hq hx
  exact ⟨h.fq q (List.mem_of_getElem? hq), vs, h1, h2⟩
theorem OwnLL.ex (h : OwnLL K s l xss) (e : Ex s t) : OwnLL K t l xss := by
  refine ⟨h.nd, h.np, e.n _ _ h.hp h.fp, fun q hq => ?_, e.h _ _ h.hp, h.c.1, fun i q xs a b => ?_⟩
  · obtain ⟨i, hi⟩ := List.mem_iff_getElem?.mp hq
    have hl : i < xss.length := by rw [← h.len]; exact (List.getElem?_eq_some_iff.mp hi).1
    obtain ⟨vs, g1, _⟩ := h.c.2 i _ _ hi (List.getElem?_eq_getElem hl)
    exact e.n _ _ g1 (h.fq q hq)
  · obtain ⟨vs, g1, g2⟩ := h.c.2 i q xs a b
    exact ⟨vs, e.h _ _ g1, g2.mono e.f⟩
theorem Iv.oll (h : Iv K P0 s0 s L) (k : Nat) (e : L[k]? = some (Dy.oll l xss) := by rfl) : OwnLL K s l xss := by
  obtain ⟨P, ⟨h0, h1, h2, h3, h4⟩, h5⟩ := h.at k e
  exact ⟨h0, h1, h5 _ ((h2 _).mpr (.inl rfl)), fun q hq => h5 _ ((h2 _).mpr (.inr hq)), h3, h4⟩
theorem Iv.mll (h : Iv K P0 s0 s L) (k : Nat) (m : Mx (· = q) s s1) (hq : l.q[i]? = some q) (o : Own K s1 q ys) (e : zss = xss.set i ys) (hA : L[k]? = some (Dy.oll l xss) := by rfl) : Iv K P0 s0 s1 (L.set k (Dy.oll l zss)) := by
  subst e
  refine h.upd k hA fun P hP hF => ⟨P, ?_, fun a z => ⟨?_, .inl z⟩, ?_⟩
  · obtain ⟨h0, h1, h2, h3, h4, h5⟩ := hP
    have mq : q ∈ l.q := List.mem_of_getElem? hq
    have ne : l.p ≠ q := fun z => h1 (by rw [z]; exact mq)
    refine ⟨h0, h1, h2, m.h _ _ h3 ne, by rw [List.length_set]; exact h4, fun j r zs a b => ?_⟩
    by_cases e : i = j
    · subst e
      rw [hq] at a
      cases a
      have hl : i < xss.length := by rw [← h4]; exact (List.getElem?_eq_some_iff.mp hq).1
      rw [List.getElem?_set_self hl] at b
      cases b
      obtain ⟨_, vs, g1, g2⟩ := o
      exact ⟨vs, g1, g2⟩
    · rw [List.getElem?_set_ne e] at b
      obtain ⟨vs, g1, g2⟩ := h5 j r zs a b
      have hn : r ≠ q := fun z => by
        obtain ⟨hi, ei⟩ := List.getElem?_eq_some_iff.mp hq
        obtain ⟨hj, ej⟩ := List.getElem?_eq_some_iff.mp a
        exact e ((List.getElem_inj h0).mp (ei.trans (z.symm.trans ej.symm)))
      exact ⟨vs, m.h _ _ g1 hn, g2.mono m.f⟩
  · obtain ⟨u, hu⟩ := (Dy.oll l xss).dom hP z
    exact m.n _ _ hu (hF a z)
  · exact ⟨m.f, fun a o z n => m.h a o z fun e => n (by rw [e]; exact (hP.2.2.1 q).mpr (.inr (List.mem_of_getElem? hq))), fun a o z _ w => m.n a o z w, m.d⟩
theorem Iv.frzP {A : OA} {γ : Type} [Enc γ] {v : V} {x : γ} (h : Iv K P0 s0 s L) (k : Nat) (hA : L[k]? = some A)
    (st : ∀ P, A.p K s.F s.H P → (∀ a, P a → s.F a = none) → ∃ s' : S, s'.H = s.H ∧ Fle s.F s'.F ∧ (∀ a, ¬ P a → s'.F a = s.F a) ∧ rep K s'.F v x) :
    ∃ s' : S, s'.H = s.H ∧ Fle s.F s'.F ∧ Iv K P0 s0 s' (L.set k (Dy.fz v x)) := by
  obtain ⟨φ, g1, g2, g3⟩ := h.o
  obtain ⟨s', h1, h2, h3, h4⟩ := st (φ k) (g1 k _ hA) fun a q => (g3 k a q).1
  refine ⟨s', h1, h2, ?_⟩
  have hi : k < L.length := (List.getElem?_eq_some_iff.mp hA).1
  refine ⟨⟨h.m.f.trans h2, fun a o q n => by rw [h1]; exact h.m.h a o q n, fun a o q np n => ?_, fun a o q => by rw [h1]; exact h.m.d a o q⟩, fun j a => if j = k then False else φ j a, fun j B hB => ?_, fun j m a q r => ?_, fun j a q => ?_⟩
  · have ne : ¬ φ k a := fun z => by
      rcases (g3 k a z).2.1 with w | w
      · exact np w
      · rw [w] at q; cases q
    rw [h3 a ne]
    exact h.m.n a o q np n
  · by_cases e : j = k
    · subst e
      rw [List.getElem?_set_self hi] at hB
      cases hB
      exact ⟨h4, fun a => by simp⟩
    · rw [List.getElem?_set_ne (Ne.symm e)] at hB
      simp only [e, if_false]
      rw [h1]
      exact B.mono h2 (g1 j B hB)
  · by_cases e : j = k
    · simp only [e, if_true] at q
    · by_cases e2 : m = k
      · simp only [e2, if_true] at r
      · simp only [e, if_false] at q
        simp only [e2, if_false] at r
        exact g2 _ _ _ q r
  · by_cases e : j = k
    · simp only [e, if_true] at q
    · simp only [e, if_false] at q
      obtain ⟨z1, z2, z3⟩ := g3 j a q
      have ne : ¬ φ k a := fun z => e (g2 _ _ _ q z)
      exact ⟨by rw [h3 a ne]; exact z1, z2, by rw [List.length_set]; exact z3⟩
theorem reps_of {γ : Type} [Enc γ] {F : Hp} : ∀ {vs : List V} {xs : List γ}, vs.length = xs.length → (∀ (i : Nat) (v : V) (x : γ), vs[i]? = some v → xs[i]? = some x → rep K F v x) → Reps K F vs xs
  | [], [], _, _ => trivial
  | v :: vs, x :: xs, h, k => ⟨k 0 v x rfl rfl, reps_of (Nat.succ.inj h) fun i v x a b => k (i + 1) v x (by simpa using a) (by simpa using b)⟩
  | [], _ :: _, h, _ => by simp at h
  | _ :: _, [], h, _ => by simp at h
theorem Iv.frzLL (h : Iv K P0 s0 s L) (k : Nat) (hA : L[k]? = some (Dy.oll l xss)) : ∃ s' : S, s'.H = s.H ∧ Fle s.F s'.F ∧ Iv K P0 s0 s' (L.set k (Dy.fz (.ref l.p) xss)) := by
  refine h.frzP k hA fun P ⟨h0, h1, h2, h3, h4, h5⟩ hF => ?_
  have dc : ∀ a, Decidable (a = l.p ∨ a ∈ l.q) := fun a => inferInstance
  have f : Fle s.F (fun a => if a = l.p ∨ a ∈ l.q then s.H a else s.F a) := fun a o z => by
    show (if a = l.p ∨ a ∈ l.q then s.H a else s.F a) = _
    by_cases c : a = l.p ∨ a ∈ l.q
    · rw [hF a ((h2 a).mpr c)] at z; cases z
    · rw [if_neg c]; exact z
  refine ⟨⟨fun a => if a = l.p ∨ a ∈ l.q then s.H a else s.F a, s.H, fun a o z => ?_⟩, rfl, f, fun a n => ?_, ?_⟩
  · by_cases c : a = l.p ∨ a ∈ l.q
    · rw [if_pos c] at z; exact z
    · rw [if_neg c] at z; exact s.sub a o z
  · exact if_neg fun c => n ((h2 a).mpr c)
  · refine ⟨l.p, l.q.map .ref, rfl, .inl (.inl ?_), reps_of (by rw [List.length_map]; exact h4) fun i v x a b => ?_⟩
    · show (if l.p = l.p ∨ l.p ∈ l.q then s.H l.p else s.F l.p) = _
      rw [if_pos (.inl rfl)]; exact h3
    · rw [List.getElem?_map] at a
      obtain ⟨q, hq, rfl⟩ := Option.map_eq_some_iff.mp a
      obtain ⟨vs, g1, g2⟩ := h5 i q x hq b
      refine ⟨q, vs, rfl, .inl (.inl ?_), g2.mono f⟩
      show (if q = l.p ∨ q ∈ l.q then s.H q else s.F q) = _
      rw [if_pos (.inr (List.mem_of_getElem? hq))]; exact g1
theorem iv_ll (e : Ex s s1) (h1 : s.H l.p = none) (h2 : ∀ a ∈ l.q, s.H a = none) (o : OwnLL K s1 l xss) : Iv K No s s1 [Dy.oll l xss] :=
  Iv.put (L := [top]) (Iv.tops (P0 := No) 1 s) 0 e ⟨fun a => a = l.p ∨ a ∈ l.q, ⟨o.nd, o.np, fun _ => Iff.rfl, o.hp, o.c⟩, fun a z => by
    rcases z with rfl | z
    · exact ⟨o.fp, h1⟩
    · exact ⟨o.fq a z, h2 a z⟩⟩
@[reducible] def encIx (l : LL) : Enc Nat := ⟨fun K F v i => ∃ q, l.q[i]? = some q ∧ v = .ref q, fun e h => h⟩
theorem Iv.rll {R : List OA} (h : Iv K P0 s0 s L) (r : Ro K P0 s0 R) (k : Nat) (e : R[k]? = some (Dy.oll l xss) := by rfl) : s.H l.p = some (.lst (l.q.map .ref)) ∧ Cols K s.F s.H l.q xss := by
  obtain ⟨P, h0, h1, h2, h3, h4⟩ := h.ro r k e
  exact ⟨h3, h4⟩
end
section
variable {α τ : Type} [Enc α] [Enc τ] {X : Cx} {σ : L2.St} {P0 : Addr → Prop} {s0 s s1 t : S} {L : List OA} {l : LL} {xss yss : List (List α)} {xs : List α} {e a b c o i elt tg iter : Expr} {ifs : List Expr} {scope : Scope} {own : List (Str × Nat)} {pos p0 p1 : Pos} {D : Ends} {rest : List Stmt}
def RdLL (K : PySem.W.Frag) (s : S) (l : LL) (xss : List (List α)) : Prop := s.H l.p = some (.lst (l.q.map .ref)) ∧ Cols K s.F s.H l.q xss
theorem OwnLL.r {K : PySem.W.Frag} (h : OwnLL K s l xss) : RdLL K s l xss := ⟨h.hp, h.c⟩
theorem RdLL.ex {K : PySem.W.Frag} (h : RdLL K s l xss) (e : Ex s t) : RdLL K t l xss := ⟨e.h _ _ h.1, h.2.1, fun i q xs a b => by
  obtain ⟨vs, g1, g2⟩ := h.2.2 i q xs a b
  exact ⟨vs, e.h _ _ g1, g2.mono e.f⟩⟩
theorem atI_ix {β : Type} {xs : List β} {z : Int} {x : β} (h : atI xs z = some x) : ∃ j, ixN xs.length z = some j ∧ xs[j]? = some x := by
  unfold atI at h
  cases hj : ixN xs.length z with
  | none => rw [hj] at h; cases h
  | some j => rw [hj] at h; exact ⟨j, rfl, h⟩
theorem er_llix {z : Int} (ho : Ev X o σ s (Rw.mk (.ref l.p))) (r : RdLL X.K s l xss) (hi : Ev X i σ s z) (hx : atI xss z = some xs) (hp : PlainIx i := by intro _ _; rfl) : EvR X (.Subscript o i pos) σ s xs := fun s1 k Q q =>
  we_of (pe_ix ix_list pe_we pe_we hp) (ho s1 k _ fun v s2 k2 e2 => hi s2 (k.trans k2) _ fun u s3 k3 r3 => by
    cases (show v = V.ref l.p from e2)
    have h := r.ex ((k.trans k2).trans k3)
    obtain ⟨j, h1, h2⟩ := atI_ix hx
    have hl : j < l.q.length := by rw [h.2.1]; exact (List.getElem?_eq_some_iff.mp h2).1
    have hq : l.q[j]? = some l.q[j] := List.getElem?_eq_getElem hl
    obtain ⟨vs, g1, g2⟩ := h.2.2 j _ _ hq h2
    refine ⟨l.p, _, z, .ref l.q[j], rfl, r3, .inl (.inl h.1), ?_, q _ s3 (k2.trans k3) ⟨l.q[j], vs, rfl, .inl (.inl g1), g2⟩⟩
    unfold atI
    rw [List.length_map, h.2.1, h1]
    show (l.q.map V.ref)[j]? = _
    rw [List.getElem?_map, hq]; rfl)
theorem raw_llix {z : Int} {j : Nat} {q : Addr} (ho : Ev X o σ s (Rw.mk (.ref l.p))) (r : RdLL X.K s l xss) (hi : Ev X i σ s z) (hj : ixN xss.length z = some j) (hq : l.q[j]? = some q) (hp : PlainIx i := by intro _ _; rfl) : Ev X (.Subscript o i pos) σ s (Rw.mk (.ref q)) := fun s1 k Q qq =>
  we_of (pe_ix ix_list pe_we pe_we hp) (ho s1 k _ fun v s2 k2 e2 => hi s2 (k.trans k2) _ fun u s3 k3 r3 => by
    cases (show v = V.ref l.p from e2)
    have h := r.ex ((k.trans k2).trans k3)
    refine ⟨l.p, _, z, .ref q, rfl, r3, .inl (.inl h.1), ?_, qq _ s3 (k2.trans k3) rfl⟩
    unfold atI
    rw [List.length_map, h.2.1, hj]
    show (l.q.map V.ref)[j]? = _
    rw [List.getElem?_map, hq]; rfl)
theorem ev_llen (hm : X.mg "len" = none) (ho : Ev X o σ s (Rw.mk (.ref l.p))) (r : RdLL X.K s l xss) (hg : Gl X "len" := by rfl) (he : starEach [o] X.env = (false, eval o X.env) :: starEach [] X.env := by rfl) (hpl : (backTo pos (starEach [] X.env)).any (·.1) = false := by rfl) : Ev X (.Call (.Name "len" p0) [o] [] pos) σ s (xss.length : Int) := fun s1 k Q q =>
  we_of (pe_callB call_len_seq hg hm boot_len (pa_cons pe_we pa_nil he) (he := he) (hpl := hpl)) (ho s1 k _ fun u s2 k2 e2 => by
    cases (show u = V.ref l.p from e2)
    have h := r.ex (k.trans k2)
    exact ⟨l.p, _, rfl, .inl (.inl (.inl h.1)), q _ s2 k2 (by rw [List.length_map, h.2.1]; rfl)⟩)
def GLL (l : LL) : S → Prop := fun t => t.H l.p = some (.lst (l.q.map .ref))
theorem ei_ll (h : Ev X e σ s (Rw.mk (.ref l.p))) (r : RdLL X.K s l xss) : @EvIG Nat (encIx l) X tg e σ s (GLL l) (List.range xss.length) := fun s1 k R q =>
  wi_of (pi_list pe_we) (h s1 k _ fun v s2 k2 e2 => by
    cases (show v = V.ref l.p from e2)
    have h0 := r.ex (k.trans k2)
    letI := encIx l
    have w : @WalkG Nat (encIx l) X.K (GLL l) (Itl X.K l.p) (List.range xss.length) := ⟨fun j t x ht hx => by
      obtain ⟨hj, ej⟩ := List.getElem?_eq_some_iff.mp hx
      rw [List.length_range] at hj
      rw [List.getElem_range] at ej
      subst ej
      have hl : j < l.q.length := by rw [h0.2.1]; exact hj
      have hv : (l.q.map V.ref)[j]? = some (V.ref l.q[j]) := by rw [List.getElem?_map, List.getElem?_eq_getElem hl]; rfl
      refine ⟨⟨_, _, .inl (.inl ht), hv⟩, fun w H' ⟨e1, hy⟩ => ⟨t, e1.symm, Ex.refl _, ?_⟩⟩
      have := hy _ (.inl (.inl ht))
      rw [hv] at this
      cases this
      exact ⟨_, List.getElem?_eq_getElem hl, rfl⟩, fun j t ht hi => ⟨_, .inl (.inl ht), by rw [List.length_map, h0.2.1]; rw [List.length_range] at hi; exact hi⟩⟩
    exact ⟨l.p, rfl, ⟨_, .inl (.inl h0.1)⟩, q _ s2 k2 w⟩)
theorem do_frzLL {ss : List Stmt} (h : Iv X.K P0 s0 s L) (k : Nat) (hA : L[k]? = some (Dy.oll l xss)) (kk : ∀ s', Fle s.F s'.F → Iv X.K P0 s0 s' (L.set k (Dy.fz (.ref l.p) xss)) → WSs X ss D σ s'.H) : WSs X ss D σ s.H := by
  obtain ⟨s', h1, h2, h3⟩ := h.frzLL k hA
  rw [← h1]
  exact kk s' h2 h3
theorem comp_readLL {xs : List τ} {f : τ → Option (List α)} {g : TG} {B : Hp → τ → St → St → Prop} (hi : EvI X tg iter σ s xs) (T : Tgt (α := τ) X.K g B) (hf : mapO f xs = some yss) (hz : yss.length ≤ sizeLine)
    (hw : ∀ (F : Hp) (x : τ) σ2, B F x (wipe σ (own.map (·.2))) σ2 → wipe σ2 (own.map (·.2)) = wipe σ (own.map (·.2)))
    (he : ∀ (x : τ) (y : List α) (s1 : S) (σ2 : St), x ∈ xs → Ex s s1 → B s1.F x (wipe σ (own.map (·.2))) σ2 → f x = some y → ∀ s0 H0 C cl fp, EvN (Blk X scope s0 H0 C cl fp) elt σ2 s1 y)
    (s1 : S) (k : Ex s s1) (Q : VK) (q : ∀ (l : LL) s2, Ex s1 s2 → s1.H l.p = none → (∀ a ∈ l.q, s1.H a = none) → OwnLL X.K s2 l yss → Q (.ref l.p) s2.H) : tLc (WI X tg iter) g tYes (fun σ H Q => ∀ s0 H0 C cl fp, WE (Blk X scope s0 H0 C cl fp) elt σ H Q) (own.map (·.2)) σ s1.H Q := by
  refine hi s1 k _ fun J s2 k2 W => ?_
  intro D hD
  refine ⟨fun i m H => ∃ (u : S) (pre : List (List α)) (qs : List Addr), u.H = H ∧ m = xs.length - i ∧ Ex s2 u ∧ OwnLL X.K u ⟨D, qs⟩ pre ∧ (∀ a ∈ qs, s2.H a = none) ∧ (∃ suf, mapO f (xs.drop i) = some suf ∧ pre ++ suf = yss), ⟨xs.length, s2.newO D (.lst []) hD, [], [], rfl, rfl, Ex.newO hD, ⟨List.nodup_nil, by simp, (fF hD : s2.F D = none), by simp, upd_same, rfl, fun i q xs a b => by simp at a⟩, by simp, yss, hf, rfl⟩, ?_⟩
  rintro i m H ⟨u, pre, qs, rfl, rfl, ku, n1, n4, suf, h1, h2⟩
  by_cases hi' : i < xs.length
  · right
    have hx : xs[i]? = some xs[i] := List.getElem?_eq_getElem hi'
    obtain ⟨g1, g2⟩ := W.go i u xs[i] ku.f hx
    refine ⟨g1, fun H' => ∃ m', m' < xs.length - i ∧ ∃ (u : S) (pre : List (List α)) (qs : List Addr), u.H = H' ∧ m' = xs.length - (i + 1) ∧ Ex s2 u ∧ OwnLL X.K u ⟨D, qs⟩ pre ∧ (∀ a ∈ qs, s2.H a = none) ∧ (∃ suf, mapO f (xs.drop (i + 1)) = some suf ∧ pre ++ suf = yss), fun H' z => z, fun v H' hy => ?_⟩
    obtain ⟨u', rfl, ku', rv⟩ := g2 v H' hy
    refine T.run u' v xs[i] _ _ rv fun σ2 hB => ⟨hw _ _ _ hB, ?_⟩
    have mem : xs[i] ∈ xs := List.getElem_mem hi'
    have base : Ex s u' := (k.trans k2).trans (ku.trans ku')
    unfold tYes
    dsimp only
    rw [if_pos rfl]
    rw [List.drop_eq_getElem_cons hi'] at h1
    unfold mapO compO at h1
    rw [Option.bind_some, if_pos rfl] at h1
    have hlt : xs.length - (i + 1) < xs.length - i := by omega
    cases hfx : f xs[i] with
    | none => rw [hfx] at h1; cases h1
    | some y =>
      rw [hfx, Option.bind_some] at h1
      cases hr : compO (fun _ => some true) f (xs.drop (i + 1)) with
      | none => rw [hr] at h1; cases h1
      | some suf' =>
        rw [hr] at h1
        cases h1
        intro s0 H0 C cl fp
        refine he xs[i] y u' σ2 mem base hB hfx s0 H0 C cl fp u' (Ex.refl _) _ fun p u4 k4 n5 o4 => ?_
        have k5 : Ex u u4 := ku'.trans k4
        have o5 := n1.ex k5
        have hD4 : u4.H D = some (.lst (qs.map .ref)) := o5.hp
        have hF4 : u4.F D = none := o5.fp
        have hlen : (qs.map V.ref).length < sizeLine := by
          have e1 := n1.len
          have e2 : yss.length = pre.length + (suf'.length + 1) := by rw [← h2, List.length_append, List.length_cons]
          have e3 : qs.length = pre.length := e1
          rw [List.length_map]
          omega
        have pn : ∀ {a : Addr} {o : HO}, u.H a = some o → a ≠ p := fun z e => by
          rw [e] at z
          rw [ku'.h _ _ z] at n5; cases n5
        have nq : p ∉ qs := fun z => by
          obtain ⟨j, hj⟩ := List.mem_iff_getElem?.mp z
          have hl : j < pre.length := by rw [← n1.len]; exact (List.getElem?_eq_some_iff.mp hj).1
          obtain ⟨_, vs, g, _⟩ := n1.row hj (List.getElem?_eq_getElem hl)
          exact pn g rfl
        have nD : D ≠ p := pn n1.hp
        obtain ⟨of, vs4, oh, orp⟩ := o4
        have hput : ∀ a, a ≠ D → (u4.put D (.lst (qs.map .ref ++ [.ref p])) hF4).H a = u4.H a := fun a z => upd_ne z
        refine ⟨_, hD4, hlen, _, hlt, u4.put D (.lst (qs.map .ref ++ [.ref p])) hF4, pre ++ [y], qs ++ [p], rfl, rfl, (ku.trans k5).mu1 (Mx.put hF4) hD, ⟨?_, ?_, hF4, ?_, ?_, ?_, ?_⟩, ?_, suf', hr, by rw [List.append_assoc]; exact h2⟩
        · rw [List.nodup_append]
          exact ⟨n1.nd, by simp, fun a ha b hb => by
            rw [List.mem_singleton] at hb
            subst hb
            exact fun e => nq (e ▸ ha)⟩
        · intro z
          rcases List.mem_append.mp z with z | z
          · exact n1.np z
          · exact nD (List.mem_singleton.mp z)
        · intro a z
          rcases List.mem_append.mp z with z | z
          · exact o5.fq a z
          · rw [List.mem_singleton.mp z]; exact of
        · show upd u4.H D _ D = _
          rw [upd_same, List.map_append]; rfl
        · show (qs ++ [p]).length = _
          rw [List.length_append, List.length_append]
          have e3 : qs.length = pre.length := n1.len
          rw [e3]; rfl
        · intro j r zs ha hb
          have e3 : qs.length = pre.length := n1.len
          by_cases hj : j < qs.length
          · rw [List.getElem?_append_left hj] at ha
            rw [List.getElem?_append_left (by omega)] at hb
            obtain ⟨vs, g1, g2⟩ := o5.c.2 j r zs ha hb
            have : r ≠ D := fun z => n1.np (by rw [← z]; exact List.mem_of_getElem? ha)
            exact ⟨vs, (hput r this).trans g1, g2⟩
          · rw [List.getElem?_append_right (by omega)] at ha hb
            have hj2 : j - qs.length = 0 := by
              have := (List.getElem?_eq_some_iff.mp ha).1
              simp at this; omega
            rw [hj2] at ha
            rw [← e3, hj2] at hb
            cases ha; cases hb
            exact ⟨vs4, (hput p (Ne.symm nD)).trans oh, orp⟩
        · intro a z
          rcases List.mem_append.mp z with z | z
          · exact n4 a z
          · rw [List.mem_singleton.mp z]
            exact fr_back (ku.trans ku') n5
  · left
    have hd : xs.drop i = [] := List.drop_eq_nil_of_le (by omega)
    rw [hd] at h1
    cases h1
    rw [List.append_nil] at h2
    subst h2
    exact ⟨W.stop i u ku.f (by omega), q ⟨D, qs⟩ u (k2.trans ku) (fr_back k2 hD) (fun a z => fr_back k2 (n4 a z)) n1⟩
structure EvLL (X : Cx) (elt tg iter : Expr) (ifs : List Expr) (scope : Scope) (σ : St) (s : S) (yss : List (List α)) : Prop where
  calm : X.calm = true
  nd : X.N.Nodup
  fs : ∀ x, foldedSetIterable iter X.env x = pure x
  ex : ∃ (own : List (Str × Nat)) (g : TG) (tt : TT), BlkOk X.N X.env.scope scope own ∧ (∀ s0 H0 C cl fp, PG (Blk X scope s0 H0 C cl fp) tg g) ∧ (∀ s0 H0 C cl fp, PTs (Blk X scope s0 H0 C cl fp) ifs tt) ∧
    ∀ s1, Ex s s1 → ∀ Q : VK, (∀ (l : LL) s2, Ex s1 s2 → s1.H l.p = none → (∀ a ∈ l.q, s1.H a = none) → OwnLL X.K s2 l yss → Q (.ref l.p) s2.H) → tLc (WI X tg iter) g tt (fun σ H Q => ∀ s0 H0 C cl fp, WE (Blk X scope s0 H0 C cl fp) elt σ H Q) (own.map (·.2)) σ s1.H Q
theorem en_compLL {xs : List τ} {f : τ → Option (List α)} {j : Nat} {n : Str} {py : Pos} (hc : X.calm = true) (hN : X.N.Nodup) (hi : EvI X (.Name n py) iter σ s xs) (ok : BlkOk X.N X.env.scope scope own) (hj : X.N[j]? = some n)
    (hjo : j ∈ own.map (·.2)) (hg : ∀ s0 H0 C cl fp, PG (Blk X scope s0 H0 C cl fp) (.Name n py) (gName j)) (hf : mapO f xs = some yss) (hz : yss.length ≤ sizeLine)
    (he : ∀ (x : τ) (y : List α) (v : V) (s1 : S), x ∈ xs → Ex s s1 → rep X.K s1.F v x → f x = some y → ∀ s0 H0 C cl fp, EvN (Blk X scope s0 H0 C cl fp) elt ((wipe σ (own.map (·.2))).set j (some v)) s1 y)
    (hs : ∀ x, foldedSetIterable iter X.env x = pure x := by intro _; rfl) : EvLL X elt (.Name n py) iter [] scope σ s yss :=
  ⟨hc, hN, hs, own, _, _, ok, hg, fun _ _ _ _ _ => pts_nil, fun s1 k Q q => comp_readLL hi tg_n hf hz (fun F x σ2 ⟨v, _, e⟩ => by rw [e, wipe_set hjo]; exact wipe_wipe fun _ z => z)
    (fun x y s1 σ2 hx k ⟨v, r, e⟩ hfx => by subst e; exact he x y v s1 hx k r hfx) s1 k Q q⟩
theorem eg_LL (h : EvLL X elt tg iter ifs scope σ s yss) : EvG X (.ListComp elt [⟨tg, iter, ifs, 0⟩] scope pos) σ s (fun v L' => ∃ l : LL, v = .ref l.p ∧ L' = [oll l yss]) := fun s1 k Q q => by
  obtain ⟨own, g, tt, h1, h2, h3, h4⟩ := h.ex
  exact we_of (pe_lc h.calm h.nd pi_wi h1 h2 h3 (fun s0 H0 C cl fp => pe_im fun _ _ _ h => h s0 H0 C cl fp) h.fs) (h4 s1 k Q fun l s2 k2 n1 n2 o => q _ s2 _ ⟨l, rfl, rfl⟩ (iv_ll k2 n1 n2 o))
theorem do_setLL (i : Nat) {n : Str} {py : Pos} {spos : Pos} (h : EvLL X elt tg iter ifs scope σ s yss) (k : ∀ v s1 L', (∃ l : LL, v = V.ref l.p ∧ L' = [oll l yss]) → Iv X.K No s s1 L' → WSs X rest D (σ.set i (some v)) s1.H) (hk : X.env.scope.kind = .function) (hy : X.env.scope.names.lookup n = some .local)
    (hl : (py.line == pos.line) = true := by rfl) (ha : (scope.names.any fun (m, k) => m == n && (k == .local || k == .cell)) = false := by decide +kernel) (hi : X.N[i]? = some n := by rfl) :
    WSs X (.Assign [.Name n py] (.ListComp elt [⟨tg, iter, ifs, 0⟩] scope pos) spos :: rest) D σ s.H := by
  obtain ⟨own, g, tt, h1, h2, h3, h4⟩ := h.ex
  exact ws_of (pss_cons (ps_setLc (te := fun σ H Q => ∀ s0 H0 C cl fp, WE (Blk X scope s0 H0 C cl fp) elt σ H Q) h.calm h.nd hi hy (sw_true hk hy hl ha) pi_wi h1 h2 h3 (fun s0 H0 C cl fp => pe_im fun _ _ _ h => h s0 H0 C cl fp) h.fs) pss_ws) (h4 s (Ex.refl _) (fun x H1 => WSs X rest D (σ.set i (some x)) H1) fun l s2 k2 n1 n2 o => k _ s2 _ ⟨l, rfl, rfl⟩ (iv_ll k2 n1 n2 o))
end
end Dy

namespace Dy
open PySem PySem.Spec L2
open PyProof.Rows hiding St
open Enc (rep)
open EncA (repA)
instance : Flat (Option Bool) := ⟨fun x => match x with | none => .non | some i => .bl i, fun {K F v x} => by cases x <;> exact Iff.rfl, fun x => by cases x <;> rfl, fun x y => by
  cases x with
  | none => cases y with
    | none => exact ⟨fun _ => rfl, fun _ => rfl⟩
    | some b => cases b <;> exact ⟨fun h => (by cases h), fun h => (by cases h)⟩
  | some a => cases y with
    | none => cases a <;> exact ⟨fun h => (by cases h), fun h => (by cases h)⟩
    | some b => cases a <;> cases b <;> first | exact ⟨fun _ => rfl, fun _ => rfl⟩ | exact ⟨fun h => (by cases h), fun h => (by cases h)⟩⟩
section
variable {α β : Type} [Enc α] [Enc β] {X : Cx} {σ : L2.St} {s : S} {a b : Expr} {px py pt pos : Pos} {rest : List Stmt} {D : Ends}
theorem do_par2 (i j : Nat) {n m : Str} {x : α} {y : β} {kt k2 pt2} (h : EvA X [a, b] σ s (x, y, ())) (hN : X.N.Nodup) (hij : i ≠ j) (k : ∀ v w s1, Ex s s1 → rep X.K s1.F v x → rep X.K s1.F w y → WSs X rest D ((σ.set i (some v)).set j (some w)) s1.H)
    (hc : X.calm = true := by rfl) (hi : X.N[i]? = some n := by rfl) (hj : X.N[j]? = some m := by rfl) (hx : X.env.scope.names.lookup n = some .local := by rfl) (hy : X.env.scope.names.lookup m = some .local := by rfl)
    (hw : swappedStores [.Tuple [.Name n px, .Name m py] kt pt] (.Tuple [a, b] k2 pt2) X.env = pure (some [n, m]) := by rfl)
    (hs : swapsWithSole [.Tuple [.Name n px, .Name m py] kt pt] (.Tuple [a, b] k2 pt2) pos.line X.env = pure false := by rfl) :
    WSs X (.Assign [.Tuple [.Name n px, .Name m py] kt pt] (.Tuple [a, b] k2 pt2) pos :: rest) D σ s.H :=
  do_cons (ps_par hc hN hi hj hij hx hy pa_wa hw hs) (h s (Ex.refl _) _ fun vs s1 k1 r => by
    obtain ⟨v, _, rfl, r1, w, _, rfl, r2, rfl⟩ := r
    exact ⟨v, w, rfl, k v w s1 k1 r1 r2⟩)
end
end Dy

namespace Dy
open PySem PySem.Spec L2 PyProof.Rows

def ddS (xs : List Str) : List Str := xs.foldl (fun m x => if x ∈ m then m else m ++ [x]) []
theorem ddS_snoc (xs : List Str) (x : Str) : ddS (xs ++ [x]) = if x ∈ ddS xs then ddS xs else ddS xs ++ [x] := by
  unfold ddS
  rw [List.foldl_append]; rfl
theorem ddS_inv (xs : List Str) : (∀ x, x ∈ ddS xs ↔ x ∈ xs) ∧ (ddS xs).length ≤ xs.length ∧ ((ddS xs).length = xs.length ↔ xs.Nodup) := by
  obtain ⟨n, hn⟩ : ∃ n, n = xs.length := ⟨_, rfl⟩
  induction n generalizing xs with
  | zero =>
    obtain rfl := List.length_eq_zero_iff.mp hn.symm
    simp [ddS]
  | succ n ih =>
    obtain ⟨ys, y, rfl⟩ : ∃ ys y, xs = ys ++ [y] := ⟨xs.dropLast, xs.getLast (fun z => by rw [z] at hn; cases hn), (List.dropLast_concat_getLast _).symm⟩
    rw [List.length_append, List.length_singleton] at hn
    obtain ⟨h1, h2, h3⟩ := ih ys (by omega)
    rw [ddS_snoc]
    by_cases hm : y ∈ ddS ys
    · rw [if_pos hm]
      refine ⟨fun x => ?_, by rw [List.length_append]; omega, fun e => ?_, fun e => ?_⟩
      · rw [List.mem_append, List.mem_singleton, h1]
        exact ⟨.inl, fun z => z.elim id fun z => by rw [z]; exact (h1 y).mp hm⟩
      · rw [List.length_append, List.length_singleton] at e; omega
      · exact absurd rfl ((List.nodup_append.mp e).2.2 y ((h1 y).mp hm) y (List.mem_singleton.mpr rfl))
    · rw [if_neg hm]
      refine ⟨fun x => by rw [List.mem_append, List.mem_append, h1], by rw [List.length_append, List.length_append]; exact Nat.add_le_add_right h2 _, fun e => ?_, fun e => ?_⟩
      · rw [List.length_append, List.length_append] at e
        refine List.nodup_append.mpr ⟨h3.mp (Nat.add_right_cancel e), by simp, fun a ha b hb z => ?_⟩
        rw [List.mem_singleton.mp hb] at z
        exact hm ((h1 y).mpr (z ▸ ha))
      · rw [List.length_append, List.length_append, h3.mpr (List.nodup_append.mp e).1]
section
variable {prog : Program} {w : World} {A : Around} {R : Result → Shared → Prop} {it : Addr} {fp wr : List Addr} {G : Array GenState → Array GenState → Prop} {n : Nat} {P : Nat → Value → Prop} {St : Nat → Shared → Prop}
theorem loopD (W : WalksS prog w A.in1 it fp wr G n P St) (D : Addr) (hD : D ∉ fp) (xs : List Str) (hn : xs.length = n) (hb : n + 1 < scanBound) (hv : ∀ i v, P i v → ∃ t, v = .str (xs.getD i Str.empty) t) : ∀ (d i : Nat) (s : Shared), i + d = n → St i s →
    s.heap.SetOf (PySem.strKind prog w) D (fun y => decide (y ∈ ddS (xs.take i))) (ddS (xs.take i)).length →
    (∀ t, Moved (D :: wr) G s t → t.heap.SetOf (PySem.strKind prog w) D (fun y => decide (y ∈ ddS xs)) (ddS xs).length → R (.ok (.ret .none)) t) → codeAny (model prog w) A (.builtin "set.update.loop" ⟨[.ref D, .ref it], []⟩) R s := by
  have nw : D ∉ wr := fun z => hD (W.sub _ z)
  have up : ∀ b ∈ wr, b ∈ D :: wr := fun b z => List.mem_cons_of_mem _ z
  have mv : ∀ {s t : Shared} {f : Str → Bool} {m : Nat}, Moved wr G s t → s.heap.SetOf (PySem.strKind prog w) D f m → t.heap.SetOf (PySem.strKind prog w) D f m := fun {s t f m} k ⟨o, es, ep, tb, h1, h2⟩ => ⟨o, es, ep, tb, k.heap D _ nw h1, h2⟩
  intro d
  induction d with
  | zero =>
    intro i s e hst hS hR; obtain rfl : i = n := by omega
    refine codeAny_builtin PyProof.Rows.F.entry_set_update_loop ?_; rw [Around.under_plainId PyProof.Rows.F.plain_set_update_loop _]
    show wpAny _ A.in1 (pyNext (.ref it) >>= _) _ _ s
    refine wpAny_bind (W.done s _ _ hst fun t k => ?_); show wpAny _ A.in1 (ret Value.none) _ _ t
    have := mv k hS
    rw [List.take_of_length_le (by omega)] at this
    exact wpAny_pure (hR t (k.mono up) this)
  | succ d ih =>
    intro i s e hst hS hR; have lt : i < n := by omega
    refine codeAny_builtin PyProof.Rows.F.entry_set_update_loop ?_; rw [Around.under_plainId PyProof.Rows.F.plain_set_update_loop _]
    show wpAny _ A.in1 (pyNext (.ref it) >>= _) _ _ s
    refine wpAny_bind (W.item i s _ _ lt hst fun v t hP st' k => ?_); obtain ⟨tk, rfl⟩ := hv i v hP
    have hT := mv k hS
    have hl := (ddS_inv (xs.take i)).2.1
    rw [List.length_take] at hl
    show wpAny _ A.in1 (holding [Value.str (xs.getD i Str.empty) tk] (setAdd D (.str (xs.getD i Str.empty) tk)) >>= _) _ _ t
    refine wpAny_bind (wpAny_holding ?_); unfold setAdd
    refine wpAny_holding (wpAny_bind ((PySem.strKind prog w).pyHash (k := xs.getD i Str.empty) (strKind_is _ _ _ _) ?_))
    refine wpAny_setAddHashed_of (knd := PySem.strKind prog w) (s := { t with toks := t.toks + 1 }) (strKind_is _ _ _ _) rfl hT (by omega) fun h' sb hU => ?_
    have hx : xs[i]? = some (xs.getD i Str.empty) := by rw [List.getD_eq_getElem?_getD, List.getElem?_eq_getElem (by omega)]; rfl
    have e2 : xs.take (i + 1) = xs.take i ++ [xs.getD i Str.empty] := by rw [List.take_add_one, hx]; rfl
    generalize xs.getD i Str.empty = x at *
    have hN : h'.SetOf (PySem.strKind prog w) D (fun y => decide (y ∈ ddS (xs.take (i + 1)))) (ddS (xs.take (i + 1))).length := by
      rw [e2, ddS_snoc]
      refine SetOf_congr hU (fun y => ?_) ?_
      · by_cases hm : x ∈ ddS (xs.take i)
        · rw [if_pos hm]
          by_cases ey : y = x
          · rw [ey, decide_eq_true hm]; rfl
          · rw [decide_eq_false ey, Bool.or_false]
        · rw [if_neg hm, Bool.eq_iff_iff, Bool.or_eq_true, decide_eq_true_iff, decide_eq_true_iff, decide_eq_true_iff, List.mem_append, List.mem_singleton]
      · by_cases hm : x ∈ ddS (xs.take i)
        · rw [if_pos hm, if_pos (decide_eq_true hm)]
        · rw [if_neg hm, if_neg (by rw [decide_eq_true_iff]; exact hm), List.length_append]; rfl
    refine wpAny_pure ⟨plainId_quiet PyProof.Rows.F.plain_set_update_loop _, ih (i + 1) _ (by omega) (W.frame _ t _ _ st' (Nat.le_succ _) fun b z o q => (sb.2 b (fun u : b = D => hD (by rw [← u]; exact z))).trans q) hN fun u ku hu => ?_⟩
    exact hR u (Moved.trans W.gtrans ((k.mono up).then_heap (Nat.le_succ _) fun b o z q => (sb.2 b (fun u : b = D => z (by rw [u]; exact List.mem_cons_self))).trans q) ku) hu
end
section
variable {prog : Program} {w : World} {A : Around} {E : Value → Shared → Prop} {s : Shared}
set_option maxHeartbeats 4000000 in
theorem call_setD {l : Addr} {its : Array Value} {xs : List Str} {Q : Value → Shared → Prop} (hh : A.handled = none) (hl : s.heap.IsList l its) (hi : StrsAre its.toList xs) (hb : xs.length + 1 < scanBound)
    (q : ∀ (h' : Heap) (tk : Nat), h'.SetOf (PySem.strKind prog w) s.heap.objs.size (fun y => decide (y ∈ ddS xs)) (ddS xs).length → (∀ b o, b < s.heap.objs.size → s.heap.get? b = some o → h'.get? b = some o) → Q (.ref s.heap.objs.size) { s with heap := h', toks := tk }) : wpAny (model prog w) A (call (.type "set") [.ref l]) Q E s := by
  obtain ⟨c0, tl0, mro⟩ := PySem.F.called_set.mro; have made := PySem.F.called_set.made; have sub := PySem.F.called_set.sub
  refine wpAny_call (codeAny_of_tree ?_); show wpAny _ _ (callAny (.type "set") _) _ _ _
  refine wpAny_pure ⟨Code.quiet_builtin _ (by decide +kernel), codeAny_builtin PySem.F.entry_type_call ?_⟩; rw [Around.under_plain (weight_type_call_type "set" [.ref l] []) rfl]
  have k1 := PySem.F.called_set.notType; have k2 := PySem.F.called_set.canCreate; have k3 := PySem.F.typeCall_set_1 (.ref l)
  repeat (any_goals (first | assumption | wp_step))
  refine codeAny_mono (code_set_new_1 (.ref l) (E := E) (Q₁ := fun ob t => ∃ led : Bool, ob = .ref s.heap.objs.size ∧ t = { s with heap := s.heap.push { cls := .type "set", dict := none, data := .set #[] 0 (.fresh 0 0 led) } }) fun led => ⟨led, rfl, rfl⟩) fun r t hr => ?_
  rcases r with e | fl
  · exact hr
  cases fl with
  | ret ob =>
    obtain ⟨led, rfl, rfl⟩ := hr
    obtain ⟨so, hso⟩ : ∃ so : Obj, so = { cls := .type "set", dict := none, data := .set #[] 0 (.fresh 0 0 led) } := ⟨_, rfl⟩
    rw [← hso]
    have gS : (s.heap.push so).get? s.heap.objs.size = some so := Heap.get?_push_size _ (by rw [hso]; rfl)
    have gT : Shared.TypeIs { s with heap := s.heap.push so } (.ref s.heap.objs.size) "set" := ⟨_, gS, by rw [hso]⟩
    have k4 := PySem.F.called_set.init.lookup; have k5 := PySem.F.called_set.init.bind (.ref s.heap.objs.size)
    repeat (any_goals (first | assumption | wp_step))
    refine codeAny_mono (codeAny_call_builtin (R := wants (fun r u => r = .none ∧ ∃ h' tk, u = { s with heap := h', toks := tk } ∧ h'.SetOf (PySem.strKind prog w) s.heap.objs.size (fun y => decide (y ∈ ddS xs)) (ddS xs).length ∧ (∀ b o, b < s.heap.objs.size → s.heap.get? b = some o → h'.get? b = some o)) E) PySem.F.called_set.init.plain PySem.F.entry_set_init (check_set_init_1 gT ?_)) fun r2 u hu => ?_
    · obtain ⟨⟨c1, c2, c3, c4⟩, hol, hcl, nl, hdl⟩ := hl
      simp only at hcl hdl; subst hcl; subst hdl
      have hol2 := Heap.get?_push_of_some so hol
      have hsls := PySem.F.sub_list_set; have hslf := PySem.F.sub_list_frozenset; have hne : (Value.type "list" == Value.type "dict") = false := by decide
      have hl1 : (s.heap.push so).IsList l its := ⟨_, hol2, rfl, nl, rfl⟩
      have ll : l < s.heap.objs.size := Heap.lt_size hol
      unfold Builtin.«set.__init__» noKeywords Builtin.Frozenset.updateFrom
      subst hso
      generalize hPI : pyIter = PI; wp_walk; subst hPI
      refine wpAny_pyIter_list hl1 ?_; refine wpAny_bind (wpAny_runValue ?_)
      have hh3 : A.in1.in1.in1.handled = none := by simp [hh]
      have n1 : l ≠ s.heap.objs.size + 1 := Nat.ne_of_lt (Nat.lt_succ_of_lt ll)
      have n2 : s.heap.objs.size ∉ [s.heap.objs.size + 1, l] := fun z => (List.mem_cons.mp z).elim (fun z => absurd z (Nat.ne_of_lt (Nat.lt_succ_self _))) fun z => absurd (List.mem_singleton.mp z) (Nat.ne_of_gt ll)
      have hz : xs.length = its.size := by rw [← StrsAre.len_eq hi, Array.length_toList]
      rw [← Heap.size_push] at n1 n2
      refine loopD ((Walks.list hh3 _ l n1 its).toS) s.heap.objs.size n2 xs hz (by omega) (fun i v hv => SS.strs_at hi i v (by rw [Array.getElem?_toList]; exact hv)) its.size 0 _ (by omega) ⟨⟨_, Heap.get?_push_size _ rfl, rfl, rfl⟩, (hl1.push _)⟩ ?h0 ?h1
      case h0 =>
        refine PyProof.Rows.SetOf_congr ((PyProof.Rows.setObjOf_fresh (knd := PySem.strKind prog w) led).setOf (Heap.get?_push_of_some _ gS) (by unfold scanBound; omega)) (fun y => ?_) rfl
        rw [List.take_zero]; rfl
      case h1 =>
        rintro ⟨h', g', d', tk', os'⟩ hm hS'
        obtain rfl : g' = s.gens := hm.gens
        obtain rfl : d' = s.drawn := hm.drawn
        obtain rfl : os' = s.os := hm.os
        show wpAny _ _ _ _ _ _
        refine wpAny_pure ?_; show wpAny _ _ (ret Value.none) _ _ _
        refine wpAny_pure ⟨rfl, h', tk', rfl, hS', fun b o lb eb => hm.heap b o ?_ (Heap.get?_push_of_some _ (Heap.get?_push_of_some _ eb))⟩
        exact fun z => (List.mem_cons.mp z).elim (fun z => absurd z (Nat.ne_of_lt lb)) fun z => absurd ((List.mem_singleton.mp z).trans (Heap.size_push _ _)) (Nat.ne_of_lt (Nat.lt_succ_of_lt lb))
    · rcases r2 with e | fl2
      · exact hu
      cases fl2 with
      | ret r =>
        obtain ⟨rfl, h', tk, rfl, hS', hk'⟩ := hu
        repeat (any_goals (first | assumption | wp_step))
        exact q _ _ hS' hk'
      | _ => exact hu.elim
  | _ => exact hr.elim
end
section
variable {X : Cx} {a : Expr} {ta : TE} {p p2 q pos : Pos}
def tDszS (K : PySem.W.Frag) (ta : TE) : TE := fun σ H Q => ta σ H fun x H1 => ∃ (l : Addr) (xs : List Str), x = .ref l ∧ SqL K H1 l (xs.map V.str) ∧ xs.length ≤ 4000 ∧ Q (.int (ddS xs).length) H1
theorem pe_dszS (hg : Gl X "len") (hm : X.mg "len" = none) (hg2 : Gl X "set") (hm2 : X.mg "set" = none) (ha : PE X a ta) (hc : X.calm = true := by rfl)
    (na : starEach [a] X.env = (false, eval a X.env) :: starEach [] X.env := by rfl) : PE X (.Call (.Name "len" p) [.Call (.Name "set" p2) [a] [] q] [] pos) (tDszS X.K ta) := by
  refine ⟨fun pins s σ H Q I h => ?_⟩
  refine Call_ (ld_blt I hg hm boot_len (PyProof.Rows.callWith_builtin1 (PyProof.Rows.args_cons (Call_ (ld_blt I hg2 hm2 boot_set (PyProof.Rows.callWith_type1 (PyProof.Rows.args_cons (thn (ha.run pins s σ H _ I h) fun v s1 ⟨x, H1, I1, r1, l, xs, e, hq, hl, q1⟩ => PyProof.Rows.args_nil ?_) na) na rfl))) rfl) rfl rfl))
  subst e; cases r1
  obtain ⟨its, r, pl, hz⟩ := I1.list hq
  refine call_setD (I1.ok.hd hc) pl.isList (by simpa using strsAre_of r) (by unfold scanBound; omega) fun h' tk hS hk => PyProof.Rows.args_nil ?_
  obtain ⟨o, es, ep, t, ho, hex, hd, _, _, _, hf, hn⟩ := hS
  have I2 : Inv X pins σ H1 { s1 with heap := h', toks := tk } := I1.kept fun b o e => hk b o (Heap.lt_size e) e
  have := (ddS_inv xs).2.1
  exact call_len_set ho hex hd hf (by rw [hn] <;> omega) ⟨.int (ddS xs).length, H1, I2.tok _, ⟨_, by rw [hn]⟩, q1⟩
variable {σ : L2.St} {s : S}
theorem ev_dszS {xs : List Str} (hm : X.mg "len" = none) (hm2 : X.mg "set" = none) (ha : EvR X a σ s xs) (hz : xs.length ≤ 4000) (hc : X.calm = true := by rfl) (hg : Gl X "len" := by rfl) (hg2 : Gl X "set" := by rfl) (na : starEach [a] X.env = (false, eval a X.env) :: starEach [] X.env := by rfl) :
    Ev X (.Call (.Name "len" p) [.Call (.Name "set" p2) [a] [] q] [] pos) σ s (((ddS xs).length : Nat) : Int) := fun s1 k Q qq =>
  we_of (pe_dszS hg hm hg2 hm2 pe_we hc na) (ha s1 k _ fun v s2 k2 r2 => by
    obtain ⟨p, vs, rfl, h1, h2⟩ := r2
    obtain rfl := h2.flat
    exact ⟨p, xs, rfl, h1, hz, qq _ s2 k2 rfl⟩)
end
end Dy

namespace Dy
open PySem PySem.Spec L2
open PyProof.Rows hiding St
open Enc (rep)
open EncA (repA)
theorem EvG.evLL {α : Type} [Enc α] {X : Cx} {e : Expr} {σ : L2.St} {s : S} {ok : V → List OA → Prop} {xss : List (List α)} (h : EvG X e σ s ok) (hok : ∀ v L', ok v L' → ∃ w : LL, v = .ref w.p ∧ L' = [oll w xss]) : Ev X e σ s xss := fun s1 k Q q => h s1 k Q fun v s2 L' z iv => by
  obtain ⟨w, rfl, rfl⟩ := hok v L' z
  obtain ⟨s', h1, h2, h3⟩ := iv.frzLL 0 rfl
  have := q _ s' (Iv.exx h3) (Iv.fz (x := xss) h3 0)
  rw [h1] at this
  exact this
def WSt (X : Cx) (st : Stmt) : TS := fun D σ H => Hold (∀ (pins : List (Addr × Obj)) (s : Shared), Inv X pins σ H s → wpAny (model X.prog X.w) X.A (exec st X.env) (SP X pins D) X.xe s)
theorem ps_wst {X : Cx} {st : Stmt} : PS X st (WSt X st) := ⟨fun pins s _ _ _ I h => Hold.run h pins s I⟩
theorem wst_of {X : Cx} {st : Stmt} {t : TS} {D : Ends} {σ : L2.St} {H : Hp} (h : PS X st t) (q : t D σ H) : WSt X st D σ H := Hold.mk fun pins s I => h.run pins s σ H D I q
section
variable {α β κ : Type} [Enc α] [Enc β] [DKey κ] [DecidableEq κ] {X : Cx} {σ : L2.St} {P0 : Addr → Prop} {s0 s : S} {L : List OA} {elt tg iter : Expr} {ifs : List Expr} {scope : Scope} {pos : Pos} {p : Addr}
theorem do_setLK (j : Nat) {ys : List β} {n : Str} {py : Pos} {rest : List Stmt} {D : Ends} {spos : Pos} {xs : List (κ × α)} (iv : Iv X.K P0 s0 s L) (i : Nat) (hA : L[i]? = some (Dy.od p xs))
    (h : ∀ (ob : Obj) (kv : List (Key × V)) (s1 : S), Iv X.K P0 s0 s1 (L.set i (Dy.odl p ob kv xs)) → EvL X elt tg iter ifs scope σ s1 ys) (k : ∀ p s1, Ex s s1 → s.H p = none → Own X.K s1 p ys → WSs X rest D (σ.set j (some (.ref p))) s1.H)
    (hk : X.env.scope.kind = .function) (hy : X.env.scope.names.lookup n = some .local)
    (hl : (py.line == pos.line) = true := by rfl) (ha : (scope.names.any fun (m, k) => m == n && (k == .local || k == .cell)) = false := by decide +kernel) (hi : X.N[j]? = some n := by rfl) :
    WSs X (.Assign [.Name n py] (.ListComp elt [⟨tg, iter, ifs, 0⟩] scope pos) spos :: rest) D σ s.H := by
  obtain ⟨hf, kv, h1, h2⟩ := iv.od i hA
  refine do_cons (ps_lock ps_wst) ⟨p, .dK kv, h1, trivial, fun ob => ?_⟩
  obtain ⟨hf1, kx⟩ := lk_ex (ob := ob) hf h1 (Ex.refl s)
  have hv := h ob kv (s.put p (.frz ob (.dK kv)) hf) (iv.lock i ob hA hf h1 h2)
  obtain ⟨own, g, tt, g1, g2, g3, g4⟩ := hv.ex
  refine wst_of (ps_setLc (te := fun σ H Q => ∀ s0 H0 C cl fp, WE (Blk X scope s0 H0 C cl fp) elt σ H Q) hv.calm hv.nd hi hy (sw_true hk hy hl ha) pi_wi g1 g2 g3 (fun s0 H0 C cl fp => pe_im fun _ _ _ h => h s0 H0 C cl fp) hv.fs)
    (g4 _ kx (fun x H1 => H1 p = some (.frz ob (.dK kv)) ∧ WSs X rest D (σ.set j (some x)) (upd H1 p (.dK kv))) fun p2 s2 k2 n2 o2 => ?_)
  obtain ⟨hf2, e1, k3⟩ := lk_back hf1 h1 k2
  refine ⟨e1, ?_⟩
  have ne : p2 ≠ p := fun z => by
    have : upd s.H p (.frz ob (.dK kv)) p2 = none := n2
    rw [z, upd_same] at this; cases this
  have n2' : s.H p2 = none := by
    have : upd s.H p (.frz ob (.dK kv)) p2 = none := n2
    rw [upd_ne ne] at this; exact this
  obtain ⟨o1, vs, o3, o4⟩ := o2
  exact k p2 (s2.put p (.dK kv) hf2) k3 n2' ⟨o1, vs, (upd_ne ne).trans o3, o4⟩
end
end Dy

namespace Dy
open PySem PySem.Spec L2
open PyProof.Rows hiding St
open Enc (rep)
open EncA (repA)
theorem ev_upperS {X : Cx} {a : Expr} {σ : L2.St} {s : S} {x : Str} {p1 pos : Pos} (ha : Ev X a σ s x) (h : x.length ≤ 5592405) (hbase : attributeBase a "upper" X.env (eval a X.env) = eval a X.env := by rfl) (hline : (p1.endLine == pos.line) = true := by rfl) :
    Ev X (.Call (.Attribute a "upper" p1) [] [] pos) σ s (Txt.upper x) := fun s1 k Q q =>
  we_of (pe_upper pe_we hbase hline) (ha s1 k _ fun v s2 k2 r2 => ⟨⟨x, r2⟩, x, r2, rfl, h, q _ s2 k2 rfl⟩)
section
variable {X : Cx} {σ : L2.St} {s : S} {D : Ends} {rest A B : List Stmt} {a b : Expr} {pos p2 : Pos}
theorem do_ifNotX (h : EvX X a σ s) : WSs X (.If (.Compare a [.IsNot] [b] p2) A B pos :: rest) D σ s.H :=
  do_cons (ps_if (pt_cmpR op_notBl pe_we pe_we (nomark _)) pss_ws pss_ws) (h s (Ex.refl _) _)
end
section
variable {X : Cx} {σ : St} {s : S} {D : Ends} {rest : List Stmt} {W : WX} {e : Expr}
theorem do_raiseS {c f : Str} {fd : FuncData} {ps : List Str} {k j : Nat} {i : Str} {p pos pos' : Pos} (T : PayF X.K c f) (gC : X.mg c = some (.ref (He.ga X.K c))) (F1 : FnOk X.prog X.w X.K X.mg X.base CX0 k (He.fAd X.K (c, some "__init__")) fd ps (spInit X.K f)) (hb : Binds X.K fd ps [])
    (tk : Takes X W) (hr : Room j X.A) (hk : k + 1 ≤ j) (ha : Ev X e σ s i) (h : ∀ d s1, Ex s s1 → s1.F d = some (.xd [(f, V.str i)]) → W (.ref (He.ga X.K c)) (some d) σ s1.H)
    (hc : X.calm = true := by rfl) (hg : Gl X c := by rfl) (hdb : (c == ("__debug__" : Str)) = false := by decide) (he : starEach [e] X.env = (false, eval e X.env) :: starEach [] X.env := by rfl) (hpl : (backTo pos (starEach [] X.env)).any (·.1) = false := by rfl) :
    WSs X (.Raise (some (.Call (.Name c p) [e] [] pos)) none pos' :: rest) D σ s.H :=
  do_cons (ps_raise hc tk (pmk_oex T.o T.i T.t F1 (hr.mono hk) hb .nil pass0 hg gC (pa_cons pe_we pa_nil he) hdb he hpl)) (ha s (Ex.refl _) _ fun v s2 k2 r2 => by
    obtain rfl : v = V.str i := r2
    refine ⟨by simp, fun a hna => ⟨a, He.ga X.K c, V.str i, rfl, upd_same, T.o, T.n, fun dx h1 h2 => ?_⟩⟩
    have hdx : s2.H dx = none := by rw [upd_ne h2] at h1; exact h1
    refine ⟨rfl, dx, _, upd_same, by rw [upd_ne h2, upd_same], hdx, ?_⟩
    have eH : upd (del (upd (upd (upd s2.H a (exo a (He.ga X.K c) none)) dx (exd dx [(f, V.str i)])) a (exo a (He.ga X.K c) (some dx))) a) dx (.xd [(f, V.str i)]) = (s2.newF dx (.xd [(f, V.str i)]) hdx).H := by
      funext b
      show _ = upd s2.H dx (.xd [(f, V.str i)]) b
      by_cases hb1 : b = dx
      · subst hb1; rw [upd_same, upd_same]
      · rw [upd_ne hb1, upd_ne hb1]
        by_cases hb2 : b = a
        · subst hb2; rw [del_same, hna]
        · rw [del_ne hb2, upd_ne hb2, upd_ne hb1, upd_ne hb2]
    rw [eH]
    exact h dx _ (k2.trans (Ex.newF hdx)) upd_same)
end
end Dy

namespace Dy
open PySem PySem.Spec L2
open PyProof.Rows hiding St
open Enc (rep)
open EncA (repA)
section
variable {X : Cx} {CX : CXT} {k j : Nat} {o : Expr} {apos pos : Pos} {σ : L2.St} {s : S} {m : Str} {A O : Type} {pre : List V → A → List OA → List OA → Prop} {mm : A → Option O} {ok : List V → A → O → V → List OA → Prop} {er : List V → A → O → Er → List OA → Prop} {x : A} {o' : O} {okv ok' : V → List OA → Prop}
theorem eg_newMeth0 {E : L2.St → XK} {c : Str} (h : EvG X o σ s okv) (C : CalM X.prog X.w X.K X.mg X.base CX k c m (spI X.K pre mm ok er)) (hc : Cls X.K (He.ga X.K c)) (hx : ∀ σ, PassesAt CX X σ (E σ)) (hr : Room j X.A) (hk : k ≤ j)
    (hv : ∀ v Lr, okv v Lr → ∃ (p : Addr) (fs : List (Str × V)) (rs : List (Nat ⊕ Nat)), v = .ref p ∧ Lr[0]? = some (cell p c fs) ∧ fs.lookup m = none ∧ pre [.ref p] x [] (rsel Lr [] rs) ∧ (∀ v L', ok [.ref p] x o' v L' → ok' v L') ∧ (∀ e L', er [.ref p] x o' e L' → False)) (hm : mm x = some o')
    {pl : Sem Bool} (ht : eval (.Call (.Attribute o m apos) [] [] pos) X.env = (do
      let ov ← eval o X.env
      standAt apos.atName
      let (f, first) ← holding [ov] (getMethod ov m pl)
      callWith pos f first (backTo pos (starEach [] X.env)) (backToKw pos (keywordEach [] X.env))) := by rfl) : EvG X (.Call (.Attribute o m apos) [] [] pos) σ s ok' := fun s1 k1 Q q => by
  obtain ⟨f, fd, ps, F, hmm, b⟩ := C.ex
  refine we_of (pe_methX0 (E := E) (pl := pl) pe_we hc hmm F (hr.mono hk) b hx ht) (h s1 k1 _ fun v s2 Lr z iv => ?_)
  obtain ⟨p, fs, rs, rfl, e0, hl, h1, h3, h4⟩ := hv v Lr z
  obtain ⟨dx, hd⟩ := iv.cell 0 e0
  have k2 : Ex s1 s2 := Iv.exx iv
  refine ⟨p, dx, fs, rfl, hd, hl, ?_⟩
  obtain ⟨P1, g1, g2, g3, g4⟩ := call_in iv (ro0 : Ro X.K No s1 []) [] List.nodup_nil (fun k hk => by cases hk) [] (fun A hA => by cases hA) rs (fun i _ z => by cases z)
  have e0 : P1 = No := by
    funext a
    exact propext ⟨fun z => (g3 rfl a z).elim, fun z => z.elim⟩
  subst e0
  exact ⟨s2, No, [], _, x, o', rfl, h1, g1, g2, hm, fun v s' L' hok iv' => q v s' L' (h3 v L' hok) ⟨k2.z.trans iv'.m, by
    obtain ⟨φ, f1, f2, f3⟩ := iv'.o
    exact ⟨φ, f1, f2, fun i a z => ⟨(f3 i a z).1, (f3 i a z).2.1.elim (fun z => z.elim) (fun z => .inr (fr_back k2 z)), (f3 i a z).2.2⟩⟩⟩, fun e cls d s' L' z _ _ => (h4 e L' z).elim⟩
end
end Dy

namespace Dy
open PySem PySem.Spec L2
open PyProof.Rows hiding St
open Enc (rep)
open EncA (repA)
section
variable {α : Type} [Enc α] {X : Cx} {σ : L2.St} {s : S} {D : Ends} {rest : List Stmt} {o : Expr} {p1 p2 p3 : Pos} {p : Addr}
theorem do_popP {xs : List α} (ho : Ev X o σ s (Rw.mk (.ref p))) (r : Own X.K s p xs) (hne : 0 < xs.length)
    (k : ∀ s1, Mx (· = p) s s1 → Own X.K s1 p xs.dropLast → WSs X rest D σ s1.H)
    (hbase : attributeBase o "pop" X.env (eval o X.env) = eval o X.env := by rfl) (hline : (p1.endLine == p2.line) = true := by rfl)
    (hsw : swapsWith (.Call (.Attribute o "pop" p1) [] [] p2) none p3.line X.env = pure false := by rfl) :
    WSs X (.Expr (.Call (.Attribute o "pop" p1) [] [] p2) p3 :: rest) D σ s.H :=
  do_cons (ps_expr (pe_bm0 PySem.F.plainAttrs_list PySem.F.slot_list_pop PySem.F.type_list_pop mt_pop pe_we hbase hline) hsw) (ho s (Ex.refl _) _ fun w s1 k1 e1 => by
    cases (show w = V.ref p from e1)
    obtain ⟨f1, vs, h2, h3⟩ := r.ex k1
    have hl := h3.len
    have hg : vs[vs.length - 1]? = some (vs[vs.length - 1]'(by omega)) := List.getElem?_eq_getElem _
    refine ⟨.inl ⟨rfl, vs, .inl (.inl h2)⟩, p, vs, _, rfl, rfl, h2, hg, k (s1.put p (.lst vs.dropLast) f1) (k1.mx.trans (Mx.put f1)) ⟨f1, vs.dropLast, upd_same, ?_⟩⟩
    refine reps_of (by rw [List.length_dropLast, List.length_dropLast, hl]) fun i v x a b => ?_
    rw [List.getElem?_dropLast] at a b
    split at a
    · split at b
      · obtain ⟨u, h4, h5⟩ := h3.get b
        rw [a] at h4
        cases h4
        exact h5
      · cases b
    · cases a)
end
end Dy

namespace Dy
open PySem PySem.Spec L2
open PyProof.Rows hiding St
open Enc (rep)
open EncA (repA)
section
variable {X : Cx} {CX : CXT} {k j : Nat} {e : Expr} {es : List Expr} {p0 pos : Pos} {σ : L2.St} {s : S} {n : Str} {A O : Type} {pre : List V → A → List OA → List OA → Prop} {mm : A → Option O} {ok : List V → A → O → V → List OA → Prop} {er : List V → A → O → Er → List OA → Prop} {x : A} {o' : O} {okA : List V → List OA → Prop} {ok' : V → List OA → Prop}
theorem range_getD (L : List OA) : (List.range L.length).map (fun k => L.getD k top) = L := by
  apply List.ext_getElem?
  intro i
  rw [List.getElem?_map]
  by_cases hi : i < L.length
  · rw [List.getElem?_range hi]
    simp [List.getD_eq_getElem?_getD, List.getElem?_eq_getElem hi]
  · rw [List.getElem?_eq_none (by rw [List.length_range]; omega), List.getElem?_eq_none (by omega)]; rfl
theorem eg_callGs {E : L2.St → XK} (C : Cal X.prog X.w X.K X.mg X.base CX k n (spI X.K pre mm ok er)) (hx : ∀ σ, PassesAt CX X σ (E σ)) (hr : Room j X.A) (hk : k ≤ j) (ha : EvGs X (e :: es) σ s okA)
    (hp : ∀ vs L1, okA vs L1 → pre vs x L1 [] ∧ (∀ v L', ok vs x o' v L' → ok' v L') ∧ (∀ e L', er vs x o' e L' → False)) (hm : mm x = some o') (hg : Gl X n := by rfl)
    (hdb : (n == ("__debug__" : Str)) = false := by decide) (he : starEach (e :: es) X.env = (false, eval e X.env) :: starEach es X.env := by rfl) (hpl : (backTo pos (starEach es X.env)).any (·.1) = false := by rfl) :
    ∀ s1, Ex s s1 → ∀ Q : VK, (∀ v s2 s3 L1 L', Iv X.K No s1 s2 L1 → ok' v L' → Iv X.K No s1 s3 (rem L1 (List.range L1.length) ++ L') → Q v s3.H) → WE X (.Call (.Name n p0) (e :: es) [] pos) σ s1.H Q := fun s1 k1 Q q => by
  obtain ⟨f, fd, ps, F, hmm, kp, b⟩ := C.ex
  refine we_of (pe_callS (E := E) F (hr.mono hk) hg hmm kp b hx pa_wa hdb he hpl) (ha s1 k1 _ fun vs s2 L1 z iv => ?_)
  obtain ⟨h1, h3, h4⟩ := hp vs L1 z
  obtain ⟨P1, g1, g2, g3, g4⟩ := call_in iv (ro0 : Ro X.K No s1 []) (List.range L1.length) List.nodup_range (fun k hk => List.mem_range.mp hk) [] (fun A hA => by cases hA) [] (fun i z => by cases z)
  rw [range_getD, List.append_nil] at g1
  exact ⟨s2, P1, L1, [], x, o', rfl, h1, g1, g2, hm, fun v s' L' hok iv' => q v s2 s' L1 L' iv (h3 v L' hok) (g4 s' L' iv'), fun e cls d s' L' z _ _ => (h4 e L' z).elim⟩
theorem Iv.dropL {K : PySem.W.Frag} {P0 : Addr → Prop} {s0 s : S} {T L' : List OA} (h : Iv K P0 s0 s (T ++ L')) : Iv K P0 s0 s L' := h.sel (M := L') ((List.range L'.length).map fun i => some (T.length + i)) (by
    have e1 : ((List.range L'.length).map fun i => some (T.length + i)).filterMap id = (List.range L'.length).map fun i => T.length + i := by
      rw [List.filterMap_map]
      exact (List.filterMap_eq_map (f := fun i => T.length + i)) ▸ rfl
    rw [e1]
    exact List.pairwise_map.mpr (List.Pairwise.imp (fun {a b} h e => h (by omega)) List.nodup_range)) (by
    unfold pick
    apply List.ext_getElem?
    intro i
    rw [List.map_map, List.getElem?_map]
    by_cases hi : i < L'.length
    · rw [List.getElem?_range hi]
      simp [List.getD_eq_getElem?_getD, List.getElem?_append_right, List.getElem?_eq_getElem hi]
    · rw [List.getElem?_eq_none (by rw [List.length_range]; omega), List.getElem?_eq_none (by omega)]; rfl)
theorem eg_callGs' {E : L2.St → XK} (C : Cal X.prog X.w X.K X.mg X.base CX k n (spI X.K pre mm ok er)) (hx : ∀ σ, PassesAt CX X σ (E σ)) (hr : Room j X.A) (hk : k ≤ j) (ha : EvGs X (e :: es) σ s okA)
    (hp : ∀ vs L1, okA vs L1 → pre vs x L1 [] ∧ (∀ v L', ok vs x o' v L' → ok' v L') ∧ (∀ e L', er vs x o' e L' → False)) (hm : mm x = some o') (hg : Gl X n := by rfl)
    (hdb : (n == ("__debug__" : Str)) = false := by decide) (he : starEach (e :: es) X.env = (false, eval e X.env) :: starEach es X.env := by rfl) (hpl : (backTo pos (starEach es X.env)).any (·.1) = false := by rfl) :
    EvG X (.Call (.Name n p0) (e :: es) [] pos) σ s ok' := fun s1 k1 Q q =>
  eg_callGs C hx hr hk ha hp hm hg hdb he hpl s1 k1 Q fun v s2 s3 L1 L' _ hok iv => q v s3 L' hok iv.dropL
end
end Dy

namespace Dy
open PySem PySem.Spec L2
open PyProof.Rows hiding St
open Enc (rep)
open EncA (repA)
def mrg (A B : OA) : OA := ⟨fun K F H P => ∃ P1 P2, A.p K F H P1 ∧ B.p K F H P2 ∧ (∀ a, P1 a → ¬ P2 a) ∧ ∀ a, P a ↔ (P1 a ∨ P2 a),
  fun e ⟨P1, P2, h1, h2, h3, h4⟩ => ⟨P1, P2, A.mono e h1, B.mono e h2, h3, h4⟩,
  fun e ⟨P1, P2, h1, h2, h3, h4⟩ => ⟨P1, P2, A.loc (fun a z => e a ((h4 a).mpr (.inl z))) h1, B.loc (fun a z => e a ((h4 a).mpr (.inr z))) h2, h3, h4⟩,
  fun ⟨P1, P2, h1, h2, h3, h4⟩ z => by
    rcases (h4 _).mp z with z | z
    · exact A.dom h1 z
    · exact B.dom h2 z⟩
section
variable {α : Type} [Enc α] {K : PySem.W.Frag} {P0 : Addr → Prop} {s0 s s1 t : S} {L : List OA} {l : LL} {xss zss : List (List α)} {xs : List α} {q : Addr}
theorem Iv.merge (h : Iv K P0 s0 s L) (i j : Nat) {A B : OA} (hij : i ≠ j) (hA : L[i]? = some A) (hB : L[j]? = some B) : Iv K P0 s0 s ((L.set i (mrg A B)).set j top) := by
  obtain ⟨φ, h1, h2, h3⟩ := h.o
  have hi : i < L.length := (List.getElem?_eq_some_iff.mp hA).1
  have hj : j < L.length := (List.getElem?_eq_some_iff.mp hB).1
  refine ⟨h.m, fun k a => if k = j then False else if k = i then φ i a ∨ φ j a else φ k a, fun k C hC => ?_, fun k m a => ?_, fun k a => ?_⟩
  · by_cases e : k = j
    · subst e
      rw [List.getElem?_set_self (by rw [List.length_set]; exact hj)] at hC
      cases hC
      intro a
      simp
    · rw [List.getElem?_set_ne (Ne.symm e)] at hC
      by_cases e2 : k = i
      · subst e2
        rw [List.getElem?_set_self hi] at hC
        cases hC
        refine ⟨φ k, φ j, h1 k A hA, h1 j B hB, fun a z w => hij (h2 _ _ _ z w), fun a => ?_⟩
        simp [e]
      · rw [List.getElem?_set_ne (Ne.symm e2)] at hC
        have := h1 k C hC
        simpa [e, e2] using this
  · intro z w
    by_cases e : k = j
    · simp [e] at z
    by_cases e' : m = j
    · simp [e'] at w
    by_cases e2 : k = i <;> by_cases e3 : m = i
    · rw [e2, e3]
    · exfalso
      simp only [e, e', e2, e3, if_true, if_false, hij] at z w
      rcases z with z | z
      · exact e3 (h2 _ _ _ w z)
      · exact e' (h2 _ _ _ w z)
    · exfalso
      simp only [e, e', e2, e3, if_true, if_false, hij] at z w
      rcases w with w | w
      · exact e2 (h2 _ _ _ z w)
      · exact e (h2 _ _ _ z w)
    · simp only [e, e', e2, e3, if_false] at z w
      exact h2 _ _ _ z w
  · intro z
    rw [List.length_set, List.length_set]
    by_cases e : k = j
    · simp [e] at z
    by_cases e2 : k = i
    · simp only [e, e2, if_true, if_false, hij] at z
      rcases z with z | z
      · exact ⟨(h3 i a z).1, (h3 i a z).2.1, by omega⟩
      · exact ⟨(h3 j a z).1, (h3 j a z).2.1, by omega⟩
    · simp only [e, e2, if_false] at z
      exact h3 k a z
theorem RdLL.row (h : RdLL K s l xss) {i : Nat} (hq : l.q[i]? = some q) (hx : xss[i]? = some xs) : RepR K s (.ref q) xs := by
  obtain ⟨vs, g1, g2⟩ := h.2.2 i q xs hq hx
  exact ⟨q, vs, rfl, .inl (.inl g1), g2⟩
def rws (qs : List Addr) : List Rw := qs.map fun q => Rw.mk (.ref q)
theorem rws_reps {F : Hp} : ∀ qs : List Addr, Reps K F (qs.map V.ref) (rws qs)
  | [] => trivial
  | q :: r => ⟨rfl, rws_reps r⟩
theorem OwnLL.rw (h : OwnLL K s l xss) : Own K s l.p (rws l.q) := ⟨h.fp, _, h.hp, rws_reps _⟩
theorem own_rws {p : Addr} {qs : List Addr} (h : Own K s p (rws qs)) : s.H p = some (.lst (qs.map .ref)) := by
  obtain ⟨_, vs, h1, h2⟩ := h
  rw [h1, rw_reps h2]
  unfold rws
  rw [List.map_map]; rfl
theorem Iv.pll (h : Iv K P0 s0 s L) (k : Nat) (m : Mx (· = l.p) s s1) (o : Own K s1 l.p (rws l.q).dropLast) (e : zss = xss.dropLast) (hA : L[k]? = some (Dy.oll l xss) := by rfl) : Iv K P0 s0 s1 (L.set k (Dy.oll ⟨l.p, l.q.dropLast⟩ zss)) := by
  subst e
  refine h.upd k hA fun P hP hF => ⟨fun a => a = l.p ∨ a ∈ l.q.dropLast, ?_, fun a z => ?_, ?_⟩
  · obtain ⟨h0, h1, h2, h3, h4, h5⟩ := hP
    have e1 : (rws l.q).dropLast = rws l.q.dropLast := by unfold rws; rw [List.map_dropLast]
    rw [e1] at o
    refine ⟨h0.sublist (List.dropLast_sublist _), fun z => h1 ((List.dropLast_sublist _).subset z), fun a => Iff.rfl, own_rws o, by rw [List.length_dropLast, List.length_dropLast, h4], fun j r zs a b => ?_⟩
    rw [List.getElem?_dropLast] at a b
    split at a
    · split at b
      · obtain ⟨vs, g1, g2⟩ := h5 j r zs a b
        exact ⟨vs, m.h _ _ g1 (fun z => h1 (by rw [← z]; exact List.mem_of_getElem? a)), g2.mono m.f⟩
      · cases b
    · cases a
  · have : P a := (hP.2.2.1 a).mpr (z.imp id fun z => (List.dropLast_sublist _).subset z)
    refine ⟨?_, .inl this⟩
    obtain ⟨u, hu⟩ := (Dy.oll l xss).dom hP this
    exact m.n _ _ hu (hF a this)
  · exact ⟨m.f, fun a o z n => m.h a o z fun e => n (by rw [e]; exact (hP.2.2.1 _).mpr (.inl rfl)), fun a o z _ w => m.n a o z w, m.d⟩
theorem Iv.all (h : Iv K P0 s0 s L) (k j : Nat) (m : Mx (· = l.p) s s1) (o : Own K s1 l.p (rws l.q ++ [Rw.mk (.ref q)])) (e : zss = xss ++ [xs]) (hkj : k ≠ j := by decide) (hA : L[k]? = some (Dy.oll l xss) := by rfl) (hB : L[j]? = some (Dy.ol q xs) := by rfl) : Iv K P0 s0 s1 ((L.set k (Dy.oll ⟨l.p, l.q ++ [q]⟩ zss)).set j top) := by
  subst e
  have h' := h.merge k j hkj hA hB
  have hk : k < L.length := (List.getElem?_eq_some_iff.mp hA).1
  have := h'.upd (s1 := s1) (A' := Dy.oll ⟨l.p, l.q ++ [q]⟩ (xss ++ [xs])) k (A := mrg (Dy.oll l xss) (Dy.ol q xs)) (by rw [List.getElem?_set_ne (Ne.symm hkj), List.getElem?_set_self hk]) fun P hP hF => by
    obtain ⟨P1, P2, ⟨h0, h1, h2, h3, h4, h5⟩, ⟨g0, vs, g1, g2⟩, hd, hu⟩ := hP
    have hq : q ∉ l.q := fun z => hd q ((h2 q).mpr (.inr z)) ((g0 q).mpr rfl)
    have hp : q ≠ l.p := fun z => hd q ((h2 q).mpr (.inl z)) ((g0 q).mpr rfl)
    have e1 : rws l.q ++ [Rw.mk (.ref q)] = rws (l.q ++ [q]) := by unfold rws; rw [List.map_append]; rfl
    rw [e1] at o
    refine ⟨P, ⟨?_, ?_, fun a => ?_, own_rws o, ?_, fun j r zs a b => ?_⟩, fun a z => ⟨?_, .inl z⟩, ?_⟩
    · rw [List.nodup_append]
      exact ⟨h0, by simp, fun a ha b hb e => hq (by rw [← List.mem_singleton.mp hb, ← e]; exact ha)⟩
    · intro z
      rcases List.mem_append.mp z with z | z
      · exact h1 z
      · exact hp (List.mem_singleton.mp z).symm
    · rw [hu, h2, g0, List.mem_append, List.mem_singleton, or_assoc]
    · rw [List.length_append, List.length_append, h4]; rfl
    · show ∃ vs, s1.H r = _ ∧ _
      have a : (l.q ++ [q])[j]? = some r := a
      by_cases c : j < l.q.length
      · rw [List.getElem?_append_left c] at a
        rw [List.getElem?_append_left (by rw [← h4]; exact c)] at b
        obtain ⟨ws, w1, w2⟩ := h5 j r zs a b
        exact ⟨ws, m.h _ _ w1 (fun z => h1 (by rw [← z]; exact List.mem_of_getElem? a)), w2.mono m.f⟩
      · have hl := (List.getElem?_eq_some_iff.mp a).1
        rw [List.length_append, List.length_singleton] at hl
        have ej : j = l.q.length := by omega
        subst ej
        rw [List.getElem?_append_right (Nat.le_refl _), Nat.sub_self] at a
        rw [h4, List.getElem?_append_right (Nat.le_refl _), Nat.sub_self] at b
        cases a; cases b
        exact ⟨vs, m.h _ _ g1 hp, g2.mono m.f⟩
    · obtain ⟨u, hu2⟩ := (mrg (Dy.oll l xss) (Dy.ol q xs)).dom ⟨P1, P2, ⟨h0, h1, h2, h3, h4, h5⟩, ⟨g0, vs, g1, g2⟩, hd, hu⟩ z
      exact m.n _ _ hu2 (hF a z)
    · exact ⟨m.f, fun a o z n => m.h a o z fun e => n (by rw [e]; exact (hu _).mpr (.inl ((h2 _).mpr (.inl rfl)))), fun a o z _ w => m.n a o z w, m.d⟩
  rw [List.set_comm _ _ hkj, List.set_set] at this
  rw [List.set_comm _ _ hkj]
  exact this
end
section
variable {α : Type} [Enc α] {X : Cx} {σ : L2.St} {s : S} {D : Ends} {rest : List Stmt} {o : Expr} {p1 p2 p3 : Pos} {p : Addr}
theorem do_reverseP {xs : List α} (ho : Ev X o σ s (Rw.mk (.ref p))) (r : Own X.K s p xs)
    (k : ∀ s1, Mx (· = p) s s1 → Own X.K s1 p xs.reverse → WSs X rest D σ s1.H)
    (hbase : attributeBase o "reverse" X.env (eval o X.env) = eval o X.env := by rfl) (hline : (p1.endLine == p2.line) = true := by rfl)
    (hsw : swapsWith (.Call (.Attribute o "reverse" p1) [] [] p2) none p3.line X.env = pure false := by rfl) :
    WSs X (.Expr (.Call (.Attribute o "reverse" p1) [] [] p2) p3 :: rest) D σ s.H :=
  do_cons (ps_expr (pe_bm0 PySem.F.plainAttrs_list PySem.F.slot_list_reverse PySem.F.type_list_reverse mt_reverse pe_we hbase hline) hsw) (ho s (Ex.refl _) _ fun w s1 k1 e1 => by
    cases (show w = V.ref p from e1)
    obtain ⟨f1, vs, h2, h3⟩ := r.ex k1
    exact ⟨.inl ⟨rfl, vs, .inl (.inl h2)⟩, p, vs, rfl, rfl, h2, k (s1.put p (.lst vs.reverse) f1) (k1.mx.trans (Mx.put f1)) ⟨f1, _, upd_same, h3.rev⟩⟩)
end
end Dy

namespace Dy
open PySem PySem.Spec L2
open PyProof.Rows hiding St
open Enc (rep)
open EncA (repA)
section
variable {α τ β : Type} [Enc α] [Enc τ] [Enc β] {X : Cx} {σ : L2.St} {P0 : Addr → Prop} {s0 s s1 t : S} {L : List OA} {l : LL} {xss : List (List β)} {yss : List (List α)} {xs : List α} {e a b c o i elt tg iter : Expr} {ifs : List Expr} {scope : Scope} {own : List (Str × Nat)} {pos p0 p1 : Pos} {D : Ends} {rest : List Stmt}
theorem comp_readLLG {xs : List τ} {f : τ → Option (List α)} {g : TG} {B : Hp → τ → St → St → Prop} {G : S → Prop} (hi : EvIG X tg iter σ s G xs) (hG : ∀ t, Ex s t → G t) (T : Tgt (α := τ) X.K g B) (hf : mapO f xs = some yss) (hz : yss.length ≤ sizeLine)
    (hw : ∀ (F : Hp) (x : τ) σ2, B F x (wipe σ (own.map (·.2))) σ2 → wipe σ2 (own.map (·.2)) = wipe σ (own.map (·.2)))
    (he : ∀ (x : τ) (y : List α) (s1 : S) (σ2 : St), x ∈ xs → Ex s s1 → B s1.F x (wipe σ (own.map (·.2))) σ2 → f x = some y → ∀ s0 H0 C cl fp, EvN (Blk X scope s0 H0 C cl fp) elt σ2 s1 y)
    (s1 : S) (k : Ex s s1) (Q : VK) (q : ∀ (l : LL) s2, Ex s1 s2 → s1.H l.p = none → (∀ a ∈ l.q, s1.H a = none) → OwnLL X.K s2 l yss → Q (.ref l.p) s2.H) : tLc (WI X tg iter) g tYes (fun σ H Q => ∀ s0 H0 C cl fp, WE (Blk X scope s0 H0 C cl fp) elt σ H Q) (own.map (·.2)) σ s1.H Q := by
  refine hi s1 k _ fun J s2 k2 W => ?_
  intro D hD
  refine ⟨fun i m H => ∃ (u : S) (pre : List (List α)) (qs : List Addr), u.H = H ∧ m = xs.length - i ∧ Ex s2 u ∧ OwnLL X.K u ⟨D, qs⟩ pre ∧ (∀ a ∈ qs, s2.H a = none) ∧ (∃ suf, mapO f (xs.drop i) = some suf ∧ pre ++ suf = yss), ⟨xs.length, s2.newO D (.lst []) hD, [], [], rfl, rfl, Ex.newO hD, ⟨List.nodup_nil, by simp, (fF hD : s2.F D = none), by simp, upd_same, rfl, fun i q xs a b => by simp at a⟩, by simp, yss, hf, rfl⟩, ?_⟩
  rintro i m H ⟨u, pre, qs, rfl, rfl, ku, n1, n4, suf, h1, h2⟩
  by_cases hi' : i < xs.length
  · right
    have hx : xs[i]? = some xs[i] := List.getElem?_eq_getElem hi'
    obtain ⟨g1, g2⟩ := W.go i u xs[i] (hG u ((k.trans k2).trans ku)) hx
    refine ⟨g1, fun H' => ∃ m', m' < xs.length - i ∧ ∃ (u : S) (pre : List (List α)) (qs : List Addr), u.H = H' ∧ m' = xs.length - (i + 1) ∧ Ex s2 u ∧ OwnLL X.K u ⟨D, qs⟩ pre ∧ (∀ a ∈ qs, s2.H a = none) ∧ (∃ suf, mapO f (xs.drop (i + 1)) = some suf ∧ pre ++ suf = yss), fun H' z => z, fun v H' hy => ?_⟩
    obtain ⟨u', rfl, ku', rv⟩ := g2 v H' hy
    refine T.run u' v xs[i] _ _ rv fun σ2 hB => ⟨hw _ _ _ hB, ?_⟩
    have mem : xs[i] ∈ xs := List.getElem_mem hi'
    have base : Ex s u' := (k.trans k2).trans (ku.trans ku')
    unfold tYes
    dsimp only
    rw [if_pos rfl]
    rw [List.drop_eq_getElem_cons hi'] at h1
    unfold mapO compO at h1
    rw [Option.bind_some, if_pos rfl] at h1
    have hlt : xs.length - (i + 1) < xs.length - i := by omega
    cases hfx : f xs[i] with
    | none => rw [hfx] at h1; cases h1
    | some y =>
      rw [hfx, Option.bind_some] at h1
      cases hr : compO (fun _ => some true) f (xs.drop (i + 1)) with
      | none => rw [hr] at h1; cases h1
      | some suf' =>
        rw [hr] at h1
        cases h1
        intro s0 H0 C cl fp
        refine he xs[i] y u' σ2 mem base hB hfx s0 H0 C cl fp u' (Ex.refl _) _ fun p u4 k4 n5 o4 => ?_
        have k5 : Ex u u4 := ku'.trans k4
        have o5 := n1.ex k5
        have hD4 : u4.H D = some (.lst (qs.map .ref)) := o5.hp
        have hF4 : u4.F D = none := o5.fp
        have hlen : (qs.map V.ref).length < sizeLine := by
          have e1 := n1.len
          have e2 : yss.length = pre.length + (suf'.length + 1) := by rw [← h2, List.length_append, List.length_cons]
          have e3 : qs.length = pre.length := e1
          rw [List.length_map]
          omega
        have pn : ∀ {a : Addr} {o : HO}, u.H a = some o → a ≠ p := fun z e => by
          rw [e] at z
          rw [ku'.h _ _ z] at n5; cases n5
        have nq : p ∉ qs := fun z => by
          obtain ⟨j, hj⟩ := List.mem_iff_getElem?.mp z
          have hl : j < pre.length := by rw [← n1.len]; exact (List.getElem?_eq_some_iff.mp hj).1
          obtain ⟨_, vs, g, _⟩ := n1.row hj (List.getElem?_eq_getElem hl)
          exact pn g rfl
        have nD : D ≠ p := pn n1.hp
        obtain ⟨of, vs4, oh, orp⟩ := o4
        have hput : ∀ a, a ≠ D → (u4.put D (.lst (qs.map .ref ++ [.ref p])) hF4).H a = u4.H a := fun a z => upd_ne z
        refine ⟨_, hD4, hlen, _, hlt, u4.put D (.lst (qs.map .ref ++ [.ref p])) hF4, pre ++ [y], qs ++ [p], rfl, rfl, (ku.trans k5).mu1 (Mx.put hF4) hD, ⟨?_, ?_, hF4, ?_, ?_, ?_, ?_⟩, ?_, suf', hr, by rw [List.append_assoc]; exact h2⟩
        · rw [List.nodup_append]
          exact ⟨n1.nd, by simp, fun a ha b hb => by
            rw [List.mem_singleton] at hb
            subst hb
            exact fun e => nq (e ▸ ha)⟩
        · intro z
          rcases List.mem_append.mp z with z | z
          · exact n1.np z
          · exact nD (List.mem_singleton.mp z)
        · intro a z
          rcases List.mem_append.mp z with z | z
          · exact o5.fq a z
          · rw [List.mem_singleton.mp z]; exact of
        · show upd u4.H D _ D = _
          rw [upd_same, List.map_append]; rfl
        · show (qs ++ [p]).length = _
          rw [List.length_append, List.length_append]
          have e3 : qs.length = pre.length := n1.len
          rw [e3]; rfl
        · intro j r zs ha hb
          have e3 : qs.length = pre.length := n1.len
          by_cases hj : j < qs.length
          · rw [List.getElem?_append_left hj] at ha
            rw [List.getElem?_append_left (by omega)] at hb
            obtain ⟨vs, g1, g2⟩ := o5.c.2 j r zs ha hb
            have : r ≠ D := fun z => n1.np (by rw [← z]; exact List.mem_of_getElem? ha)
            exact ⟨vs, (hput r this).trans g1, g2⟩
          · rw [List.getElem?_append_right (by omega)] at ha hb
            have hj2 : j - qs.length = 0 := by
              have := (List.getElem?_eq_some_iff.mp ha).1
              simp at this; omega
            rw [hj2] at ha
            rw [← e3, hj2] at hb
            cases ha; cases hb
            exact ⟨vs4, (hput p (Ne.symm nD)).trans oh, orp⟩
        · intro a z
          rcases List.mem_append.mp z with z | z
          · exact n4 a z
          · rw [List.mem_singleton.mp z]
            exact fr_back (ku.trans ku') n5
  · left
    have hd : xs.drop i = [] := List.drop_eq_nil_of_le (by omega)
    rw [hd] at h1
    cases h1
    rw [List.append_nil] at h2
    subst h2
    exact ⟨W.stop i u (hG u ((k.trans k2).trans ku)) (by omega), q ⟨D, qs⟩ u (k2.trans ku) (fr_back k2 hD) (fun a z => fr_back k2 (n4 a z)) n1⟩
theorem en_compLLr {f : Nat → Option (List α)} {j : Nat} {n : Str} {py : Pos} (hc : X.calm = true) (hN : X.N.Nodup) (ho : Ev X iter σ s (Rw.mk (.ref l.p))) (r : RdLL X.K s l xss) (ok : BlkOk X.N X.env.scope scope own) (hj : X.N[j]? = some n)
    (hjo : j ∈ own.map (·.2)) (hg : ∀ s0 H0 C cl fp, PG (Blk X scope s0 H0 C cl fp) (.Name n py) (gName j)) (hf : mapO f (List.range xss.length) = some yss) (hz : yss.length ≤ sizeLine)
    (he : ∀ (x : Nat) (y : List α) (q : Addr) (s1 : S), l.q[x]? = some q → Ex s s1 → f x = some y → ∀ s0 H0 C cl fp, EvN (Blk X scope s0 H0 C cl fp) elt ((wipe σ (own.map (·.2))).set j (some (.ref q))) s1 y)
    (hs : ∀ x, foldedSetIterable iter X.env x = pure x := by intro _; rfl) : EvLL X elt (.Name n py) iter [] scope σ s yss := by
  letI := encIx l
  exact ⟨hc, hN, hs, own, _, _, ok, hg, fun _ _ _ _ _ => pts_nil, fun s1 k Q q => comp_readLLG (τ := Nat) (ei_ll ho r) (fun t e => (r.ex e).1) (tg_n (α := Nat)) hf hz (fun F x σ2 ⟨v, _, e⟩ => by rw [e, wipe_set hjo]; exact wipe_wipe fun _ z => z)
    (fun x y s1 σ2 hx k ⟨v, r, e⟩ hfx => by
      subst e
      obtain ⟨q, hq, rfl⟩ := r
      exact he x y q s1 hq k hfx) s1 k Q q⟩
theorem repH_ll {K : PySem.W.Frag} (h : RdLL K s l xss) (e : Ex s t) : rep K t.H (.ref l.p) xss := by
  have h := h.ex e
  refine ⟨l.p, l.q.map .ref, rfl, .inl (.inl h.1), reps_of (by rw [List.length_map]; exact h.2.1) fun i v x a b => ?_⟩
  rw [List.getElem?_map] at a
  obtain ⟨q, hq, rfl⟩ := Option.map_eq_some_iff.mp a
  obtain ⟨vs, g1, g2⟩ := h.2.2 i q x hq b
  exact ⟨q, vs, rfl, .inl (.inl g1), g2.mono t.sub⟩
end
section
variable {X : Cx} {σ : L2.St} {s t : S} {α : Type} {a b : Expr} {pos : Pos}
theorem eb_cmpH {op : CmpOp} {r : R2} {v0 : V} {β : Type} [Enc α] [Enc β] {x : α} {y : β} {z : Bool} (ho : OpR X (compareOp op) r) (ha : Ev X a σ s (Rw.mk v0)) (hx : ∀ t, Ex s t → rep X.K t.H v0 x) (hb : Ev X b σ s y)
    (hr : ∀ (v u : V) (s2 : S), rep X.K s2.H v x → rep X.K s2.F u y → ∀ Q : VK, Q (.bl z) s2.H → r v u s2.H Q) (hm : behindInMarks op b = false) : EvB X (.Compare a [op] [b] pos) σ s z :=
  ⟨fun s1 k Q q => we_of (pe_cmpR ho pe_we pe_we hm) (ha s1 k _ fun v s2 k2 r2 => hb s2 (k.trans k2) _ fun u s3 k3 r3 => hr v u s3 (by cases (show v = v0 from r2); exact hx s3 ((k.trans k2).trans k3)) r3 Q (q _ s3 (k2.trans k3) rfl)),
   fun s1 k Q q => wt_of (pt_cmpR ho pe_we pe_we hm) (ha s1 k _ fun v s2 k2 r2 => hb s2 (k.trans k2) _ fun u s3 k3 r3 => hr v u s3 (by cases (show v = v0 from r2); exact hx s3 ((k.trans k2).trans k3)) r3 _ ⟨z, rfl, q s3 (k2.trans k3)⟩)⟩
theorem eb_neH [EqD α] [DecidableEq α] {x y : α} {v0 : V} {j : Nat} (hr : Room j X.A) (ha : Ev X a σ s (Rw.mk v0)) (hx : ∀ t, Ex s t → rep X.K t.H v0 x) (hb : Ev X b σ s y) (h1 : shp x) (h2 : shp y) : EvB X (.Compare a [.NotEq] [b] pos) σ s (!decide (x = y)) :=
  eb_cmpH (op_neD (hu64 hr)) ha hx hb (fun v u s2 hv hu Q q => ⟨_, _, EqD.dp hv (Fle.refl _), EqD.dp hu s2.sub, h1, h2, by rw [eqv_dec]; exact q⟩) (nomark _)
theorem eb_eqH [EqD α] [DecidableEq α] {x y : α} {v0 : V} {j : Nat} (hr : Room j X.A) (ha : Ev X a σ s (Rw.mk v0)) (hx : ∀ t, Ex s t → rep X.K t.H v0 x) (hb : Ev X b σ s y) (h1 : shp x) (h2 : shp y) : EvB X (.Compare a [.Eq] [b] pos) σ s (decide (x = y)) :=
  eb_cmpH (op_eqD (hu64 hr)) ha hx hb (fun v u s2 hv hu Q q => ⟨_, _, EqD.dp hv (Fle.refl _), EqD.dp hu s2.sub, h1, h2, by rw [eqv_dec]; exact q⟩) (nomark _)
end
section
variable {X : Cx} {σ : L2.St} {s t : S} {α : Type} [Enc α] {a b o : Expr} {pos : Pos} {l : LL} {xss : List (List α)} {D : Ends} {rest : List Stmt} {p1 p2 p3 : Pos}
theorem rws_len {K : PySem.W.Frag} (h : OwnLL K s l xss) : (rws l.q).length = xss.length := by
  unfold rws
  rw [List.length_map]; exact h.len
theorem do_popLL (ho : Ev X o σ s (Rw.mk (.ref l.p))) (r : OwnLL X.K s l xss) (hne : 0 < xss.length)
    (k : ∀ s1, Mx (· = l.p) s s1 → Own X.K s1 l.p (rws l.q).dropLast → WSs X rest D σ s1.H)
    (hbase : attributeBase o "pop" X.env (eval o X.env) = eval o X.env := by rfl) (hline : (p1.endLine == p2.line) = true := by rfl)
    (hsw : swapsWith (.Call (.Attribute o "pop" p1) [] [] p2) none p3.line X.env = pure false := by rfl) :
    WSs X (.Expr (.Call (.Attribute o "pop" p1) [] [] p2) p3 :: rest) D σ s.H :=
  do_popP ho r.rw (by rw [rws_len r]; exact hne) k hbase hline hsw
theorem do_appendLL {q : Addr} {e : Expr} (ho : Ev X o σ s (Rw.mk (.ref l.p))) (r : OwnLL X.K s l xss) (he : Ev X e σ s (Rw.mk (.ref q))) (hz : xss.length < sizeLine)
    (k : ∀ s1, Mx (· = l.p) s s1 → Own X.K s1 l.p (rws l.q ++ [Rw.mk (.ref q)]) → WSs X rest D σ s1.H)
    (hbase : attributeBase o "append" X.env (eval o X.env) = eval o X.env := by rfl)
    (hfew : ((backTo p2 (starEach [e] X.env)).all (fun x => !x.1) && (backToKw p2 (keywordEach [] X.env)).all (fun x => x.1.isSome) && decide (([e] : List Expr).length + ([] : List Keyword).length + (if ([] : List Keyword).isEmpty then 0 else 1) < 30)) = true := by rfl)
    (hline : (p1.endLine == p2.line) = true := by rfl) (hs : starEach [e] X.env = (false, eval e X.env) :: starEach [] X.env := by rfl) (hplain : (backTo p2 (starEach [] X.env)).any (·.1) = false := by rfl)
    (hsw : swapsWith (.Call (.Attribute o "append" p1) [e] [] p2) none p3.line X.env = pure false := by rfl) :
    WSs X (.Expr (.Call (.Attribute o "append" p1) [e] [] p2) p3 :: rest) D σ s.H :=
  do_appendP ho r.rw he (by rw [rws_len r]; exact hz) k hbase hfew hline hs hplain hsw
end
section
variable {X : Cx} {σ : L2.St} {s t : S} {α : Type} [Enc α] {e : Expr}
theorem eg_LL0 (h : EvN X e σ s ([] : List Rw)) : EvG X e σ s (fun v L' => ∃ l : LL, v = .ref l.p ∧ L' = [oll l ([] : List (List α))]) := fun s1 k Q q =>
  h s1 k _ fun p s2 k2 n o => q _ s2 _ ⟨⟨p, []⟩, rfl, rfl⟩ (iv_ll (l := ⟨p, []⟩) k2 n (by intro a z; cases z) ⟨List.nodup_nil, (by intro z; cases z), o.1, (by intro a z; cases z), own_rws (qs := []) o, rfl, (by intro i q xs a b; simp at a)⟩)
theorem do_appendLLN {l : LL} {xss : List (List α)} {ys : List α} {P0 : Addr → Prop} {s0 : S} {L : List OA} {D : Ends} {rest : List Stmt} {o : Expr} {p1 p2 p3 : Pos} (iv : Iv X.K P0 s0 s L) (j : Nat) (hA : L[j]? = some (Dy.oll l xss)) (ho : Ev X o σ s (Rw.mk (.ref l.p))) (he : EvN X e σ s ys) (hz : xss.length < sizeLine)
    (k : ∀ (q : Addr) s1, Fle s.F s1.F → Iv X.K P0 s0 s1 (L.set j (Dy.oll ⟨l.p, l.q ++ [q]⟩ (xss ++ [ys]))) → WSs X rest D σ s1.H)
    (hbase : attributeBase o "append" X.env (eval o X.env) = eval o X.env := by rfl)
    (hfew : ((backTo p2 (starEach [e] X.env)).all (fun x => !x.1) && (backToKw p2 (keywordEach [] X.env)).all (fun x => x.1.isSome) && decide (([e] : List Expr).length + ([] : List Keyword).length + (if ([] : List Keyword).isEmpty then 0 else 1) < 30)) = true := by rfl)
    (hline : (p1.endLine == p2.line) = true := by rfl) (hs : starEach [e] X.env = (false, eval e X.env) :: starEach [] X.env := by rfl) (hplain : (backTo p2 (starEach [] X.env)).any (·.1) = false := by rfl)
    (hsw : swapsWith (.Call (.Attribute o "append" p1) [e] [] p2) none p3.line X.env = pure false := by rfl) :
    WSs X (.Expr (.Call (.Attribute o "append" p1) [e] [] p2) p3 :: rest) D σ s.H :=
  do_cons (ps_expr (pe_bm PySem.F.plainAttrs_list PySem.F.slot_list_append PySem.F.type_list_append mt_append pe_we (pa_cons pe_we pa_nil hs) hbase hfew hline hs hplain) hsw) (ho s (Ex.refl _) _ fun w s1 k1 e1 => by
    cases (show w = V.ref l.p from e1)
    have r := iv.oll j hA
    have r1 := r.ex k1
    refine ⟨.inl ⟨rfl, _, .inl (.inl r1.hp)⟩, he s1 k1 _ fun q s2 k2 n o => ?_⟩
    have r2 := r1.ex k2
    have hj : j < L.length := (List.getElem?_eq_some_iff.mp hA).1
    refine ⟨l.p, _, .ref q, rfl, rfl, r2.hp, by rw [List.length_map, r.len]; exact hz, ?_⟩
    have iv2 : Iv X.K P0 s0 s2 (L ++ [Dy.ol q ys]) := Iv.add (iv.ex k1) (ev_ivl k2 n o)
    have m : Mx (· = l.p) s2 (s2.put l.p (.lst (l.q.map .ref ++ [.ref q])) r2.fp) := Mx.put r2.fp
    have o2 : Own X.K (s2.put l.p (.lst (l.q.map .ref ++ [.ref q])) r2.fp) l.p (rws l.q ++ [Rw.mk (.ref q)]) := ⟨r2.fp, _, upd_same, (rws_reps l.q).snoc (show rep X.K s2.F (.ref q) (Rw.mk (.ref q)) from rfl)⟩
    have iv3 := iv2.all j L.length m o2 rfl (by omega) (by rw [List.getElem?_append_left hj]; exact hA) (by rw [List.getElem?_append_right (Nat.le_refl _), Nat.sub_self]; rfl)
    have e3 : ((L ++ [Dy.ol q ys]).set j (Dy.oll ⟨l.p, l.q ++ [q]⟩ (xss ++ [ys]))).set L.length top = L.set j (Dy.oll ⟨l.p, l.q ++ [q]⟩ (xss ++ [ys])) ++ [top] := by
      rw [List.set_append_left _ _ hj, List.set_append_right _ _ (by rw [List.length_set]; omega), List.length_set, Nat.sub_self]; rfl
    rw [e3] at iv3
    refine k q _ ((k1.f.trans k2.f).trans m.f) ?_
    refine iv3.sel ((List.range (L.set j (Dy.oll ⟨l.p, l.q ++ [q]⟩ (xss ++ [ys]))).length).map some) ?_ ?_
    · have e1 : ((List.range (L.set j (Dy.oll ⟨l.p, l.q ++ [q]⟩ (xss ++ [ys]))).length).map some).filterMap id = List.range (L.set j (Dy.oll ⟨l.p, l.q ++ [q]⟩ (xss ++ [ys]))).length := by
        rw [List.filterMap_map]
        exact List.filterMap_some
      rw [e1]
      exact List.nodup_range
    · unfold pick
      apply List.ext_getElem?
      intro i
      rw [List.map_map, List.getElem?_map]
      by_cases hi : i < (L.set j (Dy.oll ⟨l.p, l.q ++ [q]⟩ (xss ++ [ys]))).length
      · rw [List.getElem?_range hi]
        simp only [Function.comp, Option.map_some]
        rw [List.getD_eq_getElem?_getD, List.getElem?_append_left hi, List.getElem?_eq_getElem hi]; rfl
      · rw [List.getElem?_eq_none (by rw [List.length_range]; omega), List.getElem?_eq_none (by omega)]; rfl)
end
end Dy

namespace Dy
open PySem PySem.Spec L2
open PyProof.Rows hiding St

section
variable {prog : Program} {w : World} {A : Around} {E : Value → Shared → Prop} {s : Shared}
set_option maxHeartbeats 4000000 in
theorem call_setI {l : Addr} {its : Array Value} {xs : List Int} {Q : Value → Shared → Prop} (hh : A.handled = none) (hl : s.heap.IsList l its) (hi : IntsAre its.toList xs) (hb : xs.length + 1 < scanBound)
    (q : ∀ (h' : Heap) (tk m : Nat), m ≤ xs.length → SetR w h' s.heap.objs.size (fun y => decide (y ∈ xs)) m → (∀ b o, b < s.heap.objs.size → s.heap.get? b = some o → h'.get? b = some o) → Q (.ref s.heap.objs.size) { s with heap := h', toks := tk }) : wpAny (model prog w) A (call (.type "set") [.ref l]) Q E s := by
  obtain ⟨c0, tl0, mro⟩ := PySem.F.called_set.mro; have made := PySem.F.called_set.made; have sub := PySem.F.called_set.sub
  refine wpAny_call (codeAny_of_tree ?_); show wpAny _ _ (callAny (.type "set") _) _ _ _
  refine wpAny_pure ⟨Code.quiet_builtin _ (by decide +kernel), codeAny_builtin PySem.F.entry_type_call ?_⟩; rw [Around.under_plain (weight_type_call_type "set" [.ref l] []) rfl]
  have k1 := PySem.F.called_set.notType; have k2 := PySem.F.called_set.canCreate; have k3 := PySem.F.typeCall_set_1 (.ref l)
  repeat (any_goals (first | assumption | wp_step))
  obtain ⟨led, hled⟩ : ∃ led : Bool, led = !w.params.followText "set-order" := ⟨_, rfl⟩
  refine codeAny_mono (code_set_led1 (.ref l) (E := E) (Q₁ := fun ob t => ob = .ref s.heap.objs.size ∧ t = { s with heap := s.heap.push { cls := .type "set", dict := none, data := .set #[] 0 (.fresh 0 0 led) } }) ⟨rfl, by rw [hled]⟩) fun r t hr => ?_
  rcases r with e | fl
  · exact hr
  cases fl with
  | ret ob =>
    obtain ⟨rfl, rfl⟩ := hr
    obtain ⟨so, hso⟩ : ∃ so : Obj, so = { cls := .type "set", dict := none, data := .set #[] 0 (.fresh 0 0 led) } := ⟨_, rfl⟩
    rw [← hso]
    have gS : (s.heap.push so).get? s.heap.objs.size = some so := Heap.get?_push_size _ (by rw [hso]; rfl)
    have gT : Shared.TypeIs { s with heap := s.heap.push so } (.ref s.heap.objs.size) "set" := ⟨_, gS, by rw [hso]⟩
    have k4 := PySem.F.called_set.init.lookup; have k5 := PySem.F.called_set.init.bind (.ref s.heap.objs.size)
    repeat (any_goals (first | assumption | wp_step))
    refine codeAny_mono (codeAny_call_builtin (R := wants (fun r u => r = .none ∧ ∃ h' tk m, u = { s with heap := h', toks := tk } ∧ m ≤ xs.length ∧ SetR w h' s.heap.objs.size (fun y => decide (y ∈ xs)) m ∧ (∀ b o, b < s.heap.objs.size → s.heap.get? b = some o → h'.get? b = some o)) E) PySem.F.called_set.init.plain PySem.F.entry_set_init (check_set_init_1 gT ?_)) fun r2 u hu => ?_
    · obtain ⟨⟨c1, c2, c3, c4⟩, hol, hcl, nl, hdl⟩ := hl
      simp only at hcl hdl; subst hcl; subst hdl
      have hol2 := Heap.get?_push_of_some so hol
      have hsls := PySem.F.sub_list_set; have hslf := PySem.F.sub_list_frozenset; have hne : (Value.type "list" == Value.type "dict") = false := by decide
      have hl1 : (s.heap.push so).IsList l its := ⟨_, hol2, rfl, nl, rfl⟩
      have ll : l < s.heap.objs.size := Heap.lt_size hol
      unfold Builtin.«set.__init__» noKeywords Builtin.Frozenset.updateFrom
      subst hso
      generalize hPI : pyIter = PI; wp_walk; subst hPI
      refine wpAny_pyIter_list hl1 ?_; refine wpAny_bind (wpAny_runValue ?_)
      have hh3 : A.in1.in1.in1.handled = none := by simp [hh]
      have n1 : l ≠ s.heap.objs.size + 1 := Nat.ne_of_lt (Nat.lt_succ_of_lt ll)
      have n2 : s.heap.objs.size ∉ [s.heap.objs.size + 1, l] := fun z => (List.mem_cons.mp z).elim (fun z => absurd z (Nat.ne_of_lt (Nat.lt_succ_self _))) fun z => absurd (List.mem_singleton.mp z) (Nat.ne_of_gt ll)
      have hz : its.size = xs.length := by rw [← IntsAre.length hi, Array.length_toList]
      have hval : ∀ (i : Nat) (v : Value), its[i]? = some v → ∃ k t, xs[i]? = some k ∧ v = .int k t := fun i v hv => by
        have hi2 : i < xs.length := by rw [← hz]; exact (Array.getElem?_eq_some_iff.mp hv).1
        obtain ⟨t, e⟩ := IntsAre.int_at hi i v (by rw [Array.getElem?_toList]; exact hv)
        exact ⟨xs[i], t, List.getElem?_eq_getElem hi2, by rw [e, List.getD_eq_getElem?_getD, List.getElem?_eq_getElem hi2]; rfl⟩
      rw [← Heap.size_push] at n1 n2
      refine set_update_ints ((Walks.list hh3 _ l n1 its).toS) s.heap.objs.size n2 xs hz hb hval its.size 0 _ (by omega) (Nat.zero_le _) ⟨⟨_, Heap.get?_push_size _ rfl, rfl, rfl⟩, (hl1.push _)⟩ ?h0 ?h1
      case h0 =>
        subst hled
        exact ⟨0, Nat.le_refl _, setR_new_at (Heap.get?_push_of_some _ gS)⟩
      case h1 =>
        rintro ⟨h', g', d', tk', os'⟩ mm hm hmm hS'
        obtain rfl : g' = s.gens := hm.gens
        obtain rfl : d' = s.drawn := hm.drawn
        obtain rfl : os' = s.os := hm.os
        show wpAny _ _ _ _ _ _
        refine wpAny_pure ?_; show wpAny _ _ (ret Value.none) _ _ _
        refine wpAny_pure ⟨rfl, h', tk', mm, rfl, by omega, hS', fun b o lb eb => hm.heap b o ?_ (Heap.get?_push_of_some _ (Heap.get?_push_of_some _ eb))⟩
        exact fun z => (List.mem_cons.mp z).elim (fun z => absurd z (Nat.ne_of_lt lb)) fun z => absurd ((List.mem_singleton.mp z).trans (Heap.size_push _ _)) (Nat.ne_of_lt (Nat.lt_succ_of_lt lb))
    · rcases r2 with e | fl2
      · exact hu
      cases fl2 with
      | ret r =>
        obtain ⟨rfl, h', tk, mm, rfl, hmm, hS', hk'⟩ := hu
        repeat (any_goals (first | assumption | wp_step))
        exact q _ _ _ hmm hS' hk'
      | _ => exact hu.elim
  | _ => exact hr.elim
end
def ssI (xs : List Int) : List Int := xs.eraseDups.mergeSort (fun x y => decide (x ≤ y))
theorem eraseDups_nodup : ∀ (n : Nat) (xs : List Int), xs.length ≤ n → xs.eraseDups.Nodup ∧ ∀ x, x ∈ xs.eraseDups ↔ x ∈ xs
  | 0, xs, h => by
    obtain rfl := List.length_eq_zero_iff.mp (by omega : xs.length = 0)
    exact ⟨by simp, by simp⟩
  | n + 1, [], h => ⟨by simp, by simp⟩
  | n + 1, x :: r, h => by
    have hl : (r.filter fun b => !b == x).length ≤ n := Nat.le_trans (List.length_filter_le _ _) (by simpa using h)
    obtain ⟨h1, h2⟩ := eraseDups_nodup n _ hl
    rw [List.eraseDups_cons]
    refine ⟨List.nodup_cons.mpr ⟨fun z => ?_, h1⟩, fun y => ?_⟩
    · have := (h2 x).mp z
      simp at this
    · rw [List.mem_cons, List.mem_cons, h2, List.mem_filter]
      by_cases e : y = x
      · simp [e]
      · simp [e]
theorem ssI_mem (xs : List Int) (x : Int) : x ∈ ssI xs ↔ x ∈ xs := by
  unfold ssI
  rw [List.mem_mergeSort]
  exact (eraseDups_nodup _ xs (Nat.le_refl _)).2 x
theorem ssI_lt (xs : List Int) : (ssI xs).Pairwise (· < ·) := by
  have h1 := List.pairwise_mergeSort (le := fun x y : Int => decide (x ≤ y)) (fun a b c h1 h2 => by simp at *; omega) (fun a b => by simp; omega) xs.eraseDups
  have h2 : (ssI xs).Nodup := (List.mergeSort_perm _ _).nodup_iff.mpr (eraseDups_nodup _ xs (Nat.le_refl _)).1
  have h3 : (ssI xs).Pairwise (fun a b => decide (a ≤ b) = true) := h1
  exact (List.pairwise_and_iff.mpr ⟨h3, h2⟩).imp fun {a b} ⟨u, v⟩ => by
    have := of_decide_eq_true u
    have v : a ≠ b := v
    omega
theorem lt_ext {xs ys : List Int} (hx : xs.Pairwise (· < ·)) (hy : ys.Pairwise (· < ·)) (h : ∀ x, x ∈ xs ↔ x ∈ ys) : xs = ys := by
  have nd : ∀ {l : List Int}, l.Pairwise (· < ·) → l.Nodup := fun h => h.imp fun {a b} u e => by omega
  have p : xs.Perm ys := (List.perm_ext_iff_of_nodup (nd hx) (nd hy)).mpr h
  exact List.Perm.eq_of_pairwise (le := fun x y : Int => x ≤ y) (fun a b _ _ h h' => Int.le_antisymm h h') (hx.imp fun h => Int.le_of_lt h) (hy.imp fun h => Int.le_of_lt h) p
theorem ssI_eq {xs : List Int} : xs = ssI xs ↔ xs.Pairwise (· < ·) :=
  ⟨fun h => by rw [h]; exact ssI_lt xs, fun h => lt_ext h (ssI_lt xs) fun x => (ssI_mem xs x).symm⟩
section
variable {X : Cx} {a : Expr} {ta : TE} {p p2 q pos : Pos}
def tSst (K : PySem.W.Frag) (ta : TE) : TE := fun σ H Q => ta σ H fun x H1 => ∃ (l : Addr) (xs : List Int), x = .ref l ∧ SqL K H1 l (xs.map V.int) ∧ xs.length ≤ 60 ∧ ∀ c, H1 c = none → Q (.ref c) (upd H1 c (.lst ((ssI xs).map V.int)))
theorem pe_sst (hg : Gl X "sorted") (hm : X.mg "sorted" = none) (hg2 : Gl X "set") (hm2 : X.mg "set" = none) (ha : PE X a ta) (hc : X.calm = true := by rfl)
    (na : starEach [a] X.env = (false, eval a X.env) :: starEach [] X.env := by rfl) : PE X (.Call (.Name "sorted" p) [.Call (.Name "set" p2) [a] [] q] [] pos) (tSst X.K ta) := by
  refine ⟨fun pins s σ H Q I h => ?_⟩
  refine Call_ (ld_blt I hg hm boot_sorted (PyProof.Rows.callWith_builtin1 (PyProof.Rows.args_cons (Call_ (ld_blt I hg2 hm2 boot_set (PyProof.Rows.callWith_type1 (PyProof.Rows.args_cons (thn (ha.run pins s σ H _ I h) fun v s1 ⟨x, H1, I1, r1, l, xs, e, hq, hl, q1⟩ => PyProof.Rows.args_nil ?_) na) na rfl))) rfl) rfl rfl))
  subst e; cases r1
  obtain ⟨its, r, pl, hz⟩ := I1.list hq
  refine call_setI (I1.ok.hd hc) pl.isList (by simpa using RZ.intsAre_vals r) (by unfold scanBound; omega) fun h' tk m hm hS hk => PyProof.Rows.args_nil ?_
  have I2 : Inv X pins σ H1 { s1 with heap := h', toks := tk } := I1.kept fun b o e => hk b o (Heap.lt_size e) e
  refine sorted_set hS (I2.ok.hd hc) (by omega) fun s' c out cc ns kk gg oo hp hgt hi hs hmem hlen => ?_
  have e : ns = ssI xs := lt_ext hs (ssI_lt xs) fun x => by rw [hmem x, ssI_mem, decide_eq_true_iff]
  subst e
  have hn : H1 c = none := I2.hok.fresh hp
  have hl2 : ((ssI xs).map V.int).length ≤ sizeLine := by
    rw [List.length_map, hlen, sizeLine_eq]; omega
  have J : Inv X pins σ (upd H1 c (.lst ((ssI xs).map V.int))) { ({ s1 with heap := h', toks := tk } : Shared) with heap := s'.heap, gens := s'.gens, drawn := s'.drawn, toks := s'.toks } :=
    I2.call (ch := []) (Un.laid kk hp hn) (I2.hok.laid kk hp ⟨hl2, out.toList, cc, vals_of_ints hi, hgt⟩) (by rw [gg]; exact I2.bare) (fun _ z => nomatch z)
  have e2 : s' = { ({ s1 with heap := h', toks := tk } : Shared) with heap := s'.heap, gens := s'.gens, drawn := s'.drawn, toks := s'.toks } := by
    obtain ⟨a1, a2, a3, a4, a5⟩ := s'
    simp only at oo
    rw [oo]
  rw [e2]
  exact ⟨.ref c, _, J, rfl, q1 c hn⟩
variable {σ : L2.St} {s : S}
theorem en_sst {xs : List Int} (hm : X.mg "sorted" = none) (hm2 : X.mg "set" = none) (ha : EvR X a σ s xs) (hz : xs.length ≤ 60) (hc : X.calm = true := by rfl) (hg : Gl X "sorted" := by rfl) (hg2 : Gl X "set" := by rfl) (na : starEach [a] X.env = (false, eval a X.env) :: starEach [] X.env := by rfl) :
    EvN X (.Call (.Name "sorted" p) [.Call (.Name "set" p2) [a] [] q] [] pos) σ s (ssI xs) := fun s1 k Q qq =>
  we_of (pe_sst hg hm hg2 hm2 pe_we hc na) (ha s1 k _ fun v s2 k2 r2 => by
    obtain ⟨p, vs, rfl, h1, h2⟩ := r2
    obtain rfl := h2.flat
    exact ⟨p, xs, rfl, h1, hz, fun c hl => qq c (s2.newO c _ hl) (k2.trans (Ex.newO hl)) (fr_back k2 hl) (own_new hl (Reps.of_flat _))⟩)
end
end Dy

namespace Dy
open PySem PySem.Spec L2
open PyProof.Rows hiding St
open Enc (rep)
section
variable {X : Cx} {α β γ δ ε : Type} [Enc α] [Enc β] [Enc γ] [Enc δ] [Enc ε] {σ : L2.St} {s : S} {a : Expr} {lo hi : Option Expr} {p2 pos : Pos}
theorem ev_sl51 {x : T5 α β γ δ ε} (ha : Ev X a σ s x) (hl : EvO X lo σ s (some 1)) : Ev X (.Subscript a (.Slice lo none none p2) pos) σ s (⟨x.b, x.c, x.d, x.e⟩ : T4 β γ δ ε) := fun s1 k Q q => by
  obtain ⟨tl, pl, ql⟩ := po_evo hl
  obtain ⟨th, ph, qh⟩ := po_evo (eo_none (X := X) (σ := σ) (s := s))
  refine we_of (pe_slice sl_tupA pe_we pl ph) (ha s1 k _ fun v s2 k2 r2 => ql s2 (k.trans k2) _ fun s3 k3 => qh s3 ((k.trans k2).trans k3) _ fun s4 k4 => ?_)
  obtain ⟨p, v1, v2, v3, v4, v5, rfl, h0, _, h2, h3, h4, h5⟩ := Enc.mono (α := T5 α β γ δ ε) (k3.trans k4).f r2
  have kk := (k2.trans k3).trans k4
  refine ⟨p, _, rfl, sqt_mono s4.sub h0, fun hw => ?_, fun _ l hl => q _ (s4.newF l _ hl) (kk.trans (Ex.newF hl)) ⟨l, v2, v3, v4, v5, rfl, tup_new hl, Enc.mono (Ex.newF hl).f h2, Enc.mono (Ex.newF hl).f h3, Enc.mono (Ex.newF hl).f h4, Enc.mono (Ex.newF hl).f h5⟩⟩
  exact absurd hw (show ¬ (HT.sIx 5 0 (some 1) = 0 ∧ HT.sIx 5 5 none = 5) by decide)
end
end Dy

namespace Dy
open PySem PySem.Spec L2
open PyProof.Rows hiding St
open Enc (rep)
def sK (k : Str) (v : Value) : Bool := match v with
  | .str n _ => n == k
  | _ => false
theorem sK_gives {k : Str} {t : Tok} : ∀ {us : List Value} {ys : List Str}, StrsAre us ys → ∀ y ∈ us, MeetsSeq.EqGives y (.str k t) (sK k y)
  | _, _, .nil => fun y hy => nomatch hy
  | _, _, .cons n t' h => fun y hy => (List.mem_cons.mp hy).elim (fun e => by rw [e]; exact eqGives_str n k t' t) (sK_gives h y)
theorem strs_count {k : Str} : ∀ {us : List Value} {ys : List Str}, StrsAre us ys → us.countP (sK k) = ys.count k
  | _, _, .nil => rfl
  | _, _, .cons n t h => by
    have ih := strs_count (k := k) h
    rw [List.countP_cons, List.count_cons, ih]; rfl
section
variable {X : Cx} {a b e e' : Expr} {σ : L2.St} {s : S} {pos p0 p1 : Pos}
def rCntS (K : PySem.W.Frag) : V → List V → Hp → VK → Prop := fun x xs H Q => ∃ (p : Addr) (ys : List Str) (k : Str), x = .ref p ∧ xs = [.str k] ∧ SqL K H p (ys.map V.str) ∧ Q (.int (ys.count k : Nat)) H
theorem mt_lcountS : MtR X "list.count" (rCntS X.K) := by
  rintro pins s σ H x xs v us Q I rx rxs ⟨p, ys, k, rfl, rfl, hs, q⟩
  cases rx
  obtain ⟨u, rfl, t, rfl⟩ := rxs.one
  obtain ⟨its, rv, ⟨⟨cl, dd, dt, sl⟩, n, ho, hc, _, hd⟩, _⟩ := I.list hs
  dsimp only at hc hd
  subst hc; subst hd
  have hi := strsAre_of rv
  have ec : its.toArray.toList.countP (sK k) = ys.count k := strs_count hi
  refine call_meets PySem.F.slot_list_count ⟨_, ho, rfl⟩ PySem.F.entry_list_count (PySem.F.args_list_count_2 _ _) (SeqAt.list_countAt p its.toArray n dd sl (.str k t) (sK k)) ⟨ho, fun y hy => (sK_gives hi y (by simpa using hy)).at _ _, .int (ys.count k : Nat), H, I.tok _, ⟨s.toks, ?_⟩, q⟩
  rw [ec]
theorem ev_countS {xs : List Str} {x : Str} (ha : EvR X a σ s xs) (hb : Ev X b σ s x)
    (hbase : attributeBase a "count" X.env (eval a X.env) = eval a X.env := by rfl)
    (hfew : ((backTo pos (starEach [b] X.env)).all (fun x => !x.1) && (backToKw pos (keywordEach [] X.env)).all (fun x => x.1.isSome) && decide (([b] : List Expr).length + ([] : List Keyword).length + (if ([] : List Keyword).isEmpty then 0 else 1) < 30)) = true := by rfl)
    (hline : (p1.endLine == pos.line) = true := by rfl) (hs : starEach [b] X.env = (false, eval b X.env) :: starEach [] X.env := by rfl) (hplain : (backTo pos (starEach [] X.env)).any (·.1) = false := by rfl) :
    Ev X (.Call (.Attribute a "count" p1) [b] [] pos) σ s ((xs.count x : Nat) : Int) := fun s1 k Q q =>
  we_of (pe_bm PySem.F.plainAttrs_list PySem.F.slot_list_count PySem.F.type_list_count mt_lcountS pe_we (pa_cons pe_we pa_nil hs) hbase hfew hline hs hplain) (ha s1 k _ fun v s2 k2 r2 => by
    obtain ⟨p, vs, rfl, h1, h2⟩ := r2
    obtain rfl := h2.flat
    refine ⟨.inl ⟨rfl, _, h1⟩, hb s2 (k.trans k2) _ fun u s3 k3 r3 => ?_⟩
    cases (show u = V.str x from r3)
    exact ⟨p, xs, x, rfl, rfl, sql_mono k3.h h1, q _ s3 (k2.trans k3) rfl⟩)
theorem do_appPopI {α : Type} [Enc α] {D : Ends} {rest : List Stmt} {p2 p3 p4 p5 : Pos} (i l : Nat) {p q : Addr} {n m : Str} {xs ys zs : List α} {z : Int} {y : α} {py : Pos} (hσ : σ[i]? = some (some (.ref p))) (hσ2 : σ[l]? = some (some (.ref q))) (hpq : q ≠ p) (o : Own X.K s p xs) (o2 : Own X.K s q zs) (hz : zs.length < sizeLine) (he : Ev X e σ s z) (hj : popAt xs z = some (y, ys))
    (k : ∀ s1 s2, Mx (· = p) s s1 → Own X.K s1 p ys → Mx (· = q) s1 s2 → Own X.K s2 q (zs ++ [y]) → WSs X rest D σ s2.H)
    (hN : X.N[i]? = some n := by rfl) (hv : Vis X.env.scope n := by first | exact Or.inl rfl | exact Or.inr (Or.inl rfl) | exact Or.inr (Or.inr rfl)) (hd : (n == ("__debug__" : Str)) = false := by decide) (hcd : (n == ("__classdict__" : Str)) = false := by decide)
    (hbase : attributeBase (.Name n p0) "pop" X.env (eval (.Name n p0) X.env) = eval (.Name n p0) X.env := by rfl)
    (hfew : ((backTo p2 (starEach [e] X.env)).all (fun x => !x.1) && (backToKw p2 (keywordEach [] X.env)).all (fun x => x.1.isSome) && decide (([e] : List Expr).length + ([] : List Keyword).length + (if ([] : List Keyword).isEmpty then 0 else 1) < 30)) = true := by rfl)
    (hline : (p1.endLine == p2.line) = true := by rfl) (hs : starEach [e] X.env = (false, eval e X.env) :: starEach [] X.env := by rfl) (hplain : (backTo p2 (starEach [] X.env)).any (·.1) = false := by rfl)
    (hN2 : X.N[l]? = some m := by rfl) (hv2 : Vis X.env.scope m := by first | exact Or.inl rfl | exact Or.inr (Or.inl rfl) | exact Or.inr (Or.inr rfl)) (hd2 : (m == ("__debug__" : Str)) = false := by decide) (hcd2 : (m == ("__classdict__" : Str)) = false := by decide)
    (hbase2 : attributeBase (.Name m py) "append" X.env (eval (.Name m py) X.env) = eval (.Name m py) X.env := by rfl)
    (hfew2 : ((backTo p4 (starEach [.Call (.Attribute (.Name n p0) "pop" p1) [e] [] p2] X.env)).all (fun x => !x.1) && (backToKw p4 (keywordEach [] X.env)).all (fun x => x.1.isSome) && decide (([.Call (.Attribute (.Name n p0) "pop" p1) [e] [] p2] : List Expr).length + ([] : List Keyword).length + (if ([] : List Keyword).isEmpty then 0 else 1) < 30)) = true := by rfl)
    (hline2 : (p3.endLine == p4.line) = true := by rfl) (hs2 : starEach [.Call (.Attribute (.Name n p0) "pop" p1) [e] [] p2] X.env = (false, eval (.Call (.Attribute (.Name n p0) "pop" p1) [e] [] p2) X.env) :: starEach [] X.env := by rfl) (hplain2 : (backTo p4 (starEach [] X.env)).any (·.1) = false := by rfl)
    (hsw : swapsWith (.Call (.Attribute (.Name m py) "append" p3) [.Call (.Attribute (.Name n p0) "pop" p1) [e] [] p2] [] p4) none p5.line X.env = pure false := by rfl) :
    WSs X (.Expr (.Call (.Attribute (.Name m py) "append" p3) [.Call (.Attribute (.Name n p0) "pop" p1) [e] [] p2] [] p4) p5 :: rest) D σ s.H := by
  obtain ⟨j, h1, h2, rfl⟩ := popAt_some hj
  refine do_cons (ps_expr (pe_bm PySem.F.plainAttrs_list PySem.F.slot_list_append PySem.F.type_list_append mt_append (pe_var hN2 hv2 hd2 hcd2) (pa_cons pe_we pa_nil hs2) hbase2 hfew2 hline2 hs2 hplain2) hsw) ?_
  obtain ⟨g1, vs, g2, g3⟩ := id o2
  refine ⟨_, hσ2, .inl ⟨rfl, vs, .inl (.inl g2)⟩, we_pop i hσ o he h1 h2 (fun v s1 m1 o1 r1 => ?_) hN hv hd hcd hbase hfew hline hs hplain⟩
  obtain ⟨f1, ws, f2, f3⟩ := o2.mx m1 hpq
  refine ⟨q, ws, v, rfl, rfl, f2, by rw [f3.len]; exact hz, ?_⟩
  exact k s1 (s1.put q (.lst (ws ++ [v])) f1) m1 o1 (Mx.put f1) ⟨f1, _, upd_same, f3.snoc r1⟩
theorem ev_joinT {x : Str} {ys : Tu Str} (ha : Ev X a σ s x) (hb : Ev X b σ s ys) (h : JnOk x ys.l) (hs : starEach [b] X.env = [(false, eval b X.env)] := by rfl) (hbase : attributeBase a "join" X.env (eval a X.env) = eval a X.env := by rfl) (hline : (p1.endLine == pos.line) = true := by rfl) :
    Ev X (.Call (.Attribute a "join" p1) [b] [] pos) σ s (Txt.join x ys.l) := fun s1 k Q q =>
  we_of (pe_join pe_we pe_we hs hbase hline) (ha s1 k _ fun v s2 k2 r2 => ⟨⟨x, r2⟩, hb s2 (k.trans k2) _ fun u s3 k3 r3 => by
    obtain ⟨p, vs, rfl, h1, h2⟩ := r3
    obtain rfl := h2.flat
    exact ⟨x, p, ys.l, r2, rfl, .inr (sqt_mono s3.sub h1), h, q _ s3 (k2.trans k3) rfl⟩⟩)
def anN : An → Bool
  | .o none => true
  | _ => false
theorem eb_isNA {x : An} {j} (ha : Ev X a σ s x) : EvB X (.Compare a [.Is] [.Constant .none j p1] pos) σ s (anN x) := by
  cases x with
  | b z => exact eb_isN (x := some z) (ev_some (show Ev X a σ s z from ha))
  | i z => exact eb_isN (x := some z) (ev_some (show Ev X a σ s z from ha))
  | o z =>
    have h := eb_isN (j := j) (p1 := p1) (pos := pos) (show Ev X a σ s z from ha)
    cases z <;> exact h
  | s z => exact eb_isN (x := some z) (ev_some (show Ev X a σ s z from ha))
  | l z => exact eb_isN (x := some z) (ev_some (show Ev X a σ s z from ha))
  | ls z => exact eb_isN (x := some z) (ev_some (show Ev X a σ s z from ha))
  | ts z => exact eb_isN (x := some z) (ev_some (show Ev X a σ s z from ha))
instance : Ty An := ⟨fun x => match x with
  | .b _ => "bool"
  | .i _ => "int"
  | .o none => "NoneType"
  | .o (some _) => "int"
  | .s _ => "str"
  | .l _ => "list"
  | .ls _ => "list"
  | .ts _ => "tuple", fun {K F H v x} h f => by
  cases x with
  | b x => exact Ty.is (α := Bool) h f
  | i x => exact Ty.is (α := Int) h f
  | o x => cases x with
    | none => exact Ty.is (α := Option Int) (x := none) h f
    | some z => exact Ty.is (α := Option Int) (x := some z) h f
  | s x => exact Ty.is (α := Str) h f
  | l x => exact Ty.is (α := List Int) h f
  | ls x => exact Ty.is (α := List Str) h f
  | ts x => exact Ty.is (α := Tu Str) h f⟩
def anT : An → Bool
  | .ts _ => true
  | _ => false
theorem kit_anT (x : An) : kitB (Ty.ty x) "tuple" = some (anT x) := by
  cases x with
  | b x => show kitB "bool" "tuple" = some false; decide +kernel
  | i x => show kitB "int" "tuple" = some false; decide +kernel
  | o x => cases x with
    | none => show kitB "NoneType" "tuple" = some false; decide +kernel
    | some z => show kitB "int" "tuple" = some false; decide +kernel
  | s x => show kitB "str" "tuple" = some false; decide +kernel
  | l x => show kitB "list" "tuple" = some false; decide +kernel
  | ls x => show kitB "list" "tuple" = some false; decide +kernel
  | ts x => show kitB "tuple" "tuple" = some true; decide +kernel
def anSq (x : An) (f : List Int → Option Bool) (g : Tu Str → Option Bool) : Option Bool := match x with
  | .l xs => f xs
  | .ts t => g t
  | _ => none
theorem eb_anSq {x : An} {b : Bool} {f : List Int → Option Bool} {g : Tu Str → Option Bool} (h : anSq x f g = some b) (ha : Ev X e σ s x) (hl : ∀ xs : List Int, Ev X e σ s xs → f xs = some b → EvB X e' σ s b) (ht : ∀ t : Tu Str, Ev X e σ s t → g t = some b → EvB X e' σ s b) : EvB X e' σ s b := by
  cases x with
  | l xs => exact hl xs ha h
  | ts t => exact ht t ha h
  | _ => cases h
end
section
variable {α β : Type} [Enc α] [Enc β] {K : PySem.W.Frag} {P0 : Addr → Prop} {s0 s : S} {L : List OA} {p q : Addr} {xs : List α} {ys : List β}
theorem Iv.ne (h : Iv K P0 s0 s L) (i j : Nat) (e1 : L[i]? = some (Dy.ol q ys) := by rfl) (e2 : L[j]? = some (Dy.ol p xs) := by rfl) (hij : i ≠ j := by decide) : q ≠ p := by
  obtain ⟨φ, h1, h2, _⟩ := h.o
  intro e
  exact hij (h2 i j q (((h1 i _ e1).1 q).mpr rfl) (((h1 j _ e2).1 q).mpr e))
end
end Dy

set_option maxHeartbeats 4000000
namespace K71
open PySem PySem.Spec L2 Dy
open PyProof.Rows hiding St
open Enc (rep)
open Flat (toV)
open EncA (repA)
def topS (i : Nat) : Stmt := PySem.Challenge.pw_deskpairs_k71_orders_instruments_breaks.main.body.getD i (.Pass ⟨0, 0, 0, 0⟩)
def clsS (i j : Nat) : Stmt := match PySem.Challenge.pw_deskpairs_k71_orders_instruments_breaks.main.body.getD i (.Pass ⟨0, 0, 0, 0⟩) with | .ClassDef _ _ _ body _ _ _ _ _ _ _ => body.getD j (.Pass ⟨0, 0, 0, 0⟩) | _ => .Pass ⟨0, 0, 0, 0⟩
def c_LETTERS : Str := ("abcdefghijklmnopqrstuvwxyz" : Str)
def c_FIGURES : Str := ("0123456789" : Str)
def tab : ETab := ⟨["NoText", "NoOrder"], [], [(("NoText", "NoBars"), false), (("NoText", "NoCall"), false), (("NoText", "NoInstrument"), false), (("NoText", "NoName"), false), (("NoText", "NoOrder"), false), (("NoText", "NoPlace"), false), (("NoText", "NoText"), true), (("NoText", "Twice"), false), (("NoText", "ValueError"), true), (("NoOrder", "NoBars"), false), (("NoOrder", "NoCall"), false), (("NoOrder", "NoInstrument"), false), (("NoOrder", "NoName"), false), (("NoOrder", "NoOrder"), true), (("NoOrder", "NoPlace"), false), (("NoOrder", "NoText"), false), (("NoOrder", "Twice"), false), (("NoOrder", "ValueError"), true)], [(("NoText", "NoOrder"), false), (("NoText", "PairsError"), true), (("NoOrder", "NoOrder"), true), (("NoOrder", "PairsError"), true)]⟩
abbrev s_l_order : Stmt := topS 31
abbrev N_l_order : List Str := ["_law_x", "_law_many", "_law_left", "_law_order_here", "_law_k"]
theorem sc_l_order : FnScope N_l_order ["_law_x", "_law_many"] (defScope s_l_order) := ⟨rfl, rfl, rfl, by decide +kernel, rfl, by decide +kernel, by decide +kernel⟩
noncomputable def m_l_order (x1 : Int) (many4 : Int) : Option (List Int) :=
 (chk (RgOk 0 many4) (lt ((rng 0 many4) : (List Int)) fun left9 =>
 (lt (([] : List Int) : (List Int)) fun order_here17 =>
 (chk (RgB many4) (bnd (foldO (fun (b28 : ((List Int) × (List Int) × Int)) (x30 : Int) =>
 (chk (0 < ((b28.2.1).length : Int)) (bnd (popAt b28.2.1 (b28.2.2 % ((b28.2.1).length : Int))) fun pp53 => (chk ((b28.1).length < sizeLine) (lt ((b28.1 ++ [pp53.1]) : (List Int)) fun ls61 =>
 (chk (DivOk (((pp53.2).length : Int) + (1 : Int))) (lt ((b28.2.2 / (((pp53.2).length : Int) + (1 : Int))) : Int) fun x70 =>
 (some (ls61, pp53.2, x70))))))))) (order_here17, left9, x1) (rng 0 many4)) fun o26 =>
 (some o26.1))))))
noncomputable abbrev a_l_order : Int × Int × Unit → Option (List Int) := fun a => m_l_order a.1 a.2.1
theorem ok_l_order {P : Program} {w : World} {K : PySem.W.Frag} {mg : Str → Option Value} {base : Heap} {f : Addr} {fd : FuncData} (F : FunP K "_law_order" s_l_order f fd) (hmg : mg "_law_order" = some (.ref f)) (z_list : mg "list" = none) (z_range : mg "range" = none) (z_len : mg "len" = none) : Cal P w K mg base CX0 1 "_law_order" (spN K a_l_order) := by
  refine mk_calN (k := 0) F hmg (F.bindsN fun _ _ _ _ _ _ us hl => match us, hl with | [_, _], _ => rfl) sc_l_order len2 ?_
  rintro cdv A' outer sh0 H0 X0 hr s0 vs ⟨x1, many4, _⟩ r0 Q ⟨v2, _, rfl, r3, v5, _, rfl, r6, rfl⟩ hm hQ
  unfold a_l_order m_l_order at hm
  dsimp only at hm
  have iv7 : Iv K (fun _ => False) s0 s0 [fz v2 (x1 : Int), fz v5 (many4 : Int), top, top, top] := (Iv.sf (Iv.sf (Iv.tops (K := K) (P0 := (fun _ => False)) 5 s0) 0 (Ex.refl s0) r3 rfl) 1 (Ex.refl s0) r6 rfl)
  obtain ⟨hc8, hm⟩ := chkE hm
  refine do_setN 2 (en_listRg1 z_list z_range (ev_var 1 rfl (Iv.fz (x := (many4 : Int)) iv7 1)) hc8) (fun p13 s11 e12 n14 o15 => ?_) sc_l_order.nd
  obtain ⟨left9, q10, hm⟩ := ltE hm
  have iv16 := Iv.sl iv7 2 e12 n14 o15 q10
  refine do_setN 3 (en_list (xs := ([] : List Int)) ee_nil (by simp [sizeLine])) (fun p21 s19 e20 n22 o23 => ?_) sc_l_order.nd
  obtain ⟨order_here17, q18, hm⟩ := ltE hm
  have iv24 := Iv.sl iv16 3 e20 n22 o23 q18
  obtain ⟨hc25, hm⟩ := chkE hm
  obtain ⟨o26, ho27, hm⟩ := bndE hm
  refine do_forO (υ := ((List Int) × (List Int) × Int)) PassesOwn.never rfl (ei_range1 z_range (ev_var 1 rfl (Iv.fz (x := (many4 : Int)) iv24 1)) hc25) (pg_name (i := 4) sc_l_order.nd rfl (by first | exact Or.inl rfl | exact Or.inr rfl)) tg_n ho27 (fun (b28 : ((List Int) × (List Int) × Int)) (σ' : L2.St) (t' : S) => ∃ (v_x : V) (y_k : Option V), σ' = [some v_x, some v5, some (.ref p13), some (.ref p21), y_k] ∧ Iv K (fun _ => False) s0 t' [fz v_x (b28.2.2 : Int), fz v5 (many4 : Int), ol p13 (b28.2.1 : (List Int)), ol p21 (b28.1 : (List Int)), top]) (fun s84 k85 => by have iv86 := Iv.ex iv24 k85; exact ⟨v2, _, rfl, Iv.sel iv86 [some 0, some 1, some 2, some 3, none] (by decide +kernel) (by kernel_rfl)⟩) (fun s31 k32 x30 b28 b29 σ41 σ42 t39 t40 hx33 hm34 fl35 hR36 k37 hB38 => ?_) (fun s78 k79 σ80 t81 fl82 hR83 => ?_)
  · have hf43 := Fle.trans k32.f fl35
    obtain ⟨v44, y45, rfl, iv46⟩ := hR36
    obtain ⟨v47, r48, rfl⟩ := hB38
    have iv49 := Iv.ex iv46 k37
    have iv50 := Iv.sf iv49 4 (Ex.refl t40) r48 rfl
    have fl51 := Fle.trans (Fle.refl t40.F) (Ex.refl t40).f
    obtain ⟨hc52, hm34⟩ := chkE hm34
    obtain ⟨pp53, h_pp53, hm34⟩ := bndE hm34
    obtain ⟨hc54, hm34⟩ := chkE hm34
    refine do_appPopI 2 3 rfl rfl (Iv.ne iv50 3 2) (Iv.ol (xs := (b28.2.1 : (List Int))) iv50 2) (Iv.ol (xs := (b28.1 : (List Int))) iv50 3) hc54 (ev_mod (ev_var 0 rfl (Iv.fz (x := (b28.2.2 : Int)) iv50 0)) (ev_len z_len (er_raw (xs := (b28.2.1 : (List Int))) (raw_var 2 rfl) (Own.r (Iv.ol (xs := (b28.2.1 : (List Int))) iv50 2)))) hc52) h_pp53 (fun s55 s56 m57 o59 m58 o60 => ?_)
    obtain ⟨ls61, q62, hm34⟩ := ltE hm34
    have iv65 := Iv.ml iv50 2 m57 o59 rfl
    have fl66 := Fle.trans (Fle.refl t40.F) m57.f
    have iv67 := Iv.ml iv65 3 m58 o60 q62
    have fl68 := Fle.trans fl66 m58.f
    obtain ⟨hc69, hm34⟩ := chkE hm34
    refine do_set 0 (ev_div (ev_var 0 rfl (Iv.fz (x := (b28.2.2 : Int)) iv67 0)) (ev_add (ev_len z_len (er_raw (xs := (pp53.2 : (List Int))) (raw_var 2 rfl) (Own.r (Iv.ol (xs := (pp53.2 : (List Int))) iv67 2)))) ev_int) hc69) (fun v74 s72 e73 r75 => ?_) sc_l_order.nd
    obtain ⟨x70, q71, hm34⟩ := ltE hm34
    have iv76 := Iv.sf iv67 0 e73 r75 q71
    have fl77 := Fle.trans fl68 e73.f
    obtain rfl := Option.some.inj hm34
    exact do_nil ⟨s72, rfl, fl77, ⟨v74, _, rfl, Iv.sel iv76 [some 0, some 1, some 2, some 3, none] (by decide +kernel) (by kernel_rfl)⟩⟩
  · have hf87 := Fle.trans k79.f fl82
    obtain ⟨v88, y89, rfl, iv90⟩ := hR83
    obtain rfl := Option.some.inj hm
    exact do_retO 3 rfl (hQ _ _ (Iv.exx iv90) (Iv.fresh iv90 3) (Iv.ol (xs := (o26.1 : (List Int))) iv90 3))
abbrev s_l_names : Stmt := topS 30
abbrev N_l_names : List Str := ["_law_x", "_law_letters", "_law_one", "_law_other", "_law_size", "_law_at", "_law_start", "_law_k"]
theorem sc_l_names : FnScope N_l_names ["_law_x"] (defScope s_l_names) := ⟨rfl, rfl, rfl, by decide +kernel, rfl, by decide +kernel, by decide +kernel⟩
noncomputable def m_l_names (x91 : Int) : Option (List Str) :=
 (lt (("abcdefghijklmnopqrstuvwxyz" : Str) : Str) fun letters95 =>
 (bnd (sgn letters95 (x91 % (26 : Int))) fun at102 => (lt (at102 : Str) fun one103 =>
 (bnd (sgn letters95 (((x91 + (1 : Int)) + ((x91 / (26 : Int)) % (25 : Int))) % (26 : Int))) fun at110 => (lt (at110 : Str) fun other111 =>
 (if (decide (((x91 / (650 : Int)) % (2 : Int)) = (0 : Int))) = true then
 (bnd (mapO (fun (x123 : Int) => (chk (RepS one103 ((1 : Int) + (x123 % (5 : Int)))) (chk (RepS other111 (x123 / (5 : Int))) (chk (((replS one103 ((1 : Int) + (x123 % (5 : Int))))).length + ((replS other111 (x123 / (5 : Int)))).length ≤ sizeLine) (some ((replS one103 ((1 : Int) + (x123 % (5 : Int)))) ++ (replS other111 (x123 / (5 : Int))))))))) (rng 0 (12 : Int))) fun ys138 => (chk ((ys138).length ≤ sizeLine) (some ys138)))
 else
 (lt (((1 : Int) + ((x91 / (1300 : Int)) % (10 : Int))) : Int) fun size149 =>
 (chk (0 < size149) (lt (((x91 / (13000 : Int)) % size149) : Int) fun at157 =>
 (lt ((x91 / (130000 : Int)) : Int) fun start164 =>
 (bnd (mapO (fun (x171 : Int) => (chk (RepS one103 at157) (bnd (sgn letters95 ((start164 + x171) % (26 : Int))) fun at187 => (chk (((replS one103 at157)).length + (at187).length ≤ sizeLine) (chk (RepS one103 ((size149 - (1 : Int)) - at157)) (chk ((((replS one103 at157) ++ at187)).length + ((replS one103 ((size149 - (1 : Int)) - at157))).length ≤ sizeLine) (some (((replS one103 at157) ++ at187) ++ (replS one103 ((size149 - (1 : Int)) - at157)))))))))) (rng 0 (12 : Int))) fun ys191 => (chk ((ys191).length ≤ sizeLine) (some ys191)))))))))))))
noncomputable abbrev a_l_names : Int × Unit → Option (List Str) := fun a => m_l_names a.1
theorem ok_l_names {P : Program} {w : World} {K : PySem.W.Frag} {mg : Str → Option Value} {base : Heap} {f : Addr} {fd : FuncData} (F : FunP K "_law_names" s_l_names f fd) (hmg : mg "_law_names" = some (.ref f)) (z_range : mg "range" = none) : Cal P w K mg base CX0 1 "_law_names" (sp K a_l_names) := by
  refine mk_cal (k := 0) F hmg (F.bindsN fun _ _ _ _ _ _ us hl => match us, hl with | [_], _ => rfl) sc_l_names len1 ?_
  rintro cdv A' outer sh0 H0 X0 hr s0 vs ⟨x91, _⟩ r0 Q ⟨v92, _, rfl, r93, rfl⟩ hm hQ
  unfold a_l_names m_l_names at hm
  dsimp only at hm
  have iv94 : Iv K (fun _ => False) s0 s0 [fz v92 (x91 : Int), top, top, top, top, top, top, top] := (Iv.sf (Iv.tops (K := K) (P0 := (fun _ => False)) 8 s0) 0 (Ex.refl s0) r93 rfl)
  refine do_set 1 ev_str (fun v99 s97 e98 r100 => ?_) sc_l_names.nd
  obtain ⟨letters95, q96, hm⟩ := ltE hm
  have iv101 := Iv.sf iv94 1 e98 r100 q96
  obtain ⟨at102, h_at102, hm⟩ := bndE hm
  refine do_set 2 (ev_ixS (ev_var 1 rfl (Iv.fz (x := (letters95 : Str)) iv101 1)) (ev_mod (ev_var 0 rfl (Iv.fz (x := (x91 : Int)) iv101 0)) ev_int (by decide)) h_at102) (fun v107 s105 e106 r108 => ?_) sc_l_names.nd
  obtain ⟨one103, q104, hm⟩ := ltE hm
  have iv109 := Iv.sf iv101 2 e106 r108 q104
  obtain ⟨at110, h_at110, hm⟩ := bndE hm
  refine do_set 3 (ev_ixS (ev_var 1 rfl (Iv.fz (x := (letters95 : Str)) iv109 1)) (ev_mod (ev_add (ev_add (ev_var 0 rfl (Iv.fz (x := (x91 : Int)) iv109 0)) ev_int) (ev_mod (ev_div (ev_var 0 rfl (Iv.fz (x := (x91 : Int)) iv109 0)) ev_int ⟨by decide, by decide +kernel⟩) ev_int (by decide))) ev_int (by decide)) h_at110) (fun v115 s113 e114 r116 => ?_) sc_l_names.nd
  obtain ⟨other111, q112, hm⟩ := ltE hm
  have iv117 := Iv.sf iv109 3 e114 r116 q112
  refine do_ifR (EvB.t (eb_eq (ev_mod (ev_div (ev_var 0 rfl (Iv.fz (x := (x91 : Int)) iv117 0)) ev_int ⟨by decide, by decide +kernel⟩) ev_int (by decide)) ev_int)) (fun hb118 s119 e120 => ?_) (fun hb144 s145 e146 => ?_)
  · have hm121 := iteE1 hm hb118
    have iv122 := Iv.ex iv117 e120
    obtain ⟨ys138, h_ys138, hm121⟩ := bndE hm121
    obtain ⟨hc139, hm121⟩ := chkE hm121
    obtain rfl := Option.some.inj hm121
    exact do_ret (EvN.ev (EvL.n (en_comp0 (own := [("_law_k", 7)]) (j := 7) (f := fun (x123 : Int) => (chk (RepS one103 ((1 : Int) + (x123 % (5 : Int)))) (chk (RepS other111 (x123 / (5 : Int))) (chk (((replS one103 ((1 : Int) + (x123 % (5 : Int))))).length + ((replS other111 (x123 / (5 : Int)))).length ≤ sizeLine) (some ((replS one103 ((1 : Int) + (x123 % (5 : Int)))) ++ (replS other111 (x123 / (5 : Int))))))))) rfl sc_l_names.nd (ei_range1 z_range ev_int ⟨by omega, by omega⟩) (blkOk_by (own := [("_law_k", 7)]) (N := N_l_names) (sc := defScope s_l_names) (by decide +kernel)) rfl (by decide) (fun _ _ _ _ _ => pg_name (i := 7) sc_l_names.nd rfl (by first | exact Or.inl rfl | exact Or.inr rfl)) h_ys138 hc139 (fun x123 y124 v133 s125 hx127 e126 r134 hf128 _ _ _ _ _ => by have z131 := Enc.mono e126.f (Iv.fz (v := v107) (x := (one103 : Str)) iv122 2); have z132 := Enc.mono e126.f (Iv.fz (v := v115) (x := (other111 : Str)) iv122 3); obtain ⟨hc135, hf128⟩ := chkE hf128; obtain ⟨hc136, hf128⟩ := chkE hf128; obtain ⟨hc137, hf128⟩ := chkE hf128; obtain rfl := Option.some.inj hf128; exact (ev_adds (ev_repS (ev_var 2 rfl z131) (ev_add ev_int (ev_mod (ev_var 7 rfl r134) ev_int (by decide))) hc135) (ev_repS (ev_var 3 rfl z132) (ev_div (ev_var 7 rfl r134) ev_int ⟨by decide, by decide +kernel⟩) hc136) hc137))))) fun v140 s141 e142 r143 => hQ _ _ (Ex.trans (Iv.exx iv122) e142) r143
  · have hm147 := iteE2 hm hb144
    have iv148 := Iv.ex iv117 e146
    refine do_set 4 (ev_add ev_int (ev_mod (ev_div (ev_var 0 rfl (Iv.fz (x := (x91 : Int)) iv148 0)) ev_int ⟨by decide, by decide +kernel⟩) ev_int (by decide))) (fun v153 s151 e152 r154 => ?_) sc_l_names.nd
    obtain ⟨size149, q150, hm147⟩ := ltE hm147
    have iv155 := Iv.sf iv148 4 e152 r154 q150
    obtain ⟨hc156, hm147⟩ := chkE hm147
    refine do_set 5 (ev_mod (ev_div (ev_var 0 rfl (Iv.fz (x := (x91 : Int)) iv155 0)) ev_int ⟨by decide, by decide +kernel⟩) (ev_var 4 rfl (Iv.fz (x := (size149 : Int)) iv155 4)) hc156) (fun v161 s159 e160 r162 => ?_) sc_l_names.nd
    obtain ⟨at157, q158, hm147⟩ := ltE hm147
    have iv163 := Iv.sf iv155 5 e160 r162 q158
    refine do_set 6 (ev_div (ev_var 0 rfl (Iv.fz (x := (x91 : Int)) iv163 0)) ev_int ⟨by decide, by decide +kernel⟩) (fun v168 s166 e167 r169 => ?_) sc_l_names.nd
    obtain ⟨start164, q165, hm147⟩ := ltE hm147
    have iv170 := Iv.sf iv163 6 e167 r169 q165
    obtain ⟨ys191, h_ys191, hm147⟩ := bndE hm147
    obtain ⟨hc192, hm147⟩ := chkE hm147
    obtain rfl := Option.some.inj hm147
    exact do_ret (EvN.ev (EvL.n (en_comp0 (own := [("_law_k", 7)]) (j := 7) (f := fun (x171 : Int) => (chk (RepS one103 at157) (bnd (sgn letters95 ((start164 + x171) % (26 : Int))) fun at187 => (chk (((replS one103 at157)).length + (at187).length ≤ sizeLine) (chk (RepS one103 ((size149 - (1 : Int)) - at157)) (chk ((((replS one103 at157) ++ at187)).length + ((replS one103 ((size149 - (1 : Int)) - at157))).length ≤ sizeLine) (some (((replS one103 at157) ++ at187) ++ (replS one103 ((size149 - (1 : Int)) - at157)))))))))) rfl sc_l_names.nd (ei_range1 z_range ev_int ⟨by omega, by omega⟩) (blkOk_by (own := [("_law_k", 7)]) (N := N_l_names) (sc := defScope s_l_names) (by decide +kernel)) rfl (by decide) (fun _ _ _ _ _ => pg_name (i := 7) sc_l_names.nd rfl (by first | exact Or.inl rfl | exact Or.inr rfl)) h_ys191 hc192 (fun x171 y172 v184 s173 hx175 e174 r185 hf176 _ _ _ _ _ => by have z178 := Enc.mono e174.f (Iv.fz (v := v99) (x := (letters95 : Str)) iv170 1); have z179 := Enc.mono e174.f (Iv.fz (v := v107) (x := (one103 : Str)) iv170 2); have z181 := Enc.mono e174.f (Iv.fz (v := v153) (x := (size149 : Int)) iv170 4); have z182 := Enc.mono e174.f (Iv.fz (v := v161) (x := (at157 : Int)) iv170 5); have z183 := Enc.mono e174.f (Iv.fz (v := v168) (x := (start164 : Int)) iv170 6); obtain ⟨hc186, hf176⟩ := chkE hf176; obtain ⟨at187, h_at187, hf176⟩ := bndE hf176; obtain ⟨hc188, hf176⟩ := chkE hf176; obtain ⟨hc189, hf176⟩ := chkE hf176; obtain ⟨hc190, hf176⟩ := chkE hf176; obtain rfl := Option.some.inj hf176; exact (ev_adds (ev_adds (ev_repS (ev_var 2 rfl z179) (ev_var 5 rfl z182) hc186) (ev_ixS (ev_var 1 rfl z178) (ev_mod (ev_add (ev_var 6 rfl z183) (ev_var 7 rfl r185)) ev_int (by decide)) h_at187) hc188) (ev_repS (ev_var 2 rfl z179) (ev_sub (ev_sub (ev_var 4 rfl z181) ev_int) (ev_var 5 rfl z182)) hc189) hc190))))) fun v193 s194 e195 r196 => hQ _ _ (Ex.trans (Iv.exx iv170) e195) r196
abbrev s_l_digits : Stmt := topS 29
abbrev N_l_digits : List Str := ["_law_number_here", "_law_many", "_law_size", "_law_found", "_law_k"]
theorem sc_l_digits : FnScope N_l_digits ["_law_number_here", "_law_many", "_law_size"] (defScope s_l_digits) := ⟨rfl, rfl, rfl, by decide +kernel, rfl, by decide +kernel, by decide +kernel⟩
noncomputable def m_l_digits (number_here197 : Int) (many200 : Int) (size203 : Int) : Option (List Int) :=
 (lt (([] : List Int) : (List Int)) fun found207 =>
 (chk (RgB many200) (bnd (foldO (fun (b218 : ((List Int) × Int)) (x220 : Int) =>
 (chk (0 < size203) (chk ((b218.1).length < sizeLine) (lt ((b218.1 ++ [(b218.2 % size203)]) : (List Int)) fun found250 =>
 (chk (DivOk size203) (lt ((b218.2 / size203) : Int) fun number_here257 =>
 (some (found250, number_here257)))))))) (found207, number_here197) (rng 0 many200)) fun o216 =>
 (some o216.1))))
noncomputable abbrev a_l_digits : Int × Int × Int × Unit → Option (List Int) := fun a => m_l_digits a.1 a.2.1 a.2.2.1
theorem ok_l_digits {P : Program} {w : World} {K : PySem.W.Frag} {mg : Str → Option Value} {base : Heap} {f : Addr} {fd : FuncData} (F : FunP K "_law_digits" s_l_digits f fd) (hmg : mg "_law_digits" = some (.ref f)) (z_range : mg "range" = none) : Cal P w K mg base CX0 1 "_law_digits" (sp K a_l_digits) := by
  refine mk_cal (k := 0) F hmg (F.bindsN fun _ _ _ _ _ _ us hl => match us, hl with | [_, _, _], _ => rfl) sc_l_digits len3 ?_
  rintro cdv A' outer sh0 H0 X0 hr s0 vs ⟨number_here197, many200, size203, _⟩ r0 Q ⟨v198, _, rfl, r199, v201, _, rfl, r202, v204, _, rfl, r205, rfl⟩ hm hQ
  unfold a_l_digits m_l_digits at hm
  dsimp only at hm
  have iv206 : Iv K (fun _ => False) s0 s0 [fz v198 (number_here197 : Int), fz v201 (many200 : Int), fz v204 (size203 : Int), top, top] := (Iv.sf (Iv.sf (Iv.sf (Iv.tops (K := K) (P0 := (fun _ => False)) 5 s0) 0 (Ex.refl s0) r199 rfl) 1 (Ex.refl s0) r202 rfl) 2 (Ex.refl s0) r205 rfl)
  refine do_setN 3 (en_list (xs := ([] : List Int)) ee_nil (by simp [sizeLine])) (fun p211 s209 e210 n212 o213 => ?_) sc_l_digits.nd
  obtain ⟨found207, q208, hm⟩ := ltE hm
  have iv214 := Iv.sl iv206 3 e210 n212 o213 q208
  obtain ⟨hc215, hm⟩ := chkE hm
  obtain ⟨o216, ho217, hm⟩ := bndE hm
  refine do_forO (υ := ((List Int) × Int)) PassesOwn.never rfl (ei_range1 z_range (ev_var 1 rfl (Iv.fz (x := (many200 : Int)) iv214 1)) hc215) (pg_name (i := 4) sc_l_digits.nd rfl (by first | exact Or.inl rfl | exact Or.inr rfl)) tg_n ho217 (fun (b218 : ((List Int) × Int)) (σ' : L2.St) (t' : S) => ∃ (v_number_here : V) (y_k : Option V), σ' = [some v_number_here, some v201, some v204, some (.ref p211), y_k] ∧ Iv K (fun _ => False) s0 t' [fz v_number_here (b218.2 : Int), fz v201 (many200 : Int), fz v204 (size203 : Int), ol p211 (b218.1 : (List Int)), top]) (fun s271 k272 => by have iv273 := Iv.ex iv214 k272; exact ⟨v198, _, rfl, Iv.sel iv273 [some 0, some 1, some 2, some 3, none] (by decide +kernel) (by kernel_rfl)⟩) (fun s221 k222 x220 b218 b219 σ231 σ232 t229 t230 hx223 hm224 fl225 hR226 k227 hB228 => ?_) (fun s265 k266 σ267 t268 fl269 hR270 => ?_)
  · have hf233 := Fle.trans k222.f fl225
    obtain ⟨v234, y235, rfl, iv236⟩ := hR226
    obtain ⟨v237, r238, rfl⟩ := hB228
    have iv239 := Iv.ex iv236 k227
    have iv240 := Iv.sf iv239 4 (Ex.refl t230) r238 rfl
    have fl241 := Fle.trans (Fle.refl t230.F) (Ex.refl t230).f
    obtain ⟨hc252, hm224⟩ := chkE hm224
    obtain ⟨hc253, hm224⟩ := chkE hm224
    refine do_append 3 rfl (Iv.ol (xs := (b218.1 : (List Int))) iv240 3) (ev_mod (ev_var 0 rfl (Iv.fz (x := (b218.2 : Int)) iv240 0)) (ev_var 2 rfl (Iv.fz (x := (size203 : Int)) iv240 2)) hc252) hc253 (fun s247 m248 o249 => ?_)
    obtain ⟨found250, q251, hm224⟩ := ltE hm224
    have iv254 := Iv.ml iv240 3 m248 o249 q251
    have fl255 := Fle.trans (Fle.refl t230.F) m248.f
    obtain ⟨hc256, hm224⟩ := chkE hm224
    refine do_set 0 (ev_div (ev_var 0 rfl (Iv.fz (x := (b218.2 : Int)) iv254 0)) (ev_var 2 rfl (Iv.fz (x := (size203 : Int)) iv254 2)) hc256) (fun v261 s259 e260 r262 => ?_) sc_l_digits.nd
    obtain ⟨number_here257, q258, hm224⟩ := ltE hm224
    have iv263 := Iv.sf iv254 0 e260 r262 q258
    have fl264 := Fle.trans fl255 e260.f
    obtain rfl := Option.some.inj hm224
    exact do_nil ⟨s259, rfl, fl264, ⟨v261, _, rfl, Iv.sel iv263 [some 0, some 1, some 2, some 3, none] (by decide +kernel) (by kernel_rfl)⟩⟩
  · have hf274 := Fle.trans k266.f fl269
    obtain ⟨v275, y276, rfl, iv277⟩ := hR270
    refine do_frzI iv277 3 rfl fun s278 hf279 iv280 => ?_
    obtain rfl := Option.some.inj hm
    exact do_ret (ev_var 3 rfl (Iv.fz (x := (o216.1 : (List Int))) iv280 3)) fun v281 s282 e283 r284 => hQ _ _ (Ex.trans (Iv.exx iv280) e283) r284
abbrev s_l_cell_at : Stmt := topS 27
abbrev N_l_cell_at : List Str := ["_law_script", "_law_k"]
theorem sc_l_cell_at : FnScope N_l_cell_at ["_law_script", "_law_k"] (defScope s_l_cell_at) := ⟨rfl, rfl, rfl, by decide +kernel, rfl, by decide +kernel, by decide +kernel⟩
noncomputable def m_l_cell_at (script285 : (List Int)) (k288 : Int) : Option Int :=
 (if (decide (k288 < ((script285).length : Int))) = true then
 (bnd (atI script285 k288) fun at297 => (some at297))
 else
 (some (0 : Int)))
noncomputable abbrev a_l_cell_at : (List Int) × Int × Unit → Option Int := fun a => m_l_cell_at a.1 a.2.1
theorem ok_l_cell_at {P : Program} {w : World} {K : PySem.W.Frag} {mg : Str → Option Value} {base : Heap} {f : Addr} {fd : FuncData} (F : FunP K "_law_cell_at" s_l_cell_at f fd) (hmg : mg "_law_cell_at" = some (.ref f)) (z_len : mg "len" = none) : Cal P w K mg base CX0 1 "_law_cell_at" (sp K a_l_cell_at) := by
  refine mk_cal (k := 0) F hmg (F.bindsN fun _ _ _ _ _ _ us hl => match us, hl with | [_, _], _ => rfl) sc_l_cell_at len2 ?_
  rintro cdv A' outer sh0 H0 X0 hr s0 vs ⟨script285, k288, _⟩ r0 Q ⟨v286, _, rfl, r287, v289, _, rfl, r290, rfl⟩ hm hQ
  unfold a_l_cell_at m_l_cell_at at hm
  dsimp only at hm
  have iv291 : Iv K (fun _ => False) s0 s0 [fz v286 (script285 : (List Int)), fz v289 (k288 : Int)] := (Iv.sf (Iv.sf (Iv.tops (K := K) (P0 := (fun _ => False)) 2 s0) 0 (Ex.refl s0) r287 rfl) 1 (Ex.refl s0) r290 rfl)
  refine do_ifR (EvB.t (eb_lt (ev_var 1 rfl (Iv.fz (x := (k288 : Int)) iv291 1)) (ev_len z_len (Ev.r (ev_var 0 rfl (Iv.fz (x := (script285 : (List Int))) iv291 0)))))) (fun hb292 s293 e294 => ?_) (fun hb302 s303 e304 => ?_)
  · have hm295 := iteE1 hm hb292
    have iv296 := Iv.ex iv291 e294
    obtain ⟨at297, h_at297, hm295⟩ := bndE hm295
    obtain rfl := Option.some.inj hm295
    exact do_ret (ev_ix (Ev.r (ev_var 0 rfl (Iv.fz (x := (script285 : (List Int))) iv296 0))) (ev_var 1 rfl (Iv.fz (x := (k288 : Int)) iv296 1)) h_at297) fun v298 s299 e300 r301 => hQ _ _ (Ex.trans (Iv.exx iv296) e300) r301
  · have hm305 := iteE2 hm hb302
    have iv306 := Iv.ex iv291 e304
    obtain rfl := Option.some.inj hm305
    exact do_ret ev_int fun v307 s308 e309 r310 => hQ _ _ (Ex.trans (Iv.exx iv306) e309) r310
abbrev s_l_number : Stmt := topS 28
abbrev N_l_number : List Str := ["_law_script", "_law_k", "_law_cell", "_law_one", "_law_two", "_law_three"]
theorem sc_l_number : FnScope N_l_number ["_law_script", "_law_k"] (defScope s_l_number) := ⟨rfl, rfl, rfl, by decide +kernel, rfl, by decide +kernel, by decide +kernel⟩
noncomputable def m_l_number (script311 : (List Int)) (k314 : Int) : Option Int :=
 (bnd (m_l_cell_at script311 k314) fun cell_at318 => (lt (cell_at318 : Int) fun cell319 =>
 (bnd (m_l_cell_at script311 (0 : Int)) fun cell_at327 => (if (decide ((cell_at327 % (2 : Int)) = (1 : Int))) = true then
 (some cell319)
 else
 (chk (MulOk k314 k314) (lt (((((cell319 % (1000003 : Int)) + (1 : Int)) * ((k314 * k314) + (48271 : Int))) % (65537 : Int)) : Int) fun one343 =>
 (lt (((((one343 * one343) + k314) * (30269 : Int)) % (65521 : Int)) : Int) fun two350 =>
 (lt (((((two350 * two350) + one343) * (40503 : Int)) % (65519 : Int)) : Int) fun three357 =>
 (some ((((three357 * (65521 : Int)) + two350) * (65537 : Int)) + one343))))))))))
noncomputable abbrev a_l_number : (List Int) × Int × Unit → Option Int := fun a => m_l_number a.1 a.2.1
theorem ok_l_number {P : Program} {w : World} {K : PySem.W.Frag} {mg : Str → Option Value} {base : Heap} {f : Addr} {fd : FuncData} (F : FunP K "_law_number" s_l_number f fd) (hmg : mg "_law_number" = some (.ref f)) (C_l_cell_at : Cal P w K mg base CX0 1 "_law_cell_at" (sp K a_l_cell_at)) : Cal P w K mg base CX0 2 "_law_number" (sp K a_l_number) := by
  refine mk_cal (k := 1) F hmg (F.bindsN fun _ _ _ _ _ _ us hl => match us, hl with | [_, _], _ => rfl) sc_l_number len2 ?_
  rintro cdv A' outer sh0 H0 X0 hr s0 vs ⟨script311, k314, _⟩ r0 Q ⟨v312, _, rfl, r313, v315, _, rfl, r316, rfl⟩ hm hQ
  unfold a_l_number m_l_number at hm
  dsimp only at hm
  have iv317 : Iv K (fun _ => False) s0 s0 [fz v312 (script311 : (List Int)), fz v315 (k314 : Int), top, top, top, top] := (Iv.sf (Iv.sf (Iv.tops (K := K) (P0 := (fun _ => False)) 6 s0) 0 (Ex.refl s0) r313 rfl) 1 (Ex.refl s0) r316 rfl)
  obtain ⟨cell_at318, h_cell_at318, hm⟩ := bndE hm
  refine do_set 2 (ev_call C_l_cell_at hr (by decide) (ea_cons (ev_var 0 rfl (Iv.fz (x := (script311 : (List Int))) iv317 0)) (ea_cons (ev_var 1 rfl (Iv.fz (x := (k314 : Int)) iv317 1)) ea_nil)) h_cell_at318) (fun v323 s321 e322 r324 => ?_) sc_l_number.nd
  obtain ⟨cell319, q320, hm⟩ := ltE hm
  have iv325 := Iv.sf iv317 2 e322 r324 q320
  obtain ⟨cell_at327, h_cell_at327, hm⟩ := bndE hm
  refine do_ifR (EvB.t (eb_eq (ev_mod (ev_call C_l_cell_at hr (by decide) (ea_cons (ev_var 0 rfl (Iv.fz (x := (script311 : (List Int))) iv325 0)) (ea_cons ev_int ea_nil)) h_cell_at327) ev_int (by decide)) ev_int)) (fun hb328 s329 e330 => ?_) (fun hb337 s338 e339 => ?_)
  · have hm331 := iteE1 hm hb328
    have iv332 := Iv.ex iv325 e330
    obtain rfl := Option.some.inj hm331
    exact do_ret (ev_var 2 rfl (Iv.fz (x := (cell319 : Int)) iv332 2)) fun v333 s334 e335 r336 => hQ _ _ (Ex.trans (Iv.exx iv332) e335) r336
  · have hm340 := iteE2 hm hb337
    have iv341 := Iv.ex iv325 e339
    obtain ⟨hc342, hm340⟩ := chkE hm340
    refine do_set 3 (ev_mod (ev_mul (ev_add (ev_mod (ev_var 2 rfl (Iv.fz (x := (cell319 : Int)) iv341 2)) ev_int (by decide)) ev_int) (ev_add (ev_mul (ev_var 1 rfl (Iv.fz (x := (k314 : Int)) iv341 1)) (ev_var 1 rfl (Iv.fz (x := (k314 : Int)) iv341 1)) hc342) ev_int) (Or.inl (Or.inl ⟨by omega, by omega⟩))) ev_int (by decide)) (fun v347 s345 e346 r348 => ?_) sc_l_number.nd
    obtain ⟨one343, q344, hm340⟩ := ltE hm340
    have iv349 := Iv.sf iv341 3 e346 r348 q344
    refine do_set 4 (ev_mod (ev_mul (ev_add (ev_mul (ev_var 3 rfl (Iv.fz (x := (one343 : Int)) iv349 3)) (ev_var 3 rfl (Iv.fz (x := (one343 : Int)) iv349 3)) (Or.inl (Or.inl ⟨by omega, by omega⟩))) (ev_var 1 rfl (Iv.fz (x := (k314 : Int)) iv349 1))) ev_int (Or.inl (Or.inr ⟨by decide, by decide⟩))) ev_int (by decide)) (fun v354 s352 e353 r355 => ?_) sc_l_number.nd
    obtain ⟨two350, q351, hm340⟩ := ltE hm340
    have iv356 := Iv.sf iv349 4 e353 r355 q351
    refine do_set 5 (ev_mod (ev_mul (ev_add (ev_mul (ev_var 4 rfl (Iv.fz (x := (two350 : Int)) iv356 4)) (ev_var 4 rfl (Iv.fz (x := (two350 : Int)) iv356 4)) (Or.inl (Or.inl ⟨by omega, by omega⟩))) (ev_var 3 rfl (Iv.fz (x := (one343 : Int)) iv356 3))) ev_int (Or.inl (Or.inr ⟨by decide, by decide⟩))) ev_int (by decide)) (fun v361 s359 e360 r362 => ?_) sc_l_number.nd
    obtain ⟨three357, q358, hm340⟩ := ltE hm340
    have iv363 := Iv.sf iv356 5 e360 r362 q358
    obtain rfl := Option.some.inj hm340
    exact do_ret (ev_add (ev_mul (ev_add (ev_mul (ev_var 5 rfl (Iv.fz (x := (three357 : Int)) iv363 5)) ev_int (Or.inl (Or.inr ⟨by decide, by decide⟩))) (ev_var 4 rfl (Iv.fz (x := (two350 : Int)) iv363 4))) ev_int (Or.inl (Or.inr ⟨by decide, by decide⟩))) (ev_var 3 rfl (Iv.fz (x := (one343 : Int)) iv363 3))) fun v364 s365 e366 r367 => hQ _ _ (Ex.trans (Iv.exx iv363) e366) r367
abbrev s_l_bent : Stmt := topS 35
abbrev N_l_bent : List Str := ["_law_text", "_law_x", "_law_at", "_law_odd", "_law_words", "_law_place", "_law_way"]
theorem sc_l_bent : FnScope N_l_bent ["_law_text", "_law_x"] (defScope s_l_bent) := ⟨rfl, rfl, rfl, by decide +kernel, rfl, by decide +kernel, by decide +kernel⟩
noncomputable def m_l_bent (text368 : Str) (x371 : Int) : Option Str :=
 (chk ((text368).length ≤ sizeLine) (chk (0 < (((text368).length : Int) + (1 : Int))) (lt (((x371 / (9 : Int)) % (((text368).length : Int) + (1 : Int))) : Int) fun at377 =>
 (bnd (sgn ("0123456789-, ,a,zA._x\n" : Str) ((x371 / (4500 : Int)) % (22 : Int))) fun at384 => (lt (at384 : Str) fun odd385 =>
 (chk ((text368).length + 2 ≤ sizeLine) (lt ((Txt.split text368 ("," : Str)) : (List Str)) fun words393 =>
 (chk (0 < ((words393).length : Int)) (lt (((x371 / (9 : Int)) % ((words393).length : Int)) : Int) fun place401 =>
 (lt ((x371 % (9 : Int)) : Int) fun way408 =>
 (if (decide (way408 < (2 : Int))) = true then
 (chk ((text368).length ≤ sizeLine) (chk (((cutS text368 none (some at377))).length + (odd385).length ≤ sizeLine) (chk ((text368).length ≤ sizeLine) (chk ((((cutS text368 none (some at377)) ++ odd385)).length + ((cutS text368 (some (at377 + way408)) none)).length ≤ sizeLine) (some (((cutS text368 none (some at377)) ++ odd385) ++ (cutS text368 (some (at377 + way408)) none)))))))
 else
 (if (decide (way408 = (2 : Int))) = true then
 (chk (((cut words393 none (some place401))).length + ((cut words393 (some place401) (some (place401 + (1 : Int))))).length ≤ sizeLine) (chk ((((cut words393 none (some place401)) ++ (cut words393 (some place401) (some (place401 + (1 : Int)))))).length + ((cut words393 (some place401) none)).length ≤ sizeLine) (chk (JnOk ("," : Str) (((cut words393 none (some place401)) ++ (cut words393 (some place401) (some (place401 + (1 : Int))))) ++ (cut words393 (some place401) none))) (some (Txt.join ("," : Str) (((cut words393 none (some place401)) ++ (cut words393 (some place401) (some (place401 + (1 : Int))))) ++ (cut words393 (some place401) none)))))))
 else
 (if (decide (way408 = (3 : Int))) = true then
 (chk (((cut words393 none (some place401))).length + ((cut words393 (some (place401 + (1 : Int))) none)).length ≤ sizeLine) (chk (JnOk ("," : Str) ((cut words393 none (some place401)) ++ (cut words393 (some (place401 + (1 : Int))) none))) (some (Txt.join ("," : Str) ((cut words393 none (some place401)) ++ (cut words393 (some (place401 + (1 : Int))) none))))))
 else
 (if (decide (way408 = (4 : Int))) = true then
 (chk (((cut words393 (some place401) none)).length + ((cut words393 none (some place401))).length ≤ sizeLine) (chk (JnOk ("," : Str) ((cut words393 (some place401) none) ++ (cut words393 none (some place401)))) (some (Txt.join ("," : Str) ((cut words393 (some place401) none) ++ (cut words393 none (some place401)))))))
 else
 (if (decide (way408 = (5 : Int))) = true then
 (chk ((("," : Str)).length + (text368).length ≤ sizeLine) (chk ((text368).length + (("," : Str)).length ≤ sizeLine) (chk ((("-" : Str)).length + (text368).length ≤ sizeLine) (chk ((text368).length + (("-" : Str)).length ≤ sizeLine) (chk ((text368).length + ((",-" : Str)).length ≤ sizeLine) (chk (((" " : Str)).length + (text368).length ≤ sizeLine) (bnd (atI ([(("," : Str) ++ text368), (text368 ++ ("," : Str)), (("-" : Str) ++ text368), (text368 ++ ("-" : Str)), (text368 ++ (",-" : Str)), ((" " : Str) ++ text368)] : List Str) ((x371 / (9 : Int)) % (6 : Int))) fun at493 => (some at493))))))))
 else
 (if (decide (way408 = (6 : Int))) = true then
 (chk (RepS ("9" : Str) (60 : Int)) (chk (RepS ("9" : Str) (61 : Int)) (bnd (atI ([("" : Str), ("-" : Str), ("--" : Str), ("," : Str), ("0" : Str), ("1" : Str), ("00" : Str), ("a" : Str), ("0,0" : Str), ("a,a" : Str), ("1,0" : Str), ("-,-" : Str), (replS ("9" : Str) (60 : Int)), (replS ("9" : Str) (61 : Int))] : List Str) ((x371 / (9 : Int)) % (14 : Int))) fun at510 => (some at510))))
 else
 (chk (JnOk ("," : Str) (words393).reverse) (some (Txt.join ("," : Str) (words393).reverse)))))))))))))))))))
noncomputable abbrev a_l_bent : Str × Int × Unit → Option Str := fun a => m_l_bent a.1 a.2.1
theorem ok_l_bent {P : Program} {w : World} {K : PySem.W.Frag} {mg : Str → Option Value} {base : Heap} {f : Addr} {fd : FuncData} (F : FunP K "_law_bent" s_l_bent f fd) (hmg : mg "_law_bent" = some (.ref f)) (z_len : mg "len" = none) : Cal P w K mg base CX0 1 "_law_bent" (sp K a_l_bent) := by
  refine mk_cal (k := 0) F hmg (F.bindsN fun _ _ _ _ _ _ us hl => match us, hl with | [_, _], _ => rfl) sc_l_bent len2 ?_
  rintro cdv A' outer sh0 H0 X0 hr s0 vs ⟨text368, x371, _⟩ r0 Q ⟨v369, _, rfl, r370, v372, _, rfl, r373, rfl⟩ hm hQ
  unfold a_l_bent m_l_bent at hm
  dsimp only at hm
  have iv374 : Iv K (fun _ => False) s0 s0 [fz v369 (text368 : Str), fz v372 (x371 : Int), top, top, top, top, top] := (Iv.sf (Iv.sf (Iv.tops (K := K) (P0 := (fun _ => False)) 7 s0) 0 (Ex.refl s0) r370 rfl) 1 (Ex.refl s0) r373 rfl)
  obtain ⟨hc375, hm⟩ := chkE hm
  obtain ⟨hc376, hm⟩ := chkE hm
  refine do_set 2 (ev_mod (ev_div (ev_var 1 rfl (Iv.fz (x := (x371 : Int)) iv374 1)) ev_int ⟨by decide, by decide +kernel⟩) (ev_add (ev_lenS z_len hc375 (ev_var 0 rfl (Iv.fz (x := (text368 : Str)) iv374 0))) ev_int) hc376) (fun v381 s379 e380 r382 => ?_) sc_l_bent.nd
  obtain ⟨at377, q378, hm⟩ := ltE hm
  have iv383 := Iv.sf iv374 2 e380 r382 q378
  obtain ⟨at384, h_at384, hm⟩ := bndE hm
  refine do_set 3 (ev_ixS ev_str (ev_mod (ev_div (ev_var 1 rfl (Iv.fz (x := (x371 : Int)) iv383 1)) ev_int ⟨by decide, by decide +kernel⟩) ev_int (by decide)) h_at384) (fun v389 s387 e388 r390 => ?_) sc_l_bent.nd
  obtain ⟨odd385, q386, hm⟩ := ltE hm
  have iv391 := Iv.sf iv383 3 e388 r390 q386
  obtain ⟨hc392, hm⟩ := chkE hm
  refine do_set 4 (EvN.ev (en_split (ev_var 0 rfl (Iv.fz (x := (text368 : Str)) iv391 0)) ev_str rfl hc392)) (fun v397 s395 e396 r398 => ?_) sc_l_bent.nd
  obtain ⟨words393, q394, hm⟩ := ltE hm
  have iv399 := Iv.sf iv391 4 e396 r398 q394
  obtain ⟨hc400, hm⟩ := chkE hm
  refine do_set 5 (ev_mod (ev_div (ev_var 1 rfl (Iv.fz (x := (x371 : Int)) iv399 1)) ev_int ⟨by decide, by decide +kernel⟩) (ev_len z_len (Ev.r (ev_var 4 rfl (Iv.fz (x := (words393 : (List Str))) iv399 4)))) hc400) (fun v405 s403 e404 r406 => ?_) sc_l_bent.nd
  obtain ⟨place401, q402, hm⟩ := ltE hm
  have iv407 := Iv.sf iv399 5 e404 r406 q402
  refine do_set 6 (ev_mod (ev_var 1 rfl (Iv.fz (x := (x371 : Int)) iv407 1)) ev_int (by decide)) (fun v412 s410 e411 r413 => ?_) sc_l_bent.nd
  obtain ⟨way408, q409, hm⟩ := ltE hm
  have iv414 := Iv.sf iv407 6 e411 r413 q409
  refine do_ifR (EvB.t (eb_lt (ev_var 6 rfl (Iv.fz (x := (way408 : Int)) iv414 6)) ev_int)) (fun hb415 s416 e417 => ?_) (fun hb428 s429 e430 => ?_)
  · have hm418 := iteE1 hm hb415
    have iv419 := Iv.ex iv414 e417
    obtain ⟨hc420, hm418⟩ := chkE hm418
    obtain ⟨hc421, hm418⟩ := chkE hm418
    obtain ⟨hc422, hm418⟩ := chkE hm418
    obtain ⟨hc423, hm418⟩ := chkE hm418
    obtain rfl := Option.some.inj hm418
    exact do_ret (ev_adds (ev_adds (ev_sliceS hc420 (ev_var 0 rfl (Iv.fz (x := (text368 : Str)) iv419 0)) eo_none (eo_some (ev_var 2 rfl (Iv.fz (x := (at377 : Int)) iv419 2)))) (ev_var 3 rfl (Iv.fz (x := (odd385 : Str)) iv419 3)) hc421) (ev_sliceS hc422 (ev_var 0 rfl (Iv.fz (x := (text368 : Str)) iv419 0)) (eo_some (ev_add (ev_var 2 rfl (Iv.fz (x := (at377 : Int)) iv419 2)) (ev_var 6 rfl (Iv.fz (x := (way408 : Int)) iv419 6)))) eo_none) hc423) fun v424 s425 e426 r427 => hQ _ _ (Ex.trans (Iv.exx iv419) e426) r427
  · have hm431 := iteE2 hm hb428
    have iv432 := Iv.ex iv414 e430
    refine do_ifR (EvB.t (eb_eq (ev_var 6 rfl (Iv.fz (x := (way408 : Int)) iv432 6)) ev_int)) (fun hb433 s434 e435 => ?_) (fun hb445 s446 e447 => ?_)
    · have hm436 := iteE1 hm431 hb433
      have iv437 := Iv.ex iv432 e435
      obtain ⟨hc438, hm436⟩ := chkE hm436
      obtain ⟨hc439, hm436⟩ := chkE hm436
      obtain ⟨hc440, hm436⟩ := chkE hm436
      obtain rfl := Option.some.inj hm436
      exact do_ret (ev_join ev_str (EvN.r (en_cat (EvN.r (en_cat (EvN.r (en_slice (Ev.r (ev_var 4 rfl (Iv.fz (x := (words393 : (List Str))) iv437 4))) eo_none (eo_some (ev_var 5 rfl (Iv.fz (x := (place401 : Int)) iv437 5))))) (EvN.r (en_slice (Ev.r (ev_var 4 rfl (Iv.fz (x := (words393 : (List Str))) iv437 4))) (eo_some (ev_var 5 rfl (Iv.fz (x := (place401 : Int)) iv437 5))) (eo_some (ev_add (ev_var 5 rfl (Iv.fz (x := (place401 : Int)) iv437 5)) ev_int)))) hc438)) (EvN.r (en_slice (Ev.r (ev_var 4 rfl (Iv.fz (x := (words393 : (List Str))) iv437 4))) (eo_some (ev_var 5 rfl (Iv.fz (x := (place401 : Int)) iv437 5))) eo_none)) hc439)) hc440) fun v441 s442 e443 r444 => hQ _ _ (Ex.trans (Iv.exx iv437) e443) r444
    · have hm448 := iteE2 hm431 hb445
      have iv449 := Iv.ex iv432 e447
      refine do_ifR (EvB.t (eb_eq (ev_var 6 rfl (Iv.fz (x := (way408 : Int)) iv449 6)) ev_int)) (fun hb450 s451 e452 => ?_) (fun hb461 s462 e463 => ?_)
      · have hm453 := iteE1 hm448 hb450
        have iv454 := Iv.ex iv449 e452
        obtain ⟨hc455, hm453⟩ := chkE hm453
        obtain ⟨hc456, hm453⟩ := chkE hm453
        obtain rfl := Option.some.inj hm453
        exact do_ret (ev_join ev_str (EvN.r (en_cat (EvN.r (en_slice (Ev.r (ev_var 4 rfl (Iv.fz (x := (words393 : (List Str))) iv454 4))) eo_none (eo_some (ev_var 5 rfl (Iv.fz (x := (place401 : Int)) iv454 5))))) (EvN.r (en_slice (Ev.r (ev_var 4 rfl (Iv.fz (x := (words393 : (List Str))) iv454 4))) (eo_some (ev_add (ev_var 5 rfl (Iv.fz (x := (place401 : Int)) iv454 5)) ev_int)) eo_none)) hc455)) hc456) fun v457 s458 e459 r460 => hQ _ _ (Ex.trans (Iv.exx iv454) e459) r460
      · have hm464 := iteE2 hm448 hb461
        have iv465 := Iv.ex iv449 e463
        refine do_ifR (EvB.t (eb_eq (ev_var 6 rfl (Iv.fz (x := (way408 : Int)) iv465 6)) ev_int)) (fun hb466 s467 e468 => ?_) (fun hb477 s478 e479 => ?_)
        · have hm469 := iteE1 hm464 hb466
          have iv470 := Iv.ex iv465 e468
          obtain ⟨hc471, hm469⟩ := chkE hm469
          obtain ⟨hc472, hm469⟩ := chkE hm469
          obtain rfl := Option.some.inj hm469
          exact do_ret (ev_join ev_str (EvN.r (en_cat (EvN.r (en_slice (Ev.r (ev_var 4 rfl (Iv.fz (x := (words393 : (List Str))) iv470 4))) (eo_some (ev_var 5 rfl (Iv.fz (x := (place401 : Int)) iv470 5))) eo_none)) (EvN.r (en_slice (Ev.r (ev_var 4 rfl (Iv.fz (x := (words393 : (List Str))) iv470 4))) eo_none (eo_some (ev_var 5 rfl (Iv.fz (x := (place401 : Int)) iv470 5))))) hc471)) hc472) fun v473 s474 e475 r476 => hQ _ _ (Ex.trans (Iv.exx iv470) e475) r476
        · have hm480 := iteE2 hm464 hb477
          have iv481 := Iv.ex iv465 e479
          refine do_ifR (EvB.t (eb_eq (ev_var 6 rfl (Iv.fz (x := (way408 : Int)) iv481 6)) ev_int)) (fun hb482 s483 e484 => ?_) (fun hb498 s499 e500 => ?_)
          · have hm485 := iteE1 hm480 hb482
            have iv486 := Iv.ex iv481 e484
            obtain ⟨hc487, hm485⟩ := chkE hm485
            obtain ⟨hc488, hm485⟩ := chkE hm485
            obtain ⟨hc489, hm485⟩ := chkE hm485
            obtain ⟨hc490, hm485⟩ := chkE hm485
            obtain ⟨hc491, hm485⟩ := chkE hm485
            obtain ⟨hc492, hm485⟩ := chkE hm485
            obtain ⟨at493, h_at493, hm485⟩ := bndE hm485
            obtain rfl := Option.some.inj hm485
            exact do_ret (ev_ix (EvN.r (en_list (xs := ([(("," : Str) ++ text368), (text368 ++ ("," : Str)), (("-" : Str) ++ text368), (text368 ++ ("-" : Str)), (text368 ++ (",-" : Str)), ((" " : Str) ++ text368)] : List Str)) (ee_cons (ev_adds ev_str (ev_var 0 rfl (Iv.fz (x := (text368 : Str)) iv486 0)) hc487) (ee_cons (ev_adds (ev_var 0 rfl (Iv.fz (x := (text368 : Str)) iv486 0)) ev_str hc488) (ee_cons (ev_adds ev_str (ev_var 0 rfl (Iv.fz (x := (text368 : Str)) iv486 0)) hc489) (ee_cons (ev_adds (ev_var 0 rfl (Iv.fz (x := (text368 : Str)) iv486 0)) ev_str hc490) (ee_cons (ev_adds (ev_var 0 rfl (Iv.fz (x := (text368 : Str)) iv486 0)) ev_str hc491) (ee_cons (ev_adds ev_str (ev_var 0 rfl (Iv.fz (x := (text368 : Str)) iv486 0)) hc492) ee_nil)))))) (by simp [sizeLine]))) (ev_mod (ev_div (ev_var 1 rfl (Iv.fz (x := (x371 : Int)) iv486 1)) ev_int ⟨by decide, by decide +kernel⟩) ev_int (by decide)) h_at493) fun v494 s495 e496 r497 => hQ _ _ (Ex.trans (Iv.exx iv486) e496) r497
          · have hm501 := iteE2 hm480 hb498
            have iv502 := Iv.ex iv481 e500
            refine do_ifR (EvB.t (eb_eq (ev_var 6 rfl (Iv.fz (x := (way408 : Int)) iv502 6)) ev_int)) (fun hb503 s504 e505 => ?_) (fun hb515 s516 e517 => ?_)
            · have hm506 := iteE1 hm501 hb503
              have iv507 := Iv.ex iv502 e505
              obtain ⟨hc508, hm506⟩ := chkE hm506
              obtain ⟨hc509, hm506⟩ := chkE hm506
              obtain ⟨at510, h_at510, hm506⟩ := bndE hm506
              obtain rfl := Option.some.inj hm506
              exact do_ret (ev_ix (EvN.r (en_list (xs := ([("" : Str), ("-" : Str), ("--" : Str), ("," : Str), ("0" : Str), ("1" : Str), ("00" : Str), ("a" : Str), ("0,0" : Str), ("a,a" : Str), ("1,0" : Str), ("-,-" : Str), (replS ("9" : Str) (60 : Int)), (replS ("9" : Str) (61 : Int))] : List Str)) (ee_cons ev_str (ee_cons ev_str (ee_cons ev_str (ee_cons ev_str (ee_cons ev_str (ee_cons ev_str (ee_cons ev_str (ee_cons ev_str (ee_cons ev_str (ee_cons ev_str (ee_cons ev_str (ee_cons ev_str (ee_cons (ev_repS ev_str ev_int hc508) (ee_cons (ev_repS ev_str ev_int hc509) ee_nil)))))))))))))) (by simp [sizeLine]))) (ev_mod (ev_div (ev_var 1 rfl (Iv.fz (x := (x371 : Int)) iv507 1)) ev_int ⟨by decide, by decide +kernel⟩) ev_int (by decide)) h_at510) fun v511 s512 e513 r514 => hQ _ _ (Ex.trans (Iv.exx iv507) e513) r514
            · have hm518 := iteE2 hm501 hb515
              have iv519 := Iv.ex iv502 e517
              obtain ⟨hc520, hm518⟩ := chkE hm518
              obtain rfl := Option.some.inj hm518
              exact do_ret (ev_join ev_str (EvN.r (en_rev (Ev.r (ev_var 4 rfl (Iv.fz (x := (words393 : (List Str))) iv519 4))))) hc520) fun v521 s522 e523 r524 => hQ _ _ (Ex.trans (Iv.exx iv519) e523) r524
abbrev s_show_order : Stmt := topS 21
abbrev N_show_order : List Str := ["order", "one"]
theorem sc_show_order : FnScope N_show_order ["order"] (defScope s_show_order) := ⟨rfl, rfl, rfl, by decide +kernel, rfl, by decide +kernel, by decide +kernel⟩
noncomputable def m_show_order (order525 : (List Int)) : Option Str :=
 (bnd (mapO (fun (x529 : Int) => (chk ((x529).natAbs.log2 < 1920) (some (strI x529)))) order525) fun ys539 => (chk ((ys539).length ≤ sizeLine) (chk (JnOk ("," : Str) ys539) (some (Txt.join ("," : Str) ys539)))))
noncomputable abbrev a_show_order : (List Int) × Unit → Option Str := fun a => m_show_order a.1
theorem ok_show_order {P : Program} {w : World} {K : PySem.W.Frag} {mg : Str → Option Value} {base : Heap} {f : Addr} {fd : FuncData} (F : FunP K "show_order" s_show_order f fd) (hmg : mg "show_order" = some (.ref f)) (z_str : mg "str" = none) : Cal P w K mg base CX0 1 "show_order" (sp K a_show_order) := by
  refine mk_cal (k := 0) F hmg (F.bindsN fun _ _ _ _ _ _ us hl => match us, hl with | [_], _ => rfl) sc_show_order len1 ?_
  rintro cdv A' outer sh0 H0 X0 hr s0 vs ⟨order525, _⟩ r0 Q ⟨v526, _, rfl, r527, rfl⟩ hm hQ
  unfold a_show_order m_show_order at hm
  dsimp only at hm
  have iv528 : Iv K (fun _ => False) s0 s0 [fz v526 (order525 : (List Int)), top] := (Iv.sf (Iv.tops (K := K) (P0 := (fun _ => False)) 2 s0) 0 (Ex.refl s0) r527 rfl)
  obtain ⟨ys539, h_ys539, hm⟩ := bndE hm
  obtain ⟨hc540, hm⟩ := chkE hm
  obtain ⟨hc541, hm⟩ := chkE hm
  obtain rfl := Option.some.inj hm
  exact do_ret (ev_join ev_str (EvN.r (EvL.n (en_comp0 (own := [("one", 1)]) (j := 1) (f := fun (x529 : Int) => (chk ((x529).natAbs.log2 < 1920) (some (strI x529)))) rfl sc_show_order.nd (ei_list (ev_var 0 rfl (Iv.fz (x := (order525 : (List Int))) iv528 0))) (blkOk_by (own := [("one", 1)]) (N := N_show_order) (sc := defScope s_show_order) (by decide +kernel)) rfl (by decide) (fun _ _ _ _ _ => pg_name (i := 1) sc_show_order.nd rfl (by first | exact Or.inl rfl | exact Or.inr rfl)) h_ys539 hc540 (fun x529 y530 v536 s531 hx533 e532 r537 hf534 _ _ _ _ _ => by obtain ⟨hc538, hf534⟩ := chkE hf534; obtain rfl := Option.some.inj hf534; exact (ev_strI z_str hc538 (ev_var 1 rfl r537)))))) hc541) fun v542 s543 e544 r545 => hQ _ _ (Ex.trans (Iv.exx iv528) e544) r545
abbrev s_show_instruments : Stmt := topS 25
abbrev N_show_instruments : List Str := ["names"]
theorem sc_show_instruments : FnScope N_show_instruments ["names"] (defScope s_show_instruments) := ⟨rfl, rfl, rfl, by decide +kernel, rfl, by decide +kernel, by decide +kernel⟩
noncomputable def m_show_instruments (names546 : (Tu Str)) : Option Str :=
 (if (decide (((names546).l.length : Int) = (0 : Int))) = true then
 (some ("-" : Str))
 else
 (chk (JnOk ("," : Str) (names546).l) (some (Txt.join ("," : Str) (names546).l))))
noncomputable abbrev a_show_instruments : (Tu Str) × Unit → Option Str := fun a => m_show_instruments a.1
theorem ok_show_instruments {P : Program} {w : World} {K : PySem.W.Frag} {mg : Str → Option Value} {base : Heap} {f : Addr} {fd : FuncData} (F : FunP K "show_instruments" s_show_instruments f fd) (hmg : mg "show_instruments" = some (.ref f)) (z_len : mg "len" = none) : Cal P w K mg base CX0 1 "show_instruments" (sp K a_show_instruments) := by
  refine mk_cal (k := 0) F hmg (F.bindsN fun _ _ _ _ _ _ us hl => match us, hl with | [_], _ => rfl) sc_show_instruments len1 ?_
  rintro cdv A' outer sh0 H0 X0 hr s0 vs ⟨names546, _⟩ r0 Q ⟨v547, _, rfl, r548, rfl⟩ hm hQ
  unfold a_show_instruments m_show_instruments at hm
  dsimp only at hm
  have iv549 : Iv K (fun _ => False) s0 s0 [fz v547 (names546 : (Tu Str))] := (Iv.sf (Iv.tops (K := K) (P0 := (fun _ => False)) 1 s0) 0 (Ex.refl s0) r548 rfl)
  refine do_ifR (EvB.t (eb_eq (ev_lenT z_len (ev_var 0 rfl (Iv.fz (x := (names546 : (Tu Str))) iv549 0))) ev_int)) (fun hb550 s551 e552 => ?_) (fun hb559 s560 e561 => ?_)
  · have hm553 := iteE1 hm hb550
    have iv554 := Iv.ex iv549 e552
    obtain rfl := Option.some.inj hm553
    exact do_ret ev_str fun v555 s556 e557 r558 => hQ _ _ (Ex.trans (Iv.exx iv554) e557) r558
  · have hm562 := iteE2 hm hb559
    have iv563 := Iv.ex iv549 e561
    obtain ⟨hc564, hm562⟩ := chkE hm562
    obtain rfl := Option.some.inj hm562
    exact do_ret (ev_joinT ev_str (ev_var 0 rfl (Iv.fz (x := (names546 : (Tu Str))) iv563 0)) hc564) fun v565 s566 e567 r568 => hQ _ _ (Ex.trans (Iv.exx iv563) e567) r568
abbrev s_show_breaks : Stmt := topS 23
abbrev N_show_breaks : List Str := ["breaks", "one"]
theorem sc_show_breaks : FnScope N_show_breaks ["breaks"] (defScope s_show_breaks) := ⟨rfl, rfl, rfl, by decide +kernel, rfl, by decide +kernel, by decide +kernel⟩
noncomputable def m_show_breaks (breaks569 : (List Int)) : Option Str :=
 (if (decide (((breaks569).length : Int) = (0 : Int))) = true then
 (some ("-" : Str))
 else
 (bnd (mapO (fun (x587 : Int) => (chk ((x587).natAbs.log2 < 1920) (some (strI x587)))) breaks569) fun ys597 => (chk ((ys597).length ≤ sizeLine) (chk (JnOk ("," : Str) ys597) (some (Txt.join ("," : Str) ys597))))))
noncomputable abbrev a_show_breaks : (List Int) × Unit → Option Str := fun a => m_show_breaks a.1
theorem ok_show_breaks {P : Program} {w : World} {K : PySem.W.Frag} {mg : Str → Option Value} {base : Heap} {f : Addr} {fd : FuncData} (F : FunP K "show_breaks" s_show_breaks f fd) (hmg : mg "show_breaks" = some (.ref f)) (z_len : mg "len" = none) (z_str : mg "str" = none) : Cal P w K mg base CX0 1 "show_breaks" (sp K a_show_breaks) := by
  refine mk_cal (k := 0) F hmg (F.bindsN fun _ _ _ _ _ _ us hl => match us, hl with | [_], _ => rfl) sc_show_breaks len1 ?_
  rintro cdv A' outer sh0 H0 X0 hr s0 vs ⟨breaks569, _⟩ r0 Q ⟨v570, _, rfl, r571, rfl⟩ hm hQ
  unfold a_show_breaks m_show_breaks at hm
  dsimp only at hm
  have iv572 : Iv K (fun _ => False) s0 s0 [fz v570 (breaks569 : (List Int)), top] := (Iv.sf (Iv.tops (K := K) (P0 := (fun _ => False)) 2 s0) 0 (Ex.refl s0) r571 rfl)
  refine do_ifR (EvB.t (eb_eq (ev_len z_len (Ev.r (ev_var 0 rfl (Iv.fz (x := (breaks569 : (List Int))) iv572 0)))) ev_int)) (fun hb573 s574 e575 => ?_) (fun hb582 s583 e584 => ?_)
  · have hm576 := iteE1 hm hb573
    have iv577 := Iv.ex iv572 e575
    obtain rfl := Option.some.inj hm576
    exact do_ret ev_str fun v578 s579 e580 r581 => hQ _ _ (Ex.trans (Iv.exx iv577) e580) r581
  · have hm585 := iteE2 hm hb582
    have iv586 := Iv.ex iv572 e584
    obtain ⟨ys597, h_ys597, hm585⟩ := bndE hm585
    obtain ⟨hc598, hm585⟩ := chkE hm585
    obtain ⟨hc599, hm585⟩ := chkE hm585
    obtain rfl := Option.some.inj hm585
    exact do_ret (ev_join ev_str (EvN.r (EvL.n (en_comp0 (own := [("one", 1)]) (j := 1) (f := fun (x587 : Int) => (chk ((x587).natAbs.log2 < 1920) (some (strI x587)))) rfl sc_show_breaks.nd (ei_list (ev_var 0 rfl (Iv.fz (x := (breaks569 : (List Int))) iv586 0))) (blkOk_by (own := [("one", 1)]) (N := N_show_breaks) (sc := defScope s_show_breaks) (by decide +kernel)) rfl (by decide) (fun _ _ _ _ _ => pg_name (i := 1) sc_show_breaks.nd rfl (by first | exact Or.inl rfl | exact Or.inr rfl)) h_ys597 hc598 (fun x587 y588 v594 s589 hx591 e590 r595 hf592 _ _ _ _ _ => by obtain ⟨hc596, hf592⟩ := chkE hf592; obtain rfl := Option.some.inj hf592; exact (ev_strI z_str hc596 (ev_var 1 rfl r595)))))) hc599) fun v600 s601 e602 r603 => hQ _ _ (Ex.trans (Iv.exx iv586) e602) r603
abbrev s_l_is : Stmt := topS 37
abbrev N_l_is : List Str := ["_law_kind", "_law_told_here", "_law_due_here", "_law_one"]
theorem sc_l_is : FnScope N_l_is ["_law_kind", "_law_told_here", "_law_due_here"] (defScope s_l_is) := ⟨rfl, rfl, rfl, by decide +kernel, rfl, by decide +kernel, by decide +kernel⟩
noncomputable def m_l_is (kind604 : Int) (told_here607 : (Str × An)) (due_here610 : An) : Option Bool :=
 (if (anN due_here610) = true then
 (chk (shpD told_here607) (chk (shpD (("NoText" : Str), (An.o (none : Option Int)))) (some (eqvD told_here607 (("NoText" : Str), (An.o (none : Option Int)))))))
 else
 (bnd (orO (!decide ((told_here607).1 = ("told" : Str))) (orO (!decide ((anT (told_here607).2) = (decide (kind604 = (1 : Int))))) (chk (shpD (told_here607).2) (chk (shpD due_here610) (some (!eqvD (told_here607).2 due_here610)))))) fun c634 => (if c634 = true then
 (some false)
 else
 (bnd (anSq (told_here607).2 (fun (x651 : (List Int)) => (chk (((List.map (fun (x667 : Int) => x667) (List.filter (fun (x667 : Int) => false) x651))).length ≤ sizeLine) (some (decide ((List.map (fun (x667 : Int) => x667) (List.filter (fun (x667 : Int) => false) x651)) = ([] : List Int)))))) (fun (x680 : (Tu Str)) => (chk (((List.map (fun (x696 : Str) => x696) (List.filter (fun (x696 : Str) => false) (x680).l))).length ≤ sizeLine) (chk (shp ((List.map (fun (x696 : Str) => x696) (List.filter (fun (x696 : Str) => false) (x680).l)) : (List Str))) (chk (shp (([] : List Str) : (List Str))) (some (decide ((List.map (fun (x696 : Str) => x696) (List.filter (fun (x696 : Str) => false) (x680).l)) = ([] : List Str))))))))) fun none711 => (some none711)))))
noncomputable abbrev a_l_is : Int × (Str × An) × An × Unit → Option Bool := fun a => m_l_is a.1 a.2.1 a.2.2.1
theorem ok_l_is {P : Program} {w : World} {K : PySem.W.Frag} {mg : Str → Option Value} {base : Heap} {f : Addr} {fd : FuncData} (F : FunP K "_law_is" s_l_is f fd) (hmg : mg "_law_is" = some (.ref f)) (z_isinstance : mg "isinstance" = none) (z_tuple : mg "tuple" = none) (z_bool : mg "bool" = none) : Cal P w K mg base CX0 1 "_law_is" (sp K a_l_is) := by
  refine mk_cal (k := 0) F hmg (F.bindsN fun _ _ _ _ _ _ us hl => match us, hl with | [_, _, _], _ => rfl) sc_l_is len3 ?_
  rintro cdv A' outer sh0 H0 X0 hr s0 vs ⟨kind604, told_here607, due_here610, _⟩ r0 Q ⟨v605, _, rfl, r606, v608, _, rfl, r609, v611, _, rfl, r612, rfl⟩ hm hQ
  unfold a_l_is m_l_is at hm
  dsimp only at hm
  have iv613 : Iv K (fun _ => False) s0 s0 [fz v605 (kind604 : Int), fz v608 (told_here607 : (Str × An)), fz v611 (due_here610 : An), top] := (Iv.sf (Iv.sf (Iv.sf (Iv.tops (K := K) (P0 := (fun _ => False)) 4 s0) 0 (Ex.refl s0) r606 rfl) 1 (Ex.refl s0) r609 rfl) 2 (Ex.refl s0) r612 rfl)
  refine do_ifR (EvB.t (eb_isNA (ev_var 2 rfl (Iv.fz (x := (due_here610 : An)) iv613 2)))) (fun hb614 s615 e616 => ?_) (fun hb625 s626 e627 => ?_)
  · have hm617 := iteE1 hm hb614
    have iv618 := Iv.ex iv613 e616
    obtain ⟨hc619, hm617⟩ := chkE hm617
    obtain ⟨hc620, hm617⟩ := chkE hm617
    obtain rfl := Option.some.inj hm617
    exact do_ret (EvB.v (eb_eqV hr (ev_var 1 rfl (Iv.fz (x := (told_here607 : (Str × An))) iv618 1)) (ev_t2 (ea_cons ev_str (ea_cons (an_o (ev_nonO (α := Int))) ea_nil))) hc619 hc620)) fun v621 s622 e623 r624 => hQ _ _ (Ex.trans (Iv.exx iv618) e623) r624
  · have hm628 := iteE2 hm hb625
    have iv629 := Iv.ex iv613 e627
    obtain ⟨c634, h_c634, hm628⟩ := bndE hm628
    refine do_ifR (EvW.tt (EvC.w (by skip; exact ec_orO (eb_ne (ev_ixP (ev_var 1 rfl (Iv.fz (x := (told_here607 : (Str × An))) iv629 1)) ev_int p2_0) ev_str) (fun hb635 => (fun hz => (by skip; exact ec_orO (eb_ne (EvB.v (eb_v (ev_isi (T := "tuple") (r := anT (told_here607).2) z_isinstance z_tuple (by decide +kernel) (ev_ixP (ev_var 1 rfl (Iv.fz (x := (told_here607 : (Str × An))) iv629 1)) ev_int p2_1) (kit_anT _)))) (EvB.v (eb_eq (ev_var 0 rfl (Iv.fz (x := (kind604 : Int)) iv629 0)) ev_int))) (fun hb636 => (fun hz => (by obtain ⟨hc632, hz⟩ := chkE hz; obtain ⟨hc633, hz⟩ := chkE hz; obtain rfl := Option.some.inj hz; exact (ec_or1 (eb_neV hr (ev_ixP (ev_var 1 rfl (Iv.fz (x := (told_here607 : (Str × An))) iv629 1)) ev_int p2_1) (ev_var 2 rfl (Iv.fz (x := (due_here610 : An)) iv629 2)) hc632 hc633)))) ((orE hz).1 hb636)) (orE hz).2)) ((orE h_c634).1 hb635)) (orE h_c634).2))) (fun hb637 s638 e639 => ?_) (fun hb646 s647 e648 => ?_)
    · have hm640 := iteE1 hm628 hb637
      have iv641 := Iv.ex iv629 e639
      obtain rfl := Option.some.inj hm640
      exact do_ret ev_bl fun v642 s643 e644 r645 => hQ _ _ (Ex.trans (Iv.exx iv641) e644) r645
    · have hm649 := iteE2 hm628 hb646
      have iv650 := Iv.ex iv629 e648
      obtain ⟨none711, h_none711, hm649⟩ := bndE hm649
      obtain rfl := Option.some.inj hm649
      exact do_ret (EvB.v (eb_anSq h_none711 (ev_ixP (ev_var 1 rfl (Iv.fz (x := (told_here607 : (Str × An))) iv650 1)) ev_int p2_1) (fun x651 hx652 hm653 => by obtain ⟨hc678, hm653⟩ := chkE hm653; obtain rfl := Option.some.inj hm653; exact (eb_eqL hr (EvN.r (EvL.n (en_comp1 (own := [("_law_one", 3)]) (j := 3) (t := fun (x667 : Int) => (some false)) (f := fun (x667 : Int) => (some x667)) rfl sc_l_is.nd (ei_list hx652) (blkOk_by (own := [("_law_one", 3)]) (N := N_l_is) (sc := defScope s_l_is) (by decide +kernel)) rfl (by decide) (fun _ _ _ _ _ => pg_name (i := 3) sc_l_is.nd rfl (by first | exact Or.inl rfl | exact Or.inr rfl)) (compO_pure (fun (x667 : Int) => false) (fun (x667 : Int) => x667) x651) hc678 (fun x667 y668 v676 s669 hx671 e670 r677 hf672 _ _ _ _ _ => by obtain rfl := Option.some.inj hf672; exact (EvB.t (eb_v (ev_isi (T := "bool") (r := false) z_isinstance z_bool (by decide +kernel) (ev_var 3 rfl r677) (by show kitB "int" "bool" = _; decide +kernel))))) (fun x667 y668 v676 s669 hx671 e670 r677 ht679 hf672 _ _ _ _ _ => by obtain rfl := Option.some.inj hf672; exact (ev_var 3 rfl r677))))) (EvN.r (en_list (xs := ([] : List Int)) ee_nil (by simp [sizeLine]))) (shp_of _) (shp_of _))) (fun x680 hx681 hm682 => by obtain ⟨hc707, hm682⟩ := chkE hm682; obtain ⟨hc709, hm682⟩ := chkE hm682; obtain ⟨hc710, hm682⟩ := chkE hm682; obtain rfl := Option.some.inj hm682; exact (eb_eqL hr (EvN.r (EvL.n (en_comp1 (own := [("_law_one", 3)]) (j := 3) (t := fun (x696 : Str) => (some false)) (f := fun (x696 : Str) => (some x696)) rfl sc_l_is.nd (ei_tup hx681) (blkOk_by (own := [("_law_one", 3)]) (N := N_l_is) (sc := defScope s_l_is) (by decide +kernel)) rfl (by decide) (fun _ _ _ _ _ => pg_name (i := 3) sc_l_is.nd rfl (by first | exact Or.inl rfl | exact Or.inr rfl)) (compO_pure (fun (x696 : Str) => false) (fun (x696 : Str) => x696) (x680).l) hc707 (fun x696 y697 v705 s698 hx700 e699 r706 hf701 _ _ _ _ _ => by obtain rfl := Option.some.inj hf701; exact (EvB.t (eb_v (ev_isi (T := "bool") (r := false) z_isinstance z_bool (by decide +kernel) (ev_var 3 rfl r706) (by show kitB "str" "bool" = _; decide +kernel))))) (fun x696 y697 v705 s698 hx700 e699 r706 ht708 hf701 _ _ _ _ _ => by obtain rfl := Option.some.inj hf701; exact (ev_var 3 rfl r706))))) (EvN.r (en_list (xs := ([] : List Str)) ee_nil (by simp [sizeLine]))) hc709 hc710)))) fun v712 s713 e714 r715 => hQ _ _ (Ex.trans (Iv.exx iv650) e714) r715
abbrev s_is_made_of : Stmt := topS 15
abbrev N_is_made_of : List Str := ["text", "signs", "most", "sign"]
theorem sc_is_made_of : FnScope N_is_made_of ["text", "signs", "most"] (defScope s_is_made_of) := ⟨rfl, rfl, rfl, by decide +kernel, rfl, by decide +kernel, by decide +kernel⟩
noncomputable def m_is_made_of (text716 : Str) (signs719 : Str) (most722 : Int) : Option Bool :=
 (chk ((text716).length ≤ sizeLine) (if ((decide (((text716).length : Int) < (1 : Int))) || (decide (most722 < ((text716).length : Int)))) = true then
 (some false)
 else
 (bnd (foldF (ρ := Bool) (fun (b746 : Unit) (x748 : Str) =>
 (if (!inS x748 signs719) = true then
 (some (Fl.rt false))
 else
 (some (Fl.nx ())))) () (chars text716)) fun o744 =>
 (Fl.go o744 (fun b796 => (some true)) (fun rr => (some rr))))))
noncomputable abbrev a_is_made_of : Str × Str × Int × Unit → Option Bool := fun a => m_is_made_of a.1 a.2.1 a.2.2.1
theorem ok_is_made_of {P : Program} {w : World} {K : PySem.W.Frag} {mg : Str → Option Value} {base : Heap} {f : Addr} {fd : FuncData} (F : FunP K "is_made_of" s_is_made_of f fd) (hmg : mg "is_made_of" = some (.ref f)) (z_len : mg "len" = none) : Cal P w K mg base CX0 1 "is_made_of" (sp K a_is_made_of) := by
  refine mk_cal (k := 0) F hmg (F.bindsN fun _ _ _ _ _ _ us hl => match us, hl with | [_, _, _], _ => rfl) sc_is_made_of len3 ?_
  rintro cdv A' outer sh0 H0 X0 hr s0 vs ⟨text716, signs719, most722, _⟩ r0 Q ⟨v717, _, rfl, r718, v720, _, rfl, r721, v723, _, rfl, r724, rfl⟩ hm hQ
  unfold a_is_made_of m_is_made_of at hm
  dsimp only at hm
  have iv725 : Iv K (fun _ => False) s0 s0 [fz v717 (text716 : Str), fz v720 (signs719 : Str), fz v723 (most722 : Int), top] := (Iv.sf (Iv.sf (Iv.sf (Iv.tops (K := K) (P0 := (fun _ => False)) 4 s0) 0 (Ex.refl s0) r718 rfl) 1 (Ex.refl s0) r721 rfl) 2 (Ex.refl s0) r724 rfl)
  obtain ⟨hc728, hm⟩ := chkE hm
  refine do_ifR (EvW.tt (EvC.w (ec_or (eb_lt (ev_lenS z_len hc728 (ev_var 0 rfl (Iv.fz (x := (text716 : Str)) iv725 0))) ev_int) fun _ => (ec_or1 (eb_gt (ev_lenS z_len hc728 (ev_var 0 rfl (Iv.fz (x := (text716 : Str)) iv725 0))) (ev_var 2 rfl (Iv.fz (x := (most722 : Int)) iv725 2))))))) (fun hb730 s731 e732 => ?_) (fun hb739 s740 e741 => ?_)
  · have hm733 := iteE1 hm hb730
    have iv734 := Iv.ex iv725 e732
    obtain rfl := Option.some.inj hm733
    exact do_ret ev_bl fun v735 s736 e737 r738 => hQ _ _ (Ex.trans (Iv.exx iv734) e737) r738
  · have hm742 := iteE2 hm hb739
    have iv743 := Iv.ex iv725 e741
    obtain ⟨o744, ho745, hm742⟩ := bndE hm742
    refine do_forF (ρ := Bool) (υ := Unit) PassesOwn.never rfl (ei_str (ev_var 0 rfl (Iv.fz (x := (text716 : Str)) iv743 0))) (pg_name (i := 3) sc_is_made_of.nd rfl (by first | exact Or.inl rfl | exact Or.inr rfl)) tg_n ho745 (fun (b746 : Unit) (σ' : L2.St) (t' : S) => ∃ (y_sign : Option V), σ' = [some v717, some v720, some v723, y_sign] ∧ Iv K (fun _ => False) s0 t' [fz v717 (text716 : Str), fz v720 (signs719 : Str), fz v723 (most722 : Int), top]) (fun s793 k794 => by have iv795 := Iv.ex iv743 k794; exact ⟨_, rfl, Iv.sel iv795 [some 0, some 1, some 2, none] (by decide +kernel) (by kernel_rfl)⟩) (fun s749 k750 x748 b746 q769 σ759 σ760 t757 t758 hx751 hm752 hq770 fl753 hR754 k755 hB756 => ?_) (fun s787 k788 b796 σ789 t790 ho797 fl791 hR792 => ?_)
    · have hf761 := Fle.trans k750.f fl753
      obtain ⟨y762, rfl, iv763⟩ := hR754
      obtain ⟨v764, r765, rfl⟩ := hB756
      have iv766 := Iv.ex iv763 k755
      have iv767 := Iv.sf iv766 3 (Ex.refl t758) r765 rfl
      have fl768 := Fle.trans (Fle.refl t758.F) (Ex.refl t758).f
      refine do_ifR (EvB.t (eb_notInS (ev_var 3 rfl (Iv.fz (x := (x748 : Str)) iv767 3)) (ev_var 1 rfl (Iv.fz (x := (signs719 : Str)) iv767 1)))) (fun hb771 s772 e773 => ?_) (fun hb781 s782 e783 => ?_)
      · have hm774 := iteE1 hm752 hb771
        have iv775 := Iv.ex iv767 e773
        have fl776 := Fle.trans (Fle.refl t758.F) e773.f
        obtain rfl := Option.some.inj hm774
        obtain rfl := hq770 _ rfl
        obtain rfl := Option.some.inj hm742
        exact do_ret ev_bl fun v777 s778 e779 r780 => hQ _ _ (Ex.trans (Iv.exx iv775) e779) r780
      · have hm784 := iteE2 hm752 hb781
        have iv785 := Iv.ex iv767 e783
        have fl786 := Fle.trans (Fle.refl t758.F) e783.f
        obtain rfl := Option.some.inj hm784
        exact do_nil ⟨s782, rfl, _, rfl, fl786, ⟨_, rfl, Iv.sel iv785 [some 0, some 1, some 2, none] (by decide +kernel) (by kernel_rfl)⟩⟩
    · subst ho797
      replace hm742 := goN hm742
      have hf798 := Fle.trans k788.f fl791
      obtain ⟨y799, rfl, iv800⟩ := hR792
      obtain rfl := Option.some.inj hm742
      exact do_ret ev_bl fun v801 s802 e803 r804 => hQ _ _ (Ex.trans (Iv.exx iv800) e803) r804
abbrev s_number_of : Stmt := topS 17
abbrev N_number_of : List Str := ["text"]
theorem sc_number_of : FnScope N_number_of ["text"] (defScope s_number_of) := ⟨rfl, rfl, rfl, by decide +kernel, rfl, by decide +kernel, by decide +kernel⟩
noncomputable def m_number_of (text805 : Str) : Option (Option Int) :=
 (bnd (m_is_made_of text805 c_FIGURES (60 : Int)) fun is_made_of818 => (bnd (orO (!is_made_of818) (bnd (sgn text805 (0 : Int)) fun at822 => (some ((decide (at822 = ("0" : Str))) && (!decide (text805 = ("0" : Str))))))) fun c823 => (if c823 = true then
 (some none)
 else
 (bnd (PySem.intText? text805) fun n839 => (chk ((text805).length ≤ 640) (some (some n839)))))))
noncomputable abbrev a_number_of : Str × Unit → Option (Option Int) := fun a => m_number_of a.1
theorem ok_number_of {P : Program} {w : World} {K : PySem.W.Frag} {mg : Str → Option Value} {base : Heap} {f : Addr} {fd : FuncData} (F : FunP K "number_of" s_number_of f fd) (hmg : mg "number_of" = some (.ref f)) (C_is_made_of : Cal P w K mg base CX0 1 "is_made_of" (sp K a_is_made_of)) (z_int : mg "int" = none) (G_FIGURES : ∃ v u, mg "FIGURES" = some u ∧ RelV v u ∧ ∀ F, rep K F v c_FIGURES) : Cal P w K mg base CX0 2 "number_of" (sp K a_number_of) := by
  refine mk_cal (k := 1) F hmg (F.bindsN fun _ _ _ _ _ _ us hl => match us, hl with | [_], _ => rfl) sc_number_of len1 ?_
  rintro cdv A' outer sh0 H0 X0 hr s0 vs ⟨text805, _⟩ r0 Q ⟨v806, _, rfl, r807, rfl⟩ hm hQ
  unfold a_number_of m_number_of at hm
  dsimp only at hm
  have iv808 : Iv K (fun _ => False) s0 s0 [fz v806 (text805 : Str)] := (Iv.sf (Iv.tops (K := K) (P0 := (fun _ => False)) 1 s0) 0 (Ex.refl s0) r807 rfl)
  obtain ⟨is_made_of818, h_is_made_of818, hm⟩ := bndE hm
  obtain ⟨c823, h_c823, hm⟩ := bndE hm
  refine do_ifR (EvW.tt (EvC.w (by skip; exact ec_orO (eb_not (eb_v (ev_call C_is_made_of hr (by decide) (ea_cons (ev_var 0 rfl (Iv.fz (x := (text805 : Str)) iv808 0)) (ea_cons (ev_glob G_FIGURES) (ea_cons ev_int ea_nil))) h_is_made_of818))) (fun hb824 => (fun hz => (by obtain ⟨at822, h_at822, hz⟩ := bndE hz; obtain rfl := Option.some.inj hz; exact (ec_or1 (EvC.bb (ec_and (eb_eq (ev_ixS (ev_var 0 rfl (Iv.fz (x := (text805 : Str)) iv808 0)) ev_int h_at822) ev_str) fun _ => (ec_and1 (eb_ne (ev_var 0 rfl (Iv.fz (x := (text805 : Str)) iv808 0)) ev_str))))))) ((orE h_c823).1 hb824)) (orE h_c823).2))) (fun hb825 s826 e827 => ?_) (fun hb834 s835 e836 => ?_)
  · have hm828 := iteE1 hm hb825
    have iv829 := Iv.ex iv808 e827
    obtain rfl := Option.some.inj hm828
    exact do_ret (ev_nonO (α := Int)) fun v830 s831 e832 r833 => hQ _ _ (Ex.trans (Iv.exx iv829) e832) r833
  · have hm837 := iteE2 hm hb834
    have iv838 := Iv.ex iv808 e836
    obtain ⟨n839, h_n839, hm837⟩ := bndE hm837
    obtain ⟨hc840, hm837⟩ := chkE hm837
    obtain rfl := Option.some.inj hm837
    exact do_ret (ev_some (ev_intS z_int (ev_var 0 rfl (Iv.fz (x := (text805 : Str)) iv838 0)) h_n839 hc840)) fun v841 s842 e843 r844 => hQ _ _ (Ex.trans (Iv.exx iv838) e843) r844
abbrev s_asked_number : Stmt := topS 19
abbrev N_asked_number : List Str := ["word", "number"]
theorem sc_asked_number : FnScope N_asked_number ["word"] (defScope s_asked_number) := ⟨rfl, rfl, rfl, by decide +kernel, rfl, by decide +kernel, by decide +kernel⟩
noncomputable def m_asked_number (word845 : Str) : Option (Rz Int) :=
 (bnd (m_number_of word845) fun number_of849 => (lt (number_of849 : (Option Int)) fun number850 =>
 (if (number850).isNone = true then
 (some (Rz.er (Er.pl "NoText")))
 else
 (bnd number850 fun got867 => (some (Rz.ok got867))))))
noncomputable abbrev a_asked_number : Str × Unit → Option (Rz Int) := fun a => m_asked_number a.1
theorem ok_asked_number {P : Program} {w : World} {K : PySem.W.Frag} {mg : Str → Option Value} {base : Heap} {f : Addr} {fd : FuncData} (F : FunP K "asked_number" s_asked_number f fd) (hmg : mg "asked_number" = some (.ref f)) (C_number_of : Cal P w K mg base CX0 2 "number_of" (sp K a_number_of)) (T_NoText : ExcF K mg "NoText") : Cal P w K mg base (L2.CX P w) 3 "asked_number" (spR K a_asked_number) := by
  refine mk_calR (k := 2) F hmg (F.bindsN fun _ _ _ _ _ _ us hl => match us, hl with | [_], _ => rfl) sc_asked_number len1 ?_
  rintro cdv A' outer sh0 H0 X0 hr s0 vs ⟨word845, _⟩ r0 Q ⟨v846, _, rfl, r847, rfl⟩ hm hQ
  unfold a_asked_number m_asked_number at hm
  dsimp only at hm
  have iv848 : Iv K (fun _ => False) s0 s0 [fz v846 (word845 : Str), top] := (Iv.sf (Iv.tops (K := K) (P0 := (fun _ => False)) 2 s0) 0 (Ex.refl s0) r847 rfl)
  obtain ⟨number_of849, h_number_of849, hm⟩ := bndE hm
  refine do_set 1 (ev_call C_number_of hr (by decide) (ea_cons (ev_var 0 rfl (Iv.fz (x := (word845 : Str)) iv848 0)) ea_nil) h_number_of849) (fun v854 s852 e853 r855 => ?_) sc_asked_number.nd
  obtain ⟨number850, q851, hm⟩ := ltE hm
  have iv856 := Iv.sf iv848 1 e853 r855 q851
  refine do_ifR (EvB.t (eb_isN (ev_var 1 rfl (Iv.fz (x := (number850 : (Option Int))) iv856 1)))) (fun hb857 s858 e859 => ?_) (fun hb862 s863 e864 => ?_)
  · have hm860 := iteE1 hm hb857
    have iv861 := Iv.ex iv856 e859
    obtain rfl := Option.some.inj hm860
    exact do_raise0 T_NoText (takes_of rfl rfl rfl rfl) (hQ _ _ _ (Iv.exx iv861) ⟨rfl, rfl⟩)
  · have hm865 := iteE2 hm hb862
    have iv866 := Iv.ex iv856 e864
    obtain ⟨got867, h_got867, hm865⟩ := bndE hm865
    obtain rfl := Option.some.inj hm865
    exact do_ret (ev_some' (ev_var 1 rfl (Iv.fz (x := (number850 : (Option Int))) iv866 1)) h_got867) fun v868 s869 e870 r871 => hQ _ _ (Ex.trans (Iv.exx iv866) e870) r871
abbrev s_asked_order : Stmt := topS 11
abbrev N_asked_order : List Str := ["order"]
theorem sc_asked_order : FnScope N_asked_order ["order"] (defScope s_asked_order) := ⟨rfl, rfl, rfl, by decide +kernel, rfl, by decide +kernel, by decide +kernel⟩
noncomputable def m_asked_order (order872 : (List Int)) : Option (Rz Bool) :=
 (bnd (orO (decide (((order872).length : Int) < (1 : Int))) (orO (decide ((40 : Int) < ((order872).length : Int))) (chk (RgOk 0 ((order872).length : Int)) (some (!decide ((sortI order872) = (rng 0 ((order872).length : Int)))))))) fun c880 => (if c880 = true then
 (some (Rz.er (Er.pl "NoOrder")))
 else
 (some (Rz.ok true))))
noncomputable abbrev a_asked_order : (List Int) × Unit → Option (Rz Bool) := fun a => m_asked_order a.1
theorem ok_asked_order {P : Program} {w : World} {K : PySem.W.Frag} {mg : Str → Option Value} {base : Heap} {f : Addr} {fd : FuncData} (F : FunP K "asked_order" s_asked_order f fd) (hmg : mg "asked_order" = some (.ref f)) (z_len : mg "len" = none) (z_sorted : mg "sorted" = none) (z_list : mg "list" = none) (z_range : mg "range" = none) (T_NoOrder : ExcF K mg "NoOrder") : Cal P w K mg base (L2.CX P w) 1 "asked_order" (spR K a_asked_order) := by
  refine mk_calR (k := 0) F hmg (F.bindsN fun _ _ _ _ _ _ us hl => match us, hl with | [_], _ => rfl) sc_asked_order len1 ?_
  rintro cdv A' outer sh0 H0 X0 hr s0 vs ⟨order872, _⟩ r0 Q ⟨v873, _, rfl, r874, rfl⟩ hm hQ
  unfold a_asked_order m_asked_order at hm
  dsimp only at hm
  have iv875 : Iv K (fun _ => False) s0 s0 [fz v873 (order872 : (List Int))] := (Iv.sf (Iv.tops (K := K) (P0 := (fun _ => False)) 1 s0) 0 (Ex.refl s0) r874 rfl)
  obtain ⟨c880, h_c880, hm⟩ := bndE hm
  refine do_ifR (EvW.tt (EvC.w (by skip; exact ec_orO (eb_lt (ev_len z_len (Ev.r (ev_var 0 rfl (Iv.fz (x := (order872 : (List Int))) iv875 0)))) ev_int) (fun hb881 => (fun hz => (by skip; exact ec_orO (eb_gt (ev_len z_len (Ev.r (ev_var 0 rfl (Iv.fz (x := (order872 : (List Int))) iv875 0)))) ev_int) (fun hb882 => (fun hz => (by obtain ⟨hc879, hz⟩ := chkE hz; obtain rfl := Option.some.inj hz; exact (ec_or1 (eb_neL hr (EvN.r (en_sorted z_sorted (Ev.r (ev_var 0 rfl (Iv.fz (x := (order872 : (List Int))) iv875 0))))) (EvN.r (en_listRg1 z_list z_range (ev_len z_len (Ev.r (ev_var 0 rfl (Iv.fz (x := (order872 : (List Int))) iv875 0)))) hc879)) (shp_of _) (shp_of _))))) ((orE hz).1 hb882)) (orE hz).2)) ((orE h_c880).1 hb881)) (orE h_c880).2))) (fun hb883 s884 e885 => ?_) (fun hb888 s889 e890 => ?_)
  · have hm886 := iteE1 hm hb883
    have iv887 := Iv.ex iv875 e885
    obtain rfl := Option.some.inj hm886
    exact do_raise0 T_NoOrder (takes_of rfl rfl rfl rfl) (hQ _ _ _ (Iv.exx iv887) ⟨rfl, rfl⟩)
  · have hm891 := iteE2 hm hb888
    have iv892 := Iv.ex iv875 e890
    obtain rfl := Option.some.inj hm891
    exact do_ret ev_bl fun v893 s894 e895 r896 => hQ _ _ (Ex.trans (Iv.exx iv892) e895) r896
abbrev s_read_order : Stmt := topS 20
abbrev N_read_order : List Str := ["text", "order", "good", "word"]
theorem sc_read_order : FnScope N_read_order ["text"] (defScope s_read_order) := ⟨rfl, rfl, rfl, by decide +kernel, rfl, by decide +kernel, by decide +kernel⟩
noncomputable def m_read_order (text897 : Str) : Option (Rz (List Int)) :=
 (chk ((text897).length + 2 ≤ sizeLine) (chk (((Txt.split text897 ("," : Str))).length ≤ sizeLine) (tb (mapR (fun (x902 : Str) => (m_asked_number x902)) (Txt.split text897 ("," : Str))) (fun er917 => (some (Rz.er er917))) fun ys915 => (chk ((ys915).length ≤ sizeLine) (lt (ys915 : (List Int)) fun order921 =>
 (lt (true : Bool) fun good934 =>
 (tb (m_asked_order order921) (fun er946 => (chk (exE tab er946 "NoOrder" = some true) (lt (false : Bool) fun good962 =>
 (if (!good962) = true then
 (some (Rz.er (Er.pl "NoText")))
 else
 (some (Rz.ok order921)))))) fun asked_order945 => (if (!good934) = true then
 (some (Rz.er (Er.pl "NoText")))
 else
 (some (Rz.ok order921))))))))))
noncomputable abbrev a_read_order : Str × Unit → Option (Rz (List Int)) := fun a => m_read_order a.1
theorem ok_read_order {P : Program} {w : World} {K : PySem.W.Frag} {mg : Str → Option Value} {base : Heap} {f : Addr} {fd : FuncData} (F : FunP K "read_order" s_read_order f fd) (hmg : mg "read_order" = some (.ref f)) (C_asked_number : Cal P w K mg base (L2.CX P w) 3 "asked_number" (spR K a_asked_number)) (C_asked_order : Cal P w K mg base (L2.CX P w) 1 "asked_order" (spR K a_asked_order)) (T_NoText : ExcF K mg "NoText") (N_NoOrder : mg "NoOrder" = some (.ref (He.ga K "NoOrder"))) (TB : tab.ok K = true) : Cal P w K mg base (L2.CX P w) 4 "read_order" (spR K a_read_order) := by
  refine mk_calR (k := 3) F hmg (F.bindsN fun _ _ _ _ _ _ us hl => match us, hl with | [_], _ => rfl) sc_read_order len1 ?_
  rintro cdv A' outer sh0 H0 X0 hr s0 vs ⟨text897, _⟩ r0 Q ⟨v898, _, rfl, r899, rfl⟩ hm hQ
  unfold a_read_order m_read_order at hm
  dsimp only at hm
  have iv900 : Iv K (fun _ => False) s0 s0 [fz v898 (text897 : Str), top, top, top] := (Iv.sf (Iv.tops (K := K) (P0 := (fun _ => False)) 4 s0) 0 (Ex.refl s0) r899 rfl)
  obtain ⟨hc901, hm⟩ := chkE hm
  obtain ⟨hc914, hm⟩ := chkE hm
  rcases tbE hm with ⟨er917, he918, hm⟩ | ⟨ys915, h916, hm⟩
  · obtain rfl := Option.some.inj hm
    refine do_setLX (en_compX (own := [("word", 3)]) (j := 3) (f := fun (x902 : Str) => (m_asked_number x902)) rfl sc_read_order.nd rfl rfl (takes_of rfl rfl rfl rfl) (ei_list (EvN.ev (en_split (ev_var 0 rfl (Iv.fz (x := (text897 : Str)) iv900 0)) ev_str rfl hc901))) (blkOk_by (own := [("word", 3)]) (N := N_read_order) (sc := defScope s_read_order) (by decide +kernel)) rfl (by decide) (fun _ _ _ _ _ => pg_name (i := 3) sc_read_order.nd rfl (by first | exact Or.inl rfl | exact Or.inr rfl)) he918 hc914 (fun _ _ _ k2 r2 => hQ _ _ _ (Ex.trans (Iv.exx iv900) k2) r2) (fun x902 y903 v909 s904 hx906 e905 r910 hf907 _ _ _ _ _ _ _ => by have h_asked_number911 := hf907; exact (ev_callR C_asked_number hr (by decide) (ea_cons (ev_var 3 rfl r910) ea_nil) h_asked_number911)) (fun x902 v909 s904 hx906 e905 r910 hf907 _ _ _ _ _ _ _ hp920 => by have h_asked_number911 := hf907; exact (evX_callP C_asked_number hp920 e905 hr (by decide) (ea_cons (ev_var 3 rfl r910) ea_nil) h_asked_number911))) rfl rfl
  obtain ⟨hc919, hm⟩ := chkE hm
  refine do_setL 1 (en_comp0 (own := [("word", 3)]) (j := 3) (f := fun z => okO ((fun (x902 : Str) => (m_asked_number x902)) z)) rfl sc_read_order.nd (ei_list (EvN.ev (en_split (ev_var 0 rfl (Iv.fz (x := (text897 : Str)) iv900 0)) ev_str rfl hc901))) (blkOk_by (own := [("word", 3)]) (N := N_read_order) (sc := defScope s_read_order) (by decide +kernel)) rfl (by decide) (fun _ _ _ _ _ => pg_name (i := 3) sc_read_order.nd rfl (by first | exact Or.inl rfl | exact Or.inr rfl)) (mapR_ok h916) hc919 (fun x902 y903 v909 s904 hx906 e905 r910 hf907 _ _ _ _ _ => by replace hf907 := okO_some hf907; have h_asked_number911 := hf907; exact (ev_callR C_asked_number hr (by decide) (ea_cons (ev_var 3 rfl r910) ea_nil) h_asked_number911))) (fun p927 s923 e924 n928 o929 => ?_) rfl rfl
  obtain ⟨s930, hs931, e932, r926⟩ := frz_ex e924 n928 o929
  rw [← hs931]
  obtain ⟨order921, q922, hm⟩ := ltE hm
  have iv933 := Iv.sf iv900 1 e932 r926 q922
  refine do_set 2 ev_bl (fun v938 s936 e937 r939 => ?_) sc_read_order.nd
  obtain ⟨good934, q935, hm⟩ := ltE hm
  have iv940 := Iv.sf iv933 2 e937 r939 q935
  refine do_tryG sc_read_order.nd (hd_no (names_of N_NoOrder) HdsG.nil) (takes_of rfl rfl rfl rfl) (fun pn941 xe942 tk943 po944 => ?_)
  rcases tbE hm with ⟨er946, he947, hm⟩ | ⟨asked_order945, h_asked_order945, hm⟩
  · refine do_dropX (evX_call C_asked_order tk943 hr (by decide) (ea_cons (ev_var 1 rfl (Iv.fz (x := (order921 : (List Int))) iv940 1)) ea_nil) he947 (fun _ _ s948 k949 r950 => ?_))
    obtain rfl := exR_cls r950
    obtain ⟨hx953, hm⟩ := chkE hm
    have hb954 := exE_ok TB r950 hx953
    refine wg_no (won_of hb954 (fun a955 ha956 oe957 pn958 hz959 hf960 => ?_))
    have iv961 := Iv.ex iv940 k949
    refine do_set 2 ev_bl (fun v966 s964 e965 r967 => ?_) sc_read_order.nd
    obtain ⟨good962, q963, hm⟩ := ltE hm
    have iv968 := Iv.sf iv961 2 e965 r967 q963
    refine do_nil (show WSs _ _ _ _ _ from ?_)
    refine do_ifR (EvB.t (eb_not (eb_v (ev_var 2 rfl (Iv.fz (x := (good962 : Bool)) iv968 2))))) (fun hb969 s970 e971 => ?_) (fun hb974 s975 e976 => ?_)
    · have hm972 := iteE1 hm hb969
      have iv973 := Iv.ex iv968 e971
      obtain rfl := Option.some.inj hm972
      exact do_raise0 T_NoText (takes_of rfl rfl rfl rfl) (hQ _ _ _ (Iv.exx iv973) ⟨rfl, rfl⟩)
    · have hm977 := iteE2 hm hb974
      have iv978 := Iv.ex iv968 e976
      obtain rfl := Option.some.inj hm977
      exact do_ret (ev_var 1 rfl (Iv.fz (x := (order921 : (List Int))) iv978 1)) fun v979 s980 e981 r982 => hQ _ _ (Ex.trans (Iv.exx iv978) e981) r982
  refine do_drop (ev_callR C_asked_order hr (by decide) (ea_cons (ev_var 1 rfl (Iv.fz (x := (order921 : (List Int))) iv940 1)) ea_nil) h_asked_order945) (fun s983 e984 => ?_)
  have iv985 := Iv.ex iv940 e984
  refine do_nil (show WSs _ _ _ _ _ from ?_)
  refine do_ifR (EvB.t (eb_not (eb_v (ev_var 2 rfl (Iv.fz (x := (good934 : Bool)) iv985 2))))) (fun hb986 s987 e988 => ?_) (fun hb991 s992 e993 => ?_)
  · have hm989 := iteE1 hm hb986
    have iv990 := Iv.ex iv985 e988
    obtain rfl := Option.some.inj hm989
    exact do_raise0 T_NoText (takes_of rfl rfl rfl rfl) (hQ _ _ _ (Iv.exx iv990) ⟨rfl, rfl⟩)
  · have hm994 := iteE2 hm hb991
    have iv995 := Iv.ex iv985 e993
    obtain rfl := Option.some.inj hm994
    exact do_ret (ev_var 1 rfl (Iv.fz (x := (order921 : (List Int))) iv995 1)) fun v996 s997 e998 r999 => hQ _ _ (Ex.trans (Iv.exx iv995) e998) r999
abbrev s_is_name : Stmt := topS 16
abbrev N_is_name : List Str := ["text"]
theorem sc_is_name : FnScope N_is_name ["text"] (defScope s_is_name) := ⟨rfl, rfl, rfl, by decide +kernel, rfl, by decide +kernel, by decide +kernel⟩
noncomputable def m_is_name (text1000 : Str) : Option Bool :=
 (bnd (m_is_made_of text1000 c_LETTERS (10 : Int)) fun is_made_of1005 => (some is_made_of1005))
noncomputable abbrev a_is_name : Str × Unit → Option Bool := fun a => m_is_name a.1
theorem ok_is_name {P : Program} {w : World} {K : PySem.W.Frag} {mg : Str → Option Value} {base : Heap} {f : Addr} {fd : FuncData} (F : FunP K "is_name" s_is_name f fd) (hmg : mg "is_name" = some (.ref f)) (C_is_made_of : Cal P w K mg base CX0 1 "is_made_of" (sp K a_is_made_of)) (G_LETTERS : ∃ v u, mg "LETTERS" = some u ∧ RelV v u ∧ ∀ F, rep K F v c_LETTERS) : Cal P w K mg base CX0 2 "is_name" (sp K a_is_name) := by
  refine mk_cal (k := 1) F hmg (F.bindsN fun _ _ _ _ _ _ us hl => match us, hl with | [_], _ => rfl) sc_is_name len1 ?_
  rintro cdv A' outer sh0 H0 X0 hr s0 vs ⟨text1000, _⟩ r0 Q ⟨v1001, _, rfl, r1002, rfl⟩ hm hQ
  unfold a_is_name m_is_name at hm
  dsimp only at hm
  have iv1003 : Iv K (fun _ => False) s0 s0 [fz v1001 (text1000 : Str)] := (Iv.sf (Iv.tops (K := K) (P0 := (fun _ => False)) 1 s0) 0 (Ex.refl s0) r1002 rfl)
  obtain ⟨is_made_of1005, h_is_made_of1005, hm⟩ := bndE hm
  obtain rfl := Option.some.inj hm
  exact do_ret (ev_call C_is_made_of hr (by decide) (ea_cons (ev_var 0 rfl (Iv.fz (x := (text1000 : Str)) iv1003 0)) (ea_cons (ev_glob G_LETTERS) (ea_cons ev_int ea_nil))) h_is_made_of1005) fun v1006 s1007 e1008 r1009 => hQ _ _ (Ex.trans (Iv.exx iv1003) e1008) r1009
abbrev s_read_instruments : Stmt := topS 24
abbrev N_read_instruments : List Str := ["text", "names", "name"]
theorem sc_read_instruments : FnScope N_read_instruments ["text"] (defScope s_read_instruments) := ⟨rfl, rfl, rfl, by decide +kernel, rfl, by decide +kernel, by decide +kernel⟩
noncomputable def m_read_instruments (text1010 : Str) : Option (Rz (Tu Str)) :=
 (if (decide (text1010 = ("-" : Str))) = true then
 (some (Rz.ok (⟨[]⟩ : Tu Str)))
 else
 (chk ((text1010).length + 2 ≤ sizeLine) (lt ((Txt.split text1010 ("," : Str)) : (List Str)) fun names1029 =>
 (bnd (foldF (ρ := (Rz (Tu Str))) (fun (b1038 : Unit) (x1040 : Str) =>
 (bnd (m_is_name x1040) fun is_name1066 => (if (!is_name1066) = true then
 (some (Fl.rt (Rz.er (Er.pl "NoText"))))
 else
 (some (Fl.nx ()))))) () names1029) fun o1036 =>
 (Fl.go o1036 (fun b1088 => (chk ((names1029).length ≤ 4000) (if (!decide ((((ddS names1029).length : Nat) : Int) = ((names1029).length : Int))) = true then
 (some (Rz.er (Er.pl "NoText")))
 else
 (some (Rz.ok (⟨names1029⟩ : Tu Str)))))) (fun rr => (some rr)))))))
noncomputable abbrev a_read_instruments : Str × Unit → Option (Rz (Tu Str)) := fun a => m_read_instruments a.1
theorem ok_read_instruments {P : Program} {w : World} {K : PySem.W.Frag} {mg : Str → Option Value} {base : Heap} {f : Addr} {fd : FuncData} (F : FunP K "read_instruments" s_read_instruments f fd) (hmg : mg "read_instruments" = some (.ref f)) (C_is_name : Cal P w K mg base CX0 2 "is_name" (sp K a_is_name)) (z_len : mg "len" = none) (z_set : mg "set" = none) (z_tuple : mg "tuple" = none) (T_NoText : ExcF K mg "NoText") : Cal P w K mg base (L2.CX P w) 3 "read_instruments" (spR K a_read_instruments) := by
  refine mk_calR (k := 2) F hmg (F.bindsN fun _ _ _ _ _ _ us hl => match us, hl with | [_], _ => rfl) sc_read_instruments len1 ?_
  rintro cdv A' outer sh0 H0 X0 hr s0 vs ⟨text1010, _⟩ r0 Q ⟨v1011, _, rfl, r1012, rfl⟩ hm hQ
  unfold a_read_instruments m_read_instruments at hm
  dsimp only at hm
  have iv1013 : Iv K (fun _ => False) s0 s0 [fz v1011 (text1010 : Str), top, top] := (Iv.sf (Iv.tops (K := K) (P0 := (fun _ => False)) 3 s0) 0 (Ex.refl s0) r1012 rfl)
  refine do_ifR (EvB.t (eb_eq (ev_var 0 rfl (Iv.fz (x := (text1010 : Str)) iv1013 0)) ev_str)) (fun hb1014 s1015 e1016 => ?_) (fun hb1023 s1024 e1025 => ?_)
  · have hm1017 := iteE1 hm hb1014
    have iv1018 := Iv.ex iv1013 e1016
    obtain rfl := Option.some.inj hm1017
    exact do_ret (ev_tu (xs := ([] : List Str)) ee_nil (by simp [sizeLine])) fun v1019 s1020 e1021 r1022 => hQ _ _ (Ex.trans (Iv.exx iv1018) e1021) r1022
  · have hm1026 := iteE2 hm hb1023
    have iv1027 := Iv.ex iv1013 e1025
    obtain ⟨hc1028, hm1026⟩ := chkE hm1026
    refine do_set 1 (EvN.ev (en_split (ev_var 0 rfl (Iv.fz (x := (text1010 : Str)) iv1027 0)) ev_str rfl hc1028)) (fun v1033 s1031 e1032 r1034 => ?_) sc_read_instruments.nd
    obtain ⟨names1029, q1030, hm1026⟩ := ltE hm1026
    have iv1035 := Iv.sf iv1027 1 e1032 r1034 q1030
    obtain ⟨o1036, ho1037, hm1026⟩ := bndE hm1026
    refine do_forF (ρ := (Rz (Tu Str))) (υ := Unit) (passes_of rfl) rfl (ei_list (ev_var 1 rfl (Iv.fz (x := (names1029 : (List Str))) iv1035 1))) (pg_name (i := 2) sc_read_instruments.nd rfl (by first | exact Or.inl rfl | exact Or.inr rfl)) tg_n ho1037 (fun (b1038 : Unit) (σ' : L2.St) (t' : S) => ∃ (y_name : Option V), σ' = [some v1011, some v1033, y_name] ∧ Iv K (fun _ => False) s0 t' [fz v1011 (text1010 : Str), fz v1033 (names1029 : (List Str)), top]) (fun s1085 k1086 => by have iv1087 := Iv.ex iv1035 k1086; exact ⟨_, rfl, Iv.sel iv1087 [some 0, some 1, none] (by decide +kernel) (by kernel_rfl)⟩) (fun s1041 k1042 x1040 b1038 q1061 σ1051 σ1052 t1049 t1050 hx1043 hm1044 hq1062 fl1045 hR1046 k1047 hB1048 => ?_) (fun s1079 k1080 b1088 σ1081 t1082 ho1089 fl1083 hR1084 => ?_)
    · have hf1053 := Fle.trans k1042.f fl1045
      obtain ⟨y1054, rfl, iv1055⟩ := hR1046
      obtain ⟨v1056, r1057, rfl⟩ := hB1048
      have iv1058 := Iv.ex iv1055 k1047
      have iv1059 := Iv.sf iv1058 2 (Ex.refl t1050) r1057 rfl
      have fl1060 := Fle.trans (Fle.refl t1050.F) (Ex.refl t1050).f
      obtain ⟨is_name1066, h_is_name1066, hm1044⟩ := bndE hm1044
      refine do_ifR (EvB.t (eb_not (eb_v (ev_call C_is_name hr (by decide) (ea_cons (ev_var 2 rfl (Iv.fz (x := (x1040 : Str)) iv1059 2)) ea_nil) h_is_name1066)))) (fun hb1067 s1068 e1069 => ?_) (fun hb1073 s1074 e1075 => ?_)
      · have hm1070 := iteE1 hm1044 hb1067
        have iv1071 := Iv.ex iv1059 e1069
        have fl1072 := Fle.trans (Fle.refl t1050.F) e1069.f
        obtain rfl := Option.some.inj hm1070
        obtain rfl := hq1062 _ rfl
        obtain rfl := Option.some.inj hm1026
        exact do_raise0 T_NoText (takes_of rfl rfl rfl rfl) (hQ _ _ _ (Iv.exx iv1071) ⟨rfl, rfl⟩)
      · have hm1076 := iteE2 hm1044 hb1073
        have iv1077 := Iv.ex iv1059 e1075
        have fl1078 := Fle.trans (Fle.refl t1050.F) e1075.f
        obtain rfl := Option.some.inj hm1076
        exact do_nil ⟨s1074, rfl, _, rfl, fl1078, ⟨_, rfl, Iv.sel iv1077 [some 0, some 1, none] (by decide +kernel) (by kernel_rfl)⟩⟩
    · subst ho1089
      replace hm1026 := goN hm1026
      have hf1090 := Fle.trans k1080.f fl1083
      obtain ⟨y1091, rfl, iv1092⟩ := hR1084
      obtain ⟨hc1094, hm1026⟩ := chkE hm1026
      refine do_ifR (EvB.t (eb_ne (ev_dszS z_len z_set (Ev.r (ev_var 1 rfl (Iv.fz (x := (names1029 : (List Str))) iv1092 1))) hc1094) (ev_len z_len (Ev.r (ev_var 1 rfl (Iv.fz (x := (names1029 : (List Str))) iv1092 1)))))) (fun hb1095 s1096 e1097 => ?_) (fun hb1100 s1101 e1102 => ?_)
      · have hm1098 := iteE1 hm1026 hb1095
        have iv1099 := Iv.ex iv1092 e1097
        obtain rfl := Option.some.inj hm1098
        exact do_raise0 T_NoText (takes_of rfl rfl rfl rfl) (hQ _ _ _ (Iv.exx iv1099) ⟨rfl, rfl⟩)
      · have hm1103 := iteE2 hm1026 hb1100
        have iv1104 := Iv.ex iv1092 e1102
        obtain rfl := Option.some.inj hm1103
        exact do_ret (ev_tuple z_tuple (Ev.r (ev_var 1 rfl (Iv.fz (x := (names1029 : (List Str))) iv1104 1)))) fun v1105 s1106 e1107 r1108 => hQ _ _ (Ex.trans (Iv.exx iv1104) e1107) r1108
abbrev s_read_breaks : Stmt := topS 22
abbrev N_read_breaks : List Str := ["text", "word"]
theorem sc_read_breaks : FnScope N_read_breaks ["text"] (defScope s_read_breaks) := ⟨rfl, rfl, rfl, by decide +kernel, rfl, by decide +kernel, by decide +kernel⟩
noncomputable def m_read_breaks (text1109 : Str) : Option (Rz (List Int)) :=
 (if (decide (text1109 = ("-" : Str))) = true then
 (some (Rz.ok ([] : List Int)))
 else
 (chk ((text1109).length + 2 ≤ sizeLine) (chk (((Txt.split text1109 ("," : Str))).length ≤ sizeLine) (tb (mapR (fun (x1128 : Str) => (m_asked_number x1128)) (Txt.split text1109 ("," : Str))) (fun er1143 => (some (Rz.er er1143))) fun ys1141 => (chk ((ys1141).length ≤ sizeLine) (some (Rz.ok ys1141)))))))
noncomputable abbrev a_read_breaks : Str × Unit → Option (Rz (List Int)) := fun a => m_read_breaks a.1
theorem ok_read_breaks {P : Program} {w : World} {K : PySem.W.Frag} {mg : Str → Option Value} {base : Heap} {f : Addr} {fd : FuncData} (F : FunP K "read_breaks" s_read_breaks f fd) (hmg : mg "read_breaks" = some (.ref f)) (C_asked_number : Cal P w K mg base (L2.CX P w) 3 "asked_number" (spR K a_asked_number)) : Cal P w K mg base (L2.CX P w) 4 "read_breaks" (spR K a_read_breaks) := by
  refine mk_calR (k := 3) F hmg (F.bindsN fun _ _ _ _ _ _ us hl => match us, hl with | [_], _ => rfl) sc_read_breaks len1 ?_
  rintro cdv A' outer sh0 H0 X0 hr s0 vs ⟨text1109, _⟩ r0 Q ⟨v1110, _, rfl, r1111, rfl⟩ hm hQ
  unfold a_read_breaks m_read_breaks at hm
  dsimp only at hm
  have iv1112 : Iv K (fun _ => False) s0 s0 [fz v1110 (text1109 : Str), top] := (Iv.sf (Iv.tops (K := K) (P0 := (fun _ => False)) 2 s0) 0 (Ex.refl s0) r1111 rfl)
  refine do_ifR (EvB.t (eb_eq (ev_var 0 rfl (Iv.fz (x := (text1109 : Str)) iv1112 0)) ev_str)) (fun hb1113 s1114 e1115 => ?_) (fun hb1122 s1123 e1124 => ?_)
  · have hm1116 := iteE1 hm hb1113
    have iv1117 := Iv.ex iv1112 e1115
    obtain rfl := Option.some.inj hm1116
    exact do_ret (EvN.ev (en_list (xs := ([] : List Int)) ee_nil (by simp [sizeLine]))) fun v1118 s1119 e1120 r1121 => hQ _ _ (Ex.trans (Iv.exx iv1117) e1120) r1121
  · have hm1125 := iteE2 hm hb1122
    have iv1126 := Iv.ex iv1112 e1124
    obtain ⟨hc1127, hm1125⟩ := chkE hm1125
    obtain ⟨hc1140, hm1125⟩ := chkE hm1125
    rcases tbE hm1125 with ⟨er1143, he1144, hm1125⟩ | ⟨ys1141, h1142, hm1125⟩
    · obtain rfl := Option.some.inj hm1125
      refine do_retX (EvLX.x (en_compX (own := [("word", 1)]) (j := 1) (f := fun (x1128 : Str) => (m_asked_number x1128)) rfl sc_read_breaks.nd rfl rfl (takes_of rfl rfl rfl rfl) (ei_list (EvN.ev (en_split (ev_var 0 rfl (Iv.fz (x := (text1109 : Str)) iv1126 0)) ev_str rfl hc1127))) (blkOk_by (own := [("word", 1)]) (N := N_read_breaks) (sc := defScope s_read_breaks) (by decide +kernel)) rfl (by decide) (fun _ _ _ _ _ => pg_name (i := 1) sc_read_breaks.nd rfl (by first | exact Or.inl rfl | exact Or.inr rfl)) he1144 hc1140 (fun _ _ _ k2 r2 => hQ _ _ _ (Ex.trans (Iv.exx iv1126) k2) r2) (fun x1128 y1129 v1135 s1130 hx1132 e1131 r1136 hf1133 _ _ _ _ _ _ _ => by have h_asked_number1137 := hf1133; exact (ev_callR C_asked_number hr (by decide) (ea_cons (ev_var 1 rfl r1136) ea_nil) h_asked_number1137)) (fun x1128 v1135 s1130 hx1132 e1131 r1136 hf1133 _ _ _ _ _ _ _ hp1146 => by have h_asked_number1137 := hf1133; exact (evX_callP C_asked_number hp1146 e1131 hr (by decide) (ea_cons (ev_var 1 rfl r1136) ea_nil) h_asked_number1137))))
    obtain ⟨hc1145, hm1125⟩ := chkE hm1125
    obtain rfl := Option.some.inj hm1125
    exact do_ret (EvN.ev (EvL.n (en_comp0 (own := [("word", 1)]) (j := 1) (f := fun z => okO ((fun (x1128 : Str) => (m_asked_number x1128)) z)) rfl sc_read_breaks.nd (ei_list (EvN.ev (en_split (ev_var 0 rfl (Iv.fz (x := (text1109 : Str)) iv1126 0)) ev_str rfl hc1127))) (blkOk_by (own := [("word", 1)]) (N := N_read_breaks) (sc := defScope s_read_breaks) (by decide +kernel)) rfl (by decide) (fun _ _ _ _ _ => pg_name (i := 1) sc_read_breaks.nd rfl (by first | exact Or.inl rfl | exact Or.inr rfl)) (mapR_ok h1142) hc1145 (fun x1128 y1129 v1135 s1130 hx1132 e1131 r1136 hf1133 _ _ _ _ _ => by replace hf1133 := okO_some hf1133; have h_asked_number1137 := hf1133; exact (ev_callR C_asked_number hr (by decide) (ea_cons (ev_var 1 rfl r1136) ea_nil) h_asked_number1137))))) fun v1147 s1148 e1149 r1150 => hQ _ _ (Ex.trans (Iv.exx iv1126) e1149) r1150
abbrev s_l_told : Stmt := topS 36
abbrev N_l_told : List Str := ["_law_kind", "_law_text", "_law_found", "_law_word", "e"]
theorem sc_l_told : FnScope N_l_told ["_law_kind", "_law_text"] (defScope s_l_told) := ⟨rfl, rfl, rfl, by decide +kernel, rfl, by decide +kernel, by decide +kernel⟩
noncomputable def m_l_told (kind1151 : Int) (text1154 : Str) : Option (Str × An) :=
 (lt ((An.o (none : Option Int)) : An) fun found1158 =>
 (lt (("told" : Str) : Str) fun word1165 =>
 (if (decide (kind1151 = (0 : Int))) = true then
 (tb (m_read_order text1154) (fun er1182 => (chk (exE tab er1182 "PairsError" = some true) (lt (("other" : Str) : Str) fun word1196 =>
 (bnd (isE tab er1182 "NoText") fun isE1207 => (bnd (andO isE1207 (bnd (isE tab er1182 "ValueError") fun isE1209 => (some isE1209))) fun c1210 => (bnd (if c1210 = true then
 (lt (("NoText" : Str) : Str) fun word1241 =>
 (some word1241))
 else
 (some word1196) : Option (Str)) fun b1232 =>
 (bnd (isEs tab er1182 ["NoBars", "NoCall", "NoInstrument", "NoName", "NoOrder", "NoPlace", "Twice"]) fun isE1266 => (bnd (if isE1266 = true then
 (lt (("more" : Str) : Str) fun word1296 =>
 (some word1296))
 else
 (some b1232) : Option (Str)) fun b1287 =>
 (some (b1287, found1158)))))))))) fun read_order1181 => (lt ((An.l read_order1181) : An) fun found1324 =>
 (some (word1165, found1324))))
 else
 (if (decide (kind1151 = (1 : Int))) = true then
 (tb (m_read_instruments text1154) (fun er1346 => (chk (exE tab er1346 "PairsError" = some true) (lt (("other" : Str) : Str) fun word1360 =>
 (bnd (isE tab er1346 "NoText") fun isE1371 => (bnd (andO isE1371 (bnd (isE tab er1346 "ValueError") fun isE1373 => (some isE1373))) fun c1374 => (bnd (if c1374 = true then
 (lt (("NoText" : Str) : Str) fun word1405 =>
 (some word1405))
 else
 (some word1360) : Option (Str)) fun b1396 =>
 (bnd (isEs tab er1346 ["NoBars", "NoCall", "NoInstrument", "NoName", "NoOrder", "NoPlace", "Twice"]) fun isE1430 => (bnd (if isE1430 = true then
 (lt (("more" : Str) : Str) fun word1460 =>
 (some word1460))
 else
 (some b1396) : Option (Str)) fun b1451 =>
 (some (b1451, found1158)))))))))) fun read_instruments1345 => (lt ((An.ts read_instruments1345) : An) fun found1488 =>
 (some (word1165, found1488))))
 else
 (tb (m_read_breaks text1154) (fun er1505 => (chk (exE tab er1505 "PairsError" = some true) (lt (("other" : Str) : Str) fun word1519 =>
 (bnd (isE tab er1505 "NoText") fun isE1530 => (bnd (andO isE1530 (bnd (isE tab er1505 "ValueError") fun isE1532 => (some isE1532))) fun c1533 => (bnd (if c1533 = true then
 (lt (("NoText" : Str) : Str) fun word1564 =>
 (some word1564))
 else
 (some word1519) : Option (Str)) fun b1555 =>
 (bnd (isEs tab er1505 ["NoBars", "NoCall", "NoInstrument", "NoName", "NoOrder", "NoPlace", "Twice"]) fun isE1589 => (bnd (if isE1589 = true then
 (lt (("more" : Str) : Str) fun word1619 =>
 (some word1619))
 else
 (some b1555) : Option (Str)) fun b1610 =>
 (some (b1610, found1158)))))))))) fun read_breaks1504 => (lt ((An.l read_breaks1504) : An) fun found1647 =>
 (some (word1165, found1647))))))))
noncomputable abbrev a_l_told : Int × Str × Unit → Option (Str × An) := fun a => m_l_told a.1 a.2.1
theorem ok_l_told {P : Program} {w : World} {K : PySem.W.Frag} {mg : Str → Option Value} {base : Heap} {f : Addr} {fd : FuncData} (F : FunP K "_law_told" s_l_told f fd) (hmg : mg "_law_told" = some (.ref f)) (C_read_order : Cal P w K mg base (L2.CX P w) 4 "read_order" (spR K a_read_order)) (C_read_instruments : Cal P w K mg base (L2.CX P w) 3 "read_instruments" (spR K a_read_instruments)) (C_read_breaks : Cal P w K mg base (L2.CX P w) 4 "read_breaks" (spR K a_read_breaks)) (z_isinstance : mg "isinstance" = none) (z_ValueError : mg "ValueError" = none) (N_PairsError : mg "PairsError" = some (.ref (He.ga K "PairsError"))) (N_NoText : mg "NoText" = some (.ref (He.ga K "NoText"))) (N_NoBars : mg "NoBars" = some (.ref (He.ga K "NoBars"))) (N_NoCall : mg "NoCall" = some (.ref (He.ga K "NoCall"))) (N_NoInstrument : mg "NoInstrument" = some (.ref (He.ga K "NoInstrument"))) (N_NoName : mg "NoName" = some (.ref (He.ga K "NoName"))) (N_NoOrder : mg "NoOrder" = some (.ref (He.ga K "NoOrder"))) (N_NoPlace : mg "NoPlace" = some (.ref (He.ga K "NoPlace"))) (N_Twice : mg "Twice" = some (.ref (He.ga K "Twice"))) (TB : tab.ok K = true) : Cal P w K mg base CX0 5 "_law_told" (sp K a_l_told) := by
  refine mk_cal (k := 4) F hmg (F.bindsN fun _ _ _ _ _ _ us hl => match us, hl with | [_, _], _ => rfl) sc_l_told len2 ?_
  rintro cdv A' outer sh0 H0 X0 hr s0 vs ⟨kind1151, text1154, _⟩ r0 Q ⟨v1152, _, rfl, r1153, v1155, _, rfl, r1156, rfl⟩ hm hQ
  unfold a_l_told m_l_told at hm
  dsimp only at hm
  have iv1157 : Iv K (fun _ => False) s0 s0 [fz v1152 (kind1151 : Int), fz v1155 (text1154 : Str), top, top, top] := (Iv.sf (Iv.sf (Iv.tops (K := K) (P0 := (fun _ => False)) 5 s0) 0 (Ex.refl s0) r1153 rfl) 1 (Ex.refl s0) r1156 rfl)
  refine do_set 2 (an_o (ev_nonO (α := Int))) (fun v1162 s1160 e1161 r1163 => ?_) sc_l_told.nd
  obtain ⟨found1158, q1159, hm⟩ := ltE hm
  have iv1164 := Iv.sf iv1157 2 e1161 r1163 q1159
  refine do_set 3 ev_str (fun v1169 s1167 e1168 r1170 => ?_) sc_l_told.nd
  obtain ⟨word1165, q1166, hm⟩ := ltE hm
  have iv1171 := Iv.sf iv1164 3 e1168 r1170 q1166
  refine do_tryAs 4 sc_l_told.nd (names_of N_PairsError) takes_false (fun pn1172 xe1173 tk1174 po1175 => ?_)
  refine do_ifC (EvB.t (eb_eq (ev_var 0 rfl (Iv.fz (x := (kind1151 : Int)) iv1171 0)) ev_int)) (fun hb1176 s1177 e1178 => ?_) (fun hb1335 s1336 e1337 => ?_)
  · have hm1179 := iteE1 hm hb1176
    have iv1180 := Iv.ex iv1171 e1178
    rcases tbE hm1179 with ⟨er1182, he1183, hm1179⟩ | ⟨read_order1181, h_read_order1181, hm1179⟩
    · obtain ⟨hx1187, hm1179⟩ := chkE hm1179
      refine do_setX 2 (evX_call C_read_order tk1174 hr (by decide) (ea_cons (ev_var 1 rfl (Iv.fz (x := (text1154 : Str)) iv1180 1)) ea_nil) he1183 (fun _ _ s1184 k1185 r1186 => ?_)) sc_l_told.nd
      have hb1188 := exE_ok TB r1186 hx1187
      obtain rfl := exR_cls r1186
      refine was_of hb1188 (fun a1189 ha1190 oe1191 pn1192 hz1193 hf1194 => ?_)
      have iv1195 := Iv.ex iv1180 k1185
      refine do_set 3 ev_str (fun v1200 s1198 e1199 r1201 => ?_) sc_l_told.nd
      obtain ⟨word1196, q1197, hm1179⟩ := ltE hm1179
      have iv1202 := Iv.sf iv1195 3 e1199 r1201 q1197
      have r1203 := ExR.mono e1199.f r1186
      obtain ⟨isE1207, h_isE1207, hm1179⟩ := bndE hm1179
      obtain ⟨c1210, h_c1210, hm1179⟩ := bndE hm1179
      obtain ⟨b1232, hj1233, hm1179⟩ := bndE hm1179
      refine do_if (EvW.tt (EvC.w (by skip; exact ec_andO (eb_v (ev_isE TB h_isE1207 hz1193 hf1194 r1203 z_isinstance (ev_var 4 rfl (show rep _ _ (V.ref a1189) (Rw.mk (V.ref a1189)) from rfl)) (ev_cls (.inl ⟨by decide, N_NoText⟩)))) (fun hb1211 => (fun hz => (by obtain ⟨isE1209, h_isE1209, hz⟩ := bndE hz; obtain rfl := Option.some.inj hz; exact (ec_and1 (eb_v (ev_isE TB h_isE1209 hz1193 hf1194 r1203 z_isinstance (ev_var 4 rfl (show rep _ _ (V.ref a1189) (Rw.mk (V.ref a1189)) from rfl)) (ev_cls (.inr ⟨rfl, z_ValueError⟩))))))) ((andE h_c1210).1 hb1211)) (andE h_c1210).2))) (fun (σ' : L2.St) (t' : S) => Fle s1198.F t'.F ∧ ∃ (v_word : V), σ' = [some v1152, some v1155, some v1162, some v_word, some (V.ref a1189)] ∧ Iv K (fun _ => False) s0 t' [fz v1152 (kind1151 : Int), fz v1155 (text1154 : Str), fz v1162 (found1158 : An), fz v_word (b1232 : Str), top]) (fun hb1234 s1235 e1236 => ?_) (fun hb1250 s1251 e1252 => ?_) (fun σ1257 s1258 hM1259 => ?_)
      · have hm1237 := iteE1 hj1233 hb1234
        have iv1238 := Iv.ex iv1202 e1236
        have r1240 := ExR.mono e1236.f r1203
        have fl1239 := Fle.trans (Fle.refl s1198.F) e1236.f
        refine do_set 3 ev_str (fun v1245 s1243 e1244 r1246 => ?_) sc_l_told.nd
        obtain ⟨word1241, q1242, hm1237⟩ := ltE hm1237
        have iv1247 := Iv.sf iv1238 3 e1244 r1246 q1242
        have r1249 := ExR.mono e1244.f r1240
        have fl1248 := Fle.trans fl1239 e1244.f
        obtain rfl := Option.some.inj hm1237
        exact do_nil ⟨s1243, rfl, fl1248, ⟨v1245, rfl, Iv.sel iv1247 [some 0, some 1, some 2, some 3, none] (by decide +kernel) (by kernel_rfl)⟩⟩
      · have hm1253 := iteE2 hj1233 hb1250
        have iv1254 := Iv.ex iv1202 e1252
        have r1256 := ExR.mono e1252.f r1203
        have fl1255 := Fle.trans (Fle.refl s1198.F) e1252.f
        obtain rfl := Option.some.inj hm1253
        exact do_nil ⟨s1251, rfl, fl1255, ⟨v1200, rfl, Iv.sel iv1254 [some 0, some 1, some 2, some 3, none] (by decide +kernel) (by kernel_rfl)⟩⟩
      · obtain ⟨hf1260, hR1261⟩ := hM1259
        obtain ⟨v1262, rfl, iv1263⟩ := hR1261
        have r1264 := ExR.mono hf1260 r1203
        obtain ⟨isE1266, h_isE1266, hm1179⟩ := bndE hm1179
        obtain ⟨b1287, hj1288, hm1179⟩ := bndE hm1179
        refine do_if (et_v (ev_isEs (c0 := "NoBars") (cr := ["NoCall", "NoInstrument", "NoName", "NoOrder", "NoPlace", "Twice"]) TB h_isE1266 hz1193 hf1194 r1264 z_isinstance (ev_var 4 rfl (show rep _ _ (V.ref a1189) (Rw.mk (V.ref a1189)) from rfl)) (ee_cons (ev_cls (.inl ⟨by decide, N_NoBars⟩)) (ee_cons (ev_cls (.inl ⟨by decide, N_NoCall⟩)) (ee_cons (ev_cls (.inl ⟨by decide, N_NoInstrument⟩)) (ee_cons (ev_cls (.inl ⟨by decide, N_NoName⟩)) (ee_cons (ev_cls (.inl ⟨by decide, N_NoOrder⟩)) (ee_cons (ev_cls (.inl ⟨by decide, N_NoPlace⟩)) (ee_cons (ev_cls (.inl ⟨by decide, N_Twice⟩)) ee_nil))))))) (by decide))) (fun (σ' : L2.St) (t' : S) => Fle s1258.F t'.F ∧ ∃ (v_word : V), σ' = [some v1152, some v1155, some v1162, some v_word, some (V.ref a1189)] ∧ Iv K (fun _ => False) s0 t' [fz v1152 (kind1151 : Int), fz v1155 (text1154 : Str), fz v1162 (found1158 : An), fz v_word (b1287 : Str), top]) (fun hb1289 s1290 e1291 => ?_) (fun hb1305 s1306 e1307 => ?_) (fun σ1312 s1313 hM1314 => ?_)
        · have hm1292 := iteE1 hj1288 hb1289
          have iv1293 := Iv.ex iv1263 e1291
          have r1295 := ExR.mono e1291.f r1264
          have fl1294 := Fle.trans (Fle.refl s1258.F) e1291.f
          refine do_set 3 ev_str (fun v1300 s1298 e1299 r1301 => ?_) sc_l_told.nd
          obtain ⟨word1296, q1297, hm1292⟩ := ltE hm1292
          have iv1302 := Iv.sf iv1293 3 e1299 r1301 q1297
          have r1304 := ExR.mono e1299.f r1295
          have fl1303 := Fle.trans fl1294 e1299.f
          obtain rfl := Option.some.inj hm1292
          exact do_nil ⟨s1298, rfl, fl1303, ⟨v1300, rfl, Iv.sel iv1302 [some 0, some 1, some 2, some 3, none] (by decide +kernel) (by kernel_rfl)⟩⟩
        · have hm1308 := iteE2 hj1288 hb1305
          have iv1309 := Iv.ex iv1263 e1307
          have r1311 := ExR.mono e1307.f r1264
          have fl1310 := Fle.trans (Fle.refl s1258.F) e1307.f
          obtain rfl := Option.some.inj hm1308
          exact do_nil ⟨s1306, rfl, fl1310, ⟨v1262, rfl, Iv.sel iv1309 [some 0, some 1, some 2, some 3, none] (by decide +kernel) (by kernel_rfl)⟩⟩
        · obtain ⟨hf1315, hR1316⟩ := hM1314
          obtain ⟨v1317, rfl, iv1318⟩ := hR1316
          have r1319 := ExR.mono hf1315 r1264
          refine do_nil (show WSs _ _ _ _ _ from ?_)
          obtain rfl := Option.some.inj hm1179
          exact do_ret (ev_t2 (ea_cons (ev_var 3 rfl (Iv.fz (x := (b1287 : Str)) iv1318 3)) (ea_cons (ev_var 2 rfl (Iv.fz (x := (found1158 : An)) iv1318 2)) ea_nil))) fun v1320 s1321 e1322 r1323 => hQ _ _ (Ex.trans (Iv.exx iv1318) e1322) r1323
    refine do_set 2 (an_l (ev_callR C_read_order hr (by decide) (ea_cons (ev_var 1 rfl (Iv.fz (x := (text1154 : Str)) iv1180 1)) ea_nil) h_read_order1181)) (fun v1328 s1326 e1327 r1329 => ?_) sc_l_told.nd
    obtain ⟨found1324, q1325, hm1179⟩ := ltE hm1179
    have iv1330 := Iv.sf iv1180 2 e1327 r1329 q1325
    refine do_nil (show WSs _ _ _ _ _ from ?_)
    refine do_nil (show WSs _ _ _ _ _ from ?_)
    obtain rfl := Option.some.inj hm1179
    exact do_ret (ev_t2 (ea_cons (ev_var 3 rfl (Iv.fz (x := (word1165 : Str)) iv1330 3)) (ea_cons (ev_var 2 rfl (Iv.fz (x := (found1324 : An)) iv1330 2)) ea_nil))) fun v1331 s1332 e1333 r1334 => hQ _ _ (Ex.trans (Iv.exx iv1330) e1333) r1334
  · have hm1338 := iteE2 hm hb1335
    have iv1339 := Iv.ex iv1171 e1337
    refine do_ifC (EvB.t (eb_eq (ev_var 0 rfl (Iv.fz (x := (kind1151 : Int)) iv1339 0)) ev_int)) (fun hb1340 s1341 e1342 => ?_) (fun hb1499 s1500 e1501 => ?_)
    · have hm1343 := iteE1 hm1338 hb1340
      have iv1344 := Iv.ex iv1339 e1342
      rcases tbE hm1343 with ⟨er1346, he1347, hm1343⟩ | ⟨read_instruments1345, h_read_instruments1345, hm1343⟩
      · obtain ⟨hx1351, hm1343⟩ := chkE hm1343
        refine do_setX 2 (evX_call C_read_instruments tk1174 hr (by decide) (ea_cons (ev_var 1 rfl (Iv.fz (x := (text1154 : Str)) iv1344 1)) ea_nil) he1347 (fun _ _ s1348 k1349 r1350 => ?_)) sc_l_told.nd
        have hb1352 := exE_ok TB r1350 hx1351
        obtain rfl := exR_cls r1350
        refine was_of hb1352 (fun a1353 ha1354 oe1355 pn1356 hz1357 hf1358 => ?_)
        have iv1359 := Iv.ex iv1344 k1349
        refine do_set 3 ev_str (fun v1364 s1362 e1363 r1365 => ?_) sc_l_told.nd
        obtain ⟨word1360, q1361, hm1343⟩ := ltE hm1343
        have iv1366 := Iv.sf iv1359 3 e1363 r1365 q1361
        have r1367 := ExR.mono e1363.f r1350
        obtain ⟨isE1371, h_isE1371, hm1343⟩ := bndE hm1343
        obtain ⟨c1374, h_c1374, hm1343⟩ := bndE hm1343
        obtain ⟨b1396, hj1397, hm1343⟩ := bndE hm1343
        refine do_if (EvW.tt (EvC.w (by skip; exact ec_andO (eb_v (ev_isE TB h_isE1371 hz1357 hf1358 r1367 z_isinstance (ev_var 4 rfl (show rep _ _ (V.ref a1353) (Rw.mk (V.ref a1353)) from rfl)) (ev_cls (.inl ⟨by decide, N_NoText⟩)))) (fun hb1375 => (fun hz => (by obtain ⟨isE1373, h_isE1373, hz⟩ := bndE hz; obtain rfl := Option.some.inj hz; exact (ec_and1 (eb_v (ev_isE TB h_isE1373 hz1357 hf1358 r1367 z_isinstance (ev_var 4 rfl (show rep _ _ (V.ref a1353) (Rw.mk (V.ref a1353)) from rfl)) (ev_cls (.inr ⟨rfl, z_ValueError⟩))))))) ((andE h_c1374).1 hb1375)) (andE h_c1374).2))) (fun (σ' : L2.St) (t' : S) => Fle s1362.F t'.F ∧ ∃ (v_word : V), σ' = [some v1152, some v1155, some v1162, some v_word, some (V.ref a1353)] ∧ Iv K (fun _ => False) s0 t' [fz v1152 (kind1151 : Int), fz v1155 (text1154 : Str), fz v1162 (found1158 : An), fz v_word (b1396 : Str), top]) (fun hb1398 s1399 e1400 => ?_) (fun hb1414 s1415 e1416 => ?_) (fun σ1421 s1422 hM1423 => ?_)
        · have hm1401 := iteE1 hj1397 hb1398
          have iv1402 := Iv.ex iv1366 e1400
          have r1404 := ExR.mono e1400.f r1367
          have fl1403 := Fle.trans (Fle.refl s1362.F) e1400.f
          refine do_set 3 ev_str (fun v1409 s1407 e1408 r1410 => ?_) sc_l_told.nd
          obtain ⟨word1405, q1406, hm1401⟩ := ltE hm1401
          have iv1411 := Iv.sf iv1402 3 e1408 r1410 q1406
          have r1413 := ExR.mono e1408.f r1404
          have fl1412 := Fle.trans fl1403 e1408.f
          obtain rfl := Option.some.inj hm1401
          exact do_nil ⟨s1407, rfl, fl1412, ⟨v1409, rfl, Iv.sel iv1411 [some 0, some 1, some 2, some 3, none] (by decide +kernel) (by kernel_rfl)⟩⟩
        · have hm1417 := iteE2 hj1397 hb1414
          have iv1418 := Iv.ex iv1366 e1416
          have r1420 := ExR.mono e1416.f r1367
          have fl1419 := Fle.trans (Fle.refl s1362.F) e1416.f
          obtain rfl := Option.some.inj hm1417
          exact do_nil ⟨s1415, rfl, fl1419, ⟨v1364, rfl, Iv.sel iv1418 [some 0, some 1, some 2, some 3, none] (by decide +kernel) (by kernel_rfl)⟩⟩
        · obtain ⟨hf1424, hR1425⟩ := hM1423
          obtain ⟨v1426, rfl, iv1427⟩ := hR1425
          have r1428 := ExR.mono hf1424 r1367
          obtain ⟨isE1430, h_isE1430, hm1343⟩ := bndE hm1343
          obtain ⟨b1451, hj1452, hm1343⟩ := bndE hm1343
          refine do_if (et_v (ev_isEs (c0 := "NoBars") (cr := ["NoCall", "NoInstrument", "NoName", "NoOrder", "NoPlace", "Twice"]) TB h_isE1430 hz1357 hf1358 r1428 z_isinstance (ev_var 4 rfl (show rep _ _ (V.ref a1353) (Rw.mk (V.ref a1353)) from rfl)) (ee_cons (ev_cls (.inl ⟨by decide, N_NoBars⟩)) (ee_cons (ev_cls (.inl ⟨by decide, N_NoCall⟩)) (ee_cons (ev_cls (.inl ⟨by decide, N_NoInstrument⟩)) (ee_cons (ev_cls (.inl ⟨by decide, N_NoName⟩)) (ee_cons (ev_cls (.inl ⟨by decide, N_NoOrder⟩)) (ee_cons (ev_cls (.inl ⟨by decide, N_NoPlace⟩)) (ee_cons (ev_cls (.inl ⟨by decide, N_Twice⟩)) ee_nil))))))) (by decide))) (fun (σ' : L2.St) (t' : S) => Fle s1422.F t'.F ∧ ∃ (v_word : V), σ' = [some v1152, some v1155, some v1162, some v_word, some (V.ref a1353)] ∧ Iv K (fun _ => False) s0 t' [fz v1152 (kind1151 : Int), fz v1155 (text1154 : Str), fz v1162 (found1158 : An), fz v_word (b1451 : Str), top]) (fun hb1453 s1454 e1455 => ?_) (fun hb1469 s1470 e1471 => ?_) (fun σ1476 s1477 hM1478 => ?_)
          · have hm1456 := iteE1 hj1452 hb1453
            have iv1457 := Iv.ex iv1427 e1455
            have r1459 := ExR.mono e1455.f r1428
            have fl1458 := Fle.trans (Fle.refl s1422.F) e1455.f
            refine do_set 3 ev_str (fun v1464 s1462 e1463 r1465 => ?_) sc_l_told.nd
            obtain ⟨word1460, q1461, hm1456⟩ := ltE hm1456
            have iv1466 := Iv.sf iv1457 3 e1463 r1465 q1461
            have r1468 := ExR.mono e1463.f r1459
            have fl1467 := Fle.trans fl1458 e1463.f
            obtain rfl := Option.some.inj hm1456
            exact do_nil ⟨s1462, rfl, fl1467, ⟨v1464, rfl, Iv.sel iv1466 [some 0, some 1, some 2, some 3, none] (by decide +kernel) (by kernel_rfl)⟩⟩
          · have hm1472 := iteE2 hj1452 hb1469
            have iv1473 := Iv.ex iv1427 e1471
            have r1475 := ExR.mono e1471.f r1428
            have fl1474 := Fle.trans (Fle.refl s1422.F) e1471.f
            obtain rfl := Option.some.inj hm1472
            exact do_nil ⟨s1470, rfl, fl1474, ⟨v1426, rfl, Iv.sel iv1473 [some 0, some 1, some 2, some 3, none] (by decide +kernel) (by kernel_rfl)⟩⟩
          · obtain ⟨hf1479, hR1480⟩ := hM1478
            obtain ⟨v1481, rfl, iv1482⟩ := hR1480
            have r1483 := ExR.mono hf1479 r1428
            refine do_nil (show WSs _ _ _ _ _ from ?_)
            obtain rfl := Option.some.inj hm1343
            exact do_ret (ev_t2 (ea_cons (ev_var 3 rfl (Iv.fz (x := (b1451 : Str)) iv1482 3)) (ea_cons (ev_var 2 rfl (Iv.fz (x := (found1158 : An)) iv1482 2)) ea_nil))) fun v1484 s1485 e1486 r1487 => hQ _ _ (Ex.trans (Iv.exx iv1482) e1486) r1487
      refine do_set 2 (an_ts (ev_callR C_read_instruments hr (by decide) (ea_cons (ev_var 1 rfl (Iv.fz (x := (text1154 : Str)) iv1344 1)) ea_nil) h_read_instruments1345)) (fun v1492 s1490 e1491 r1493 => ?_) sc_l_told.nd
      obtain ⟨found1488, q1489, hm1343⟩ := ltE hm1343
      have iv1494 := Iv.sf iv1344 2 e1491 r1493 q1489
      refine do_nil (show WSs _ _ _ _ _ from ?_)
      refine do_nil (show WSs _ _ _ _ _ from ?_)
      refine do_nil (show WSs _ _ _ _ _ from ?_)
      obtain rfl := Option.some.inj hm1343
      exact do_ret (ev_t2 (ea_cons (ev_var 3 rfl (Iv.fz (x := (word1165 : Str)) iv1494 3)) (ea_cons (ev_var 2 rfl (Iv.fz (x := (found1488 : An)) iv1494 2)) ea_nil))) fun v1495 s1496 e1497 r1498 => hQ _ _ (Ex.trans (Iv.exx iv1494) e1497) r1498
    · have hm1502 := iteE2 hm1338 hb1499
      have iv1503 := Iv.ex iv1339 e1501
      rcases tbE hm1502 with ⟨er1505, he1506, hm1502⟩ | ⟨read_breaks1504, h_read_breaks1504, hm1502⟩
      · obtain ⟨hx1510, hm1502⟩ := chkE hm1502
        refine do_setX 2 (evX_call C_read_breaks tk1174 hr (by decide) (ea_cons (ev_var 1 rfl (Iv.fz (x := (text1154 : Str)) iv1503 1)) ea_nil) he1506 (fun _ _ s1507 k1508 r1509 => ?_)) sc_l_told.nd
        have hb1511 := exE_ok TB r1509 hx1510
        obtain rfl := exR_cls r1509
        refine was_of hb1511 (fun a1512 ha1513 oe1514 pn1515 hz1516 hf1517 => ?_)
        have iv1518 := Iv.ex iv1503 k1508
        refine do_set 3 ev_str (fun v1523 s1521 e1522 r1524 => ?_) sc_l_told.nd
        obtain ⟨word1519, q1520, hm1502⟩ := ltE hm1502
        have iv1525 := Iv.sf iv1518 3 e1522 r1524 q1520
        have r1526 := ExR.mono e1522.f r1509
        obtain ⟨isE1530, h_isE1530, hm1502⟩ := bndE hm1502
        obtain ⟨c1533, h_c1533, hm1502⟩ := bndE hm1502
        obtain ⟨b1555, hj1556, hm1502⟩ := bndE hm1502
        refine do_if (EvW.tt (EvC.w (by skip; exact ec_andO (eb_v (ev_isE TB h_isE1530 hz1516 hf1517 r1526 z_isinstance (ev_var 4 rfl (show rep _ _ (V.ref a1512) (Rw.mk (V.ref a1512)) from rfl)) (ev_cls (.inl ⟨by decide, N_NoText⟩)))) (fun hb1534 => (fun hz => (by obtain ⟨isE1532, h_isE1532, hz⟩ := bndE hz; obtain rfl := Option.some.inj hz; exact (ec_and1 (eb_v (ev_isE TB h_isE1532 hz1516 hf1517 r1526 z_isinstance (ev_var 4 rfl (show rep _ _ (V.ref a1512) (Rw.mk (V.ref a1512)) from rfl)) (ev_cls (.inr ⟨rfl, z_ValueError⟩))))))) ((andE h_c1533).1 hb1534)) (andE h_c1533).2))) (fun (σ' : L2.St) (t' : S) => Fle s1521.F t'.F ∧ ∃ (v_word : V), σ' = [some v1152, some v1155, some v1162, some v_word, some (V.ref a1512)] ∧ Iv K (fun _ => False) s0 t' [fz v1152 (kind1151 : Int), fz v1155 (text1154 : Str), fz v1162 (found1158 : An), fz v_word (b1555 : Str), top]) (fun hb1557 s1558 e1559 => ?_) (fun hb1573 s1574 e1575 => ?_) (fun σ1580 s1581 hM1582 => ?_)
        · have hm1560 := iteE1 hj1556 hb1557
          have iv1561 := Iv.ex iv1525 e1559
          have r1563 := ExR.mono e1559.f r1526
          have fl1562 := Fle.trans (Fle.refl s1521.F) e1559.f
          refine do_set 3 ev_str (fun v1568 s1566 e1567 r1569 => ?_) sc_l_told.nd
          obtain ⟨word1564, q1565, hm1560⟩ := ltE hm1560
          have iv1570 := Iv.sf iv1561 3 e1567 r1569 q1565
          have r1572 := ExR.mono e1567.f r1563
          have fl1571 := Fle.trans fl1562 e1567.f
          obtain rfl := Option.some.inj hm1560
          exact do_nil ⟨s1566, rfl, fl1571, ⟨v1568, rfl, Iv.sel iv1570 [some 0, some 1, some 2, some 3, none] (by decide +kernel) (by kernel_rfl)⟩⟩
        · have hm1576 := iteE2 hj1556 hb1573
          have iv1577 := Iv.ex iv1525 e1575
          have r1579 := ExR.mono e1575.f r1526
          have fl1578 := Fle.trans (Fle.refl s1521.F) e1575.f
          obtain rfl := Option.some.inj hm1576
          exact do_nil ⟨s1574, rfl, fl1578, ⟨v1523, rfl, Iv.sel iv1577 [some 0, some 1, some 2, some 3, none] (by decide +kernel) (by kernel_rfl)⟩⟩
        · obtain ⟨hf1583, hR1584⟩ := hM1582
          obtain ⟨v1585, rfl, iv1586⟩ := hR1584
          have r1587 := ExR.mono hf1583 r1526
          obtain ⟨isE1589, h_isE1589, hm1502⟩ := bndE hm1502
          obtain ⟨b1610, hj1611, hm1502⟩ := bndE hm1502
          refine do_if (et_v (ev_isEs (c0 := "NoBars") (cr := ["NoCall", "NoInstrument", "NoName", "NoOrder", "NoPlace", "Twice"]) TB h_isE1589 hz1516 hf1517 r1587 z_isinstance (ev_var 4 rfl (show rep _ _ (V.ref a1512) (Rw.mk (V.ref a1512)) from rfl)) (ee_cons (ev_cls (.inl ⟨by decide, N_NoBars⟩)) (ee_cons (ev_cls (.inl ⟨by decide, N_NoCall⟩)) (ee_cons (ev_cls (.inl ⟨by decide, N_NoInstrument⟩)) (ee_cons (ev_cls (.inl ⟨by decide, N_NoName⟩)) (ee_cons (ev_cls (.inl ⟨by decide, N_NoOrder⟩)) (ee_cons (ev_cls (.inl ⟨by decide, N_NoPlace⟩)) (ee_cons (ev_cls (.inl ⟨by decide, N_Twice⟩)) ee_nil))))))) (by decide))) (fun (σ' : L2.St) (t' : S) => Fle s1581.F t'.F ∧ ∃ (v_word : V), σ' = [some v1152, some v1155, some v1162, some v_word, some (V.ref a1512)] ∧ Iv K (fun _ => False) s0 t' [fz v1152 (kind1151 : Int), fz v1155 (text1154 : Str), fz v1162 (found1158 : An), fz v_word (b1610 : Str), top]) (fun hb1612 s1613 e1614 => ?_) (fun hb1628 s1629 e1630 => ?_) (fun σ1635 s1636 hM1637 => ?_)
          · have hm1615 := iteE1 hj1611 hb1612
            have iv1616 := Iv.ex iv1586 e1614
            have r1618 := ExR.mono e1614.f r1587
            have fl1617 := Fle.trans (Fle.refl s1581.F) e1614.f
            refine do_set 3 ev_str (fun v1623 s1621 e1622 r1624 => ?_) sc_l_told.nd
            obtain ⟨word1619, q1620, hm1615⟩ := ltE hm1615
            have iv1625 := Iv.sf iv1616 3 e1622 r1624 q1620
            have r1627 := ExR.mono e1622.f r1618
            have fl1626 := Fle.trans fl1617 e1622.f
            obtain rfl := Option.some.inj hm1615
            exact do_nil ⟨s1621, rfl, fl1626, ⟨v1623, rfl, Iv.sel iv1625 [some 0, some 1, some 2, some 3, none] (by decide +kernel) (by kernel_rfl)⟩⟩
          · have hm1631 := iteE2 hj1611 hb1628
            have iv1632 := Iv.ex iv1586 e1630
            have r1634 := ExR.mono e1630.f r1587
            have fl1633 := Fle.trans (Fle.refl s1581.F) e1630.f
            obtain rfl := Option.some.inj hm1631
            exact do_nil ⟨s1629, rfl, fl1633, ⟨v1585, rfl, Iv.sel iv1632 [some 0, some 1, some 2, some 3, none] (by decide +kernel) (by kernel_rfl)⟩⟩
          · obtain ⟨hf1638, hR1639⟩ := hM1637
            obtain ⟨v1640, rfl, iv1641⟩ := hR1639
            have r1642 := ExR.mono hf1638 r1587
            refine do_nil (show WSs _ _ _ _ _ from ?_)
            obtain rfl := Option.some.inj hm1502
            exact do_ret (ev_t2 (ea_cons (ev_var 3 rfl (Iv.fz (x := (b1610 : Str)) iv1641 3)) (ea_cons (ev_var 2 rfl (Iv.fz (x := (found1158 : An)) iv1641 2)) ea_nil))) fun v1643 s1644 e1645 r1646 => hQ _ _ (Ex.trans (Iv.exx iv1641) e1645) r1646
      refine do_set 2 (an_l (ev_callR C_read_breaks hr (by decide) (ea_cons (ev_var 1 rfl (Iv.fz (x := (text1154 : Str)) iv1503 1)) ea_nil) h_read_breaks1504)) (fun v1651 s1649 e1650 r1652 => ?_) sc_l_told.nd
      obtain ⟨found1647, q1648, hm1502⟩ := ltE hm1502
      have iv1653 := Iv.sf iv1503 2 e1650 r1652 q1648
      refine do_nil (show WSs _ _ _ _ _ from ?_)
      refine do_nil (show WSs _ _ _ _ _ from ?_)
      refine do_nil (show WSs _ _ _ _ _ from ?_)
      obtain rfl := Option.some.inj hm1502
      exact do_ret (ev_t2 (ea_cons (ev_var 3 rfl (Iv.fz (x := (word1165 : Str)) iv1653 3)) (ea_cons (ev_var 2 rfl (Iv.fz (x := (found1647 : An)) iv1653 2)) ea_nil))) fun v1654 s1655 e1656 r1657 => hQ _ _ (Ex.trans (Iv.exx iv1653) e1656) r1657
abbrev s_l_value : Stmt := topS 32
abbrev N_l_value : List Str := ["_law_word", "_law_value_here", "_law_sign"]
theorem sc_l_value : FnScope N_l_value ["_law_word"] (defScope s_l_value) := ⟨rfl, rfl, rfl, by decide +kernel, rfl, by decide +kernel, by decide +kernel⟩
noncomputable def m_l_value (word1658 : Str) : Option Int :=
 (bnd (orO (decide (word1658 = ("" : Str))) (chk ((word1658).length ≤ sizeLine) (orO (decide ((60 : Int) < ((word1658).length : Int))) (bnd (sgn word1658 (0 : Int)) fun at1671 => (some ((decide (at1671 = ("0" : Str))) && (!decide (word1658 = ("0" : Str))))))))) fun c1672 => (if c1672 = true then
 (some (-(1 : Int)))
 else
 (lt ((0 : Int) : Int) fun value_here1689 =>
 (bnd (foldF (ρ := Int) (fun (b1698 : Int) (x1700 : Str) =>
 (if (!inS x1700 ("0123456789" : Str)) = true then
 (some (Fl.rt (-(1 : Int))))
 else
 (bnd (ixS x1700 ("0123456789" : Str)) fun ix1740 => (lt ((((10 : Int) * b1698) + (ix1740 : Int)) : Int) fun value_here1741 =>
 (some (Fl.nx value_here1741)))))) value_here1689 (chars word1658)) fun o1696 =>
 (Fl.go o1696 (fun b1758 => (some b1758)) (fun rr => (some rr)))))))
noncomputable abbrev a_l_value : Str × Unit → Option Int := fun a => m_l_value a.1
theorem ok_l_value {P : Program} {w : World} {K : PySem.W.Frag} {mg : Str → Option Value} {base : Heap} {f : Addr} {fd : FuncData} (F : FunP K "_law_value" s_l_value f fd) (hmg : mg "_law_value" = some (.ref f)) (z_len : mg "len" = none) : Cal P w K mg base CX0 1 "_law_value" (sp K a_l_value) := by
  refine mk_cal (k := 0) F hmg (F.bindsN fun _ _ _ _ _ _ us hl => match us, hl with | [_], _ => rfl) sc_l_value len1 ?_
  rintro cdv A' outer sh0 H0 X0 hr s0 vs ⟨word1658, _⟩ r0 Q ⟨v1659, _, rfl, r1660, rfl⟩ hm hQ
  unfold a_l_value m_l_value at hm
  dsimp only at hm
  have iv1661 : Iv K (fun _ => False) s0 s0 [fz v1659 (word1658 : Str), top, top] := (Iv.sf (Iv.tops (K := K) (P0 := (fun _ => False)) 3 s0) 0 (Ex.refl s0) r1660 rfl)
  obtain ⟨c1672, h_c1672, hm⟩ := bndE hm
  refine do_ifR (EvW.tt (EvC.w (by skip; exact ec_orO (eb_eq (ev_var 0 rfl (Iv.fz (x := (word1658 : Str)) iv1661 0)) ev_str) (fun hb1673 => (fun hz => (by obtain ⟨hc1667, hz⟩ := chkE hz; exact ec_orO (eb_gt (ev_lenS z_len hc1667 (ev_var 0 rfl (Iv.fz (x := (word1658 : Str)) iv1661 0))) ev_int) (fun hb1674 => (fun hz => (by obtain ⟨at1671, h_at1671, hz⟩ := bndE hz; obtain rfl := Option.some.inj hz; exact (ec_or1 (EvC.bb (ec_and (eb_eq (ev_ixS (ev_var 0 rfl (Iv.fz (x := (word1658 : Str)) iv1661 0)) ev_int h_at1671) ev_str) fun _ => (ec_and1 (eb_ne (ev_var 0 rfl (Iv.fz (x := (word1658 : Str)) iv1661 0)) ev_str))))))) ((orE hz).1 hb1674)) (orE hz).2)) ((orE h_c1672).1 hb1673)) (orE h_c1672).2))) (fun hb1675 s1676 e1677 => ?_) (fun hb1684 s1685 e1686 => ?_)
  · have hm1678 := iteE1 hm hb1675
    have iv1679 := Iv.ex iv1661 e1677
    obtain rfl := Option.some.inj hm1678
    exact do_ret (ev_neg ev_int) fun v1680 s1681 e1682 r1683 => hQ _ _ (Ex.trans (Iv.exx iv1679) e1682) r1683
  · have hm1687 := iteE2 hm hb1684
    have iv1688 := Iv.ex iv1661 e1686
    refine do_set 1 ev_int (fun v1693 s1691 e1692 r1694 => ?_) sc_l_value.nd
    obtain ⟨value_here1689, q1690, hm1687⟩ := ltE hm1687
    have iv1695 := Iv.sf iv1688 1 e1692 r1694 q1690
    obtain ⟨o1696, ho1697, hm1687⟩ := bndE hm1687
    refine do_forF (ρ := Int) (υ := Int) PassesOwn.never rfl (ei_str (ev_var 0 rfl (Iv.fz (x := (word1658 : Str)) iv1695 0))) (pg_name (i := 2) sc_l_value.nd rfl (by first | exact Or.inl rfl | exact Or.inr rfl)) tg_n ho1697 (fun (b1698 : Int) (σ' : L2.St) (t' : S) => ∃ (v_value_here : V) (y_sign : Option V), σ' = [some v1659, some v_value_here, y_sign] ∧ Iv K (fun _ => False) s0 t' [fz v1659 (word1658 : Str), fz v_value_here (b1698 : Int), top]) (fun s1755 k1756 => by have iv1757 := Iv.ex iv1695 k1756; exact ⟨v1693, _, rfl, Iv.sel iv1757 [some 0, some 1, none] (by decide +kernel) (by kernel_rfl)⟩) (fun s1701 k1702 x1700 b1698 q1722 σ1711 σ1712 t1709 t1710 hx1703 hm1704 hq1723 fl1705 hR1706 k1707 hB1708 => ?_) (fun s1749 k1750 b1758 σ1751 t1752 ho1759 fl1753 hR1754 => ?_)
    · have hf1713 := Fle.trans k1702.f fl1705
      obtain ⟨v1714, y1715, rfl, iv1716⟩ := hR1706
      obtain ⟨v1717, r1718, rfl⟩ := hB1708
      have iv1719 := Iv.ex iv1716 k1707
      have iv1720 := Iv.sf iv1719 2 (Ex.refl t1710) r1718 rfl
      have fl1721 := Fle.trans (Fle.refl t1710.F) (Ex.refl t1710).f
      refine do_ifR (EvB.t (eb_notInS (ev_var 2 rfl (Iv.fz (x := (x1700 : Str)) iv1720 2)) ev_str)) (fun hb1724 s1725 e1726 => ?_) (fun hb1734 s1735 e1736 => ?_)
      · have hm1727 := iteE1 hm1704 hb1724
        have iv1728 := Iv.ex iv1720 e1726
        have fl1729 := Fle.trans (Fle.refl t1710.F) e1726.f
        obtain rfl := Option.some.inj hm1727
        obtain rfl := hq1723 _ rfl
        obtain rfl := Option.some.inj hm1687
        exact do_ret (ev_neg ev_int) fun v1730 s1731 e1732 r1733 => hQ _ _ (Ex.trans (Iv.exx iv1728) e1732) r1733
      · have hm1737 := iteE2 hm1704 hb1734
        have iv1738 := Iv.ex iv1720 e1736
        have fl1739 := Fle.trans (Fle.refl t1710.F) e1736.f
        obtain ⟨ix1740, h_ix1740, hm1737⟩ := bndE hm1737
        refine do_set 1 (ev_add (ev_mul ev_int (ev_var 1 rfl (Iv.fz (x := (b1698 : Int)) iv1738 1)) (Or.inl (Or.inl ⟨by omega, by omega⟩))) (ev_indexS ev_str (ev_var 2 rfl (Iv.fz (x := (x1700 : Str)) iv1738 2)) h_ix1740)) (fun v1745 s1743 e1744 r1746 => ?_) sc_l_value.nd
        obtain ⟨value_here1741, q1742, hm1737⟩ := ltE hm1737
        have iv1747 := Iv.sf iv1738 1 e1744 r1746 q1742
        have fl1748 := Fle.trans fl1739 e1744.f
        obtain rfl := Option.some.inj hm1737
        exact do_nil ⟨s1743, rfl, _, rfl, fl1748, ⟨v1745, _, rfl, Iv.sel iv1747 [some 0, some 1, none] (by decide +kernel) (by kernel_rfl)⟩⟩
    · subst ho1759
      replace hm1687 := goN hm1687
      have hf1760 := Fle.trans k1750.f fl1753
      obtain ⟨v1761, y1762, rfl, iv1763⟩ := hR1754
      obtain rfl := Option.some.inj hm1687
      exact do_ret (ev_var 1 rfl (Iv.fz (x := (b1758 : Int)) iv1763 1)) fun v1764 s1765 e1766 r1767 => hQ _ _ (Ex.trans (Iv.exx iv1763) e1766) r1767
abbrev s_l_is_name : Stmt := topS 33
abbrev N_l_is_name : List Str := ["_law_word", "_law_sign"]
theorem sc_l_is_name : FnScope N_l_is_name ["_law_word"] (defScope s_l_is_name) := ⟨rfl, rfl, rfl, by decide +kernel, rfl, by decide +kernel, by decide +kernel⟩
noncomputable def m_l_is_name (word1768 : Str) : Option Bool :=
 (chk ((word1768).length ≤ sizeLine) (if ((decide (word1768 = ("" : Str))) || (decide ((10 : Int) < ((word1768).length : Int)))) = true then
 (some false)
 else
 (bnd (foldF (ρ := Bool) (fun (b1790 : Unit) (x1792 : Str) =>
 (if (!inS x1792 ("abcdefghijklmnopqrstuvwxyz" : Str)) = true then
 (some (Fl.rt false))
 else
 (some (Fl.nx ())))) () (chars word1768)) fun o1788 =>
 (Fl.go o1788 (fun b1840 => (some true)) (fun rr => (some rr))))))
noncomputable abbrev a_l_is_name : Str × Unit → Option Bool := fun a => m_l_is_name a.1
theorem ok_l_is_name {P : Program} {w : World} {K : PySem.W.Frag} {mg : Str → Option Value} {base : Heap} {f : Addr} {fd : FuncData} (F : FunP K "_law_is_name" s_l_is_name f fd) (hmg : mg "_law_is_name" = some (.ref f)) (z_len : mg "len" = none) : Cal P w K mg base CX0 1 "_law_is_name" (sp K a_l_is_name) := by
  refine mk_cal (k := 0) F hmg (F.bindsN fun _ _ _ _ _ _ us hl => match us, hl with | [_], _ => rfl) sc_l_is_name len1 ?_
  rintro cdv A' outer sh0 H0 X0 hr s0 vs ⟨word1768, _⟩ r0 Q ⟨v1769, _, rfl, r1770, rfl⟩ hm hQ
  unfold a_l_is_name m_l_is_name at hm
  dsimp only at hm
  have iv1771 : Iv K (fun _ => False) s0 s0 [fz v1769 (word1768 : Str), top] := (Iv.sf (Iv.tops (K := K) (P0 := (fun _ => False)) 2 s0) 0 (Ex.refl s0) r1770 rfl)
  obtain ⟨hc1773, hm⟩ := chkE hm
  refine do_ifR (EvW.tt (EvC.w (ec_or (eb_eq (ev_var 0 rfl (Iv.fz (x := (word1768 : Str)) iv1771 0)) ev_str) fun _ => (ec_or1 (eb_gt (ev_lenS z_len hc1773 (ev_var 0 rfl (Iv.fz (x := (word1768 : Str)) iv1771 0))) ev_int))))) (fun hb1774 s1775 e1776 => ?_) (fun hb1783 s1784 e1785 => ?_)
  · have hm1777 := iteE1 hm hb1774
    have iv1778 := Iv.ex iv1771 e1776
    obtain rfl := Option.some.inj hm1777
    exact do_ret ev_bl fun v1779 s1780 e1781 r1782 => hQ _ _ (Ex.trans (Iv.exx iv1778) e1781) r1782
  · have hm1786 := iteE2 hm hb1783
    have iv1787 := Iv.ex iv1771 e1785
    obtain ⟨o1788, ho1789, hm1786⟩ := bndE hm1786
    refine do_forF (ρ := Bool) (υ := Unit) PassesOwn.never rfl (ei_str (ev_var 0 rfl (Iv.fz (x := (word1768 : Str)) iv1787 0))) (pg_name (i := 1) sc_l_is_name.nd rfl (by first | exact Or.inl rfl | exact Or.inr rfl)) tg_n ho1789 (fun (b1790 : Unit) (σ' : L2.St) (t' : S) => ∃ (y_sign : Option V), σ' = [some v1769, y_sign] ∧ Iv K (fun _ => False) s0 t' [fz v1769 (word1768 : Str), top]) (fun s1837 k1838 => by have iv1839 := Iv.ex iv1787 k1838; exact ⟨_, rfl, Iv.sel iv1839 [some 0, none] (by decide +kernel) (by kernel_rfl)⟩) (fun s1793 k1794 x1792 b1790 q1813 σ1803 σ1804 t1801 t1802 hx1795 hm1796 hq1814 fl1797 hR1798 k1799 hB1800 => ?_) (fun s1831 k1832 b1840 σ1833 t1834 ho1841 fl1835 hR1836 => ?_)
    · have hf1805 := Fle.trans k1794.f fl1797
      obtain ⟨y1806, rfl, iv1807⟩ := hR1798
      obtain ⟨v1808, r1809, rfl⟩ := hB1800
      have iv1810 := Iv.ex iv1807 k1799
      have iv1811 := Iv.sf iv1810 1 (Ex.refl t1802) r1809 rfl
      have fl1812 := Fle.trans (Fle.refl t1802.F) (Ex.refl t1802).f
      refine do_ifR (EvB.t (eb_notInS (ev_var 1 rfl (Iv.fz (x := (x1792 : Str)) iv1811 1)) ev_str)) (fun hb1815 s1816 e1817 => ?_) (fun hb1825 s1826 e1827 => ?_)
      · have hm1818 := iteE1 hm1796 hb1815
        have iv1819 := Iv.ex iv1811 e1817
        have fl1820 := Fle.trans (Fle.refl t1802.F) e1817.f
        obtain rfl := Option.some.inj hm1818
        obtain rfl := hq1814 _ rfl
        obtain rfl := Option.some.inj hm1786
        exact do_ret ev_bl fun v1821 s1822 e1823 r1824 => hQ _ _ (Ex.trans (Iv.exx iv1819) e1823) r1824
      · have hm1828 := iteE2 hm1796 hb1825
        have iv1829 := Iv.ex iv1811 e1827
        have fl1830 := Fle.trans (Fle.refl t1802.F) e1827.f
        obtain rfl := Option.some.inj hm1828
        exact do_nil ⟨s1826, rfl, _, rfl, fl1830, ⟨_, rfl, Iv.sel iv1829 [some 0, none] (by decide +kernel) (by kernel_rfl)⟩⟩
    · subst ho1841
      replace hm1786 := goN hm1786
      have hf1842 := Fle.trans k1832.f fl1835
      obtain ⟨y1843, rfl, iv1844⟩ := hR1836
      obtain rfl := Option.some.inj hm1786
      exact do_ret ev_bl fun v1845 s1846 e1847 r1848 => hQ _ _ (Ex.trans (Iv.exx iv1844) e1847) r1848
abbrev s_l_due : Stmt := topS 34
abbrev N_l_due : List Str := ["_law_kind", "_law_text", "_law_words", "_law_numbers", "_law_word"]
theorem sc_l_due : FnScope N_l_due ["_law_kind", "_law_text"] (defScope s_l_due) := ⟨rfl, rfl, rfl, by decide +kernel, rfl, by decide +kernel, by decide +kernel⟩
noncomputable def m_l_due (kind1849 : Int) (text1852 : Str) : Option An :=
 (chk ((text1852).length + 2 ≤ sizeLine) (lt ((Txt.split text1852 ("," : Str)) : (List Str)) fun words1857 =>
 (if ((decide ((0 : Int) < kind1849)) && (decide (text1852 = ("-" : Str)))) = true then
 (bnd (atI ([(An.l ([] : List Int)), (An.ts (⟨[]⟩ : Tu Str)), (An.l ([] : List Int))] : List An) kind1849) fun at1869 => (some at1869))
 else
 (if (decide (kind1849 = (1 : Int))) = true then
 (bnd (compO (fun (x1904 : Str) => (bnd (m_l_is_name x1904) fun is_name1920 => (some ((!is_name1920) || (decide ((1 : Int) < (((words1857).count x1904 : Nat) : Int))))))) (fun (x1904 : Str) => (some x1904)) words1857) fun ys1921 => (chk ((ys1921).length ≤ sizeLine) (chk (shp (ys1921 : (List Str))) (chk (shp (([] : List Str) : (List Str))) (if (!decide (ys1921 = ([] : List Str))) = true then
 (some (An.o (none : Option Int)))
 else
 (some (An.ts (⟨words1857⟩ : Tu Str))))))))
 else
 (bnd (mapO (fun (x1949 : Str) => (bnd (m_l_value x1949) fun value1960 => (some value1960))) words1857) fun ys1961 => (chk ((ys1961).length ≤ sizeLine) (lt (ys1961 : (List Int)) fun numbers1963 =>
 (if (decide ((-(1 : Int)) ∈ numbers1963)) = true then
 (some (An.o (none : Option Int)))
 else
 (bnd (andO (decide (kind1849 = (0 : Int))) (bnd (orO (decide ((40 : Int) < ((numbers1963).length : Int))) (chk (RgOk 0 ((numbers1963).length : Int)) (some (!decide ((sortI numbers1963) = (rng 0 ((numbers1963).length : Int))))))) fun c2000 => (some c2000))) fun c2002 => (if c2002 = true then
 (some (An.o (none : Option Int)))
 else
 (some (An.l numbers1963))))))))))))
noncomputable abbrev a_l_due : Int × Str × Unit → Option An := fun a => m_l_due a.1 a.2.1
theorem ok_l_due {P : Program} {w : World} {K : PySem.W.Frag} {mg : Str → Option Value} {base : Heap} {f : Addr} {fd : FuncData} (F : FunP K "_law_due" s_l_due f fd) (hmg : mg "_law_due" = some (.ref f)) (C_l_is_name : Cal P w K mg base CX0 1 "_law_is_name" (sp K a_l_is_name)) (C_l_value : Cal P w K mg base CX0 1 "_law_value" (sp K a_l_value)) (z_tuple : mg "tuple" = none) (z_len : mg "len" = none) (z_sorted : mg "sorted" = none) (z_list : mg "list" = none) (z_range : mg "range" = none) : Cal P w K mg base CX0 2 "_law_due" (sp K a_l_due) := by
  refine mk_cal (k := 1) F hmg (F.bindsN fun _ _ _ _ _ _ us hl => match us, hl with | [_, _], _ => rfl) sc_l_due len2 ?_
  rintro cdv A' outer sh0 H0 X0 hr s0 vs ⟨kind1849, text1852, _⟩ r0 Q ⟨v1850, _, rfl, r1851, v1853, _, rfl, r1854, rfl⟩ hm hQ
  unfold a_l_due m_l_due at hm
  dsimp only at hm
  have iv1855 : Iv K (fun _ => False) s0 s0 [fz v1850 (kind1849 : Int), fz v1853 (text1852 : Str), top, top, top] := (Iv.sf (Iv.sf (Iv.tops (K := K) (P0 := (fun _ => False)) 5 s0) 0 (Ex.refl s0) r1851 rfl) 1 (Ex.refl s0) r1854 rfl)
  obtain ⟨hc1856, hm⟩ := chkE hm
  refine do_set 2 (EvN.ev (en_split (ev_var 1 rfl (Iv.fz (x := (text1852 : Str)) iv1855 1)) ev_str rfl hc1856)) (fun v1861 s1859 e1860 r1862 => ?_) sc_l_due.nd
  obtain ⟨words1857, q1858, hm⟩ := ltE hm
  have iv1863 := Iv.sf iv1855 2 e1860 r1862 q1858
  refine do_ifR (EvW.tt (EvC.w (ec_and (eb_gt (ev_var 0 rfl (Iv.fz (x := (kind1849 : Int)) iv1863 0)) ev_int) fun _ => (ec_and1 (eb_eq (ev_var 1 rfl (Iv.fz (x := (text1852 : Str)) iv1863 1)) ev_str))))) (fun hb1864 s1865 e1866 => ?_) (fun hb1874 s1875 e1876 => ?_)
  · have hm1867 := iteE1 hm hb1864
    have iv1868 := Iv.ex iv1863 e1866
    obtain ⟨at1869, h_at1869, hm1867⟩ := bndE hm1867
    obtain rfl := Option.some.inj hm1867
    exact do_ret (ev_ix (EvN.r (en_list (xs := ([(An.l ([] : List Int)), (An.ts (⟨[]⟩ : Tu Str)), (An.l ([] : List Int))] : List An)) (ee_cons (an_l (EvN.ev (en_list (xs := ([] : List Int)) ee_nil (by simp [sizeLine])))) (ee_cons (an_ts (ev_tu (xs := ([] : List Str)) ee_nil (by simp [sizeLine]))) (ee_cons (an_l (EvN.ev (en_list (xs := ([] : List Int)) ee_nil (by simp [sizeLine])))) ee_nil))) (by simp [sizeLine]))) (ev_var 0 rfl (Iv.fz (x := (kind1849 : Int)) iv1868 0)) h_at1869) fun v1870 s1871 e1872 r1873 => hQ _ _ (Ex.trans (Iv.exx iv1868) e1872) r1873
  · have hm1877 := iteE2 hm hb1874
    have iv1878 := Iv.ex iv1863 e1876
    refine do_ifR (EvB.t (eb_eq (ev_var 0 rfl (Iv.fz (x := (kind1849 : Int)) iv1878 0)) ev_int)) (fun hb1879 s1880 e1881 => ?_) (fun hb1944 s1945 e1946 => ?_)
    · have hm1882 := iteE1 hm1877 hb1879
      have iv1883 := Iv.ex iv1878 e1881
      obtain ⟨ys1921, h_ys1921, hm1882⟩ := bndE hm1882
      obtain ⟨hc1922, hm1882⟩ := chkE hm1882
      obtain ⟨hc1924, hm1882⟩ := chkE hm1882
      obtain ⟨hc1925, hm1882⟩ := chkE hm1882
      refine do_ifR (EvB.t (eb_neL hr (EvN.r (EvL.n (en_comp1 (own := [("_law_word", 4)]) (j := 4) (t := fun (x1904 : Str) => (bnd (m_l_is_name x1904) fun is_name1920 => (some ((!is_name1920) || (decide ((1 : Int) < (((words1857).count x1904 : Nat) : Int))))))) (f := fun (x1904 : Str) => (some x1904)) rfl sc_l_due.nd (ei_list (ev_var 2 rfl (Iv.fz (x := (words1857 : (List Str))) iv1883 2))) (blkOk_by (own := [("_law_word", 4)]) (N := N_l_due) (sc := defScope s_l_due) (by decide +kernel)) rfl (by decide) (fun _ _ _ _ _ => pg_name (i := 4) sc_l_due.nd rfl (by first | exact Or.inl rfl | exact Or.inr rfl)) h_ys1921 hc1922 (fun x1904 y1905 v1913 s1906 hx1908 e1907 r1914 hf1909 _ _ _ _ _ => by have z1912 := Enc.mono e1907.f (Iv.fz (v := v1861) (x := (words1857 : (List Str))) iv1883 2); obtain ⟨is_name1920, h_is_name1920, hf1909⟩ := bndE hf1909; obtain rfl := Option.some.inj hf1909; exact (EvW.tt (EvC.w (ec_or (eb_not (eb_v (ev_call C_l_is_name hr (by decide) (ea_cons (ev_var 4 rfl r1914) ea_nil) h_is_name1920))) fun _ => (ec_or1 (eb_gt (ev_countS (Ev.r (ev_var 2 rfl z1912)) (ev_var 4 rfl r1914)) ev_int)))))) (fun x1904 y1905 v1913 s1906 hx1908 e1907 r1914 ht1923 hf1909 _ _ _ _ _ => by obtain rfl := Option.some.inj hf1909; exact (ev_var 4 rfl r1914))))) (EvN.r (en_list (xs := ([] : List Str)) ee_nil (by simp [sizeLine]))) hc1924 hc1925)) (fun hb1926 s1927 e1928 => ?_) (fun hb1935 s1936 e1937 => ?_)
      · have hm1929 := iteE1 hm1882 hb1926
        have iv1930 := Iv.ex iv1883 e1928
        obtain rfl := Option.some.inj hm1929
        exact do_ret (an_o (ev_nonO (α := Int))) fun v1931 s1932 e1933 r1934 => hQ _ _ (Ex.trans (Iv.exx iv1930) e1933) r1934
      · have hm1938 := iteE2 hm1882 hb1935
        have iv1939 := Iv.ex iv1883 e1937
        obtain rfl := Option.some.inj hm1938
        exact do_ret (an_ts (ev_tuple z_tuple (Ev.r (ev_var 2 rfl (Iv.fz (x := (words1857 : (List Str))) iv1939 2))))) fun v1940 s1941 e1942 r1943 => hQ _ _ (Ex.trans (Iv.exx iv1939) e1942) r1943
    · have hm1947 := iteE2 hm1877 hb1944
      have iv1948 := Iv.ex iv1878 e1946
      obtain ⟨ys1961, h_ys1961, hm1947⟩ := bndE hm1947
      obtain ⟨hc1962, hm1947⟩ := chkE hm1947
      refine do_setL 3 (en_comp0 (own := [("_law_word", 4)]) (j := 4) (f := fun (x1949 : Str) => (bnd (m_l_value x1949) fun value1960 => (some value1960))) rfl sc_l_due.nd (ei_list (ev_var 2 rfl (Iv.fz (x := (words1857 : (List Str))) iv1948 2))) (blkOk_by (own := [("_law_word", 4)]) (N := N_l_due) (sc := defScope s_l_due) (by decide +kernel)) rfl (by decide) (fun _ _ _ _ _ => pg_name (i := 4) sc_l_due.nd rfl (by first | exact Or.inl rfl | exact Or.inr rfl)) h_ys1961 hc1962 (fun x1949 y1950 v1958 s1951 hx1953 e1952 r1959 hf1954 _ _ _ _ _ => by obtain ⟨value1960, h_value1960, hf1954⟩ := bndE hf1954; obtain rfl := Option.some.inj hf1954; exact (ev_call C_l_value hr (by decide) (ea_cons (ev_var 4 rfl r1959) ea_nil) h_value1960))) (fun p1969 s1965 e1966 n1970 o1971 => ?_) rfl rfl
      obtain ⟨s1972, hs1973, e1974, r1968⟩ := frz_ex e1966 n1970 o1971
      rw [← hs1973]
      obtain ⟨numbers1963, q1964, hm1947⟩ := ltE hm1947
      have iv1975 := Iv.sf iv1948 3 e1974 r1968 q1964
      refine do_ifR (EvB.t (eb_in (ev_neg ev_int) (Ev.r (ev_var 3 rfl (Iv.fz (x := (numbers1963 : (List Int))) iv1975 3))))) (fun hb1976 s1977 e1978 => ?_) (fun hb1985 s1986 e1987 => ?_)
      · have hm1979 := iteE1 hm1947 hb1976
        have iv1980 := Iv.ex iv1975 e1978
        obtain rfl := Option.some.inj hm1979
        exact do_ret (an_o (ev_nonO (α := Int))) fun v1981 s1982 e1983 r1984 => hQ _ _ (Ex.trans (Iv.exx iv1980) e1983) r1984
      · have hm1988 := iteE2 hm1947 hb1985
        have iv1989 := Iv.ex iv1975 e1987
        obtain ⟨c2002, h_c2002, hm1988⟩ := bndE hm1988
        refine do_ifR (EvW.tt (EvC.w (by skip; exact ec_andO (eb_eq (ev_var 0 rfl (Iv.fz (x := (kind1849 : Int)) iv1989 0)) ev_int) (fun hb2003 => (fun hz => (by obtain ⟨c2000, h_c2000, hz⟩ := bndE hz; obtain rfl := Option.some.inj hz; exact (ec_and1 (EvC.bb (by skip; exact ec_orO (eb_gt (ev_len z_len (Ev.r (ev_var 3 rfl (Iv.fz (x := (numbers1963 : (List Int))) iv1989 3)))) ev_int) (fun hb2001 => (fun hz => (by obtain ⟨hc1999, hz⟩ := chkE hz; obtain rfl := Option.some.inj hz; exact (ec_or1 (eb_neL hr (EvN.r (en_sorted z_sorted (Ev.r (ev_var 3 rfl (Iv.fz (x := (numbers1963 : (List Int))) iv1989 3))))) (EvN.r (en_listRg1 z_list z_range (ev_len z_len (Ev.r (ev_var 3 rfl (Iv.fz (x := (numbers1963 : (List Int))) iv1989 3)))) hc1999)) (shp_of _) (shp_of _))))) ((orE h_c2000).1 hb2001)) (orE h_c2000).2))))) ((andE h_c2002).1 hb2003)) (andE h_c2002).2))) (fun hb2004 s2005 e2006 => ?_) (fun hb2013 s2014 e2015 => ?_)
        · have hm2007 := iteE1 hm1988 hb2004
          have iv2008 := Iv.ex iv1989 e2006
          obtain rfl := Option.some.inj hm2007
          exact do_ret (an_o (ev_nonO (α := Int))) fun v2009 s2010 e2011 r2012 => hQ _ _ (Ex.trans (Iv.exx iv2008) e2011) r2012
        · have hm2016 := iteE2 hm1988 hb2013
          have iv2017 := Iv.ex iv1989 e2015
          obtain rfl := Option.some.inj hm2016
          exact do_ret (an_l (ev_var 3 rfl (Iv.fz (x := (numbers1963 : (List Int))) iv2017 3))) fun v2018 s2019 e2020 r2021 => hQ _ _ (Ex.trans (Iv.exx iv2017) e2020) r2021
abbrev s_law : Stmt := topS 38
abbrev N_law : List Str := ["_law_script", "_law_order_here", "_law_names_here", "_law_turn", "_law_some", "_law_breaks", "_law_texts", "_law_handed", "_law_kind", "_law_k", "_law_x", "_law_bent_here", "_law_text", "_law_one"]
theorem sc_law : FnScope N_law ["_law_script"] (defScope s_law) := ⟨rfl, rfl, rfl, by decide +kernel, rfl, by decide +kernel, by decide +kernel⟩
noncomputable def m_law (script2022 : (List Int)) : Option Bool :=
 (bnd (m_l_number script2022 (1 : Int)) fun number2028 => (bnd (m_l_cell_at script2022 (2 : Int)) fun cell_at2029 => (bnd (m_l_order number2028 ((1 : Int) + (cell_at2029 % (40 : Int)))) fun order2030 => (lt (order2030 : (List Int)) fun order_here2031 =>
 (bnd (m_l_number script2022 (3 : Int)) fun number2038 => (bnd (m_l_names number2038) fun names2039 => (lt (names2039 : (List Str)) fun names_here2040 =>
 (bnd (m_l_number script2022 (4 : Int)) fun number2047 => (lt ((number2047 % (12 : Int)) : Int) fun turn2048 =>
 (chk (((cut names_here2040 (some turn2048) none)).length + ((cut names_here2040 none (some turn2048))).length ≤ sizeLine) (bnd (m_l_cell_at script2022 (2 : Int)) fun cell_at2056 => (lt ((⟨(cut ((cut names_here2040 (some turn2048) none) ++ (cut names_here2040 none (some turn2048))) none (some ((cell_at2056 / (40 : Int)) % (13 : Int))))⟩ : Tu Str) : (Tu Str)) fun some2057 =>
 (bnd (m_l_cell_at script2022 (5 : Int)) fun cell_at2064 => (bnd (m_l_cell_at script2022 (6 : Int)) fun cell_at2065 => (bnd (m_l_digits cell_at2064 (cell_at2065 % (13 : Int)) ((10 : Int) ^ ((60 : Int)).toNat)) fun digits2066 => (lt (digits2066 : (List Int)) fun breaks2067 =>
 (bnd (m_l_number script2022 (7 : Int)) fun number2077 => (bnd (m_l_cell_at script2022 (6 : Int)) fun cell_at2078 => (bnd (m_l_digits number2077 ((cell_at2078 / (13 : Int)) % (49 : Int)) (7 : Int)) fun digits2079 => (chk ((breaks2067).length + (digits2079).length ≤ sizeLine) (lt ((breaks2067 ++ digits2079) : (List Int)) fun breaks2081 =>
 (bnd (mapO (fun (x2088 : Int) => (chk ((x2088).natAbs.log2 < 1920) (some (strI x2088)))) order_here2031) fun ys2103 => (chk ((ys2103).length ≤ sizeLine) (chk (JnOk ("," : Str) ys2103) (chk (JnOk ("," : Str) (some2057).l) (bnd (mapO (fun (x2107 : Int) => (chk ((x2107).natAbs.log2 < 1920) (some (strI x2107)))) breaks2081) fun ys2122 => (chk ((ys2122).length ≤ sizeLine) (chk (JnOk ("," : Str) ys2122) (lt (([(Txt.join ("," : Str) ys2103), (Txt.join ("," : Str) (some2057).l), (Txt.join ("," : Str) ys2122)] : List Str) : (List Str)) fun texts2125 =>
 (bnd (atI texts2125 (0 : Int)) fun at2132 => (bnd (mapO (fun (x2133 : Str) => (bnd (atI ([x2133, ("-" : Str)] : List Str) (if (decide (x2133 = ("" : Str))) = true then (1 : Int) else 0)) fun at2148 => (some at2148))) (cut texts2125 (some (1 : Int)) none)) fun ys2149 => (chk ((ys2149).length ≤ sizeLine) (chk ((([at2132] : List Str)).length + (ys2149).length ≤ sizeLine) (lt ((([at2132] : List Str) ++ ys2149) : (List Str)) fun texts2152 =>
 (lt (([order_here2031, breaks2081] : List (List Int)) : (List (List Int))) fun handed2159 =>
 (bnd (atI handed2159 (0 : Int)) fun at2203 => (bnd (m_show_order at2203) fun show_order2204 => (bnd (atI texts2152 (0 : Int)) fun at2205 => (bnd (orO (!decide (show_order2204 = at2205)) (bnd (m_show_instruments some2057) fun show_instruments2208 => (bnd (atI texts2152 (1 : Int)) fun at2209 => (orO (!decide (show_instruments2208 = at2209)) (bnd (atI handed2159 (1 : Int)) fun at2219 => (bnd (m_show_breaks at2219) fun show_breaks2220 => (bnd (atI texts2152 (2 : Int)) fun at2221 => (some (!decide (show_breaks2220 = at2221)))))))))) fun c2222 => (if c2222 = true then
 (some false)
 else
 (if (!decide (handed2159 = ([order_here2031, breaks2081] : List (List Int)))) = true then
 (some false)
 else
 (bnd (foldF (ρ := Bool) (fun (b2255 : Unit) (x2257 : Int) =>
 (bnd (atI texts2152 x2257) fun at2305 => (bnd (m_l_told x2257 at2305) fun told2306 => (bnd (atI ([(An.l order_here2031), (An.ts some2057), (An.l breaks2081)] : List An) x2257) fun at2307 => (bnd (m_l_is x2257 told2306 at2307) fun is2308 => (if (!is2308) = true then
 (some (Fl.rt false))
 else
 (some (Fl.nx ())))))))) () (rng 0 (3 : Int))) fun o2253 =>
 (Fl.go o2253 (fun b2334 => (bnd (m_l_cell_at script2022 (1 : Int)) fun cell_at2339 => (bnd (foldF (ρ := Bool) (fun (b2342 : Unit) (x2344 : Int) =>
 (bnd (m_l_number script2022 ((8 : Int) + x2344)) fun number2370 => (lt (number2370 : Int) fun x2371 =>
 (bnd (atI texts2152 (x2371 % (3 : Int))) fun at2380 => (bnd (m_l_bent at2380 (x2371 / (3 : Int))) fun bent2381 => (lt (bent2381 : Str) fun bent_here2382 =>
 (bnd (m_l_told (x2371 % (3 : Int)) bent_here2382) fun told2407 => (bnd (m_l_due (x2371 % (3 : Int)) bent_here2382) fun due2408 => (bnd (m_l_is (x2371 % (3 : Int)) told2407 due2408) fun is2409 => (if (!is2409) = true then
 (some (Fl.rt false))
 else
 (some (Fl.nx ())))))))))))) () (rng 0 ((6 : Int) + (cell_at2339 % (45 : Int))))) fun o2340 =>
 (Fl.go o2340 (fun b2435 => (some true)) (fun rr => (some rr)))))) (fun rr => (some rr)))))))))))))))))))))))))))))))))))))))))))))
noncomputable abbrev a_law : (List Int) × Unit → Option Bool := fun a => m_law a.1
theorem ok_law_fn {P : Program} {w : World} {K : PySem.W.Frag} {mg : Str → Option Value} {base : Heap} {f : Addr} {fd : FuncData} (F : FunP K "law" s_law f fd) (hmg : mg "law" = some (.ref f)) (C_l_number : Cal P w K mg base CX0 2 "_law_number" (sp K a_l_number)) (C_l_cell_at : Cal P w K mg base CX0 1 "_law_cell_at" (sp K a_l_cell_at)) (C_l_order : Cal P w K mg base CX0 1 "_law_order" (spN K a_l_order)) (C_l_names : Cal P w K mg base CX0 1 "_law_names" (sp K a_l_names)) (C_l_digits : Cal P w K mg base CX0 1 "_law_digits" (sp K a_l_digits)) (C_show_order : Cal P w K mg base CX0 1 "show_order" (sp K a_show_order)) (C_show_instruments : Cal P w K mg base CX0 1 "show_instruments" (sp K a_show_instruments)) (C_show_breaks : Cal P w K mg base CX0 1 "show_breaks" (sp K a_show_breaks)) (C_l_told : Cal P w K mg base CX0 5 "_law_told" (sp K a_l_told)) (C_l_is : Cal P w K mg base CX0 1 "_law_is" (sp K a_l_is)) (C_l_bent : Cal P w K mg base CX0 1 "_law_bent" (sp K a_l_bent)) (C_l_due : Cal P w K mg base CX0 2 "_law_due" (sp K a_l_due)) (z_tuple : mg "tuple" = none) (z_str : mg "str" = none) (z_int : mg "int" = none) (z_list : mg "list" = none) (z_range : mg "range" = none) : FnOk P w K mg base CX0 6 f fd ["_law_script"] (sp K a_law) := by
  refine mk_fn (k := 5) F sc_law len1 ?_
  rintro cdv A' outer sh0 H0 X0 hr s0 vs ⟨script2022, _⟩ r0 Q ⟨v2023, _, rfl, r2024, rfl⟩ hm hQ
  unfold a_law m_law at hm
  dsimp only at hm
  have iv2025 : Iv K (fun _ => False) s0 s0 [fz v2023 (script2022 : (List Int)), top, top, top, top, top, top, top, top, top, top, top, top, top] := (Iv.sf (Iv.tops (K := K) (P0 := (fun _ => False)) 14 s0) 0 (Ex.refl s0) r2024 rfl)
  obtain ⟨number2028, h_number2028, hm⟩ := bndE hm
  obtain ⟨cell_at2029, h_cell_at2029, hm⟩ := bndE hm
  obtain ⟨order2030, h_order2030, hm⟩ := bndE hm
  refine do_set 1 (EvN.ev (en_call C_l_order hr (by decide) (ea_cons (ev_call C_l_number hr (by decide) (ea_cons (ev_var 0 rfl (Iv.fz (x := (script2022 : (List Int))) iv2025 0)) (ea_cons ev_int ea_nil)) h_number2028) (ea_cons (ev_add ev_int (ev_mod (ev_call C_l_cell_at hr (by decide) (ea_cons (ev_var 0 rfl (Iv.fz (x := (script2022 : (List Int))) iv2025 0)) (ea_cons ev_int ea_nil)) h_cell_at2029) ev_int (by decide))) ea_nil)) h_order2030)) (fun v2035 s2033 e2034 r2036 => ?_) sc_law.nd
  obtain ⟨order_here2031, q2032, hm⟩ := ltE hm
  have iv2037 := Iv.sf iv2025 1 e2034 r2036 q2032
  obtain ⟨number2038, h_number2038, hm⟩ := bndE hm
  obtain ⟨names2039, h_names2039, hm⟩ := bndE hm
  refine do_set 2 (ev_call C_l_names hr (by decide) (ea_cons (ev_call C_l_number hr (by decide) (ea_cons (ev_var 0 rfl (Iv.fz (x := (script2022 : (List Int))) iv2037 0)) (ea_cons ev_int ea_nil)) h_number2038) ea_nil) h_names2039) (fun v2044 s2042 e2043 r2045 => ?_) sc_law.nd
  obtain ⟨names_here2040, q2041, hm⟩ := ltE hm
  have iv2046 := Iv.sf iv2037 2 e2043 r2045 q2041
  obtain ⟨number2047, h_number2047, hm⟩ := bndE hm
  refine do_set 3 (ev_mod (ev_call C_l_number hr (by decide) (ea_cons (ev_var 0 rfl (Iv.fz (x := (script2022 : (List Int))) iv2046 0)) (ea_cons ev_int ea_nil)) h_number2047) ev_int (by decide)) (fun v2052 s2050 e2051 r2053 => ?_) sc_law.nd
  obtain ⟨turn2048, q2049, hm⟩ := ltE hm
  have iv2054 := Iv.sf iv2046 3 e2051 r2053 q2049
  obtain ⟨hc2055, hm⟩ := chkE hm
  obtain ⟨cell_at2056, h_cell_at2056, hm⟩ := bndE hm
  refine do_set 4 (ev_tuple z_tuple (EvN.r (en_slice (EvN.r (en_cat (EvN.r (en_slice (Ev.r (ev_var 2 rfl (Iv.fz (x := (names_here2040 : (List Str))) iv2054 2))) (eo_some (ev_var 3 rfl (Iv.fz (x := (turn2048 : Int)) iv2054 3))) eo_none)) (EvN.r (en_slice (Ev.r (ev_var 2 rfl (Iv.fz (x := (names_here2040 : (List Str))) iv2054 2))) eo_none (eo_some (ev_var 3 rfl (Iv.fz (x := (turn2048 : Int)) iv2054 3))))) hc2055)) eo_none (eo_some (ev_mod (ev_div (ev_call C_l_cell_at hr (by decide) (ea_cons (ev_var 0 rfl (Iv.fz (x := (script2022 : (List Int))) iv2054 0)) (ea_cons ev_int ea_nil)) h_cell_at2056) ev_int ⟨by decide, by decide +kernel⟩) ev_int (by decide)))))) (fun v2061 s2059 e2060 r2062 => ?_) sc_law.nd
  obtain ⟨some2057, q2058, hm⟩ := ltE hm
  have iv2063 := Iv.sf iv2054 4 e2060 r2062 q2058
  obtain ⟨cell_at2064, h_cell_at2064, hm⟩ := bndE hm
  obtain ⟨cell_at2065, h_cell_at2065, hm⟩ := bndE hm
  obtain ⟨digits2066, h_digits2066, hm⟩ := bndE hm
  refine do_set 5 (ev_call C_l_digits hr (by decide) (ea_cons (ev_call C_l_cell_at hr (by decide) (ea_cons (ev_var 0 rfl (Iv.fz (x := (script2022 : (List Int))) iv2063 0)) (ea_cons ev_int ea_nil)) h_cell_at2064) (ea_cons (ev_mod (ev_call C_l_cell_at hr (by decide) (ea_cons (ev_var 0 rfl (Iv.fz (x := (script2022 : (List Int))) iv2063 0)) (ea_cons ev_int ea_nil)) h_cell_at2065) ev_int (by decide)) (ea_cons (ev_pow ev_int ev_int ⟨by decide, by decide, by decide⟩) ea_nil))) h_digits2066) (fun v2071 s2069 e2070 r2072 => ?_) sc_law.nd
  obtain ⟨breaks2067, q2068, hm⟩ := ltE hm
  have iv2073 := Iv.sf iv2063 5 e2070 r2072 q2068
  obtain ⟨number2077, h_number2077, hm⟩ := bndE hm
  obtain ⟨cell_at2078, h_cell_at2078, hm⟩ := bndE hm
  obtain ⟨digits2079, h_digits2079, hm⟩ := bndE hm
  obtain ⟨hc2080, hm⟩ := chkE hm
  refine do_set 5 (EvN.ev (en_cat (Ev.r (ev_var 5 rfl (Iv.fz (x := (breaks2067 : (List Int))) iv2073 5))) (Ev.r (ev_call C_l_digits hr (by decide) (ea_cons (ev_call C_l_number hr (by decide) (ea_cons (ev_var 0 rfl (Iv.fz (x := (script2022 : (List Int))) iv2073 0)) (ea_cons ev_int ea_nil)) h_number2077) (ea_cons (ev_mod (ev_div (ev_call C_l_cell_at hr (by decide) (ea_cons (ev_var 0 rfl (Iv.fz (x := (script2022 : (List Int))) iv2073 0)) (ea_cons ev_int ea_nil)) h_cell_at2078) ev_int ⟨by decide, by decide +kernel⟩) ev_int (by decide)) (ea_cons ev_int ea_nil))) h_digits2079)) hc2080)) (fun v2085 s2083 e2084 r2086 => ?_) sc_law.nd
  obtain ⟨breaks2081, q2082, hm⟩ := ltE hm
  have iv2087 := Iv.sf iv2073 5 e2084 r2086 q2082
  obtain ⟨ys2103, h_ys2103, hm⟩ := bndE hm
  obtain ⟨hc2104, hm⟩ := chkE hm
  obtain ⟨hc2105, hm⟩ := chkE hm
  obtain ⟨hc2106, hm⟩ := chkE hm
  obtain ⟨ys2122, h_ys2122, hm⟩ := bndE hm
  obtain ⟨hc2123, hm⟩ := chkE hm
  obtain ⟨hc2124, hm⟩ := chkE hm
  refine do_set 6 (EvN.ev (en_list (xs := ([(Txt.join ("," : Str) ys2103), (Txt.join ("," : Str) (some2057).l), (Txt.join ("," : Str) ys2122)] : List Str)) (ee_cons (ev_join ev_str (EvN.r (EvL.n (en_comp0 (own := [("_law_one", 13)]) (j := 13) (f := fun (x2088 : Int) => (chk ((x2088).natAbs.log2 < 1920) (some (strI x2088)))) rfl sc_law.nd (ei_list (ev_var 1 rfl (Iv.fz (x := (order_here2031 : (List Int))) iv2087 1))) (blkOk_by (own := [("_law_one", 13)]) (N := N_law) (sc := defScope s_law) (by decide +kernel)) rfl (by decide) (fun _ _ _ _ _ => pg_name (i := 13) sc_law.nd rfl (by first | exact Or.inl rfl | exact Or.inr rfl)) h_ys2103 hc2104 (fun x2088 y2089 v2100 s2090 hx2092 e2091 r2101 hf2093 _ _ _ _ _ => by obtain ⟨hc2102, hf2093⟩ := chkE hf2093; obtain rfl := Option.some.inj hf2093; exact (ev_strI z_str hc2102 (ev_var 13 rfl r2101)))))) hc2105) (ee_cons (ev_joinT ev_str (ev_var 4 rfl (Iv.fz (x := (some2057 : (Tu Str))) iv2087 4)) hc2106) (ee_cons (ev_join ev_str (EvN.r (EvL.n (en_comp0 (own := [("_law_one", 13)]) (j := 13) (f := fun (x2107 : Int) => (chk ((x2107).natAbs.log2 < 1920) (some (strI x2107)))) rfl sc_law.nd (ei_list (ev_var 5 rfl (Iv.fz (x := (breaks2081 : (List Int))) iv2087 5))) (blkOk_by (own := [("_law_one", 13)]) (N := N_law) (sc := defScope s_law) (by decide +kernel)) rfl (by decide) (fun _ _ _ _ _ => pg_name (i := 13) sc_law.nd rfl (by first | exact Or.inl rfl | exact Or.inr rfl)) h_ys2122 hc2123 (fun x2107 y2108 v2119 s2109 hx2111 e2110 r2120 hf2112 _ _ _ _ _ => by obtain ⟨hc2121, hf2112⟩ := chkE hf2112; obtain rfl := Option.some.inj hf2112; exact (ev_strI z_str hc2121 (ev_var 13 rfl r2120)))))) hc2124) ee_nil))) (by simp [sizeLine]))) (fun v2129 s2127 e2128 r2130 => ?_) sc_law.nd
  obtain ⟨texts2125, q2126, hm⟩ := ltE hm
  have iv2131 := Iv.sf iv2087 6 e2128 r2130 q2126
  obtain ⟨at2132, h_at2132, hm⟩ := bndE hm
  obtain ⟨ys2149, h_ys2149, hm⟩ := bndE hm
  obtain ⟨hc2150, hm⟩ := chkE hm
  obtain ⟨hc2151, hm⟩ := chkE hm
  refine do_set 6 (EvN.ev (en_cat (EvN.r (en_list (xs := ([at2132] : List Str)) (ee_cons (ev_ix (Ev.r (ev_var 6 rfl (Iv.fz (x := (texts2125 : (List Str))) iv2131 6))) ev_int h_at2132) ee_nil) (by simp [sizeLine]))) (EvN.r (EvL.n (en_comp0 (own := [("_law_text", 12)]) (j := 12) (f := fun (x2133 : Str) => (bnd (atI ([x2133, ("-" : Str)] : List Str) (if (decide (x2133 = ("" : Str))) = true then (1 : Int) else 0)) fun at2148 => (some at2148))) rfl sc_law.nd (ei_list (EvN.ev (en_slice (Ev.r (ev_var 6 rfl (Iv.fz (x := (texts2125 : (List Str))) iv2131 6))) (eo_some ev_int) eo_none))) (blkOk_by (own := [("_law_text", 12)]) (N := N_law) (sc := defScope s_law) (by decide +kernel)) rfl (by decide) (fun _ _ _ _ _ => pg_name (i := 12) sc_law.nd rfl (by first | exact Or.inl rfl | exact Or.inr rfl)) h_ys2149 hc2150 (fun x2133 y2134 v2146 s2135 hx2137 e2136 r2147 hf2138 _ _ _ _ _ => by obtain ⟨at2148, h_at2148, hf2138⟩ := bndE hf2138; obtain rfl := Option.some.inj hf2138; exact (ev_ix (EvN.r (en_list (xs := ([x2133, ("-" : Str)] : List Str)) (ee_cons (ev_var 12 rfl r2147) (ee_cons ev_str ee_nil)) (by simp [sizeLine]))) (ev_intB z_int (EvB.v (eb_eq (ev_var 12 rfl r2147) ev_str))) h_at2148))))) hc2151)) (fun v2156 s2154 e2155 r2157 => ?_) sc_law.nd
  obtain ⟨texts2152, q2153, hm⟩ := ltE hm
  have iv2158 := Iv.sf iv2131 6 e2155 r2157 q2153
  refine do_set 7 (EvN.ev (en_list (xs := ([order_here2031, breaks2081] : List (List Int))) (ee_cons (EvN.ev (en_copy z_list (Ev.r (ev_var 1 rfl (Iv.fz (x := (order_here2031 : (List Int))) iv2158 1))))) (ee_cons (EvN.ev (en_copy z_list (Ev.r (ev_var 5 rfl (Iv.fz (x := (breaks2081 : (List Int))) iv2158 5))))) ee_nil)) (by simp [sizeLine]))) (fun v2163 s2161 e2162 r2164 => ?_) sc_law.nd
  obtain ⟨handed2159, q2160, hm⟩ := ltE hm
  have iv2165 := Iv.sf iv2158 7 e2162 r2164 q2160
  obtain ⟨at2203, h_at2203, hm⟩ := bndE hm
  obtain ⟨show_order2204, h_show_order2204, hm⟩ := bndE hm
  obtain ⟨at2205, h_at2205, hm⟩ := bndE hm
  obtain ⟨c2222, h_c2222, hm⟩ := bndE hm
  refine do_ifR (EvW.tt (EvC.w (by skip; exact ec_orO (eb_ne (ev_call C_show_order hr (by decide) (ea_cons (ev_ix (Ev.r (ev_var 7 rfl (Iv.fz (x := (handed2159 : (List (List Int)))) iv2165 7))) ev_int h_at2203) ea_nil) h_show_order2204) (ev_ix (Ev.r (ev_var 6 rfl (Iv.fz (x := (texts2152 : (List Str))) iv2165 6))) ev_int h_at2205)) (fun hb2223 => (fun hz => (by obtain ⟨show_instruments2208, h_show_instruments2208, hz⟩ := bndE hz; obtain ⟨at2209, h_at2209, hz⟩ := bndE hz; exact ec_orO (eb_ne (ev_call C_show_instruments hr (by decide) (ea_cons (ev_var 4 rfl (Iv.fz (x := (some2057 : (Tu Str))) iv2165 4)) ea_nil) h_show_instruments2208) (ev_ix (Ev.r (ev_var 6 rfl (Iv.fz (x := (texts2152 : (List Str))) iv2165 6))) ev_int h_at2209)) (fun hb2224 => (fun hz => (by obtain ⟨at2219, h_at2219, hz⟩ := bndE hz; obtain ⟨show_breaks2220, h_show_breaks2220, hz⟩ := bndE hz; obtain ⟨at2221, h_at2221, hz⟩ := bndE hz; obtain rfl := Option.some.inj hz; exact (ec_or1 (eb_ne (ev_call C_show_breaks hr (by decide) (ea_cons (ev_ix (Ev.r (ev_var 7 rfl (Iv.fz (x := (handed2159 : (List (List Int)))) iv2165 7))) ev_int h_at2219) ea_nil) h_show_breaks2220) (ev_ix (Ev.r (ev_var 6 rfl (Iv.fz (x := (texts2152 : (List Str))) iv2165 6))) ev_int h_at2221))))) ((orE hz).1 hb2224)) (orE hz).2)) ((orE h_c2222).1 hb2223)) (orE h_c2222).2))) (fun hb2225 s2226 e2227 => ?_) (fun hb2234 s2235 e2236 => ?_)
  · have hm2228 := iteE1 hm hb2225
    have iv2229 := Iv.ex iv2165 e2227
    obtain rfl := Option.some.inj hm2228
    exact do_ret ev_bl fun v2230 s2231 e2232 r2233 => hQ _ _ (Ex.trans (Iv.exx iv2229) e2232) r2233
  · have hm2237 := iteE2 hm hb2234
    have iv2238 := Iv.ex iv2165 e2236
    refine do_ifR (EvB.t (eb_neL hr (Ev.r (ev_var 7 rfl (Iv.fz (x := (handed2159 : (List (List Int)))) iv2238 7))) (EvN.r (en_list (xs := ([order_here2031, breaks2081] : List (List Int))) (ee_cons (ev_var 1 rfl (Iv.fz (x := (order_here2031 : (List Int))) iv2238 1)) (ee_cons (ev_var 5 rfl (Iv.fz (x := (breaks2081 : (List Int))) iv2238 5)) ee_nil)) (by simp [sizeLine]))) (shp_of _) (shp_of _))) (fun hb2239 s2240 e2241 => ?_) (fun hb2248 s2249 e2250 => ?_)
    · have hm2242 := iteE1 hm2237 hb2239
      have iv2243 := Iv.ex iv2238 e2241
      obtain rfl := Option.some.inj hm2242
      exact do_ret ev_bl fun v2244 s2245 e2246 r2247 => hQ _ _ (Ex.trans (Iv.exx iv2243) e2246) r2247
    · have hm2251 := iteE2 hm2237 hb2248
      have iv2252 := Iv.ex iv2238 e2250
      obtain ⟨o2253, ho2254, hm2251⟩ := bndE hm2251
      refine do_forF (ρ := Bool) (υ := Unit) PassesOwn.never rfl (ei_range1 z_range ev_int ⟨by omega, by omega⟩) (pg_name (i := 8) sc_law.nd rfl (by first | exact Or.inl rfl | exact Or.inr rfl)) tg_n ho2254 (fun (b2255 : Unit) (σ' : L2.St) (t' : S) => ∃ (y_kind : Option V), σ' = [some v2023, some v2035, some v2044, some v2052, some v2061, some v2085, some v2156, some v2163, y_kind, none, none, none, none, none] ∧ Iv K (fun _ => False) s0 t' [fz v2023 (script2022 : (List Int)), fz v2035 (order_here2031 : (List Int)), fz v2044 (names_here2040 : (List Str)), fz v2052 (turn2048 : Int), fz v2061 (some2057 : (Tu Str)), fz v2085 (breaks2081 : (List Int)), fz v2156 (texts2152 : (List Str)), fz v2163 (handed2159 : (List (List Int))), top, top, top, top, top, top]) (fun s2331 k2332 => by have iv2333 := Iv.ex iv2252 k2332; exact ⟨_, rfl, Iv.sel iv2333 [some 0, some 1, some 2, some 3, some 4, some 5, some 6, some 7, none, none, none, none, none, none] (by decide +kernel) (by kernel_rfl)⟩) (fun s2258 k2259 x2257 b2255 q2279 σ2268 σ2269 t2266 t2267 hx2260 hm2261 hq2280 fl2262 hR2263 k2264 hB2265 => ?_) (fun s2325 k2326 b2334 σ2327 t2328 ho2335 fl2329 hR2330 => ?_)
      · have hf2270 := Fle.trans k2259.f fl2262
        obtain ⟨y2271, rfl, iv2272⟩ := hR2263
        obtain ⟨v2273, r2274, rfl⟩ := hB2265
        have iv2275 := Iv.ex iv2272 k2264
        have iv2276 := Iv.sf iv2275 8 (Ex.refl t2267) r2274 rfl
        have fl2277 := Fle.trans (Fle.refl t2267.F) (Ex.refl t2267).f
        have q2278 := rng_mem hx2260
        obtain ⟨at2305, h_at2305, hm2261⟩ := bndE hm2261
        obtain ⟨told2306, h_told2306, hm2261⟩ := bndE hm2261
        obtain ⟨at2307, h_at2307, hm2261⟩ := bndE hm2261
        obtain ⟨is2308, h_is2308, hm2261⟩ := bndE hm2261
        refine do_ifR (EvB.t (eb_not (eb_v (ev_call C_l_is hr (by decide) (ea_cons (ev_var 8 rfl (Iv.fz (x := (x2257 : Int)) iv2276 8)) (ea_cons (ev_call C_l_told hr (by decide) (ea_cons (ev_var 8 rfl (Iv.fz (x := (x2257 : Int)) iv2276 8)) (ea_cons (ev_ix (Ev.r (ev_var 6 rfl (Iv.fz (x := (texts2152 : (List Str))) iv2276 6))) (ev_var 8 rfl (Iv.fz (x := (x2257 : Int)) iv2276 8)) h_at2305) ea_nil)) h_told2306) (ea_cons (ev_ix (EvN.r (en_list (xs := ([(An.l order_here2031), (An.ts some2057), (An.l breaks2081)] : List An)) (ee_cons (an_l (ev_var 1 rfl (Iv.fz (x := (order_here2031 : (List Int))) iv2276 1))) (ee_cons (an_ts (ev_var 4 rfl (Iv.fz (x := (some2057 : (Tu Str))) iv2276 4))) (ee_cons (an_l (ev_var 5 rfl (Iv.fz (x := (breaks2081 : (List Int))) iv2276 5))) ee_nil))) (by simp [sizeLine]))) (ev_var 8 rfl (Iv.fz (x := (x2257 : Int)) iv2276 8)) h_at2307) ea_nil))) h_is2308)))) (fun hb2309 s2310 e2311 => ?_) (fun hb2319 s2320 e2321 => ?_)
        · have hm2312 := iteE1 hm2261 hb2309
          have iv2313 := Iv.ex iv2276 e2311
          have fl2314 := Fle.trans (Fle.refl t2267.F) e2311.f
          obtain rfl := Option.some.inj hm2312
          obtain rfl := hq2280 _ rfl
          obtain rfl := Option.some.inj hm2251
          exact do_ret ev_bl fun v2315 s2316 e2317 r2318 => hQ _ _ (Ex.trans (Iv.exx iv2313) e2317) r2318
        · have hm2322 := iteE2 hm2261 hb2319
          have iv2323 := Iv.ex iv2276 e2321
          have fl2324 := Fle.trans (Fle.refl t2267.F) e2321.f
          obtain rfl := Option.some.inj hm2322
          exact do_nil ⟨s2320, rfl, _, rfl, fl2324, ⟨_, rfl, Iv.sel iv2323 [some 0, some 1, some 2, some 3, some 4, some 5, some 6, some 7, none, none, none, none, none, none] (by decide +kernel) (by kernel_rfl)⟩⟩
      · subst ho2335
        replace hm2251 := goN hm2251
        have hf2336 := Fle.trans k2326.f fl2329
        obtain ⟨y2337, rfl, iv2338⟩ := hR2330
        obtain ⟨cell_at2339, h_cell_at2339, hm2251⟩ := bndE hm2251
        obtain ⟨o2340, ho2341, hm2251⟩ := bndE hm2251
        refine do_forF (ρ := Bool) (υ := Unit) PassesOwn.never rfl (ei_range1 z_range (ev_add ev_int (ev_mod (ev_call C_l_cell_at hr (by decide) (ea_cons (ev_var 0 rfl (Iv.fz (x := (script2022 : (List Int))) iv2338 0)) (ea_cons ev_int ea_nil)) h_cell_at2339) ev_int (by decide))) ⟨by omega, by omega⟩) (pg_name (i := 9) sc_law.nd rfl (by first | exact Or.inl rfl | exact Or.inr rfl)) tg_n ho2341 (fun (b2342 : Unit) (σ' : L2.St) (t' : S) => ∃ (y_x : Option V) (y_bent_here : Option V) (y_k : Option V), σ' = [some v2023, some v2035, some v2044, some v2052, some v2061, some v2085, some v2156, some v2163, y2337, y_k, y_x, y_bent_here, none, none] ∧ Iv K (fun _ => False) s0 t' [fz v2023 (script2022 : (List Int)), fz v2035 (order_here2031 : (List Int)), fz v2044 (names_here2040 : (List Str)), fz v2052 (turn2048 : Int), fz v2061 (some2057 : (Tu Str)), fz v2085 (breaks2081 : (List Int)), fz v2156 (texts2152 : (List Str)), fz v2163 (handed2159 : (List (List Int))), top, top, top, top, top, top]) (fun s2432 k2433 => by have iv2434 := Iv.ex iv2338 k2433; exact ⟨_, _, _, rfl, Iv.sel iv2434 [some 0, some 1, some 2, some 3, some 4, some 5, some 6, some 7, none, none, none, none, none, none] (by decide +kernel) (by kernel_rfl)⟩) (fun s2345 k2346 x2344 b2342 q2368 σ2355 σ2356 t2353 t2354 hx2347 hm2348 hq2369 fl2349 hR2350 k2351 hB2352 => ?_) (fun s2426 k2427 b2435 σ2428 t2429 ho2436 fl2430 hR2431 => ?_)
        · have hf2357 := Fle.trans k2346.f fl2349
          obtain ⟨y2358, y2359, y2360, rfl, iv2361⟩ := hR2350
          obtain ⟨v2362, r2363, rfl⟩ := hB2352
          have iv2364 := Iv.ex iv2361 k2351
          have iv2365 := Iv.sf iv2364 9 (Ex.refl t2354) r2363 rfl
          have fl2366 := Fle.trans (Fle.refl t2354.F) (Ex.refl t2354).f
          have q2367 := rng_mem hx2347
          obtain ⟨number2370, h_number2370, hm2348⟩ := bndE hm2348
          refine do_set 10 (ev_call C_l_number hr (by decide) (ea_cons (ev_var 0 rfl (Iv.fz (x := (script2022 : (List Int))) iv2365 0)) (ea_cons (ev_add ev_int (ev_var 9 rfl (Iv.fz (x := (x2344 : Int)) iv2365 9))) ea_nil)) h_number2370) (fun v2375 s2373 e2374 r2376 => ?_) sc_law.nd
          obtain ⟨x2371, q2372, hm2348⟩ := ltE hm2348
          have iv2377 := Iv.sf iv2365 10 e2374 r2376 q2372
          have fl2378 := Fle.trans (Fle.refl t2354.F) e2374.f
          obtain ⟨at2380, h_at2380, hm2348⟩ := bndE hm2348
          obtain ⟨bent2381, h_bent2381, hm2348⟩ := bndE hm2348
          refine do_set 11 (ev_call C_l_bent hr (by decide) (ea_cons (ev_ix (Ev.r (ev_var 6 rfl (Iv.fz (x := (texts2152 : (List Str))) iv2377 6))) (ev_mod (ev_var 10 rfl (Iv.fz (x := (x2371 : Int)) iv2377 10)) ev_int (by decide)) h_at2380) (ea_cons (ev_div (ev_var 10 rfl (Iv.fz (x := (x2371 : Int)) iv2377 10)) ev_int ⟨by decide, by decide +kernel⟩) ea_nil)) h_bent2381) (fun v2386 s2384 e2385 r2387 => ?_) sc_law.nd
          obtain ⟨bent_here2382, q2383, hm2348⟩ := ltE hm2348
          have iv2388 := Iv.sf iv2377 11 e2385 r2387 q2383
          have fl2389 := Fle.trans fl2378 e2385.f
          obtain ⟨told2407, h_told2407, hm2348⟩ := bndE hm2348
          obtain ⟨due2408, h_due2408, hm2348⟩ := bndE hm2348
          obtain ⟨is2409, h_is2409, hm2348⟩ := bndE hm2348
          refine do_ifR (EvB.t (eb_not (eb_v (ev_call C_l_is hr (by decide) (ea_cons (ev_mod (ev_var 10 rfl (Iv.fz (x := (x2371 : Int)) iv2388 10)) ev_int (by decide)) (ea_cons (ev_call C_l_told hr (by decide) (ea_cons (ev_mod (ev_var 10 rfl (Iv.fz (x := (x2371 : Int)) iv2388 10)) ev_int (by decide)) (ea_cons (ev_var 11 rfl (Iv.fz (x := (bent_here2382 : Str)) iv2388 11)) ea_nil)) h_told2407) (ea_cons (ev_call C_l_due hr (by decide) (ea_cons (ev_mod (ev_var 10 rfl (Iv.fz (x := (x2371 : Int)) iv2388 10)) ev_int (by decide)) (ea_cons (ev_var 11 rfl (Iv.fz (x := (bent_here2382 : Str)) iv2388 11)) ea_nil)) h_due2408) ea_nil))) h_is2409)))) (fun hb2410 s2411 e2412 => ?_) (fun hb2420 s2421 e2422 => ?_)
          · have hm2413 := iteE1 hm2348 hb2410
            have iv2414 := Iv.ex iv2388 e2412
            have fl2415 := Fle.trans fl2389 e2412.f
            obtain rfl := Option.some.inj hm2413
            obtain rfl := hq2369 _ rfl
            obtain rfl := Option.some.inj hm2251
            exact do_ret ev_bl fun v2416 s2417 e2418 r2419 => hQ _ _ (Ex.trans (Iv.exx iv2414) e2418) r2419
          · have hm2423 := iteE2 hm2348 hb2420
            have iv2424 := Iv.ex iv2388 e2422
            have fl2425 := Fle.trans fl2389 e2422.f
            obtain rfl := Option.some.inj hm2423
            exact do_nil ⟨s2421, rfl, _, rfl, fl2425, ⟨_, _, _, rfl, Iv.sel iv2424 [some 0, some 1, some 2, some 3, some 4, some 5, some 6, some 7, none, none, none, none, none, none] (by decide +kernel) (by kernel_rfl)⟩⟩
        · subst ho2436
          replace hm2251 := goN hm2251
          have hf2437 := Fle.trans k2427.f fl2430
          obtain ⟨y2438, y2439, y2440, rfl, iv2441⟩ := hR2431
          obtain rfl := Option.some.inj hm2251
          exact do_ret ev_bl fun v2442 s2443 e2444 r2445 => hQ _ _ (Ex.trans (Iv.exx iv2441) e2444) r2445
def d_l_order : He.DefD := ⟨("_law_order", none), "_law_order", "_law_order", defArgs s_l_order, defBody s_l_order, defScope s_l_order, [], []⟩
def d_l_names : He.DefD := ⟨("_law_names", none), "_law_names", "_law_names", defArgs s_l_names, defBody s_l_names, defScope s_l_names, [], []⟩
def d_l_digits : He.DefD := ⟨("_law_digits", none), "_law_digits", "_law_digits", defArgs s_l_digits, defBody s_l_digits, defScope s_l_digits, [], []⟩
def d_l_cell_at : He.DefD := ⟨("_law_cell_at", none), "_law_cell_at", "_law_cell_at", defArgs s_l_cell_at, defBody s_l_cell_at, defScope s_l_cell_at, [], []⟩
def d_l_number : He.DefD := ⟨("_law_number", none), "_law_number", "_law_number", defArgs s_l_number, defBody s_l_number, defScope s_l_number, [], []⟩
def d_l_bent : He.DefD := ⟨("_law_bent", none), "_law_bent", "_law_bent", defArgs s_l_bent, defBody s_l_bent, defScope s_l_bent, [], []⟩
def d_show_order : He.DefD := ⟨("show_order", none), "show_order", "show_order", defArgs s_show_order, defBody s_show_order, defScope s_show_order, [], []⟩
def d_show_instruments : He.DefD := ⟨("show_instruments", none), "show_instruments", "show_instruments", defArgs s_show_instruments, defBody s_show_instruments, defScope s_show_instruments, [], []⟩
def d_show_breaks : He.DefD := ⟨("show_breaks", none), "show_breaks", "show_breaks", defArgs s_show_breaks, defBody s_show_breaks, defScope s_show_breaks, [], []⟩
def d_l_is : He.DefD := ⟨("_law_is", none), "_law_is", "_law_is", defArgs s_l_is, defBody s_l_is, defScope s_l_is, [], []⟩
def d_is_made_of : He.DefD := ⟨("is_made_of", none), "is_made_of", "is_made_of", defArgs s_is_made_of, defBody s_is_made_of, defScope s_is_made_of, [], []⟩
def d_number_of : He.DefD := ⟨("number_of", none), "number_of", "number_of", defArgs s_number_of, defBody s_number_of, defScope s_number_of, [], []⟩
def d_asked_number : He.DefD := ⟨("asked_number", none), "asked_number", "asked_number", defArgs s_asked_number, defBody s_asked_number, defScope s_asked_number, [], []⟩
def d_asked_order : He.DefD := ⟨("asked_order", none), "asked_order", "asked_order", defArgs s_asked_order, defBody s_asked_order, defScope s_asked_order, [], []⟩
def d_read_order : He.DefD := ⟨("read_order", none), "read_order", "read_order", defArgs s_read_order, defBody s_read_order, defScope s_read_order, [], []⟩
def d_is_name : He.DefD := ⟨("is_name", none), "is_name", "is_name", defArgs s_is_name, defBody s_is_name, defScope s_is_name, [], []⟩
def d_read_instruments : He.DefD := ⟨("read_instruments", none), "read_instruments", "read_instruments", defArgs s_read_instruments, defBody s_read_instruments, defScope s_read_instruments, [], []⟩
def d_read_breaks : He.DefD := ⟨("read_breaks", none), "read_breaks", "read_breaks", defArgs s_read_breaks, defBody s_read_breaks, defScope s_read_breaks, [], []⟩
def d_l_told : He.DefD := ⟨("_law_told", none), "_law_told", "_law_told", defArgs s_l_told, defBody s_l_told, defScope s_l_told, [], []⟩
def d_l_value : He.DefD := ⟨("_law_value", none), "_law_value", "_law_value", defArgs s_l_value, defBody s_l_value, defScope s_l_value, [], []⟩
def d_l_is_name : He.DefD := ⟨("_law_is_name", none), "_law_is_name", "_law_is_name", defArgs s_l_is_name, defBody s_l_is_name, defScope s_l_is_name, [], []⟩
def d_l_due : He.DefD := ⟨("_law_due", none), "_law_due", "_law_due", defArgs s_l_due, defBody s_l_due, defScope s_l_due, [], []⟩
def d_law : He.DefD := ⟨("law", none), "law", "law", defArgs s_law, defBody s_law, defScope s_law, [], []⟩
def fn : List He.DefD := [d_l_order, d_l_names, d_l_digits, d_l_cell_at, d_l_number, d_l_bent, d_show_order, d_show_instruments, d_show_breaks, d_l_is, d_is_made_of, d_number_of, d_asked_number, d_asked_order, d_read_order, d_is_name, d_read_instruments, d_read_breaks, d_l_told, d_l_value, d_l_is_name, d_l_due, d_law]
def gs (K : PySem.W.Frag) : Bool := tab.ok K
def fa : List He.Fa := [.glo "_law_order", .glo "_law_names", .glo "_law_digits", .glo "_law_cell_at", .glo "_law_number", .glo "_law_bent", .glo "show_order", .glo "show_instruments", .glo "show_breaks", .glo "_law_is", .glo "is_made_of", .glo "number_of", .glo "asked_number", .glo "asked_order", .glo "read_order", .glo "is_name", .glo "read_instruments", .glo "read_breaks", .glo "_law_told", .glo "_law_value", .glo "_law_is_name", .glo "_law_due", .glo "law", .free "list", .free "range", .free "len", .free "str", .free "isinstance", .free "tuple", .free "bool", .free "int", .free "sorted", .free "set", .free "ValueError", .str "FIGURES" ("0123456789" : Str), .str "LETTERS" ("abcdefghijklmnopqrstuvwxyz" : Str), .glo "NoText", .glo "NoOrder", .glo "PairsError", .glo "NoBars", .glo "NoCall", .glo "NoInstrument", .glo "NoName", .glo "NoPlace", .glo "Twice", .exc "NoText", .exc "NoOrder"]
abbrev R : PySem.W.OpenRow := PySem.W.OpenLaw.row PySem.Challenge.rw_deskpairs_k71_orders_instruments_breaks
abbrev hk : PySem.W.Hook := Dy.hookX 4 fa fn gs
def ob (s : PySem.W.SharedT) : Bool × He.AlD := Dy.obsX 4 fa fn gs (HandSHeadRun.getT s)
theorem ob_eq (s : PySem.W.SharedT) : ob s = hk.obs s.abs := Dy.obsX_eq (HandSHeadRun.getT_eq s)
def loose0 : List Str := ["PairsError", "NoBars", "NoOrder", "NoText", "NoCall", "NoInstrument", "NoPlace", "Twice", "NoName", "asked_order", "LETTERS", "FIGURES", "is_made_of", "is_name", "number_of", "asked_number", "read_order", "show_order", "read_breaks", "show_breaks", "read_instruments", "show_instruments", "_law_cell_at", "_law_number", "_law_digits", "_law_names", "_law_order", "_law_value", "_law_is_name", "_law_due"]
def loose1 : List Str := ["_law_bent", "_law_told", "_law_is"]
def loose : List Str := loose0 ++ loose1
theorem run (w : World) : HandSHeadRun.RunEq R (PySem.W.view R.prog [38]) hk ob 5560 loose w := by
  intro os
  kernel_rfl
theorem facts {P : Program} {w : World} {K : PySem.W.Frag} {h : Heap} {mg : Str → Option Value} {f : Addr} (X : K.In h) (G : h.Ns mainGlobals mg) (hfa : mg ("law" : Str) = some (.ref f)) (c : He.SaysD fa fn K) (GS : gs K = true) :
    ∃ fd : FuncData, (∀ (s : Shared) (v : Value), BindsTo s fd ⟨[v], []⟩ [("_law_script", v)]) ∧ ∀ base : Heap, K.In base → base.Ns mainGlobals mg → FnOk P w K mg base CX0 6 f fd ["_law_script"] (sp K a_law) := by
  obtain ⟨fd_l_order, F_l_order⟩ := c.def_ 0 (d := d_l_order) rfl
  obtain ⟨fd_l_names, F_l_names⟩ := c.def_ 1 (d := d_l_names) rfl
  obtain ⟨fd_l_digits, F_l_digits⟩ := c.def_ 2 (d := d_l_digits) rfl
  obtain ⟨fd_l_cell_at, F_l_cell_at⟩ := c.def_ 3 (d := d_l_cell_at) rfl
  obtain ⟨fd_l_number, F_l_number⟩ := c.def_ 4 (d := d_l_number) rfl
  obtain ⟨fd_l_bent, F_l_bent⟩ := c.def_ 5 (d := d_l_bent) rfl
  obtain ⟨fd_show_order, F_show_order⟩ := c.def_ 6 (d := d_show_order) rfl
  obtain ⟨fd_show_instruments, F_show_instruments⟩ := c.def_ 7 (d := d_show_instruments) rfl
  obtain ⟨fd_show_breaks, F_show_breaks⟩ := c.def_ 8 (d := d_show_breaks) rfl
  obtain ⟨fd_l_is, F_l_is⟩ := c.def_ 9 (d := d_l_is) rfl
  obtain ⟨fd_is_made_of, F_is_made_of⟩ := c.def_ 10 (d := d_is_made_of) rfl
  obtain ⟨fd_number_of, F_number_of⟩ := c.def_ 11 (d := d_number_of) rfl
  obtain ⟨fd_asked_number, F_asked_number⟩ := c.def_ 12 (d := d_asked_number) rfl
  obtain ⟨fd_asked_order, F_asked_order⟩ := c.def_ 13 (d := d_asked_order) rfl
  obtain ⟨fd_read_order, F_read_order⟩ := c.def_ 14 (d := d_read_order) rfl
  obtain ⟨fd_is_name, F_is_name⟩ := c.def_ 15 (d := d_is_name) rfl
  obtain ⟨fd_read_instruments, F_read_instruments⟩ := c.def_ 16 (d := d_read_instruments) rfl
  obtain ⟨fd_read_breaks, F_read_breaks⟩ := c.def_ 17 (d := d_read_breaks) rfl
  obtain ⟨fd_l_told, F_l_told⟩ := c.def_ 18 (d := d_l_told) rfl
  obtain ⟨fd_l_value, F_l_value⟩ := c.def_ 19 (d := d_l_value) rfl
  obtain ⟨fd_l_is_name, F_l_is_name⟩ := c.def_ 20 (d := d_l_is_name) rfl
  obtain ⟨fd_l_due, F_l_due⟩ := c.def_ 21 (d := d_l_due) rfl
  obtain ⟨fd_law, F_law⟩ := c.def_ 22 (d := d_law) rfl
  have g_l_order : mg "_law_order" = some (.ref (He.fAd K ("_law_order", none))) := He.glo_ok X G (c.fact 0 (f := .glo "_law_order") rfl)
  have g_l_names : mg "_law_names" = some (.ref (He.fAd K ("_law_names", none))) := He.glo_ok X G (c.fact 1 (f := .glo "_law_names") rfl)
  have g_l_digits : mg "_law_digits" = some (.ref (He.fAd K ("_law_digits", none))) := He.glo_ok X G (c.fact 2 (f := .glo "_law_digits") rfl)
  have g_l_cell_at : mg "_law_cell_at" = some (.ref (He.fAd K ("_law_cell_at", none))) := He.glo_ok X G (c.fact 3 (f := .glo "_law_cell_at") rfl)
  have g_l_number : mg "_law_number" = some (.ref (He.fAd K ("_law_number", none))) := He.glo_ok X G (c.fact 4 (f := .glo "_law_number") rfl)
  have g_l_bent : mg "_law_bent" = some (.ref (He.fAd K ("_law_bent", none))) := He.glo_ok X G (c.fact 5 (f := .glo "_law_bent") rfl)
  have g_show_order : mg "show_order" = some (.ref (He.fAd K ("show_order", none))) := He.glo_ok X G (c.fact 6 (f := .glo "show_order") rfl)
  have g_show_instruments : mg "show_instruments" = some (.ref (He.fAd K ("show_instruments", none))) := He.glo_ok X G (c.fact 7 (f := .glo "show_instruments") rfl)
  have g_show_breaks : mg "show_breaks" = some (.ref (He.fAd K ("show_breaks", none))) := He.glo_ok X G (c.fact 8 (f := .glo "show_breaks") rfl)
  have g_l_is : mg "_law_is" = some (.ref (He.fAd K ("_law_is", none))) := He.glo_ok X G (c.fact 9 (f := .glo "_law_is") rfl)
  have g_is_made_of : mg "is_made_of" = some (.ref (He.fAd K ("is_made_of", none))) := He.glo_ok X G (c.fact 10 (f := .glo "is_made_of") rfl)
  have g_number_of : mg "number_of" = some (.ref (He.fAd K ("number_of", none))) := He.glo_ok X G (c.fact 11 (f := .glo "number_of") rfl)
  have g_asked_number : mg "asked_number" = some (.ref (He.fAd K ("asked_number", none))) := He.glo_ok X G (c.fact 12 (f := .glo "asked_number") rfl)
  have g_asked_order : mg "asked_order" = some (.ref (He.fAd K ("asked_order", none))) := He.glo_ok X G (c.fact 13 (f := .glo "asked_order") rfl)
  have g_read_order : mg "read_order" = some (.ref (He.fAd K ("read_order", none))) := He.glo_ok X G (c.fact 14 (f := .glo "read_order") rfl)
  have g_is_name : mg "is_name" = some (.ref (He.fAd K ("is_name", none))) := He.glo_ok X G (c.fact 15 (f := .glo "is_name") rfl)
  have g_read_instruments : mg "read_instruments" = some (.ref (He.fAd K ("read_instruments", none))) := He.glo_ok X G (c.fact 16 (f := .glo "read_instruments") rfl)
  have g_read_breaks : mg "read_breaks" = some (.ref (He.fAd K ("read_breaks", none))) := He.glo_ok X G (c.fact 17 (f := .glo "read_breaks") rfl)
  have g_l_told : mg "_law_told" = some (.ref (He.fAd K ("_law_told", none))) := He.glo_ok X G (c.fact 18 (f := .glo "_law_told") rfl)
  have g_l_value : mg "_law_value" = some (.ref (He.fAd K ("_law_value", none))) := He.glo_ok X G (c.fact 19 (f := .glo "_law_value") rfl)
  have g_l_is_name : mg "_law_is_name" = some (.ref (He.fAd K ("_law_is_name", none))) := He.glo_ok X G (c.fact 20 (f := .glo "_law_is_name") rfl)
  have g_l_due : mg "_law_due" = some (.ref (He.fAd K ("_law_due", none))) := He.glo_ok X G (c.fact 21 (f := .glo "_law_due") rfl)
  have g_law : mg "law" = some (.ref (He.fAd K ("law", none))) := He.glo_ok X G (c.fact 22 (f := .glo "law") rfl)
  have z_list : mg "list" = none := He.free_ok X G (c.fact 23 (f := .free "list") rfl)
  have z_range : mg "range" = none := He.free_ok X G (c.fact 24 (f := .free "range") rfl)
  have z_len : mg "len" = none := He.free_ok X G (c.fact 25 (f := .free "len") rfl)
  have z_str : mg "str" = none := He.free_ok X G (c.fact 26 (f := .free "str") rfl)
  have z_isinstance : mg "isinstance" = none := He.free_ok X G (c.fact 27 (f := .free "isinstance") rfl)
  have z_tuple : mg "tuple" = none := He.free_ok X G (c.fact 28 (f := .free "tuple") rfl)
  have z_bool : mg "bool" = none := He.free_ok X G (c.fact 29 (f := .free "bool") rfl)
  have z_int : mg "int" = none := He.free_ok X G (c.fact 30 (f := .free "int") rfl)
  have z_sorted : mg "sorted" = none := He.free_ok X G (c.fact 31 (f := .free "sorted") rfl)
  have z_set : mg "set" = none := He.free_ok X G (c.fact 32 (f := .free "set") rfl)
  have z_ValueError : mg "ValueError" = none := He.free_ok X G (c.fact 33 (f := .free "ValueError") rfl)
  have G_FIGURES : ∃ v u, mg "FIGURES" = some u ∧ RelV v u ∧ ∀ F, Enc.rep K F v c_FIGURES := by
    obtain ⟨t, e⟩ := He.str_ok X G (c.fact 34 (f := .str "FIGURES" ("0123456789" : Str)) rfl)
    exact ⟨.str c_FIGURES, _, e, ⟨t, rfl⟩, fun _ => rfl⟩
  have G_LETTERS : ∃ v u, mg "LETTERS" = some u ∧ RelV v u ∧ ∀ F, Enc.rep K F v c_LETTERS := by
    obtain ⟨t, e⟩ := He.str_ok X G (c.fact 35 (f := .str "LETTERS" ("abcdefghijklmnopqrstuvwxyz" : Str)) rfl)
    exact ⟨.str c_LETTERS, _, e, ⟨t, rfl⟩, fun _ => rfl⟩
  unfold gs at GS
  have TB : tab.ok K = true := GS
  have N_NoText : mg "NoText" = some (.ref (He.ga K "NoText")) := He.glo_ok X G (c.fact 36 (f := .glo "NoText") rfl)
  have N_NoOrder : mg "NoOrder" = some (.ref (He.ga K "NoOrder")) := He.glo_ok X G (c.fact 37 (f := .glo "NoOrder") rfl)
  have N_PairsError : mg "PairsError" = some (.ref (He.ga K "PairsError")) := He.glo_ok X G (c.fact 38 (f := .glo "PairsError") rfl)
  have N_NoBars : mg "NoBars" = some (.ref (He.ga K "NoBars")) := He.glo_ok X G (c.fact 39 (f := .glo "NoBars") rfl)
  have N_NoCall : mg "NoCall" = some (.ref (He.ga K "NoCall")) := He.glo_ok X G (c.fact 40 (f := .glo "NoCall") rfl)
  have N_NoInstrument : mg "NoInstrument" = some (.ref (He.ga K "NoInstrument")) := He.glo_ok X G (c.fact 41 (f := .glo "NoInstrument") rfl)
  have N_NoName : mg "NoName" = some (.ref (He.ga K "NoName")) := He.glo_ok X G (c.fact 42 (f := .glo "NoName") rfl)
  have N_NoPlace : mg "NoPlace" = some (.ref (He.ga K "NoPlace")) := He.glo_ok X G (c.fact 43 (f := .glo "NoPlace") rfl)
  have N_Twice : mg "Twice" = some (.ref (He.ga K "Twice")) := He.glo_ok X G (c.fact 44 (f := .glo "Twice") rfl)
  have T_NoText : ExcF K mg "NoText" := by
    obtain ⟨h1, h2, h3, h4⟩ := He.exc_ok (c.fact 45 (f := .exc "NoText") rfl)
    exact ⟨h1, h2, h3, h4, N_NoText⟩
  have T_NoOrder : ExcF K mg "NoOrder" := by
    obtain ⟨h1, h2, h3, h4⟩ := He.exc_ok (c.fact 46 (f := .exc "NoOrder") rfl)
    exact ⟨h1, h2, h3, h4, N_NoOrder⟩
  have e := hfa.symm.trans g_law
  cases e
  have b := FunD.bindsA (ps := ["_law_script"]) F_law fun _ _ _ _ _ _ us hl => match us, hl with | [_], _ => rfl
  refine ⟨fd_law, fun s v => b s [v] rfl, fun base _ _ => ?_⟩
  have C_l_order := ok_l_order (P := P) (w := w) (base := base) F_l_order g_l_order z_list z_range z_len
  have C_l_names := ok_l_names (P := P) (w := w) (base := base) F_l_names g_l_names z_range
  have C_l_digits := ok_l_digits (P := P) (w := w) (base := base) F_l_digits g_l_digits z_range
  have C_l_cell_at := ok_l_cell_at (P := P) (w := w) (base := base) F_l_cell_at g_l_cell_at z_len
  have C_l_number := ok_l_number (P := P) (w := w) (base := base) F_l_number g_l_number C_l_cell_at
  have C_l_bent := ok_l_bent (P := P) (w := w) (base := base) F_l_bent g_l_bent z_len
  have C_show_order := ok_show_order (P := P) (w := w) (base := base) F_show_order g_show_order z_str
  have C_show_instruments := ok_show_instruments (P := P) (w := w) (base := base) F_show_instruments g_show_instruments z_len
  have C_show_breaks := ok_show_breaks (P := P) (w := w) (base := base) F_show_breaks g_show_breaks z_len z_str
  have C_l_is := ok_l_is (P := P) (w := w) (base := base) F_l_is g_l_is z_isinstance z_tuple z_bool
  have C_is_made_of := ok_is_made_of (P := P) (w := w) (base := base) F_is_made_of g_is_made_of z_len
  have C_number_of := ok_number_of (P := P) (w := w) (base := base) F_number_of g_number_of C_is_made_of z_int G_FIGURES
  have C_asked_number := ok_asked_number (P := P) (w := w) (base := base) F_asked_number g_asked_number C_number_of T_NoText
  have C_asked_order := ok_asked_order (P := P) (w := w) (base := base) F_asked_order g_asked_order z_len z_sorted z_list z_range T_NoOrder
  have C_read_order := ok_read_order (P := P) (w := w) (base := base) F_read_order g_read_order C_asked_number C_asked_order T_NoText N_NoOrder TB
  have C_is_name := ok_is_name (P := P) (w := w) (base := base) F_is_name g_is_name C_is_made_of G_LETTERS
  have C_read_instruments := ok_read_instruments (P := P) (w := w) (base := base) F_read_instruments g_read_instruments C_is_name z_len z_set z_tuple T_NoText
  have C_read_breaks := ok_read_breaks (P := P) (w := w) (base := base) F_read_breaks g_read_breaks C_asked_number
  have C_l_told := ok_l_told (P := P) (w := w) (base := base) F_l_told g_l_told C_read_order C_read_instruments C_read_breaks z_isinstance z_ValueError N_PairsError N_NoText N_NoBars N_NoCall N_NoInstrument N_NoName N_NoOrder N_NoPlace N_Twice TB
  have C_l_value := ok_l_value (P := P) (w := w) (base := base) F_l_value g_l_value z_len
  have C_l_is_name := ok_l_is_name (P := P) (w := w) (base := base) F_l_is_name g_l_is_name z_len
  have C_l_due := ok_l_due (P := P) (w := w) (base := base) F_l_due g_l_due C_l_is_name C_l_value z_tuple z_len z_sorted z_list z_range
  exact ok_law_fn (P := P) (w := w) (base := base) F_law g_law C_l_number C_l_cell_at C_l_order C_l_names C_l_digits C_show_order C_show_instruments C_show_breaks C_l_told C_l_is C_l_bent C_l_due z_tuple z_str z_int z_list z_range
theorem tb_ok {α β : Type} {r : α} {h : Er → Option β} {k : α → Option β} : tb (some (Rz.ok r)) h k = k r := rfl
theorem tb_er {α β : Type} {e : Er} {h : Er → Option β} {k : α → Option β} : tb (some (Rz.er e)) h k = h e := rfl
theorem go_nx {β ρ γ : Type} {b : β} {k : β → γ} {e : ρ → γ} : Fl.go (Fl.nx b) k e = k b := rfl
theorem cell_ok (sc : List Int) {k : Int} (h : 0 ≤ k) : Ok (m_l_cell_at sc k) (fun _ => True) := by
  unfold m_l_cell_at
  exact ok_ite (fun h2 => ok_ret (ok_atI h (of_decide_eq_true h2) fun _ _ => trivial)) (fun _ => ok_some trivial)
theorem made_eq (t s : Str) (m : Int) (h : t.length ≤ sizeLine) : m_is_made_of t s m = some (!(decide ((t.length : Int) < 1) || decide (m < (t.length : Int))) && !(chars t).any (fun x => !inS x s)) := by
  unfold m_is_made_of
  rw [chk_pos h]
  split
  · rename_i e
    rw [e]; rfl
  · rename_i e
    rw [Bool.not_eq_true] at e
    rw [e, foldF_any (p := fun x => !inS x s) (r := false) (fun x => rfl)]
    cases (chars t).any (fun x => !inS x s) <;> rfl
theorem fig_list : ("0123456789" : Str).cps.toList = [48, 49, 50, 51, 52, 53, 54, 55, 56, 57] := by decide +kernel
theorem in_fig (c : Nat) : inS ⟨#[c]⟩ ("0123456789" : Str) = isFig c := by
  unfold inS isFig
  rw [StrLaws.found_one, fig_list, Bool.eq_iff_iff, decide_eq_true_iff, decide_eq_true_iff]
  simp only [List.mem_cons, List.not_mem_nil, or_false]
  omega
theorem ix_fig {c : Nat} (h : 48 ≤ c ∧ c ≤ 57) : ixS ⟨#[c]⟩ ("0123456789" : Str) = some (c - 48) := by
  have : c = 48 ∨ c = 49 ∨ c = 50 ∨ c = 51 ∨ c = 52 ∨ c = 53 ∨ c = 54 ∨ c = 55 ∨ c = 56 ∨ c = 57 := by omega
  rcases this with rfl | rfl | rfl | rfl | rfl | rfl | rfl | rfl | rfl | rfl <;> decide +kernel
theorem fold_fig {ρ : Type} {r0 : ρ} {f : Int → Str → Option (Fl Int ρ)} (hf : ∀ b x, f b x = if (!inS x ("0123456789" : Str)) = true then some (.rt r0) else bnd (ixS x ("0123456789" : Str)) fun j => lt (10 * b + (j : Int)) fun n => some (.nx n)) : ∀ (cs : List Nat) (a : Nat), foldF f (a : Int) (cs.map fun c => (⟨#[c]⟩ : Str)) = some (if cs.all isFig = true then .nx ((cs.foldl (fun acc c => acc * 10 + (c - 48)) a : Nat) : Int) else .rt r0)
  | [], a => rfl
  | c :: cs, a => by
    rw [List.map_cons]
    unfold foldF
    rw [hf, in_fig, List.all_cons]
    by_cases h : 48 ≤ c ∧ c ≤ 57
    · rw [show isFig c = true from decide_eq_true h, ix_fig h, List.foldl_cons]
      have e : (10 * (a : Int) + ((c - 48 : Nat) : Int)) = ((a * 10 + (c - 48) : Nat) : Int) := by omega
      show (Option.bind (some (Fl.nx (10 * (a : Int) + ((c - 48 : Nat) : Int)))) _) = _
      rw [e]
      exact fold_fig hf cs _
    · rw [show isFig c = false from decide_eq_false h]
      rfl
theorem sgn0 (x : Str) (c : Nat) (r : List Nat) (e : cl x = c :: r) (h : x.length ≤ sizeLine) : sgn x 0 = some ⟨#[c]⟩ := by
  unfold sgn
  rw [if_pos h, show x.cps.toList = c :: r from e, atI_get (Int.le_refl _) (by rw [List.length_cons]; omega)]
  rfl
theorem any_fig (x : Str) : (!(chars x).any (fun y => !inS y c_FIGURES)) = (cl x).all isFig := by
  unfold chars
  rw [List.any_map]
  show _ = (x.cps.toList).all isFig
  generalize x.cps.toList = cs
  induction cs with
  | nil => rfl
  | cons c cs ih =>
    rw [List.any_cons, List.all_cons, Bool.not_or, ih]
    congr 1
    show (!(!inS ⟨#[c]⟩ ("0123456789" : Str))) = _
    rw [in_fig, Bool.not_not]
theorem zero_c (c : Nat) : decide ((⟨#[c]⟩ : Str) = ("0" : Str)) = decide (c = 48) := by
  rw [Bool.eq_iff_iff, decide_eq_true_iff, decide_eq_true_iff]
  constructor
  · intro h
    have := congrArg cl h
    rw [show cl ("0" : Str) = [48] by decide +kernel] at this
    exact (List.cons.inj this).1
  · rintro rfl; decide +kernel
theorem zero_x {x : Str} {c : Nat} {r : List Nat} (e : cl x = c :: r) : decide (x = ("0" : Str)) = (decide (c = 48) && decide (x.length = 1)) := by
  rw [Bool.eq_iff_iff, Bool.and_eq_true, decide_eq_true_iff, decide_eq_true_iff, decide_eq_true_iff]
  have hl : x.length = r.length + 1 := by rw [← cl_len, e]; rfl
  constructor
  · intro h
    have := congrArg cl h
    rw [show cl ("0" : Str) = [48] by decide +kernel, e] at this
    cases this
    exact ⟨rfl, hl⟩
  · rintro ⟨rfl, h⟩
    have : r = [] := List.length_eq_zero_iff.mp (by omega)
    subst this
    exact cl_ext (by rw [e]; decide +kernel)
theorem empty_x (x : Str) : decide (x = ("" : Str)) = decide (x.length < 1) := by
  rw [Bool.eq_iff_iff, decide_eq_true_iff, decide_eq_true_iff]
  constructor
  · rintro rfl; decide
  · intro h
    refine cl_ext ?_
    have : cl x = [] := List.length_eq_zero_iff.mp (by rw [cl_len]; omega)
    rw [this]; decide +kernel
theorem numOf_none {x : Str} (h : ¬ (1 ≤ x.length ∧ x.length ≤ 60 ∧ (cl x).all isFig = true ∧ ((cl x).head? = some 48 → x.length = 1))) : numOf x = none := if_neg h
theorem number_eq (x : Str) (hs : x.length ≤ sizeLine) : m_number_of x = some ((numOf x).map fun n => (n : Int)) := by
  have hz := szl
  unfold m_number_of
  rw [made_eq x _ _ hs]
  by_cases h1 : (x.length : Int) < 1
  · rw [numOf_none (by omega), decide_eq_true h1]; rfl
  rw [decide_eq_false h1]
  by_cases h2 : (60 : Int) < x.length
  · rw [numOf_none (by omega), decide_eq_true h2]; rfl
  rw [decide_eq_false h2, any_fig]
  obtain ⟨c, r, e⟩ := List.exists_cons_of_ne_nil (l := cl x) (fun z => by
    have := cl_len x
    rw [z] at this
    simp at this
    omega)
  rw [sgn0 x c r e hs]
  by_cases ha : (cl x).all isFig = true
  · rw [ha, show ((!(false || false)) && true) = true from rfl]
    have bs : ∀ {α β : Type} (y : α) (f : α → Option β), bnd (some y) f = f y := fun _ _ => rfl
    rw [bs, bs]
    rw [zero_c, zero_x e]
    by_cases h3 : c = 48 ∧ x.length ≠ 1
    · rw [numOf_none (fun z => h3.2 (z.2.2.2 (by rw [e, h3.1]; rfl))), decide_eq_true h3.1, decide_eq_false h3.2]; rfl
    · have h4 : (decide (c = 48) && !(decide (c = 48) && decide (x.length = 1))) = false := by
        by_cases hc : c = 48
        · have : x.length = 1 := Classical.byContradiction fun z => h3 ⟨hc, z⟩
          rw [decide_eq_true hc, decide_eq_true this]; rfl
        · rw [decide_eq_false hc]; rfl
      rw [h4]
      have hn : numOf x = some (NumText.digitsVal (cl x)) := if_pos ⟨by omega, by omega, ha, fun hh => by
        rw [e] at hh
        exact Classical.byContradiction fun z => h3 ⟨Option.some.inj hh, z⟩⟩
      rw [hn]
      show bnd (PySem.intText? x) _ = _
      have hd : NumText.AllDigits x.cps.toList := fun d hd => of_decide_eq_true (List.all_eq_true.mp ha d hd)
      rw [PySem.intText_digits hd (fun z => by rw [show cl x = [] from z] at e; cases e) (by omega)]
      show chk _ _ = _
      rw [chk_pos (by omega)]; rfl
  · rw [numOf_none (fun z => ha z.2.2.1)]
    rw [Bool.not_eq_true] at ha
    rw [ha]; rfl
def valOf (x : Str) : Int := match numOf x with
  | some n => (n : Int)
  | none => -1
theorem value_eq (x : Str) (hs : x.length ≤ sizeLine) : m_l_value x = some (valOf x) := by
  have hz := szl
  unfold m_l_value valOf
  rw [empty_x]
  by_cases h1 : x.length < 1
  · rw [numOf_none (by omega), decide_eq_true h1]; rfl
  rw [decide_eq_false h1]
  show bnd (chk _ _) _ = _
  rw [chk_pos hs]
  by_cases h2 : (60 : Int) < x.length
  · rw [numOf_none (by omega), decide_eq_true h2]; rfl
  rw [decide_eq_false h2]
  obtain ⟨c, r, e⟩ := List.exists_cons_of_ne_nil (l := cl x) (fun z => by
    have := cl_len x
    rw [z] at this
    simp at this
    omega)
  rw [sgn0 x c r e hs]
  show bnd (some (decide ((⟨#[c]⟩ : Str) = ("0" : Str)) && !decide (x = ("0" : Str)))) _ = _
  rw [zero_c, zero_x e]
  by_cases h3 : c = 48 ∧ x.length ≠ 1
  · rw [numOf_none (fun z => h3.2 (z.2.2.2 (by rw [e, h3.1]; rfl))), decide_eq_true h3.1, decide_eq_false h3.2]; rfl
  · have h4 : (decide (c = 48) && !(decide (c = 48) && decide (x.length = 1))) = false := by
      by_cases hc : c = 48
      · have : x.length = 1 := Classical.byContradiction fun z => h3 ⟨hc, z⟩
        rw [decide_eq_true hc, decide_eq_true this]; rfl
      · rw [decide_eq_false hc]; rfl
    rw [h4]
    show bnd (foldF _ _ ((cl x).map fun c => (⟨#[c]⟩ : Str))) _ = _
    rw [show (0 : Int) = ((0 : Nat) : Int) from rfl, fold_fig (fun b x => rfl) (cl x) 0]
    by_cases ha : (cl x).all isFig = true
    · have hn : numOf x = some (NumText.digitsVal (cl x)) := if_pos ⟨by omega, by omega, ha, fun hh => by
        rw [e] at hh
        exact Classical.byContradiction fun z => h3 ⟨Option.some.inj hh, z⟩⟩
      rw [if_pos ha, hn]; rfl
    · rw [if_neg ha, numOf_none (fun z => ha z.2.2.1)]; rfl
theorem repl_len {x : Str} {n : Int} (h0 : 0 ≤ n) : (replS x n).length ≤ x.length * n.toNat := by
  unfold replS Txt.mul
  split
  · exact Nat.zero_le _
  · split
    · rename_i h1 h2
      simp only [Bool.or_eq_true, beq_iff_eq] at h2
      rcases h2 with h2 | h2
      · subst h2; simp
      · rw [h2]; simp
    · have : ∀ (k : Nat) (a : Array Nat), ((List.replicate k x.cps).foldl (· ++ ·) a).size = a.size + x.cps.size * k := by
        intro k
        induction k with
        | zero => intro a; simp
        | succ k ih => intro a; rw [List.replicate_succ, List.foldl_cons, ih, Array.size_append, Nat.mul_succ]; omega
      show Array.size _ ≤ _
      rw [this]
      show 0 + x.cps.size * n.toNat ≤ x.cps.size * n.toNat
      omega
theorem foldF_anyM {α ρ : Type} {p : α → Bool} {f : Unit → α → Option (Fl Unit ρ)} {r : ρ} : ∀ {xs : List α}, (∀ x ∈ xs, f () x = if p x = true then some (.rt r) else some (.nx ())) → foldF f () xs = some (if xs.any p = true then .rt r else .nx ())
  | [], _ => rfl
  | x :: xs, h => by
    unfold foldF
    rw [h x List.mem_cons_self, List.any_cons]
    cases hp : p x with
    | true => rfl
    | false => exact foldF_anyM fun y hy => h y (List.mem_cons_of_mem _ hy)
theorem asked_eq (x : Str) (hs : x.length ≤ sizeLine) : m_asked_number x = some (match numOf x with
    | some n => Rz.ok (n : Int)
    | none => Rz.er (Er.pl "NoText")) := by
  unfold m_asked_number
  rw [number_eq x hs]
  cases numOf x <;> rfl
theorem part_le {x y a : Str} (h : a ∈ Txt.split x y) : a.length ≤ x.length := PyProof.Rows.part_short h
def wt (ys : List Str) : Nat := (ys.map (·.length)).sum + ys.length
theorem wt_app (a b : List Str) : wt (a ++ b) = wt a + wt b := by
  unfold wt
  rw [List.map_append, List.sum_append, List.length_append]; omega
theorem wt_drop : ∀ (ys : List Str) (n : Nat), wt (ys.drop n) ≤ wt ys
  | [], n => by rw [List.drop_nil]; exact Nat.le_refl _
  | y :: r, 0 => Nat.le_refl _
  | y :: r, n + 1 => by
    rw [List.drop_succ_cons]
    have := wt_drop r n
    unfold wt at this ⊢
    rw [List.map_cons, List.sum_cons, List.length_cons]; omega
theorem wt_take : ∀ (ys : List Str) (n : Nat), wt (ys.take n) ≤ wt ys
  | [], n => by rw [List.take_nil]; exact Nat.le_refl _
  | y :: r, 0 => Nat.zero_le _
  | y :: r, n + 1 => by
    rw [List.take_succ_cons]
    have := wt_take r n
    unfold wt at this ⊢
    rw [List.map_cons, List.sum_cons, List.length_cons, List.map_cons, List.sum_cons, List.length_cons]; omega
theorem wt_cut (ys : List Str) (a b : Option Int) : wt (cut ys a b) ≤ wt ys := by
  unfold cut
  exact Nat.le_trans (wt_take _ _) (wt_drop _ _)
theorem wt_len (ys : List Str) : ys.length ≤ wt ys := Nat.le_add_left _ _
theorem wt_split (x : Str) {sep : Str} (hy : 1 ≤ sep.length) : wt (Txt.split x sep) ≤ x.length + 1 := split_sum hy
theorem wt_one (x : Str) : wt [x] = x.length + 1 := by unfold wt; simp
theorem wt_two (x y : Str) : wt [x, y] = x.length + y.length + 2 := by unfold wt; simp
theorem comma1 : ("," : Str).length = 1 := by decide
theorem join_fit {ys : List Str} (h : wt ys ≤ 1000000) : JnOk ("," : Str) ys ∧ (Txt.join ("," : Str) ys).length ≤ wt ys := by
  have := join_le ("," : Str) ys
  rw [comma1, Nat.mul_one] at this
  refine ⟨?_, this⟩
  unfold JnOk
  rw [comma1, Nat.mul_one]
  unfold wt at h
  omega
theorem len_app (a b : Str) : (a ++ b).length = a.length + b.length := by rw [← cl_len, ← cl_len, ← cl_len, cl_app, List.length_append]
theorem cutS_le (a : Str) (lo hi : Option Int) : (cutS a lo hi).length ≤ a.length := cutS_length a lo hi
theorem log_small {n : Int} (h0 : 0 ≤ n) (h1 : n < 10 ^ 60) : n.natAbs.log2 < 1920 := PySem.Flt.log2_lt_of (by decide) (Nat.lt_of_lt_of_le (show n.natAbs < 10 ^ 60 by omega) (by decide +kernel))
theorem number_ok (sc : List Int) {k : Int} (h : 0 ≤ k) (h1 : k < 100000) : Ok (m_l_number sc k) (fun _ => True) := by
  unfold m_l_number
  refine ok_bnd (cell_ok sc h) fun c _ => ok_lt fun c2 _ => ok_bnd (cell_ok sc (by decide)) fun c0 _ => ok_ite (fun _ => ok_some trivial) fun _ => ok_chk (mul_l (by omega) (by omega)) (ok_lt fun _ _ => ok_lt fun _ _ => ok_lt fun _ _ => ok_some trivial)
theorem lay_strs {xs : List Str} (h : ∀ x ∈ xs, txt x) : PyData.canLayAll0 (xs.map PyData.str) = true ∧ PyData.depthAll (xs.map PyData.str) = 0 := by
  induction xs with
  | nil => simp [PyData.canLayAll0, PyData.depthAll]
  | cons x r ih =>
    obtain ⟨i1, i2⟩ := ih fun y hy => h y (List.mem_cons_of_mem _ hy)
    rw [List.map_cons]
    have hx : PyData.strOk x = true := h x List.mem_cons_self
    refine ⟨?_, ?_⟩
    · unfold PyData.canLayAll0 PyData.canLay0
      rw [i1, hx]; rfl
    · unfold PyData.depthAll
      rw [i2]; simp [PyData.depth]
theorem lay_all {α : Type} [EqD α] {n : Nat} : ∀ {xs : List α}, (∀ x ∈ xs, PyData.canLay0 (EqD.toD x) = true ∧ PyData.depth (EqD.toD x) ≤ n) → PyData.canLayAll0 (xs.map EqD.toD) = true ∧ PyData.depthAll (xs.map EqD.toD) ≤ n
  | [], _ => by simp [PyData.canLayAll0, PyData.depthAll]
  | x :: r, h => by
    obtain ⟨i1, i2⟩ := lay_all fun y hy => h y (List.mem_cons_of_mem _ hy)
    obtain ⟨j1, j2⟩ := h x List.mem_cons_self
    rw [List.map_cons]
    refine ⟨?_, ?_⟩
    · unfold PyData.canLayAll0
      rw [i1, j1]; rfl
    · unfold PyData.depthAll
      omega
theorem cut_loA {α : Type} (xs : List α) (n : Nat) : cut xs (some (n : Int)) none = xs.drop n := by
  unfold cut
  rw [HT.sIx_none, show HT.sIx xs.length 0 (some (n : Int)) = min n xs.length from HT.sIx_nat xs.length 0 n, List.take_of_length_le (by rw [List.length_drop]; omega)]
  by_cases h : n ≤ xs.length
  · rw [Nat.min_eq_left h]
  · rw [Nat.min_eq_right (by omega), List.drop_of_length_le (Nat.le_refl _), List.drop_of_length_le (by omega)]
def Asc (x : Str) : Prop := ∀ c ∈ cl x, c < 128
theorem Asc.ok {x : Str} (h : Asc x) : txt x := by
  show PyData.strOk x = true
  unfold PyData.strOk
  rw [Array.all_eq_true_iff_forall_mem]
  intro c hc
  have := h c (Array.mem_toList_iff.mpr hc)
  exact decide_eq_true (by omega)
theorem asc_app {a b : Str} (ha : Asc a) (hb : Asc b) : Asc (a ++ b) := fun c hc => by
  rw [cl_app] at hc
  exact (List.mem_append.mp hc).elim (ha c) (hb c)
theorem asc_cutS {a : Str} (ha : Asc a) (lo hi : Option Int) : Asc (cutS a lo hi) := fun c hc => by
  have hc : c ∈ ((a.cps.toList.drop (HT.sIx a.length 0 lo)).take (HT.sIx a.length a.length hi - HT.sIx a.length 0 lo)) := by
    unfold cl cutS at hc
    simpa using hc
  exact ha c (List.mem_of_mem_drop (List.mem_of_mem_take hc))
theorem tjoin (sep : Str) (ys : List Str) : Txt.join sep ys = Str.join sep ys := by
  show Builtin.Str.glued _ _ = _
  rw [StrLaws.glued_eq_join]
theorem join_mem {sep : Str} : ∀ {ys : List Str} {y : Str} {c : Nat}, y ∈ ys → c ∈ cl y → c ∈ cl (Str.join sep ys)
  | [a], y, c, hy, hc => by
    rw [List.mem_singleton.mp hy] at hc
    exact hc
  | a :: b :: r, y, c, hy, hc => by
    rw [join_cons2]
    rcases List.mem_cons.mp hy with e | e
    · rw [e] at hc
      exact List.mem_append.mpr (.inl hc)
    · exact List.mem_append.mpr (.inr (List.mem_append.mpr (.inr (join_mem e hc))))
theorem asc_split {x sep : Str} (h : Asc x) : ∀ p ∈ Txt.split x sep, Asc p := fun p hp c hc => by
  refine h c ?_
  rw [← StrLaws.join_split x sep]
  exact join_mem hp hc
theorem asc_join {sep : Str} (hs : Asc sep) : ∀ {ys : List Str}, (∀ y ∈ ys, Asc y) → Asc (Txt.join sep ys)
  | [], _ => by
    rw [tjoin]
    intro c hc
    cases hc
  | [a], h => by
    rw [tjoin]
    exact h a List.mem_cons_self
  | a :: b :: r, h => by
    have ih := asc_join hs (ys := b :: r) fun y hy => h y (List.mem_cons_of_mem _ hy)
    rw [tjoin] at ih ⊢
    intro c hc
    rw [join_cons2] at hc
    rcases List.mem_append.mp hc with z | z
    · exact h a List.mem_cons_self c z
    · rcases List.mem_append.mp z with z | z
      · exact hs c z
      · exact ih c z
def nums : List Str → Option (List Int)
  | [] => some []
  | w :: r => match numOf w, nums r with
    | some n, some ns => some ((n : Int) :: ns)
    | _, _ => none
theorem mapR_nums : ∀ {ws : List Str}, (∀ w ∈ ws, w.length ≤ sizeLine) → mapR (fun x => m_asked_number x) ws = some (match nums ws with
    | some ns => .ok ns
    | none => .er (Er.pl "NoText"))
  | [], _ => rfl
  | w :: r, h => by
    have ih := mapR_nums (ws := r) fun y hy => h y (List.mem_cons_of_mem _ hy)
    unfold mapR nums
    rw [asked_eq w (h w List.mem_cons_self)]
    cases numOf w with
    | none => rfl
    | some n =>
      dsimp only
      rw [ih]
      cases nums r <;> rfl
theorem vals_nums : ∀ {ws : List Str}, ((-1 : Int) ∈ ws.map valOf ↔ nums ws = none) ∧ ∀ ns, nums ws = some ns → ws.map valOf = ns
  | [] => ⟨by simp [nums], fun ns h => by cases h; rfl⟩
  | w :: r => by
    obtain ⟨i1, i2⟩ := vals_nums (ws := r)
    unfold nums
    rw [List.map_cons, List.mem_cons]
    unfold valOf at *
    cases hw : numOf w with
    | none => exact ⟨by simp, fun ns h => by simp at h⟩
    | some n =>
      dsimp only
      cases hr : nums r with
      | none => exact ⟨by rw [i1, hr]; simp, fun ns h => by simp at h⟩
      | some ns =>
        rw [i2 ns hr]
        rw [i2 ns hr, hr] at i1
        refine ⟨⟨fun h => ?_, fun h => by simp at h⟩, fun ms h => Option.some.inj h⟩
        rcases h with h | h
        · omega
        · exact absurd (i1.mp h) (by simp)
theorem nums_len : ∀ {ws : List Str} {ns : List Int}, nums ws = some ns → ns.length = ws.length
  | [], ns, h => by cases h; rfl
  | w :: r, ns, h => by
    unfold nums at h
    cases hw : numOf w with
    | none => rw [hw] at h; cases h
    | some n =>
      rw [hw] at h
      cases hr : nums r with
      | none => rw [hr] at h; cases h
      | some ms =>
        rw [hr] at h
        cases h
        rw [List.length_cons, List.length_cons, nums_len hr]
theorem nums_str : ∀ {l : List Int}, (∀ n ∈ l, 0 ≤ n ∧ n < 10 ^ 60) → nums (l.map strI) = some l
  | [], _ => rfl
  | x :: r, h => by
    obtain ⟨x0, x1⟩ := h x List.mem_cons_self
    obtain ⟨n, rfl⟩ := Int.eq_ofNat_of_zero_le x0
    rw [List.map_cons]
    unfold nums
    rw [numOf_str (by omega), nums_str fun y hy => h y (List.mem_cons_of_mem _ hy)]
def isN (x : Str) : Bool := !(decide ((x.length : Int) < 1) || decide ((10 : Int) < (x.length : Int))) && !(chars x).any (fun y => !inS y c_LETTERS)
theorem isN_eq {x : Str} (h : x.length ≤ sizeLine) : m_is_name x = some (isN x) := by
  unfold m_is_name
  rw [made_eq x _ _ h]; rfl
theorem isN_l {x : Str} (h : x.length ≤ sizeLine) : m_l_is_name x = some (isN x) := by
  unfold m_l_is_name isN
  rw [chk_pos h, empty_x]
  have e : decide ((x.length : Int) < 1) = decide (x.length < 1) := decide_eq_decide.mpr (by omega)
  rw [e]
  split
  · rename_i z
    rw [z]; rfl
  · rename_i z
    rw [Bool.not_eq_true] at z
    rw [z, foldF_any (p := fun x => !inS x ("abcdefghijklmnopqrstuvwxyz" : Str)) (r := false) (fun x => rfl)]
    show _ = some ((!false) && !(chars x).any (fun y => !inS y ("abcdefghijklmnopqrstuvwxyz" : Str)))
    cases (chars x).any (fun y => !inS y ("abcdefghijklmnopqrstuvwxyz" : Str)) <;> rfl
theorem in_let (c : Nat) : inS ⟨#[c]⟩ c_LETTERS = decide (97 ≤ c ∧ c ≤ 122) := by
  show inS ⟨#[c]⟩ ("abcdefghijklmnopqrstuvwxyz" : Str) = _
  unfold inS
  rw [StrLaws.found_one, show ("abcdefghijklmnopqrstuvwxyz" : Str).cps.toList = [97, 98, 99, 100, 101, 102, 103, 104, 105, 106, 107, 108, 109, 110, 111, 112, 113, 114, 115, 116, 117, 118, 119, 120, 121, 122] by decide +kernel, Bool.eq_iff_iff, decide_eq_true_iff, decide_eq_true_iff]
  simp only [List.mem_cons, List.not_mem_nil, or_false]
  omega
theorem isN_iff {x : Str} : isN x = true ↔ (1 ≤ x.length ∧ x.length ≤ 10) ∧ ∀ c ∈ cl x, 97 ≤ c ∧ c ≤ 122 := by
  unfold isN
  rw [Bool.and_eq_true, Bool.not_eq_true', Bool.or_eq_false_iff, decide_eq_false_iff_not, decide_eq_false_iff_not, Bool.not_eq_true', List.any_eq_false]
  constructor
  · rintro ⟨⟨h1, h2⟩, h3⟩
    refine ⟨⟨by omega, by omega⟩, fun c hc => ?_⟩
    have := h3 ⟨#[c]⟩ (List.mem_map.mpr ⟨c, hc, rfl⟩)
    rw [in_let] at this
    simpa using this
  · rintro ⟨⟨h1, h2⟩, h3⟩
    refine ⟨⟨by omega, by omega⟩, fun y hy => ?_⟩
    obtain ⟨c, hc, rfl⟩ := List.mem_map.mp hy
    rw [in_let]
    simpa using h3 c hc
theorem isN_asc {x : Str} (h : isN x = true) : Asc x := fun c hc => by
  have := (isN_iff.mp h).2 c hc
  omega
def nmsOk (ws : List Str) : Bool := ws.all isN && decide ws.Nodup
theorem count_nodup {ws : List Str} : ws.Nodup ↔ ∀ x ∈ ws, ws.count x ≤ 1 := by
  induction ws with
  | nil => simp
  | cons a r ih =>
    rw [List.nodup_cons, ih]
    constructor
    · rintro ⟨h1, h2⟩ x hx
      rw [List.count_cons]
      by_cases e : a = x
      · subst e
        rw [List.count_eq_zero.mpr h1]; simp
      · rw [if_neg (by simpa using e)]
        have := h2 x ((List.mem_cons.mp hx).resolve_left fun z => e z.symm)
        omega
    · intro h
      refine ⟨fun z => ?_, fun x hx => ?_⟩
      · have h1 := h a List.mem_cons_self
        rw [List.count_cons, if_pos (by simp)] at h1
        have := List.count_pos_iff.mpr z
        omega
      · have h1 := h x (List.mem_cons_of_mem _ hx)
        rw [List.count_cons] at h1
        omega
noncomputable def ordOk (ns : List Int) : Bool := decide (ns.length ≤ 40) && decide (sortI ns = rng 0 (ns.length : Int))
abbrev wds (x : Str) : List Str := Txt.split x ("," : Str)
noncomputable def due (k : Int) (x : Str) : An :=
  if 0 < k ∧ x = ("-" : Str) then (if k = 1 then .ts ⟨[]⟩ else .l [])
  else if k = 1 then (if nmsOk (wds x) = true then .ts ⟨wds x⟩ else .o none)
  else match nums (wds x) with
    | none => .o none
    | some ns => if k = 0 ∧ ordOk ns = false then .o none else .l ns
theorem wds_le {x p : Str} (h : p ∈ wds x) : p.length ≤ x.length := part_le h
theorem wds_cnt (x : Str) : (wds x).length ≤ x.length + 1 := by
  have h1 := wt_split x (sep := ("," : Str)) (by decide)
  have h2 := wt_len (wds x)
  exact Nat.le_trans h2 h1
theorem wds_pos (x : Str) : 1 ≤ (wds x).length := List.length_pos_iff.mpr (split_ne _ _)
theorem due_eq {k : Int} {x : Str} (hk : k = 0 ∨ k = 1 ∨ k = 2) (hs : x.length + 2 ≤ sizeLine) (hx : x.length ≤ 1000000) (ha : Asc x) : m_l_due k x = some (due k x) := by
  have hz := szl
  have hc := wds_cnt x
  have : Ok (m_l_due k x) (· = due k x) := by
    unfold m_l_due due
    refine ok_chk hs (ok_lt fun ws hws => ?_)
    have hws : ws = wds x := hws
    subst hws
    refine ok_ite (fun c => ?_) (fun c => ?_)
    · obtain ⟨c1, c2⟩ := Bool.and_eq_true_iff.mp c
      have c1 := of_decide_eq_true c1
      have c2 := of_decide_eq_true c2
      rw [if_pos ⟨c1, c2⟩]
      rcases hk with rfl | rfl | rfl
      · omega
      · exact ok_some rfl
      · exact ok_some rfl
    have hn : ¬ (0 < k ∧ x = ("-" : Str)) := fun z => by
      rw [decide_eq_true z.1, decide_eq_true z.2] at c; cases c
    rw [if_neg hn]
    refine ok_ite (fun c1 => ?_) (fun c1 => ?_)
    · rw [if_pos (of_decide_eq_true c1)]
      have e := compO_eq (xs := wds x) (t := fun (x1904 : Str) => (bnd (m_l_is_name x1904) fun is_name1920 => (some ((!is_name1920) || (decide ((1 : Int) < (((wds x).count x1904 : Nat) : Int))))))) (f := fun (x1904 : Str) => (some x1904)) (T := fun w => (!isN w) || decide ((1 : Int) < (((wds x).count w : Nat) : Int))) (g := fun w => w) (fun w hw => by
        rw [isN_l (by have := wds_le hw; omega)]; rfl) (fun _ _ _ => rfl)
      rw [e, List.map_id']
      have hfl := List.length_filter_le (fun w => (!isN w) || decide ((1 : Int) < (((wds x).count w : Nat) : Int))) (wds x)
      refine ok_bnd (P := (_ = ·)) (ok_some rfl) ?_
      rintro _ rfl
      refine ok_chk (by omega) (ok_chk (shp_strs fun w hw => (asc_split ha w (List.mem_filter.mp hw).1).ok) (ok_chk (shp_strs fun w hw => by cases hw) ?_))
      have key : ((wds x).filter fun w => (!isN w) || decide ((1 : Int) < (((wds x).count w : Nat) : Int))) = [] ↔ nmsOk (wds x) = true := by
        unfold nmsOk
        rw [List.filter_eq_nil_iff, Bool.and_eq_true, List.all_eq_true, decide_eq_true_iff, count_nodup]
        constructor
        · intro h
          refine ⟨fun w hw => ?_, fun w hw => ?_⟩
          · have := h w hw
            rw [Bool.or_eq_true, not_or] at this
            simpa using this.1
          · have := h w hw
            rw [Bool.or_eq_true, not_or] at this
            have := this.2
            rw [decide_eq_true_iff] at this
            omega
        · rintro ⟨h1, h2⟩ w hw
          rw [h1 w hw, decide_eq_false (by have := h2 w hw; omega)]; simp
      refine ok_ite (fun z => ok_some ?_) (fun z => ok_some ?_)
      · rw [if_neg (fun y => by rw [decide_eq_true (key.mpr y)] at z; cases z)]
      · rw [if_pos (key.mp (by simpa using z))]
    · rw [if_neg (of_decide_eq_false c1)]
      refine ok_bnd (P := (· = (wds x).map valOf)) (ok_eq (mapO_eq (g := valOf) fun w hw => by rw [value_eq w (by have := wds_le hw; omega)]; rfl) rfl) ?_
      rintro _ rfl
      obtain ⟨v1, v2⟩ := vals_nums (ws := wds x)
      refine ok_chk (by rw [List.length_map]; omega) (ok_lt fun ns hns => ?_)
      subst hns
      cases hn2 : nums (wds x) with
      | none => exact ok_ite (fun _ => ok_some rfl) (fun z => by rw [decide_eq_true (v1.mpr hn2)] at z; cases z)
      | some ms =>
        have hl := nums_len hn2
        rw [v2 ms hn2] at v1 ⊢
        refine ok_ite (fun z => absurd (v1.mp (of_decide_eq_true z)) (by rw [hn2]; simp)) (fun _ => ?_)
        dsimp only
        refine ok_bnd (P := fun c => c = true ↔ (k = 0 ∧ ordOk ms = false)) (ok_andO (fun z => ?_) (fun z => by
          have := of_decide_eq_false z
          simp [this])) fun c hcc => ?_
        · have z := of_decide_eq_true z
          refine ok_ret (ok_orO (fun y => ok_chk ⟨by omega, by omega, by omega⟩ (ok_some ?_)) (fun y => ?_))
          · have y := of_decide_eq_false y
            unfold ordOk
            rw [decide_eq_true (by omega : ms.length ≤ 40)]
            by_cases q : sortI ms = rng 0 (ms.length : Int)
            · simp [q]
            · simp [q, z]
          · have y := of_decide_eq_true y
            unfold ordOk
            rw [decide_eq_false (by omega : ¬ ms.length ≤ 40)]
            simp [z]
        · refine ok_ite (fun y => ok_some ?_) (fun y => ok_some ?_)
          · rw [if_pos (hcc.mp y)]
          · rw [if_neg (fun w => by rw [hcc.mpr w] at y; cases y)]
  exact this.eq
def tl (d : An) : Str × An := if anN d = true then (("NoText" : Str), .o none) else (("told" : Str), d)
theorem order_eq {x : Str} (hs : x.length + 2 ≤ sizeLine) (hx : x.length ≤ 1000000) : m_read_order x = some (match due 0 x with
    | .l ns => .ok ns
    | _ => .er (Er.pl "NoText")) := by
  have hz := szl
  have hc := wds_cnt x
  have hp := wds_pos x
  unfold m_read_order due
  rw [chk_pos hs, chk_pos (show (Txt.split x ("," : Str)).length ≤ sizeLine by have : (wds x).length = (Txt.split x ("," : Str)).length := rfl; omega), mapR_nums (fun w hw => by have := wds_le hw; omega), if_neg (fun z => absurd z.1 (by decide)), if_neg (by decide)]
  show tb (some (match nums (wds x) with
    | some ns => Rz.ok ns
    | none => Rz.er (Er.pl "NoText"))) _ _ = _
  cases hn : nums (wds x) with
  | none => rfl
  | some ns =>
    have hl := nums_len hn
    dsimp only
    rw [tb_ok]
    show chk _ _ = _
    rw [chk_pos (by omega)]
    have ea : m_asked_order ns = some (if ordOk ns = true then .ok true else .er (Er.pl "NoOrder")) := by
      refine Ok.eq ?_
      unfold m_asked_order
      refine ok_bnd (P := fun c => c = !ordOk ns) (ok_orO (fun a => ok_orO (fun b => ok_chk ⟨by omega, by omega, by omega⟩ (ok_some ?_)) (fun b => ?_)) (fun a => ?_)) fun c hcc => ?_
      · have b := of_decide_eq_false b
        unfold ordOk
        rw [decide_eq_true (by omega : ns.length ≤ 40)]; rfl
      · have b := of_decide_eq_true b
        unfold ordOk
        rw [decide_eq_false (by omega : ¬ ns.length ≤ 40)]; rfl
      · have a := of_decide_eq_true a
        omega
      · subst hcc
        cases ordOk ns
        · exact ok_some rfl
        · exact ok_some rfl
    show tb (m_asked_order ns) _ _ = _
    rw [ea]
    have e1 : exE tab (Er.pl "NoOrder") "NoOrder" = some true := by decide +kernel
    cases ho : ordOk ns with
    | true =>
      rw [if_pos rfl, tb_ok, if_neg (by simp)]; rfl
    | false =>
      rw [if_neg (by simp), tb_er, chk_pos e1, if_pos ⟨rfl, rfl⟩]; rfl
theorem breaks_eq {x : Str} (hs : x.length + 2 ≤ sizeLine) (hx : x.length ≤ 1000000) : m_read_breaks x = some (match due 2 x with
    | .l ns => .ok ns
    | _ => .er (Er.pl "NoText")) := by
  have hz := szl
  have hc := wds_cnt x
  unfold m_read_breaks due
  by_cases h : x = ("-" : Str)
  · rw [decide_eq_true h, if_pos rfl, if_pos ⟨by decide, h⟩, if_neg (by decide)]
  · rw [decide_eq_false h, if_neg Bool.false_ne_true, if_neg (fun z => h z.2), if_neg (by decide), chk_pos hs, chk_pos (show (Txt.split x ("," : Str)).length ≤ sizeLine by have : (wds x).length = (Txt.split x ("," : Str)).length := rfl; omega), mapR_nums (fun w hw => by have := wds_le hw; omega)]
    show tb (some (match nums (wds x) with
      | some ns => Rz.ok ns
      | none => Rz.er (Er.pl "NoText"))) _ _ = _
    cases hn : nums (wds x) with
    | none => rfl
    | some ns =>
      have hl := nums_len hn
      dsimp only
      rw [tb_ok]
      show chk _ _ = _
      rw [chk_pos (by omega), if_neg (fun z => absurd z.1 (by decide))]
theorem instr_eq {x : Str} (hs : x.length + 2 ≤ sizeLine) (hx : x.length ≤ 3000000) (hw4 : (wds x).length ≤ 4000 ∨ nmsOk (wds x) = false ∧ (wds x).all isN = false) : m_read_instruments x = some (match due 1 x with
    | .ts t => .ok t
    | _ => .er (Er.pl "NoText")) := by
  have hz := szl
  unfold m_read_instruments due
  by_cases h : x = ("-" : Str)
  · rw [decide_eq_true h, if_pos rfl, if_pos ⟨by decide, h⟩, if_pos rfl]
  · rw [decide_eq_false h, if_neg Bool.false_ne_true, if_neg (fun z => h z.2), if_pos rfl, chk_pos hs]
    show bnd (foldF _ () (wds x)) _ = _
    rw [foldF_anyM (p := fun w => !isN w) (r := (Rz.er (Er.pl "NoText") : Rz (Tu Str))) (fun w hw => by rw [isN_eq (by have := wds_le hw; omega)]; rfl)]
    cases hn : (wds x).all isN with
    | false =>
      have e : ((wds x).any fun w => !isN w) = true := by
        rw [List.all_eq_false] at hn
        obtain ⟨w, hw, h2⟩ := hn
        exact List.any_eq_true.mpr ⟨w, hw, by simpa using h2⟩
      rw [e, if_pos rfl]
      unfold nmsOk
      rw [hn]; rfl
    | true =>
      have e : ((wds x).any fun w => !isN w) = false := by
        rw [List.any_eq_false]
        intro w hw
        rw [List.all_eq_true.mp hn w hw]; simp
      rw [e, if_neg Bool.false_ne_true]
      have h4 : (wds x).length ≤ 4000 := hw4.resolve_right fun z => by rw [hn] at z; cases z.2
      show chk _ _ = _
      rw [chk_pos h4]
      unfold nmsOk
      rw [hn]
      have hd := (ddS_inv (wds x)).2.2
      by_cases q : (wds x).Nodup
      · rw [decide_eq_true (show (((ddS (wds x)).length : Nat) : Int) = ((wds x).length : Int) by have := hd.mpr q; omega), decide_eq_true q]; rfl
      · rw [decide_eq_false (show ¬ (((ddS (wds x)).length : Nat) : Int) = ((wds x).length : Int) from fun z => q (hd.mp (by omega))), decide_eq_false q]; rfl
theorem told_eq {k : Int} {x : Str} (hk : k = 0 ∨ k = 1 ∨ k = 2) (hs : x.length + 2 ≤ sizeLine) (hx : x.length ≤ 1000000) (hw4 : k = 1 → (wds x).length ≤ 4000 ∨ nmsOk (wds x) = false ∧ (wds x).all isN = false) : m_l_told k x = some (tl (due k x)) := by
  have e1 : exE tab (Er.pl "NoText") "PairsError" = some true := by decide +kernel
  have e2 : isE tab (Er.pl "NoText") "NoText" = some true := by decide +kernel
  have e3 : isE tab (Er.pl "NoText") "ValueError" = some true := by decide +kernel
  have e4 : isEs tab (Er.pl "NoText") ["NoBars", "NoCall", "NoInstrument", "NoName", "NoOrder", "NoPlace", "Twice"] = some false := by decide +kernel
  refine Ok.eq ?_
  unfold m_l_told
  refine ok_lt fun f hf => ok_lt fun w hw => ?_
  subst hf
  subst hw
  rcases hk with rfl | rfl | rfl
  · refine ok_ite (fun _ => ?_) (fun z => absurd z (by decide))
    rw [order_eq hs hx]
    cases hd : due 0 x with
    | l ns => exact ok_some rfl
    | o z =>
      have : z = none := by
        unfold due at hd
        rw [if_neg (fun z => absurd z.1 (by decide)), if_neg (by decide)] at hd
        cases hn : nums (wds x) with
        | none => rw [hn] at hd; cases hd; rfl
        | some ns =>
          rw [hn] at hd
          dsimp only at hd
          split at hd <;> cases hd
          rfl
      subst this
      refine ok_eq (x := tl (.o none)) ?_ rfl
      show chk _ _ = _
      rw [e1, e2, e3, e4, chk_pos rfl]; rfl
    | _ =>
      exfalso
      unfold due at hd
      rw [if_neg (fun z => absurd z.1 (by decide)), if_neg (by decide)] at hd
      cases hn : nums (wds x) with
      | none => rw [hn] at hd; cases hd
      | some ns =>
        rw [hn] at hd
        dsimp only at hd
        split at hd <;> cases hd
  · refine ok_ite (fun z => absurd z (by decide)) (fun _ => ok_ite (fun _ => ?_) (fun z => absurd z (by decide)))
    rw [instr_eq hs (by omega) (hw4 rfl)]
    have hd : due 1 x = .o none ∨ ∃ t, due 1 x = .ts t := by
      unfold due
      by_cases h : 0 < (1 : Int) ∧ x = ("-" : Str)
      · rw [if_pos h, if_pos rfl]; exact .inr ⟨_, rfl⟩
      · rw [if_neg h, if_pos rfl]
        split
        · exact .inr ⟨_, rfl⟩
        · exact .inl rfl
    rcases hd with hd | ⟨t, hd⟩
    · rw [hd]
      refine ok_eq (x := tl (.o none)) ?_ rfl
      show chk _ _ = _
      rw [e1, e2, e3, e4, chk_pos rfl]; rfl
    · rw [hd]; exact ok_some rfl
  · refine ok_ite (fun z => absurd z (by decide)) (fun _ => ok_ite (fun z => absurd z (by decide)) (fun _ => ?_))
    rw [breaks_eq hs hx]
    have hd : due 2 x = .o none ∨ ∃ t, due 2 x = .l t := by
      unfold due
      by_cases h : 0 < (2 : Int) ∧ x = ("-" : Str)
      · rw [if_pos h, if_neg (by decide)]; exact .inr ⟨_, rfl⟩
      · rw [if_neg h, if_neg (by decide)]
        cases nums (wds x) with
        | none => exact .inl rfl
        | some ns => dsimp only; rw [if_neg (fun z => absurd z.1 (by decide))]; exact .inr ⟨_, rfl⟩
    rcases hd with hd | ⟨t, hd⟩
    · rw [hd]
      refine ok_eq (x := tl (.o none)) ?_ rfl
      show chk _ _ = _
      rw [e1, e2, e3, e4, chk_pos rfl]; rfl
    · rw [hd]; exact ok_some rfl
def Fine (k : Int) : An → Prop
  | .o none => True
  | .l xs => k ≠ 1 ∧ xs.length ≤ 2000000
  | .ts t => k = 1 ∧ t.l.length ≤ 2000000 ∧ ∀ x ∈ t.l, txt x
  | _ => False
theorem shp_ts {t : Tu Str} (h : ∀ x ∈ t.l, txt x) : shpD (An.ts t) := by
  obtain ⟨l1, l2⟩ := lay_strs h
  unfold shpD SeqAt.shaped
  rw [Bool.and_eq_true, decide_eq_true_iff]
  constructor
  · show PyData.canLay0 (.tuple (t.l.map PyData.str)) = true
    simp [PyData.canLay0, l1]
  · show PyData.depth (.tuple (t.l.map PyData.str)) ≤ 64
    simp [PyData.depth, l2]
theorem is_ok {k : Int} {d : An} (hf : Fine k d) : m_l_is k (tl d) d = some true := by
  have hz := szl
  have : Ok (m_l_is k (tl d) d) (· = true) := by
    unfold m_l_is
    cases d with
    | o z =>
      cases z with
      | some i => exact hf.elim
      | none =>
        refine ok_ite (fun _ => ?_) (fun z => by cases z)
        have s1 : shpD ((("NoText" : Str), An.o none) : Str × An) := by unfold shpD; decide +kernel
        have s2 : eqvD ((("NoText" : Str), An.o none) : Str × An) (("NoText" : Str), An.o none) = true := by unfold eqvD; decide +kernel
        exact ok_chk s1 (ok_chk s1 (ok_some s2))
    | l xs =>
      refine ok_ite (fun z => by cases z) (fun _ => ?_)
      have s1 : shpD (An.l xs) := shp_of xs
      have s2 : eqvD (An.l xs) (An.l xs) = true := (EqD.eqv xs xs).mpr rfl
      refine ok_bnd (P := fun c => c = false) (ok_orO (fun _ => ok_orO (fun _ => ok_chk s1 (ok_chk s1 (ok_some ?_))) (fun z => ?_)) (fun z => ?_)) ?_
      · show (!eqvD (An.l xs) (An.l xs)) = false
        rw [s2]; rfl
      · have : decide (k = 1) = false := decide_eq_false hf.1
        rw [this] at z; cases z
      · revert z; show (!decide (("told" : Str) = ("told" : Str))) = true → _; rw [decide_eq_true rfl]; intro z; cases z
      rintro _ rfl
      refine ok_ite (fun z => by cases z) (fun _ => ok_ret ?_)
      show Ok (chk _ _) _
      have e : List.filter (fun _ : Int => false) xs = [] := List.filter_eq_nil_iff.mpr fun _ _ => by simp
      rw [e]
      exact ok_chk (Nat.zero_le _) (ok_some (decide_eq_true rfl))
    | ts t =>
      refine ok_ite (fun z => by cases z) (fun _ => ?_)
      have s1 : shpD (An.ts t) := shp_ts hf.2.2
      have s2 : eqvD (An.ts t) (An.ts t) = true := (EqD.eqv t t).mpr rfl
      refine ok_bnd (P := fun c => c = false) (ok_orO (fun _ => ok_orO (fun _ => ok_chk s1 (ok_chk s1 (ok_some ?_))) (fun z => ?_)) (fun z => ?_)) ?_
      · show (!eqvD (An.ts t) (An.ts t)) = false
        rw [s2]; rfl
      · have : decide (k = 1) = true := decide_eq_true hf.1
        rw [this] at z; cases z
      · revert z; show (!decide (("told" : Str) = ("told" : Str))) = true → _; rw [decide_eq_true rfl]; intro z; cases z
      rintro _ rfl
      refine ok_ite (fun z => by cases z) (fun _ => ok_ret ?_)
      show Ok (chk _ _) _
      have e : List.filter (fun _ : Str => false) t.l = [] := List.filter_eq_nil_iff.mpr fun _ _ => by simp
      rw [e]
      exact ok_chk (Nat.zero_le _) (ok_chk (shp_strs fun x hx => by cases hx) (ok_chk (shp_strs fun x hx => by cases hx) (ok_some (decide_eq_true rfl))))
    | _ => exact hf.elim
  exact this.eq
theorem due_fine {k : Int} {x : Str} (hk : k = 0 ∨ k = 1 ∨ k = 2) (hx : x.length ≤ 1000000) : Fine k (due k x) := by
  have hc := wds_cnt x
  unfold due
  by_cases h : 0 < k ∧ x = ("-" : Str)
  · rw [if_pos h]
    by_cases h1 : k = 1
    · rw [if_pos h1]
      exact ⟨h1, by simp, fun x hx => by cases hx⟩
    · rw [if_neg h1]
      exact ⟨h1, by simp⟩
  · rw [if_neg h]
    by_cases h1 : k = 1
    · rw [if_pos h1]
      split
      · rename_i hn
        refine ⟨h1, by show (wds x).length ≤ _; omega, fun w hw => ?_⟩
        unfold nmsOk at hn
        exact (isN_asc (List.all_eq_true.mp (Bool.and_eq_true_iff.mp hn).1 w hw)).ok
      · trivial
    · rw [if_neg h1]
      cases hn : nums (wds x) with
      | none => trivial
      | some ns =>
        dsimp only
        split
        · trivial
        · exact ⟨h1, by have := nums_len hn; omega⟩
theorem asc_lit {x : Str} (h : (cl x).all (fun c => decide (c < 128)) = true) : Asc x := fun c hc => of_decide_eq_true (List.all_eq_true.mp h c hc)
theorem bent_ok {t : Str} {x : Int} (ht : t.length ≤ 20000) (ha : Asc t) : Ok (m_l_bent t x) (fun r => r.length ≤ 2 * t.length + 70 ∧ Asc r) := by
  unfold m_l_bent
  have hz := szl
  have hw := wt_split t (sep := ("," : Str)) (by decide)
  have hw1 : 1 ≤ (Txt.split t ("," : Str)).length := List.length_pos_iff.mpr (split_ne _ _)
  have has : ∀ p ∈ Txt.split t ("," : Str), Asc p := asc_split ha
  have hac : Asc ("," : Str) := asc_lit (by decide +kernel)
  have c1 := cutS_le t
  refine ok_chk (by omega) (ok_chk (by omega) (ok_lt fun at_ hat => ?_))
  have hol : ("0123456789-, ,a,zA._x\n" : Str).length = 22 := by decide +kernel
  refine ok_bnd (P := fun y => y.length = 1 ∧ Asc y) (ok_sgn (by rw [hol]; decide) (Int.emod_nonneg _ (by decide)) (by rw [hol]; exact Int.emod_lt_of_pos _ (by decide)) fun c hc => ⟨rfl, fun d hd => ?_⟩) fun od hod => ok_lt fun od' h => ?_
  · have hd : d = c := List.mem_singleton.mp hd
    have hl : ∀ c ∈ ("0123456789-, ,a,zA._x\n" : Str).cps.toList, c < 128 := by decide +kernel
    rw [hd]
    exact hl c (List.mem_of_getElem? hc)
  have h := h.symm
  subst h
  refine ok_chk (by omega) (ok_lt fun ws hws => ?_)
  have hws := hws.symm
  subst hws
  generalize hW : Txt.split t ("," : Str) = ws at hw hw1 has
  have hwl := wt_len ws
  refine ok_chk (by omega) (ok_lt fun pl hpl => ok_lt fun way hway => ?_)
  have p0 : 0 ≤ pl := by rw [hpl]; exact Int.emod_nonneg _ (by omega)
  have p1 : pl < ws.length := by rw [hpl]; exact Int.emod_lt_of_pos _ (by omega)
  have wc := wt_cut ws
  have wl := fun a b => wt_len (cut ws a b)
  have hcut : ∀ a b, ∀ p ∈ cut ws a b, Asc p := fun a b p hp => by
    unfold cut at hp
    exact has p (List.mem_of_mem_drop (List.mem_of_mem_take hp))
  have happ : ∀ {a b : List Str}, (∀ p ∈ a, Asc p) → (∀ p ∈ b, Asc p) → ∀ p ∈ a ++ b, Asc p := fun h1 h2 p hp => (List.mem_append.mp hp).elim (h1 p) (h2 p)
  refine ok_ite (fun _ => ?_) fun _ => ok_ite (fun _ => ?_) fun _ => ok_ite (fun _ => ?_) fun _ => ok_ite (fun _ => ?_) fun _ => ok_ite (fun _ => ?_) fun _ => ok_ite (fun _ => ?_) fun _ => ?_
  · have := c1 none (some at_)
    have := c1 (some (at_ + way)) none
    have := hod.1
    refine ok_chk (by omega) (ok_chk (by omega) (ok_chk (by omega) (ok_chk (by rw [len_app]; omega) (ok_some ⟨?_, asc_app (asc_app (asc_cutS ha _ _) hod.2) (asc_cutS ha _ _)⟩))))
    rw [len_app, len_app]; omega
  · have w1 := wc none (some pl)
    have w2 := wc (some pl) (some (pl + 1))
    have w3 := wc (some pl) none
    have l1 := wl none (some pl)
    have l2 := wl (some pl) (some (pl + 1))
    have l3 := wl (some pl) none
    have e0 : wt (cut ws none (some pl)) + wt (cut ws (some pl) none) = wt ws := by
      obtain ⟨m, rfl⟩ := Int.eq_ofNat_of_zero_le p0
      rw [cut_hi, cut_loA, ← wt_app, List.take_append_drop]
    obtain ⟨j1, j2⟩ := join_fit (ys := cut ws none (some pl) ++ cut ws (some pl) (some (pl + 1)) ++ cut ws (some pl) none) (by rw [wt_app, wt_app]; omega)
    rw [wt_app, wt_app] at j2
    exact ok_chk (by omega) (ok_chk (by rw [List.length_append]; omega) (ok_chk j1 (ok_some ⟨by omega, asc_join hac (happ (happ (hcut _ _) (hcut _ _)) (hcut _ _))⟩)))
  · have w1 := wc none (some pl)
    have w3 := wc (some (pl + 1)) none
    have l1 := wl none (some pl)
    have l3 := wl (some (pl + 1)) none
    obtain ⟨j1, j2⟩ := join_fit (ys := cut ws none (some pl) ++ cut ws (some (pl + 1)) none) (by rw [wt_app]; omega)
    rw [wt_app] at j2
    exact ok_chk (by omega) (ok_chk j1 (ok_some ⟨by omega, asc_join hac (happ (hcut _ _) (hcut _ _))⟩))
  · have w1 := wc none (some pl)
    have w3 := wc (some pl) none
    have l1 := wl none (some pl)
    have l3 := wl (some pl) none
    obtain ⟨j1, j2⟩ := join_fit (ys := cut ws (some pl) none ++ cut ws none (some pl)) (by rw [wt_app]; omega)
    rw [wt_app] at j2
    exact ok_chk (by omega) (ok_chk j1 (ok_some ⟨by omega, asc_join hac (happ (hcut _ _) (hcut _ _))⟩))
  · have k1 : ("," : Str).length = 1 := by decide
    have k2 : ("-" : Str).length = 1 := by decide
    have k3 : (",-" : Str).length = 2 := by decide
    have k4 : (" " : Str).length = 1 := by decide
    refine ok_chk (by omega) (ok_chk (by omega) (ok_chk (by omega) (ok_chk (by omega) (ok_chk (by omega) (ok_chk (by omega) (ok_ret (ok_atI (Int.emod_nonneg _ (by decide)) (Int.emod_lt_of_pos _ (by decide)) fun z hz1 => ?_)))))))
    have hm := List.mem_of_getElem? hz1
    simp only [List.mem_cons, List.not_mem_nil, or_false] at hm
    have a2 : Asc ("-" : Str) := asc_lit (by decide +kernel)
    have a3 : Asc (",-" : Str) := asc_lit (by decide +kernel)
    have a4 : Asc (" " : Str) := asc_lit (by decide +kernel)
    rcases hm with rfl | rfl | rfl | rfl | rfl | rfl
    · exact ⟨by rw [len_app]; omega, asc_app hac ha⟩
    · exact ⟨by rw [len_app]; omega, asc_app ha hac⟩
    · exact ⟨by rw [len_app]; omega, asc_app a2 ha⟩
    · exact ⟨by rw [len_app]; omega, asc_app ha a2⟩
    · exact ⟨by rw [len_app]; omega, asc_app ha a3⟩
    · exact ⟨by rw [len_app]; omega, asc_app a4 ha⟩
  · refine ok_chk (repS_small (by decide) (by decide) (by decide)) (ok_chk (repS_small (by decide) (by decide) (by decide)) (ok_ret (ok_atI (Int.emod_nonneg _ (by decide)) (Int.emod_lt_of_pos _ (by decide)) fun z hz1 => ?_)))
    have hm := List.mem_of_getElem? hz1
    simp only [List.mem_cons, List.not_mem_nil, or_false] at hm
    have key : z.length ≤ 61 ∧ (cl z).all (fun c => decide (c < 128)) = true := by
      rcases hm with rfl | rfl | rfl | rfl | rfl | rfl | rfl | rfl | rfl | rfl | rfl | rfl | rfl | rfl <;> exact ⟨by decide +kernel, by decide +kernel⟩
    exact ⟨by omega, asc_lit key.2⟩
  · have e0 : wt ws.reverse = wt ws := by
      unfold wt
      rw [List.map_reverse, List.length_reverse]
      congr 1
      exact (List.reverse_perm _).sum_nat
    obtain ⟨j1, j2⟩ := join_fit (ys := ws.reverse) (by omega)
    exact ok_chk j1 (ok_some ⟨by omega, asc_join hac fun p hp => has p (List.mem_reverse.mp hp)⟩)
theorem let_at : ∀ k : Fin 26, sgn ("abcdefghijklmnopqrstuvwxyz" : Str) (k.val : Int) = some ⟨#[97 + k.val]⟩ := by decide +kernel
theorem let_i {i : Int} (h0 : 0 ≤ i) (h1 : i < 26) : sgn ("abcdefghijklmnopqrstuvwxyz" : Str) i = some ⟨#[97 + i.toNat]⟩ := by
  have := let_at ⟨i.toNat, by omega⟩
  rw [Int.toNat_of_nonneg h0] at this
  exact this
theorem rep_at : ∀ p : Fin 26, ∀ n : Fin 12, cl (replS ⟨#[97 + p.val]⟩ (n.val : Int)) = List.replicate n.val (97 + p.val) := by decide +kernel
theorem rep_i {p : Nat} {n : Int} (hp : p < 26) (h0 : 0 ≤ n) (h1 : n < 12) : cl (replS ⟨#[97 + p]⟩ n) = List.replicate n.toNat (97 + p) := by
  have := rep_at ⟨p, hp⟩ ⟨n.toNat, by omega⟩
  dsimp only at this
  rw [Int.toNat_of_nonneg h0] at this
  exact this
structure Twelve (l : List Str) : Prop where
  len : l.length = 12
  nd : l.Nodup
  nm : ∀ w ∈ l, isN w = true
theorem twelve_of {ys : List Str} {f : Nat → List Nat} (hl : ys.length = 12) (h : ∀ (i : Nat) (w : Str), ys[i]? = some w → cl w = f i) (hn : ∀ i, i < 12 → (1 ≤ (f i).length ∧ (f i).length ≤ 10) ∧ ∀ c ∈ f i, 97 ≤ c ∧ c ≤ 122) (hi : ∀ i j, i < 12 → j < 12 → f i = f j → i = j) : Twelve ys := by
  refine ⟨hl, List.pairwise_iff_getElem.mpr fun i j hi' hj' hij e => ?_, fun w hw => ?_⟩
  · have a1 := h i _ (List.getElem?_eq_getElem hi')
    have a2 := h j _ (List.getElem?_eq_getElem hj')
    rw [e, a2] at a1
    have := hi j i (by omega) (by omega) a1
    omega
  · obtain ⟨i, e⟩ := List.mem_iff_getElem?.mp hw
    have hil := (List.getElem?_eq_some_iff.mp e).1
    have a1 := h i w e
    have a2 := hn i (by omega)
    rw [← a1, cl_len] at a2
    exact isN_iff.mpr a2
theorem rep_len1 {p : Nat} {n : Int} (hp : p < 26) (h0 : 0 ≤ n) (h1 : n < 12) : (replS ⟨#[97 + p]⟩ n).length = n.toNat := by
  rw [← cl_len, rep_i hp h0 h1, List.length_replicate]
theorem mid_at {a p c : Nat} {r : List Nat} : (List.replicate a p ++ [c] ++ r)[a]? = some c := by
  rw [List.append_assoc, List.getElem?_append_right (by rw [List.length_replicate]; exact Nat.le_refl _), List.length_replicate, Nat.sub_self]; rfl
theorem names_ok (x : Int) : Ok (m_l_names x) Twelve := by
  unfold m_l_names
  have hz := szl
  refine ok_lt fun letters hlet => ?_
  subst hlet
  refine ok_bnd (ok_eq (let_i (i := x % 26) (by omega) (by omega)) rfl) ?_
  rintro _ rfl
  refine ok_lt fun one hone => ok_bnd (ok_eq (let_i (i := (x + 1 + x / 26 % 25) % 26) (by omega) (by omega)) rfl) ?_
  rintro _ rfl
  refine ok_lt fun other hoth => ?_
  have hp : (x % 26).toNat < 26 := by omega
  have hq : ((x + 1 + x / 26 % 25) % 26).toNat < 26 := by omega
  have hpq : (x % 26).toNat ≠ ((x + 1 + x / 26 % 25) % 26).toNat := by omega
  generalize (x % 26).toNat = p at *
  generalize ((x + 1 + x / 26 % 25) % 26).toNat = q at *
  subst hone
  subst hoth
  have h1 : ∀ c : Nat, (⟨#[c]⟩ : Str).length = 1 := fun c => rfl
  refine ok_ite (fun _ => ?_) (fun _ => ?_)
  · refine ok_bnd (P := Twelve) ((ok_mapO (P := fun k w => cl w = List.replicate (1 + k % 5).toNat (97 + p) ++ List.replicate (k / 5).toNat (97 + q)) fun k hk => ?_).imp fun ys ⟨y1, y2⟩ => ?_) fun ys hys => ok_chk (by have := hys.len; omega) (ok_some hys)
    · obtain ⟨k0, k1⟩ := mem_rng.mp hk
      have l1 := rep_len1 (n := 1 + k % 5) hp (by omega) (by omega)
      have l2 := rep_len1 (n := k / 5) hq (by omega) (by omega)
      refine ok_chk (repS_small (by rw [h1]; decide) (by omega) (by omega)) (ok_chk (repS_small (by rw [h1]; decide) (by omega) (by omega)) (ok_chk (by omega) (ok_some ?_)))
      rw [cl_app, rep_i hp (by omega) (by omega), rep_i hq (by omega) (by omega)]
    · refine twelve_of (f := fun i => List.replicate (1 + i % 5) (97 + p) ++ List.replicate (i / 5) (97 + q)) (by rw [y1, rng_len]; rfl) (fun i w e => ?_) (fun i hi => ⟨by rw [List.length_append, List.length_replicate, List.length_replicate]; omega, fun c hc => ?_⟩) (fun i j hi hj e => ?_)
      · obtain ⟨k, hk, e2⟩ := y2 i w e
        obtain ⟨e3, e4⟩ := rng_at hk
        rw [e2, e3]
        congr 2 <;> omega
      · rcases List.mem_append.mp hc with z | z <;> rw [(List.mem_replicate.mp z).2] <;> omega
      · have a1 := congrArg (List.count (97 + p)) e
        have a2 := congrArg (List.count (97 + q)) e
        have n1 : ¬ (97 + q) = 97 + p := by omega
        have n2 : ¬ (97 + p) = 97 + q := by omega
        simp only [List.count_append, List.count_replicate_self, List.count_replicate, beq_iff_eq, n1, n2, if_false, Nat.add_zero, Nat.zero_add] at a1 a2
        omega
  · refine ok_lt fun size hsize => ok_chk (by omega) (ok_lt fun at_ hat => ok_lt fun start hst => ?_)
    have m1 := Int.emod_nonneg (x / 13000) (b := size) (by omega)
    have m2 := Int.emod_lt_of_pos (x / 13000) (b := size) (by omega)
    rw [← hat] at m1 m2
    refine ok_bnd (P := Twelve) ((ok_mapO (P := fun k w => cl w = List.replicate at_.toNat (97 + p) ++ [97 + ((start + k) % 26).toNat] ++ List.replicate (size - 1 - at_).toNat (97 + p)) fun k hk => ?_).imp fun ys ⟨y1, y2⟩ => ?_) fun ys hys => ok_chk (by have := hys.len; omega) (ok_some hys)
    · obtain ⟨k0, k1⟩ := mem_rng.mp hk
      have l1 := rep_len1 (n := at_) hp (by omega) (by omega)
      have l2 := rep_len1 (n := size - 1 - at_) hp (by omega) (by omega)
      refine ok_chk (repS_small (by rw [h1]; decide) (by omega) (by omega)) (ok_bnd (ok_eq (let_i (i := (start + k) % 26) (by omega) (by omega)) rfl) ?_)
      rintro _ rfl
      refine ok_chk (by rw [h1]; omega) (ok_chk (repS_small (by rw [h1]; decide) (by omega) (by omega)) (ok_chk (by rw [len_app, h1]; omega) (ok_some ?_)))
      rw [cl_app, cl_app, rep_i hp (by omega) (by omega), rep_i hp (by omega) (by omega)]; rfl
    · refine twelve_of (f := fun i => List.replicate at_.toNat (97 + p) ++ [97 + ((start + (i : Int)) % 26).toNat] ++ List.replicate (size - 1 - at_).toNat (97 + p)) (by rw [y1, rng_len]; rfl) (fun i w e => ?_) (fun i hi => ⟨by rw [List.length_append, List.length_append, List.length_replicate, List.length_replicate, List.length_singleton]; omega, fun c hc => ?_⟩) (fun i j hi hj e => ?_)
      · obtain ⟨k, hk, e2⟩ := y2 i w e
        obtain ⟨e3, e4⟩ := rng_at hk
        rw [Int.zero_add] at e3
        rw [e2, e3]
      · rcases List.mem_append.mp hc with z | z
        · rcases List.mem_append.mp z with z | z
          · rw [(List.mem_replicate.mp z).2]; omega
          · rw [List.mem_singleton.mp z]; omega
        · rw [(List.mem_replicate.mp z).2]; omega
      · have a1 := congrArg (fun l : List Nat => l[at_.toNat]?) e
        have a1 : some (97 + ((start + (i : Int)) % 26).toNat) = some (97 + ((start + (j : Int)) % 26).toNat) := mid_at.symm.trans (a1.trans mid_at)
        have a1 := Option.some.inj a1
        omega
theorem order_ok (x : Int) {many : Int} (h1 : 1 ≤ many) (h2 : many ≤ 40) : Ok (m_l_order x many) (fun o => IsOrd o) := by
  unfold m_l_order
  have hz := szl
  refine ok_chk ⟨by omega, by omega, by omega⟩ (ok_lt fun left hleft => ok_lt fun oh hoh => ok_chk ⟨by omega, by omega⟩ ?_)
  refine ok_bnd (P := fun b : List Int × List Int × Int => b.1.length = many.toNat ∧ (b.1 ++ b.2.1).Perm (rng 0 many)) (ok_foldO (fun i (b : List Int × List Int × Int) => b.1.length = i ∧ (b.1 ++ b.2.1).Perm (rng 0 many)) ⟨by rw [hoh]; rfl, by rw [hoh, hleft]; exact List.Perm.refl _⟩ ?_ (fun b hb => ⟨by rw [hb.1, rng_len]; omega, hb.2⟩)) fun b hb => ok_some ?_
  · rintro i ⟨b1, b2, b3⟩ y hy ⟨hl, hp⟩
    obtain ⟨e1, e2⟩ := rng_at hy
    dsimp only at hl hp ⊢
    have hlen := hp.length_eq
    rw [List.length_append, rng_len, hl] at hlen
    refine ok_chk (by omega) (ok_bnd (popAt_ok (Int.emod_nonneg _ (by omega)) (Int.emod_lt_of_pos _ (by omega)) (by omega)) fun r hr => ok_chk (by omega) (ok_lt fun l2 hl2 => ?_))
    have hrl := hr.length_eq
    rw [List.length_cons] at hrl
    refine ok_chk (div_small (by omega) (by omega)) (ok_lt fun x2 _ => ok_some ⟨by rw [hl2, List.length_append, hl]; rfl, ?_⟩)
    rw [hl2, List.append_assoc]
    exact (List.Perm.append_left b1 hr).trans hp
  · have hlen := hb.2.length_eq
    rw [List.length_append, rng_len, hb.1] at hlen
    have hnil : b.2.1 = [] := List.length_eq_zero_iff.mp (by omega)
    have hp := hb.2
    rw [hnil, List.append_nil] at hp
    exact ⟨by omega, by omega, by rw [show ((b.1.length : Nat) : Int) = many by omega]; exact hp⟩
theorem div_big {y : Int} (h1 : 0 < y) (h2 : y ≤ 10 ^ 64) : DivOk y := ⟨h1, PySem.Flt.log2_lt_of (by decide) (Nat.lt_of_le_of_lt (show y.natAbs ≤ 10 ^ 64 by omega) (Nat.lt_of_lt_of_le (show 10 ^ 64 < 2 ^ 250 by decide +kernel) (Nat.pow_le_pow_right (by decide) (by decide))))⟩
theorem digits_ok (x : Int) {m z : Int} (h0 : 0 ≤ m) (h1 : m ≤ 100) (z0 : 0 < z) (z1 : z ≤ 10 ^ 60) : Ok (m_l_digits x m z) (fun ds => (ds.length : Int) = m ∧ ∀ d ∈ ds, 0 ≤ d ∧ d < z) := by
  unfold m_l_digits
  have hz := szl
  refine ok_lt fun f hf => ok_chk ⟨by omega, by omega⟩ (ok_bnd (P := fun b : List Int × Int => (b.1.length : Int) = m ∧ ∀ d ∈ b.1, 0 ≤ d ∧ d < z) (ok_foldO (fun i (b : List Int × Int) => b.1.length = i ∧ ∀ d ∈ b.1, 0 ≤ d ∧ d < z) ⟨by rw [hf]; rfl, by rw [hf]; simp⟩ ?_ ?_) fun b hb => ok_some hb)
  · rintro i ⟨b1, b2⟩ y hy ⟨hl, hm⟩
    obtain ⟨e1, e2⟩ := rng_at hy
    dsimp only at hl hm ⊢
    refine ok_chk z0 (ok_chk (by omega) (ok_lt fun f2 hf2 => ok_chk (div_big z0 (by omega)) (ok_lt fun _ _ => ok_some ⟨by dsimp only; rw [hf2, List.length_append, hl]; rfl, fun d hd => ?_⟩)))
    dsimp only at hd
    rw [hf2] at hd
    rcases List.mem_append.mp hd with hd | hd
    · exact hm d hd
    · rw [List.mem_singleton.mp hd]; exact ⟨Int.emod_nonneg _ (by omega), Int.emod_lt_of_pos _ z0⟩
  · rintro b ⟨hl, hm⟩
    exact ⟨by rw [hl, rng_len_nn h0]; omega, hm⟩
theorem comma_c : ("," : Str) = ⟨#[44]⟩ := by decide +kernel
theorem free_str {l : List Int} (h : ∀ n ∈ l, 0 ≤ n ∧ n < 10 ^ 60) : ∀ w ∈ l.map strI, 44 ∉ cl w := fun w hw => by
  obtain ⟨n, hn, rfl⟩ := List.mem_map.mp hw
  obtain ⟨n0, n1⟩ := h n hn
  obtain ⟨k, rfl⟩ := Int.eq_ofNat_of_zero_le n0
  exact strI_free (by decide)
theorem wds_str {l : List Int} (hne : l ≠ []) (h : ∀ n ∈ l, 0 ≤ n ∧ n < 10 ^ 60) : wds (Txt.join ("," : Str) (l.map strI)) = l.map strI :=
  split_join comma_c (fun e => hne (List.map_eq_nil_iff.mp e)) (free_str h)
theorem isN_free {w : Str} (h : isN w = true) : 44 ∉ cl w := fun hc => by
  have := (isN_iff.mp h).2 44 hc
  omega
theorem wds_nms {l : List Str} (hne : l ≠ []) (h : ∀ w ∈ l, isN w = true) : wds (Txt.join ("," : Str) l) = l :=
  split_join comma_c hne fun w hw => isN_free (h w hw)
theorem wt_str : ∀ {l : List Int}, (∀ n ∈ l, 0 ≤ n ∧ n < 10 ^ 60) → wt (l.map strI) ≤ 61 * l.length
  | [], _ => Nat.le_refl _
  | x :: r, h => by
    have ih := wt_str fun y hy => h y (List.mem_cons_of_mem _ hy)
    obtain ⟨n0, n1⟩ := h x List.mem_cons_self
    obtain ⟨k, rfl⟩ := Int.eq_ofNat_of_zero_le n0
    have := strI_len (n := k) (k := 60) (by decide) (by omega)
    unfold wt at ih ⊢
    rw [List.map_cons, List.map_cons, List.sum_cons, List.length_cons, List.length_cons]
    omega
theorem wt_nms : ∀ {l : List Str}, (∀ w ∈ l, isN w = true) → wt l ≤ 11 * l.length
  | [], _ => Nat.le_refl _
  | x :: r, h => by
    have ih := wt_nms fun y hy => h y (List.mem_cons_of_mem _ hy)
    have := (isN_iff.mp (h x List.mem_cons_self)).1.2
    unfold wt at ih ⊢
    rw [List.map_cons, List.sum_cons, List.length_cons]
    omega
theorem asc_str {l : List Int} (h : ∀ n ∈ l, 0 ≤ n ∧ n < 10 ^ 60) : ∀ w ∈ l.map strI, Asc w := fun w hw c hc => by
  obtain ⟨n, hn, rfl⟩ := List.mem_map.mp hw
  obtain ⟨n0, n1⟩ := h n hn
  obtain ⟨k, rfl⟩ := Int.eq_ofNat_of_zero_le n0
  by_cases z : c < 48 ∨ 57 < c
  · exact absurd hc (strI_free z)
  · omega
theorem asc_comma : Asc ("," : Str) := asc_lit (by decide +kernel)
theorem wds_one {x : Str} (h : 44 ∉ cl x) : wds x = [x] := split_none comma_c h
theorem dash_n : isN ("-" : Str) = false := by decide +kernel
theorem empty_n : isN ("" : Str) = false := by decide +kernel
theorem dash_v : numOf ("-" : Str) = none := by decide +kernel
theorem empty_v : numOf ("" : Str) = none := by decide +kernel
theorem nms_txt {l : List Str} (h : ∀ w ∈ l, isN w = true) (hnd : l.Nodup) : (Txt.join ("," : Str) l = ("" : Str) ↔ l = []) ∧ (l ≠ [] → due 1 (Txt.join ("," : Str) l) = .ts ⟨l⟩) := by
  have e0 : Txt.join ("," : Str) ([] : List Str) = ("" : Str) := by rw [tjoin]; rfl
  constructor
  · constructor
    · intro e
      refine Classical.byContradiction fun hne => ?_
      have e1 := wds_nms hne h
      rw [e, wds_one (by decide +kernel)] at e1
      have := h ("" : Str) (by rw [← e1]; exact List.mem_singleton.mpr rfl)
      rw [empty_n] at this; cases this
    · intro e; rw [e]; exact e0
  · intro hne
    have e1 := wds_nms hne h
    unfold due
    rw [if_neg (fun z => ?_), if_pos rfl, e1, if_pos (by unfold nmsOk; rw [List.all_eq_true.mpr h, decide_eq_true hnd]; rfl)]
    rw [z.2, wds_one (by decide +kernel)] at e1
    have := h ("-" : Str) (by rw [← e1]; exact List.mem_singleton.mpr rfl)
    rw [dash_n] at this; cases this
theorem str_txt {l : List Int} (h : ∀ n ∈ l, 0 ≤ n ∧ n < 10 ^ 60) : (Txt.join ("," : Str) (l.map strI) = ("" : Str) ↔ l = []) ∧ (l ≠ [] → due 2 (Txt.join ("," : Str) (l.map strI)) = .l l) ∧ (IsOrd l → due 0 (Txt.join ("," : Str) (l.map strI)) = .l l) := by
  have e0 : Txt.join ("," : Str) ([] : List Str) = ("" : Str) := by rw [tjoin]; rfl
  have en := nums_str h
  refine ⟨⟨fun e => ?_, fun e => by rw [e]; exact e0⟩, fun hne => ?_, fun ho => ?_⟩
  · refine Classical.byContradiction fun hne => ?_
    have e1 := wds_str hne h
    rw [e, wds_one (by decide +kernel)] at e1
    rw [← e1] at en
    unfold nums at en
    rw [empty_v] at en; cases en
  · have e1 := wds_str hne h
    unfold due
    rw [if_neg (fun z => ?_), if_neg (by decide), e1, en]
    · dsimp only
      rw [if_neg (fun z => absurd z.1 (by decide))]
    · rw [z.2, wds_one (by decide +kernel)] at e1
      rw [← e1] at en
      unfold nums at en
      rw [dash_v] at en; cases en
  · have hne : l ≠ [] := fun z => by
      have := ho.l1
      rw [z] at this
      exact absurd this (by decide)
    have e1 := wds_str hne h
    unfold due
    rw [if_neg (fun z => absurd z.1 (by decide)), if_neg (by decide), e1, en]
    dsimp only
    rw [if_neg (fun z => ?_)]
    have := z.2
    unfold ordOk at this
    rw [decide_eq_true ho.l2, decide_eq_true ho.sort] at this
    cases this
theorem strs_ok {l : List Int} (h : ∀ n ∈ l, 0 ≤ n ∧ n < 10 ^ 60) {Q : List Str → Prop} (q : Q (l.map strI)) : Ok (mapO (fun (x : Int) => (chk ((x).natAbs.log2 < 1920) (some (strI x)))) l) Q :=
  ok_eq (mapO_eq (g := strI) fun x hx => by rw [chk_pos (log_small (h x hx).1 (h x hx).2)]) q
def shw (t : Str) : Str := if t = ("" : Str) then ("-" : Str) else t
theorem told_is {k : Int} {x : Str} {d : An} (hk : k = 0 ∨ k = 1 ∨ k = 2) (hx : x.length ≤ 3990) (hd : due k x = d) : Ok (m_l_told k x) (fun r => m_l_is k r d = some true) := by
  have hz := szl
  have hc := wds_cnt x
  refine ok_eq (told_eq hk (by omega) (by omega) fun _ => .inl (by omega)) ?_
  rw [← hd]
  exact is_ok (due_fine hk (by omega))
theorem law_true : ∀ ns : List Int, ns.length ≤ 63 → a_law (ns, ()) = some true := by
  intro ns hn
  refine Ok.eq ?_
  show Ok (m_law ns) _
  unfold m_law
  have hz := szl
  refine ok_bnd (number_ok ns (by decide) (by decide)) fun x1 _ => ok_bnd (cell_ok ns (by decide)) fun c2 _ => ok_bnd (order_ok x1 (by omega) (by omega)) fun ord0 ho => ok_lt fun order hord => ?_
  subst hord
  refine ok_bnd (number_ok ns (by decide) (by decide)) fun x3 _ => ok_bnd (names_ok x3) fun nm0 hn0 => ok_lt fun names hnm => ?_
  subst hnm
  refine ok_bnd (number_ok ns (by decide) (by decide)) fun x4 _ => ok_lt fun turn hturn => ?_
  have ht0 : 0 ≤ turn ∧ turn < 12 := by omega
  obtain ⟨tn, rfl⟩ := Int.eq_ofNat_of_zero_le ht0.1
  rw [cut_hi, cut_loA]
  have hperm : (names.drop tn ++ names.take tn).Perm names := by
    have := List.perm_append_comm (l₁ := names.drop tn) (l₂ := names.take tn)
    rw [List.take_append_drop] at this
    exact this
  have hpl := hperm.length_eq
  rw [hn0.len] at hpl
  refine ok_chk (by rw [← List.length_append]; omega) (ok_bnd (cell_ok ns (by decide)) fun c2' _ => ok_lt fun some_ hsome => ?_)
  have hsl : ∃ l, some_ = ⟨l⟩ ∧ l.length ≤ 12 ∧ l.Nodup ∧ ∀ w ∈ l, isN w = true := by
    refine ⟨_, hsome, ?_, ?_, ?_⟩
    · have := cut_len_le (names.drop tn ++ names.take tn) none (some ((c2' / 40) % 13))
      omega
    · have : (names.drop tn ++ names.take tn).Nodup := hperm.nodup_iff.mpr hn0.nd
      unfold cut
      exact (this.sublist (List.drop_sublist _ _)).sublist (List.take_sublist _ _)
    · intro w hw
      unfold cut at hw
      exact hn0.nm w (hperm.mem_iff.mp (List.mem_of_mem_drop (List.mem_of_mem_take hw)))
  obtain ⟨some1, rfl, s1, s2, s3⟩ := hsl
  clear hsome
  refine ok_bnd (cell_ok ns (by decide)) fun c5 _ => ok_bnd (cell_ok ns (by decide)) fun c6 _ => ok_bnd (digits_ok c5 (z := (10 : Int) ^ ((60 : Int)).toNat) (by omega) (by omega) (by decide) (by decide)) fun d1 hd1 => ok_lt fun b1 hb1 => ?_
  subst hb1
  have h60 : (10 : Int) ^ ((60 : Int)).toNat = 10 ^ 60 := rfl
  rw [h60] at hd1
  refine ok_bnd (number_ok ns (by decide) (by decide)) fun x7 _ => ok_bnd (cell_ok ns (by decide)) fun c6' _ => ok_bnd (digits_ok x7 (by omega) (by omega) (by decide) (by decide)) fun d2 hd2 => ok_chk (by omega) (ok_lt fun breaks hbr => ?_)
  have hbl : breaks.length ≤ 60 := by rw [hbr, List.length_append]; omega
  have hB : ∀ n ∈ breaks, 0 ≤ n ∧ n < 10 ^ 60 := fun n hn' => by
    rw [hbr] at hn'
    rcases List.mem_append.mp hn' with z | z
    · exact hd1.2 n z
    · have := hd2.2 n z; omega
  clear hbr
  have hO : ∀ n ∈ order, 0 ≤ n ∧ n < 10 ^ 60 := fun n hn' => by
    have := ho.mem.mp hn'
    have := ho.l2
    omega
  have w0 := wt_str hO
  have w1 := wt_nms s3
  have w2 := wt_str hB
  have hol := ho.l2
  obtain ⟨j0, k0⟩ := join_fit (ys := order.map strI) (by omega)
  obtain ⟨j1, k1⟩ := join_fit (ys := some1) (by omega)
  obtain ⟨j2, k2⟩ := join_fit (ys := breaks.map strI) (by omega)
  have a0 := asc_join asc_comma (asc_str hO)
  have a1 := asc_join asc_comma fun w hw => isN_asc (s3 w hw)
  have a2 := asc_join asc_comma (asc_str hB)
  obtain ⟨_, _, t0⟩ := str_txt hO
  obtain ⟨n1, t1⟩ := nms_txt s3 s2
  obtain ⟨n2, t2, _⟩ := str_txt hB
  have t0 := t0 ho
  refine ok_bnd (strs_ok hO (Q := (order.map strI = ·)) rfl) ?_
  rintro _ rfl
  refine ok_chk (by rw [List.length_map]; omega) (ok_chk j0 (ok_chk j1 (ok_bnd (strs_ok hB (Q := (breaks.map strI = ·)) rfl) ?_)))
  rintro _ rfl
  refine ok_chk (by rw [List.length_map]; omega) (ok_chk j2 (ok_lt fun tx htx => ?_))
  have q0 : due 0 (Txt.join ("," : Str) (order.map strI)) = .l order := t0
  have q1 : due 1 (shw (Txt.join ("," : Str) some1)) = .ts ⟨some1⟩ := by
    unfold shw
    by_cases e : Txt.join ("," : Str) some1 = ("" : Str)
    · rw [if_pos e, n1.mp e]
      unfold due
      rw [if_pos ⟨by decide, rfl⟩, if_pos rfl]
    · rw [if_neg e]; exact t1 fun z => e (n1.mpr z)
  have q2 : due 2 (shw (Txt.join ("," : Str) (breaks.map strI))) = .l breaks := by
    unfold shw
    by_cases e : Txt.join ("," : Str) (breaks.map strI) = ("" : Str)
    · rw [if_pos e, n2.mp e]
      unfold due
      rw [if_pos ⟨by decide, rfl⟩, if_neg (by decide)]
    · rw [if_neg e]; exact t2 fun z => e (n2.mpr z)
  have v1 : m_show_instruments ⟨some1⟩ = some (shw (Txt.join ("," : Str) some1)) := by
    unfold m_show_instruments shw
    by_cases e : some1 = []
    · rw [if_pos (n1.mpr e), e]; rfl
    · have hl : some1.length ≠ 0 := fun z => e (List.length_eq_zero_iff.mp z)
      rw [if_neg (fun z => e (n1.mp z)), if_neg (by rw [decide_eq_true_iff]; show ¬ ((some1.length : Int) = 0); omega), chk_pos j1]
  have v2 : m_show_breaks breaks = some (shw (Txt.join ("," : Str) (breaks.map strI))) := by
    unfold m_show_breaks shw
    by_cases e : breaks = []
    · rw [if_pos (n2.mpr e), e]; rfl
    · have hl : breaks.length ≠ 0 := fun z => e (List.length_eq_zero_iff.mp z)
      rw [if_neg (fun z => e (n2.mp z)), if_neg (by rw [decide_eq_true_iff]; omega)]
      refine Ok.eq ?_
      refine ok_bnd (strs_ok hB (Q := (breaks.map strI = ·)) rfl) ?_
      rintro _ rfl
      exact ok_chk (by rw [List.length_map]; omega) (ok_chk j2 (ok_some rfl))
  have v0 : m_show_order order = some (Txt.join ("," : Str) (order.map strI)) := by
    refine Ok.eq ?_
    unfold m_show_order
    refine ok_bnd (strs_ok hO (Q := (order.map strI = ·)) rfl) ?_
    rintro _ rfl
    exact ok_chk (by rw [List.length_map]; omega) (ok_chk j0 (ok_some rfl))
  have sl : ∀ t : Str, t.length ≤ 3800 → (shw t).length ≤ 3800 := fun t h => by
    unfold shw
    split
    · decide +kernel
    · exact h
  have sa : ∀ t : Str, Asc t → Asc (shw t) := fun t h => by
    unfold shw
    split
    · exact asc_lit (by decide +kernel)
    · exact h
  have l0 : (Txt.join ("," : Str) (order.map strI)).length ≤ 3800 := by omega
  have l1 : (shw (Txt.join ("," : Str) some1)).length ≤ 200 := by
    unfold shw
    split
    · decide +kernel
    · omega
  have l2 := sl _ (show (Txt.join ("," : Str) (breaks.map strI)).length ≤ 3800 by omega)
  have b1 := sa _ a1
  have b2 := sa _ a2
  generalize Txt.join ("," : Str) (order.map strI) = T0 at *
  have hshw : ∀ t : Str, Ok (bnd (atI ([t, ("-" : Str)] : List Str) (if (decide (t = ("" : Str))) = true then (1 : Int) else 0)) fun a => some a) (· = shw t) := fun t => by
    unfold shw
    by_cases e : t = ("" : Str)
    · rw [decide_eq_true e, if_pos rfl, if_pos e]; exact ok_some rfl
    · rw [decide_eq_false e, if_neg Bool.false_ne_true, if_neg e]; exact ok_some rfl
  generalize hg1 : shw (Txt.join ("," : Str) some1) = T1 at *
  generalize hg2 : shw (Txt.join ("," : Str) (breaks.map strI)) = T2 at *
  subst htx
  refine ok_bnd (P := (T0 = ·)) (ok_some rfl) ?_
  rintro _ rfl
  have ec : cut ([T0, Txt.join ("," : Str) some1, Txt.join ("," : Str) (breaks.map strI)] : List Str) (some (1 : Int)) none = [Txt.join ("," : Str) some1, Txt.join ("," : Str) (breaks.map strI)] := by
    rw [show (1 : Int) = ((1 : Nat) : Int) from rfl, cut_loA]; rfl
  rw [ec]
  refine ok_bnd (P := ([T1, T2] = ·)) ?_ ?_
  · refine ok_eq (mapO_eq (g := shw) fun t _ => (hshw t).eq) ?_
    show [T1, T2] = [shw _, shw _]
    rw [hg1, hg2]
  rintro _ rfl
  refine ok_chk (by show 2 ≤ _; omega) (ok_chk (by show 1 + 2 ≤ _; omega) (ok_lt fun texts htexts => ok_lt fun handed hhanded => ?_))
  subst texts
  subst handed
  refine ok_bnd (P := (order = ·)) (ok_some rfl) ?_
  rintro _ rfl
  refine ok_bnd (ok_eq v0 rfl) ?_
  rintro _ rfl
  refine ok_bnd (P := (T0 = ·)) (ok_some rfl) ?_
  rintro _ rfl
  refine ok_bnd (P := fun c => c = false) (ok_orO (fun _ => ok_bnd (ok_eq v1 rfl) ?_) (fun z => by rw [decide_eq_true rfl] at z; cases z)) ?_
  · rintro _ rfl
    refine ok_bnd (P := (T1 = ·)) (ok_some rfl) ?_
    rintro _ rfl
    refine ok_orO (fun _ => ok_bnd (P := (breaks = ·)) (ok_some rfl) ?_) (fun z => by rw [decide_eq_true rfl] at z; cases z)
    rintro _ rfl
    refine ok_bnd (ok_eq v2 rfl) ?_
    rintro _ rfl
    refine ok_bnd (P := (T2 = ·)) (ok_some rfl) ?_
    rintro _ rfl
    exact ok_some (by rw [decide_eq_true rfl]; rfl)
  rintro _ rfl
  refine ok_ite (fun z => by cases z) (fun _ => ok_ite (fun z => by rw [decide_eq_true rfl] at z; cases z) (fun _ => ?_))
  have pick : ∀ k : Int, 0 ≤ k → k < 3 → ∃ (T : Str) (d : An), atI ([T0] ++ [T1, T2]) k = some T ∧ atI ([An.l order, An.ts ⟨some1⟩, An.l breaks] : List An) k = some d ∧ due k T = d ∧ T.length ≤ 3800 ∧ Asc T ∧ (k = 1 → T.length ≤ 200) ∧ (k = 0 ∨ k = 1 ∨ k = 2) := fun k k0' k1' => by
    have : k = 0 ∨ k = 1 ∨ k = 2 := by omega
    rcases this with rfl | rfl | rfl
    · exact ⟨T0, _, rfl, rfl, q0, l0, a0, fun z => by omega, .inl rfl⟩
    · exact ⟨T1, _, rfl, rfl, q1, by omega, b1, fun _ => l1, .inr (.inl rfl)⟩
    · exact ⟨T2, _, rfl, rfl, q2, l2, b2, fun z => by omega, .inr (.inr rfl)⟩
  refine ok_bnd (P := fun o => o = .nx ()) (foldF_ok (fun k hk => ?_) rfl) fun o ho2 => ?_
  · obtain ⟨k0', k1'⟩ := mem_rng.mp hk
    obtain ⟨T, d, e1, e2, e3, e4, e5, e6, e7⟩ := pick k k0' k1'
    refine ok_bnd (ok_eq e1 rfl) ?_
    rintro _ rfl
    refine ok_bnd (told_is e7 (by omega) e3) fun r hr => ok_bnd (ok_eq e2 rfl) ?_
    rintro _ rfl
    refine ok_bnd (ok_eq hr rfl) ?_
    rintro _ rfl
    exact ok_some rfl
  · subst ho2
    rw [go_nx]
    refine ok_bnd (cell_ok ns (by decide)) fun c1 _ => ok_bnd (P := fun o => o = .nx ()) (foldF_ok (fun k hk => ?_) rfl) (fun o ho2 => by subst ho2; exact ok_some rfl)
    obtain ⟨k0', k1'⟩ := mem_rng.mp hk
    refine ok_bnd (number_ok ns (by omega) (by omega)) fun x _ => ok_lt fun x' hx' => ?_
    subst x'
    obtain ⟨T, d, e1, _, _, e4, e5, e6, e7⟩ := pick (x % 3) (by omega) (by omega)
    refine ok_bnd (ok_eq e1 rfl) ?_
    rintro _ rfl
    refine ok_bnd (bent_ok (by omega) e5) fun bt hbt => ok_lt fun bt' h => ?_
    subst bt'
    have hc := wds_cnt bt
    have hl := hbt.1
    refine ok_bnd (ok_eq (told_eq e7 (by omega) (by omega) fun z => .inl (by have := e6 z; omega)) rfl) ?_
    rintro _ rfl
    refine ok_bnd (ok_eq (due_eq e7 (by omega) (by omega) hbt.2) rfl) ?_
    rintro _ rfl
    refine ok_bnd (ok_eq (is_ok (due_fine e7 (by omega))) rfl) ?_
    rintro _ rfl
    exact ok_some rfl

end K71

open PySem PySem.W PySem.Calls PyProof.Rows
set_option maxHeartbeats 0 in
theorem PySem.Challenge.cw_deskpairs_k71_orders_instruments_breaks_holds : PySem.Challenge.rw_deskpairs_k71_orders_instruments_breaks.Holds := by
  w_on; o_law
  refine HandSHeadRun.head_any (r := OpenLaw.row PySem.Challenge.rw_deskpairs_k71_orders_instruments_breaks) (q := view (OpenLaw.row PySem.Challenge.rw_deskpairs_k71_orders_instruments_breaks).prog [38]) (H := K71.hk) (ob := K71.ob) (M := 5560) (loose := K71.loose) (d := HandSHeadRun.topDef (OpenLaw.row PySem.Challenge.rw_deskpairs_k71_orders_instruments_breaks).prog 38) (kwd := []) K71.ob_eq
    (by kernel_rfl) (fun s => by kernel_rfl) K71.run (by kernel_rfl) (by kernel_rfl) (by kernel_rfl) (by rfl) (by first | assumption | decide +kernel) (by decide +kernel) ⟨rfl, rfl, rfl, rfl, rfl, by decide +kernel⟩ ?hw ?hc
  case hw => w_witness2
  case hc =>
    refine L2.walk_ofE (l := PySem.Challenge.rw_deskpairs_k71_orders_instruments_breaks) (n := 63) (k := 6) (x := "_law_script") (CX := L2.CX0) rfl (by decide) (by kernel_rfl) ⟨rfl, by decide, by decide⟩ ?F (fun _ _ _ _ z => z)
    intro w mg fa h Y G hmg0
    obtain ⟨K, KX, c, TB⟩ := Y
    have hmg : mg ("law" : PySem.Str) = some (.ref fa) := by
      have e : (HandSHeadRun.topDef (OpenLaw.row PySem.Challenge.rw_deskpairs_k71_orders_instruments_breaks).prog 38).name = ("law" : PySem.Str) := by kernel_rfl
      rw [← e]
      exact hmg0
    obtain ⟨fd, hb, hF⟩ := K71.facts (P := (PySem.Challenge.rw_deskpairs_k71_orders_instruments_breaks).prog) (w := w) KX G hmg c TB
    exact ⟨K, fd, Dy.spLaw K, KX, hb, fun H a ns hl _ hS => ⟨a, ns, rfl, hS, hl, fun _ => rfl⟩, fun base h1 h2 => Dy.law_of (hF base h1 h2) K71.law_true⟩

