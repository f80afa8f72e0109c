import PyProof.Rows.All
import Wide.All
import OpenK.AllK
import Wide.FinOn
import HandS.ForMost
import HandS.ForExc
import HandS.Walk
import HandS.Sort
import HandS.SortRule
import HandS.SortInts
import HandS.Flow
import HandS.IsInst
import HandS.Gcd
import HandS.ExcInit
import HandS.ExcIs
import HandS.ExcField
import HandS.TryOnly
import HandS.Defaults
import HandS.TupAny
import HandS.Conv
import HandS.Style
import HandS.HeadHook4
import HandS.HeadEnd
import HandS.Head2
import HandS.Evl
import PySem.Challenge.RW_stormdesk_k83_best_wishes_and_reasons
set_option Elab.async false
set_option linter.all false
set_option maxRecDepth 100000
set_option maxHeartbeats 4000000
namespace Sd
open PySem L2
/-! ### results -/
inductive Ec where
  | DeskError | TooMany | BadName | BadRatio | BadSpan | BadLine | BadWorld | BadArea | BadGauge | BadRun | BadTable | BadSignals | Unlike
  | BadPerson | BadCall | BadTree | BadRule | BadDeed | NoBulletin | BadPair | Unplayable
  deriving DecidableEq, Repr
inductive Res (α : Type) where
  | ok (a : α)
  | exc (c : Ec) (i : Int)
  | bad
namespace Res
variable {α β γ : Type}
def bind (m : Res α) (k : α → Res β) : Res β := match m with
  | .ok a => k a
  | .exc c i => .exc c i
  | .bad => .bad
@[simp] theorem bind_ok (a : α) (k : α → Res β) : (Res.ok a).bind k = k a := rfl
@[simp] theorem bind_exc (c : Ec) (i : Int) (k : α → Res β) : (Res.exc c i).bind k = .exc c i := rfl
@[simp] theorem bind_bad (k : α → Res β) : (Res.bad).bind k = .bad := rfl
@[simp] theorem bind_assoc (m : Res α) (k : α → Res β) (l : β → Res γ) : (m.bind k).bind l = m.bind fun a => (k a).bind l := by cases m <;> rfl
@[simp] theorem bind_id (m : Res α) : m.bind .ok = m := by cases m <;> rfl
end Res
/-- what is wanted of a result -/
def Post {α : Type} (m : Res α) (Q : α → Prop) (X : Ec → Int → Prop) : Prop := match m with
  | .ok a => Q a
  | .exc c i => X c i
  | .bad => False
section
variable {α β : Type} {m : Res α} {k : α → Res β} {Q Q' : α → Prop} {R : β → Prop} {X X' : Ec → Int → Prop}
theorem Post.bind (h : Post (m.bind k) R X) : Post m (fun a => Post (k a) R X) X := by
  cases m with
  | ok a => exact h
  | exc c i => exact h
  | bad => exact h
theorem Post.of_bind (h : Post m (fun a => Post (k a) R X) X) : Post (m.bind k) R X := by
  cases m with
  | ok a => exact h
  | exc c i => exact h
  | bad => exact h
theorem Post.mono (h : Post m Q X) (q : ∀ a, Q a → Q' a) (x : ∀ c i, X c i → X' c i) : Post m Q' X' := by
  cases m with
  | ok a => exact q a h
  | exc c i => exact x c i h
  | bad => exact h
theorem Post.and (h : Post m Q X) (h' : Post m Q' X) : Post m (fun a => Q a ∧ Q' a) X := by
  cases m with
  | ok a => exact ⟨h, h'⟩
  | exc c i => exact h
  | bad => exact h
end
/-! ### the heap: what is known for good (I), what may change (C) -/
abbrev Ex (H H' : Hp) : Prop := ∀ a o, H a = some o → H' a = some o
theorem Ex.refl (H : Hp) : Ex H H := fun _ _ h => h
theorem Ex.trans {H H1 H2 : Hp} (a : Ex H H1) (b : Ex H1 H2) : Ex H H2 := fun x o h => b x o (a x o h)
theorem Ex.new {H : Hp} {p : Addr} {o : HO} (h : H p = none) : Ex H (upd H p o) := fun a u e => by
  rw [upd_ne (ne_of_none e h)]
  exact e
structure St (I C H : Hp) : Prop where
  i : Ex I H
  c : Ex C H
  s : ∀ a, I a = none ∨ C a = none
theorem Ex.free {H H' : Hp} {p : Addr} (e : Ex H H') (h : H' p = none) : H p = none := by
  cases q : H p with
  | none => rfl
  | some o =>
    rw [e p o q] at h
    cases h
section
variable {I I' C C' H H' : Hp} {p : Addr} {o u : HO}
/-- a new object, known for good -/
theorem St.newI (s : St I C H) (h : H p = none) : St (upd I p o) C (upd H p o) := by
  refine ⟨fun a v e => ?_, fun a v e => ?_, fun a => ?_⟩
  · by_cases q : a = p
    · subst q
      rw [upd_same] at e ⊢
      exact e
    · rw [upd_ne q] at e ⊢
      exact s.i a v e
  · rw [upd_ne (ne_of_none (s.c a v e) h)]
    exact s.c a v e
  · by_cases q : a = p
    · subst q
      exact .inr (s.c.free h)
    · rw [upd_ne q]
      exact s.s a
/-- a new object that may change -/
theorem St.newC (s : St I C H) (h : H p = none) : St I (upd C p o) (upd H p o) := by
  refine ⟨fun a v e => ?_, fun a v e => ?_, fun a => ?_⟩
  · rw [upd_ne (ne_of_none (s.i a v e) h)]
    exact s.i a v e
  · by_cases q : a = p
    · subst q
      rw [upd_same] at e ⊢
      exact e
    · rw [upd_ne q] at e ⊢
      exact s.c a v e
  · by_cases q : a = p
    · subst q
      exact .inl (s.i.free h)
    · rw [upd_ne q]
      exact s.s a
/-- a cell changes -/
theorem St.set (s : St I C H) (h : C p = some u) : St I (upd C p o) (upd H p o) := by
  have hi : I p = none := (s.s p).elim id fun z => by
    rw [z] at h
    cases h
  refine ⟨fun a v e => ?_, fun a v e => ?_, fun a => ?_⟩
  · rw [upd_ne (ne_of_none e hi)]
    exact s.i a v e
  · by_cases q : a = p
    · subst q
      rw [upd_same] at e ⊢
      exact e
    · rw [upd_ne q] at e ⊢
      exact s.c a v e
  · by_cases q : a = p
    · subst q
      exact .inl hi
    · rw [upd_ne q]
      exact s.s a
/-- a cell is known for good from now on -/
theorem St.frz (s : St I C H) (h : C p = some o) : St (upd I p o) (fun a => if a = p then none else C a) H := by
  refine ⟨fun a v e => ?_, fun a v e => ?_, fun a => ?_⟩
  · by_cases q : a = p
    · subst q
      rw [upd_same] at e
      cases e
      exact s.c a o h
    · rw [upd_ne q] at e
      exact s.i a v e
  · by_cases q : a = p
    · rw [if_pos q] at e
      cases e
    · rw [if_neg q] at e
      exact s.c a v e
  · by_cases q : a = p
    · exact .inr (if_pos q)
    · rw [upd_ne q, if_neg q]
      exact s.s a
theorem St.less (s : St I C H) (e : Ex C' C) : St I C' H := ⟨s.i, e.trans s.c, fun a => (s.s a).imp id fun z => e.free z⟩
theorem St.freeI (s : St I C H) (h : C p = some u) : I p = none := (s.s p).elim id fun z => by
  rw [z] at h
  cases h
end
/-! ### representation -/
structure Rp (α : Type) where
  r : α → V → Hp → Hp → Prop
  mono : ∀ {a : α} {v : V} {I I' C C' : Hp}, Ex I I' → Ex C C' → r a v I C → r a v I' C'
/-- .. by what is known for good alone -/
class Im {α : Type} (R : Rp α) : Prop where
  im : ∀ {a : α} {v : V} {I C C' : Hp}, R.r a v I C → R.r a v I C'
theorem Rp.to {α : Type} (R : Rp α) [Im R] {a : α} {v : V} {I I' C C' : Hp} (e : Ex I I') (h : R.r a v I C) : R.r a v I' C' := Im.im (R.mono e (Ex.refl C) h)
/-- item by item -/
inductive A2 {α : Type} (f : α → V → Prop) : List α → List V → Prop where
  | nil : A2 f [] []
  | cons {x : α} {v : V} {xs : List α} {vs : List V} : f x v → A2 f xs vs → A2 f (x :: xs) (v :: vs)
section
variable {α β : Type} {f g : α → V → Prop} {xs ys : List α} {vs ws : List V}
theorem A2.imp (h : ∀ x v, f x v → g x v) : ∀ {xs : List α} {vs : List V}, A2 f xs vs → A2 g xs vs
  | _, _, .nil => .nil
  | _, _, .cons r t => .cons (h _ _ r) (A2.imp h t)
theorem A2.len : ∀ {xs : List α} {vs : List V}, A2 f xs vs → vs.length = xs.length
  | _, _, .nil => rfl
  | _, _, .cons _ t => by rw [List.length_cons, List.length_cons, A2.len t]
theorem A2.get : ∀ {xs : List α} {vs : List V} {i : Nat} {v : V}, A2 f xs vs → vs[i]? = some v → ∃ x, xs[i]? = some x ∧ f x v
  | _, _, _, _, .nil, e => by cases e
  | _, _, 0, _, .cons r _, e => ⟨_, rfl, by
    have e2 := Option.some.inj e
    rw [← e2]
    exact r⟩
  | _, _, i + 1, _, .cons _ t, e => A2.get (i := i) t e
theorem A2.get' : ∀ {xs : List α} {vs : List V} {i : Nat} {x : α}, A2 f xs vs → xs[i]? = some x → ∃ v, vs[i]? = some v ∧ f x v
  | _, _, _, _, .nil, e => by cases e
  | _, _, 0, _, .cons r _, e => ⟨_, rfl, by
    have e2 := Option.some.inj e
    rw [← e2]
    exact r⟩
  | _, _, i + 1, _, .cons _ t, e => A2.get' (i := i) t e
theorem A2.append : ∀ {xs : List α} {vs : List V} {ys : List α} {ws : List V}, A2 f xs vs → A2 f ys ws → A2 f (xs ++ ys) (vs ++ ws)
  | _, _, _, _, .nil, s => s
  | _, _, _, _, .cons r t, s => .cons r (A2.append t s)
theorem A2.take : ∀ {xs : List α} {vs : List V} (n : Nat), A2 f xs vs → A2 f (xs.take n) (vs.take n)
  | _, _, 0, _ => .nil
  | _, _, _ + 1, .nil => .nil
  | _, _, n + 1, .cons r t => .cons r (A2.take n t)
theorem A2.drop : ∀ {xs : List α} {vs : List V} (n : Nat), A2 f xs vs → A2 f (xs.drop n) (vs.drop n)
  | _, _, 0, r => r
  | _, _, _ + 1, .nil => .nil
  | _, _, n + 1, .cons _ t => A2.drop n t
theorem A2.set {x : α} {v : V} (r : f x v) : ∀ {xs : List α} {vs : List V} (i : Nat), A2 f xs vs → A2 f (xs.set i x) (vs.set i v)
  | _, _, _, .nil => .nil
  | _, _, 0, .cons _ t => .cons r t
  | _, _, i + 1, .cons q t => .cons q (A2.set r i t)
theorem A2.dropLast : ∀ {xs : List α} {vs : List V}, A2 f xs vs → A2 f xs.dropLast vs.dropLast
  | _, _, .nil => .nil
  | _, _, .cons _ .nil => .nil
  | _, _, .cons r (.cons q t) => .cons r (A2.dropLast (.cons q t))
theorem A2.one {x : α} {v : V} (h : f x v) : A2 f [x] [v] := .cons h .nil
/-- scalars: the values are a map -/
theorem A2.map_iff {h : α → V} (hf : ∀ x v, f x v → v = h x) : ∀ {xs : List α} {vs : List V}, A2 f xs vs → vs = xs.map h
  | _, _, .nil => rfl
  | _, _, .cons r t => by rw [List.map_cons, hf _ _ r, A2.map_iff hf t]
theorem A2.of_map {h : α → V} (hf : ∀ x, f x (h x)) : ∀ xs : List α, A2 f xs (xs.map h)
  | [] => .nil
  | x :: r => .cons (hf x) (A2.of_map hf r)
end
def pI : Rp Int := ⟨fun i v _ _ => v = .int i, fun _ _ h => h⟩
def pB : Rp Bool := ⟨fun b v _ _ => v = .bl b, fun _ _ h => h⟩
def pS : Rp Str := ⟨fun x v _ _ => v = .str x ∧ PyData.strOk x = true, fun _ _ h => h⟩
def pN : Rp Unit := ⟨fun _ v _ _ => v = .non, fun _ _ h => h⟩
instance : Im pI := ⟨fun h => h⟩
instance : Im pB := ⟨fun h => h⟩
instance : Im pS := ⟨fun h => h⟩
instance : Im pN := ⟨fun h => h⟩
def oR {α : Type} (R : Rp α) (I C : Hp) : Option α → V → Prop
  | none, v => v = .non
  | some a, v => R.r a v I C ∧ v ≠ .non
def pO {α : Type} (R : Rp α) : Rp (Option α) := ⟨fun o v I C => oR R I C o v, fun {a v I I' C C'} e e' h => by
  cases a with
  | none => exact h
  | some a => exact ⟨R.mono e e' h.1, h.2⟩⟩
instance {α : Type} {R : Rp α} [Im R] : Im (pO R) := ⟨fun {a v I C C'} h => by
  cases a with
  | none => exact h
  | some a => exact ⟨Im.im h.1, h.2⟩⟩
theorem ex_l {K : PySem.W.Frag} {H H' : Hp} {a : Addr} {xs : List V} (e : Ex H H') (h : SqL K H a xs) : SqL K H' a xs := by
  rcases h with (h | ⟨o, h⟩) | h
  · exact .inl (.inl (e a _ h))
  · exact .inl (.inr ⟨o, e a _ h⟩)
  · exact .inr h
theorem ex_t {K : PySem.W.Frag} {H H' : Hp} {a : Addr} {xs : List V} (e : Ex H H') (h : SqT K H a xs) : SqT K H' a xs := by
  rcases h with (h | ⟨o, h⟩) | h
  · exact .inl (.inl (e a _ h))
  · exact .inl (.inr ⟨o, e a _ h⟩)
  · exact .inr h
/-- the places of a row of values -/
structure Rt (α : Type) where
  r : α → List V → Hp → Hp → Prop
  mono : ∀ {a : α} {vs : List V} {I I' C C' : Hp}, Ex I I' → Ex C C' → r a vs I C → r a vs I' C'
  n : Nat
  len : ∀ {a : α} {vs : List V} {I C : Hp}, r a vs I C → vs.length = n
class It {α : Type} (T : Rt α) : Prop where
  im : ∀ {a : α} {vs : List V} {I C C' : Hp}, T.r a vs I C → T.r a vs I C'
def t1 {α : Type} (R : Rp α) : Rt α := ⟨fun a vs I C => ∃ v, vs = [v] ∧ R.r a v I C, fun e e' ⟨v, h1, h2⟩ => ⟨v, h1, R.mono e e' h2⟩, 1, fun ⟨_, h, _⟩ => by rw [h]; rfl⟩
def tc {α β : Type} (R : Rp α) (T : Rt β) : Rt (α × β) := ⟨fun p vs I C => ∃ v us, vs = v :: us ∧ R.r p.1 v I C ∧ T.r p.2 us I C, fun e e' ⟨v, us, h1, h2, h3⟩ => ⟨v, us, h1, R.mono e e' h2, T.mono e e' h3⟩, T.n + 1,
  fun ⟨_, _, h, _, h3⟩ => by rw [h, List.length_cons, T.len h3]⟩
instance {α : Type} {R : Rp α} [Im R] : It (t1 R) := ⟨fun ⟨v, h1, h2⟩ => ⟨v, h1, Im.im h2⟩⟩
instance {α β : Type} {R : Rp α} {T : Rt β} [Im R] [It T] : It (tc R T) := ⟨fun ⟨v, us, h1, h2, h3⟩ => ⟨v, us, h1, Im.im h2, It.im h3⟩⟩
section
variable (K : PySem.W.Frag) {α : Type}
/-- a list -/
def pL (R : Rp α) : Rp (List α) := ⟨fun xs v I C => ∃ a vs, v = .ref a ∧ I a = some (.lst vs) ∧ vs.length ≤ sizeLine ∧ A2 (fun x u => R.r x u I C) xs vs,
  fun e e' ⟨a, vs, h1, h2, h3, h4⟩ => ⟨a, vs, h1, e a _ h2, h3, h4.imp fun _ _ => R.mono e e'⟩⟩
/-- a tuple of any length -/
def pQ (R : Rp α) : Rp (List α) := ⟨fun xs v I C => ∃ a vs, v = .ref a ∧ SqT K I a vs ∧ vs.length ≤ sizeLine ∧ A2 (fun x u => R.r x u I C) xs vs,
  fun e e' ⟨a, vs, h1, h2, h3, h4⟩ => ⟨a, vs, h1, ex_t e h2, h3, h4.imp fun _ _ => R.mono e e'⟩⟩
/-- a list that is read: known for good, or a cell -/
def pV (R : Rp α) : Rp (List α) := ⟨fun xs v I C => ∃ a vs, v = .ref a ∧ (I a = some (.lst vs) ∨ C a = some (.lst vs)) ∧ vs.length ≤ sizeLine ∧ A2 (fun x u => R.r x u I C) xs vs,
  fun e e' ⟨a, vs, h1, h2, h3, h4⟩ => ⟨a, vs, h1, h2.imp (e a _) (e' a _), h3, h4.imp fun _ _ => R.mono e e'⟩⟩
/-- the script -/
def pW (R : Rp α) : Rp (List α) := ⟨fun xs v I C => ∃ a vs, v = .ref a ∧ SqL K I a vs ∧ vs.length ≤ sizeLine ∧ A2 (fun x u => R.r x u I C) xs vs,
  fun e e' ⟨a, vs, h1, h2, h3, h4⟩ => ⟨a, vs, h1, ex_l e h2, h3, h4.imp fun _ _ => R.mono e e'⟩⟩
/-- a tuple, a list, with fixed places -/
def pT (T : Rt α) : Rp α := ⟨fun x v I C => ∃ a vs, v = .ref a ∧ I a = some (.tup vs) ∧ T.r x vs I C, fun e e' ⟨a, vs, h1, h2, h3⟩ => ⟨a, vs, h1, e a _ h2, T.mono e e' h3⟩⟩
/-- a tuple that may stand in the written part -/
def pU (T : Rt α) : Rp α := ⟨fun x v I C => ∃ a vs, v = .ref a ∧ SqT K I a vs ∧ T.r x vs I C, fun e e' ⟨a, vs, h1, h2, h3⟩ => ⟨a, vs, h1, ex_t e h2, T.mono e e' h3⟩⟩
def pD (T : Rt α) : Rp α := ⟨fun x v I C => ∃ a vs, v = .ref a ∧ I a = some (.lst vs) ∧ T.r x vs I C, fun e e' ⟨a, vs, h1, h2, h3⟩ => ⟨a, vs, h1, e a _ h2, T.mono e e' h3⟩⟩
instance {T : Rt α} [It T] : Im (pU K T) := ⟨fun ⟨a, vs, h1, h2, h3⟩ => ⟨a, vs, h1, h2, It.im h3⟩⟩
instance {R : Rp α} [Im R] : Im (pW K R) := ⟨fun ⟨a, vs, h1, h2, h3, h4⟩ => ⟨a, vs, h1, h2, h3, h4.imp fun _ _ => Im.im⟩⟩
instance {R : Rp α} [Im R] : Im (pL R) := ⟨fun ⟨a, vs, h1, h2, h3, h4⟩ => ⟨a, vs, h1, h2, h3, h4.imp fun _ _ => Im.im⟩⟩
instance {R : Rp α} [Im R] : Im (pQ K R) := ⟨fun ⟨a, vs, h1, h2, h3, h4⟩ => ⟨a, vs, h1, h2, h3, h4.imp fun _ _ => Im.im⟩⟩
instance {T : Rt α} [It T] : Im (pT T) := ⟨fun ⟨a, vs, h1, h2, h3⟩ => ⟨a, vs, h1, h2, It.im h3⟩⟩
instance {T : Rt α} [It T] : Im (pD T) := ⟨fun ⟨a, vs, h1, h2, h3⟩ => ⟨a, vs, h1, h2, It.im h3⟩⟩
end
/-- the k-th place of such a row, its reading f -/
def Pj {α β : Type} (T : Rt α) (k : Nat) (f : α → β) (R : Rp β) : Prop := ∀ x vs I C, T.r x vs I C → ∃ w, vs[k]? = some w ∧ R.r (f x) w I C
theorem pj1 {α : Type} {R : Rp α} : Pj (t1 R) 0 (fun x => x) R := fun x vs I C ⟨v, h1, h2⟩ => ⟨v, by rw [h1]; rfl, h2⟩
theorem pj0 {α β : Type} {R : Rp α} {T : Rt β} : Pj (tc R T) 0 (fun x => x.1) R := fun x vs I C ⟨v, us, h1, h2, _⟩ => ⟨v, by rw [h1]; rfl, h2⟩
theorem pjs {α β γ : Type} {R : Rp α} {T : Rt β} {S : Rp γ} {k : Nat} {f : β → γ} (h : Pj T k f S) : Pj (tc R T) (k + 1) (fun x => f x.2) S := fun x vs I C ⟨v, us, h1, _, h3⟩ => by
  obtain ⟨w, e, r⟩ := h x.2 us I C h3
  exact ⟨w, by rw [h1]; exact e, r⟩
/-- the k-th place stored -/
def Pk {α β : Type} (T : Rt α) (k : Nat) (g : α → β → α) (R : Rp β) : Prop := ∀ x vs I C b w, T.r x vs I C → R.r b w I C → T.r (g x b) (vs.set k w) I C ∧ k < vs.length
theorem pk1 {α : Type} {R : Rp α} : Pk (t1 R) 0 (fun _ b => b) R := fun x vs I C b w ⟨v, h1, h2⟩ r => by
  subst h1
  exact ⟨⟨w, rfl, r⟩, Nat.zero_lt_one⟩
theorem pk0 {α β : Type} {R : Rp α} {T : Rt β} : Pk (tc R T) 0 (fun x b => (b, x.2)) R := fun x vs I C b w ⟨v, us, h1, h2, h3⟩ r => by
  subst h1
  exact ⟨⟨w, us, rfl, r, h3⟩, Nat.succ_pos _⟩
theorem pks {α β γ : Type} {R : Rp α} {T : Rt β} {S : Rp γ} {k : Nat} {g : β → γ → β} (h : Pk T k g S) : Pk (tc R T) (k + 1) (fun x b => (x.1, g x.2 b)) S := fun x vs I C b w ⟨v, us, h1, h2, h3⟩ r => by
  subst h1
  obtain ⟨q, l⟩ := h x.2 us I C b w h3 r
  exact ⟨⟨v, us.set k w, rfl, h2, q⟩, Nat.succ_lt_succ l⟩

/-! ### what an expression gives -/
def Ec.name : Ec → Str
  | .DeskError => "DeskError" | .TooMany => "TooMany" | .BadName => "BadName" | .BadRatio => "BadRatio" | .BadSpan => "BadSpan" | .BadLine => "BadLine"
  | .BadWorld => "BadWorld" | .BadArea => "BadArea" | .BadGauge => "BadGauge" | .BadRun => "BadRun" | .BadTable => "BadTable" | .BadSignals => "BadSignals"
  | .Unlike => "Unlike" | .BadPerson => "BadPerson" | .BadCall => "BadCall" | .BadTree => "BadTree" | .BadRule => "BadRule" | .BadDeed => "BadDeed"
  | .NoBulletin => "NoBulletin" | .BadPair => "BadPair" | .Unplayable => "Unplayable"
/-- what is wanted of an error that leaves: E, where all stands as it was -/
def PX (E : XK) (K : PySem.W.Frag) (I C : Hp) (c : Ec) (i : Int) : Prop := ∀ d I2 H2, Ex I I2 → St I2 C H2 → I2 d = some (.xd [(("at" : Str), .int i)]) → E (.ref (He.ga K c.name)) (some d) H2
theorem PX.mono {E : XK} {K : PySem.W.Frag} {I I' C C' : Hp} {c : Ec} {i : Int} (e : Ex I I') (e' : Ex C C') (h : PX E K I C c i) : PX E K I' C' c i := fun d I2 H2 a s q => h d I2 H2 (e.trans a) (s.less e') q
abbrev PQ {α : Type} (R : Rp α) (I C : Hp) (Q : VK) (a : α) : Prop := ∀ v I2 H2, Ex I I2 → St I2 C H2 → R.r a v I2 C → Q v H2
def EvX (E : XK) (K : PySem.W.Frag) (te : TE) (σ : L2.St) (I C : Hp) {α : Type} (m : Res α) (R : Rp α) : Prop :=
  ∀ I1 C1 H1, Ex I I1 → Ex C C1 → St I1 C1 H1 → ∀ Q : VK, Post m (PQ R I1 C1 Q) (PX E K I1 C1) → te σ H1 Q
def EvT (E : XK) (K : PySem.W.Frag) (tt : TT) (σ : L2.St) (I C : Hp) (m : Res Bool) : Prop :=
  ∀ I1 C1 H1, Ex I I1 → Ex C C1 → St I1 C1 H1 → ∀ Q : Bool → Hp → Prop, Post m (fun b => ∀ I2 H2, Ex I1 I2 → St I2 C1 H2 → Q b H2) (PX E K I1 C1) → tt σ H1 Q
def EvA (E : XK) (K : PySem.W.Frag) (ta : TA) (σ : L2.St) (I C : Hp) {α : Type} (m : Res α) (T : Rt α) : Prop :=
  ∀ I1 C1 H1, Ex I I1 → Ex C C1 → St I1 C1 H1 → ∀ Q : List V → Hp → Prop, Post m (fun a => ∀ vs I2 H2, Ex I1 I2 → St I2 C1 H2 → T.r a vs I2 C1 → Q vs H2) (PX E K I1 C1) → ta σ H1 Q
/-- a rule on values -/
def Op1 (E : XK) (K : PySem.W.Frag) (r : V → Hp → VK → Prop) {α γ : Type} (f : α → Res γ) (R : Rp α) (T : Rp γ) : Prop :=
  ∀ I C H a x, St I C H → R.r a x I C → ∀ Q : VK, Post (f a) (PQ T I C Q) (PX E K I C) → r x H Q
def Op2 (E : XK) (K : PySem.W.Frag) (r : R2) {α β γ : Type} (f : α → β → Res γ) (R : Rp α) (S : Rp β) (T : Rp γ) : Prop :=
  ∀ I C H a b x y, St I C H → R.r a x I C → S.r b y I C → ∀ Q : VK, Post (f a b) (PQ T I C Q) (PX E K I C) → r x y H Q
def OpL (E : XK) (K : PySem.W.Frag) (r : List V → Hp → VK → Prop) {α γ : Type} (f : α → Res γ) (R : Rt α) (T : Rp γ) : Prop :=
  ∀ I C H a vs, St I C H → R.r a vs I C → ∀ Q : VK, Post (f a) (PQ T I C Q) (PX E K I C) → r vs H Q
def un {α γ : Type} (f : α → Res γ) (m : Res α) : Res γ := m.bind f
def bin {α β γ : Type} (f : α → β → Res γ) (m : Res α) (n : Res β) : Res γ := m.bind fun a => n.bind fun b => f a b
def pair {α β : Type} (m : Res α) (n : Res β) : Res (α × β) := m.bind fun a => n.bind fun b => .ok (a, b)
@[simp] theorem un_ok {α γ : Type} (f : α → Res γ) (a : α) : un f (.ok a) = f a := rfl
@[simp] theorem bin_ok {α β γ : Type} (f : α → β → Res γ) (a : α) (b : β) : bin f (.ok a) (.ok b) = f a b := rfl
@[simp] theorem pair_ok {α β : Type} (a : α) (b : β) : pair (.ok a) (.ok b) = .ok (a, b) := rfl
section
variable {E : XK} {K : PySem.W.Frag} {σ : L2.St} {I I' C C' : Hp} {α β γ : Type} {m : Res α} {n : Res β} {R : Rp α} {S : Rp β} {T : Rp γ} {ta tb te : TE} {tt tu : TT}
theorem EvX.mono (e : Ex I I') (e' : Ex C C') (h : EvX E K te σ I C m R) : EvX E K te σ I' C' m R := fun I1 C1 H1 a b s Q q => h I1 C1 H1 (e.trans a) (e'.trans b) s Q q
theorem PQ.ret {I1 C1 H1 : Hp} {Q : VK} {a : α} {v : V} (q : PQ R I1 C1 Q a) (s : St I1 C1 H1) (r : R.r a v I1 C1) : Q v H1 := q v I1 H1 (Ex.refl _) s r
theorem x_var {i : Nat} {v : V} {a : α} (h : σ[i]? = some (some v)) (r : R.r a v I C) : EvX E K (tVar i) σ I C (.ok a) R := fun I1 C1 H1 e e' s Q q => ⟨v, h, PQ.ret (R := R) (a := a) q s (R.mono e e' r)⟩
theorem x_c {v : V} {a : α} (r : ∀ I C, R.r a v I C) : EvX E K (tC v) σ I C (.ok a) R := fun I1 C1 H1 e e' s Q q => PQ.ret (R := R) (a := a) q s (r _ _)
theorem x_int {i : Int} : EvX E K (tC (.int i)) σ I C (.ok i) pI := x_c fun _ _ => rfl
theorem x_bl {b : Bool} : EvX E K (tC (.bl b)) σ I C (.ok b) pB := x_c fun _ _ => rfl
theorem x_str {x : Str} (h : PyData.strOk x = true) : EvX E K (tC (.str x)) σ I C (.ok x) pS := x_c fun _ _ => ⟨rfl, h⟩
theorem x_non : EvX E K (tC .non) σ I C (.ok ()) pN := x_c fun _ _ => rfl
theorem x_un {r : V → Hp → VK → Prop} {f : α → Res γ} (hr : Op1 E K r f R T) (h : EvX E K ta σ I C m R) : EvX E K (tUn r ta) σ I C (un f m) T := fun I1 C1 H1 e e' s Q q =>
  h I1 C1 H1 e e' s _ ((Post.bind q).mono (fun a p v I2 H2 e2 s2 rv => hr I2 C1 H2 a v s2 rv Q (p.mono (fun c z w I3 H3 e3 s3 rw => z w I3 H3 (e2.trans e3) s3 rw) fun c i z => z.mono e2 (Ex.refl _))) fun _ _ z => z)
theorem x_op {r : R2} {f : α → β → Res γ} (hr : Op2 E K r f R S T) (h1 : EvX E K ta σ I C m R) (h2 : EvX E K tb σ I C n S) : EvX E K (tOp r ta tb) σ I C (bin f m n) T := fun I1 C1 H1 e e' s Q q =>
  h1 I1 C1 H1 e e' s _ ((Post.bind q).mono (fun a p x I2 H2 e2 s2 rx =>
    h2 I2 C1 H2 (e.trans e2) e' s2 _ ((Post.bind p).mono (fun b p2 y I3 H3 e3 s3 ry =>
      hr I3 C1 H3 a b x y s3 (R.mono e3 (Ex.refl _) rx) ry Q (p2.mono (fun c z w I4 H4 e4 s4 rw => z w I4 H4 (e2.trans (e3.trans e4)) s4 rw) fun c i z => z.mono (e2.trans e3) (Ex.refl _))) fun c i z => z.mono e2 (Ex.refl _)))
    fun _ _ z => z)
theorem a_nil : EvA E K tNil σ I C (.ok ()) (⟨fun _ vs _ _ => vs = [], fun _ _ h => h, 0, fun h => by rw [h]; rfl⟩ : Rt Unit) := fun I1 C1 H1 e e' s Q q => q [] I1 H1 (Ex.refl _) s rfl
theorem a_one (h : EvX E K ta σ I C m R) : EvA E K (tCons ta tNil) σ I C m (t1 R) := fun I1 C1 H1 e e' s Q q =>
  h I1 C1 H1 e e' s _ (q.mono (fun a p v I2 H2 e2 s2 rv => p [v] I2 H2 e2 s2 ⟨v, rfl, rv⟩) fun _ _ z => z)
theorem a_cons {tr : TA} {T : Rt β} (h1 : EvX E K ta σ I C m R) (h2 : EvA E K tr σ I C n T) : EvA E K (tCons ta tr) σ I C (pair m n) (tc R T) := fun I1 C1 H1 e e' s Q q =>
  h1 I1 C1 H1 e e' s _ ((Post.bind q).mono (fun a p x I2 H2 e2 s2 rx =>
    h2 I2 C1 H2 (e.trans e2) e' s2 _ ((Post.bind p).mono (fun b p2 ys I3 H3 e3 s3 ry => p2 (x :: ys) I3 H3 (e2.trans e3) s3 ⟨x, ys, rfl, R.mono e3 (Ex.refl _) rx, ry⟩) fun c i z => z.mono e2 (Ex.refl _)))
    fun _ _ z => z)
theorem x_cb {r : List V → Hp → VK → Prop} {f : α → Res γ} {A : Rt α} {tr : TA} (hr : OpL E K r f A T) (h : EvA E K tr σ I C m A) : EvX E K (tCB r tr) σ I C (un f m) T := fun I1 C1 H1 e e' s Q q =>
  h I1 C1 H1 e e' s _ ((Post.bind q).mono (fun a p vs I2 H2 e2 s2 rv => hr I2 C1 H2 a vs s2 rv Q (p.mono (fun c z w I3 H3 e3 s3 rw => z w I3 H3 (e2.trans e3) s3 rw) fun c i z => z.mono e2 (Ex.refl _))) fun _ _ z => z)
/-- tuples, lists with fixed places -/
theorem x_tup {A : Rt α} {tr : TA} (h : EvA E K tr σ I C m A) (hn : A.n ≤ 100) : EvX E K (tTup tr) σ I C m (pT A) := fun I1 C1 H1 e e' s Q q =>
  h I1 C1 H1 e e' s _ (q.mono (fun a p vs I2 H2 e2 s2 rv => ⟨by rw [A.len rv]; exact Nat.le_trans hn (by decide), fun t ht => p _ (upd I2 t (.tup vs)) _ (e2.trans (Ex.new (s2.i.free ht))) (s2.newI ht) ⟨t, vs, rfl, upd_same, A.mono (Ex.new (s2.i.free ht)) (Ex.refl _) rv⟩⟩) fun _ _ z => z)
theorem x_lstD {A : Rt α} {tr : TA} (h : EvA E K tr σ I C m A) (hn : A.n ≤ 100) : EvX E K (tLst tr) σ I C m (pD A) := fun I1 C1 H1 e e' s Q q =>
  h I1 C1 H1 e e' s _ (q.mono (fun a p vs I2 H2 e2 s2 rv => ⟨by rw [A.len rv]; exact Nat.le_trans hn (by decide), fun t ht => p _ (upd I2 t (.lst vs)) _ (e2.trans (Ex.new (s2.i.free ht))) (s2.newI ht) ⟨t, vs, rfl, upd_same, A.mono (Ex.new (s2.i.free ht)) (Ex.refl _) rv⟩⟩) fun _ _ z => z)
/-- a row of things of one kind -/
def tL (R : Rp α) (n : Nat) : Rt (List α) := ⟨fun xs vs I C => vs.length = n ∧ A2 (fun x u => R.r x u I C) xs vs, fun e e' ⟨h1, h2⟩ => ⟨h1, h2.imp fun _ _ => R.mono e e'⟩, n, fun h => h.1⟩
def consR (m : Res α) (n : Res (List α)) : Res (List α) := m.bind fun a => n.bind fun b => .ok (a :: b)
theorem al_nil : EvA E K tNil σ I C (.ok []) (tL R 0) := fun I1 C1 H1 e e' s Q q => q [] I1 H1 (Ex.refl _) s ⟨rfl, .nil⟩
theorem al_cons {tr : TA} {k : Nat} {n : Res (List α)} (h1 : EvX E K ta σ I C m R) (h2 : EvA E K tr σ I C n (tL R k)) : EvA E K (tCons ta tr) σ I C (consR m n) (tL R (k + 1)) := fun I1 C1 H1 e e' s Q q =>
  h1 I1 C1 H1 e e' s _ ((Post.bind q).mono (fun a p x I2 H2 e2 s2 rx =>
    h2 I2 C1 H2 (e.trans e2) e' s2 _ ((Post.bind p).mono (fun b p2 ys I3 H3 e3 s3 ry => p2 (x :: ys) I3 H3 (e2.trans e3) s3 ⟨by rw [List.length_cons, ry.1], .cons (R.mono e3 (Ex.refl _) rx) ry.2⟩) fun c i z => z.mono e2 (Ex.refl _)))
    fun _ _ z => z)
theorem x_lst {k : Nat} {m : Res (List α)} {tr : TA} (h : EvA E K tr σ I C m (tL R k)) (hn : k ≤ 100) : EvX E K (tLst tr) σ I C m (pL R) := fun I1 C1 H1 e e' s Q q =>
  h I1 C1 H1 e e' s _ (q.mono (fun a p vs I2 H2 e2 s2 rv => by
    have hl : vs.length ≤ sizeLine := by
      rw [rv.1]
      exact Nat.le_trans hn (by decide)
    exact ⟨hl, fun t ht => p _ (upd I2 t (.lst vs)) _ (e2.trans (Ex.new (s2.i.free ht))) (s2.newI ht) ⟨t, vs, rfl, upd_same, hl, rv.2.imp fun _ _ => R.mono (Ex.new (s2.i.free ht)) (Ex.refl _)⟩⟩) fun _ _ z => z)
/-- a list as one that is read -/
theorem x_v {m : Res (List α)} (h : EvX E K te σ I C m (pL R)) : EvX E K te σ I C m (pV R) := fun I1 C1 H1 e e' s Q q =>
  h I1 C1 H1 e e' s Q (q.mono (fun a p v I2 H2 e2 s2 ⟨a, vs, h1, h2, h3, h4⟩ => p v I2 H2 e2 s2 ⟨a, vs, h1, .inl h2, h3, h4⟩) fun _ _ z => z)
theorem x_is' {β : Type} {T : Rt β} {tr : TA} {m m' : Res β} (h : EvA E K tr σ I C m T) (e : m = m') : EvA E K tr σ I C m' T := e ▸ h
theorem x_is {m' : Res α} (h : EvX E K te σ I C m R) (e : m = m') : EvX E K te σ I C m' R := e ▸ h
/-! tests -/
theorem t_test {m : Res Bool} (h : EvX E K te σ I C m pB) : EvT E K (tTest te) σ I C m := fun I1 C1 H1 e e' s Q q => h I1 C1 H1 e e' s _ (q.mono (fun b p v I2 H2 e2 s2 rv => ⟨b, rv, p I2 H2 e2 s2⟩) fun _ _ z => z)
theorem t_B {m : Res Bool} (h : EvX E K te σ I C m pB) : EvT E K (tB te) σ I C m := fun I1 C1 H1 e e' s Q q => h I1 C1 H1 e e' s _ (q.mono (fun b p v I2 H2 e2 s2 rv => ⟨b, rv, p I2 H2 e2 s2⟩) fun _ _ z => z)
def andR (m n : Res Bool) : Res Bool := m.bind fun b => if b = true then n else .ok false
def orR (m n : Res Bool) : Res Bool := m.bind fun b => if b = true then .ok true else n
def notR (b : Bool) : Res Bool := .ok (!b)
@[simp] theorem andR_ok (a b : Bool) : andR (.ok a) (.ok b) = .ok (a && b) := by cases a <;> rfl
@[simp] theorem orR_ok (a b : Bool) : orR (.ok a) (.ok b) = .ok (a || b) := by cases a <;> rfl
@[simp] theorem andR_true (m : Res Bool) : andR (.ok true) m = m := rfl
@[simp] theorem andR_false (m : Res Bool) : andR (.ok false) m = .ok false := rfl
@[simp] theorem orR_true (m : Res Bool) : orR (.ok true) m = .ok true := rfl
@[simp] theorem orR_false (m : Res Bool) : orR (.ok false) m = m := rfl
@[simp] theorem notR_eq (b : Bool) : notR b = .ok (!b) := rfl
theorem t_and {m n : Res Bool} (h1 : EvT E K tt σ I C m) (h2 : EvT E K tu σ I C n) : EvT E K (tAnd tt tu) σ I C (andR m n) := fun I1 C1 H1 e e' s Q q =>
  h1 I1 C1 H1 e e' s _ ((Post.bind q).mono (fun b p I2 H2 e2 s2 => by
    cases b with
    | true => exact h2 I2 C1 H2 (e.trans e2) e' s2 Q (Post.mono (m := n) p (fun b z I3 H3 e3 s3 => z I3 H3 (e2.trans e3) s3) fun c i z => z.mono e2 (Ex.refl _))
    | false => exact p I2 H2 e2 s2) fun _ _ z => z)
theorem t_or {m n : Res Bool} (h1 : EvT E K tt σ I C m) (h2 : EvT E K tu σ I C n) : EvT E K (tOr tt tu) σ I C (orR m n) := fun I1 C1 H1 e e' s Q q =>
  h1 I1 C1 H1 e e' s _ ((Post.bind q).mono (fun b p I2 H2 e2 s2 => by
    cases b with
    | false => exact h2 I2 C1 H2 (e.trans e2) e' s2 Q (Post.mono (m := n) p (fun b z I3 H3 e3 s3 => z I3 H3 (e2.trans e3) s3) fun c i z => z.mono e2 (Ex.refl _))
    | true => exact p I2 H2 e2 s2) fun _ _ z => z)
theorem t_not {m : Res Bool} (h : EvT E K tt σ I C m) : EvT E K (tNot tt) σ I C (un notR m) := fun I1 C1 H1 e e' s Q q =>
  h I1 C1 H1 e e' s _ ((Post.bind q).mono (fun b p I2 H2 e2 s2 => p I2 H2 e2 s2) fun _ _ z => z)
theorem x_andV {m n : Res Bool} (h1 : EvX E K ta σ I C m pB) (h2 : EvX E K tb σ I C n pB) : EvX E K (tAndV ta tb) σ I C (andR m n) pB := fun I1 C1 H1 e e' s Q q =>
  h1 I1 C1 H1 e e' s _ ((Post.bind q).mono (fun b p v I2 H2 e2 s2 rv => ⟨b, rv, by
    cases b with
    | true => exact h2 I2 C1 H2 (e.trans e2) e' s2 Q (Post.mono (m := n) p (fun b z v I3 H3 e3 s3 => z v I3 H3 (e2.trans e3) s3) fun c i z => z.mono e2 (Ex.refl _))
    | false => exact p (.bl false) I2 H2 e2 s2 rfl⟩) fun _ _ z => z)
theorem x_orV {m n : Res Bool} (h1 : EvX E K ta σ I C m pB) (h2 : EvX E K tb σ I C n pB) : EvX E K (tOrV ta tb) σ I C (orR m n) pB := fun I1 C1 H1 e e' s Q q =>
  h1 I1 C1 H1 e e' s _ ((Post.bind q).mono (fun b p v I2 H2 e2 s2 rv => ⟨b, rv, by
    cases b with
    | false => exact h2 I2 C1 H2 (e.trans e2) e' s2 Q (Post.mono (m := n) p (fun b z v I3 H3 e3 s3 => z v I3 H3 (e2.trans e3) s3) fun c i z => z.mono e2 (Ex.refl _))
    | true => exact p (.bl true) I2 H2 e2 s2 rfl⟩) fun _ _ z => z)
theorem x_notV {m : Res Bool} (h : EvX E K te σ I C m pB) : EvX E K (tNotV te) σ I C (un notR m) pB := fun I1 C1 H1 e e' s Q q =>
  h I1 C1 H1 e e' s _ ((Post.bind q).mono (fun b p v I2 H2 e2 s2 rv => ⟨b, rv, p _ I2 H2 e2 s2 rfl⟩) fun _ _ z => z)
def ifR {α : Type} (c : Res Bool) (m n : Res α) : Res α := c.bind fun b => if b = true then m else n
@[simp] theorem ifR_ok {α : Type} (b : Bool) (m n : Res α) : ifR (.ok b) m n = if b = true then m else n := rfl
theorem x_if {c : Res Bool} {m n : Res α} (h : EvT E K tt σ I C c) (h1 : EvX E K ta σ I C m R) (h2 : EvX E K tb σ I C n R) : EvX E K (tIf tt ta tb) σ I C (ifR c m n) R := fun I1 C1 H1 e e' s Q q =>
  h I1 C1 H1 e e' s _ ((Post.bind q).mono (fun b p I2 H2 e2 s2 => by
    cases b with
    | true => exact h1 I2 C1 H2 (e.trans e2) e' s2 Q (Post.mono (m := m) p (fun b z v I3 H3 e3 s3 => z v I3 H3 (e2.trans e3) s3) fun c i z => z.mono e2 (Ex.refl _))
    | false => exact h2 I2 C1 H2 (e.trans e2) e' s2 Q (Post.mono (m := n) p (fun b z v I3 H3 e3 s3 => z v I3 H3 (e2.trans e3) s3) fun c i z => z.mono e2 (Ex.refl _))) fun _ _ z => z)
end
end Sd

namespace Sd
open PySem L2
/-! ### rules on values -/
section
variable {E : XK} {K : PySem.W.Frag} {α β γ : Type} {R : Rp α}
theorem PQ.now {I C H : Hp} {Q : VK} {a : α} {v : V} (q : PQ R I C Q a) (s : St I C H) (r : R.r a v I C) : Q v H := q v I H (Ex.refl _) s r
def rAdd (a b : Int) : Res Int := .ok (a + b)
def rSub (a b : Int) : Res Int := .ok (a - b)
def rMul (a b : Int) : Res Int := if (-(2 ^ 64) < a ∧ a < 2 ^ 64) ∨ (-(2 ^ 64) < b ∧ b < 2 ^ 64) then .ok (a * b) else .bad
def rMod (a b : Int) : Res Int := if 0 < b then .ok (a % b) else .bad
def rDiv (a b : Int) : Res Int := if 0 < b ∧ b < 1073741824 then .ok (a / b) else .bad
def rPow (a b : Int) : Res Int := if 0 ≤ b ∧ b ≤ 1000000 ∧ a.natAbs < 2 ^ 64 then .ok (a ^ b.toNat) else .bad
def rNeg (a : Int) : Res Int := .ok (-a)
@[simp] theorem rAdd_eq (a b : Int) : rAdd a b = .ok (a + b) := rfl
@[simp] theorem rSub_eq (a b : Int) : rSub a b = .ok (a - b) := rfl
@[simp] theorem rNeg_eq (a : Int) : rNeg a = .ok (-a) := rfl
theorem rMul_ok {a b : Int} (h : (-(2 ^ 64) < a ∧ a < 2 ^ 64) ∨ (-(2 ^ 64) < b ∧ b < 2 ^ 64)) : rMul a b = .ok (a * b) := if_pos h
theorem rMod_ok {a b : Int} (h : 0 < b) : rMod a b = .ok (a % b) := if_pos h
theorem rDiv_ok {a b : Int} (h : 0 < b ∧ b < 1073741824) : rDiv a b = .ok (a / b) := if_pos h
theorem rPow_ok {a b : Int} (h : 0 ≤ b ∧ b ≤ 1000000 ∧ a.natAbs < 2 ^ 64) : rPow a b = .ok (a ^ b.toNat) := if_pos h
theorem o_add : Op2 E K (rI0 fun i j => .int (i + j)) rAdd pI pI pI := fun I C H a b x y s hx hy Q q => ⟨a, b, hx, hy, PQ.now q s rfl⟩
theorem o_sub : Op2 E K (rI0 fun i j => .int (i - j)) rSub pI pI pI := fun I C H a b x y s hx hy Q q => ⟨a, b, hx, hy, PQ.now q s rfl⟩
theorem o_mul : Op2 E K (rI CMul fun i j => .int (i * j)) rMul pI pI pI := fun I C H a b x y s hx hy Q q => by
  unfold rMul at q
  split at q
  · rename_i h
    exact ⟨a, b, hx, hy, h, PQ.now q s rfl⟩
  · exact q.elim
theorem o_mod : Op2 E K (rI (fun _ j => 0 < j) fun i j => .int (i % j)) rMod pI pI pI := fun I C H a b x y s hx hy Q q => by
  unfold rMod at q
  split at q
  · rename_i h
    exact ⟨a, b, hx, hy, h, PQ.now q s rfl⟩
  · exact q.elim
theorem o_fdiv : Op2 E K (rI CDiv fun i j => .int (i / j)) rDiv pI pI pI := fun I C H a b x y s hx hy Q q => by
  unfold rDiv at q
  split at q
  · rename_i h
    exact ⟨a, b, hx, hy, h, PQ.now q s rfl⟩
  · exact q.elim
theorem o_pow : Op2 E K (rI CPow fun i j => .int (i ^ j.toNat)) rPow pI pI pI := fun I C H a b x y s hx hy Q q => by
  unfold rPow at q
  split at q
  · rename_i h
    exact ⟨a, b, hx, hy, h, PQ.now q s rfl⟩
  · exact q.elim
theorem o_neg : Op1 E K (rU fun i => .int (-i)) rNeg pI pI := fun I C H a x s hx Q q => ⟨a, hx, PQ.now q s rfl⟩
/-! comparisons -/
def rLt (a b : Int) : Res Bool := .ok (decide (a < b))
def rLe (a b : Int) : Res Bool := .ok (decide (a ≤ b))
def rGt (a b : Int) : Res Bool := .ok (decide (b < a))
def rGe (a b : Int) : Res Bool := .ok (decide (b ≤ a))
@[simp] theorem rLt_eq (a b : Int) : rLt a b = .ok (decide (a < b)) := rfl
@[simp] theorem rLe_eq (a b : Int) : rLe a b = .ok (decide (a ≤ b)) := rfl
@[simp] theorem rGt_eq (a b : Int) : rGt a b = .ok (decide (b < a)) := rfl
@[simp] theorem rGe_eq (a b : Int) : rGe a b = .ok (decide (b ≤ a)) := rfl
theorem o_lt : Op2 E K (rI0 fun i j => .bl (decide (i < j))) rLt pI pI pB := fun I C H a b x y s hx hy Q q => ⟨a, b, hx, hy, PQ.now q s rfl⟩
theorem o_le : Op2 E K (rI0 fun i j => .bl (decide (i ≤ j))) rLe pI pI pB := fun I C H a b x y s hx hy Q q => ⟨a, b, hx, hy, PQ.now q s rfl⟩
theorem o_gt : Op2 E K (rI0 fun i j => .bl (decide (j < i))) rGt pI pI pB := fun I C H a b x y s hx hy Q q => ⟨a, b, hx, hy, PQ.now q s rfl⟩
theorem o_ge : Op2 E K (rI0 fun i j => .bl (decide (j ≤ i))) rGe pI pI pB := fun I C H a b x y s hx hy Q q => ⟨a, b, hx, hy, PQ.now q s rfl⟩
def eqR {α : Type} [DecidableEq α] (a b : α) : Res Bool := .ok (decide (a = b))
def neR {α : Type} [DecidableEq α] (a b : α) : Res Bool := .ok (!decide (a = b))
@[simp] theorem eqR_eq {α : Type} [DecidableEq α] (a b : α) : eqR a b = .ok (decide (a = b)) := rfl
@[simp] theorem neR_eq {α : Type} [DecidableEq α] (a b : α) : neR a b = .ok (!decide (a = b)) := rfl
theorem dec_congr {p q : Prop} [Decidable p] [Decidable q] (h : p ↔ q) : decide p = decide q := by
  by_cases hp : p
  · rw [decide_eq_true hp, decide_eq_true (h.mp hp)]
  · rw [decide_eq_false hp, decide_eq_false fun z => hp (h.mpr z)]
theorem o_eqI : Op2 E K rEq eqR pI pI pB := fun I C H a b x y s hx hy Q q => by
  subst hx hy
  exact ⟨rfl, PQ.now q s (congrArg V.bl (dec_congr ⟨fun h => V.int.inj h, fun h => by rw [h]⟩))⟩
theorem o_neI : Op2 E K rNe neR pI pI pB := fun I C H a b x y s hx hy Q q => by
  subst hx hy
  exact ⟨rfl, PQ.now q s (congrArg (fun z => V.bl (!z)) (dec_congr ⟨fun h => V.int.inj h, fun h => by rw [h]⟩))⟩
theorem o_eqB : Op2 E K rEq eqR pB pB pB := fun I C H a b x y s hx hy Q q => by
  subst hx hy
  exact ⟨rfl, PQ.now q s (congrArg V.bl (dec_congr ⟨fun h => V.bl.inj h, fun h => by rw [h]⟩))⟩
theorem o_neB : Op2 E K rNe neR pB pB pB := fun I C H a b x y s hx hy Q q => by
  subst hx hy
  exact ⟨rfl, PQ.now q s (congrArg (fun z => V.bl (!z)) (dec_congr ⟨fun h => V.bl.inj h, fun h => by rw [h]⟩))⟩
theorem o_eqS : Op2 E K rEq eqR pS pS pB := fun I C H a b x y s hx hy Q q => by
  obtain ⟨rfl, _⟩ := hx
  obtain ⟨rfl, _⟩ := hy
  exact ⟨rfl, PQ.now q s (congrArg V.bl (dec_congr ⟨fun h => V.str.inj h, fun h => by rw [h]⟩))⟩
theorem o_neS : Op2 E K rNe neR pS pS pB := fun I C H a b x y s hx hy Q q => by
  obtain ⟨rfl, _⟩ := hx
  obtain ⟨rfl, _⟩ := hy
  exact ⟨rfl, PQ.now q s (congrArg (fun z => V.bl (!z)) (dec_congr ⟨fun h => V.str.inj h, fun h => by rw [h]⟩))⟩
def isNone {α : Type} (o : Option α) (_ : Unit) : Res Bool := .ok o.isNone
def notNone {α : Type} (o : Option α) (_ : Unit) : Res Bool := .ok o.isSome
@[simp] theorem isNone_eq {α : Type} (o : Option α) : isNone o () = .ok o.isNone := rfl
@[simp] theorem notNone_eq {α : Type} (o : Option α) : notNone o () = .ok o.isSome := rfl
theorem o_isN : Op2 E K (fun x y H Q => y = .non ∧ Q (.bl (decide (x = .non))) H) isNone (pO R) pN pB := fun I C H a b x y s hx hy Q q => by
  refine ⟨hy, PQ.now q s (congrArg V.bl ?_)⟩
  cases a with
  | none => exact decide_eq_true hx
  | some a => exact decide_eq_false hx.2
theorem o_notN : Op2 E K (fun x y H Q => y = .non ∧ Q (.bl (!decide (x = .non))) H) notNone (pO R) pN pB := fun I C H a b x y s hx hy Q q => by
  refine ⟨hy, PQ.now q s (congrArg V.bl ?_)⟩
  cases a with
  | none =>
    have e : decide (x = V.non) = true := decide_eq_true hx
    rw [e]
    rfl
  | some a =>
    have e : decide (x = V.non) = false := decide_eq_false hx.2
    rw [e]
    rfl
/-! lists that are read -/
theorem pV.at {xs : List α} {v : V} {I C H : Hp} (s : St I C H) (h : (pV R).r xs v I C) : ∃ a vs, v = .ref a ∧ H a = some (.lst vs) ∧ vs.length ≤ sizeLine ∧ A2 (fun x u => R.r x u I C) xs vs := by
  obtain ⟨a, vs, h1, h2, h3, h4⟩ := h
  exact ⟨a, vs, h1, h2.elim (s.i a _) (s.c a _), h3, h4⟩
def rLen (xs : List α) : Res Int := .ok (xs.length : Int)
@[simp] theorem rLen_eq (xs : List α) : rLen xs = .ok (xs.length : Int) := rfl
theorem o_len : OpL E K (fun xs H Q => ∃ p ys, xs = [.ref p] ∧ (SqL K H p ys ∨ SqT K H p ys) ∧ Q (.int ys.length) H) rLen (t1 (pV R)) pI := fun I C H a vs s hv Q q => by
  obtain ⟨v, rfl, h⟩ := hv
  obtain ⟨p, us, rfl, h2, h3, h4⟩ := pV.at s h
  exact ⟨p, us, rfl, .inl (.inl (.inl h2)), PQ.now q s (by rw [h4.len]; rfl)⟩
theorem o_lenQ : OpL E K (fun xs H Q => ∃ p ys, xs = [.ref p] ∧ (SqL K H p ys ∨ SqT K H p ys) ∧ Q (.int ys.length) H) rLen (t1 (pQ K R)) pI := fun I C H a vs s hv Q q => by
  obtain ⟨v, rfl, p, us, rfl, h2, h3, h4⟩ := hv
  exact ⟨p, us, rfl, .inr (ex_t s.i h2), PQ.now q s (by rw [h4.len]; rfl)⟩
/-- xs[i] -/
def ix (xs : List α) (i : Int) : Res α := if 0 ≤ i then (match xs[i.toNat]? with
    | some x => .ok x
    | none => .bad) else if -(xs.length : Int) ≤ i then (match xs[(i + xs.length).toNat]? with
    | some x => .ok x
    | none => .bad) else .bad
theorem ix_atI {f : α → V → Prop} {xs : List α} {vs : List V} {i : Int} {x : α} (h : A2 f xs vs) (e : ix xs i = .ok x) : ∃ v, atI vs i = some v ∧ f x v := by
  have hl := h.len
  unfold ix at e
  unfold atI ixN
  by_cases h0 : 0 ≤ i
  · rw [if_pos h0] at e ⊢
    cases q : xs[i.toNat]? with
    | none =>
      rw [q] at e
      cases e
    | some y =>
      rw [q] at e
      cases e
      have hlt := (List.getElem?_eq_some_iff.mp q).1
      obtain ⟨v, hv, r⟩ := h.get' q
      rw [if_pos (by omega)]
      exact ⟨v, hv, r⟩
  · rw [if_neg h0] at e ⊢
    by_cases h1 : -(xs.length : Int) ≤ i
    · rw [if_pos h1] at e
      rw [if_pos (by omega)]
      cases q : xs[(i + xs.length).toNat]? with
      | none =>
        rw [q] at e
        cases e
      | some y =>
        rw [q] at e
        cases e
        obtain ⟨v, hv, r⟩ := h.get' q
        exact ⟨v, by rw [hl]; exact hv, r⟩
    · rw [if_neg h1] at e
      cases e
theorem o_ix : Op2 E K (rIxL K) ix (pV R) pI R := fun I C H a b x y s hx hy Q q => by
  obtain ⟨p, us, rfl, h2, h3, h4⟩ := pV.at s hx
  subst hy
  cases e : ix a b with
  | ok z =>
    rw [e] at q
    obtain ⟨v, e1, r⟩ := ix_atI h4 e
    exact ⟨p, us, b, v, rfl, rfl, .inl (.inl h2), e1, PQ.now q s r⟩
  | exc c i =>
    unfold ix at e
    split at e <;> (try split at e) <;> (try split at e) <;> cases e
  | bad =>
    rw [e] at q
    exact q.elim
theorem o_ixQ : Op2 E K (rIxT K) ix (pQ K R) pI R := fun I C H a b x y s hx hy Q q => by
  obtain ⟨p, us, rfl, h2, h3, h4⟩ := hx
  subst hy
  cases e : ix a b with
  | ok z =>
    rw [e] at q
    obtain ⟨v, e1, r⟩ := ix_atI h4 e
    exact ⟨p, us, b, v, rfl, rfl, ex_t s.i h2, e1, PQ.now q s r⟩
  | exc c i =>
    unfold ix at e
    split at e <;> (try split at e) <;> (try split at e) <;> cases e
  | bad =>
    rw [e] at q
    exact q.elim
/-- a place of a tuple, of a list with fixed places; k written -/
theorem o_pj {T : Rt α} {k : Nat} {f : α → β} {S : Rp β} (j : Pj T k f S) : Op1 E K (fun x H Q => rIxT K x (.int (k : Int)) H Q) (fun x => .ok (f x)) (pT T) S := fun I C H a x s hx Q q => by
  obtain ⟨p, vs, rfl, h2, h3⟩ := hx
  obtain ⟨w, e, r⟩ := j a vs I C h3
  exact ⟨p, vs, _, w, rfl, rfl, .inl (.inl (s.i p _ h2)), atI_nat e, PQ.now q s r⟩
theorem o_pjU {T : Rt α} {k : Nat} {f : α → β} {S : Rp β} (j : Pj T k f S) : Op1 E K (fun x H Q => rIxT K x (.int (k : Int)) H Q) (fun x => .ok (f x)) (pU K T) S := fun I C H a x s hx Q q => by
  obtain ⟨p, vs, rfl, h2, h3⟩ := hx
  obtain ⟨w, e, r⟩ := j a vs I C h3
  exact ⟨p, vs, _, w, rfl, rfl, ex_t s.i h2, atI_nat e, PQ.now q s r⟩
theorem o_pjD {T : Rt α} {k : Nat} {f : α → β} {S : Rp β} (j : Pj T k f S) : Op1 E K (fun x H Q => rIxL K x (.int (k : Int)) H Q) (fun x => .ok (f x)) (pD T) S := fun I C H a x s hx Q q => by
  obtain ⟨p, vs, rfl, h2, h3⟩ := hx
  obtain ⟨w, e, r⟩ := j a vs I C h3
  exact ⟨p, vs, _, w, rfl, rfl, .inl (.inl (s.i p _ h2)), atI_nat e, PQ.now q s r⟩
/-- e[k], k written, by a rule for this k -/
theorem x_k {r : R2} {te : TE} {σ : L2.St} {I C : Hp} {m : Res α} {f : α → Res γ} {T : Rp γ} {k : Int} (hr : Op1 E K (fun x H Q => r x (.int k) H Q) f R T) (h : EvX E K te σ I C m R) : EvX E K (tOp r te (tC (.int k))) σ I C (un f m) T :=
  fun I1 C1 H1 e e' s Q q => x_un (r := fun x H Q => r x (.int k) H Q) hr h I1 C1 H1 e e' s Q q
end
end Sd

namespace Sd
open PySem L2
/-! ### == of data -/
/-- data of this kind, as == sees them: enc; at most n deep -/
structure De (K : PySem.W.Frag) {α : Type} (R : Rp α) (enc : α → PyData) (n : Nat) : Prop where
  dp : ∀ {a v I C H}, St I C H → R.r a v I C → Dp K H v (enc a)
  ly : ∀ {a v I C}, R.r a v I C → (enc a).canLay0 = true
  de : ∀ {a v I C}, R.r a v I C → (enc a).depth ≤ n
  eq : ∀ a b, PyData.eqv (enc a) (enc b) = true ↔ a = b
section
variable {E : XK} {K : PySem.W.Frag} {α β γ : Type} {R : Rp α} {S : Rp β} {enc : α → PyData} {enb : β → PyData} {n m : Nat}
theorem de_int : De K pI PyData.int 0 := ⟨fun _ h => by cases h; exact .int _, fun _ => by simp only [PyData.canLay0], fun _ => by simp only [PyData.depth]; exact Nat.le_refl _, fun a b => by
  simp only [PyData.eqv, beq_iff_eq]⟩
theorem de_bl : De K pB PyData.bool 0 := ⟨fun _ h => by cases h; exact .bl _, fun _ => by simp only [PyData.canLay0], fun _ => by simp only [PyData.depth]; exact Nat.le_refl _, fun a b => by
  simp only [PyData.eqv, beq_iff_eq]⟩
theorem de_str : De K pS PyData.str 0 := ⟨fun _ h => by obtain ⟨rfl, _⟩ := h; exact .str _, fun h => by simp only [PyData.canLay0]; exact h.2, fun _ => by simp only [PyData.depth]; exact Nat.le_refl _, fun a b => by
  simp only [PyData.eqv, beq_iff_eq]⟩
theorem de_all (d : De K R enc n) : ∀ {xs : List α} {vs : List V} {I C H : Hp}, St I C H → A2 (fun x u => R.r x u I C) xs vs → DpAll K H vs (xs.map enc)
  | _, _, _, _, _, _, .nil => .nil
  | _, _, _, _, _, s, .cons r t => .cons (d.dp s r) (de_all d s t)
theorem ly_all (d : De K R enc n) : ∀ {xs : List α} {vs : List V} {I C : Hp}, A2 (fun x u => R.r x u I C) xs vs → PyData.canLayAll0 (xs.map enc) = true
  | _, _, _, _, .nil => by simp only [List.map_nil, PyData.canLayAll0]
  | _, _, _, _, .cons r t => by
    simp only [List.map_cons, PyData.canLayAll0, Bool.and_eq_true]
    exact ⟨d.ly r, ly_all d t⟩
theorem dp_all (d : De K R enc n) : ∀ {xs : List α} {vs : List V} {I C : Hp}, A2 (fun x u => R.r x u I C) xs vs → PyData.depthAll (xs.map enc) ≤ n
  | _, _, _, _, .nil => by
    simp only [List.map_nil, PyData.depthAll]
    exact Nat.zero_le _
  | _, _, _, _, .cons r t => by
    simp only [List.map_cons, PyData.depthAll]
    exact Nat.max_le.mpr ⟨d.de r, dp_all d t⟩
theorem eq_all (h : ∀ a b, PyData.eqv (enc a) (enc b) = true ↔ a = b) : ∀ xs ys : List α, PyData.eqvAll (xs.map enc) (ys.map enc) = true ↔ xs = ys
  | [], [] => by simp only [List.map_nil, PyData.eqvAll]
  | [], y :: ys => by
    simp only [List.map_nil, List.map_cons, PyData.eqvAll]
    exact ⟨fun q => (nomatch q), fun q => (nomatch q)⟩
  | x :: xs, [] => by
    simp only [List.map_nil, List.map_cons, PyData.eqvAll]
    exact ⟨fun q => (nomatch q), fun q => (nomatch q)⟩
  | x :: xs, y :: ys => by
    simp only [List.map_cons, PyData.eqvAll, Bool.and_eq_true, List.cons.injEq]
    rw [h x y, eq_all h xs ys]
theorem de_lst (d : De K R enc n) : De K (pL R) (fun xs => PyData.list (xs.map enc)) (n + 1) :=
  ⟨fun s ⟨a, vs, h1, h2, h3, h4⟩ => by
    subst h1
    exact .lst (.inl (.inl (s.i _ _ h2))) (de_all d s h4),
  fun ⟨a, vs, h1, h2, h3, h4⟩ => by
    simp only [PyData.canLay0]
    exact ly_all d h4,
  fun ⟨a, vs, h1, h2, h3, h4⟩ => by
    simp only [PyData.depth]
    exact Nat.succ_le_succ (dp_all d h4),
  fun a b => by
    simp only [PyData.eqv]
    exact eq_all d.eq a b⟩
theorem de_vw (d : De K R enc n) : De K (pV R) (fun xs => PyData.list (xs.map enc)) (n + 1) :=
  ⟨fun s h => by
    obtain ⟨a, vs, rfl, h2, h3, h4⟩ := pV.at s h
    exact .lst (.inl (.inl h2)) (de_all d s h4),
  fun ⟨a, vs, h1, h2, h3, h4⟩ => by
    simp only [PyData.canLay0]
    exact ly_all d h4,
  fun ⟨a, vs, h1, h2, h3, h4⟩ => by
    simp only [PyData.depth]
    exact Nat.succ_le_succ (dp_all d h4),
  fun a b => by
    simp only [PyData.eqv]
    exact eq_all d.eq a b⟩
theorem de_seq (d : De K R enc n) : De K (pQ K R) (fun xs => PyData.tuple (xs.map enc)) (n + 1) :=
  ⟨fun s ⟨a, vs, h1, h2, h3, h4⟩ => by
    subst h1
    exact .tup (ex_t s.i h2) (de_all d s h4),
  fun ⟨a, vs, h1, h2, h3, h4⟩ => by
    simp only [PyData.canLay0]
    exact ly_all d h4,
  fun ⟨a, vs, h1, h2, h3, h4⟩ => by
    simp only [PyData.depth]
    exact Nat.succ_le_succ (dp_all d h4),
  fun a b => by
    simp only [PyData.eqv]
    exact eq_all d.eq a b⟩
/-- places -/
structure Dt (K : PySem.W.Frag) {α : Type} (T : Rt α) (enc : α → List PyData) (n : Nat) : Prop where
  dp : ∀ {a vs I C H}, St I C H → T.r a vs I C → DpAll K H vs (enc a)
  ly : ∀ {a vs I C}, T.r a vs I C → PyData.canLayAll0 (enc a) = true
  de : ∀ {a vs I C}, T.r a vs I C → PyData.depthAll (enc a) ≤ n
  eq : ∀ a b, PyData.eqvAll (enc a) (enc b) = true ↔ a = b
theorem dt_one (d : De K R enc n) : Dt K (t1 R) (fun x => [enc x]) n :=
  ⟨fun s ⟨v, h1, h2⟩ => by
    subst h1
    exact .cons (d.dp s h2) .nil,
  fun ⟨v, h1, h2⟩ => by
    simp only [PyData.canLayAll0, Bool.and_true]
    exact d.ly h2,
  fun ⟨v, h1, h2⟩ => by
    simp only [PyData.depthAll]
    exact Nat.max_le.mpr ⟨d.de h2, Nat.zero_le _⟩,
  fun a b => by
    simp only [PyData.eqvAll, Bool.and_true]
    exact d.eq a b⟩
theorem dt_cons {T : Rt β} {ens : β → List PyData} (d : De K R enc n) (t : Dt K T ens m) : Dt K (tc R T) (fun x => enc x.1 :: ens x.2) (max n m) :=
  ⟨fun s ⟨v, us, h1, h2, h3⟩ => by
    subst h1
    exact .cons (d.dp s h2) (t.dp s h3),
  fun ⟨v, us, h1, h2, h3⟩ => by
    simp only [PyData.canLayAll0, Bool.and_eq_true]
    exact ⟨d.ly h2, t.ly h3⟩,
  fun ⟨v, us, h1, h2, h3⟩ => by
    simp only [PyData.depthAll]
    exact Nat.max_le.mpr ⟨Nat.le_trans (d.de h2) (Nat.le_max_left _ _), Nat.le_trans (t.de h3) (Nat.le_max_right _ _)⟩,
  fun a b => by
    simp only [PyData.eqvAll, Bool.and_eq_true]
    rw [d.eq, t.eq]
    exact ⟨fun ⟨h1, h2⟩ => Prod.ext h1 h2, fun h => by
      subst h
      exact ⟨rfl, rfl⟩⟩⟩
theorem de_tup {T : Rt α} {ens : α → List PyData} (t : Dt K T ens n) : De K (pT T) (fun x => PyData.tuple (ens x)) (n + 1) :=
  ⟨fun s ⟨a, vs, h1, h2, h3⟩ => by
    subst h1
    exact .tup (.inl (.inl (s.i _ _ h2))) (t.dp s h3),
  fun ⟨a, vs, h1, h2, h3⟩ => by
    simp only [PyData.canLay0]
    exact t.ly h3,
  fun ⟨a, vs, h1, h2, h3⟩ => by
    simp only [PyData.depth]
    exact Nat.succ_le_succ (t.de h3),
  fun a b => by
    simp only [PyData.eqv]
    exact t.eq a b⟩
theorem de_tupU {T : Rt α} {ens : α → List PyData} (t : Dt K T ens n) : De K (pU K T) (fun x => PyData.tuple (ens x)) (n + 1) :=
  ⟨fun s ⟨a, vs, h1, h2, h3⟩ => by
    subst h1
    exact .tup (ex_t s.i h2) (t.dp s h3),
  fun ⟨a, vs, h1, h2, h3⟩ => by
    simp only [PyData.canLay0]
    exact t.ly h3,
  fun ⟨a, vs, h1, h2, h3⟩ => by
    simp only [PyData.depth]
    exact Nat.succ_le_succ (t.de h3),
  fun a b => by
    simp only [PyData.eqv]
    exact t.eq a b⟩
theorem de_lstD {T : Rt α} {ens : α → List PyData} (t : Dt K T ens n) : De K (pD T) (fun x => PyData.list (ens x)) (n + 1) :=
  ⟨fun s ⟨a, vs, h1, h2, h3⟩ => by
    subst h1
    exact .lst (.inl (.inl (s.i _ _ h2))) (t.dp s h3),
  fun ⟨a, vs, h1, h2, h3⟩ => by
    simp only [PyData.canLay0]
    exact t.ly h3,
  fun ⟨a, vs, h1, h2, h3⟩ => by
    simp only [PyData.depth]
    exact Nat.succ_le_succ (t.de h3),
  fun a b => by
    simp only [PyData.eqv]
    exact t.eq a b⟩
def oEnc (enc : α → PyData) : Option α → PyData
  | none => .none
  | some a => enc a
/-- None or such a thing (that is not None itself) -/
theorem de_opt (d : De K R enc n) (hn : ∀ a, PyData.eqv (enc a) .none = false ∧ PyData.eqv .none (enc a) = false) : De K (pO R) (oEnc enc) n :=
  ⟨fun {a v I C H} s h => by
    cases a with
    | none =>
      have h' : v = .non := h
      subst h'
      exact .non
    | some a => exact d.dp s h.1,
  fun {a v I C} h => by
    cases a with
    | none => simp only [oEnc, PyData.canLay0]
    | some a => exact d.ly h.1,
  fun {a v I C} h => by
    cases a with
    | none =>
      simp only [oEnc, PyData.depth]
      exact Nat.zero_le _
    | some a => exact d.de h.1,
  fun a b => by
    cases a with
    | none =>
      cases b with
      | none => simp only [oEnc, PyData.eqv]
      | some b =>
        simp only [oEnc]
        rw [(hn b).2]
        exact ⟨fun q => (nomatch q), fun q => (nomatch q)⟩
    | some a =>
      cases b with
      | none =>
        simp only [oEnc]
        rw [(hn a).1]
        exact ⟨fun q => (nomatch q), fun q => (nomatch q)⟩
      | some b =>
        simp only [oEnc]
        rw [d.eq, Option.some.injEq]⟩
theorem o_eqD [DecidableEq α] {R' : Rp α} (d : De K R enc n) (d' : De K R' enc n) (hn : n ≤ 64) : Op2 E K (rEqD K) eqR R R' pB := fun I C H a b x y s hx hy Q q =>
  ⟨enc a, enc b, d.dp s hx, d'.dp s hy, Bool.and_eq_true_iff.mpr ⟨d.ly hx, decide_eq_true (Nat.le_trans (d.de hx) hn)⟩, Bool.and_eq_true_iff.mpr ⟨d'.ly hy, decide_eq_true (Nat.le_trans (d'.de hy) hn)⟩,
    PQ.now q s (congrArg V.bl (by
      by_cases e : a = b
      · rw [(d.eq a b).mpr e, decide_eq_true e]
      · rw [decide_eq_false e]
        exact Bool.eq_false_iff.mpr fun z => e ((d.eq a b).mp z)))⟩
theorem o_neD [DecidableEq α] {R' : Rp α} (d : De K R enc n) (d' : De K R' enc n) (hn : n ≤ 64) : Op2 E K (rNeD K) neR R R' pB := fun I C H a b x y s hx hy Q q =>
  ⟨enc a, enc b, d.dp s hx, d'.dp s hy, Bool.and_eq_true_iff.mpr ⟨d.ly hx, decide_eq_true (Nat.le_trans (d.de hx) hn)⟩, Bool.and_eq_true_iff.mpr ⟨d'.ly hy, decide_eq_true (Nat.le_trans (d'.de hy) hn)⟩,
    PQ.now q s (congrArg (fun z => V.bl (!z)) (by
      by_cases e : a = b
      · rw [(d.eq a b).mpr e, decide_eq_true e]
      · rw [decide_eq_false e]
        exact Bool.eq_false_iff.mpr fun z => e ((d.eq a b).mp z)))⟩
/-! ### in -/
def inR {α : Type} [DecidableEq α] (x : α) (xs : List α) : Res Bool := .ok (decide (x ∈ xs))
def ninR {α : Type} [DecidableEq α] (x : α) (xs : List α) : Res Bool := .ok (!decide (x ∈ xs))
@[simp] theorem inR_eq {α : Type} [DecidableEq α] (x : α) (xs : List α) : inR x xs = .ok (decide (x ∈ xs)) := rfl
@[simp] theorem ninR_eq {α : Type} [DecidableEq α] (x : α) (xs : List α) : ninR x xs = .ok (!decide (x ∈ xs)) := rfl
/-- flat things -/
structure Fl {α : Type} (R : Rp α) (f : α → V) : Prop where
  is : ∀ {a v I C}, R.r a v I C → v = f a
  flat : ∀ a, flatV (f a) = true
  eq : ∀ a b, eqV (f a) (f b) = true ↔ a = b
theorem fl_int : Fl pI V.int := ⟨fun h => h, fun _ => rfl, fun a b => by simp only [eqV, beq_iff_eq]⟩
theorem fl_str : Fl pS V.str := ⟨fun h => h.1, fun _ => rfl, fun a b => by simp only [eqV, beq_iff_eq]⟩
theorem inV_iff [DecidableEq α] {f : α → V} (F : Fl R f) (x : α) : ∀ xs : List α, inV (f x) (xs.map f) = decide (x ∈ xs)
  | [] => rfl
  | y :: ys => by
    have ih := inV_iff F x ys
    unfold inV at ih ⊢
    rw [List.map_cons, List.any_cons, ih]
    by_cases e : y = x
    · rw [(F.eq y x).mpr e, Bool.true_or, decide_eq_true (show x ∈ y :: ys by rw [e]; exact List.mem_cons_self)]
    · rw [Bool.eq_false_iff.mpr fun z => e ((F.eq y x).mp z), Bool.false_or]
      exact dec_congr ⟨fun h => List.mem_cons_of_mem _ h, fun h => (List.mem_cons.mp h).resolve_left fun q => e q.symm⟩
theorem allFlat {f : α → V} (F : Fl R f) : ∀ xs : List α, (xs.map f).all flatV = true
  | [] => rfl
  | x :: xs => by rw [List.map_cons, List.all_cons, F.flat, allFlat F xs]; rfl
theorem o_in [DecidableEq α] {f : α → V} (F : Fl R f) : Op2 E K (rIn K false) inR R (pV R) pB := fun I C H a b x y s hx hy Q q => by
  obtain ⟨p, us, rfl, h2, h3, h4⟩ := pV.at s hy
  have ex := F.is hx
  have eu := A2.map_iff (fun _ _ h => F.is h) h4
  subst ex eu
  exact ⟨p, _, rfl, .inl (.inl (.inl h2)), F.flat a, allFlat F b, PQ.now q s (congrArg V.bl (inV_iff F a b))⟩
theorem o_nin [DecidableEq α] {f : α → V} (F : Fl R f) : Op2 E K (rIn K true) ninR R (pV R) pB := fun I C H a b x y s hx hy Q q => by
  obtain ⟨p, us, rfl, h2, h3, h4⟩ := pV.at s hy
  have ex := F.is hx
  have eu := A2.map_iff (fun _ _ h => F.is h) h4
  subst ex eu
  exact ⟨p, _, rfl, .inl (.inl (.inl h2)), F.flat a, allFlat F b, PQ.now q s (congrArg (fun z => V.bl (!z)) (inV_iff F a b))⟩
theorem o_inQ [DecidableEq α] {f : α → V} (F : Fl R f) : Op2 E K (rIn K false) inR R (pQ K R) pB := fun I C H a b x y s hx hy Q q => by
  obtain ⟨p, us, rfl, h2, h3, h4⟩ := hy
  have ex := F.is hx
  have eu := A2.map_iff (fun _ _ h => F.is h) h4
  subst ex eu
  exact ⟨p, _, rfl, .inr (ex_t s.i h2), F.flat a, allFlat F b, PQ.now q s (congrArg V.bl (inV_iff F a b))⟩
theorem o_ninQ [DecidableEq α] {f : α → V} (F : Fl R f) : Op2 E K (rIn K true) ninR R (pQ K R) pB := fun I C H a b x y s hx hy Q q => by
  obtain ⟨p, us, rfl, h2, h3, h4⟩ := hy
  have ex := F.is hx
  have eu := A2.map_iff (fun _ _ h => F.is h) h4
  subst ex eu
  exact ⟨p, _, rfl, .inr (ex_t s.i h2), F.flat a, allFlat F b, PQ.now q s (congrArg (fun z => V.bl (!z)) (inV_iff F a b))⟩
/-! ### slices -/
def cut (xs : List α) (lo hi : Option Int) : List α := (xs.drop (HT.sIx xs.length 0 lo)).take (HT.sIx xs.length xs.length hi - HT.sIx xs.length 0 lo)
theorem A2.cut {f : α → V → Prop} {xs : List α} {vs : List V} (h : A2 f xs vs) (lo hi : Option Int) : A2 f (Sd.cut xs lo hi) (cutV vs lo hi) := by
  unfold Sd.cut cutV
  rw [h.len]
  exact (h.drop _).take _
def EvO (E : XK) (K : PySem.W.Frag) (to : TO) (σ : L2.St) (I C : Hp) (m : Res (Option Int)) : Prop :=
  ∀ I1 C1 H1, Ex I I1 → Ex C C1 → St I1 C1 H1 → ∀ Q : Option Int → Hp → Prop, Post m (fun o => ∀ I2 H2, Ex I1 I2 → St I2 C1 H2 → Q o H2) (PX E K I1 C1) → to σ H1 Q
def someR (m : Res Int) : Res (Option Int) := m.bind fun i => .ok (some i)
@[simp] theorem someR_ok (i : Int) : someR (.ok i) = .ok (some i) := rfl
variable {σ : L2.St} {I C : Hp} {te : TE}
theorem p_none : EvO E K tNoPart σ I C (.ok none) := fun I1 C1 H1 e e' s Q q => q I1 H1 (Ex.refl _) s
theorem p_some {m : Res Int} (h : EvX E K te σ I C m pI) : EvO E K (tPart te) σ I C (someR m) := fun I1 C1 H1 e e' s Q q =>
  h I1 C1 H1 e e' s _ ((Post.bind q).mono (fun i p v I2 H2 e2 s2 rv => ⟨i, rv, p I2 H2 e2 s2⟩) fun _ _ z => z)
def slR (m : Res (List α)) (lo hi : Res (Option Int)) : Res (List α) := m.bind fun xs => lo.bind fun a => hi.bind fun b => .ok (cut xs a b)
@[simp] theorem slR_ok (xs : List α) (a b : Option Int) : slR (.ok xs) (.ok a) (.ok b) = .ok (cut xs a b) := rfl
theorem new_list {xs : List α} {vs : List V} {I C H : Hp} {Q : VK} (q : PQ (pL R) I C Q xs) (s : St I C H) (h : A2 (fun x u => R.r x u I C) xs vs) (hl : vs.length ≤ sizeLine) : ∀ p, H p = none → Q (.ref p) (upd H p (.lst vs)) := fun p hp =>
  q (.ref p) (upd I p (.lst vs)) _ (Ex.new (s.i.free hp)) (s.newI hp) ⟨p, vs, rfl, upd_same, hl, h.imp fun _ _ => R.mono (Ex.new (s.i.free hp)) (Ex.refl _)⟩
theorem x_slW (r0 : V → Option Int → Option Int → Hp → VK → Prop) {V0 : Rp (List α)}
    (hr : ∀ I C H xs x lo hi, St I C H → V0.r xs x I C → ∀ Q, PQ (pL R) I C Q (cut xs lo hi) → r0 x lo hi H Q)
    {tl th : TO} {m : Res (List α)} {lo hi : Res (Option Int)} (h : EvX E K te σ I C m V0) (hl : EvO E K tl σ I C lo) (hh : EvO E K th σ I C hi) : EvX E K (tSl r0 te tl th) σ I C (slR m lo hi) (pL R) := fun I1 C1 H1 e e' s Q q =>
  h I1 C1 H1 e e' s _ ((Post.bind q).mono (fun a p x I2 H2 e2 s2 rx =>
    hl I2 C1 H2 (e.trans e2) e' s2 _ ((Post.bind p).mono (fun o p2 I3 H3 e3 s3 =>
      hh I3 C1 H3 (e.trans (e2.trans e3)) e' s3 _ ((Post.bind p2).mono (fun o2 p3 I4 H4 e4 s4 =>
        hr I4 C1 H4 a x o o2 s4 (V0.mono (e3.trans e4) (Ex.refl _) rx) Q fun v I5 H5 e5 s5 rv => p3 v I5 H5 (e2.trans (e3.trans (e4.trans e5))) s5 rv) fun c i z => z.mono (e2.trans e3) (Ex.refl _))) fun c i z => z.mono e2 (Ex.refl _)))
    fun _ _ z => z)
theorem x_sl {tl th : TO} {m : Res (List α)} {lo hi : Res (Option Int)} (h : EvX E K te σ I C m (pV R)) (hl : EvO E K tl σ I C lo) (hh : EvO E K th σ I C hi) : EvX E K (tSl (rSlL K) te tl th) σ I C (slR m lo hi) (pL R) :=
  x_slW (rSlL K) (fun I C H xs x lo hi s hx Q q => by
    obtain ⟨p, us, rfl, h2, h3, h4⟩ := pV.at s hx
    exact ⟨p, us, rfl, .inl (.inl h2), new_list q s (h4.cut lo hi) (Nat.le_trans (cutV_length _ _ _) h3)⟩) h hl hh
theorem x_slS {tl th : TO} {m : Res (List α)} {lo hi : Res (Option Int)} (h : EvX E K te σ I C m (pW K R)) (hl : EvO E K tl σ I C lo) (hh : EvO E K th σ I C hi) : EvX E K (tSl (rSlL K) te tl th) σ I C (slR m lo hi) (pL R) :=
  x_slW (rSlL K) (fun I C H xs x lo hi s hx Q q => by
    obtain ⟨p, us, rfl, h2, h3, h4⟩ := hx
    exact ⟨p, us, rfl, ex_l s.i h2, new_list q s (h4.cut lo hi) (Nat.le_trans (cutV_length _ _ _) h3)⟩) h hl hh
/-! ### + of lists, list(xs), tuple(xs), [x] * n -/
def rCatR (xs ys : List α) : Res (List α) := if xs.length + ys.length ≤ 1000000 then .ok (xs ++ ys) else .bad
theorem rCatR_ok {xs ys : List α} (h : xs.length + ys.length ≤ 1000000) : rCatR xs ys = .ok (xs ++ ys) := if_pos h
theorem o_cat : Op2 E K rCat rCatR (pV R) (pV R) (pL R) := fun I C H a b x y s hx hy Q q => by
  unfold rCatR at q
  split at q
  · rename_i h
    obtain ⟨p, us, rfl, h2, h3, h4⟩ := pV.at s hx
    obtain ⟨p', us', rfl, h2', h3', h4'⟩ := pV.at s hy
    have hl : us.length + us'.length ≤ sizeLine := by
      rw [h4.len, h4'.len]
      exact Nat.le_trans h (by decide)
    exact ⟨p, p', us, us', rfl, rfl, h2, h2', hl, new_list q s (h4.append h4') (by rw [List.length_append]; exact hl)⟩
  · exact q.elim
def rRepR (xs : List α) (k : Int) : Res (List α) := if k < 1000000 ∧ -1000000 < k ∧ xs.length * k.toNat ≤ 1000000 then .ok (List.replicate k.toNat xs).flatten else .bad
theorem rRepR_ok {xs : List α} {k : Int} (h : k < 1000000 ∧ -1000000 < k ∧ xs.length * k.toNat ≤ 1000000) : rRepR xs k = .ok (List.replicate k.toNat xs).flatten := if_pos h
theorem A2.rep {f : α → V → Prop} {xs : List α} {vs : List V} (h : A2 f xs vs) : ∀ n : Nat, A2 f (List.replicate n xs).flatten (List.replicate n vs).flatten
  | 0 => .nil
  | n + 1 => by
    rw [List.replicate_succ, List.replicate_succ, List.flatten_cons, List.flatten_cons]
    exact h.append (A2.rep h n)
theorem flat_len {vs : List V} : ∀ n : Nat, (List.replicate n vs).flatten.length = vs.length * n
  | 0 => by simp
  | n + 1 => by
    rw [List.replicate_succ, List.flatten_cons, List.length_append, flat_len n, Nat.mul_succ, Nat.add_comm]
theorem o_rep : Op2 E K rRep rRepR (pV R) pI (pL R) := fun I C H a b x y s hx hy Q q => by
  unfold rRepR at q
  split at q
  · rename_i h
    obtain ⟨p, us, rfl, h2, h3, h4⟩ := pV.at s hx
    subst hy
    have hl : us.length * b.toNat ≤ sizeLine := by
      rw [h4.len]
      exact Nat.le_trans h.2.2 (by decide)
    exact ⟨p, b, us, rfl, rfl, h2, by omega, by omega, hl, new_list q s (h4.rep _) (by rw [flat_len]; exact hl)⟩
  · exact q.elim
def idR (xs : α) : Res α := .ok xs
@[simp] theorem idR_eq (xs : α) : idR xs = .ok xs := rfl
theorem o_list : OpL E K (fun xs H Q => ∃ p ys, xs = [.ref p] ∧ (SqL K H p ys ∨ SqT K H p ys) ∧ ∀ l, H l = none → Q (.ref l) (upd H l (.lst ys))) idR (t1 (pV R)) (pL R) := fun I C H a vs s hv Q q => by
  obtain ⟨v, rfl, h⟩ := hv
  obtain ⟨p, us, rfl, h2, h3, h4⟩ := pV.at s h
  exact ⟨p, us, rfl, .inl (.inl (.inl h2)), new_list q s h4 h3⟩
theorem o_listW : OpL E K (fun xs H Q => ∃ p ys, xs = [.ref p] ∧ (SqL K H p ys ∨ SqT K H p ys) ∧ ∀ l, H l = none → Q (.ref l) (upd H l (.lst ys))) idR (t1 (pW K R)) (pL R) := fun I C H a vs s hv Q q => by
  obtain ⟨v, rfl, p, us, rfl, h2, h3, h4⟩ := hv
  exact ⟨p, us, rfl, .inl (ex_l s.i h2), new_list q s h4 h3⟩
theorem o_listQ : OpL E K (fun xs H Q => ∃ p ys, xs = [.ref p] ∧ (SqL K H p ys ∨ SqT K H p ys) ∧ ∀ l, H l = none → Q (.ref l) (upd H l (.lst ys))) idR (t1 (pQ K R)) (pL R) := fun I C H a vs s hv Q q => by
  obtain ⟨v, rfl, p, us, rfl, h2, h3, h4⟩ := hv
  exact ⟨p, us, rfl, .inr (ex_t s.i h2), new_list q s h4 h3⟩
theorem new_tup {xs : List α} {vs : List V} {I C H : Hp} {Q : VK} (q : PQ (pQ K R) I C Q xs) (s : St I C H) (h : A2 (fun x u => R.r x u I C) xs vs) (hl : vs.length ≤ sizeLine) : ∀ p, H p = none → Q (.ref p) (upd H p (.tup vs)) := fun p hp =>
  q (.ref p) (upd I p (.tup vs)) _ (Ex.new (s.i.free hp)) (s.newI hp) ⟨p, vs, rfl, .inl (.inl upd_same), hl, h.imp fun _ _ => R.mono (Ex.new (s.i.free hp)) (Ex.refl _)⟩
theorem o_tuple : OpL E K (fun xs H Q => ∃ p ys, xs = [.ref p] ∧ ((SqL K H p ys ∧ ∀ l, H l = none → Q (.ref l) (upd H l (.tup ys))) ∨ (SqT K H p ys ∧ Q (.ref p) H))) idR (t1 (pV R)) (pQ K R) := fun I C H a vs s hv Q q => by
  obtain ⟨v, rfl, h⟩ := hv
  obtain ⟨p, us, rfl, h2, h3, h4⟩ := pV.at s h
  exact ⟨p, us, rfl, .inl ⟨.inl (.inl h2), new_tup q s h4 h3⟩⟩
theorem o_tupleQ : OpL E K (fun xs H Q => ∃ p ys, xs = [.ref p] ∧ ((SqL K H p ys ∧ ∀ l, H l = none → Q (.ref l) (upd H l (.tup ys))) ∨ (SqT K H p ys ∧ Q (.ref p) H))) idR (t1 (pQ K R)) (pQ K R) := fun I C H a vs s hv Q q => by
  obtain ⟨v, rfl, p, us, rfl, h2, h3, h4⟩ := hv
  exact ⟨p, us, rfl, .inr ⟨ex_t s.i h2, PQ.now q s ⟨p, us, rfl, h2, h3, h4⟩⟩⟩
/-! ### int, max, min, sum, gcd -/
theorem o_int : OpL E K (fun xs H Q => (∃ i, xs = [.int i] ∧ Q (.int i) H) ∨ ∃ k, xs = [.bl k] ∧ Q (.int (if k then 1 else 0)) H) idR (t1 pI) pI := fun I C H a vs s hv Q q => by
  obtain ⟨v, rfl, rfl⟩ := hv
  exact .inl ⟨a, rfl, PQ.now q s rfl⟩
def max2 (p : Int × Int) : Res Int := .ok (if p.2 > p.1 then p.2 else p.1)
def min2 (p : Int × Int) : Res Int := .ok (if p.2 < p.1 then p.2 else p.1)
@[simp] theorem max2_eq (a b : Int) : max2 (a, b) = .ok (max a b) := by
  unfold max2
  congr 1
  show (if b > a then b else a) = max a b
  split <;> omega
@[simp] theorem min2_eq (a b : Int) : min2 (a, b) = .ok (min a b) := by
  unfold min2
  congr 1
  show (if b < a then b else a) = min a b
  split <;> omega
theorem o_max2 : OpL E K (fun xs H Q => ∃ i j, xs = [.int i, .int j] ∧ Q (.int (if j > i then j else i)) H) max2 (tc pI (t1 pI)) pI := fun I C H a vs s hv Q q => by
  obtain ⟨v, us, rfl, rfl, w, rfl, rfl⟩ := hv
  exact ⟨_, _, rfl, PQ.now q s rfl⟩
theorem o_min2 : OpL E K (fun xs H Q => ∃ i j, xs = [.int i, .int j] ∧ Q (.int (if j < i then j else i)) H) min2 (tc pI (t1 pI)) pI := fun I C H a vs s hv Q q => by
  obtain ⟨v, us, rfl, rfl, w, rfl, rfl⟩ := hv
  exact ⟨_, _, rfl, PQ.now q s rfl⟩
def sumR (xs : List Int) : Res Int := .ok xs.sum
@[simp] theorem sumR_eq (xs : List Int) : sumR xs = .ok xs.sum := rfl
theorem o_sum : OpL E K (rSum K) sumR (t1 (pV pI)) pI := fun I C H a vs s hv Q q => by
  obtain ⟨v, rfl, h⟩ := hv
  obtain ⟨p, us, rfl, h2, h3, h4⟩ := pV.at s h
  have eu := A2.map_iff (h := V.int) (fun _ _ h => h) h4
  subst eu
  exact ⟨p, a, rfl, .inl (.inl h2), PQ.now q s rfl⟩
def gcdR (p : Int × Int) : Res Int := .ok ((Nat.gcd p.1.natAbs p.2.natAbs : Nat) : Int)
@[simp] theorem gcdR_eq (a b : Int) : gcdR (a, b) = .ok ((Nat.gcd a.natAbs b.natAbs : Nat) : Int) := rfl
theorem o_gcd : OpL E K rGcd gcdR (tc pI (t1 pI)) pI := fun I C H a vs s hv Q q => by
  obtain ⟨v, us, rfl, rfl, w, rfl, rfl⟩ := hv
  exact ⟨_, _, rfl, PQ.now q s rfl⟩
/-! ### truth of a list -/
def neR' (xs : List α) : Res Bool := .ok (!xs.isEmpty)
@[simp] theorem neR'_eq (xs : List α) : neR' xs = .ok (!xs.isEmpty) := rfl
theorem t_lst {m : Res (List α)} (h : EvX E K te σ I C m (pV R)) : EvT E K (fun σ H Q => te σ H fun x H' => ∃ k, TruV K x H' k ∧ Q k H') σ I C (un neR' m) := fun I1 C1 H1 e e' s Q q =>
  h I1 C1 H1 e e' s _ ((Post.bind q).mono (fun a p v I2 H2 e2 s2 rv => by
    obtain ⟨b, us, rfl, h2, h3, h4⟩ := pV.at s2 rv
    have hb : (!us.isEmpty) = !a.isEmpty := by
      cases h4 <;> rfl
    refine ⟨!a.isEmpty, .inl ⟨us, .inl (.inl h2), hb.symm⟩, p I2 H2 e2 s2⟩) fun _ _ z => z)
/-! ### isinstance, where the kind is known -/
def pY (n : String) : Rp Unit := ⟨fun _ v _ _ => v = .ty n, fun _ _ h => h⟩
instance {n : String} : Im (pY n) := ⟨fun h => h⟩
end
end Sd

namespace Sd
open PySem L2
/-! ### what a for walks -/
def EvI (E : XK) (K : PySem.W.Frag) (wi : TI) (σ : L2.St) (I C : Hp) (kp : Hp → Prop) {α : Type} (m : Res (List α)) (R : Rp α) : Prop :=
  ∀ I1 C1 H1, Ex I I1 → Ex C C1 → St I1 C1 H1 → ∀ Kt : L2.It → Hp → Prop, Post m (fun xs => ∀ J G Y I2 H2, Ex I1 I2 → St I2 C1 H2 → xs.length ≤ sizeLine → Walk J xs.length G Y →
    (∀ I3 C3 H3, Ex I2 I3 → kp C3 → St I3 C3 H3 → G H3) →
    (∀ i x v I3 C3 H3 H4, xs[i]? = some x → Ex I2 I3 → kp C3 → St I3 C3 H3 → Y i H3 v H4 → ∃ I4, Ex I3 I4 ∧ St I4 C3 H4 ∧ R.r x v I4 C3) → Kt J H2) (PX E K I1 C1) → wi σ H1 Kt
abbrev kpT : Hp → Prop := fun _ => True
def rangeL (lo hi : Int) : List Int := (List.range (hi - lo).toNat).map fun i : Nat => lo + ((i : Nat) : Int)
def rng1 (n : Int) : Res (List Int) := if n ≤ 1000000 ∧ -1000000 ≤ n then .ok (rangeL 0 n) else .bad
def rng2 (p : Int × Int) : Res (List Int) := if p.1 ≤ 1000000 ∧ -1000000 ≤ p.1 ∧ p.2 ≤ 1000000 ∧ -1000000 ≤ p.2 then .ok (rangeL p.1 p.2) else .bad
theorem rng1_ok {n : Int} (h : n ≤ 1000000 ∧ -1000000 ≤ n) : rng1 n = .ok (rangeL 0 n) := if_pos h
theorem rng2_ok {a b : Int} (h : a ≤ 1000000 ∧ -1000000 ≤ a ∧ b ≤ 1000000 ∧ -1000000 ≤ b) : rng2 (a, b) = .ok (rangeL a b) := if_pos h
@[simp] theorem rangeL_length (lo hi : Int) : (rangeL lo hi).length = (hi - lo).toNat := by unfold rangeL; rw [List.length_map, List.length_range]
theorem rangeL_get {lo hi : Int} {i : Nat} {x : Int} (h : (rangeL lo hi)[i]? = some x) : x = lo + (i : Int) := by
  unfold rangeL at h
  rw [List.getElem?_map] at h
  cases q : (List.range (hi - lo).toNat)[i]? with
  | none =>
    rw [q] at h
    cases h
  | some j =>
    rw [q] at h
    have hj : j = i := by
      obtain ⟨_, e⟩ := List.getElem?_eq_some_iff.mp q
      rw [List.getElem_range] at e
      exact e.symm
    rw [← hj]
    exact (Option.some.inj h).symm
theorem mem_rangeL {lo hi x : Int} : x ∈ rangeL lo hi ↔ lo ≤ x ∧ x < hi := by
  unfold rangeL
  rw [List.mem_map]
  constructor
  · rintro ⟨i, h, rfl⟩
    rw [List.mem_range] at h
    omega
  · intro h
    exact ⟨(x - lo).toNat, List.mem_range.mpr (by omega), by show lo + (((x - lo).toNat : Nat) : Int) = x; omega⟩
def enumF {α : Type} (k : Int) : List α → List (Int × α)
  | [] => []
  | x :: xs => (k, x) :: enumF (k + 1) xs
def enumR {α : Type} (xs : List α) : Res (List (Int × α)) := .ok (enumF 0 xs)
@[simp] theorem enumR_eq {α : Type} (xs : List α) : enumR xs = .ok (enumF 0 xs) := rfl
@[simp] theorem enumF_length {α : Type} : ∀ (xs : List α) (k : Int), (enumF k xs).length = xs.length
  | [], _ => rfl
  | _ :: xs, k => by rw [enumF, List.length_cons, List.length_cons, enumF_length xs]
theorem enumF_get {α : Type} : ∀ (xs : List α) (k : Int) (i : Nat), (enumF k xs)[i]? = xs[i]?.map fun x => (k + (i : Int), x)
  | [], _, _ => by simp [enumF]
  | x :: xs, k, 0 => by simp [enumF]
  | x :: xs, k, i + 1 => by
    rw [enumF, List.getElem?_cons_succ, List.getElem?_cons_succ, enumF_get xs (k + 1) i]
    cases xs[i]? with
    | none => rfl
    | some y =>
      simp only [Option.map_some, Option.some.injEq, Prod.mk.injEq, and_true]
      omega
def zipR {α β : Type} (p : List α × List β) : Res (List (α × β)) := .ok (p.1.zip p.2)
@[simp] theorem zipR_eq {α β : Type} (a : List α) (b : List β) : zipR (a, b) = .ok (a.zip b) := rfl
section
variable {E : XK} {K : PySem.W.Frag} {σ : L2.St} {I C : Hp} {α β γ : Type} {R : Rp α} {S : Rp β} {T : Rp γ} {te : TE} {ta : TA} {m : Res (List α)}
theorem i_list [Im R] (h : EvX E K te σ I C m (pL R)) : EvI E K (iList K te) σ I C kpT m R := fun I1 C1 H1 e e' s Kt q =>
  h I1 C1 H1 e e' s _ (q.mono (fun xs p v I2 H2 e2 s2 ⟨a, vs, h1, h2, h3, h4⟩ => ⟨a, h1, ⟨vs, .inl (.inl (s2.i a _ h2))⟩, by
    have hl := h4.len
    refine p (Itl K a) (fun H => SqL K H a vs) (YAt vs) I2 H2 e2 s2 (by omega) (by rw [← hl]; exact walk_list) (fun I3 C3 H3 e3 _ s3 => .inl (.inl (s3.i a _ (e3 a _ h2)))) (fun i x v' I3 C3 H3 H4 hx e3 _ s3 y => ?_)
    obtain ⟨rfl, y⟩ := y
    obtain ⟨w, hw, r⟩ := h4.get' hx
    rw [hw] at y
    cases y
    exact ⟨I3, Ex.refl _, s3, R.to e3 r⟩⟩) fun _ _ z => z)
/-- over a list that is a cell: the turns leave it as it is -/
theorem i_cell [Im R] {i : Nat} {a : Addr} {vs : List V} {xs : List α} (h : σ[i]? = some (some (.ref a))) (hc : C a = some (.lst vs)) (hl : vs.length ≤ sizeLine) (hr : A2 (fun x u => R.r x u I C) xs vs) :
    EvI E K (iList K (tVar i)) σ I C (fun C3 => C3 a = some (.lst vs)) (.ok xs) R := fun I1 C1 H1 e e' s Kt q =>
  ⟨.ref a, h, a, rfl, ⟨vs, .inl (.inl (s.c a _ (e' a _ hc)))⟩, by
    have hn := hr.len
    refine q (Itl K a) (fun H => SqL K H a vs) (YAt vs) I1 H1 (Ex.refl _) s (by omega) (by rw [← hn]; exact walk_list) (fun I3 C3 H3 e3 k3 s3 => .inl (.inl (s3.c a _ k3))) (fun i x v' I3 C3 H3 H4 hx e3 _ s3 y => ?_)
    obtain ⟨rfl, y⟩ := y
    obtain ⟨w, hw, r⟩ := hr.get' hx
    rw [hw] at y
    cases y
    exact ⟨I3, Ex.refl _, s3, R.to (e.trans e3) r⟩⟩
theorem i_script [Im R] (h : EvX E K te σ I C m (pW K R)) : EvI E K (iList K te) σ I C kpT m R := fun I1 C1 H1 e e' s Kt q =>
  h I1 C1 H1 e e' s _ (q.mono (fun xs p v I2 H2 e2 s2 ⟨a, vs, h1, h2, h3, h4⟩ => ⟨a, h1, ⟨vs, ex_l s2.i h2⟩, by
    have hl := h4.len
    refine p (Itl K a) (fun H => SqL K H a vs) (YAt vs) I2 H2 e2 s2 (by omega) (by rw [← hl]; exact walk_list) (fun I3 C3 H3 e3 _ s3 => ex_l (e3.trans s3.i) h2) (fun i x v' I3 C3 H3 H4 hx e3 _ s3 y => ?_)
    obtain ⟨rfl, y⟩ := y
    obtain ⟨w, hw, r⟩ := h4.get' hx
    rw [hw] at y
    cases y
    exact ⟨I3, Ex.refl _, s3, R.to e3 r⟩⟩) fun _ _ z => z)
theorem i_tup [Im R] (h : EvX E K te σ I C m (pQ K R)) : EvI E K (iTup K te) σ I C kpT m R := fun I1 C1 H1 e e' s Kt q =>
  h I1 C1 H1 e e' s _ (q.mono (fun xs p v I2 H2 e2 s2 ⟨a, vs, h1, h2, h3, h4⟩ => ⟨a, h1, ⟨vs, ex_t s2.i h2⟩, by
    have hl := h4.len
    refine p (Itt K a) (fun H => SqT K H a vs) (YAt vs) I2 H2 e2 s2 (by omega) (by rw [← hl]; exact walk_tup) (fun I3 C3 H3 e3 _ s3 => ex_t (e3.trans s3.i) h2) (fun i x v' I3 C3 H3 H4 hx e3 _ s3 y => ?_)
    obtain ⟨rfl, y⟩ := y
    obtain ⟨w, hw, r⟩ := h4.get' hx
    rw [hw] at y
    cases y
    exact ⟨I3, Ex.refl _, s3, R.to e3 r⟩⟩) fun _ _ z => z)
theorem i_rng1 {m : Res Int} (h : EvA E K ta σ I C m (t1 pI)) : EvI E K (iRng1 ta) σ I C kpT (un rng1 m) pI := fun I1 C1 H1 e e' s Kt q =>
  h I1 C1 H1 e e' s _ ((Post.bind q).mono (fun n p vs I2 H2 e2 s2 ⟨v, hv, rv⟩ => by
    unfold rng1 at p
    split at p
    · rename_i hn
      have hv1 : v = .int n := rv
      subst hv hv1
      refine ⟨n, rfl, by omega, by omega, p (Itr 0 n.toNat) (fun _ => True) (YFn fun i => .int (0 + i)) I2 H2 e2 s2 (by rw [rangeL_length]; exact Nat.le_trans (show (n - 0).toNat ≤ 1000000 by omega) (by decide)) (by rw [rangeL_length, Int.sub_zero]; exact walk_range) (fun _ _ _ _ _ _ => trivial) (fun i x v' I3 C3 H3 H4 hx e3 _ s3 y => ?_)⟩
      obtain ⟨rfl, rfl⟩ := y
      rw [rangeL_get hx]
      exact ⟨I3, Ex.refl _, s3, rfl⟩
    · exact p.elim) fun _ _ z => z)
theorem i_rng2 {m : Res (Int × Int)} (h : EvA E K ta σ I C m (tc pI (t1 pI))) : EvI E K (iRng2 ta) σ I C kpT (un rng2 m) pI := fun I1 C1 H1 e e' s Kt q =>
  h I1 C1 H1 e e' s _ ((Post.bind q).mono (fun n p vs I2 H2 e2 s2 ⟨v, us, hv, rv, w, hw, rw⟩ => by
    unfold rng2 at p
    split at p
    · rename_i hn
      have hv1 : v = .int n.1 := rv
      have hw1 : w = .int n.2 := rw
      subst hv hw hv1 hw1
      refine ⟨n.1, n.2, rfl, by omega, p (Itr n.1 (n.2 - n.1).toNat) (fun _ => True) (YFn fun i => .int (n.1 + i)) I2 H2 e2 s2 (by rw [rangeL_length]; exact Nat.le_trans (show (n.2 - n.1).toNat ≤ 2000000 by omega) (by decide)) (by rw [rangeL_length]; exact walk_range) (fun _ _ _ _ _ _ => trivial) (fun i x v' I3 C3 H3 H4 hx e3 _ s3 y => ?_)⟩
      obtain ⟨rfl, rfl⟩ := y
      rw [rangeL_get hx]
      exact ⟨I3, Ex.refl _, s3, rfl⟩
    · exact p.elim) fun _ _ z => z)
theorem new_pair {I C H : Hp} {T : Addr} {x y : V} {a : α} {b : β} (s : St I C H) (ht : H T = none) (hx : R.r a x I C) (hy : S.r b y I C) :
    ∃ I4, Ex I I4 ∧ St I4 C (upd H T (.tup [x, y])) ∧ (pT (tc R (t1 S))).r (a, b) (.ref T) I4 C :=
  ⟨upd I T (.tup [x, y]), Ex.new (s.i.free ht), s.newI ht, T, _, rfl, upd_same, x, [y], rfl, R.mono (Ex.new (s.i.free ht)) (Ex.refl _) hx, y, rfl, S.mono (Ex.new (s.i.free ht)) (Ex.refl _) hy⟩
theorem i_enum [Im R] (h : EvA E K ta σ I C m (t1 (pL R))) : EvI E K (iEnum K ta) σ I C kpT (un enumR m) (pT (tc pI (t1 R))) := fun I1 C1 H1 e e' s Kt q =>
  h I1 C1 H1 e e' s _ ((Post.bind q).mono (fun xs p vs I2 H2 e2 s2 ⟨v, hv, a, us, h1, h2, h3, h4⟩ => by
    subst hv h1
    have hl := h4.len
    refine ⟨a, us, rfl, .inl (.inl (s2.i a _ h2)), p (Ite K a) (fun H => SqL K H a us) (YPair (fun i => some (.int (i : Nat))) (fun i => us[i]?)) I2 H2 e2 s2 (by rw [enumF_length]; omega) (by rw [enumF_length, ← hl]; exact walk_enum) (fun I3 C3 H3 e3 _ s3 => .inl (.inl (s3.i a _ (e3 a _ h2)))) (fun i x v' I3 C3 H3 H4 hx e3 _ s3 y => ?_)⟩
    obtain ⟨T, u, w, rfl, hT, rfl, hu, hw⟩ := y
    rw [enumF_get] at hx
    cases hz : xs[i]? with
    | none =>
      rw [hz] at hx
      cases hx
    | some z =>
      rw [hz] at hx
      cases hx
      obtain ⟨w', hw', r⟩ := h4.get' hz
      have hw2 : us[i]? = some w := hw
      rw [hw'] at hw2
      cases hw2
      cases hu
      exact new_pair s3 hT (show V.int (i : Nat) = V.int (0 + (i : Int)) by rw [Int.zero_add]) (R.to e3 r)) fun _ _ z => z)
theorem i_zip [Im R] [Im S] {m : Res (List α × List β)} (h : EvA E K ta σ I C m (tc (pL R) (t1 (pL S)))) : EvI E K (iZip K ta) σ I C kpT (un zipR m) (pT (tc R (t1 S))) := fun I1 C1 H1 e e' s Kt q =>
  h I1 C1 H1 e e' s _ ((Post.bind q).mono (fun xs p vs I2 H2 e2 s2 ⟨v, us0, hv, ⟨a, us, h1, h2, h3, h4⟩, v', hv', a', us', h1', h2', h3', h4'⟩ => by
    subst hv hv' h1 h1'
    have hl := h4.len
    have hl' := h4'.len
    refine ⟨a, a', us, us', rfl, .inl (.inl (s2.i a _ h2)), .inl (.inl (s2.i a' _ h2')), p (Itz K a a') (fun H => SqL K H a us ∧ SqL K H a' us') (YPair (fun i => us[i]?) (fun i => us'[i]?)) I2 H2 e2 s2 (by rw [List.length_zip]; omega) (walk_zip (by rw [List.length_zip, hl, hl']))
      (fun I3 C3 H3 e3 _ s3 => ⟨.inl (.inl (s3.i a _ (e3 a _ h2))), .inl (.inl (s3.i a' _ (e3 a' _ h2')))⟩) (fun i x v' I3 C3 H3 H4 hx e3 _ s3 y => ?_)⟩
    obtain ⟨T, u, w, rfl, hT, rfl, hu, hw⟩ := y
    obtain ⟨x1, x2⟩ := x
    obtain ⟨hx1, hx2⟩ := List.getElem?_zip_eq_some.mp hx
    obtain ⟨w1, hw1, r1⟩ := h4.get' hx1
    obtain ⟨w2, hw2, r2⟩ := h4'.get' hx2
    have hu2 : us[i]? = some u := hu
    have hw3 : us'[i]? = some w := hw
    rw [hw1] at hu2
    cases hu2
    rw [hw2] at hw3
    cases hw3
    exact new_pair s3 hT (R.to e3 r1) (S.to e3 r2)) fun _ _ z => z)
/-! ### targets -/
def Tg (K : PySem.W.Frag) {α : Type} (g : TG) (R : Rp α) (σ : L2.St) (P : α → L2.St → Hp → Hp → Prop) : Prop := ∀ x v I C H Q, St I C H → R.r x v I C → (∀ σ2, P x σ2 I C → Q σ2 H) → g v σ H Q
theorem g_name {i : Nat} : Tg K (gName i) R σ (fun x σ2 I C => ∃ v, σ2 = σ.set i (some v) ∧ R.r x v I C) := fun x v I C H Q s r k => k _ ⟨v, rfl, r⟩
theorem g_two {i j : Nat} : Tg K (gTup K 2 (gCons (gName i) (gCons (gName j) gNil))) (pT (tc R (t1 S))) σ (fun x σ2 I C => ∃ u w, σ2 = (σ.set i (some u)).set j (some w) ∧ R.r x.1 u I C ∧ S.r x.2 w I C) := fun x v I C H Q s r k => by
  obtain ⟨a, vs, rfl, h2, u, us, rfl, h3, w, rfl, h4⟩ := r
  exact ⟨a, _, rfl, .inl (.inl (s.i _ _ h2)), rfl, u, _, rfl, w, _, rfl, rfl, k _ ⟨u, w, rfl, h3, h4⟩⟩
theorem g_three {i j l : Nat} : Tg K (gTup K 3 (gCons (gName i) (gCons (gName j) (gCons (gName l) gNil)))) (pT (tc R (tc S (t1 T)))) σ
    (fun x σ2 I C => ∃ u w z, σ2 = ((σ.set i (some u)).set j (some w)).set l (some z) ∧ R.r x.1 u I C ∧ S.r x.2.1 w I C ∧ T.r x.2.2 z I C) := fun x v I C H Q s r k => by
  obtain ⟨a, vs, rfl, h2, u, us, rfl, h3, w, us', rfl, h4, z, rfl, h5⟩ := r
  exact ⟨a, _, rfl, .inl (.inl (s.i _ _ h2)), rfl, u, _, rfl, w, _, rfl, z, _, rfl, rfl, k _ ⟨u, w, z, rfl, h3, h4, h5⟩⟩
/-! ### comprehensions (an element that raises is not served) -/
def mapR (f : α → Res β) : List α → Res (List β)
  | [] => .ok []
  | x :: xs => match f x with
    | .ok y => (mapR f xs).bind fun ys => .ok (y :: ys)
    | _ => .bad
def filR (p : α → Res Bool) (f : α → Res β) : List α → Res (List β)
  | [] => .ok []
  | x :: xs => match p x with
    | .ok true => (match f x with
      | .ok y => (filR p f xs).bind fun ys => .ok (y :: ys)
      | _ => .bad)
    | .ok false => filR p f xs
    | _ => .bad
theorem mapR_ok {f : α → Res β} {g : α → β} : ∀ {xs : List α}, (∀ x, x ∈ xs → f x = .ok (g x)) → mapR f xs = .ok (xs.map g)
  | [], _ => rfl
  | x :: xs, h => by
    unfold mapR
    rw [h x List.mem_cons_self]
    show (mapR f xs).bind _ = _
    rw [mapR_ok (xs := xs) fun y hy => h y (List.mem_cons_of_mem _ hy)]
    rfl
theorem filR_ok {p : α → Res Bool} {f : α → Res β} {q : α → Bool} {g : α → β} : ∀ {xs : List α}, (∀ x, x ∈ xs → p x = .ok (q x)) → (∀ x, x ∈ xs → q x = true → f x = .ok (g x)) → filR p f xs = .ok ((xs.filter q).map g)
  | [], _, _ => rfl
  | x :: xs, h, h' => by
    have ih := filR_ok (xs := xs) (fun y hy => h y (List.mem_cons_of_mem _ hy)) (fun y hy => h' y (List.mem_cons_of_mem _ hy))
    unfold filR
    rw [h x List.mem_cons_self]
    cases hq : q x with
    | true =>
      show (match f x with
        | .ok y => (filR p f xs).bind fun ys => .ok (y :: ys)
        | _ => .bad) = _
      rw [h' x List.mem_cons_self hq, List.filter_cons, hq]
      show (filR p f xs).bind _ = _
      rw [ih]
      rfl
    | false =>
      show filR p f xs = _
      rw [ih, List.filter_cons, hq]
      rfl
@[simp] theorem mapR_okf (g : α → β) (xs : List α) : mapR (fun x => .ok (g x)) xs = .ok (xs.map g) := mapR_ok fun _ _ => rfl
@[simp] theorem filR_okf (q : α → Bool) (g : α → β) (xs : List α) : filR (fun x => .ok (q x)) (fun x => .ok (g x)) xs = .ok ((xs.filter q).map g) := filR_ok (fun _ _ => rfl) (fun _ _ _ => rfl)
abbrev EZ : XK := fun _ _ _ => False
theorem drop_cons {xs : List α} {i : Nat} {x : α} (h : xs[i]? = some x) : xs.drop i = x :: xs.drop (i + 1) := by
  obtain ⟨hi, e⟩ := List.getElem?_eq_some_iff.mp h
  rw [← e]
  exact List.drop_eq_getElem_cons hi
/-- what stands between two turns: ys made so far, the rest gives what is wanted -/
def Lc (S : Rp β) (I C : Hp) (D : Addr) (rest : Res (List β)) (W : List β → Prop) (n : Nat) (H : Hp) : Prop :=
  ∃ (ys : List β) (vs : List V) (I' : Hp), Ex I I' ∧ St I' (upd C D (.lst vs)) H ∧ vs.length ≤ n ∧ A2 (fun x u => S.r x u I' C) ys vs ∧ Post rest (fun zs => W (ys ++ zs)) (fun _ _ => False)
theorem PX.no {K : PySem.W.Frag} {I C : Hp} {c : Ec} {i : Int} (h : False) : PX EZ K I C c i := h.elim
theorem x_lcgK [Im S] {wi : TI} {g : TG} {tt : TT} {vs : List Nat} {p : α → Res Bool} {f : α → Res β} {P : α → L2.St → Hp → Hp → Prop} {kp : Hp → Prop} (hi : EvI E K wi σ I C kp m R) (hkp : ∀ C3, Ex C C3 → kp C3) (hg : Tg K g R (wipe σ vs) P)
    (hw : ∀ x σ2 I' C', P x σ2 I' C' → wipe σ2 vs = wipe σ vs)
    (hp : ∀ x σ2 I' C', Ex I I' → Ex C C' → P x σ2 I' C' → EvT EZ K tt σ2 I' C' (p x))
    (hf : ∀ x σ2 I' C', Ex I I' → Ex C C' → P x σ2 I' C' → EvX EZ K te σ2 I' C' (f x) S)
    (hm : ∀ x σ2 I' I2 C', Ex I' I2 → P x σ2 I' C' → P x σ2 I2 C') : EvX E K (tLc wi g tt te vs) σ I C (m.bind (filR p f)) (pL S) := fun I1 C1 H1 e e' s Q q =>
  hi I1 C1 H1 e e' s _ ((Post.bind q).mono (fun xs q2 J G Y I2 H2 e2 s2 hz w hG hY D hD => by
    have cD : C1 D = none := s2.c.free hD
    refine lc_it w (fun i H => Lc S I2 C1 D (filR p f (xs.drop i)) (PQ (pL S) I1 C1 Q) i H) ⟨[], [], I2, Ex.refl _, s2.newC hD, Nat.le_refl _, .nil, ?_⟩ (fun i H hi ⟨_, vs', I', e3, s3, _⟩ => hG I' _ H e3 (hkp _ (e'.trans (Ex.new cD))) s3) (fun i x H H' hi ⟨ys, us, I', e3, s3, hn, r3, po⟩ y => ?_) (fun H ⟨ys, us, I', e3, s3, hn, r3, po⟩ => ?_)
    · cases hfil : filR p f xs with
      | ok zs =>
        rw [hfil] at q2
        show Post (filR p f (xs.drop 0)) _ _
        rw [List.drop_zero, hfil]
        exact q2
      | exc c i =>
        exfalso
        revert hfil
        clear q2 hG hY w hz
        induction xs with
        | nil =>
          intro z
          cases z
        | cons x xs ih =>
          unfold filR
          cases p x with
          | ok b =>
            cases b with
            | true =>
              cases f x with
              | ok y =>
                intro z
                cases hh : filR p f xs with
                | ok zs =>
                  simp only [hh] at z
                  cases z
                | exc c' i' =>
                  simp only [hh] at z
                  have z2 : (Res.exc c' i' : Res (List β)) = .exc c i := z
                  cases z2
                  exact ih hh
                | bad =>
                  simp only [hh] at z
                  cases z
              | exc _ _ => intro z; cases z
              | bad => intro z; cases z
            | false => exact ih
          | exc _ _ => intro z; cases z
          | bad => intro z; cases z
      | bad =>
        rw [hfil] at q2
        exact q2.elim
    · obtain ⟨a, ha⟩ : ∃ a, xs[i]? = some a := ⟨xs[i], by simp [hi]⟩
      rw [drop_cons ha] at po
      obtain ⟨I4, e4, s4, ra⟩ := hY i a x I' _ H H' ha e3 (hkp _ (e'.trans (Ex.new cD))) s3 y
      refine hg a x I4 _ H' _ s4 ra fun σ2 pa => ⟨hw _ _ _ _ pa, ?_⟩
      have eI : Ex I I4 := e.trans (e2.trans (e3.trans e4))
      have eC : Ex C (upd C1 D (.lst us)) := e'.trans (Ex.new cD)
      unfold filR at po
      refine hp a σ2 I4 _ eI eC pa I4 _ H' (Ex.refl _) (Ex.refl _) s4 _ ?_
      cases hpa : p a with
      | ok b =>
        rw [hpa] at po
        cases b with
        | true =>
          show ∀ I5 H5, Ex I4 I5 → St I5 (upd C1 D (.lst us)) H5 → te σ2 H5 _
          intro I5 H5 e5 s5
          refine hf a σ2 I5 _ (eI.trans e5) eC (hm _ _ _ _ _ e5 pa) I5 _ H5 (Ex.refl _) (Ex.refl _) s5 _ ?_
          cases hfa : f a with
          | ok b =>
            have po2 : Post ((filR p f (xs.drop (i + 1))).bind fun ys => .ok (b :: ys)) (fun zs => PQ (pL S) I1 C1 Q (ys ++ zs)) (fun _ _ => False) := by
              have z := po
              simp only [hfa] at z
              exact z
            intro v I6 H6 e6 s6 rv
            have hsz : us.length < sizeLine := Nat.lt_of_le_of_lt hn (Nat.lt_of_lt_of_le hi hz)
            refine ⟨us, s6.c D _ upd_same, hsz, ⟨ys ++ [b], us ++ [v], I6, e3.trans (e4.trans (e5.trans e6)), ?_, by rw [List.length_append]; exact Nat.succ_le_succ hn, ?_, ?_⟩⟩
            · have z := s6.set (o := .lst (us ++ [v])) (p := D) upd_same
              rw [upd_upd] at z
              exact z
            · exact (r3.imp fun _ _ => S.mono (e4.trans (e5.trans e6)) (Ex.refl _)).append (.one (Im.im rv))
            · refine (Post.bind po2).mono (fun zs z => ?_) fun _ _ z => z
              rw [List.append_assoc]
              exact z
          | exc c j =>
            have z := po
            simp only [hfa] at z
            exact z.elim
          | bad =>
            have z := po
            simp only [hfa] at z
            exact z.elim
        | false =>
          show ∀ I5 H5, Ex I4 I5 → St I5 (upd C1 D (.lst us)) H5 → Lc S I2 C1 D (filR p f (xs.drop (i + 1))) (PQ (pL S) I1 C1 Q) (i + 1) H5
          intro I5 H5 e5 s5
          exact ⟨ys, us, I5, e3.trans (e4.trans e5), s5, Nat.le_succ_of_le hn, r3.imp fun _ _ => S.mono (e4.trans e5) (Ex.refl _), po⟩
      | exc c j =>
        rw [hpa] at po
        exact po.elim
      | bad =>
        rw [hpa] at po
        exact po.elim
    · rw [List.drop_length] at po
      have po2 : PQ (pL S) I1 C1 Q (ys ++ []) := po
      rw [List.append_nil] at po2
      have sf := s3.frz (p := D) upd_same
      have iD : I' D = none := s3.freeI upd_same
      refine po2 (.ref D) (upd I' D (.lst us)) H (e2.trans (e3.trans (Ex.new iD))) (sf.less fun a o ha => ?_) ⟨D, us, rfl, upd_same, Nat.le_trans hn hz, r3.imp fun _ _ => S.mono (Ex.new iD) (Ex.refl _)⟩
      have hne : a ≠ D := fun z => by
        rw [z, cD] at ha
        cases ha
      show (if a = D then none else upd C1 D (.lst us) a) = some o
      rw [if_neg hne, upd_ne hne]
      exact ha) fun _ _ z => z)
theorem x_lcg [Im S] {wi : TI} {g : TG} {tt : TT} {vs : List Nat} {p : α → Res Bool} {f : α → Res β} {P : α → L2.St → Hp → Hp → Prop} (hi : EvI E K wi σ I C kpT m R) (hg : Tg K g R (wipe σ vs) P)
    (hw : ∀ x σ2 I' C', P x σ2 I' C' → wipe σ2 vs = wipe σ vs)
    (hp : ∀ x σ2 I' C', Ex I I' → Ex C C' → P x σ2 I' C' → EvT EZ K tt σ2 I' C' (p x))
    (hf : ∀ x σ2 I' C', Ex I I' → Ex C C' → P x σ2 I' C' → EvX EZ K te σ2 I' C' (f x) S)
    (hm : ∀ x σ2 I' I2 C', Ex I' I2 → P x σ2 I' C' → P x σ2 I2 C') : EvX E K (tLc wi g tt te vs) σ I C (m.bind (filR p f)) (pL S) := x_lcgK hi (fun _ _ => trivial) hg hw hp hf hm
theorem filR_yes (f : α → Res β) : ∀ xs : List α, filR (fun _ => .ok true) f xs = mapR f xs
  | [] => rfl
  | x :: xs => by
    unfold filR mapR
    rw [filR_yes f xs]
theorem t_yes : EvT E K tYes σ I C (.ok true) := fun I1 C1 H1 e e' s Q q => q I1 H1 (Ex.refl _) s
theorem x_lc [Im S] {wi : TI} {g : TG} {vs : List Nat} {f : α → Res β} {P : α → L2.St → Hp → Hp → Prop} (hi : EvI E K wi σ I C kpT m R) (hg : Tg K g R (wipe σ vs) P)
    (hw : ∀ x σ2 I' C', P x σ2 I' C' → wipe σ2 vs = wipe σ vs)
    (hf : ∀ x σ2 I' C', Ex I I' → Ex C C' → P x σ2 I' C' → EvX EZ K te σ2 I' C' (f x) S)
    (hm : ∀ x σ2 I' I2 C', Ex I' I2 → P x σ2 I' C' → P x σ2 I2 C') : EvX E K (tLc wi g tYes te vs) σ I C (m.bind (mapR f)) (pL S) := by
  have z := x_lcg (p := fun _ => .ok true) hi hg hw (fun x σ2 I' C' _ _ _ => t_yes) hf hm
  have e : filR (fun _ => Res.ok true) f = mapR f := funext (filR_yes f)
  rw [e] at z
  exact z
theorem x_lcK [Im S] {wi : TI} {g : TG} {vs : List Nat} {f : α → Res β} {P : α → L2.St → Hp → Hp → Prop} {kp : Hp → Prop} (hi : EvI E K wi σ I C kp m R) (hkp : ∀ C3, Ex C C3 → kp C3) (hg : Tg K g R (wipe σ vs) P)
    (hw : ∀ x σ2 I' C', P x σ2 I' C' → wipe σ2 vs = wipe σ vs)
    (hf : ∀ x σ2 I' C', Ex I I' → Ex C C' → P x σ2 I' C' → EvX EZ K te σ2 I' C' (f x) S)
    (hm : ∀ x σ2 I' I2 C', Ex I' I2 → P x σ2 I' C' → P x σ2 I2 C') : EvX E K (tLc wi g tYes te vs) σ I C (m.bind (mapR f)) (pL S) := by
  have z := x_lcgK (p := fun _ => .ok true) hi hkp hg hw (fun x σ2 I' C' _ _ _ => t_yes) hf hm
  have e : filR (fun _ => Res.ok true) f = mapR f := funext (filR_yes f)
  rw [e] at z
  exact z
end
end Sd

namespace Sd
open PySem L2
/-! ### promises -/
/-- f(a ..) hands back what the mirror m tells; nothing changes -/
def spP (K : PySem.W.Frag) {α β : Type} (T : Rt α) (m : α → Res β) (R : Rp β) : Sp := fun vs H Q E => ∃ (I C : Hp) (a : α), St I C H ∧ T.r a vs I C ∧ Post (m a) (PQ R I C Q) (PX E K I C)
/-- f(pool, a ..): the list at the first place changes; nothing is raised -/
def spM {α β μ : Type} (M : Rt μ) (T : Rt α) (m : α → μ → Res (β × μ)) (R : Rp β) : Sp := fun vs H Q _ => ∃ (I C : Hp) (p : Addr) (ws us : List V) (x : μ) (a : α), vs = .ref p :: us ∧ St I C H ∧ C p = some (.lst ws) ∧ M.r x ws I C ∧ T.r a us I C ∧
  Post (m a x) (fun b => ∀ v ws' I2 H2, Ex I I2 → St I2 (upd C p (.lst ws')) H2 → M.r b.2 ws' I2 (upd C p (.lst ws')) → R.r b.1 v I2 (upd C p (.lst ws')) → Q v H2) (fun _ _ => False)
inductive Out (S ρ : Type) where
  | nx (s : S)
  | br (s : S)
  | rt (r : ρ)
section
variable {α β S ρ : Type}
def loopN (f : α → S → Res S) : List α → S → Res S
  | [], s => .ok s
  | x :: xs, s => (f x s).bind fun s' => loopN f xs s'
def loopR (f : α → S → Res (Out S ρ)) : List α → S → Res (Out S ρ)
  | [], s => .ok (.nx s)
  | x :: xs, s => (f x s).bind fun o => match o with
    | .nx s' => loopR f xs s'
    | .br s' => .ok (.nx s')
    | .rt r => .ok (.rt r)
def whileF (c : S → Res Bool) (f : S → Res (Out S ρ)) : Nat → S → Res (Out S ρ)
  | 0, _ => .bad
  | n + 1, s => (c s).bind fun b => if b = true then (f s).bind fun o => match o with
    | .nx s' => whileF c f n s'
    | .br s' => .ok (.nx s')
    | .rt r => .ok (.rt r) else .ok (.nx s)
def whileN (c : S → Res Bool) (f : S → Res S) : Nat → S → Res S
  | 0, _ => .bad
  | n + 1, s => (c s).bind fun b => if b = true then (f s).bind fun s' => whileN c f n s' else .ok s
theorem loopN_ok {f : α → S → Res S} {g : S → α → S} : ∀ {xs : List α} {s : S}, (∀ x, x ∈ xs → ∀ s, f x s = .ok (g s x)) → loopN f xs s = .ok (xs.foldl g s)
  | [], s, _ => rfl
  | x :: xs, s, h => by
    unfold loopN
    rw [h x List.mem_cons_self]
    exact loopN_ok (xs := xs) fun y hy => h y (List.mem_cons_of_mem _ hy)
theorem loopN_cons (f : α → S → Res S) (x : α) (xs : List α) (s : S) : loopN f (x :: xs) s = (f x s).bind fun s' => loopN f xs s' := rfl
theorem loopR_cons (f : α → S → Res (Out S ρ)) (x : α) (xs : List α) (s : S) : loopR f (x :: xs) s = (f x s).bind fun o => match o with
    | .nx s' => loopR f xs s'
    | .br s' => .ok (.nx s')
    | .rt r => .ok (.rt r) := rfl
end
abbrev XH (X : Ec → Int → Prop) (E : XK) (K : PySem.W.Frag) (I C : Hp) : Prop := ∀ c i, X c i → PX E K I C c i
section
variable {E : XK} {K : PySem.W.Frag} {σ : L2.St} {I C H : Hp} {α β γ ω S ρ μ : Type} {R : Rp α} {te : TE} {ta : TA} {tt : TT} {tz tu tw : TS} {D : Ends} {m : Res α} {Q : ω → Prop} {X : Ec → Int → Prop}
/-! ### calls of defs -/
theorem x_call {T : Rt α} {f : α → Res β} {R : Rp β} (h : EvA E K ta σ I C m T) : EvX E K (tCall (spP K T f R) [] E ta) σ I C (un f m) R := fun I1 C1 H1 e e' s Q q =>
  h I1 C1 H1 e e' s _ ((Post.bind q).mono (fun a p vs I2 H2 e2 s2 rv => by
    refine ⟨I2, C1, a, s2, by rw [List.append_nil]; exact rv, Post.mono (m := f a) p (fun b z v I3 H3 e3 s3 rw => z v I3 H3 (e2.trans e3) s3 rw) fun c i z => z.mono e2 (Ex.refl _)⟩) fun _ _ z => z)
/-! ### statements -/
theorem s_asg {i : Nat} {k : α → Res ω} (h : EvX E K te σ I C m R) (s : St I C H) (hX : XH X E K I C) (hm : Post (m.bind k) Q X)
    (next : ∀ a v I2 H2, Ex I I2 → St I2 C H2 → R.r a v I2 C → Post (k a) Q X → tz D (σ.set i (some v)) H2) : tSeq (tAsg te (gName i)) tz D σ H :=
  h I C H (Ex.refl _) (Ex.refl _) s _ ((Post.bind hm).mono (fun a p v I2 H2 e2 s2 rv => next a v I2 H2 e2 s2 rv p) hX)
theorem s_asgG {g : TG} {P : α → L2.St → Hp → Hp → Prop} {k : α → Res ω} (hg : Tg K g R σ P) (h : EvX E K te σ I C m R) (s : St I C H) (hX : XH X E K I C) (hm : Post (m.bind k) Q X)
    (next : ∀ a σ2 I2 H2, Ex I I2 → St I2 C H2 → P a σ2 I2 C → Post (k a) Q X → tz D σ2 H2) : tSeq (tAsg te g) tz D σ H :=
  h I C H (Ex.refl _) (Ex.refl _) s _ ((Post.bind hm).mono (fun a p v I2 H2 e2 s2 rv => hg a v I2 C H2 _ s2 rv fun σ2 pa => next a σ2 I2 H2 e2 s2 pa p) hX)
theorem s_ret {k : α → Res ω} (h : EvX E K te σ I C m R) (s : St I C H) (hX : XH X E K I C) (hm : Post (m.bind k) Q X)
    (next : ∀ a v I2 H2, Ex I I2 → St I2 C H2 → R.r a v I2 C → Post (k a) Q X → D.rt v H2) : tSeq (tRet te) tz D σ H :=
  h I C H (Ex.refl _) (Ex.refl _) s _ ((Post.bind hm).mono (fun a p v I2 H2 e2 s2 rv => next a v I2 H2 e2 s2 rv p) hX)
theorem s_expr {k : α → Res ω} (h : EvX E K te σ I C m R) (s : St I C H) (hX : XH X E K I C) (hm : Post (m.bind k) Q X)
    (next : ∀ a I2 H2, Ex I I2 → St I2 C H2 → Post (k a) Q X → tz D σ H2) : tSeq (tDrop te) tz D σ H :=
  h I C H (Ex.refl _) (Ex.refl _) s _ ((Post.bind hm).mono (fun a p v I2 H2 e2 s2 rv => next a I2 H2 e2 s2 p) hX)
theorem s_if {c : Res Bool} {m1 m2 : Res ω} (h : EvT E K tt σ I C c) (s : St I C H) (hX : XH X E K I C) (hm : Post (ifR c m1 m2) Q X)
    (h1 : ∀ I2 H2, Ex I I2 → St I2 C H2 → Post m1 Q X → tu { D with nx := tz D } σ H2) (h2 : ∀ I2 H2, Ex I I2 → St I2 C H2 → Post m2 Q X → tw { D with nx := tz D } σ H2) : tSeq (tIfS tt tu tw) tz D σ H :=
  h I C H (Ex.refl _) (Ex.refl _) s _ ((Post.bind hm).mono (fun b p I2 H2 e2 s2 => by
    cases b with
    | true => exact h1 I2 H2 e2 s2 p
    | false => exact h2 I2 H2 e2 s2 p) hX)
/-- an if whose ways meet: the word P of what stands behind it -/
theorem s_ifj (P : S → L2.St → Hp → Hp → Prop) {c : Res Bool} {m1 m2 : Res S} {k : S → Res ω} (h : EvT E K tt σ I C c) (s : St I C H) (hX : XH X E K I C) (hm : Post ((ifR c m1 m2).bind k) Q X)
    (h1 : ∀ (N : L2.St → Hp → Prop) I2 H2, Ex I I2 → St I2 C H2 → Post m1 (fun s' => ∀ σ2 I3 C3 H3, Ex I I3 → St I3 C3 H3 → P s' σ2 I3 C3 → N σ2 H3) X → tu { D with nx := N } σ H2)
    (h2 : ∀ (N : L2.St → Hp → Prop) I2 H2, Ex I I2 → St I2 C H2 → Post m2 (fun s' => ∀ σ2 I3 C3 H3, Ex I I3 → St I3 C3 H3 → P s' σ2 I3 C3 → N σ2 H3) X → tw { D with nx := N } σ H2)
    (next : ∀ s' σ2 I3 C3 H3, Ex I I3 → St I3 C3 H3 → P s' σ2 I3 C3 → Post (k s') Q X → tz D σ2 H3) : Evl.tCut (tIfS tt tu tw) tz D σ H := by
  refine ⟨fun σ2 H3 => ∃ s' I3 C3, Ex I I3 ∧ St I3 C3 H3 ∧ P s' σ2 I3 C3 ∧ Post (k s') Q X, ?_, fun σ2 H3 ⟨s', I3, C3, e3, s3, p, q⟩ => next s' σ2 I3 C3 H3 e3 s3 p q⟩
  refine h I C H (Ex.refl _) (Ex.refl _) s _ ((Post.bind (Post.bind hm)).mono (fun b p I2 H2 e2 s2 => ?_) hX)
  cases b with
  | true => exact h1 _ I2 H2 e2 s2 (Post.mono (m := m1) p (fun s' z σ2 I3 C3 H3 e3 s3 pp => ⟨s', I3, C3, e3, s3, pp, z⟩) fun _ _ z => z)
  | false => exact h2 _ I2 H2 e2 s2 (Post.mono (m := m2) p (fun s' z σ2 I3 C3 H3 e3 s3 pp => ⟨s', I3, C3, e3, s3, pp, z⟩) fun _ _ z => z)
/-- the same, a way may return -/
theorem s_ifr (P : S → L2.St → Hp → Hp → Prop) {c : Res Bool} {m1 m2 : Res (Out S ρ)} {k : Out S ρ → Res ω} (h : EvT E K tt σ I C c) (s : St I C H) (hX : XH X E K I C) (hm : Post ((ifR c m1 m2).bind k) Q X)
    (h1 : ∀ (N : L2.St → Hp → Prop) I2 H2, Ex I I2 → St I2 C H2 → Post m1 (fun o => match o with
      | .nx s' => ∀ σ2 I3 C3 H3, Ex I I3 → St I3 C3 H3 → P s' σ2 I3 C3 → N σ2 H3
      | o => Post (k o) Q X) X → tu { D with nx := N } σ H2)
    (h2 : ∀ (N : L2.St → Hp → Prop) I2 H2, Ex I I2 → St I2 C H2 → Post m2 (fun o => match o with
      | .nx s' => ∀ σ2 I3 C3 H3, Ex I I3 → St I3 C3 H3 → P s' σ2 I3 C3 → N σ2 H3
      | o => Post (k o) Q X) X → tw { D with nx := N } σ H2)
    (next : ∀ s' σ2 I3 C3 H3, Ex I I3 → St I3 C3 H3 → P s' σ2 I3 C3 → Post (k (.nx s')) Q X → tz D σ2 H3) : Evl.tCut (tIfS tt tu tw) tz D σ H := by
  refine ⟨fun σ2 H3 => ∃ s' I3 C3, Ex I I3 ∧ St I3 C3 H3 ∧ P s' σ2 I3 C3 ∧ Post (k (.nx s')) Q X, ?_, fun σ2 H3 ⟨s', I3, C3, e3, s3, p, q⟩ => next s' σ2 I3 C3 H3 e3 s3 p q⟩
  refine h I C H (Ex.refl _) (Ex.refl _) s _ ((Post.bind (Post.bind hm)).mono (fun b p I2 H2 e2 s2 => ?_) hX)
  cases b with
  | true => exact h1 _ I2 H2 e2 s2 (Post.mono (m := m1) p (fun o z => by
      cases o with
      | nx s' => exact fun σ2 I3 C3 H3 e3 s3 pp => ⟨s', I3, C3, e3, s3, pp, z⟩
      | br s' => exact z
      | rt r => exact z) fun _ _ z => z)
  | false => exact h2 _ I2 H2 e2 s2 (Post.mono (m := m2) p (fun o z => by
      cases o with
      | nx s' => exact fun σ2 I3 C3 H3 e3 s3 pp => ⟨s', I3, C3, e3, s3, pp, z⟩
      | br s' => exact z
      | rt r => exact z) fun _ _ z => z)
/-! ### loops -/
theorem s_forN (P : S → L2.St → Hp → Hp → Prop) {wi : TI} {g : TG} {kp : Hp → Prop} {m : Res (List α)} {f : α → S → Res S} {s0 : S} {k : S → Res ω} (hi : EvI E K wi σ I C kp m R) (s : St I C H) (hX : XH X E K I C) (hm : Post ((m.bind fun xs => loopN f xs s0).bind k) Q X)
    (h0 : ∀ I2, Ex I I2 → P s0 σ I2 C) (hk : ∀ s' σ' I' C', P s' σ' I' C' → kp C') (hP : ∀ s' σ' I' I2 C', Ex I' I2 → P s' σ' I' C' → P s' σ' I2 C')
    (body : ∀ (N : L2.St → Hp → Prop) x v s' σ' I' C' H', Ex I I' → St I' C' H' → P s' σ' I' C' → R.r x v I' C' → Post (f x s') (fun s2 => ∀ σ2 I3 C3 H3, Ex I' I3 → St I3 C3 H3 → P s2 σ2 I3 C3 → N σ2 H3) X →
      g v σ' H' fun σ2 H2 => tu { D with nx := N, ct := N, bk := tz D } σ2 H2)
    (next : ∀ s' σ' I' C' H', Ex I I' → St I' C' H' → P s' σ' I' C' → Post (k s') Q X → tz D σ' H') : tSeq (tFor wi g tu) tz D σ H :=
  hi I C H (Ex.refl _) (Ex.refl _) s _ ((Post.bind (Post.bind hm)).mono (fun xs q2 J G Y I2 H2 e2 s2 hz w hG hY => by
    refine for_it w (fun i σ' H' => ∃ s' I' C', Ex I2 I' ∧ St I' C' H' ∧ P s' σ' I' C' ∧ Post ((loopN f (xs.drop i) s').bind k) Q X) ⟨s0, I2, C, Ex.refl _, s2, h0 I2 e2, by rw [List.drop_zero]; exact Post.of_bind q2⟩
      (fun i σ' H' hi ⟨s', I', C', e3, s3, p, _⟩ => hG I' C' H' e3 (hk _ _ _ _ p) s3) (fun i x σ' H1 H' hi ⟨s', I', C', e3, s3, p, po⟩ y => ?_) (fun σ' H' ⟨s', I', C', e3, s3, p, po⟩ => ?_)
    · obtain ⟨a, ha⟩ : ∃ a, xs[i]? = some a := ⟨xs[i], by simp [hi]⟩
      rw [drop_cons ha] at po
      obtain ⟨I4, e4, s4, ra⟩ := hY i a x I' C' H1 H' ha e3 (hk _ _ _ _ p) s3 y
      exact body _ a x s' σ' I4 C' H' (e2.trans (e3.trans e4)) s4 (hP _ _ _ _ _ e4 p) ra ((Post.bind (Post.bind po)).mono (fun s3 z σ2 I5 C5 H5 e5 s5 p5 => ⟨s3, I5, C5, e3.trans (e4.trans e5), s5, p5, Post.of_bind z⟩) fun _ _ z => z)
    · rw [List.drop_length] at po
      exact next s' σ' I' C' H' (e2.trans e3) s3 p po) hX)
/-- .. a turn may break or return -/
theorem s_forR (P : S → L2.St → Hp → Hp → Prop) {wi : TI} {g : TG} {kp : Hp → Prop} {m : Res (List α)} {f : α → S → Res (Out S ρ)} {s0 : S} {k : Out S ρ → Res ω} (hi : EvI E K wi σ I C kp m R) (s : St I C H) (hX : XH X E K I C) (hm : Post ((m.bind fun xs => loopR f xs s0).bind k) Q X)
    (h0 : ∀ I2, Ex I I2 → P s0 σ I2 C) (hk : ∀ s' σ' I' C', P s' σ' I' C' → kp C') (hP : ∀ s' σ' I' I2 C', Ex I' I2 → P s' σ' I' C' → P s' σ' I2 C')
    (body : ∀ (N : L2.St → Hp → Prop) x v s' σ' I' C' H', Ex I I' → St I' C' H' → P s' σ' I' C' → R.r x v I' C' → Post (f x s') (fun o => match o with
        | .nx s2 => ∀ σ2 I3 C3 H3, Ex I' I3 → St I3 C3 H3 → P s2 σ2 I3 C3 → N σ2 H3
        | .br s2 => ∀ σ2 I3 C3 H3, Ex I' I3 → St I3 C3 H3 → P s2 σ2 I3 C3 → tz D σ2 H3
        | .rt r => Post (k (.rt r)) Q X) X →
      g v σ' H' fun σ2 H2 => tu { D with nx := N, ct := N, bk := tz D } σ2 H2)
    (next : ∀ s' σ' I' C' H', Ex I I' → St I' C' H' → P s' σ' I' C' → Post (k (.nx s')) Q X → tz D σ' H') : tSeq (tFor wi g tu) tz D σ H :=
  hi I C H (Ex.refl _) (Ex.refl _) s _ ((Post.bind (Post.bind hm)).mono (fun xs q2 J G Y I2 H2 e2 s2 hz w hG hY => by
    refine for_it w (fun i σ' H' => ∃ s' I' C', Ex I2 I' ∧ St I' C' H' ∧ P s' σ' I' C' ∧ Post ((loopR f (xs.drop i) s').bind k) Q X) ⟨s0, I2, C, Ex.refl _, s2, h0 I2 e2, by rw [List.drop_zero]; exact Post.of_bind q2⟩
      (fun i σ' H' hi ⟨s', I', C', e3, s3, p, _⟩ => hG I' C' H' e3 (hk _ _ _ _ p) s3) (fun i x σ' H1 H' hi ⟨s', I', C', e3, s3, p, po⟩ y => ?_) (fun σ' H' ⟨s', I', C', e3, s3, p, po⟩ => ?_)
    · obtain ⟨a, ha⟩ : ∃ a, xs[i]? = some a := ⟨xs[i], by simp [hi]⟩
      rw [drop_cons ha] at po
      obtain ⟨I4, e4, s4, ra⟩ := hY i a x I' C' H1 H' ha e3 (hk _ _ _ _ p) s3 y
      refine body _ a x s' σ' I4 C' H' (e2.trans (e3.trans e4)) s4 (hP _ _ _ _ _ e4 p) ra ((Post.bind (Post.bind po)).mono (fun o z => ?_) fun _ _ z => z)
      cases o with
      | nx s3 => exact fun σ2 I5 C5 H5 e5 s5 p5 => ⟨s3, I5, C5, e3.trans (e4.trans e5), s5, p5, Post.of_bind z⟩
      | br s3 => exact fun σ2 I5 C5 H5 e5 s5 p5 => next s3 σ2 I5 C5 H5 (e2.trans (e3.trans (e4.trans e5))) s5 p5 z
      | rt r => exact z
    · rw [List.drop_length] at po
      exact next s' σ' I' C' H' (e2.trans e3) s3 p po) hX)
theorem s_while (P : S → L2.St → Hp → Hp → Prop) {n : Nat} {c : S → Res Bool} {f : S → Res (Out S ρ)} {s0 : S} {k : Out S ρ → Res ω} (s : St I C H) (hm : Post ((whileF c f n s0).bind k) Q X)
    (h0 : P s0 σ I C)
    (cond : ∀ s' σ' I' C', Ex I I' → P s' σ' I' C' → EvT E K tt σ' I' C' (c s') ∧ XH X E K I' C') (hP : ∀ s' σ' I' I2 C', Ex I' I2 → P s' σ' I' C' → P s' σ' I2 C')
    (body : ∀ (N : L2.St → Hp → Prop) s' σ' I' C' H', Ex I I' → St I' C' H' → P s' σ' I' C' → Post (f s') (fun o => match o with
        | .nx s2 => ∀ σ2 I3 C3 H3, Ex I' I3 → St I3 C3 H3 → P s2 σ2 I3 C3 → N σ2 H3
        | .br s2 => ∀ σ2 I3 C3 H3, Ex I' I3 → St I3 C3 H3 → P s2 σ2 I3 C3 → tz D σ2 H3
        | .rt r => Post (k (.rt r)) Q X) X → tu { D with nx := N, ct := N, bk := tz D } σ' H')
    (next : ∀ s' σ' I' C' H', Ex I I' → St I' C' H' → P s' σ' I' C' → Post (k (.nx s')) Q X → tz D σ' H') : tSeq (tWhile tt tu) tz D σ H := by
  refine ⟨fun n σ' H' => ∃ s' I' C', Ex I I' ∧ St I' C' H' ∧ P s' σ' I' C' ∧ Post ((whileF c f n s').bind k) Q X, ⟨n, s0, I, C, Ex.refl _, s, h0, hm⟩, ?_⟩
  rintro n σ' H' ⟨s', I', C', e1, s1, p, po⟩
  cases n with
  | zero => exact po.elim
  | succ n =>
    obtain ⟨hc, hx⟩ := cond s' σ' I' C' e1 p
    refine hc I' C' H' (Ex.refl _) (Ex.refl _) s1 _ ((Post.bind (Post.bind po)).mono (fun b q I2 H2 e2 s2 => ?_) hx)
    cases b with
    | true =>
      refine ⟨fun σ2 H3 => ∃ s' I' C', Ex I I' ∧ St I' C' H3 ∧ P s' σ2 I' C' ∧ Post ((whileF c f n s').bind k) Q X, fun σ2 H3 z => ⟨n, Nat.lt_succ_self _, z⟩, ?_⟩
      refine body _ s' σ' I2 C' H2 (e1.trans e2) s2 (hP _ _ _ _ _ e2 p) ((Post.bind q).mono (fun o z => ?_) fun _ _ z => z)
      cases o with
      | nx s3 => exact fun σ2 I5 C5 H5 e5 s5 p5 => ⟨s3, I5, C5, e1.trans (e2.trans e5), s5, p5, Post.of_bind z⟩
      | br s3 => exact fun σ2 I5 C5 H5 e5 s5 p5 => next s3 σ2 I5 C5 H5 (e1.trans (e2.trans e5)) s5 p5 z
      | rt r => exact z
    | false => exact next s' σ' I2 C' H2 (e1.trans e2) s2 (hP _ _ _ _ _ e2 p) q
/-! ### cells -/
/-- xs = []  (xs will change) -/
theorem s_newL {i : Nat} (s : St I C H) (next : ∀ p H2, C p = none → H p = none → St I (upd C p (.lst [])) H2 → tz D (σ.set i (some (.ref p))) H2) : tSeq (tAsg (tLst tNil) (gName i)) tz D σ H :=
  ⟨Nat.zero_le _, fun p hp => next p _ (s.c.free hp) hp (s.newC hp)⟩
/-- xs = e, a new list of e's (xs will change) -/
theorem s_asgC {i : Nat} {k : List α → Res ω} {m : Res (List α)} {te : TE} (h : EvX E K te σ I C m (pL R)) (s : St I C H) (hX : XH X E K I C) (hm : Post (m.bind k) Q X)
    (fresh : True) (next : ∀ a v I2 H2, Ex I I2 → St I2 C H2 → (pL R).r a v I2 C → Post (k a) Q X → tz D (σ.set i (some v)) H2) : tSeq (tAsg te (gName i)) tz D σ H :=
  s_asg h s hX hm next
/-- xs.append(e) -/
def push (xs : List α) (x : α) : Res (List α) := if xs.length < 1000000 then .ok (xs ++ [x]) else .bad
theorem push_ok {xs : List α} {x : α} (h : xs.length < 1000000) : push xs x = .ok (xs ++ [x]) := if_pos h
theorem s_app {i : Nat} {p : Addr} {xs : List α} {vs : List V} {k : List α → Res ω} [Im R] {m : Res α} (hv : σ[i]? = some (some (.ref p))) (hc : C p = some (.lst vs)) (hr : A2 (fun x u => R.r x u I C) xs vs) (h : EvX E K te σ I C m R) (s : St I C H) (hX : XH X E K I C)
    (hm : Post ((m.bind fun x => push xs x).bind k) Q X)
    (next : ∀ ys vs' I2 H2, Ex I I2 → St I2 (upd C p (.lst vs')) H2 → vs'.length ≤ sizeLine → A2 (fun x u => R.r x u I2 (upd C p (.lst vs'))) ys vs' → Post (k ys) Q X → tz D σ H2) :
    tSeq (tDrop (tBM K "list" rAppend (tVar i) (tCons te tNil))) tz D σ H :=
  ⟨.ref p, hv, .inl ⟨rfl, vs, .inl (.inl (s.c p _ hc))⟩, h I C H (Ex.refl _) (Ex.refl _) s _ ((Post.bind (Post.bind hm)).mono (fun a po v I2 H2 e2 s2 rv => by
    unfold push at po
    split at po
    · rename_i hl
      have hn := hr.len
      have hl2 : vs.length < sizeLine := by
        rw [hn]
        exact Nat.lt_of_lt_of_le hl (by decide)
      refine ⟨p, vs, v, rfl, rfl, s2.c p _ hc, hl2, next (xs ++ [a]) (vs ++ [v]) I2 _ e2 (s2.set hc) (by rw [List.length_append]; exact hl2) ?_ po⟩
      exact (hr.imp fun _ _ h => R.to e2 h).append (.one (Im.im rv))
    · exact po.elim) hX)⟩
/-- xs[e1] = e2 -/
def setR (xs : List α) (i : Int) (x : α) : Res (List α) := match ixN xs.length i with
  | some j => .ok (xs.set j x)
  | none => .bad
theorem s_setL {i : Nat} {p : Addr} {xs : List α} {vs : List V} {k : List α → Res ω} [Im R] {ti : TE} {m : Res α} {mi : Res Int} (hv : σ[i]? = some (some (.ref p))) (hc : C p = some (.lst vs)) (hl : vs.length ≤ sizeLine) (hr : A2 (fun x u => R.r x u I C) xs vs)
    (h : EvX E K te σ I C m R) (hi : EvX E K ti σ I C mi pI) (s : St I C H) (hX : XH X E K I C) (hm : Post ((m.bind fun x => mi.bind fun j => setR xs j x).bind k) Q X)
    (next : ∀ ys vs' I2 H2, Ex I I2 → St I2 (upd C p (.lst vs')) H2 → vs'.length ≤ sizeLine → A2 (fun x u => R.r x u I2 (upd C p (.lst vs'))) ys vs' → Post (k ys) Q X → tz D σ H2) :
    tSeq (tAsg te (gSub (tVar i) ti rSetL)) tz D σ H :=
  h I C H (Ex.refl _) (Ex.refl _) s _ ((Post.bind (Post.bind hm)).mono (fun a po v I2 H2 e2 s2 rv => by
    refine ⟨.ref p, hv, hi I2 C H2 e2 (Ex.refl _) s2 _ ((Post.bind po).mono (fun j po2 w I3 H3 e3 s3 rw => ?_) fun c i z => (hX c i z).mono e2 (Ex.refl _))⟩
    have hw : w = .int j := rw
    subst hw
    unfold setR at po2
    have hn := hr.len
    cases hj : ixN xs.length j with
    | none =>
      rw [hj] at po2
      exact po2.elim
    | some l =>
      rw [hj] at po2
      refine ⟨p, vs, j, l, rfl, rfl, s3.c p _ hc, by rw [hn]; exact hj, next (xs.set l a) (vs.set l v) I3 _ (e2.trans e3) (s3.set hc) (by rw [List.length_set]; exact hl) ?_ po2⟩
      exact A2.set (Im.im (R.mono e3 (Ex.refl _) rv)) l (hr.imp fun _ _ h => R.to (e2.trans e3) h)) hX)
end
end Sd

namespace Sd
open PySem L2
/-! ### what draws from the pool (the list at p, its places M) -/
def off (C : Hp) (p : Addr) : Hp := fun a => if a = p then none else C a
theorem off_same {C : Hp} {p : Addr} : off C p p = none := if_pos rfl
theorem off_ne {C : Hp} {p q : Addr} (h : q ≠ p) : off C p q = C q := if_neg h
theorem off_ex {C : Hp} {p : Addr} : Ex (off C p) C := fun a o h => by
  unfold off at h
  split at h
  · cases h
  · exact h
theorem off_upd {C : Hp} {p : Addr} {o : HO} : Ex (off C p) (upd C p o) := fun a u h => by
  unfold off at h
  split at h
  · cases h
  · rename_i hne
    rw [upd_ne hne]
    exact h
theorem Ex.over {C C1 : Hp} {p : Addr} {o : HO} (h : Ex C C1) (hp : C p = none) : Ex C (upd C1 p o) := fun a u e => by
  rw [upd_ne (ne_of_none e hp)]
  exact h a u e
theorem upd_id {C : Hp} {p : Addr} {o : HO} (h : C p = some o) : upd C p o = C := by
  funext a
  by_cases q : a = p
  · rw [q, upd_same, h]
  · exact upd_ne q
def EvM (E : XK) (K : PySem.W.Frag) (p : Addr) {μ : Type} (M : Rt μ) (te : TE) (σ : L2.St) (I Cp : Hp) {β : Type} (m : μ → Res (β × μ)) (R : Rp β) : Prop :=
  ∀ x ws I1 C1 H1, Ex I I1 → Ex Cp C1 → St I1 C1 H1 → C1 p = some (.lst ws) → M.r x ws I1 C1 → ∀ Q : VK, Post (m x) (fun b => ∀ v ws' I2 H2, Ex I1 I2 → St I2 (upd C1 p (.lst ws')) H2 → M.r b.2 ws' I2 (upd C1 p (.lst ws')) → R.r b.1 v I2 (upd C1 p (.lst ws')) → Q v H2) (fun _ _ => False) → te σ H1 Q
def EvTM (E : XK) (K : PySem.W.Frag) (p : Addr) {μ : Type} (M : Rt μ) (tt : TT) (σ : L2.St) (I Cp : Hp) (m : μ → Res (Bool × μ)) : Prop :=
  ∀ x ws I1 C1 H1, Ex I I1 → Ex Cp C1 → St I1 C1 H1 → C1 p = some (.lst ws) → M.r x ws I1 C1 → ∀ Q : Bool → Hp → Prop, Post (m x) (fun b => ∀ ws' I2 H2, Ex I1 I2 → St I2 (upd C1 p (.lst ws')) H2 → M.r b.2 ws' I2 (upd C1 p (.lst ws')) → Q b.1 H2) (fun _ _ => False) → tt σ H1 Q
def EvAM (E : XK) (K : PySem.W.Frag) (p : Addr) {μ : Type} (M : Rt μ) (ta : TA) (σ : L2.St) (I Cp : Hp) {α : Type} (m : μ → Res (α × μ)) (T : Rt α) : Prop :=
  ∀ x ws I1 C1 H1, Ex I I1 → Ex Cp C1 → St I1 C1 H1 → C1 p = some (.lst ws) → M.r x ws I1 C1 → ∀ Q : List V → Hp → Prop, Post (m x) (fun b => ∀ vs ws' I2 H2, Ex I1 I2 → St I2 (upd C1 p (.lst ws')) H2 → M.r b.2 ws' I2 (upd C1 p (.lst ws')) → T.r b.1 vs I2 (upd C1 p (.lst ws')) → Q vs H2) (fun _ _ => False) → ta σ H1 Q
def EvIM (E : XK) (K : PySem.W.Frag) (p : Addr) {μ : Type} (M : Rt μ) (wi : TI) (σ : L2.St) (I Cp : Hp) {α : Type} (m : μ → Res (List α × μ)) (R : Rp α) : Prop :=
  ∀ x ws I1 C1 H1, Ex I I1 → Ex Cp C1 → St I1 C1 H1 → C1 p = some (.lst ws) → M.r x ws I1 C1 → ∀ Kt : L2.It → Hp → Prop, Post (m x) (fun b => ∀ ws' J G Y I2 H2, Ex I1 I2 → St I2 (upd C1 p (.lst ws')) H2 → M.r b.2 ws' I2 (upd C1 p (.lst ws')) → b.1.length ≤ sizeLine → Walk J b.1.length G Y →
    (∀ I3 C3 H3, Ex I2 I3 → St I3 C3 H3 → G H3) →
    (∀ i x v I3 C3 H3 H4, b.1[i]? = some x → Ex I2 I3 → St I3 C3 H3 → Y i H3 v H4 → ∃ I4, Ex I3 I4 ∧ St I4 C3 H4 ∧ R.r x v I4 C3) → Kt J H2) (fun _ _ => False) → wi σ H1 Kt
section
variable {μ α β γ : Type}
def liftM (m : Res α) : μ → Res (α × μ) := fun x => m.bind fun a => .ok (a, x)
def unM (f : α → Res γ) (m : μ → Res (α × μ)) : μ → Res (γ × μ) := fun x => (m x).bind fun b => (f b.1).bind fun c => .ok (c, b.2)
def binM (f : α → β → Res γ) (m : μ → Res (α × μ)) (n : μ → Res (β × μ)) : μ → Res (γ × μ) := fun x => (m x).bind fun b => (n b.2).bind fun d => (f b.1 d.1).bind fun c => .ok (c, d.2)
def pairM (m : μ → Res (α × μ)) (n : μ → Res (β × μ)) : μ → Res ((α × β) × μ) := fun x => (m x).bind fun b => (n b.2).bind fun d => .ok ((b.1, d.1), d.2)
def consM (m : μ → Res (α × μ)) (n : μ → Res (List α × μ)) : μ → Res (List α × μ) := fun x => (m x).bind fun b => (n b.2).bind fun d => .ok (b.1 :: d.1, d.2)
def callM (f : α → μ → Res (β × μ)) (m : μ → Res (α × μ)) : μ → Res (β × μ) := fun x => (m x).bind fun b => f b.1 b.2
def andM (m n : μ → Res (Bool × μ)) : μ → Res (Bool × μ) := fun x => (m x).bind fun b => if b.1 = true then n b.2 else .ok (false, b.2)
def orM (m n : μ → Res (Bool × μ)) : μ → Res (Bool × μ) := fun x => (m x).bind fun b => if b.1 = true then .ok (true, b.2) else n b.2
def ifM (c : μ → Res (Bool × μ)) (m n : μ → Res (α × μ)) : μ → Res (α × μ) := fun x => (c x).bind fun b => if b.1 = true then m b.2 else n b.2
@[simp] theorem liftM_ok (a : α) (x : μ) : liftM (.ok a) x = .ok (a, x) := rfl
theorem liftM_eq (m : Res α) (x : μ) : liftM m x = m.bind fun a => .ok (a, x) := rfl
end
section
variable {E : XK} {K : PySem.W.Frag} {p : Addr} {μ : Type} {M : Rt μ} {σ : L2.St} {I Cp : Hp} {α β γ : Type} {R : Rp α} {S : Rp β} {T : Rp γ} {te ta tb : TE} {tt tu : TT} {m : μ → Res (α × μ)} {n : μ → Res (β × μ)}
theorem m_pure {m : Res α} (h : EvX E K te σ I Cp m R) : EvM E K p M te σ I Cp (liftM m) R := fun x ws I1 C1 H1 e e' s hc hx Q q =>
  h I1 C1 H1 e e' s Q ((Post.bind q).mono (fun a z v I2 H2 e2 s2 rv => by
    have z2 := z v ws I2 H2 e2
    rw [upd_id hc] at z2
    exact z2 s2 (M.mono e2 (Ex.refl _) hx) rv) fun _ _ z => z.elim)
theorem m_un [It M] {r : V → Hp → VK → Prop} {f : α → Res γ} (hr : ∀ E, Op1 E K r f R T) (hp : Cp p = none) (h : EvM E K p M ta σ I Cp m R) : EvM E K p M (tUn r ta) σ I Cp (unM f m) T := fun x ws I1 C1 H1 e e' s hc hx Q q =>
  h x ws I1 C1 H1 e e' s hc hx _ ((Post.bind q).mono (fun b z v ws' I2 H2 e2 s2 hx2 rv => hr E I2 _ H2 b.1 v s2 rv Q ((Post.bind z).mono (fun c z w I3 H3 e3 s3 rw => z w ws' I3 H3 (e2.trans e3) s3 (M.mono e3 (Ex.refl _) hx2) rw) fun _ _ z => z.elim)) fun _ _ z => z)
theorem m_op [It M] [Im R] {r : R2} {f : α → β → Res γ} (hr : ∀ E, Op2 E K r f R S T) (hp : Cp p = none) (h1 : EvM E K p M ta σ I Cp m R) (h2 : EvM E K p M tb σ I Cp n S) : EvM E K p M (tOp r ta tb) σ I Cp (binM f m n) T := fun x ws I1 C1 H1 e e' s hc hx Q q =>
  h1 x ws I1 C1 H1 e e' s hc hx _ ((Post.bind q).mono (fun b z v ws' I2 H2 e2 s2 hx2 rv =>
    h2 b.2 ws' I2 _ H2 (e.trans e2) (e'.over hp) s2 upd_same hx2 _ ((Post.bind z).mono (fun d z2 w ws2 I3 H3 e3 s3 hx3 rw => by
      rw [upd_upd] at s3 hx3 rw
      exact hr E I3 _ H3 b.1 d.1 v w s3 (R.to e3 rv) rw Q ((Post.bind z2).mono (fun c z3 w I4 H4 e4 s4 rw => z3 w ws2 I4 H4 (e2.trans (e3.trans e4)) s4 (M.mono e4 (Ex.refl _) hx3) rw) fun _ _ z => z.elim)) fun _ _ z => z)) fun _ _ z => z)
theorem m_k [It M] {r : R2} {f : α → Res γ} {k : Int} (hr : ∀ E, Op1 E K (fun x H Q => r x (.int k) H Q) f R T) (hp : Cp p = none) (h : EvM E K p M te σ I Cp m R) : EvM E K p M (tOp r te (tC (.int k))) σ I Cp (unM f m) T :=
  fun x ws I1 C1 H1 e e' s hc hx Q q => m_un (r := fun x H Q => r x (.int k) H Q) hr hp h x ws I1 C1 H1 e e' s hc hx Q q
theorem am_one (h : EvM E K p M te σ I Cp m R) : EvAM E K p M (tCons te tNil) σ I Cp m (t1 R) := fun x ws I1 C1 H1 e e' s hc hx Q q =>
  h x ws I1 C1 H1 e e' s hc hx _ (q.mono (fun b z v ws' I2 H2 e2 s2 hx2 rv => z [v] ws' I2 H2 e2 s2 hx2 ⟨v, rfl, rv⟩) fun _ _ z => z)
theorem am_cons [Im R] {tr : TA} {A : Rt β} (hp : Cp p = none) (h1 : EvM E K p M te σ I Cp m R) (h2 : EvAM E K p M tr σ I Cp n A) : EvAM E K p M (tCons te tr) σ I Cp (pairM m n) (tc R A) := fun x ws I1 C1 H1 e e' s hc hx Q q =>
  h1 x ws I1 C1 H1 e e' s hc hx _ ((Post.bind q).mono (fun b z v ws' I2 H2 e2 s2 hx2 rv =>
    h2 b.2 ws' I2 _ H2 (e.trans e2) (e'.over hp) s2 upd_same hx2 _ ((Post.bind z).mono (fun d z2 vs ws2 I3 H3 e3 s3 hx3 rw => by
      rw [upd_upd] at s3 hx3 rw
      exact z2 (v :: vs) ws2 I3 H3 (e2.trans e3) s3 hx3 ⟨v, vs, rfl, R.to e3 rv, rw⟩) fun _ _ z => z)) fun _ _ z => z)
/-- a name's value, whatever the draws change -/
theorem am_var {tr : TA} {A : Rt β} {i : Nat} {v : V} {a : α} (hv : σ[i]? = some (some v)) (r : R.r a v I Cp) (hp : Cp p = none) (h2 : EvAM E K p M tr σ I Cp n A) : EvAM E K p M (tCons (tVar i) tr) σ I Cp (pairM (liftM (.ok a)) n) (tc R A) := fun x ws I1 C1 H1 e e' s hc hx Q q =>
  ⟨v, hv, h2 x ws I1 C1 H1 e e' s hc hx _ ((Post.bind (m := n x) (k := fun d => .ok ((a, d.1), d.2)) q).mono (fun d z2 vs ws2 I3 H3 e3 s3 hx3 rw => z2 (v :: vs) ws2 I3 H3 e3 s3 hx3 ⟨v, vs, rfl, R.mono (e.trans e3) (e'.over hp) r, rw⟩) fun _ _ z => z)⟩
theorem am_var1 {i : Nat} {v : V} {a : α} (hv : σ[i]? = some (some v)) (r : R.r a v I Cp) : EvAM E K p M (tCons (tVar i) tNil) σ I Cp (liftM (.ok a) : μ → Res (α × μ)) (t1 R) := am_one (m_pure (x_var hv r))
theorem am_pure {tr : TA} {A : Rt α} {m : Res α} (h : EvA E K tr σ I Cp m A) : EvAM E K p M tr σ I Cp (liftM m) A := fun x ws I1 C1 H1 e e' s hc hx Q q =>
  h I1 C1 H1 e e' s Q ((Post.bind q).mono (fun a z v I2 H2 e2 s2 rv => by
    have z2 := z v ws I2 H2 e2
    rw [upd_id hc] at z2
    exact z2 s2 (M.mono e2 (Ex.refl _) hx) rv) fun _ _ z => z.elim)
theorem alm_nil : EvAM E K p M tNil σ I Cp (liftM (.ok ([] : List α)) : μ → Res (List α × μ)) (tL R 0) := am_pure al_nil
theorem alm_cons [Im R] {tr : TA} {k : Nat} {n : μ → Res (List α × μ)} (hp : Cp p = none) (h1 : EvM E K p M te σ I Cp m R) (h2 : EvAM E K p M tr σ I Cp n (tL R k)) : EvAM E K p M (tCons te tr) σ I Cp (consM m n) (tL R (k + 1)) := fun x ws I1 C1 H1 e e' s hc hx Q q =>
  h1 x ws I1 C1 H1 e e' s hc hx _ ((Post.bind q).mono (fun b z v ws' I2 H2 e2 s2 hx2 rv =>
    h2 b.2 ws' I2 _ H2 (e.trans e2) (e'.over hp) s2 upd_same hx2 _ ((Post.bind z).mono (fun d z2 vs ws2 I3 H3 e3 s3 hx3 rw => by
      rw [upd_upd] at s3 hx3 rw
      exact z2 (v :: vs) ws2 I3 H3 (e2.trans e3) s3 hx3 ⟨by rw [List.length_cons, rw.1], .cons (R.to e3 rv) rw.2⟩) fun _ _ z => z)) fun _ _ z => z)
theorem m_lst [It M] {tr : TA} {k : Nat} {m : μ → Res (List α × μ)} (h : EvAM E K p M tr σ I Cp m (tL R k)) (hn : k ≤ 100) : EvM E K p M (tLst tr) σ I Cp m (pL R) := fun x ws I1 C1 H1 e e' s hc hx Q q =>
  h x ws I1 C1 H1 e e' s hc hx _ (q.mono (fun b z vs ws' I2 H2 e2 s2 hx2 rv => by
    have hl : vs.length ≤ sizeLine := by
      rw [rv.1]
      exact Nat.le_trans hn (by decide)
    refine ⟨hl, fun t ht => z (.ref t) ws' (upd I2 t (.lst vs)) _ (e2.trans (Ex.new (s2.i.free ht))) (s2.newI ht) (M.mono (Ex.new (s2.i.free ht)) (Ex.refl _) hx2) ⟨t, vs, rfl, upd_same, hl, rv.2.imp fun _ _ => R.mono (Ex.new (s2.i.free ht)) (Ex.refl _)⟩⟩) fun _ _ z => z)
theorem m_tup [It M] {tr : TA} {A : Rt α} (h : EvAM E K p M tr σ I Cp m A) (hn : A.n ≤ 100) : EvM E K p M (tTup tr) σ I Cp m (pT A) := fun x ws I1 C1 H1 e e' s hc hx Q q =>
  h x ws I1 C1 H1 e e' s hc hx _ (q.mono (fun b z vs ws' I2 H2 e2 s2 hx2 rv => ⟨by rw [A.len rv]; exact Nat.le_trans hn (by decide), fun t ht => z (.ref t) ws' (upd I2 t (.tup vs)) _ (e2.trans (Ex.new (s2.i.free ht))) (s2.newI ht) (M.mono (Ex.new (s2.i.free ht)) (Ex.refl _) hx2) ⟨t, vs, rfl, upd_same, A.mono (Ex.new (s2.i.free ht)) (Ex.refl _) rv⟩⟩) fun _ _ z => z)
theorem m_lstD [It M] {tr : TA} {A : Rt α} (h : EvAM E K p M tr σ I Cp m A) (hn : A.n ≤ 100) : EvM E K p M (tLst tr) σ I Cp m (pD A) := fun x ws I1 C1 H1 e e' s hc hx Q q =>
  h x ws I1 C1 H1 e e' s hc hx _ (q.mono (fun b z vs ws' I2 H2 e2 s2 hx2 rv => ⟨by rw [A.len rv]; exact Nat.le_trans hn (by decide), fun t ht => z (.ref t) ws' (upd I2 t (.lst vs)) _ (e2.trans (Ex.new (s2.i.free ht))) (s2.newI ht) (M.mono (Ex.new (s2.i.free ht)) (Ex.refl _) hx2) ⟨t, vs, rfl, upd_same, A.mono (Ex.new (s2.i.free ht)) (Ex.refl _) rv⟩⟩) fun _ _ z => z)
theorem m_cb [It M] {r : List V → Hp → VK → Prop} {f : α → Res γ} {A : Rt α} {tr : TA} (hr : ∀ E, OpL E K r f A T) (h : EvAM E K p M tr σ I Cp m A) : EvM E K p M (tCB r tr) σ I Cp (unM f m) T := fun x ws I1 C1 H1 e e' s hc hx Q q =>
  h x ws I1 C1 H1 e e' s hc hx _ ((Post.bind q).mono (fun b z vs ws' I2 H2 e2 s2 hx2 rv => hr E I2 _ H2 b.1 vs s2 rv Q ((Post.bind z).mono (fun c z w I3 H3 e3 s3 rw => z w ws' I3 H3 (e2.trans e3) s3 (M.mono e3 (Ex.refl _) hx2) rw) fun _ _ z => z.elim)) fun _ _ z => z)
/-- f(a ..), f a def that draws nothing -/
theorem m_callP [It M] {A : Rt α} {f : α → Res γ} {tr : TA} (h : EvAM E K p M tr σ I Cp m A) : EvM E K p M (tCall (spP K A f T) [] E tr) σ I Cp (unM f m) T := fun x ws I1 C1 H1 e e' s hc hx Q q =>
  h x ws I1 C1 H1 e e' s hc hx _ ((Post.bind q).mono (fun b z vs ws' I2 H2 e2 s2 hx2 rv => by
    refine ⟨I2, _, b.1, s2, by rw [List.append_nil]; exact rv, (Post.bind z).mono (fun c z w I3 H3 e3 s3 rw => z w ws' I3 H3 (e2.trans e3) s3 (M.mono e3 (Ex.refl _) hx2) rw) fun _ _ z => z.elim⟩) fun _ _ z => z)
/-- f(pool, a ..) -/
theorem m_callM {A : Rt α} {f : α → μ → Res (β × μ)} {tr : TA} {i : Nat} (hv : σ[i]? = some (some (.ref p))) (h : EvAM E K p M tr σ I Cp m A) : EvM E K p M (tCall (spM M A f S) [] E (tCons (tVar i) tr)) σ I Cp (callM f m) S := fun x ws I1 C1 H1 e e' s hc hx Q q =>
  ⟨.ref p, hv, h x ws I1 C1 H1 e e' s hc hx _ ((Post.bind q).mono (fun b z vs ws' I2 H2 e2 s2 hx2 rv => by
    refine ⟨I2, _, p, ws', vs, b.2, b.1, by rw [List.append_nil], s2, upd_same, hx2, rv, Post.mono (m := f b.1 b.2) z (fun c z w ws2 I3 H3 e3 s3 hx3 rw => ?_) fun _ _ z => z⟩
    rw [upd_upd] at s3 hx3 rw
    exact z w ws2 I3 H3 (e2.trans e3) s3 hx3 rw) fun _ _ z => z)⟩
theorem m_callM0 {f : Unit → μ → Res (β × μ)} {i : Nat} (hv : σ[i]? = some (some (.ref p))) : EvM E K p M (tCall (spM M (⟨fun _ vs _ _ => vs = [], fun _ _ h => h, 0, fun h => by rw [h]; rfl⟩ : Rt Unit) f S) [] E (tCons (tVar i) tNil)) σ I Cp (fun x => f () x) S := fun x ws I1 C1 H1 e e' s hc hx Q q =>
  ⟨.ref p, hv, I1, C1, p, ws, [], x, (), rfl, s, hc, hx, rfl, q⟩
theorem tm_pure {m : Res Bool} (h : EvT E K tt σ I Cp m) : EvTM E K p M tt σ I Cp (liftM m) := fun x ws I1 C1 H1 e e' s hc hx Q q =>
  h I1 C1 H1 e e' s Q ((Post.bind q).mono (fun a z I2 H2 e2 s2 => by
    have z2 := z ws I2 H2 e2
    rw [upd_id hc] at z2
    exact z2 s2 (M.mono e2 (Ex.refl _) hx)) fun _ _ z => z.elim)
theorem tm_test {m : μ → Res (Bool × μ)} (h : EvM E K p M te σ I Cp m pB) : EvTM E K p M (tTest te) σ I Cp m := fun x ws I1 C1 H1 e e' s hc hx Q q => h x ws I1 C1 H1 e e' s hc hx _ (q.mono (fun b z v ws' I2 H2 e2 s2 hx2 rv => ⟨b.1, rv, z ws' I2 H2 e2 s2 hx2⟩) fun _ _ z => z)
theorem tm_B {m : μ → Res (Bool × μ)} (h : EvM E K p M te σ I Cp m pB) : EvTM E K p M (tB te) σ I Cp m := fun x ws I1 C1 H1 e e' s hc hx Q q => h x ws I1 C1 H1 e e' s hc hx _ (q.mono (fun b z v ws' I2 H2 e2 s2 hx2 rv => ⟨b.1, rv, z ws' I2 H2 e2 s2 hx2⟩) fun _ _ z => z)
theorem tm_and {m n : μ → Res (Bool × μ)} (hp : Cp p = none) (h1 : EvTM E K p M tt σ I Cp m) (h2 : EvTM E K p M tu σ I Cp n) : EvTM E K p M (tAnd tt tu) σ I Cp (andM m n) := fun x ws I1 C1 H1 e e' s hc hx Q q =>
  h1 x ws I1 C1 H1 e e' s hc hx _ ((Post.bind q).mono (fun b z ws' I2 H2 e2 s2 hx2 => by
    obtain ⟨c, y⟩ := b
    cases c with
    | true => exact h2 y ws' I2 _ H2 (e.trans e2) (e'.over hp) s2 upd_same hx2 Q (Post.mono (m := n y) z (fun b z ws2 I3 H3 e3 s3 hx3 => by
        rw [upd_upd] at s3 hx3
        exact z ws2 I3 H3 (e2.trans e3) s3 hx3) fun _ _ z => z)
    | false => exact z ws' I2 H2 e2 s2 hx2) fun _ _ z => z)
theorem tm_or {m n : μ → Res (Bool × μ)} (hp : Cp p = none) (h1 : EvTM E K p M tt σ I Cp m) (h2 : EvTM E K p M tu σ I Cp n) : EvTM E K p M (tOr tt tu) σ I Cp (orM m n) := fun x ws I1 C1 H1 e e' s hc hx Q q =>
  h1 x ws I1 C1 H1 e e' s hc hx _ ((Post.bind q).mono (fun b z ws' I2 H2 e2 s2 hx2 => by
    obtain ⟨c, y⟩ := b
    cases c with
    | false => exact h2 y ws' I2 _ H2 (e.trans e2) (e'.over hp) s2 upd_same hx2 Q (Post.mono (m := n y) z (fun b z ws2 I3 H3 e3 s3 hx3 => by
        rw [upd_upd] at s3 hx3
        exact z ws2 I3 H3 (e2.trans e3) s3 hx3) fun _ _ z => z)
    | true => exact z ws' I2 H2 e2 s2 hx2) fun _ _ z => z)
theorem tm_not {m : μ → Res (Bool × μ)} (h : EvTM E K p M tt σ I Cp m) : EvTM E K p M (tNot tt) σ I Cp (unM notR m) := fun x ws I1 C1 H1 e e' s hc hx Q q =>
  h x ws I1 C1 H1 e e' s hc hx _ ((Post.bind q).mono (fun b z ws' I2 H2 e2 s2 hx2 => z ws' I2 H2 e2 s2 hx2) fun _ _ z => z)
/-! sources -/
theorem im_pure {wi : TI} {m : Res (List α)} (h : EvI E K wi σ I Cp kpT m R) : EvIM E K p M wi σ I Cp (liftM m) R := fun x ws I1 C1 H1 e e' s hc hx Q q =>
  h I1 C1 H1 e e' s Q ((Post.bind q).mono (fun a z J G Y I2 H2 e2 s2 hz w hG hY => by
    have z2 := z ws J G Y I2 H2 e2
    rw [upd_id hc] at z2
    exact z2 s2 (M.mono e2 (Ex.refl _) hx) hz w (fun I3 C3 H3 e3 s3 => hG I3 C3 H3 e3 trivial s3) (fun i x v I3 C3 H3 H4 hx e3 s3 y => hY i x v I3 C3 H3 H4 hx e3 trivial s3 y)) fun _ _ z => z.elim)
theorem im_rng1 [It M] {tr : TA} {m : μ → Res (Int × μ)} (h : EvAM E K p M tr σ I Cp m (t1 pI)) : EvIM E K p M (iRng1 tr) σ I Cp (unM rng1 m) pI := fun x ws I1 C1 H1 e e' s hc hx Q q =>
  h x ws I1 C1 H1 e e' s hc hx _ ((Post.bind q).mono (fun b z vs ws' I2 H2 e2 s2 hx2 ⟨v, hv, rv⟩ => by
    have z := Post.bind z
    unfold rng1 at z
    split at z
    · rename_i hn
      have hv1 : v = .int b.1 := rv
      subst hv hv1
      refine ⟨b.1, rfl, by omega, by omega, z ws' (Itr 0 b.1.toNat) (fun _ => True) (YFn fun i => .int (0 + i)) I2 H2 e2 s2 hx2 (by rw [rangeL_length]; exact Nat.le_trans (show (b.1 - 0).toNat ≤ 1000000 by omega) (by decide)) (by rw [rangeL_length, Int.sub_zero]; exact walk_range) (fun _ _ _ _ _ => trivial) (fun i x v' I3 C3 H3 H4 hx e3 s3 y => ?_)⟩
      obtain ⟨rfl, rfl⟩ := y
      rw [rangeL_get hx]
      exact ⟨I3, Ex.refl _, s3, rfl⟩
    · exact z.elim) fun _ _ z => z)
/-! ### comprehensions that draw -/
def mapM (f : α → μ → Res (β × μ)) : List α → μ → Res (List β × μ)
  | [], x => .ok ([], x)
  | a :: as, x => (f a x).bind fun b => (mapM f as b.2).bind fun c => .ok (b.1 :: c.1, c.2)
def LcM (p : Addr) (M : Rt μ) (S : Rp β) (I C : Hp) (D : Addr) (rest : μ → Res (List β × μ)) (W : List β × μ → Prop) (n : Nat) (H : Hp) : Prop :=
  ∃ (ys : List β) (vs ws : List V) (x : μ) (I' : Hp), Ex I I' ∧ St I' (upd (upd C p (.lst ws)) D (.lst vs)) H ∧ M.r x ws I' C ∧ vs.length ≤ n ∧ A2 (fun x u => S.r x u I' C) ys vs ∧ Post (rest x) (fun zs => W (ys ++ zs.1, zs.2)) (fun _ _ => False)
theorem m_lc [It M] [Im S] {wi : TI} {g : TG} {vs : List Nat} {m : μ → Res (List α × μ)} {f : α → μ → Res (β × μ)} {P : α → L2.St → Hp → Hp → Prop} (hp : Cp p = none) (hi : EvIM E K p M wi σ I Cp m R) (hg : Tg K g R (wipe σ vs) P)
    (hw : ∀ x σ2 I' C', P x σ2 I' C' → wipe σ2 vs = wipe σ vs)
    (hf : ∀ x σ2 I' C', Ex I I' → Ex Cp C' → P x σ2 I' C' → EvM EZ K p M te σ2 I' (off C' p) (f x) S) : EvM E K p M (tLc wi g tYes te vs) σ I Cp (fun x => (m x).bind fun b => mapM f b.1 b.2) (pL S) := fun x ws I1 C1 H1 e e' s hc hx Q q =>
  hi x ws I1 C1 H1 e e' s hc hx _ ((Post.bind q).mono (fun b q2 ws2 J G Y I2 H2 e2 s2 hx2 hz w hG hY D hD => by
    have cD2 : upd C1 p (.lst ws2) D = none := s2.c.free hD
    have hDp : D ≠ p := fun z => by
      rw [z, upd_same] at cD2
      cases cD2
    have cD : C1 D = none := by
      rw [upd_ne hDp] at cD2
      exact cD2
    refine lc_it w (fun i H => LcM p M S I2 C1 D (mapM f (b.1.drop i)) (fun c => ∀ v ws' I2 H2, Ex I1 I2 → St I2 (upd C1 p (.lst ws')) H2 → M.r c.2 ws' I2 (upd C1 p (.lst ws')) → (pL S).r c.1 v I2 (upd C1 p (.lst ws')) → Q v H2) i H) ⟨[], [], ws2, b.2, I2, Ex.refl _, s2.newC hD, It.im hx2, Nat.le_refl _, .nil, ?_⟩
      (fun i H hi ⟨_, _, _, _, I', e3, s3, _⟩ => hG I' _ H e3 s3) (fun i v H H' hi ⟨ys, us, ws3, x3, I', e3, s3, hx3, hn, r3, po⟩ y => ?_) (fun H ⟨ys, us, ws3, x3, I', e3, s3, hx3, hn, r3, po⟩ => ?_)
    · rw [List.drop_zero]
      exact q2
    · obtain ⟨a, ha⟩ : ∃ a, b.1[i]? = some a := ⟨b.1[i], by simp [hi]⟩
      rw [drop_cons ha] at po
      obtain ⟨I4, e4, s4, ra⟩ := hY i a v I' _ H H' ha e3 s3 y
      refine hg a v I4 _ H' _ s4 ra fun σ2 pa => ⟨hw _ _ _ _ pa, ?_⟩
      have eI : Ex I I4 := e.trans (e2.trans (e3.trans e4))
      have eC : Ex Cp (upd (upd C1 p (.lst ws3)) D (.lst us)) := (e'.over hp).trans (Ex.new (by rw [upd_ne hDp]; exact cD))
      have hcp : upd (upd C1 p (.lst ws3)) D (.lst us) p = some (.lst ws3) := by rw [upd_ne hDp.symm, upd_same]
      show te σ2 H' _
      refine hf a σ2 I4 _ eI eC pa x3 ws3 I4 _ H' (Ex.refl _) off_ex s4 hcp (It.im (M.mono e4 (Ex.refl _) hx3)) _ ((Post.bind po).mono (fun c po2 v2 ws4 I6 H6 e6 s6 hx6 rv => ?_) fun _ _ z => z)
      have hswap : upd (upd (upd C1 p (.lst ws3)) D (.lst us)) p (.lst ws4) = upd (upd C1 p (.lst ws4)) D (.lst us) := by
        funext a
        by_cases h1 : a = p
        · rw [h1, upd_same, upd_ne hDp.symm, upd_same]
        · rw [upd_ne h1]
          by_cases h2 : a = D
          · rw [h2, upd_same, upd_same]
          · rw [upd_ne h2, upd_ne h2, upd_ne h1, upd_ne h1]
      rw [hswap] at s6 hx6 rv
      have hsz : us.length < sizeLine := Nat.lt_of_le_of_lt hn (Nat.lt_of_lt_of_le hi hz)
      refine ⟨us, s6.c D _ upd_same, hsz, ⟨ys ++ [c.1], us ++ [v2], ws4, c.2, I6, e3.trans (e4.trans e6), ?_, It.im hx6, by rw [List.length_append]; exact Nat.succ_le_succ hn, ?_, ?_⟩⟩
      · have z := s6.set (o := .lst (us ++ [v2])) (p := D) upd_same
        rw [upd_upd] at z
        exact z
      · exact (r3.imp fun _ _ => S.mono (e4.trans e6) (Ex.refl _)).append (.one (Im.im rv))
      · refine (Post.bind po2).mono (fun zs z => ?_) fun _ _ z => z
        show ∀ v ws' I2 H2, Ex I1 I2 → St I2 (upd C1 p (.lst ws')) H2 → M.r zs.2 ws' I2 (upd C1 p (.lst ws')) → (pL S).r (ys ++ [c.1] ++ zs.1) v I2 (upd C1 p (.lst ws')) → Q v H2
        rw [List.append_assoc]
        exact z
    · rw [List.drop_length] at po
      have po2 : ∀ v ws' I2 H2, Ex I1 I2 → St I2 (upd C1 p (.lst ws')) H2 → M.r x3 ws' I2 (upd C1 p (.lst ws')) → (pL S).r (ys ++ []) v I2 (upd C1 p (.lst ws')) → Q v H2 := po
      rw [List.append_nil] at po2
      have sf := s3.frz (p := D) upd_same
      have iD : I' D = none := s3.freeI upd_same
      refine po2 (.ref D) ws3 (upd I' D (.lst us)) H (e2.trans (e3.trans (Ex.new iD))) (sf.less fun a o ha => ?_) (It.im (M.mono (Ex.new iD) (Ex.refl _) hx3)) ⟨D, us, rfl, upd_same, Nat.le_trans hn hz, r3.imp fun _ _ h => Im.im (S.mono (Ex.new iD) (Ex.refl _) h)⟩
      have hne : a ≠ D := fun z => by
        rw [z, upd_ne hDp, cD] at ha
        cases ha
      show (if a = D then none else upd (upd C1 p (.lst ws3)) D (.lst us) a) = some o
      rw [if_neg hne, upd_ne hne]
      exact ha) fun _ _ z => z)
end
section
variable {E : XK} {K : PySem.W.Frag} {p : Addr} {μ : Type} {M : Rt μ} {σ : L2.St} {I C H : Hp} {α β ω S ρ : Type} {R : Rp α} {te : TE} {tt : TT} {tz tu tw : TS} {D : Ends} {m : μ → Res (α × μ)} {Q : ω → Prop} {x : μ} {ws : List V}
abbrev XF : Ec → Int → Prop := fun _ _ => False
theorem sm_asg {i : Nat} {k : α × μ → Res ω} (h : EvM E K p M te σ I (off C p) m R) (s : St I C H) (hc : C p = some (.lst ws)) (hx : M.r x ws I C) (hm : Post ((m x).bind k) Q XF)
    (next : ∀ b v ws' I2 H2, Ex I I2 → St I2 (upd C p (.lst ws')) H2 → M.r b.2 ws' I2 (upd C p (.lst ws')) → R.r b.1 v I2 (upd C p (.lst ws')) → Post (k b) Q XF → tz D (σ.set i (some v)) H2) : tSeq (tAsg te (gName i)) tz D σ H :=
  h x ws I C H (Ex.refl _) off_ex s hc hx _ ((Post.bind hm).mono (fun b z v ws' I2 H2 e2 s2 hx2 rv => next b v ws' I2 H2 e2 s2 hx2 rv z) fun _ _ z => z)
theorem sm_ret {k : α × μ → Res ω} (h : EvM E K p M te σ I (off C p) m R) (s : St I C H) (hc : C p = some (.lst ws)) (hx : M.r x ws I C) (hm : Post ((m x).bind k) Q XF)
    (next : ∀ b v ws' I2 H2, Ex I I2 → St I2 (upd C p (.lst ws')) H2 → M.r b.2 ws' I2 (upd C p (.lst ws')) → R.r b.1 v I2 (upd C p (.lst ws')) → Post (k b) Q XF → D.rt v H2) : tSeq (tRet te) tz D σ H :=
  h x ws I C H (Ex.refl _) off_ex s hc hx _ ((Post.bind hm).mono (fun b z v ws' I2 H2 e2 s2 hx2 rv => next b v ws' I2 H2 e2 s2 hx2 rv z) fun _ _ z => z)
theorem sm_expr {k : α × μ → Res ω} (h : EvM E K p M te σ I (off C p) m R) (s : St I C H) (hc : C p = some (.lst ws)) (hx : M.r x ws I C) (hm : Post ((m x).bind k) Q XF)
    (next : ∀ b ws' I2 H2, Ex I I2 → St I2 (upd C p (.lst ws')) H2 → M.r b.2 ws' I2 (upd C p (.lst ws')) → Post (k b) Q XF → tz D σ H2) : tSeq (tDrop te) tz D σ H :=
  h x ws I C H (Ex.refl _) off_ex s hc hx _ ((Post.bind hm).mono (fun b z v ws' I2 H2 e2 s2 hx2 rv => next b ws' I2 H2 e2 s2 hx2 z) fun _ _ z => z)
def ifMR (c : μ → Res (Bool × μ)) (x : μ) (m n : μ → Res α) : Res α := (c x).bind fun b => if b.1 = true then m b.2 else n b.2
theorem sm_if {c : μ → Res (Bool × μ)} {m1 m2 : μ → Res ω} (h : EvTM E K p M tt σ I (off C p) c) (s : St I C H) (hc : C p = some (.lst ws)) (hx : M.r x ws I C) (hm : Post (ifMR c x m1 m2) Q XF)
    (h1 : ∀ y ws' I2 H2, Ex I I2 → St I2 (upd C p (.lst ws')) H2 → M.r y ws' I2 (upd C p (.lst ws')) → Post (m1 y) Q XF → tu { D with nx := tz D } σ H2)
    (h2 : ∀ y ws' I2 H2, Ex I I2 → St I2 (upd C p (.lst ws')) H2 → M.r y ws' I2 (upd C p (.lst ws')) → Post (m2 y) Q XF → tw { D with nx := tz D } σ H2) : tSeq (tIfS tt tu tw) tz D σ H :=
  h x ws I C H (Ex.refl _) off_ex s hc hx _ ((Post.bind hm).mono (fun b z ws' I2 H2 e2 s2 hx2 => by
    obtain ⟨c, y⟩ := b
    cases c with
    | true => exact h1 y ws' I2 H2 e2 s2 hx2 z
    | false => exact h2 y ws' I2 H2 e2 s2 hx2 z) fun _ _ z => z)
theorem sm_ifj (P : S → L2.St → Hp → Hp → Prop) {c : μ → Res (Bool × μ)} {m1 m2 : μ → Res S} {k : S → Res ω} (h : EvTM E K p M tt σ I (off C p) c) (s : St I C H) (hc : C p = some (.lst ws)) (hx : M.r x ws I C) (hm : Post ((ifMR c x m1 m2).bind k) Q XF)
    (h1 : ∀ (N : L2.St → Hp → Prop) y ws' I2 H2, Ex I I2 → St I2 (upd C p (.lst ws')) H2 → M.r y ws' I2 (upd C p (.lst ws')) → Post (m1 y) (fun s' => ∀ σ2 I3 C3 H3, Ex I I3 → St I3 C3 H3 → P s' σ2 I3 C3 → N σ2 H3) XF → tu { D with nx := N } σ H2)
    (h2 : ∀ (N : L2.St → Hp → Prop) y ws' I2 H2, Ex I I2 → St I2 (upd C p (.lst ws')) H2 → M.r y ws' I2 (upd C p (.lst ws')) → Post (m2 y) (fun s' => ∀ σ2 I3 C3 H3, Ex I I3 → St I3 C3 H3 → P s' σ2 I3 C3 → N σ2 H3) XF → tw { D with nx := N } σ H2)
    (next : ∀ s' σ2 I3 C3 H3, Ex I I3 → St I3 C3 H3 → P s' σ2 I3 C3 → Post (k s') Q XF → tz D σ2 H3) : Evl.tCut (tIfS tt tu tw) tz D σ H := by
  refine ⟨fun σ2 H3 => ∃ s' I3 C3, Ex I I3 ∧ St I3 C3 H3 ∧ P s' σ2 I3 C3 ∧ Post (k s') Q XF, ?_, fun σ2 H3 ⟨s', I3, C3, e3, s3, p, q⟩ => next s' σ2 I3 C3 H3 e3 s3 p q⟩
  refine h x ws I C H (Ex.refl _) off_ex s hc hx _ ((Post.bind (Post.bind hm)).mono (fun b z ws' I2 H2 e2 s2 hx2 => ?_) fun _ _ z => z)
  obtain ⟨c, y⟩ := b
  cases c with
  | true => exact h1 _ y ws' I2 H2 e2 s2 hx2 (Post.mono (m := m1 y) z (fun s' z σ2 I3 C3 H3 e3 s3 pp => ⟨s', I3, C3, e3, s3, pp, z⟩) fun _ _ z => z)
  | false => exact h2 _ y ws' I2 H2 e2 s2 hx2 (Post.mono (m := m2 y) z (fun s' z σ2 I3 C3 H3 e3 s3 pp => ⟨s', I3, C3, e3, s3, pp, z⟩) fun _ _ z => z)
/-- a for whose source draws -/
theorem sm_forN (P : S → L2.St → Hp → Hp → Prop) {wi : TI} {g : TG} {m : μ → Res (List α × μ)} {f : α → S → Res S} {s0 : μ → S} {k : S → Res ω} (hi : EvIM E K p M wi σ I (off C p) m R) (s : St I C H) (hc : C p = some (.lst ws)) (hx : M.r x ws I C) (hm : Post (((m x).bind fun b => loopN f b.1 (s0 b.2)).bind k) Q XF)
    (h0 : ∀ y ws' I2, Ex I I2 → M.r y ws' I2 (upd C p (.lst ws')) → P (s0 y) σ I2 (upd C p (.lst ws'))) (hP : ∀ s' σ' I' I2 C', Ex I' I2 → P s' σ' I' C' → P s' σ' I2 C')
    (body : ∀ (N : L2.St → Hp → Prop) x v s' σ' I' C' H', Ex I I' → St I' C' H' → P s' σ' I' C' → R.r x v I' C' → Post (f x s') (fun s2 => ∀ σ2 I3 C3 H3, Ex I' I3 → St I3 C3 H3 → P s2 σ2 I3 C3 → N σ2 H3) XF →
      g v σ' H' fun σ2 H2 => tu { D with nx := N, ct := N, bk := tz D } σ2 H2)
    (next : ∀ s' σ' I' C' H', Ex I I' → St I' C' H' → P s' σ' I' C' → Post (k s') Q XF → tz D σ' H') : tSeq (tFor wi g tu) tz D σ H :=
  hi x ws I C H (Ex.refl _) off_ex s hc hx _ ((Post.bind (Post.bind hm)).mono (fun b q2 ws2 J G Y I2 H2 e2 s2 hx2 hz w hG hY => by
    refine for_it w (fun i σ' H' => ∃ s' I' C', Ex I2 I' ∧ St I' C' H' ∧ P s' σ' I' C' ∧ Post ((loopN f (b.1.drop i) s').bind k) Q XF) ⟨s0 b.2, I2, _, Ex.refl _, s2, h0 _ _ I2 e2 hx2, by rw [List.drop_zero]; exact Post.of_bind q2⟩
      (fun i σ' H' hi ⟨s', I', C', e3, s3, p, _⟩ => hG I' C' H' e3 s3) (fun i x σ' H1 H' hi ⟨s', I', C', e3, s3, p, po⟩ y => ?_) (fun σ' H' ⟨s', I', C', e3, s3, p, po⟩ => ?_)
    · obtain ⟨a, ha⟩ : ∃ a, b.1[i]? = some a := ⟨b.1[i], by simp [hi]⟩
      rw [drop_cons ha] at po
      obtain ⟨I4, e4, s4, ra⟩ := hY i a x I' C' H1 H' ha e3 s3 y
      exact body _ a x s' σ' I4 C' H' (e2.trans (e3.trans e4)) s4 (hP _ _ _ _ _ e4 p) ra ((Post.bind (Post.bind po)).mono (fun s3 z σ2 I5 C5 H5 e5 s5 p5 => ⟨s3, I5, C5, e3.trans (e4.trans e5), s5, p5, Post.of_bind z⟩) fun _ _ z => z)
    · rw [List.drop_length] at po
      exact next s' σ' I' C' H' (e2.trans e3) s3 p po) fun _ _ z => z)
/-- pool[k] = e, k written -/
theorem sm_set [It M] {i k : Nat} {g : μ → α → μ} {kk : μ → Res ω} {m : Res α} (hv : σ[i]? = some (some (.ref p))) (h : EvX E K te σ I C m R) (j : Pk M k g R) (s : St I C H) (hc : C p = some (.lst ws)) (hx : M.r x ws I C) (hm : Post (m.bind fun a => kk (g x a)) Q XF)
    (next : ∀ y ws' I2 H2, Ex I I2 → St I2 (upd C p (.lst ws')) H2 → M.r y ws' I2 (upd C p (.lst ws')) → Post (kk y) Q XF → tz D σ H2) : tSeq (tAsg te (gSub (tVar i) (tC (.int (k : Int))) rSetL)) tz D σ H :=
  h I C H (Ex.refl _) (Ex.refl _) s _ ((Post.bind hm).mono (fun a z v I2 H2 e2 s2 rv => by
    obtain ⟨q, hl⟩ := j x ws I2 C a v (M.mono e2 (Ex.refl _) hx) rv
    refine ⟨.ref p, hv, p, ws, k, k, rfl, rfl, s2.c p _ hc, ?_, next (g x a) (ws.set k v) I2 _ e2 (s2.set hc) (It.im q) z⟩
    unfold ixN
    rw [if_pos (by omega), if_pos (by omega)]
    rfl) fun _ _ z => z.elim)
/-- pool[k], k written -/
theorem x_pool {i k : Nat} {f : μ → β} {S : Rp β} (hv : σ[i]? = some (some (.ref p))) (hc : C p = some (.lst ws)) (hx : M.r x ws I C) (j : Pj M k f S) : EvX E K (tOp (rIxL K) (tVar i) (tC (.int (k : Int)))) σ I C (.ok (f x)) S := fun I1 C1 H1 e e' s Q q => by
  obtain ⟨w, hw, r⟩ := j x ws I1 C1 (M.mono e e' hx)
  exact ⟨.ref p, hv, p, ws, k, w, rfl, rfl, .inl (.inl (s.c p _ (e' p _ hc))), atI_nat hw, PQ.now (R := S) (a := f x) q s r⟩
end
end Sd

namespace Sd
open PySem L2
/-! ### forms for the printed proofs -/
abbrev Z : Hp := fun _ => none
theorem exz {C : Hp} : Ex Z C := fun _ _ h => nomatch h
theorem Im.z {α : Type} {R : Rp α} [Im R] {a : α} {v : V} {I C : Hp} (h : R.r a v I C) : R.r a v I Z := Im.im h
/-- a new list of one's own -/
abbrev PN {α : Type} (R : Rp α) (I C : Hp) (Q : VK) (xs : List α) : Prop := ∀ p vs I2 H2, Ex I I2 → C p = none → St I2 (upd C p (.lst vs)) H2 → vs.length ≤ sizeLine → A2 (fun x u => R.r x u I2 C) xs vs → Q (.ref p) H2
def EvN (E : XK) (K : PySem.W.Frag) (te : TE) (σ : L2.St) (I C : Hp) {α : Type} (m : Res (List α)) (R : Rp α) : Prop :=
  ∀ I1 C1 H1, Ex I I1 → Ex C C1 → St I1 C1 H1 → ∀ Q : VK, Post m (PN R I1 C1 Q) (PX E K I1 C1) → te σ H1 Q
def Op2N (E : XK) (K : PySem.W.Frag) (r : R2) {α β γ : Type} (f : α → β → Res (List γ)) (R : Rp α) (S : Rp β) (T : Rp γ) : Prop :=
  ∀ I C H a b x y, St I C H → R.r a x I C → S.r b y I C → ∀ Q : VK, Post (f a b) (PN T I C Q) (PX E K I C) → r x y H Q
def OpLN (E : XK) (K : PySem.W.Frag) (r : List V → Hp → VK → Prop) {α γ : Type} (f : α → Res (List γ)) (R : Rt α) (T : Rp γ) : Prop :=
  ∀ I C H a vs, St I C H → R.r a vs I C → ∀ Q : VK, Post (f a) (PN T I C Q) (PX E K I C) → r vs H Q
/-- f(a ..) hands back a new list of its own -/
def spO (K : PySem.W.Frag) {α β : Type} (T : Rt α) (m : α → Res (List β)) (R : Rp β) : Sp := fun vs H Q E => ∃ (I C : Hp) (a : α), St I C H ∧ T.r a vs I C ∧ Post (m a) (PN R I C Q) (PX E K I C)
section
variable {E : XK} {K : PySem.W.Frag} {σ : L2.St} {I I' C C' H : Hp} {α β γ : Type} {R : Rp α} {S : Rp β} {T : Rp γ} {te ta tb : TE} {tt : TT}
theorem PN.of {I1 C1 : Hp} {Q : VK} {xs : List α} [Im R] (q : PQ (pL R) I1 C1 Q xs) : PN R I1 C1 Q xs := fun p vs I2 H2 e hp s hl hr => by
  have sf := s.frz (p := p) upd_same
  have iD : I2 p = none := s.freeI upd_same
  refine q (.ref p) (upd I2 p (.lst vs)) H2 (e.trans (Ex.new iD)) (sf.less fun a o ha => ?_) ⟨p, vs, rfl, upd_same, hl, hr.imp fun _ _ => R.mono (Ex.new iD) (Ex.refl _)⟩
  have hne : a ≠ p := fun z => by
    rw [z, hp] at ha
    cases ha
  show (if a = p then none else upd C1 p (.lst vs) a) = some o
  rw [if_neg hne, upd_ne hne]
  exact ha
theorem x_own [Im R] {m : Res (List α)} (h : EvN E K te σ I C m R) : EvX E K te σ I C m (pL R) := fun I1 C1 H1 e e' s Q q => h I1 C1 H1 e e' s Q (q.mono (fun xs z => PN.of z) fun _ _ z => z)
theorem PN.new {I1 C1 H1 : Hp} {Q : VK} {xs : List α} {vs : List V} (q : PN R I1 C1 Q xs) (s : St I1 C1 H1) (h : A2 (fun x u => R.r x u I1 C1) xs vs) (hl : vs.length ≤ sizeLine) : ∀ p, H1 p = none → Q (.ref p) (upd H1 p (.lst vs)) := fun p hp =>
  q p vs I1 _ (Ex.refl _) (s.c.free hp) (s.newC hp) hl h
theorem PN.up {I1 I2 C1 : Hp} {Q : VK} {xs : List α} (e : Ex I1 I2) (q : PN R I1 C1 Q xs) : PN R I2 C1 Q xs := fun p vs I3 H3 e3 hp s hl hr => q p vs I3 H3 (e.trans e3) hp s hl hr
theorem n_op {r : R2} {f : α → β → Res (List γ)} {m : Res α} {n : Res β} (hr : Op2N E K r f R S T) (h1 : EvX E K ta σ I C m R) (h2 : EvX E K tb σ I C n S) : EvN E K (tOp r ta tb) σ I C (bin f m n) T := fun I1 C1 H1 e e' s Q q =>
  h1 I1 C1 H1 e e' s _ ((Post.bind q).mono (fun a p x I2 H2 e2 s2 rx =>
    h2 I2 C1 H2 (e.trans e2) e' s2 _ ((Post.bind p).mono (fun b p2 y I3 H3 e3 s3 ry =>
      hr I3 C1 H3 a b x y s3 (R.mono e3 (Ex.refl _) rx) ry Q (p2.mono (fun c z => z.up (e2.trans e3)) fun c i z => z.mono (e2.trans e3) (Ex.refl _))) fun c i z => z.mono e2 (Ex.refl _)))
    fun _ _ z => z)
theorem n_cb {r : List V → Hp → VK → Prop} {f : α → Res (List γ)} {A : Rt α} {tr : TA} {m : Res α} (hr : OpLN E K r f A T) (h : EvA E K tr σ I C m A) : EvN E K (tCB r tr) σ I C (un f m) T := fun I1 C1 H1 e e' s Q q =>
  h I1 C1 H1 e e' s _ ((Post.bind q).mono (fun a p vs I2 H2 e2 s2 rv => hr I2 C1 H2 a vs s2 rv Q (p.mono (fun c z => z.up e2) fun c i z => z.mono e2 (Ex.refl _))) fun _ _ z => z)
theorem n_call {A : Rt α} {f : α → Res (List β)} {m : Res α} {tr : TA} (h : EvA E K tr σ I C m A) : EvN E K (tCall (spO K A f S) [] E tr) σ I C (un f m) S := fun I1 C1 H1 e e' s Q q =>
  h I1 C1 H1 e e' s _ ((Post.bind q).mono (fun a p vs I2 H2 e2 s2 rv => ⟨I2, C1, a, s2, by rw [List.append_nil]; exact rv, Post.mono (m := f a) p (fun b z => z.up e2) fun c i z => z.mono e2 (Ex.refl _)⟩) fun _ _ z => z)
theorem n_lst {k : Nat} {m : Res (List α)} {tr : TA} (h : EvA E K tr σ I C m (tL R k)) (hn : k ≤ 100) : EvN E K (tLst tr) σ I C m R := fun I1 C1 H1 e e' s Q q =>
  h I1 C1 H1 e e' s _ (q.mono (fun a p vs I2 H2 e2 s2 rv => by
    have hl : vs.length ≤ sizeLine := by
      rw [rv.1]
      exact Nat.le_trans hn (by decide)
    exact ⟨hl, PN.new (PN.up e2 p) s2 rv.2 hl⟩) fun _ _ z => z)
theorem n_list : OpLN E K (fun xs H Q => ∃ p ys, xs = [.ref p] ∧ (SqL K H p ys ∨ SqT K H p ys) ∧ ∀ l, H l = none → Q (.ref l) (upd H l (.lst ys))) idR (t1 (pV R)) R := fun I C H a vs s hv Q q => by
  obtain ⟨v, rfl, h⟩ := hv
  obtain ⟨p, us, rfl, h2, h3, h4⟩ := pV.at s h
  exact ⟨p, us, rfl, .inl (.inl (.inl h2)), PN.new q s h4 h3⟩
theorem n_listQ : OpLN E K (fun xs H Q => ∃ p ys, xs = [.ref p] ∧ (SqL K H p ys ∨ SqT K H p ys) ∧ ∀ l, H l = none → Q (.ref l) (upd H l (.lst ys))) idR (t1 (pQ K R)) R := fun I C H a vs s hv Q q => by
  obtain ⟨v, rfl, p, us, rfl, h2, h3, h4⟩ := hv
  exact ⟨p, us, rfl, .inr (ex_t s.i h2), PN.new q s h4 h3⟩
theorem n_cat : Op2N E K rCat rCatR (pV R) (pV R) R := fun I C H a b x y s hx hy Q q => by
  unfold rCatR at q
  split at q
  · rename_i h
    obtain ⟨p, us, rfl, h2, h3, h4⟩ := pV.at s hx
    obtain ⟨p', us', rfl, h2', h3', h4'⟩ := pV.at s hy
    have hl : us.length + us'.length ≤ sizeLine := by
      rw [h4.len, h4'.len]
      exact Nat.le_trans h (by decide)
    exact ⟨p, p', us, us', rfl, rfl, h2, h2', hl, PN.new q s (h4.append h4') (by rw [List.length_append]; exact hl)⟩
  · exact q.elim
theorem n_rep : Op2N E K rRep rRepR (pV R) pI R := fun I C H a b x y s hx hy Q q => by
  unfold rRepR at q
  split at q
  · rename_i h
    obtain ⟨p, us, rfl, h2, h3, h4⟩ := pV.at s hx
    subst hy
    have hl : us.length * b.toNat ≤ sizeLine := by
      rw [h4.len]
      exact Nat.le_trans h.2.2 (by decide)
    exact ⟨p, b, us, rfl, rfl, h2, by omega, by omega, hl, PN.new q s (h4.rep _) (by rw [flat_len]; exact hl)⟩
  · exact q.elim
theorem n_sl {tl th : TO} {m : Res (List α)} {lo hi : Res (Option Int)} (h : EvX E K te σ I C m (pV R)) (hl : EvO E K tl σ I C lo) (hh : EvO E K th σ I C hi) : EvN E K (tSl (rSlL K) te tl th) σ I C (slR m lo hi) R := fun I1 C1 H1 e e' s Q q =>
  h I1 C1 H1 e e' s _ ((Post.bind q).mono (fun a p x I2 H2 e2 s2 rx =>
    hl I2 C1 H2 (e.trans e2) e' s2 _ ((Post.bind p).mono (fun o p2 I3 H3 e3 s3 =>
      hh I3 C1 H3 (e.trans (e2.trans e3)) e' s3 _ ((Post.bind p2).mono (fun o2 p3 I4 H4 e4 s4 => by
        obtain ⟨b, us, rfl, h2, h3, h4⟩ := pV.at s4 ((pV R).mono (e3.trans e4) (Ex.refl _) rx)
        exact ⟨b, us, rfl, .inl (.inl h2), PN.new (PN.up (e2.trans (e3.trans e4)) p3) s4 (h4.cut o o2) (Nat.le_trans (cutV_length _ _ _) h3)⟩) fun c i z => z.mono (e2.trans e3) (Ex.refl _))) fun c i z => z.mono e2 (Ex.refl _)))
    fun _ _ z => z)
theorem n_lcgK [Im S] {wi : TI} {g : TG} {tt : TT} {vs : List Nat} {p : α → Res Bool} {f : α → Res β} {P : α → L2.St → Hp → Hp → Prop} {kp : Hp → Prop} (hi : EvI E K wi σ I C kp m R) (hkp : ∀ C3, Ex C C3 → kp C3) (hg : Tg K g R (wipe σ vs) P)
    (hw : ∀ x σ2 I' C', P x σ2 I' C' → wipe σ2 vs = wipe σ vs)
    (hp : ∀ x σ2 I' C', Ex I I' → Ex C C' → P x σ2 I' C' → EvT EZ K tt σ2 I' C' (p x))
    (hf : ∀ x σ2 I' C', Ex I I' → Ex C C' → P x σ2 I' C' → EvX EZ K te σ2 I' C' (f x) S)
    (hm : ∀ x σ2 I' I2 C', Ex I' I2 → P x σ2 I' C' → P x σ2 I2 C') : EvN E K (tLc wi g tt te vs) σ I C (m.bind (filR p f)) S := fun I1 C1 H1 e e' s Q q =>
  hi I1 C1 H1 e e' s _ ((Post.bind q).mono (fun xs q2 J G Y I2 H2 e2 s2 hz w hG hY D hD => by
    have cD : C1 D = none := s2.c.free hD
    refine lc_it w (fun i H => Lc S I2 C1 D (filR p f (xs.drop i)) (PN S I1 C1 Q) i H) ⟨[], [], I2, Ex.refl _, s2.newC hD, Nat.le_refl _, .nil, ?_⟩ (fun i H hi ⟨_, vs', I', e3, s3, _⟩ => hG I' _ H e3 (hkp _ (e'.trans (Ex.new cD))) s3) (fun i x H H' hi ⟨ys, us, I', e3, s3, hn, r3, po⟩ y => ?_) (fun H ⟨ys, us, I', e3, s3, hn, r3, po⟩ => ?_)
    · cases hfil : filR p f xs with
      | ok zs =>
        rw [hfil] at q2
        show Post (filR p f (xs.drop 0)) _ _
        rw [List.drop_zero, hfil]
        exact q2
      | exc c i =>
        exfalso
        revert hfil
        clear q2 hG hY w hz
        induction xs with
        | nil =>
          intro z
          cases z
        | cons x xs ih =>
          unfold filR
          cases p x with
          | ok b =>
            cases b with
            | true =>
              cases f x with
              | ok y =>
                intro z
                cases hh : filR p f xs with
                | ok zs =>
                  simp only [hh] at z
                  cases z
                | exc c' i' =>
                  simp only [hh] at z
                  have z2 : (Res.exc c' i' : Res (List β)) = .exc c i := z
                  cases z2
                  exact ih hh
                | bad =>
                  simp only [hh] at z
                  cases z
              | exc _ _ => intro z; cases z
              | bad => intro z; cases z
            | false => exact ih
          | exc _ _ => intro z; cases z
          | bad => intro z; cases z
      | bad =>
        rw [hfil] at q2
        exact q2.elim
    · obtain ⟨a, ha⟩ : ∃ a, xs[i]? = some a := ⟨xs[i], by simp [hi]⟩
      rw [drop_cons ha] at po
      obtain ⟨I4, e4, s4, ra⟩ := hY i a x I' _ H H' ha e3 (hkp _ (e'.trans (Ex.new cD))) s3 y
      refine hg a x I4 _ H' _ s4 ra fun σ2 pa => ⟨hw _ _ _ _ pa, ?_⟩
      have eI : Ex I I4 := e.trans (e2.trans (e3.trans e4))
      have eC : Ex C (upd C1 D (.lst us)) := e'.trans (Ex.new cD)
      unfold filR at po
      refine hp a σ2 I4 _ eI eC pa I4 _ H' (Ex.refl _) (Ex.refl _) s4 _ ?_
      cases hpa : p a with
      | ok b =>
        rw [hpa] at po
        cases b with
        | true =>
          show ∀ I5 H5, Ex I4 I5 → St I5 (upd C1 D (.lst us)) H5 → te σ2 H5 _
          intro I5 H5 e5 s5
          refine hf a σ2 I5 _ (eI.trans e5) eC (hm _ _ _ _ _ e5 pa) I5 _ H5 (Ex.refl _) (Ex.refl _) s5 _ ?_
          cases hfa : f a with
          | ok b =>
            have po2 : Post ((filR p f (xs.drop (i + 1))).bind fun ys => .ok (b :: ys)) (fun zs => PN S I1 C1 Q (ys ++ zs)) (fun _ _ => False) := by
              have z := po
              simp only [hfa] at z
              exact z
            intro v I6 H6 e6 s6 rv
            have hsz : us.length < sizeLine := Nat.lt_of_le_of_lt hn (Nat.lt_of_lt_of_le hi hz)
            refine ⟨us, s6.c D _ upd_same, hsz, ⟨ys ++ [b], us ++ [v], I6, e3.trans (e4.trans (e5.trans e6)), ?_, by rw [List.length_append]; exact Nat.succ_le_succ hn, ?_, ?_⟩⟩
            · have z := s6.set (o := .lst (us ++ [v])) (p := D) upd_same
              rw [upd_upd] at z
              exact z
            · exact (r3.imp fun _ _ => S.mono (e4.trans (e5.trans e6)) (Ex.refl _)).append (.one (Im.im rv))
            · refine (Post.bind po2).mono (fun zs z => ?_) fun _ _ z => z
              rw [List.append_assoc]
              exact z
          | exc c j =>
            have z := po
            simp only [hfa] at z
            exact z.elim
          | bad =>
            have z := po
            simp only [hfa] at z
            exact z.elim
        | false =>
          show ∀ I5 H5, Ex I4 I5 → St I5 (upd C1 D (.lst us)) H5 → Lc S I2 C1 D (filR p f (xs.drop (i + 1))) (PN S I1 C1 Q) (i + 1) H5
          intro I5 H5 e5 s5
          exact ⟨ys, us, I5, e3.trans (e4.trans e5), s5, Nat.le_succ_of_le hn, r3.imp fun _ _ => S.mono (e4.trans e5) (Ex.refl _), po⟩
      | exc c j =>
        rw [hpa] at po
        exact po.elim
      | bad =>
        rw [hpa] at po
        exact po.elim
    · rw [List.drop_length] at po
      have po2 : PN S I1 C1 Q (ys ++ []) := po
      rw [List.append_nil] at po2
      exact po2 D us I' H (e2.trans e3) cD s3 (Nat.le_trans hn hz) r3) fun _ _ z => z)

theorem n_lcg [Im S] {wi : TI} {g : TG} {tt : TT} {vs : List Nat} {p : α → Res Bool} {f : α → Res β} {P : α → L2.St → Hp → Hp → Prop} (hi : EvI E K wi σ I C kpT m R) (hg : Tg K g R (wipe σ vs) P)
    (hw : ∀ x σ2 I' C', P x σ2 I' C' → wipe σ2 vs = wipe σ vs)
    (hp : ∀ x σ2 I' C', Ex I I' → Ex C C' → P x σ2 I' C' → EvT EZ K tt σ2 I' C' (p x))
    (hf : ∀ x σ2 I' C', Ex I I' → Ex C C' → P x σ2 I' C' → EvX EZ K te σ2 I' C' (f x) S)
    (hm : ∀ x σ2 I' I2 C', Ex I' I2 → P x σ2 I' C' → P x σ2 I2 C') : EvN E K (tLc wi g tt te vs) σ I C (m.bind (filR p f)) S := n_lcgK hi (fun _ _ => trivial) hg hw hp hf hm
theorem n_lc [Im S] {wi : TI} {g : TG} {vs : List Nat} {m : Res (List α)} {f : α → Res β} {P : α → L2.St → Hp → Hp → Prop} (hi : EvI E K wi σ I C kpT m R) (hg : Tg K g R (wipe σ vs) P)
    (hw : ∀ x σ2 I' C', P x σ2 I' C' → wipe σ2 vs = wipe σ vs)
    (hf : ∀ x σ2 I' C', Ex I I' → Ex C C' → P x σ2 I' C' → EvX EZ K te σ2 I' C' (f x) S)
    (hm : ∀ x σ2 I' I2 C', Ex I' I2 → P x σ2 I' C' → P x σ2 I2 C') : EvN E K (tLc wi g tYes te vs) σ I C (m.bind (mapR f)) S := by
  have z := n_lcg (p := fun _ => .ok true) hi hg hw (fun x σ2 I' C' _ _ _ => t_yes) hf hm
  have e : filR (fun _ => Res.ok true) f = mapR f := funext (filR_yes f)
  rw [e] at z
  exact z
theorem n_lcK [Im S] {wi : TI} {g : TG} {vs : List Nat} {m : Res (List α)} {f : α → Res β} {P : α → L2.St → Hp → Hp → Prop} {kp : Hp → Prop} (hi : EvI E K wi σ I C kp m R) (hkp : ∀ C3, Ex C C3 → kp C3) (hg : Tg K g R (wipe σ vs) P)
    (hw : ∀ x σ2 I' C', P x σ2 I' C' → wipe σ2 vs = wipe σ vs)
    (hf : ∀ x σ2 I' C', Ex I I' → Ex C C' → P x σ2 I' C' → EvX EZ K te σ2 I' C' (f x) S)
    (hm : ∀ x σ2 I' I2 C', Ex I' I2 → P x σ2 I' C' → P x σ2 I2 C') : EvN E K (tLc wi g tYes te vs) σ I C (m.bind (mapR f)) S := by
  have z := n_lcgK (p := fun _ => .ok true) hi hkp hg hw (fun x σ2 I' C' _ _ _ => t_yes) hf hm
  have e : filR (fun _ => Res.ok true) f = mapR f := funext (filR_yes f)
  rw [e] at z
  exact z
/-- sorted(pairs of ints) -/
def leP (a b : Int × Int) : Bool := decide (a.1 < b.1) || (decide (a.1 = b.1) && decide (a.2 ≤ b.2))
def insP (x : Int × Int) : List (Int × Int) → List (Int × Int)
  | [] => [x]
  | y :: ys => if leP x y = true then x :: y :: ys else y :: insP x ys
def isortP : List (Int × Int) → List (Int × Int)
  | [] => []
  | x :: xs => insP x (isortP xs)
def sortP (xs : List (Int × Int)) : Res (List (Int × Int)) := .ok (isortP xs)
@[simp] theorem sortP_eq (xs : List (Int × Int)) : sortP xs = .ok (isortP xs) := rfl
theorem leP_iff {a b : Int × Int} : leP a b = true ↔ a.1 < b.1 ∨ (a.1 = b.1 ∧ a.2 ≤ b.2) := by
  unfold leP
  simp only [Bool.or_eq_true, Bool.and_eq_true, decide_eq_true_eq]
theorem insP_perm (x : Int × Int) : ∀ ys, (insP x ys).Perm (x :: ys)
  | [] => .refl _
  | y :: ys => by
    unfold insP
    split
    · exact .refl _
    · exact ((insP_perm x ys).cons y).trans (.swap x y ys)
theorem isortP_perm : ∀ xs, (isortP xs).Perm xs
  | [] => .refl _
  | x :: xs => (insP_perm x _).trans ((isortP_perm xs).cons x)
theorem leP_total (a b : Int × Int) : leP a b = true ∨ leP b a = true := by
  rw [leP_iff, leP_iff]
  omega
theorem leP_trans {a b c : Int × Int} (h : leP a b = true) (h' : leP b c = true) : leP a c = true := by
  rw [leP_iff] at *
  omega
theorem leP_anti {a b : Int × Int} (h : leP a b = true) (h' : leP b a = true) : a = b := by
  rw [leP_iff] at *
  exact Prod.ext (by omega) (by omega)
theorem insP_sorted (x : Int × Int) : ∀ {ys : List (Int × Int)}, ys.Pairwise (fun a b => leP a b = true) → (insP x ys).Pairwise (fun a b => leP a b = true)
  | [], _ => List.pairwise_singleton _ _
  | y :: ys, h => by
    obtain ⟨h1, h2⟩ := List.pairwise_cons.mp h
    unfold insP
    split
    · rename_i hx
      exact List.pairwise_cons.mpr ⟨fun z hz => by
        rcases List.mem_cons.mp hz with e | hz
        · rw [e]
          exact hx
        · exact leP_trans hx (h1 z hz), h⟩
    · rename_i hx
      refine List.pairwise_cons.mpr ⟨fun z hz => ?_, insP_sorted x h2⟩
      rcases List.mem_cons.mp ((insP_perm x ys).mem_iff.mp hz) with e | hz
      · rw [e]
        exact (leP_total y x).resolve_right hx
      · exact h1 z hz
theorem isortP_sorted : ∀ xs, (isortP xs).Pairwise (fun a b => leP a b = true)
  | [] => .nil
  | x :: xs => insP_sorted x (isortP_sorted xs)
theorem sorted_unique : ∀ {xs ys : List (Int × Int)}, xs.Perm ys → xs.Pairwise (fun a b => leP a b = true) → ys.Pairwise (fun a b => leP a b = true) → xs = ys
  | [], ys, p, _, _ => by rw [List.nil_perm.mp p]
  | x :: xs, [], p, _, _ => by cases List.perm_nil.mp p
  | x :: xs, y :: ys, p, h, h' => by
    obtain ⟨h1, h2⟩ := List.pairwise_cons.mp h
    obtain ⟨h1', h2'⟩ := List.pairwise_cons.mp h'
    have e : x = y := by
      by_cases e : x = y
      · exact e
      · have hy : y ∈ xs := (List.mem_cons.mp (p.mem_iff.mpr List.mem_cons_self)).resolve_left fun z => e z.symm
        have hx : x ∈ ys := (List.mem_cons.mp (p.mem_iff.mp List.mem_cons_self)).resolve_left e
        exact leP_anti (h1 y hy) (h1' x hx)
    subst e
    rw [sorted_unique (List.Perm.cons_inv p) h2 h2']
end
end Sd

namespace Sd
open PySem L2
section
variable {E : XK} {K : PySem.W.Frag} {σ : L2.St} {I I' C C' H : Hp} {α β γ μ ω S ρ : Type} {R : Rp α} {S1 : Rp β} {te ta tb : TE} {tt : TT} {tz tu tw : TS} {D : Ends} {Q : ω → Prop} {X : Ec → Int → Prop}
/-! ### sorted -/
def kP (H : Hp) (v : V) : Int × Int := match v with
  | .ref t => (match H t with
    | some (.tup [.int i, .int j]) => (i, j)
    | _ => (0, 0))
  | _ => (0, 0)
theorem kP_of {a : Int × Int} {v : V} (s : St I C H) (h : (pT (tc pI (t1 pI))).r a v I C) : (∃ t, v = .ref t ∧ H t = some (.tup [.int a.1, .int a.2])) ∧ kP H v = a := by
  obtain ⟨t, vs, rfl, h2, u, us, rfl, h3, w, rfl, h4⟩ := h
  have e1 : u = .int a.1 := h3
  have e2 : w = .int a.2 := h4
  subst e1 e2
  have ht := s.i _ _ h2
  refine ⟨⟨t, rfl, ht⟩, ?_⟩
  show (match H t with
    | some (.tup [.int i, .int j]) => (i, j)
    | _ => (0, 0)) = a
  rw [ht]
theorem kP_map (s : St I C H) : ∀ {xs : List (Int × Int)} {vs : List V}, A2 (fun x u => (pT (tc pI (t1 pI))).r x u I C) xs vs → vs.map (kP H) = xs
  | _, _, .nil => rfl
  | _, _, .cons r t => by rw [List.map_cons, (kP_of s r).2, kP_map s t]
theorem a2_mem {f : α → V → Prop} : ∀ {xs : List α} {vs : List V} {v : V}, A2 f xs vs → v ∈ vs → ∃ x, x ∈ xs ∧ f x v
  | _, _, _, .nil, h => by cases h
  | _, _, _, .cons r t, h => by
    rcases List.mem_cons.mp h with e | h
    · exact ⟨_, List.mem_cons_self, by rw [e]; exact r⟩
    · obtain ⟨x, hx, r⟩ := a2_mem t h
      exact ⟨x, List.mem_cons_of_mem _ hx, r⟩
theorem a2_of_k {f : β → V → Prop} {k : V → β} : ∀ {ys : List V}, (∀ v, v ∈ ys → f (k v) v) → A2 f (ys.map k) ys
  | [], _ => .nil
  | y :: ys, h => .cons (h y List.mem_cons_self) (a2_of_k fun v hv => h v (List.mem_cons_of_mem _ hv))
theorem n_sortP : OpLN E K (rSortedPO K) sortP (t1 (pV (pT (tc pI (t1 pI))))) (pT (tc pI (t1 pI))) := fun I C H a vs s hv Q q => by
  obtain ⟨v, rfl, h⟩ := hv
  obtain ⟨p, us, rfl, h2, h3, h4⟩ := pV.at s h
  refine ⟨p, us, kP H, rfl, .inl (.inl h2), fun x hx => ?_, fun ys l hs hb hl => ?_⟩
  · obtain ⟨z, _, r⟩ := a2_mem h4 hx
    obtain ⟨⟨t, e, ht⟩, ek⟩ := kP_of s r
    exact ⟨t, e, by rw [ek]; exact ht⟩
  · have ep : (ys.map (kP H)).Perm a := by
      have z := hb.perm.map (kP H)
      rw [kP_map s h4] at z
      exact z
    have es : (ys.map (kP H)).Pairwise (fun a b => leP a b = true) := by
      refine List.pairwise_map.mpr (hs.imp fun {x y} z => ?_)
      rw [leP_iff]
      have z2 : ¬ SrtO.lexB (kP H y) (kP H x) = true := by
        intro z3
        have z4 : SrtO.lexB (kP H y) (kP H x) = false := z
        rw [z3] at z4
        cases z4
      rw [SrtO.lexB_iff] at z2
      omega
    have e := sorted_unique (ep.trans (isortP_perm a).symm) es (isortP_sorted a)
    have q2 : PN (pT (tc pI (t1 pI))) I C Q (isortP a) := q
    rw [← e] at q2
    refine PN.new q2 s (a2_of_k fun v hv => ?_) (by rw [hb.perm.length_eq]; exact h3) l hl
    obtain ⟨z, _, r⟩ := a2_mem h4 (hb.perm.mem_iff.mp hv)
    rw [(kP_of s r).2]
    exact r
def insI (x : Int) : List Int → List Int
  | [] => [x]
  | y :: ys => if x ≤ y then x :: y :: ys else y :: insI x ys
def isortI : List Int → List Int
  | [] => []
  | x :: xs => insI x (isortI xs)
def sortI (xs : List Int) : Res (List Int) := .ok (isortI xs)
@[simp] theorem sortI_eq (xs : List Int) : sortI xs = .ok (isortI xs) := rfl
theorem insI_perm (x : Int) : ∀ ys, (insI x ys).Perm (x :: ys)
  | [] => .refl _
  | y :: ys => by
    unfold insI
    split
    · exact .refl _
    · exact ((insI_perm x ys).cons y).trans (.swap x y ys)
theorem isortI_perm : ∀ xs, (isortI xs).Perm xs
  | [] => .refl _
  | x :: xs => (insI_perm x _).trans ((isortI_perm xs).cons x)
theorem insI_sorted (x : Int) : ∀ {ys : List Int}, ys.Pairwise (· ≤ ·) → (insI x ys).Pairwise (· ≤ ·)
  | [], _ => List.pairwise_singleton _ _
  | y :: ys, h => by
    obtain ⟨h1, h2⟩ := List.pairwise_cons.mp h
    unfold insI
    split
    · rename_i hx
      exact List.pairwise_cons.mpr ⟨fun z hz => by
        rcases List.mem_cons.mp hz with e | hz
        · rw [e]
          exact hx
        · exact Int.le_trans hx (h1 z hz), h⟩
    · rename_i hx
      refine List.pairwise_cons.mpr ⟨fun z hz => ?_, insI_sorted x h2⟩
      rcases List.mem_cons.mp ((insI_perm x ys).mem_iff.mp hz) with e | hz
      · rw [e]
        omega
      · exact h1 z hz
theorem isortI_sorted : ∀ xs, (isortI xs).Pairwise (· ≤ ·)
  | [] => .nil
  | x :: xs => insI_sorted x (isortI_sorted xs)
theorem sortedI_unique : ∀ {xs ys : List Int}, xs.Perm ys → xs.Pairwise (· ≤ ·) → ys.Pairwise (· ≤ ·) → xs = ys
  | [], ys, p, _, _ => by rw [List.nil_perm.mp p]
  | x :: xs, [], p, _, _ => by cases List.perm_nil.mp p
  | x :: xs, y :: ys, p, h, h' => by
    obtain ⟨h1, h2⟩ := List.pairwise_cons.mp h
    obtain ⟨h1', h2'⟩ := List.pairwise_cons.mp h'
    have e : x = y := by
      by_cases e : x = y
      · exact e
      · have hy : y ∈ xs := (List.mem_cons.mp (p.mem_iff.mpr List.mem_cons_self)).resolve_left fun z => e z.symm
        have hx : x ∈ ys := (List.mem_cons.mp (p.mem_iff.mp List.mem_cons_self)).resolve_left e
        exact Int.le_antisymm (h1 y hy) (h1' x hx)
    subst e
    rw [sortedI_unique (List.Perm.cons_inv p) h2 h2']
theorem n_sortI : OpLN E K (rSortedI K) sortI (t1 (pV pI)) pI := fun I C H a vs s hv Q q => by
  obtain ⟨v, rfl, h⟩ := hv
  obtain ⟨p, us, rfl, h2, h3, h4⟩ := pV.at s h
  have eu := A2.map_iff (h := V.int) (fun _ _ h => h) h4
  subst eu
  refine ⟨p, a, rfl, .inl (.inl h2), fun ns l hp hs hl => ?_⟩
  have e := sortedI_unique (hp.trans (isortI_perm a).symm) hs (isortI_sorted a)
  have q2 : PN pI I C Q (isortI a) := q
  rw [← e] at q2
  refine PN.new q2 s (A2.of_map (f := fun x u => pI.r x u I C) (h := V.int) (fun _ => rfl) ns) (by rw [List.length_map, hp.length_eq, ← List.length_map (f := V.int)]; exact h3) l hl
/-! ### chains, is of bools -/
theorem x_chain {r r' : R2} {f : α → β → Res Bool} {g : β → γ → Res Bool} {T : Rp γ} {tc : TE} {m : Res α} {n : Res β} {l : Res γ} (hr : Op2 E K r f R S1 pB) (hr' : Op2 E K r' g S1 T pB) (h1 : EvX E K ta σ I C m R) (h2 : EvX E K tb σ I C n S1) (h3 : EvX E K tc σ I C l T) :
    EvX E K (tChain r r' ta tb tc) σ I C (m.bind fun a => n.bind fun b => (f a b).bind fun k => if k = true then l.bind fun c => g b c else .ok false) pB := fun I1 C1 H1 e e' s Q q =>
  h1 I1 C1 H1 e e' s _ ((Post.bind q).mono (fun a p x I2 H2 e2 s2 rx =>
    h2 I2 C1 H2 (e.trans e2) e' s2 _ ((Post.bind p).mono (fun b p2 y I3 H3 e3 s3 ry =>
      hr I3 C1 H3 a b x y s3 (R.mono e3 (Ex.refl _) rx) ry _ ((Post.bind p2).mono (fun k p3 z I4 H4 e4 s4 rz => ⟨k, rz, by
        cases k with
        | true =>
          exact h3 I4 C1 H4 (e.trans (e2.trans (e3.trans e4))) e' s4 _ ((Post.bind p3).mono (fun c p4 w I5 H5 e5 s5 rw => hr' I5 C1 H5 b c y w s5 (S1.mono (e4.trans e5) (Ex.refl _) ry) rw Q
            (p4.mono (fun d z v I6 H6 e6 s6 rv => z v I6 H6 (e2.trans (e3.trans (e4.trans (e5.trans e6)))) s6 rv) fun c i z => z.mono (e2.trans (e3.trans (e4.trans e5))) (Ex.refl _))) fun c i z => z.mono (e2.trans (e3.trans e4)) (Ex.refl _))
        | false => exact p3 (.bl false) I4 H4 (e2.trans (e3.trans e4)) s4 rfl⟩) fun c i z => z.mono (e2.trans e3) (Ex.refl _))) fun c i z => z.mono e2 (Ex.refl _)))
    fun _ _ z => z)
theorem o_isB : Op2 E K rIsB eqR pB pB pB := fun I C H a b x y s hx hy Q q => ⟨a, b, hx, hy, PQ.now q s rfl⟩
theorem o_notB : Op2 E K rNotB neR pB pB pB := fun I C H a b x y s hx hy Q q => ⟨a, b, hx, hy, PQ.now q s rfl⟩
/-! ### a cell as a list that is read -/
theorem x_cell [Im R] {i : Nat} {a : Addr} {xs : List α} {vs : List V} (h : σ[i]? = some (some (.ref a))) (hc : C a = some (.lst vs)) (hl : vs.length ≤ sizeLine) (hr : A2 (fun x u => R.r x u I Z) xs vs) : EvX E K (tVar i) σ I C (.ok xs) (pV R) :=
  x_var h ⟨a, vs, rfl, .inr hc, hl, hr.imp fun _ _ h => Im.im h⟩
/-! ### keeping -/
theorem fr_keep {B C C2 : Hp} {p : Addr} (h : Ex B C) (hp : B p = none) (k : ∀ q, q ≠ p → C2 q = C q) : Ex B C2 := fun a o e => by
  rw [k a (ne_of_none e hp)]
  exact h a o e
theorem fr_pool {C0 C C2 : Hp} {p : Addr} (h : Ex (off C0 p) C) (k : ∀ q, q ≠ p → C2 q = C q) : Ex (off C0 p) C2 := fr_keep h off_same k
theorem ex_pool {C0 C : Hp} {p : Addr} {o : HO} (h : Ex (off C0 p) C) (hc : C p = some o) : Ex (upd C0 p o) C := fun a u e => by
  by_cases q : a = p
  · rw [q, upd_same] at e
    rw [q, hc]
    exact e
  · rw [upd_ne q] at e
    exact h a u ((off_ne q).trans e)
theorem freeze {a : Addr} {o : HO} (s : St I C H) (hc : C a = some o) : ∃ I2 C2, Ex I I2 ∧ St I2 C2 H ∧ I2 a = some o ∧ ∀ q, q ≠ a → C2 q = C q :=
  ⟨_, _, Ex.new (s.freeI hc), s.frz hc, upd_same, fun q h => if_neg h⟩
theorem frz_list [Im R] {I2 : Hp} {a : Addr} {xs : List α} {vs : List V} (e : Ex I I2) (h : I2 a = some (.lst vs)) (hl : vs.length ≤ sizeLine) (hr : A2 (fun x u => R.r x u I Z) xs vs) : (pL R).r xs (.ref a) I2 Z := ⟨a, vs, rfl, h, hl, hr.imp fun _ _ => R.mono e (Ex.refl _)⟩
theorem ne_new {p q : Addr} {o : HO} (h : C p = some o) (h' : C q = none) : p ≠ q := ne_of_none h h'
/-! ### statements, as they are printed -/
theorem q_asg [Im R] {i : Nat} {m : Res α} {k : α → Res ω} (h : EvX E K te σ I C m R) (s : St I C H) (hX : XH X E K I C) (hm : Post (m.bind k) Q X)
    (next : ∀ a v I2 H2, Ex I I2 → St I2 C H2 → R.r a v I2 Z → Post (k a) Q X → tz D (σ.set i (some v)) H2) : tSeq (tAsg te (gName i)) tz D σ H :=
  s_asg h s hX hm fun a v I2 H2 e2 s2 rv hm => next a v I2 H2 e2 s2 (Im.im rv) hm
theorem q_ret [Im R] {m : Res α} {k : α → Res ω} (h : EvX E K te σ I C m R) (s : St I C H) (hX : XH X E K I C) (hm : Post (m.bind k) Q X)
    (next : ∀ a v I2 H2, Ex I I2 → St I2 C H2 → R.r a v I2 Z → Post (k a) Q X → D.rt v H2) : tSeq (tRet te) tz D σ H :=
  s_ret h s hX hm fun a v I2 H2 e2 s2 rv hm => next a v I2 H2 e2 s2 (Im.im rv) hm
theorem q_retN {m : Res (List α)} {k : List α → Res ω} (h : EvN E K te σ I C m R) (s : St I C H) (hX : XH X E K I C) (hm : Post (m.bind k) Q X)
    (next : ∀ xs p vs I2 H2, Ex I I2 → C p = none → St I2 (upd C p (.lst vs)) H2 → vs.length ≤ sizeLine → A2 (fun x u => R.r x u I2 C) xs vs → Post (k xs) Q X → D.rt (.ref p) H2) : tSeq (tRet te) tz D σ H :=
  h I C H (Ex.refl _) (Ex.refl _) s _ ((Post.bind hm).mono (fun a z p vs I2 H2 e2 hp s2 hl hr => next a p vs I2 H2 e2 hp s2 hl hr z) hX)
/-- xs = e, a new list that will change -/
theorem q_asgN [Im R] {i : Nat} {m : Res (List α)} {k : List α → Res ω} (h : EvN E K te σ I C m R) (s : St I C H) (hX : XH X E K I C) (hm : Post (m.bind k) Q X)
    (next : ∀ xs p vs I2 C2 H2, Ex I I2 → C p = none → St I2 C2 H2 → C2 p = some (.lst vs) → (∀ q, q ≠ p → C2 q = C q) → vs.length ≤ sizeLine → A2 (fun x u => R.r x u I2 Z) xs vs → Post (k xs) Q X → tz D (σ.set i (some (.ref p))) H2) : tSeq (tAsg te (gName i)) tz D σ H :=
  h I C H (Ex.refl _) (Ex.refl _) s _ ((Post.bind hm).mono (fun a z p vs I2 H2 e2 hp s2 hl hr => next a p vs I2 _ H2 e2 hp s2 upd_same (fun q h => upd_ne h) hl (hr.imp fun _ _ h => Im.im h) z) hX)
theorem q_nil {i : Nat} (s : St I C H) (next : ∀ p C2 H2, C p = none → St I C2 H2 → C2 p = some (.lst []) → (∀ q, q ≠ p → C2 q = C q) → tz D (σ.set i (some (.ref p))) H2) : tSeq (tAsg (tLst tNil) (gName i)) tz D σ H :=
  s_newL s fun p H2 hp _ s2 => next p _ H2 hp s2 upd_same fun q h => upd_ne h
theorem q_app [Im R] {i : Nat} {p : Addr} {xs : List α} {vs : List V} {k : List α → Res ω} {m : Res α} (hv : σ[i]? = some (some (.ref p))) (hc : C p = some (.lst vs)) (hr : A2 (fun x u => R.r x u I Z) xs vs) (h : EvX E K te σ I C m R) (s : St I C H) (hX : XH X E K I C)
    (hm : Post ((m.bind fun x => push xs x).bind k) Q X)
    (next : ∀ ys vs' I2 C2 H2, Ex I I2 → St I2 C2 H2 → C2 p = some (.lst vs') → (∀ q, q ≠ p → C2 q = C q) → vs'.length ≤ sizeLine → A2 (fun x u => R.r x u I2 Z) ys vs' → Post (k ys) Q X → tz D σ H2) :
    tSeq (tDrop (tBM K "list" rAppend (tVar i) (tCons te tNil))) tz D σ H :=
  s_app hv hc (hr.imp fun _ _ h => Im.im h) h s hX hm fun ys vs' I2 H2 e2 s2 hl hr hm => next ys vs' I2 _ H2 e2 s2 upd_same (fun q h => upd_ne h) hl (hr.imp fun _ _ h => Im.im h) hm
theorem q_setL [Im R] {i : Nat} {p : Addr} {xs : List α} {vs : List V} {k : List α → Res ω} {ti : TE} {m : Res α} {mi : Res Int} (hv : σ[i]? = some (some (.ref p))) (hc : C p = some (.lst vs)) (hl : vs.length ≤ sizeLine) (hr : A2 (fun x u => R.r x u I Z) xs vs)
    (h : EvX E K te σ I C m R) (hi : EvX E K ti σ I C mi pI) (s : St I C H) (hX : XH X E K I C) (hm : Post ((m.bind fun x => mi.bind fun j => setR xs j x).bind k) Q X)
    (next : ∀ ys vs' I2 C2 H2, Ex I I2 → St I2 C2 H2 → C2 p = some (.lst vs') → (∀ q, q ≠ p → C2 q = C q) → vs'.length ≤ sizeLine → A2 (fun x u => R.r x u I2 Z) ys vs' → Post (k ys) Q X → tz D σ H2) :
    tSeq (tAsg te (gSub (tVar i) ti rSetL)) tz D σ H :=
  s_setL hv hc hl (hr.imp fun _ _ h => Im.im h) h hi s hX hm fun ys vs' I2 H2 e2 s2 hl hr hm => next ys vs' I2 _ H2 e2 s2 upd_same (fun q h => upd_ne h) hl (hr.imp fun _ _ h => Im.im h) hm
/-- xs.extend(e) -/
theorem q_ext [Im R] {i : Nat} {p : Addr} {xs : List α} {vs : List V} {k : List α → Res ω} {m : Res (List α)} (hv : σ[i]? = some (some (.ref p))) (hc : C p = some (.lst vs)) (hr : A2 (fun x u => R.r x u I Z) xs vs) (h : EvX E K te σ I C m (pL R)) (s : St I C H) (hX : XH X E K I C)
    (hm : Post ((m.bind fun x => rCatR xs x).bind k) Q X)
    (next : ∀ ys vs' I2 C2 H2, Ex I I2 → St I2 C2 H2 → C2 p = some (.lst vs') → (∀ q, q ≠ p → C2 q = C q) → vs'.length ≤ sizeLine → A2 (fun x u => R.r x u I2 Z) ys vs' → Post (k ys) Q X → tz D σ H2) :
    tSeq (tDrop (tBM K "list" rExtend (tVar i) (tCons te tNil))) tz D σ H :=
  ⟨.ref p, hv, .inl ⟨rfl, vs, .inl (.inl (s.c p _ hc))⟩, h I C H (Ex.refl _) (Ex.refl _) s _ ((Post.bind (Post.bind hm)).mono (fun a po v I2 H2 e2 s2 rv => by
    obtain ⟨b, us, rfl, h2, h3, h4⟩ := rv
    unfold rCatR at po
    split at po
    · rename_i hl
      have hn := hr.len
      have hl2 : vs.length + us.length ≤ sizeLine := by
        rw [hn, h4.len]
        exact Nat.le_trans hl (by decide)
      exact ⟨p, b, vs, us, rfl, rfl, s2.c p _ hc, s2.i b _ h2, hl2, next (xs ++ a) (vs ++ us) I2 _ _ e2 (s2.set hc) upd_same (fun q h => upd_ne h) (by rw [List.length_append]; exact hl2) ((hr.imp fun _ _ h => R.to e2 h).append (h4.imp fun _ _ h => Im.im h)) po⟩
    · exact po.elim) hX)⟩
/-- xs.pop(): the last item and the rest -/
def popR (xs : List α) : Res (α × List α) := match xs.getLast? with
  | some x => .ok (x, xs.dropLast)
  | none => .bad
theorem e_pop [Im R] {i : Nat} {p : Addr} {xs : List α} {vs : List V} {k : α × List α → Res ω} {Q2 : VK} (hv : σ[i]? = some (some (.ref p))) (hc : C p = some (.lst vs)) (hl : vs.length ≤ sizeLine) (hr : A2 (fun x u => R.r x u I Z) xs vs) (s : St I C H) (hm : Post ((popR xs).bind k) Q X)
    (next : ∀ a v C2 H2, St I C2 H2 → C2 p = some (.lst vs.dropLast) → (∀ q, q ≠ p → C2 q = C q) → vs.dropLast.length ≤ sizeLine → A2 (fun x u => R.r x u I Z) a.2 vs.dropLast → R.r a.1 v I Z → Post (k a) Q X → Q2 v H2) : tBM0 K "list" rPop (tVar i) σ H Q2 := by
  have po := Post.bind hm
  unfold popR at po
  cases hx : xs.getLast? with
  | none =>
    rw [hx] at po
    exact po.elim
  | some x =>
    rw [hx] at po
    have hn := hr.len
    have hx2 : xs[xs.length - 1]? = some x := by
      rw [← List.getLast?_eq_getElem?]
      exact hx
    obtain ⟨v, hv2, r⟩ := hr.get' hx2
    rw [← hn] at hv2
    exact ⟨.ref p, hv, .inl ⟨rfl, vs, .inl (.inl (s.c p _ hc))⟩, p, vs, v, rfl, rfl, s.c p _ hc, hv2, next (x, xs.dropLast) v _ _ (s.set hc) upd_same (fun q h => upd_ne h) (by rw [List.length_dropLast]; omega) hr.dropLast r po⟩
/-! the pool -/
variable {p : Addr} {M : Rt μ} {x : μ} {ws : List V}
theorem qm_asg [It M] [Im R] {i : Nat} {m : μ → Res (α × μ)} {k : α × μ → Res ω} (h : EvM E K p M te σ I (off C p) m R) (s : St I C H) (hc : C p = some (.lst ws)) (hx : M.r x ws I Z) (hm : Post ((m x).bind k) Q XF)
    (next : ∀ b v ws' I2 C2 H2, Ex I I2 → St I2 C2 H2 → C2 p = some (.lst ws') → (∀ q, q ≠ p → C2 q = C q) → M.r b.2 ws' I2 Z → R.r b.1 v I2 Z → Post (k b) Q XF → tz D (σ.set i (some v)) H2) : tSeq (tAsg te (gName i)) tz D σ H :=
  sm_asg h s hc (It.im hx) hm fun b v ws' I2 H2 e2 s2 hx2 rv hm => next b v ws' I2 _ H2 e2 s2 upd_same (fun q h => upd_ne h) (It.im hx2) (Im.im rv) hm
theorem qm_ret [It M] [Im R] {m : μ → Res (α × μ)} {k : α × μ → Res ω} (h : EvM E K p M te σ I (off C p) m R) (s : St I C H) (hc : C p = some (.lst ws)) (hx : M.r x ws I Z) (hm : Post ((m x).bind k) Q XF)
    (next : ∀ b v ws' I2 C2 H2, Ex I I2 → St I2 C2 H2 → C2 p = some (.lst ws') → (∀ q, q ≠ p → C2 q = C q) → M.r b.2 ws' I2 Z → R.r b.1 v I2 Z → Post (k b) Q XF → D.rt v H2) : tSeq (tRet te) tz D σ H :=
  sm_ret h s hc (It.im hx) hm fun b v ws' I2 H2 e2 s2 hx2 rv hm => next b v ws' I2 _ H2 e2 s2 upd_same (fun q h => upd_ne h) (It.im hx2) (Im.im rv) hm
theorem qm_expr [It M] [Im R] {m : μ → Res (α × μ)} {k : α × μ → Res ω} (h : EvM E K p M te σ I (off C p) m R) (s : St I C H) (hc : C p = some (.lst ws)) (hx : M.r x ws I Z) (hm : Post ((m x).bind k) Q XF)
    (next : ∀ b ws' I2 C2 H2, Ex I I2 → St I2 C2 H2 → C2 p = some (.lst ws') → (∀ q, q ≠ p → C2 q = C q) → M.r b.2 ws' I2 Z → Post (k b) Q XF → tz D σ H2) : tSeq (tDrop te) tz D σ H :=
  sm_expr h s hc (It.im hx) hm fun b ws' I2 H2 e2 s2 hx2 hm => next b ws' I2 _ H2 e2 s2 upd_same (fun q h => upd_ne h) (It.im hx2) hm
theorem qm_if [It M] {c : μ → Res (Bool × μ)} {m1 m2 : μ → Res ω} (h : EvTM E K p M tt σ I (off C p) c) (s : St I C H) (hc : C p = some (.lst ws)) (hx : M.r x ws I Z) (hm : Post (ifMR c x m1 m2) Q XF)
    (h1 : ∀ y ws' I2 C2 H2, Ex I I2 → St I2 C2 H2 → C2 p = some (.lst ws') → (∀ q, q ≠ p → C2 q = C q) → M.r y ws' I2 Z → Post (m1 y) Q XF → tu { D with nx := tz D } σ H2)
    (h2 : ∀ y ws' I2 C2 H2, Ex I I2 → St I2 C2 H2 → C2 p = some (.lst ws') → (∀ q, q ≠ p → C2 q = C q) → M.r y ws' I2 Z → Post (m2 y) Q XF → tw { D with nx := tz D } σ H2) : tSeq (tIfS tt tu tw) tz D σ H :=
  sm_if h s hc (It.im hx) hm (fun y ws' I2 H2 e2 s2 hx2 hm => h1 y ws' I2 _ H2 e2 s2 upd_same (fun q h => upd_ne h) (It.im hx2) hm) (fun y ws' I2 H2 e2 s2 hx2 hm => h2 y ws' I2 _ H2 e2 s2 upd_same (fun q h => upd_ne h) (It.im hx2) hm)
theorem qm_ifj [It M] (P : S → L2.St → Hp → Hp → Prop) {c : μ → Res (Bool × μ)} {m1 m2 : μ → Res S} {k : S → Res ω} (h : EvTM E K p M tt σ I (off C p) c) (s : St I C H) (hc : C p = some (.lst ws)) (hx : M.r x ws I Z) (hm : Post ((ifMR c x m1 m2).bind k) Q XF)
    (h1 : ∀ (N : L2.St → Hp → Prop) y ws' I2 C2 H2, Ex I I2 → St I2 C2 H2 → C2 p = some (.lst ws') → (∀ q, q ≠ p → C2 q = C q) → M.r y ws' I2 Z → Post (m1 y) (fun s' => ∀ σ2 I3 C3 H3, Ex I I3 → St I3 C3 H3 → P s' σ2 I3 C3 → N σ2 H3) XF → tu { D with nx := N } σ H2)
    (h2 : ∀ (N : L2.St → Hp → Prop) y ws' I2 C2 H2, Ex I I2 → St I2 C2 H2 → C2 p = some (.lst ws') → (∀ q, q ≠ p → C2 q = C q) → M.r y ws' I2 Z → Post (m2 y) (fun s' => ∀ σ2 I3 C3 H3, Ex I I3 → St I3 C3 H3 → P s' σ2 I3 C3 → N σ2 H3) XF → tw { D with nx := N } σ H2)
    (next : ∀ s' σ2 I3 C3 H3, Ex I I3 → St I3 C3 H3 → P s' σ2 I3 C3 → Post (k s') Q XF → tz D σ2 H3) : Evl.tCut (tIfS tt tu tw) tz D σ H :=
  sm_ifj P h s hc (It.im hx) hm (fun N y ws' I2 H2 e2 s2 hx2 hm => h1 N y ws' I2 _ H2 e2 s2 upd_same (fun q h => upd_ne h) (It.im hx2) hm) (fun N y ws' I2 H2 e2 s2 hx2 hm => h2 N y ws' I2 _ H2 e2 s2 upd_same (fun q h => upd_ne h) (It.im hx2) hm) next
theorem qm_forN [It M] (P : S → L2.St → Hp → Hp → Prop) {wi : TI} {g : TG} {m : μ → Res (List α × μ)} {f : α → S → Res S} {s0 : μ → S} {k : S → Res ω} (hi : EvIM E K p M wi σ I (off C p) m R) (s : St I C H) (hc : C p = some (.lst ws)) (hx : M.r x ws I Z) (hm : Post (((m x).bind fun b => loopN f b.1 (s0 b.2)).bind k) Q XF)
    (h0 : ∀ y ws' I2 C2, Ex I I2 → C2 p = some (.lst ws') → (∀ q, q ≠ p → C2 q = C q) → M.r y ws' I2 Z → P (s0 y) σ I2 C2) (hP : ∀ s' σ' I' I2 C', Ex I' I2 → P s' σ' I' C' → P s' σ' I2 C')
    (body : ∀ (N : L2.St → Hp → Prop) x v s' σ' I' C' H', Ex I I' → St I' C' H' → P s' σ' I' C' → R.r x v I' C' → Post (f x s') (fun s2 => ∀ σ2 I3 C3 H3, Ex I' I3 → St I3 C3 H3 → P s2 σ2 I3 C3 → N σ2 H3) XF →
      g v σ' H' fun σ2 H2 => tu { D with nx := N, ct := N, bk := tz D } σ2 H2)
    (next : ∀ s' σ' I' C' H', Ex I I' → St I' C' H' → P s' σ' I' C' → Post (k s') Q XF → tz D σ' H') : tSeq (tFor wi g tu) tz D σ H :=
  sm_forN P hi s hc (It.im hx) hm (fun y ws' I2 e2 hx2 => h0 y ws' I2 _ e2 upd_same (fun q h => upd_ne h) (It.im hx2)) hP body next
theorem q_set [It M] [Im S1] {i k : Nat} {g : μ → β → μ} {kk : μ → Res ω} {m : Res β} (hv : σ[i]? = some (some (.ref p))) (h : EvX E K te σ I C m S1) (j : Pk M k g S1) (s : St I C H) (hc : C p = some (.lst ws)) (hx : M.r x ws I Z) (hm : Post (m.bind fun a => kk (g x a)) Q XF)
    (next : ∀ y ws' I2 C2 H2, Ex I I2 → St I2 C2 H2 → C2 p = some (.lst ws') → (∀ q, q ≠ p → C2 q = C q) → M.r y ws' I2 Z → Post (kk y) Q XF → tz D σ H2) : tSeq (tAsg te (gSub (tVar i) (tC (.int (k : Int))) rSetL)) tz D σ H :=
  sm_set hv h j s hc (It.im hx) hm fun y ws' I2 H2 e2 s2 hx2 hm => next y ws' I2 _ H2 e2 s2 upd_same (fun q h => upd_ne h) (It.im hx2) hm
theorem q_pool {i k : Nat} {f : μ → β} [It M] (hv : σ[i]? = some (some (.ref p))) (hc : C p = some (.lst ws)) (hx : M.r x ws I Z) (j : Pj M k f S1) : EvX E K (tOp (rIxL K) (tVar i) (tC (.int (k : Int)))) σ I C (.ok (f x)) S1 := x_pool hv hc (It.im hx) j
/-! targets -/
theorem g1 [Im R] {i : Nat} : Tg K (gName i) R σ (fun x σ2 I _ => ∃ v, σ2 = σ.set i (some v) ∧ R.r x v I Z) := fun x v I C H Q s r k => k _ ⟨v, rfl, Im.im r⟩
theorem g2 [Im R] [Im S1] {i j : Nat} : Tg K (gTup K 2 (gCons (gName i) (gCons (gName j) gNil))) (pT (tc R (t1 S1))) σ (fun x σ2 I _ => ∃ u w, σ2 = (σ.set i (some u)).set j (some w) ∧ R.r x.1 u I Z ∧ S1.r x.2 w I Z) := fun x v I C H Q s r k =>
  g_two x v I C H Q s r fun σ2 ⟨u, w, e, h1, h2⟩ => k σ2 ⟨u, w, e, Im.im h1, Im.im h2⟩
theorem g3 {T : Rp γ} [Im R] [Im S1] [Im T] {i j l : Nat} : Tg K (gTup K 3 (gCons (gName i) (gCons (gName j) (gCons (gName l) gNil)))) (pT (tc R (tc S1 (t1 T)))) σ
    (fun x σ2 I _ => ∃ u w z, σ2 = ((σ.set i (some u)).set j (some w)).set l (some z) ∧ R.r x.1 u I Z ∧ S1.r x.2.1 w I Z ∧ T.r x.2.2 z I Z) := fun x v I C H Q s r k =>
  g_three x v I C H Q s r fun σ2 ⟨u, w, z, e, h1, h2, h3⟩ => k σ2 ⟨u, w, z, e, Im.im h1, Im.im h2, Im.im h3⟩
end
end Sd

namespace Sd
open PySem L2
/-- no places -/
def t0 : Rt Unit := ⟨fun _ vs _ _ => vs = [], fun _ _ h => h, 0, fun h => by rw [h]; rfl⟩
instance : It t0 := ⟨fun h => h⟩
abbrev Pl := Int × Int × Int × List Int
/-- the pool's places -/
abbrev pM : Rt Pl := tc pI (tc pI (tc pI (t1 (pL pI))))
theorem a2up {α : Type} {R : Rp α} {I I' : Hp} {xs : List α} {vs : List V} (e : Ex I I') (h : A2 (fun x u => R.r x u I Z) xs vs) : A2 (fun x u => R.r x u I' Z) xs vs := h.imp fun _ _ => R.mono e (Ex.refl _)
section
variable {E : XK} {K : PySem.W.Frag} {σ : L2.St} {I I' C C' H B : Hp} {α β γ μ ω S ρ : Type} {R : Rp α} {S1 : Rp β} {te ta tb : TE} {tt : TT} {tz tu tw : TS} {D : Ends} {Q : ω → Prop} {X : Ec → Int → Prop}
/-- a cell that is returned, known for good from then on -/
theorem q_retC [Im R] {i : Nat} {p : Addr} {xs : List α} {vs : List V} (hv : σ[i]? = some (some (.ref p))) (s : St I C H) (fr : Ex B C) (hB : B p = none) (hc : C p = some (.lst vs)) (hl : vs.length ≤ sizeLine) (hr : A2 (fun x u => R.r x u I Z) xs vs)
    (next : ∀ I2, Ex I I2 → St I2 B H → (pL R).r xs (.ref p) I2 Z → D.rt (.ref p) H) : tSeq (tRet (tVar i)) tz D σ H := by
  obtain ⟨I2, C2, e, s2, h, k⟩ := freeze s hc
  exact ⟨.ref p, hv, next I2 e (s2.less (fr_keep fr hB k)) (frz_list e h hl hr)⟩
/-- a cell that is returned as a new list of one's own -/
theorem q_retO [Im R] {i : Nat} {p : Addr} {xs : List α} {vs : List V} (hv : σ[i]? = some (some (.ref p))) (s : St I C H) (fr : Ex B C) (hB : B p = none) (hc : C p = some (.lst vs)) (hl : vs.length ≤ sizeLine) (hr : A2 (fun x u => R.r x u I Z) xs vs)
    (next : St I (upd B p (.lst vs)) H → A2 (fun x u => R.r x u I B) xs vs → D.rt (.ref p) H) : tSeq (tRet (tVar i)) tz D σ H :=
  ⟨.ref p, hv, next (s.less fun a u e => by
    by_cases q : a = p
    · rw [q, upd_same] at e
      rw [q, hc]
      exact e
    · rw [upd_ne q] at e
      exact fr a u e) (hr.imp fun _ _ h => Im.im h)⟩
/-- x += e, x -= e -/
theorem q_aug {i : Nat} {f : Int → Int → Int} {v : V} {a : Int} {m : Res Int} {k : Int → Res ω} (hv : σ[i]? = some (some v)) (r : pI.r a v I Z) (h : EvX E K te σ I C m pI) (s : St I C H) (hX : XH X E K I C) (hm : Post ((m.bind fun b => .ok (f a b)).bind k) Q X)
    (next : ∀ a v I2 H2, Ex I I2 → St I2 C H2 → pI.r a v I2 Z → Post (k a) Q X → tz D (σ.set i (some v)) H2) : tSeq (tAug i te (ipI f)) tz D σ H :=
  ⟨v, hv, h I C H (Ex.refl _) (Ex.refl _) s _ ((Post.bind (Post.bind hm)).mono (fun b p w I2 H2 e2 s2 rv => ⟨a, b, r, rv, next _ _ I2 H2 e2 s2 rfl p⟩) hX)⟩
/-- xs.append(e), e draws -/
theorem qm_app {M : Rt μ} [It M] [Im R] {i : Nat} {p q : Addr} {x : μ} {ws vs : List V} {xs : List α} {k : List α × μ → Res ω} {m : μ → Res (α × μ)} (hv : σ[i]? = some (some (.ref q))) (hq : C q = some (.lst vs)) (hqp : q ≠ p) (hr : A2 (fun x u => R.r x u I Z) xs vs) (h : EvM E K p M te σ I (off C p) m R)
    (s : St I C H) (hc : C p = some (.lst ws)) (hx : M.r x ws I Z) (hm : Post (((m x).bind fun b => (push xs b.1).bind fun ys => .ok (ys, b.2)).bind k) Q XF)
    (next : ∀ (b : List α × μ) vs' ws' I2 C2 H2, Ex I I2 → St I2 C2 H2 → C2 q = some (.lst vs') → C2 p = some (.lst ws') → (∀ r, r ≠ p → r ≠ q → C2 r = C r) → vs'.length ≤ sizeLine → A2 (fun x u => R.r x u I2 Z) b.1 vs' → M.r b.2 ws' I2 Z → Post (k b) Q XF → tz D σ H2) :
    tSeq (tDrop (tBM K "list" rAppend (tVar i) (tCons te tNil))) tz D σ H := by
  refine ⟨.ref q, hv, .inl ⟨rfl, vs, .inl (.inl (s.c q _ hq))⟩, ?_⟩
  refine h x ws I C H (Ex.refl _) off_ex s hc (It.im hx) _ ((Post.bind (Post.bind hm)).mono (fun b po v ws' I2 H2 e2 s2 hx2 rv => ?_) fun _ _ z => z)
  unfold push at po
  split at po
  · rename_i hl
    have hn := hr.len
    have hl2 : vs.length < sizeLine := by
      rw [hn]
      exact Nat.lt_of_lt_of_le hl (by decide)
    have hq2 : upd C p (.lst ws') q = some (.lst vs) := by
      rw [upd_ne hqp]
      exact hq
    refine ⟨q, vs, v, rfl, rfl, s2.c q _ hq2, hl2, next (xs ++ [b.1], b.2) (vs ++ [v]) ws' I2 _ _ e2 (s2.set hq2) upd_same ?_ (fun r h1 h2 => ?_) (by rw [List.length_append]; exact hl2) ?_ (It.im hx2) po⟩
    · rw [upd_ne (Ne.symm hqp), upd_same]
    · rw [upd_ne h2, upd_ne h1]
    · exact (hr.imp fun _ _ h => R.mono e2 (Ex.refl _) h).append (.one (Im.im rv))
  · exact po.elim
/-- pool[k] = e -/
def thenR (m : Res α) (g : α → β) (k : β → Res γ) : Res γ := m.bind fun a => k (g a)
@[simp] theorem thenR_eq (m : Res α) (g : α → β) (k : β → Res γ) : thenR m g k = m.bind fun a => k (g a) := rfl
theorem q_setT {p : Addr} {M : Rt μ} {x : μ} {ws : List V} [It M] [Im S1] {i k : Nat} {g : μ → β → μ} {kk : μ → Res ω} {m : Res β} (hv : σ[i]? = some (some (.ref p))) (h : EvX E K te σ I C m S1) (j : Pk M k g S1) (s : St I C H) (hc : C p = some (.lst ws)) (hx : M.r x ws I Z) (hm : Post (thenR m (fun a => g x a) kk) Q XF)
    (next : ∀ y ws' I2 C2 H2, Ex I I2 → St I2 C2 H2 → C2 p = some (.lst ws') → (∀ q, q ≠ p → C2 q = C q) → M.r y ws' I2 Z → Post (kk y) Q XF → tz D σ H2) : tSeq (tAsg te (gSub (tVar i) (tC (.int (k : Int))) rSetL)) tz D σ H := q_set hv h j s hc hx hm next
/-! None, or a thing -/
class NN {α : Type} (R : Rp α) : Prop where
  nn : ∀ {a : α} {v : V} {I C : Hp}, R.r a v I C → v ≠ .non
instance : NN pI := ⟨fun h z => by rw [show _ = V.int _ from h] at z; cases z⟩
instance : NN pB := ⟨fun h z => by rw [show _ = V.bl _ from h] at z; cases z⟩
instance : NN pS := ⟨fun h z => by rw [show _ = V.str _ from h.1] at z; cases z⟩
instance {T : Rt α} : NN (pT T) := ⟨fun ⟨a, vs, h, _⟩ z => by rw [h] at z; cases z⟩
instance {T : Rt α} : NN (pD T) := ⟨fun ⟨a, vs, h, _⟩ z => by rw [h] at z; cases z⟩
instance {T : Rt α} : NN (pU K T) := ⟨fun ⟨a, vs, h, _⟩ z => by rw [h] at z; cases z⟩
instance : NN (pL R) := ⟨fun ⟨a, vs, h, _⟩ z => by rw [h] at z; cases z⟩
instance : NN (pQ K R) := ⟨fun ⟨a, vs, h, _⟩ z => by rw [h] at z; cases z⟩
def someR' (a : α) : Res (Option α) := .ok (some a)
@[simp] theorem someR'_eq (a : α) : someR' a = .ok (some a) := rfl
theorem x_some [NN R] {m : Res α} (h : EvX E K te σ I C m R) : EvX E K te σ I C (un someR' m) (pO R) := fun I1 C1 H1 e e' s Q q =>
  h I1 C1 H1 e e' s Q ((Post.bind q).mono (fun a p v I2 H2 e2 s2 rv => p v I2 H2 e2 s2 ⟨rv, NN.nn rv⟩) fun _ _ z => z)
theorem x_none : EvX E K (tC .non) σ I C (.ok none) (pO R) := x_c fun _ _ => rfl
/-- it is there -/
def getO : Option α → Res α
  | some a => .ok a
  | none => .bad
@[simp] theorem getO_some (a : α) : getO (some a) = .ok a := rfl
theorem x_get {m : Res (Option α)} (h : EvX E K te σ I C m (pO R)) : EvX E K te σ I C (un getO m) R := fun I1 C1 H1 e e' s Q q =>
  h I1 C1 H1 e e' s Q ((Post.bind q).mono (fun a p v I2 H2 e2 s2 rv => by
    cases a with
    | none => exact p.elim
    | some a => exact p v I2 H2 e2 s2 rv.1) fun _ _ z => z)
/-! one of two -/
def pX (R : Rp α) (S : Rp β) : Rp (α ⊕ β) := ⟨fun x v I C => match x with
  | .inl a => R.r a v I C
  | .inr b => S.r b v I C, fun {a v I I' C C'} e e' h => by
  cases a with
  | inl a => exact R.mono e e' h
  | inr a => exact S.mono e e' h⟩
instance [Im R] [Im S1] : Im (pX R S1) := ⟨fun {a v I C C'} h => by
  cases a with
  | inl a => exact Im.im (R := R) h
  | inr a => exact Im.im (R := S1) h⟩
def getL : α ⊕ β → Res α
  | .inl a => .ok a
  | .inr _ => .bad
def getR : α ⊕ β → Res β
  | .inl _ => .bad
  | .inr a => .ok a
def inlR (a : α) : Res (α ⊕ β) := .ok (.inl a)
def inrR (a : β) : Res (α ⊕ β) := .ok (.inr a)
@[simp] theorem getL_eq (a : α) : getL (.inl a : α ⊕ β) = .ok a := rfl
@[simp] theorem getR_eq (a : β) : getR (.inr a : α ⊕ β) = .ok a := rfl
@[simp] theorem inlR_eq (a : α) : (inlR a : Res (α ⊕ β)) = .ok (.inl a) := rfl
@[simp] theorem inrR_eq (a : β) : (inrR a : Res (α ⊕ β)) = .ok (.inr a) := rfl
theorem x_getL {m : Res (α ⊕ β)} (h : EvX E K te σ I C m (pX R S1)) : EvX E K te σ I C (un getL m) R := fun I1 C1 H1 e e' s Q q =>
  h I1 C1 H1 e e' s Q ((Post.bind q).mono (fun a p v I2 H2 e2 s2 rv => by
    cases a with
    | inl a => exact p v I2 H2 e2 s2 rv
    | inr a => exact p.elim) fun _ _ z => z)
theorem x_getR {m : Res (α ⊕ β)} (h : EvX E K te σ I C m (pX R S1)) : EvX E K te σ I C (un getR m) S1 := fun I1 C1 H1 e e' s Q q =>
  h I1 C1 H1 e e' s Q ((Post.bind q).mono (fun a p v I2 H2 e2 s2 rv => by
    cases a with
    | inl a => exact p.elim
    | inr a => exact p v I2 H2 e2 s2 rv) fun _ _ z => z)
theorem x_inl {m : Res α} (h : EvX E K te σ I C m R) : EvX E K te σ I C (un inlR m) (pX R S1) := fun I1 C1 H1 e e' s Q q =>
  h I1 C1 H1 e e' s Q ((Post.bind q).mono (fun a p v I2 H2 e2 s2 rv => p v I2 H2 e2 s2 rv) fun _ _ z => z)
theorem x_inr {m : Res β} (h : EvX E K te σ I C m S1) : EvX E K te σ I C (un inrR m) (pX R S1) := fun I1 C1 H1 e e' s Q q =>
  h I1 C1 H1 e e' s Q ((Post.bind q).mono (fun a p v I2 H2 e2 s2 rv => p v I2 H2 e2 s2 rv) fun _ _ z => z)
/-! the kinds, for isinstance -/
class TyR (K : PySem.W.Frag) {α : Type} (R : Rp α) (n : String) : Prop where
  ty : ∀ {a : α} {v : V} {I C H : Hp}, St I C H → R.r a v I C → TyX K H v (.type n)
instance : TyR K pI "int" := ⟨fun s h => by rw [show _ = V.int _ from h]; exact .base (.int _)⟩
instance : TyR K pB "bool" := ⟨fun s h => by rw [show _ = V.bl _ from h]; exact .base (.bl _)⟩
instance : TyR K pS "str" := ⟨fun s h => by rw [show _ = V.str _ from h.1]; exact .base (.str _)⟩
instance {T : Rt α} : TyR K (pT T) "tuple" := ⟨fun s ⟨a, vs, e, h, _⟩ => by rw [e]; exact .base (.tup (s.i _ _ h))⟩
instance {T : Rt α} : TyR K (pD T) "list" := ⟨fun s ⟨a, vs, e, h, _⟩ => by rw [e]; exact .base (.lst (s.i _ _ h))⟩
instance : TyR K (pL R) "list" := ⟨fun s ⟨a, vs, e, h, _⟩ => by rw [e]; exact .base (.lst (s.i _ _ h))⟩
instance : TyR K (pV R) "list" := ⟨fun s h => by
  obtain ⟨a, vs, rfl, h, _⟩ := pV.at s h
  exact .base (.lst h)⟩
theorem o_isi {n c : String} {b : Bool} [TyR K R n] (hk : kitB n c = some b) : OpL E K (rIsi K) (fun _ => .ok b) (tc R (t1 (pY c))) pB := fun I C H a vs s hv Q q => by
  obtain ⟨v, us, rfl, r, w, rfl, rw⟩ := hv
  have hw : w = .ty c := rw
  subst hw
  exact ⟨v, .ty c, _, _, b, rfl, .ty c, TyR.ty s r, kit_ty hk, PQ.now q s rfl⟩
theorem o_lenT {T : Rt α} : OpL E K (fun xs H Q => ∃ p ys, xs = [.ref p] ∧ (SqL K H p ys ∨ SqT K H p ys) ∧ Q (.int ys.length) H) (fun _ => .ok (T.n : Int)) (t1 (pT T)) pI := fun I C H a vs s hv Q q => by
  obtain ⟨v, rfl, p, us, rfl, h, r⟩ := hv
  exact ⟨p, us, rfl, .inr (.inl (.inl (s.i _ _ h))), by rw [T.len r]; exact PQ.now q s rfl⟩
end
end Sd

namespace Sd
open PySem L2
theorem passE {P : Program} {w : World} {K : PySem.W.Frag} {mg : Str → Option Value} {base : Heap} {N : List Str} {qual : Str} {scope : Scope} {f : Addr} {cdv : Value} {A : Around} {outer : List Env} {s : Shared} {H : Hp} {E : XK} :
    Passes (L2.CX P w) (cxOf (L2.CX P w) P w K mg base N qual scope f cdv A outer s H E) E := passes_call (takes_of rfl rfl rfl rfl) fun _ _ _ _ h => h
/-! the built-ins -/
theorem bt_len : bootBuiltins "len" = some (.builtin "len") := by decide +kernel
theorem bt_max : bootBuiltins "max" = some (.builtin "max") := by decide +kernel
theorem bt_min : bootBuiltins "min" = some (.builtin "min") := by decide +kernel
theorem bt_sum : bootBuiltins "sum" = some (.builtin "sum") := by decide +kernel
theorem bt_sorted : bootBuiltins "sorted" = some (.builtin "sorted") := by decide +kernel
theorem bt_isinstance : bootBuiltins "isinstance" = some (.builtin "isinstance") := by decide +kernel
theorem bt_int : bootBuiltins "int" = some (.type "int") := by decide +kernel
theorem bt_str : bootBuiltins "str" = some (.type "str") := by decide +kernel
theorem bt_bool : bootBuiltins "bool" = some (.type "bool") := by decide +kernel
theorem bt_list : bootBuiltins "list" = some (.type "list") := by decide +kernel
theorem bt_tuple : bootBuiltins "tuple" = some (.type "tuple") := by decide +kernel
theorem bt_ValueError : bootBuiltins "ValueError" = some (.type "ValueError") := by decide +kernel
theorem bt_range : bootBuiltins "range" = some (.type "range") := by decide +kernel
section
variable {E : XK} {K : PySem.W.Frag} {σ : L2.St} {I I' C C' H B C0 : Hp} {α β γ μ ω S ρ : Type} {R : Rp α} {S1 : Rp β} {te ta tb : TE} {tt : TT} {tz tu tw : TS} {D : Ends} {Q : ω → Prop} {X : Ec → Int → Prop} {p q : Addr}
abbrev rLen1 (K : PySem.W.Frag) : List V → Hp → VK → Prop := fun xs H Q => ∃ p ys, xs = [.ref p] ∧ (SqL K H p ys ∨ SqT K H p ys) ∧ Q (.int ys.length) H
abbrev rList1 (K : PySem.W.Frag) : List V → Hp → VK → Prop := fun xs H Q => ∃ p ys, xs = [.ref p] ∧ (SqL K H p ys ∨ SqT K H p ys) ∧ ∀ l, H l = none → Q (.ref l) (upd H l (.lst ys))
abbrev rTuple1 (K : PySem.W.Frag) : List V → Hp → VK → Prop := fun xs H Q => ∃ p ys, xs = [.ref p] ∧ ((SqL K H p ys ∧ ∀ l, H l = none → Q (.ref l) (upd H l (.tup ys))) ∨ (SqT K H p ys ∧ Q (.ref p) H))
theorem Op2.ofL {r : R2} {f : List α → β → Res γ} {T : Rp γ} (h : Op2 E K r f (pV R) S1 T) : Op2 E K r f (pL R) S1 T := fun I C H a b x y s ⟨p, vs, h1, h2, h3, h4⟩ hy Q q => h I C H a b x y s ⟨p, vs, h1, .inl h2, h3, h4⟩ hy Q q
def b2iR (b : Bool) : Res Int := .ok (if b = true then 1 else 0)
@[simp] theorem b2iR_eq (b : Bool) : b2iR b = .ok (if b = true then 1 else 0) := rfl
theorem o_intB : OpL E K (fun xs H Q => (∃ i, xs = [.int i] ∧ Q (.int i) H) ∨ ∃ k, xs = [.bl k] ∧ Q (.int (if k then 1 else 0)) H) b2iR (t1 pB) pI := fun I C H a vs s hv Q q => by
  obtain ⟨v, rfl, h⟩ := hv
  have hv : v = .bl a := h
  subst hv
  exact .inr ⟨a, rfl, PQ.now q s rfl⟩
/-! the end of a def -/
abbrev PM {α μ : Type} (p : Addr) (M : Rt μ) (R : Rp α) (I C : Hp) (Q : VK) (b : α × μ) : Prop := ∀ v ws' I2 H2, Ex I I2 → St I2 (upd C p (.lst ws')) H2 → M.r b.2 ws' I2 (upd C p (.lst ws')) → R.r b.1 v I2 (upd C p (.lst ws')) → Q v H2
theorem ret_pool [Im R] {M : Rt μ} [It M] {I0 : Hp} {Q : VK} {b : α × μ} {ws : List V} {v : V} (hm : PM p M R I0 C0 Q b) (e : Ex I0 I) (fr : Ex (off C0 p) C) (s : St I C H) (hc : C p = some (.lst ws)) (hx : M.r b.2 ws I Z) (r : R.r b.1 v I Z) : Q v H :=
  hm v ws I H e (s.less (ex_pool fr hc)) (It.im hx) (Im.im r)
theorem ret_poolN {M : Rt μ} [It M] {I0 : Hp} {Q : VK} {b : Unit × μ} {ws : List V} (hm : PM p M pN I0 C0 Q b) (e : Ex I0 I) (fr : Ex (off C0 p) C) (s : St I C H) (hc : C p = some (.lst ws)) (hx : M.r b.2 ws I Z) : Q .non H :=
  hm .non ws I H e (s.less (ex_pool fr hc)) (It.im hx) rfl
theorem ret_own [Im R] {I0 : Hp} {Q : VK} {xs : List α} {vs : List V} (hm : PN R I0 C0 Q xs) (e : Ex I0 I) (fr : Ex C0 C) (hp : C p = none) (s : St I (upd C p (.lst vs)) H) (hl : vs.length ≤ sizeLine) (hr : A2 (fun x u => R.r x u I C) xs vs) : Q (.ref p) H :=
  hm p vs I H e (Ex.free fr hp) (s.less fun a u h => by
    by_cases z : a = p
    · rw [z, upd_same] at h
      rw [z, upd_same]
      exact h
    · rw [upd_ne z] at h ⊢
      exact fr a u h) hl (hr.imp fun _ _ h => Im.im h)
theorem fr_pool2 {C2 : Hp} (h : Ex (off C0 p) C) (hq : off C0 p q = none) (k : ∀ r, r ≠ p → r ≠ q → C2 r = C r) : Ex (off C0 p) C2 := fun a o e => by
  have h1 : a ≠ p := fun z => by rw [z, off_same] at e; cases e
  rw [k a h1 (ne_of_none e hq)]
  exact h a o e
theorem i_cellZ [Im R] {i : Nat} {a : Addr} {vs : List V} {xs : List α} (h : σ[i]? = some (some (.ref a))) (hc : C a = some (.lst vs)) (hl : vs.length ≤ sizeLine) (hr : A2 (fun x u => R.r x u I Z) xs vs) :
    EvI E K (iList K (tVar i)) σ I C (fun C3 => C3 a = some (.lst vs)) (.ok xs) R := i_cell h hc hl (hr.imp fun _ _ h => Im.im h)
theorem im_rng2 {M : Rt μ} [It M] {Cp : Hp} {tr : TA} {m : μ → Res ((Int × Int) × μ)} (h : EvAM E K p M tr σ I Cp m (tc pI (t1 pI))) : EvIM E K p M (iRng2 tr) σ I Cp (unM rng2 m) pI := fun x ws I1 C1 H1 e e' s hc hx Kt q =>
  h x ws I1 C1 H1 e e' s hc hx _ ((Post.bind q).mono (fun b z vs ws' I2 H2 e2 s2 hx2 ⟨v, us, hv, rv, w, hw, rw⟩ => by
    have z := Post.bind z
    unfold rng2 at z
    split at z
    · rename_i hn
      have hv1 : v = .int b.1.1 := rv
      have hw1 : w = .int b.1.2 := rw
      subst hv hw hv1 hw1
      refine ⟨b.1.1, b.1.2, rfl, by omega, z ws' (Itr b.1.1 (b.1.2 - b.1.1).toNat) (fun _ => True) (YFn fun i => .int (b.1.1 + i)) I2 H2 e2 s2 hx2 (by rw [rangeL_length]; exact Nat.le_trans (show (b.1.2 - b.1.1).toNat ≤ 2000000 by omega) (by decide)) (by rw [rangeL_length]; exact walk_range) (fun _ _ _ _ _ => trivial) (fun i x v' I3 C3 H3 H4 hx e3 s3 y => ?_)⟩
      obtain ⟨rfl, rfl⟩ := y
      rw [rangeL_get hx]
      exact ⟨I3, Ex.refl _, s3, rfl⟩
    · exact z.elim) fun _ _ z => z)
theorem im_list {M : Rt μ} [It M] [Im R] {Cp : Hp} {m : μ → Res (List α × μ)} (h : EvM E K p M te σ I Cp m (pL R)) : EvIM E K p M (iList K te) σ I Cp m R := fun x ws I1 C1 H1 e e' s hc hx Kt q =>
  h x ws I1 C1 H1 e e' s hc hx _ (q.mono (fun b z v ws' I2 H2 e2 s2 hx2 ⟨a, us, h1, h2, h3, h4⟩ => ⟨a, h1, ⟨us, .inl (.inl (s2.i a _ h2))⟩, by
    have hn := h4.len
    refine z ws' (Itl K a) (fun H => SqL K H a us) (YAt us) I2 H2 e2 s2 hx2 (by omega) (by rw [← hn]; exact walk_list) (fun I3 C3 H3 e3 s3 => .inl (.inl (s3.i a _ (e3 a _ h2)))) (fun i x v' I3 C3 H3 H4 hx e3 s3 y => ?_)
    obtain ⟨rfl, y⟩ := y
    obtain ⟨w, hw, r⟩ := h4.get' hx
    rw [hw] at y
    cases y
    exact ⟨I3, Ex.refl _, s3, R.to e3 r⟩⟩) fun _ _ z => z)
theorem m_v {M : Rt μ} {Cp : Hp} {m : μ → Res (List α × μ)} (h : EvM E K p M te σ I Cp m (pL R)) : EvM E K p M te σ I Cp m (pV R) := fun x ws I1 C1 H1 e e' s hc hx Q q =>
  h x ws I1 C1 H1 e e' s hc hx Q (q.mono (fun b z v ws' I2 H2 e2 s2 hx2 ⟨a, vs, h1, h2, h3, h4⟩ => z v ws' I2 H2 e2 s2 hx2 ⟨a, vs, h1, .inl h2, h3, h4⟩) fun _ _ z => z)
/-! slices whose ends draw -/
def EvOM (E : XK) (K : PySem.W.Frag) (p : Addr) {μ : Type} (M : Rt μ) (to : TO) (σ : L2.St) (I Cp : Hp) (m : μ → Res (Option Int × μ)) : Prop :=
  ∀ x ws I1 C1 H1, Ex I I1 → Ex Cp C1 → St I1 C1 H1 → C1 p = some (.lst ws) → M.r x ws I1 C1 → ∀ Q : Option Int → Hp → Prop, Post (m x) (fun b => ∀ ws' I2 H2, Ex I1 I2 → St I2 (upd C1 p (.lst ws')) H2 → M.r b.2 ws' I2 (upd C1 p (.lst ws')) → Q b.1 H2) (fun _ _ => False) → to σ H1 Q
theorem pm_pure {M : Rt μ} {Cp : Hp} {to : TO} {m : Res (Option Int)} (h : EvO E K to σ I Cp m) : EvOM E K p M to σ I Cp (liftM m) := fun x ws I1 C1 H1 e e' s hc hx Q q =>
  h I1 C1 H1 e e' s Q ((Post.bind q).mono (fun a z I2 H2 e2 s2 => by
    have e3 : upd C1 p (.lst ws) = C1 := upd_id hc
    exact z ws I2 H2 e2 (by rw [e3]; exact s2) (by rw [e3]; exact M.mono e2 (Ex.refl _) hx)) fun _ _ z => z.elim)
theorem pm_some {M : Rt μ} {Cp : Hp} {m : μ → Res (Int × μ)} (h : EvM E K p M te σ I Cp m pI) : EvOM E K p M (tPart te) σ I Cp (unM (fun i => .ok (some i)) m) := fun x ws I1 C1 H1 e e' s hc hx Q q =>
  h x ws I1 C1 H1 e e' s hc hx _ ((Post.bind q).mono (fun b z v ws' I2 H2 e2 s2 hx2 rv => ⟨b.1, rv, z ws' I2 H2 e2 s2 hx2⟩) fun _ _ z => z)
def slM (m : Res (List α)) (lo hi : μ → Res (Option Int × μ)) : μ → Res (List α × μ) := fun x => m.bind fun xs => (lo x).bind fun a => (hi a.2).bind fun b => .ok (cut xs a.1 b.1, b.2)
theorem m_sl {M : Rt μ} [It M] [Im R] {Cp : Hp} {tl th : TO} {m : Res (List α)} {lo hi : μ → Res (Option Int × μ)} (hp : Cp p = none) (h : EvX E K te σ I Cp m (pL R)) (hl : EvOM E K p M tl σ I Cp lo) (hh : EvOM E K p M th σ I Cp hi) :
    EvM E K p M (tSl (rSlL K) te tl th) σ I Cp (slM m lo hi) (pL R) := fun x ws I1 C1 H1 e e' s hc hx Q q =>
  h I1 C1 H1 e e' s _ ((Post.bind q).mono (fun xs z v I2 H2 e2 s2 ⟨a, vs, h1, h2, h3, h4⟩ =>
    hl x ws I2 C1 H2 (e.trans e2) e' s2 hc (M.mono e2 (Ex.refl _) hx) _ ((Post.bind z).mono (fun b z2 ws' I3 H3 e3 s3 hx3 =>
      hh b.2 ws' I3 _ H3 (e.trans (e2.trans e3)) (e'.over hp) s3 upd_same hx3 _ ((Post.bind z2).mono (fun c z3 ws2 I4 H4 e4 s4 hx4 => by
        refine ⟨a, vs, h1, .inl (.inl (s4.i a _ (e4 a _ (e3 a _ h2)))), fun t ht => ?_⟩
        have eu : upd (upd C1 p (.lst ws')) p (.lst ws2) = upd C1 p (.lst ws2) := by
          funext r
          by_cases hr : r = p
          · rw [hr, upd_same, upd_same]
          · rw [upd_ne hr, upd_ne hr, upd_ne hr]
        rw [eu] at s4 hx4
        have ex := Ex.new (o := HO.lst (cutV vs b.1 c.1)) (s4.i.free ht)
        refine z3 (.ref t) ws2 (upd I4 t (.lst (cutV vs b.1 c.1))) _ (e2.trans (e3.trans (e4.trans ex))) (s4.newI ht) (M.mono ex (Ex.refl _) hx4) ⟨t, _, rfl, upd_same, ?_, ?_⟩
        · unfold cutV
          rw [List.length_take, List.length_drop]
          omega
        · exact (A2.cut (h4.imp fun _ _ r => R.to (e3.trans (e4.trans ex)) r) b.1 c.1)) fun _ _ z => z)) fun _ _ z => z)) fun _ _ z => z.elim)
theorem m_notV {M : Rt μ} {Cp : Hp} {m : μ → Res (Bool × μ)} (h : EvM E K p M te σ I Cp m pB) : EvM E K p M (tNotV te) σ I Cp (unM notR m) pB := fun x ws I1 C1 H1 e e' s hc hx Q q =>
  h x ws I1 C1 H1 e e' s hc hx _ ((Post.bind q).mono (fun b z v ws' I2 H2 e2 s2 hx2 rv => ⟨b.1, rv, z _ ws' I2 H2 e2 s2 hx2 rfl⟩) fun _ _ z => z)
theorem m_andV {M : Rt μ} {Cp : Hp} {m n : μ → Res (Bool × μ)} (hp : Cp p = none) (h1 : EvM E K p M ta σ I Cp m pB) (h2 : EvM E K p M tb σ I Cp n pB) : EvM E K p M (tAndV ta tb) σ I Cp (andM m n) pB := fun x ws I1 C1 H1 e e' s hc hx Q q =>
  h1 x ws I1 C1 H1 e e' s hc hx _ ((Post.bind q).mono (fun b z v ws' I2 H2 e2 s2 hx2 rv => by
    obtain ⟨c, y⟩ := b
    refine ⟨c, rv, ?_⟩
    cases c with
    | true =>
      rw [if_pos rfl]
      refine h2 y ws' I2 _ H2 (e.trans e2) (e'.over hp) s2 upd_same hx2 Q (Post.mono (m := n y) z (fun d z2 v ws2 I3 H3 e3 s3 hx3 rw => ?_) fun _ _ z => z)
      have eu : upd (upd C1 p (.lst ws')) p (.lst ws2) = upd C1 p (.lst ws2) := by
        funext r
        by_cases hr : r = p
        · rw [hr, upd_same, upd_same]
        · rw [upd_ne hr, upd_ne hr, upd_ne hr]
      rw [eu] at s3 hx3
      exact z2 v ws2 I3 H3 (e2.trans e3) s3 hx3 rw
    | false => exact z (.bl false) ws' I2 H2 e2 s2 hx2 rfl) fun _ _ z => z)
theorem m_orV {M : Rt μ} {Cp : Hp} {m n : μ → Res (Bool × μ)} (hp : Cp p = none) (h1 : EvM E K p M ta σ I Cp m pB) (h2 : EvM E K p M tb σ I Cp n pB) : EvM E K p M (tOrV ta tb) σ I Cp (orM m n) pB := fun x ws I1 C1 H1 e e' s hc hx Q q =>
  h1 x ws I1 C1 H1 e e' s hc hx _ ((Post.bind q).mono (fun b z v ws' I2 H2 e2 s2 hx2 rv => by
    obtain ⟨c, y⟩ := b
    refine ⟨c, rv, ?_⟩
    cases c with
    | false =>
      rw [if_neg (by decide)]
      refine h2 y ws' I2 _ H2 (e.trans e2) (e'.over hp) s2 upd_same hx2 Q (Post.mono (m := n y) z (fun d z2 v ws2 I3 H3 e3 s3 hx3 rw => ?_) fun _ _ z => z)
      have eu : upd (upd C1 p (.lst ws')) p (.lst ws2) = upd C1 p (.lst ws2) := by
        funext r
        by_cases hr : r = p
        · rw [hr, upd_same, upd_same]
        · rw [upd_ne hr, upd_ne hr, upd_ne hr]
      rw [eu] at s3 hx3
      exact z2 v ws2 I3 H3 (e2.trans e3) s3 hx3 rw
    | true => exact z (.bl true) ws' I2 H2 e2 s2 hx2 rfl) fun _ _ z => z)
/-- a for whose source draws, a turn of it may break or return -/
theorem qm_forR {M : Rt μ} {x : μ} {ws : List V} [It M] (P : S → L2.St → Hp → Hp → Prop) {wi : TI} {g : TG} {m : μ → Res (List α × μ)} {f : α → S → Res (Out S ρ)} {s0 : μ → S} {k : Out S ρ → Res ω} (hi : EvIM E K p M wi σ I (off C p) m R) (s : St I C H) (hc : C p = some (.lst ws)) (hx : M.r x ws I Z) (hm : Post (((m x).bind fun b => loopR f b.1 (s0 b.2)).bind k) Q XF)
    (h0 : ∀ y ws' I2 C2, Ex I I2 → C2 p = some (.lst ws') → (∀ q, q ≠ p → C2 q = C q) → M.r y ws' I2 Z → P (s0 y) σ I2 C2) (hP : ∀ s' σ' I' I2 C', Ex I' I2 → P s' σ' I' C' → P s' σ' I2 C')
    (body : ∀ (N : L2.St → Hp → Prop) x v s' σ' I' C' H', Ex I I' → St I' C' H' → P s' σ' I' C' → R.r x v I' C' → Post (f x s') (fun o => match o with
        | .nx s2 => ∀ σ2 I3 C3 H3, Ex I' I3 → St I3 C3 H3 → P s2 σ2 I3 C3 → N σ2 H3
        | .br s2 => ∀ σ2 I3 C3 H3, Ex I' I3 → St I3 C3 H3 → P s2 σ2 I3 C3 → tz D σ2 H3
        | .rt r => Post (k (.rt r)) Q XF) XF →
      g v σ' H' fun σ2 H2 => tu { D with nx := N, ct := N, bk := tz D } σ2 H2)
    (next : ∀ s' σ' I' C' H', Ex I I' → St I' C' H' → P s' σ' I' C' → Post (k (.nx s')) Q XF → tz D σ' H') : tSeq (tFor wi g tu) tz D σ H :=
  hi x ws I C H (Ex.refl _) off_ex s hc (It.im hx) _ ((Post.bind (Post.bind hm)).mono (fun b q2 ws2 J G Y I2 H2 e2 s2 hx2 hz w hG hY => by
    refine for_it w (fun i σ' H' => ∃ s' I' C', Ex I2 I' ∧ St I' C' H' ∧ P s' σ' I' C' ∧ Post ((loopR f (b.1.drop i) s').bind k) Q XF) ⟨s0 b.2, I2, _, Ex.refl _, s2, h0 _ _ I2 _ e2 upd_same (fun q h => upd_ne h) (It.im hx2), by rw [List.drop_zero]; exact Post.of_bind q2⟩
      (fun i σ' H' hi ⟨s', I', C', e3, s3, p, _⟩ => hG I' C' H' e3 s3) (fun i x σ' H1 H' hi ⟨s', I', C', e3, s3, p, po⟩ y => ?_) (fun σ' H' ⟨s', I', C', e3, s3, p, po⟩ => ?_)
    · obtain ⟨a, ha⟩ : ∃ a, b.1[i]? = some a := ⟨b.1[i], by simp [hi]⟩
      rw [drop_cons ha] at po
      obtain ⟨I4, e4, s4, ra⟩ := hY i a x I' C' H1 H' ha e3 s3 y
      refine body _ a x s' σ' I4 C' H' (e2.trans (e3.trans e4)) s4 (hP _ _ _ _ _ e4 p) ra ((Post.bind (Post.bind po)).mono (fun o z => ?_) fun _ _ z => z)
      cases o with
      | nx s3 => exact fun σ2 I5 C5 H5 e5 s5 p5 => ⟨s3, I5, C5, e3.trans (e4.trans e5), s5, p5, Post.of_bind z⟩
      | br s3 => exact fun σ2 I5 C5 H5 e5 s5 p5 => next s3 σ2 I5 C5 H5 (e2.trans (e3.trans (e4.trans e5))) s5 p5 z
      | rt r => exact z
    · rw [List.drop_length] at po
      exact next s' σ' I' C' H' (e2.trans e3) s3 p po) fun _ _ z => z)
end
end Sd

namespace PySem.W
open PySem PySem.Spec PySem.Calls PyProof.Rows
section
variable {prog : Program} {w : World} {A : Around} {E : Value → Shared → Prop} {s : Shared} {K : Frag} {y D0 : Addr} {oy dct : Obj}
/-- what a caught error with a dict of its own answers to __class__ -/
theorem sd_class {G : Option Value → Shared → Prop} (T : L2.ExcC K D0) (hK : K.In s.heap) (J : InstAt s.heap y oy D0 (some dct)) (hG : G (some (.ref D0)) { s with toks := s.toks + 1 }) :
    wpAny (model prog w) A (getAttr? (.ref y) "__class__") G E s := by
  have hfind : findObj K D0 (some dct) "__class__" = some (.bind (.builtin "getset_descriptor.__get__") (.builtin "object.__class__")) := by
    obtain ⟨cd, hcd, _⟩ := any_some T.hd
    unfold findObj
    rw [hcd, Option.bind_some, T.ha, Option.bind_some]
    simp [T.hn, T.ht]
  obtain ⟨heap, gens, drw, tk, osx⟩ := s
  have kT := J.type (M := model prog w)
  have kA := looks_findIn (M := model prog w) hK T.hg
  have kB := looks_findIn (M := model prog w) hK T.hk
  have kF := looks_find (M := model prog w) hK J hfind
  have kS : Looks (model prog w) heap (isInstance (.ref y) (.type "BaseException")) true := kT.andThen (looks_subIn hK T.hs)
  have n0 : (false && onTheHeap (Value.builtin "BaseException.__getattribute__")) = false := rfl
  have n1 : (Value.builtin "BaseException.__getattribute__" == Value.builtin "object.__getattribute__") = false := by decide +kernel
  have n2 : (onTheHeap (Value.ref D0) && Value.builtin "BaseException.__getattribute__" == Value.builtin "object.__getattribute__") = false := by
    rw [n1]
    rfl
  unfold getAttr? getAttrBy? getAttrBy
  refine wpAny_bind (wpAny_mkText (wpAny_bind (wpAny_attempt (wpAny_holding (wpAny_bind (kT.at (wpAny_bind (kA.at ?_))))))))
  show wpAny _ _ (if (onTheHeap (Value.ref D0) && Value.builtin "BaseException.__getattribute__" == Value.builtin "object.__getattribute__") = true then _ else _) _ _ _
  rw [n2, if_neg Bool.false_ne_true]
  unfold getAttrByItsOwn hookBefore
  refine wpAny_bind ?_
  rw [if_pos (show onTheHeap (Value.ref D0) = true from rfl)]
  refine kB.at ?_
  refine wpAny_bind (wpAny_attempt (wpAny_holding ?_))
  unfold callGetattribute
  rw [n0, if_neg Bool.false_ne_true]
  unfold boundAndCalled
  rw [PySem.F.excAttr_ValueError.ga.bind (.ref y)]
  refine wpAny_bind (wpAny_pure ?_)
  show wpAny _ _ (call (.builtin "BaseException.__getattribute__") [.ref y, .str "__class__" tk]) _ _ _
  refine wpAny_call (codeAny_call_builtin PySem.F.excAttr_ValueError.ga.plain PySem.F.entry_bexc_ga ?_)
  refine @check_slot (model prog w) _ _ ⟨heap, gens, drw, tk + 1, osx⟩ "BaseException.__getattribute__" "BaseException" "__getattribute__" (.ref y) [.str "__class__" tk] [] _ (by decide +kernel) (by decide +kernel) kS (PySem.F.args_bexc_ga (.ref y) (.str "__class__" tk)) ?_
  unfold Builtin.«object.__getattribute__»
  refine wpAny_bind (wpAny_of_eq (a := ((Value.ref y : Value), [Value.str "__class__" tk])) (by first | rfl | (simp only [slotArgs]; rfl)) ?_)
  refine wpAny_bind (wpAny_pure (wpAny_bind (kT.at (wpAny_bind (kF.at ?_)))))
  show wpAny _ _ (holding [Value.builtin "object.__class__"] (call (.builtin "getset_descriptor.__get__") [.builtin "object.__class__", .ref y, .ref D0]) >>= ret) _ _ _
  refine wpAny_bind (wpAny_holding (wpAny_call (class_get (s := ⟨heap, gens, drw, tk + 1, osx⟩) (ox := oy) (od := some dct) hK J T.hm ?_)))
  refine wpAny_pure ?_
  show wpAny _ _ (handedOut (.ref D0)) _ _ _
  rw [handedOut_of (v := .ref D0) rfl]
  first
    | exact wpAny_pure (wpAny_pure hG)
    | exact wpAny_pure hG
    | exact wpAny_pure (wpAny_bind (wpAny_pure (wpAny_pure hG)))
theorem sd_kit (T : L2.ExcC K D0) : KitX K (.ref y) (.ref D0) (fun h => InstAt h y oy D0 (some dct)) where
  ty := fun _ _ _ J => J.type
  it := fun _ _ hK _ => by
    obtain ⟨cd, hcd, _⟩ := any_some T.hd
    unfold clsIn at hcd
    split at hcd
    · rename_i c1 d1 cd1 sl1 ho1
      intro A1 Q1 E1 s1 k1 q1
      unfold isType loadHead
      exact wpAny_bind (wpAny_loadPart (k1 _ _ (hK _ _ ho1)) (wpAny_pure q1))
    · cases hcd
  ne := fun h tp dd its n sl hK htp => by
    obtain ⟨cd, hcd, _⟩ := any_some T.hd
    refine Bool.eq_false_iff.mpr fun z => ?_
    have e : D0 = tp := Value.ref.inj (beq_iff_eq.mp z)
    subst e
    unfold clsIn at hcd
    split at hcd
    · rename_i c1 d1 cd1 sl1 ho1
      cases (hK _ _ ho1).symm.trans htp
    · cases hcd
  ca := fun hK J k => sd_class T hK J k
end
end PySem.W
namespace Sd
open PySem L2
/-! ### own errors -/
def mth : Stmt → Stmt
  | .ClassDef _ _ _ body _ _ _ _ _ _ _ => body.getD 0 (.Pass ⟨0, 0, 0, 0⟩)
  | s => s
def isaE (c b : Ec) : Bool := decide (c = b) || decide (b = .DeskError)
/-- what the written part says of an own error -/
structure ErrC (K : PySem.W.Frag) (mg : Str → Option Value) (fI : Addr) (c : Ec) : Prop where
  o : OexC K (He.ga K c.name)
  ic : PySem.W.findIn K (.ref (He.ga K c.name)) "__init__" = some (some (.ref fI))
  ti : PySem.W.typeIn K (.ref fI) = some (.type "function")
  g : mg c.name = some (.ref (He.ga K c.name))
  na : PySem.W.findIn K (.ref (He.ga K c.name)) "at" = some none
  xf : XfC K (He.ga K c.name)
  is : ExcC K (He.ga K c.name)
  ve : PySem.W.kitOne K (.ref (He.ga K c.name)) (.type "ValueError") = some true
/-- self.at = at -/
def spInit (K : PySem.W.Frag) : Sp := fun vs H Q _ => ∃ (a C : Addr) (i : Int), vs = [.ref a, .int i] ∧ OexC K C ∧ PySem.W.findIn K (.ref C) "at" = some none ∧ H a = some (exo a C none) ∧
  ∀ dx, H dx = none → dx ≠ a → Q .non (upd (upd H dx (exd dx [(("at" : Str), .int i)])) a (exo a C (some dx)))
section
variable {P : Program} {w : World} {K : PySem.W.Frag} {mg : Str → Option Value} {base : Heap}
abbrev ErrF (K : PySem.W.Frag) (st : Stmt) (f : Addr) (fd : FuncData) : Prop := FunD K "__init__" "DeskError.__init__" (defArgs st) (defBody st) (defScope st) [.int 0] [] f fd
end
section
variable {E : XK} {K : PySem.W.Frag} {mg : Str → Option Value} {fI : Addr} {σ : L2.St} {I C H : Hp} {α β ω S ρ : Type} {ta : TA} {te : TE} {tz : TS} {D : Ends} {Q : ω → Prop} {X : Ec → Int → Prop}
theorem s_raise {c : Ec} {m : Res Int} (x : ErrC K mg fI c) (h : EvA E K ta σ I C m (t1 pI)) (s : St I C H) (hX : XH X E K I C) (hm : Post (m.bind fun i => Res.exc c i : Res ω) Q X) :
    tSeq (fun _ σ H => tMkO (He.ga K c.name) (spInit K) [] ta σ H fun cls d H' => E cls d H') tz D σ H :=
  h I C H (Ex.refl _) (Ex.refl _) s _ ((Post.bind hm).mono (fun i q vs I2 H2 e2 s2 ⟨v, hv, rv⟩ => by
    have hv1 : v = .int i := rv
    subst hv hv1
    have po : PX E K I2 C c i := (hX c i q).mono e2 (Ex.refl _)
    refine ⟨Nat.le_of_ble_eq_true rfl, fun a ha => ⟨a, He.ga K c.name, i, rfl, x.o, x.na, upd_same, fun dx hdx hne => ⟨rfl, dx, [(("at" : Str), .int i)], upd_same, ?_, ?_, ?_⟩⟩⟩
    · rw [upd_ne hne, upd_same]
    · rw [upd_ne hne] at hdx
      exact hdx
    · rw [upd_ne hne] at hdx
      have eh : upd (del (upd (upd (upd H2 a (exo a (He.ga K c.name) none)) dx (exd dx [(("at" : Str), .int i)])) a (exo a (He.ga K c.name) (some dx))) a) dx (.xd [(("at" : Str), .int i)]) = upd H2 dx (.xd [(("at" : Str), .int i)]) := by
        funext b
        by_cases h1 : b = dx
        · rw [h1, upd_same, upd_same]
        · rw [upd_ne h1, upd_ne h1]
          by_cases h2 : b = a
          · rw [h2, del_same, ha]
          · rw [del_ne h2, upd_ne h2, upd_ne h1, upd_ne h2]
      rw [eh]
      exact po dx (upd I2 dx (.xd [(("at" : Str), .int i)])) _ (Ex.new (s2.i.free hdx)) (s2.newI hdx) upd_same) hX)
/-! in an except suite -/
def tXfX (K : PySem.W.Frag) (a : Addr) (cls : Value) (d : Option Addr) (f : Str) (te : TE) : TE := fun σ H Q => ∃ C, (XfC K C ∧ PySem.W.findIn K (.ref C) f = some none) ∧ tXf a cls d C f te σ H Q
theorem pe_xfX {X : Cx} {a : Addr} {oe : Obj} {cls : Value} {d : Option Addr} {pn : List (Addr × Obj)} {e : Expr} {te : TE} {pos : Pos} {n : Str}
    (hz : Zc cls d oe) (hf : ∃ vs, oe.data = .fields vs) (he : PE (X.suite a ((a, oe) :: pn)) e te) (hb : attributeBase e n X.env (eval e X.env) = eval e X.env := by rfl) :
    PE (X.suite a ((a, oe) :: pn)) (.Attribute e n pos) (tXfX X.K a cls d n te) :=
  ⟨fun pins s σ H Q I ⟨C, ⟨T, hno⟩, h⟩ => (pe_xf (C := C) T hno hz hf he hb).run pins s σ H Q I h⟩
def rIsX (K : PySem.W.Frag) (a : Addr) (cls : Value) (d : Option Addr) : List V → Hp → VK → Prop := fun xs H Q => ∃ (D dd : Addr) (fs : List (Str × V)) (c : V) (cv : Value) (b : Bool), ExcC K D ∧ cls = .ref D ∧ d = some dd ∧ H dd = some (.xd fs) ∧ xs = [.ref a, c] ∧
  (∀ u, RelV c u → u = cv) ∧ PySem.W.kitOne K (.ref D) cv = some b ∧ Q (.bl b) H
theorem call_isX {Y : Cx} {a : Addr} {cls : Value} {d : Option Addr} {oe : Obj} {pn : List (Addr × Obj)} (hz : Zc cls d oe) (hf : ∃ vs, oe.data = .fields vs) : CallR (Y.suite a ((a, oe) :: pn)) (.builtin "isinstance") (rIsX Y.K a cls d) := by
  intro pins s σ H xs us Q I r h
  obtain ⟨D, dd, fs, c, cv, b, T, rfl, rfl, hd, rfl, hcv, e, q⟩ := h
  cases r with
  | cons r1 rr =>
    cases rr with
    | cons r2 rr =>
      cases rr
      cases r1
      have ec := hcv _ r2
      subst ec
      obtain ⟨hget, _⟩ := I.pin (a, oe) (List.mem_append.mpr (.inl List.mem_cons_self))
      obtain ⟨vs, hv⟩ := hf
      have hx : ObjOk Y.prog Y.w H s.heap dd (.xd fs) := I.hok dd _ hd
      obtain ⟨mA, hns, _⟩ := hx
      obtain ⟨od, ho, _⟩ := lookIn_ns hns
      have J : PySem.W.InstAt s.heap a oe D (some od) := ⟨hget, hz.1, by unfold PySem.W.notCls; rw [hv] <;> rfl, by rw [hz.2]; exact ho⟩
      exact PySem.W.kia_one (PySem.W.sd_kit T) I.kIn J e (fun z => nomatch z) fun tk => ⟨.bl b, H, I.kept (t' := tk) fun _ _ z => z, rfl, q⟩
/-- the caught error: its class, its number, where it stands -/
structure Cg (K : PySem.W.Frag) (mg : Str → Option Value) (fI : Addr) (I : Hp) (cls : Value) (d : Option Addr) (c : Ec) (i : Int) : Prop where
  x : ErrC K mg fI c
  cl : cls = .ref (He.ga K c.name)
  dd : ∃ dd, d = some dd ∧ I dd = some (.xd [(("at" : Str), .int i)])
theorem Cg.up {I2 : Hp} {cls : Value} {d : Option Addr} {c : Ec} {i : Int} (e : Ex I I2) (g : Cg K mg fI I cls d c i) : Cg K mg fI I2 cls d c i := ⟨g.x, g.cl, by
  obtain ⟨dd, h1, h2⟩ := g.dd
  exact ⟨dd, h1, e _ _ h2⟩⟩
theorem x_at {a : Addr} {j : Nat} {cls : Value} {d : Option Addr} {c : Ec} {i : Int} (g : Cg K mg fI I cls d c i) (hv : σ[j]? = some (some (.ref a))) : EvX E K (tXfX K a cls d "at" (tVar j)) σ I C (.ok i) pI := fun I1 C1 H1 e e' s Q q => by
  obtain ⟨dd, h1, h2⟩ := g.dd
  exact ⟨_, ⟨g.x.xf, g.x.na⟩, _, hv, rfl, g.cl, dd, _, .int i, h1, s.i _ _ (e _ _ h2), by simp [List.lookup], PQ.now (R := pI) (a := i) q s rfl⟩
theorem x_isE {a : Addr} {j : Nat} {cls : Value} {d : Option Addr} {c c2 : Ec} {i : Int} (g : Cg K mg fI I cls d c i) (hk : PySem.W.kitOne K (.ref (He.ga K c.name)) (.ref (He.ga K c2.name)) = some (isaE c c2)) (hv : σ[j]? = some (some (.ref a))) :
    EvX E K (tCB (rIsX K a cls d) (tCons (tVar j) (tCons (tC (.ref (He.ga K c2.name))) tNil))) σ I C (.ok (isaE c c2)) pB := fun I1 C1 H1 e e' s Q q => by
  obtain ⟨dd, h1, h2⟩ := g.dd
  exact ⟨_, hv, _, dd, _, _, _, _, g.x.is, g.cl, h1, s.i _ _ (e _ _ h2), rfl, fun u r => r, hk, PQ.now (R := pB) (a := isaE c c2) q s rfl⟩
theorem x_isVE {a : Addr} {j : Nat} {cls : Value} {d : Option Addr} {c : Ec} {i : Int} (g : Cg K mg fI I cls d c i) (hv : σ[j]? = some (some (.ref a))) :
    EvX E K (tCB (rIsX K a cls d) (tCons (tVar j) (tCons (tC (.ty "ValueError")) tNil))) σ I C (.ok true) pB := fun I1 C1 H1 e e' s Q q => by
  obtain ⟨dd, h1, h2⟩ := g.dd
  exact ⟨_, hv, _, dd, _, _, _, _, g.x.is, g.cl, h1, s.i _ _ (e _ _ h2), rfl, fun u r => r, g.x.ve, PQ.now (R := pB) (a := true) q s rfl⟩
/-! a call in the body of a try -/
theorem x_callS {W : WX} {T : Rt α} {f : α → Res β} {R : Rp β} {m : Res α} (h : EvA (WE W σ) K ta σ I C m T) : EvX (WE W σ) K (tCallS (spP K T f R) (WE W) ta) σ I C (un f m) R := fun I1 C1 H1 e e' s Q q =>
  h I1 C1 H1 e e' s _ ((Post.bind q).mono (fun a p vs I2 H2 e2 s2 rv => ⟨I2, C1, a, s2, rv, Post.mono (m := f a) p (fun b z v I3 H3 e3 s3 rw => z v I3 H3 (e2.trans e3) s3 rw) fun c i z => z.mono e2 (Ex.refl _)⟩) fun _ _ z => z)
theorem n_callS {W : WX} {T : Rt α} {f : α → Res (List β)} {R : Rp β} {m : Res α} (h : EvA (WE W σ) K ta σ I C m T) : EvN (WE W σ) K (tCallS (spO K T f R) (WE W) ta) σ I C (un f m) R := fun I1 C1 H1 e e' s Q q =>
  h I1 C1 H1 e e' s _ ((Post.bind q).mono (fun a p vs I2 H2 e2 s2 rv => ⟨I2, C1, a, s2, rv, Post.mono (m := f a) p (fun b z => z.up e2) fun c i z => z.mono e2 (Ex.refl _)⟩) fun _ _ z => z)
/-! try: body, except the errors in L as e: suite -/
def tryR {α : Type} (Kn L : Ec → Bool) (m : Res α) (f : Ec → Int → Res α) : Res α := match m with
  | .ok a => .ok a
  | .exc c i => if Kn c = true then (if L c = true then f c i else .exc c i) else .bad
  | .bad => .bad
@[simp] theorem tryR_ok {α : Type} (Kn L : Ec → Bool) (a : α) (f : Ec → Int → Res α) : tryR Kn L (.ok a) f = .ok a := rfl
theorem tryR_exc {α : Type} {Kn L : Ec → Bool} {c : Ec} {i : Int} (h : Kn c = true) (h2 : L c = true) (f : Ec → Int → Res α) : tryR Kn L (.exc c i) f = f c i := by
  show (if Kn c = true then (if L c = true then f c i else .exc c i) else .bad) = f c i
  rw [if_pos h, if_pos h2]
abbrev Xb {σ' ρ' ω' : Type} (Kn L : Ec → Bool) (ms : Ec → Int → Res (Out σ' ρ')) (k : Out σ' ρ' → Res ω') (Q : ω' → Prop) (X : Ec → Int → Prop) (c : Ec) (j : Int) : Prop := Kn c = true ∧ (if L c = true then Post ((ms c j).bind k) Q X else X c j)
/-- try: .. except c as e: .. -/
def tTry (K : PySem.W.Frag) (c : Value) (i : Nat) (tb : WX → TS) (ts : Addr → Value → Option Addr → TS) (Wout : WX) : TS := fun D σ H => tb (wAs K c i ts Wout D) D σ H
theorem ps_tryS {X : Cx} {x n : Str} {c : Value} {i : Nat} {body suite : List Stmt} {b₀ : Stmt} {np pos pos' : Pos} {tb : WX → TS} {ts : Addr → Value → Option Addr → TS} {Wout : WX} (hs : X.stack = X.env :: X.outer) (hf : X.env.frame = some X.env.locals) (hN : X.N.Nodup) (hi : X.N[i]? = some n) (hln : X.env.kindOf n = some .local) (hc : Names X x c) (tk : Takes X Wout)
    (hb : ∀ (W : WX) (pn : List (Addr × Obj)) (xe : Value → Shared → Prop), Takes (X.tr pn xe) W → PassesOwn (model X.prog X.w) X.A X.env xe → PSs (X.tr pn xe) body (tb W))
    (hsu : ∀ (a : Addr) (oe : Obj) (cls : Value) (d : Option Addr) (pn : List (Addr × Obj)), Zc cls d oe → (∃ vs, oe.data = .fields vs) → PSs (X.suite a ((a, oe) :: pn)) (b₀ :: suite) (ts a cls d)) :
    PS X (.Try body [.ExceptHandler (some (.Name x np)) (some n) (b₀ :: suite) pos'] [] [] pos) (tTry X.K c i tb ts Wout) := ps_try_as hs hf hN hi hln hc tk hb hsu
/-- the word P of what stands behind it (slot i of e is empty then), Pe of where the body may break off -/
theorem s_try (P : S → L2.St → Hp → Hp → Prop) (Pe : L2.St → Hp → Hp → Prop) {i : Nat} {tb : WX → TS} {ts : Addr → Value → Option Addr → TS} {cv : Value} {Kn L : Ec → Bool} {mb : Res (Out S ρ)} {ms : Ec → Int → Res (Out S ρ)} {k : Out S ρ → Res ω}
    (hexm : ∀ c, Kn c = true → PySem.W.exmOne K (.ref (He.ga K c.name)) cv = some (L c) ∧ ErrC K mg fI c)
    (hX : ∀ σ' I' C', Ex I I' → Pe σ' I' C' → XH X E K I' C')
    (hP : ∀ σ' I' I2 C', Ex I' I2 → Pe σ' I' C' → Pe σ' I2 C')
    (hm : Post ((tryR Kn L mb ms).bind k) Q X)
    (body : ∀ (N : L2.St → Hp → Prop) (W : WX), (∀ σ' I' C', Ex I I' → Pe σ' I' C' → XH (Xb Kn L ms k Q X) (WE W σ') K I' C') →
      Post mb (fun o => match o with
        | .nx s' => ∀ σ2 I3 C3 H3, Ex I I3 → St I3 C3 H3 → P s' σ2 I3 C3 → N σ2 H3
        | o => Post (k o) Q X) (Xb Kn L ms k Q X) → tb W { D with nx := N } σ H)
    (suite : ∀ (N : L2.St → Hp → Prop) c j a cls d σ' I' C' H', Kn c = true → Cg K mg fI I' cls d c j → Ex I I' → St I' C' H' → Pe σ' I' C' → Post (ms c j) (fun o => match o with
        | .nx s' => ∀ (σ2 : L2.St) I3 C3 H3, Ex I' I3 → St I3 C3 H3 → P s' (σ2.set i none) I3 C3 → N (σ2.set i none) H3
        | o => Post (k o) Q X) X → ts a cls d { nx := fun σ1 H1 => N (σ1.set i none) H1, rt := D.rt, bk := fun σ1 H1 => D.bk (σ1.set i none) H1, ct := fun σ1 H1 => D.ct (σ1.set i none) H1 } (σ'.set i (some (.ref a))) H')
    (next : ∀ s' σ2 I3 C3 H3, Ex I I3 → St I3 C3 H3 → P s' σ2 I3 C3 → Post (k (.nx s')) Q X → tz D σ2 H3) :
    Evl.tCut (tTry K cv i tb ts (fun cls d _ H => E cls d H)) tz D σ H := by
  refine ⟨fun σ2 H3 => ∃ s' I3 C3, Ex I I3 ∧ St I3 C3 H3 ∧ P s' σ2 I3 C3 ∧ Post (k (.nx s')) Q X, ?_, fun σ2 H3 ⟨s', I3, C3, e3, s3, p, q⟩ => next s' σ2 I3 C3 H3 e3 s3 p q⟩
  refine body _ _ (fun σ' I' C' e p c j hx d I2 H2 e2 s2 hd => ?_) ?_
  · obtain ⟨kn, hx⟩ := hx
    obtain ⟨he, x⟩ := hexm c kn
    refine ⟨L c, he, fun hl a ha => ?_, fun hl => ?_⟩
    · rw [if_pos hl] at hx
      refine suite _ c j a _ (some d) σ' I2 C' H2 kn ⟨x, rfl, d, rfl, hd⟩ (e.trans e2) s2 (hP _ _ _ _ e2 p) ((Post.bind hx).mono (fun o z => ?_) fun _ _ z => z)
      cases o with
      | nx s' => exact fun (σ2 : L2.St) I3 C3 H3 e3 s3 pp => ⟨s', I3, C3, e.trans (e2.trans e3), s3, pp, z⟩
      | br s' => exact z
      | rt r => exact z
    · rw [if_neg (by rw [hl]; decide)] at hx
      exact hX σ' I' C' e p c j hx d I2 H2 e2 s2 hd
  · cases mb with
    | ok o =>
      have z : Post (k o) Q X := hm
      cases o with
      | nx s' => exact fun σ2 I3 C3 H3 e3 s3 pp => ⟨s', I3, C3, e3, s3, pp, z⟩
      | br s' => exact z
      | rt r => exact z
    | exc c j =>
      show Xb Kn L ms k Q X c j
      by_cases kn : Kn c = true
      · refine ⟨kn, ?_⟩
        have z : Post ((if Kn c = true then (if L c = true then ms c j else Res.exc c j) else .bad).bind k) Q X := hm
        rw [if_pos kn] at z
        by_cases hl : L c = true
        · rw [if_pos hl] at z
          rw [if_pos hl]
          exact z
        · rw [if_neg hl] at z
          rw [if_neg hl]
          exact z
      · have z : Post ((if Kn c = true then (if L c = true then ms c j else Res.exc c j) else .bad).bind k) Q X := hm
        rw [if_neg kn] at z
        exact z.elim
    | bad => exact hm
/-! the law -/
def spLaw (K : PySem.W.Frag) (m : List Int → Res Bool) : Sp := fun vs H Q _ => ∃ (a : Addr) (ns : List Int), vs = [.ref a] ∧ SqL K H a (ns.map V.int) ∧ ns.length ≤ 1000 ∧ Post (m ns) (fun b => ∀ v H', v = V.bl b → Q v H') XF
theorem law_start {a : Addr} {ns : List Int} (hS : SqL K H a (ns.map V.int)) (hz : ns.length ≤ 1000) : ∃ I0, St I0 Z H ∧ (pW K pI).r ns (.ref a) I0 Z := by
  refine ⟨fun b => if b = a then H a else none, ⟨fun b o h => ?_, exz, fun _ => .inr rfl⟩, a, ns.map V.int, rfl, ?_, ?_, A2.of_map (f := fun x u => pI.r x u _ Z) (h := V.int) (fun _ => rfl) ns⟩
  · by_cases q : b = a
    · rw [if_pos q] at h
      rw [q]
      exact h
    · rw [if_neg q] at h
      cases h
  · rcases hS with (h | ⟨o, h⟩) | h
    · exact .inl (.inl (by show (if a = a then H a else none) = _; rw [if_pos rfl]; exact h))
    · exact .inl (.inr ⟨o, by show (if a = a then H a else none) = _; rw [if_pos rfl]; exact h⟩)
    · exact .inr h
  · rw [List.length_map]
    exact Nat.le_trans hz (by decide)
def poolR (ns : List Int) : Res Pl := .ok (0, 0, 0, cut ns none (some 63))
@[simp] theorem poolR_eq (ns : List Int) : poolR ns = .ok (0, 0, 0, cut ns none (some 63)) := rfl
def spPool (K : PySem.W.Frag) : Sp := fun vs H Q _ => ∃ (I C : Hp) (ns : List Int) (v : V), vs = [v] ∧ St I C H ∧ (pW K pI).r ns v I Z ∧
  ∀ p ws I2 H2, Ex I I2 → C p = none → St I2 (upd C p (.lst ws)) H2 → pM.r (0, 0, 0, cut ns none (some 63)) ws I2 Z → Q (.ref p) H2
theorem n_lstP {A : Rt α} [It A] {tr : TA} {m : Res α} (h : EvA E K tr σ I C m A) (hn : A.n ≤ 100) (s : St I C H) {Q : VK} (q : Post m (fun a => ∀ p ws I2 H2, Ex I I2 → C p = none → St I2 (upd C p (.lst ws)) H2 → A.r a ws I2 Z → Q (.ref p) H2) (PX E K I C)) : tLst tr σ H Q :=
  h I C H (Ex.refl _) (Ex.refl _) s _ (q.mono (fun a p vs I2 H2 e2 s2 rv => ⟨by rw [A.len rv]; exact Nat.le_trans hn (by decide), fun t ht => p t vs I2 _ e2 (s2.c.free ht) (s2.newC ht) (It.im rv)⟩) fun _ _ z => z)
theorem q_mkpool {i j : Nat} {v : V} {ns : List Int} {k : Pl → Res ω} (hv : σ[j]? = some (some v)) (hr : (pW K pI).r ns v I Z) (s : St I C H) (hm : Post ((poolR ns).bind k) Q XF)
    (next : ∀ y p ws I2 C2 H2, Ex I I2 → St I2 C2 H2 → C2 p = some (.lst ws) → pM.r y ws I2 Z → Post (k y) Q XF → tz D (σ.set i (some (.ref p))) H2) : tSeq (tAsg (tCall (spPool K) [] E (tCons (tVar j) tNil)) (gName i)) tz D σ H :=
  ⟨v, hv, I, C, ns, v, rfl, s, hr, fun p ws I2 H2 e hp s2 hx => next _ p ws I2 _ H2 e s2 upd_same hx hm⟩
/-! a list that was not there at B -/
def pLn (B : Hp) (R : Rp α) : Rp (List α) := ⟨fun xs v I C => (pL R).r xs v I C ∧ ∀ a, v = .ref a → B a = none, fun e e' h => ⟨(pL R).mono e e' h.1, h.2⟩⟩
instance {B : Hp} {R : Rp α} [Im R] : Im (pLn B R) := ⟨fun h => ⟨Im.im h.1, h.2⟩⟩
instance {B : Hp} {R : Rp α} : NN (pLn B R) := ⟨fun h => NN.nn h.1⟩
instance {B : Hp} {R : Rp α} : TyR K (pLn B R) "list" := ⟨fun s h => TyR.ty s h.1⟩
theorem x_n2l {B : Hp} {R : Rp α} {m : Res (List α)} (h : EvX E K te σ I C m (pLn B R)) : EvX E K te σ I C m (pL R) := fun I1 C1 H1 e e' s Q q =>
  h I1 C1 H1 e e' s Q (q.mono (fun a p v I2 H2 e2 s2 rv => p v I2 H2 e2 s2 rv.1) fun _ _ z => z)
/-- f(a ..) hands back a thing of R, which looks at what was known before -/
def spPd (K : PySem.W.Frag) {α β : Type} (T : Rt α) (m : α → Res β) (R : Hp → Rp β) : Sp := fun vs H Q E => ∃ (I C : Hp) (a : α), St I C H ∧ T.r a vs I C ∧ Post (m a) (PQ (R I) I C Q) (PX E K I C)
theorem x_callD {T : Rt α} {f : α → Res β} {R : Hp → Rp β} {m : Res α} (hR : ∀ {I I2 a v I3 C3}, Ex I I2 → (R I2).r a v I3 C3 → (R I).r a v I3 C3) (h : EvA E K ta σ I C m T) : EvX E K (tCall (spPd K T f R) [] E ta) σ I C (un f m) (R I) := fun I1 C1 H1 e e' s Q q =>
  h I1 C1 H1 e e' s _ ((Post.bind q).mono (fun a p vs I2 H2 e2 s2 rv => by
    refine ⟨I2, C1, a, s2, by rw [List.append_nil]; exact rv, Post.mono (m := f a) p (fun b z v I3 H3 e3 s3 rw => z v I3 H3 (e2.trans e3) s3 (hR (e.trans e2) rw)) fun c i z => z.mono e2 (Ex.refl _)⟩) fun _ _ z => z)
theorem x_callDS {W : WX} {T : Rt α} {f : α → Res β} {R : Hp → Rp β} {m : Res α} (hR : ∀ {I I2 a v I3 C3}, Ex I I2 → (R I2).r a v I3 C3 → (R I).r a v I3 C3) (h : EvA (WE W σ) K ta σ I C m T) : EvX (WE W σ) K (tCallS (spPd K T f R) (WE W) ta) σ I C (un f m) (R I) := fun I1 C1 H1 e e' s Q q =>
  h I1 C1 H1 e e' s _ ((Post.bind q).mono (fun a p vs I2 H2 e2 s2 rv => ⟨I2, C1, a, s2, rv, Post.mono (m := f a) p (fun b z v I3 H3 e3 s3 rw => z v I3 H3 (e2.trans e3) s3 (hR (e.trans e2) rw)) fun c i z => z.mono e2 (Ex.refl _)⟩) fun _ _ z => z)
theorem paper_up {R : Rp α} {S1 : Rp β} {B B2 : Hp} {x : Str × (List α ⊕ β)} {v : V} {I C : Hp} (e : Ex B B2) (h : (pT (tc pS (t1 (pX (pLn B2 R) S1)))).r x v I C) : (pT (tc pS (t1 (pX (pLn B R) S1)))).r x v I C := by
  obtain ⟨a, vs, h1, h2, u, us, h3, h4, w, h5, h6⟩ := h
  refine ⟨a, vs, h1, h2, u, us, h3, h4, w, h5, ?_⟩
  obtain ⟨x1, x2⟩ := x
  cases x2 with
  | inl xs => exact ⟨h6.1, fun a z => e.free (h6.2 a z)⟩
  | inr b => exact h6
/-- told[1].append(0): the list of the told thing changes, none of what was known before it does -/
theorem q_appN {R : Rp Int} {S1 : Rp β} {B It : Hp} {i : Nat} {told : Str × (List Int ⊕ β)} {v : V} {b : Addr} {us : List V} {k : List Int → Res ω} (hv : σ[i]? = some (some v)) (r : (pT (tc pS (t1 (pX (pLn B R) S1)))).r told v It Z) (et : Ex It I) (eB : Ex B I) (hb : I b = some (.lst us)) (hbt : It b = none)
    (s : St I C H) (hm : Post (((getL told.2).bind fun xs => push xs 0).bind k) Q XF) (next : ∀ xs I3 H3, Ex B I3 → St I3 C H3 → I3 b = some (.lst us) → Post (k xs) Q XF → tz D σ H3) :
    tSeq (tDrop (tBM K "list" rAppend (tOp (rIxT K) (tVar i) (tC (.int ((1 : Nat) : Int)))) (tCons (tC (.int 0)) tNil))) tz D σ H := by
  obtain ⟨a, vs, rfl, h2, u, us2, rfl, h4, w, rfl, h6⟩ := r
  obtain ⟨x1, x2⟩ := told
  cases x2 with
  | inr y => exact hm.elim
  | inl xs =>
    obtain ⟨⟨p, ws, rfl, h7, h8, h9⟩, h10⟩ := h6
    have hp : I p = some (.lst ws) := et _ _ h7
    have hne : b ≠ p := fun z => by
      rw [z, h7] at hbt
      cases hbt
    have hm2 : Post ((push xs 0).bind k) Q XF := hm
    unfold push at hm2
    split at hm2
    · rename_i hlen
      have hl : ws.length < sizeLine := by
        rw [h9.len]
        exact Nat.lt_of_lt_of_le hlen (by decide)
      refine ⟨.ref a, hv, a, [u, .ref p], 1, .ref p, rfl, rfl, .inl (.inl (s.i _ _ (et _ _ h2))), rfl, .inl ⟨rfl, ws, .inl (.inl (s.i _ _ hp))⟩, p, ws, .int 0, rfl, rfl, s.i _ _ hp, hl, ?_⟩
      refine next (xs ++ [0]) (fun c => if c = p then none else I c) _ (fun c o h => ?_) ⟨fun c o h => ?_, fun c o h => ?_, fun c => ?_⟩ ?_ hm2
      · have hc : c ≠ p := fun z => by
          rw [z, h10 p rfl] at h
          cases h
        show (if c = p then none else I c) = some o
        rw [if_neg hc]
        exact eB c o h
      · by_cases hc : c = p
        · rw [if_pos hc] at h
          cases h
        · rw [if_neg hc] at h
          rw [upd_ne hc]
          exact s.i c o h
      · have hc : c ≠ p := fun z => by
          rw [z] at h
          have z2 := s.freeI h
          rw [hp] at z2
          cases z2
        rw [upd_ne hc]
        exact s.c c o h
      · by_cases hc : c = p
        · exact .inl (if_pos hc)
        · rcases s.s c with h | h
          · exact .inl (by show (if c = p then none else I c) = none; rw [if_neg hc]; exact h)
          · exact .inr h
      · show (if b = p then none else I b) = some (.lst us)
        rw [if_neg hne]
        exact hb
    · exact hm2.elim
/-- s_ifr where only what was known at J is kept -/
theorem s_ifrB (P : S → L2.St → Hp → Hp → Prop) {J : Hp} (eJ : Ex J I) {tt : TT} {tu tw : TS} {c : Res Bool} {m1 m2 : Res (Out S ρ)} {k : Out S ρ → Res ω} (h : EvT E K tt σ I C c) (s : St I C H) (hX : XH X E K I C) (hm : Post ((ifR c m1 m2).bind k) Q X)
    (h1 : ∀ (N : L2.St → Hp → Prop) I2 H2, Ex I I2 → St I2 C H2 → Post m1 (fun o => match o with
      | .nx s' => ∀ σ2 I3 C3 H3, Ex J I3 → St I3 C3 H3 → P s' σ2 I3 C3 → N σ2 H3
      | o => Post (k o) Q X) X → tu { D with nx := N } σ H2)
    (h2 : ∀ (N : L2.St → Hp → Prop) I2 H2, Ex I I2 → St I2 C H2 → Post m2 (fun o => match o with
      | .nx s' => ∀ σ2 I3 C3 H3, Ex J I3 → St I3 C3 H3 → P s' σ2 I3 C3 → N σ2 H3
      | o => Post (k o) Q X) X → tw { D with nx := N } σ H2)
    (next : ∀ s' σ2 I3 C3 H3, Ex J I3 → St I3 C3 H3 → P s' σ2 I3 C3 → Post (k (.nx s')) Q X → tz D σ2 H3) : Evl.tCut (tIfS tt tu tw) tz D σ H := by
  refine ⟨fun σ2 H3 => ∃ s' I3 C3, Ex J I3 ∧ St I3 C3 H3 ∧ P s' σ2 I3 C3 ∧ Post (k (.nx s')) Q X, ?_, fun σ2 H3 ⟨s', I3, C3, e3, s3, p, q⟩ => next s' σ2 I3 C3 H3 e3 s3 p q⟩
  refine h I C H (Ex.refl _) (Ex.refl _) s _ ((Post.bind (Post.bind hm)).mono (fun b p I2 H2 e2 s2 => ?_) hX)
  cases b with
  | true => exact h1 _ I2 H2 e2 s2 (Post.mono (m := m1) p (fun o z => by
      cases o with
      | nx s' => exact fun σ2 I3 C3 H3 e3 s3 pp => ⟨s', I3, C3, e3, s3, pp, z⟩
      | br s' => exact z
      | rt r => exact z) fun _ _ z => z)
  | false => exact h2 _ I2 H2 e2 s2 (Post.mono (m := m2) p (fun o z => by
      cases o with
      | nx s' => exact fun σ2 I3 C3 H3 e3 s3 pp => ⟨s', I3, C3, e3, s3, pp, z⟩
      | br s' => exact z
      | rt r => exact z) fun _ _ z => z)
/-! data: new lists, one of two -/
theorem de_new {B : Hp} {R : Rp α} {enc : α → PyData} {n : Nat} (d : De K R enc n) : De K (pLn B R) (fun xs => PyData.list (xs.map enc)) (n + 1) :=
  ⟨fun s h => (de_lst d).dp s h.1, fun h => (de_lst d).ly h.1, fun h => (de_lst d).de h.1, (de_lst d).eq⟩
def sEnc (f : α → PyData) (g : β → PyData) : α ⊕ β → PyData
  | .inl a => f a
  | .inr b => g b
theorem de_sum {R : Rp α} {S1 : Rp β} {f : α → PyData} {g : β → PyData} {n m : Nat} (d : De K R f n) (d' : De K S1 g m) (hd : ∀ a b, PyData.eqv (f a) (g b) = false ∧ PyData.eqv (g b) (f a) = false) : De K (pX R S1) (sEnc f g) (max n m) :=
  ⟨fun {a v I C H} s h => by
    cases a with
    | inl a => exact d.dp s h
    | inr a => exact d'.dp s h,
  fun {a v I C} h => by
    cases a with
    | inl a => exact d.ly h
    | inr a => exact d'.ly h,
  fun {a v I C} h => by
    cases a with
    | inl a => exact Nat.le_trans (d.de h) (Nat.le_max_left _ _)
    | inr a => exact Nat.le_trans (d'.de h) (Nat.le_max_right _ _),
  fun a b => by
    cases a with
    | inl a =>
      cases b with
      | inl b =>
        simp only [sEnc, Sum.inl.injEq]
        exact d.eq a b
      | inr b =>
        simp only [sEnc, (hd a b).1]
        exact ⟨fun q => (nomatch q), fun q => (nomatch q)⟩
    | inr a =>
      cases b with
      | inl b =>
        simp only [sEnc, (hd b a).2]
        exact ⟨fun q => (nomatch q), fun q => (nomatch q)⟩
      | inr b =>
        simp only [sEnc, Sum.inr.injEq]
        exact d'.eq a b⟩
theorem oEnc_no {f : α → PyData} {x : PyData} (h : ∀ a, PyData.eqv x (f a) = false ∧ PyData.eqv (f a) x = false) (h0 : PyData.eqv x .none = false ∧ PyData.eqv .none x = false) (o : Option α) : PyData.eqv x (oEnc f o) = false ∧ PyData.eqv (oEnc f o) x = false := by
  cases o with
  | none => exact h0
  | some a => exact h a
/-! isinstance of what may be None, of one of two -/
def isO {α : Type} (b : Bool) : Option α → Bool
  | some _ => b
  | none => false
def isX {α β : Type} (b : Bool) (f : β → Bool) : α ⊕ β → Bool
  | .inl _ => b
  | .inr y => f y
@[simp] theorem isO_some (b : Bool) (a : α) : isO b (some a) = b := rfl
@[simp] theorem isO_none (b : Bool) : isO b (none : Option α) = false := rfl
@[simp] theorem isX_inl (b : Bool) (f : β → Bool) (a : α) : isX b f (.inl a) = b := rfl
@[simp] theorem isX_inr (b : Bool) (f : β → Bool) (y : β) : isX b f (.inr y : α ⊕ β) = f y := rfl
theorem ty_opt {R : Rp α} {n c : String} {b : Bool} [TyR K R n] (hk : kitB n c = some b) (hn : kitB "NoneType" c = some false) {o : Option α} {v : V} {I C H : Hp} (s : St I C H) (r : (pO R).r o v I C) : ∃ t, TyX K H v t ∧ PySem.W.kitOne K t (.type c) = some (isO b o) := by
  cases o with
  | none =>
    have h : v = .non := r
    subst h
    exact ⟨_, .base .non, kit_ty hn⟩
  | some a => exact ⟨_, TyR.ty s r.1, kit_ty hk⟩
theorem o_isiO {R : Rp α} {n c : String} {b : Bool} [TyR K R n] (hk : kitB n c = some b) (hn : kitB "NoneType" c = some false) : OpL E K (rIsi K) (fun p => .ok (isO b p.1)) (tc (pO R) (t1 (pY c))) pB := fun I C H a vs s hv Q q => by
  obtain ⟨v, us, rfl, r, w, rfl, rw⟩ := hv
  have hw : w = .ty c := rw
  subst hw
  obtain ⟨t, h1, h2⟩ := ty_opt (K := K) hk hn s r
  exact ⟨v, .ty c, _, _, _, rfl, .ty c, h1, h2, PQ.now q s rfl⟩
theorem o_isiXO {R : Rp α} {S1 : Rp β} {n n2 c : String} {b b2 : Bool} [TyR K R n] [TyR K S1 n2] (hk : kitB n c = some b) (hk2 : kitB n2 c = some b2) (hn : kitB "NoneType" c = some false) : OpL E K (rIsi K) (fun p => .ok (isX b (isO b2) p.1)) (tc (pX R (pO S1)) (t1 (pY c))) pB := fun I C H a vs s hv Q q => by
  obtain ⟨v, us, rfl, r, w, rfl, rw⟩ := hv
  have hw : w = .ty c := rw
  subst hw
  obtain ⟨x, y⟩ := a
  cases x with
  | inl x => exact ⟨v, .ty c, _, _, b, rfl, .ty c, TyR.ty (R := R) s r, kit_ty hk, PQ.now q s rfl⟩
  | inr x =>
    obtain ⟨t, h1, h2⟩ := ty_opt (K := K) (R := S1) hk2 hn s r
    exact ⟨v, .ty c, _, _, _, rfl, .ty c, h1, h2, PQ.now q s rfl⟩
theorem o_isiX {R : Rp α} {S1 : Rp β} {n n2 c : String} {b b2 : Bool} [TyR K R n] [TyR K S1 n2] (hk : kitB n c = some b) (hk2 : kitB n2 c = some b2) : OpL E K (rIsi K) (fun p => .ok (isX b (fun _ => b2) p.1)) (tc (pX R S1) (t1 (pY c))) pB := fun I C H a vs s hv Q q => by
  obtain ⟨v, us, rfl, r, w, rfl, rw⟩ := hv
  have hw : w = .ty c := rw
  subst hw
  obtain ⟨x, y⟩ := a
  cases x with
  | inl x => exact ⟨v, .ty c, _, _, b, rfl, .ty c, TyR.ty (R := R) s r, kit_ty hk, PQ.now q s rfl⟩
  | inr x => exact ⟨v, .ty c, _, _, b2, rfl, .ty c, TyR.ty (R := S1) s r, kit_ty hk2, PQ.now q s rfl⟩
end
end Sd

namespace Sd
open PySem PySem.Spec PyProof.Rows L2
/-! ### the head: own errors, read by a Bool -/
def oexB (K : PySem.W.Frag) (C : Addr) : Bool := match K.lookup C with
  | some ⟨.type "type", _, .cls cd, sl⟩ => (match cd.mro, sl.toList with
    | .ref C1 :: bm, [_, _, _, _, some (.builtin n), _] => decide (C1 = C) && (decide (n = "ValueError.__new__") && (!cd.hasDel && (cd.hasDict && PySem.HandSPX.refsVE bm)))
    | _, _ => false)
  | _ => false
theorem oexB_ok {K : PySem.W.Frag} {C : Addr} (h : oexB K C = true) : ∃ nm q N bs bm sn sub ab col dd k0 k1 k2 k3 k5, K.lookup C = some (excClassObj nm q C N bs bm true sn sub ab col dd k0 k1 k2 k3 k5 "ValueError.__new__") ∧ PySem.HandSPX.refsVE bm = true := by
  unfold oexB at h
  split at h
  · rename_i dd cd sl ho
    split at h
    · rename_i C1 bm k0 k1 k2 k3 n k5 e1 e2
      obtain ⟨h1, h⟩ := Bool.and_eq_true_iff.mp h
      obtain ⟨h2, h⟩ := Bool.and_eq_true_iff.mp h
      obtain ⟨h3, h⟩ := Bool.and_eq_true_iff.mp h
      obtain ⟨h4, h5⟩ := Bool.and_eq_true_iff.mp h
      have h1 := of_decide_eq_true h1
      have h2 := of_decide_eq_true h2
      subst h1 h2
      obtain ⟨nm, bs, mro, ns, qn, hd, sn, sub, ab, col, del⟩ := cd
      simp only [Bool.not_eq_true'] at e1 e2 h3 h4
      subst e1 h3 h4
      obtain ⟨l⟩ := sl
      simp only at e2
      subst e2
      exact ⟨_, _, _, _, _, _, _, _, _, _, _, _, _, _, _, ho, h5⟩
    · cases h
  · cases h
def errB (K : PySem.W.Frag) (fI : Addr) (c : Ec) : Bool :=
  oexB K (He.ga K c.name) && (decide (PySem.W.findIn K (.ref (He.ga K c.name)) "__setattr__" = some (some (.builtin "object.__setattr__"))) && (decide (PySem.W.typeIn K (.ref (He.ga K c.name)) = some (.type "type")) && (PySem.W.keepIn K (.ref (He.ga K c.name)) &&
    (decide (PySem.W.findIn K (.ref (He.ga K c.name)) "__init__" = some (some (.ref fI))) && (decide (PySem.W.typeIn K (.ref fI) = some (.type "function")) && (decide (PySem.W.findIn K (.ref (He.ga K c.name)) "at" = some none) && (xfB K (He.ga K c.name) &&
      (decide (PySem.W.findIn K (.ref (He.ga K c.name)) "__class__" = some (some (.builtin "object.__class__"))) && (decide (PySem.W.specialIn K (.builtin "object.__class__") "__get__" = some (some (.builtin "getset_descriptor.__get__"))) && (decide (PySem.W.takesIn K (.builtin "object.__class__") = some true) &&
        (decide (PySem.W.mroIn K (He.ga K c.name) (.type "object") = some true) && (decide (PySem.W.kitOne K (.ref (He.ga K c.name)) (.type "ValueError") = some true) && He.eqO (PySem.W.nsIn K mainGlobals c.name) (some (some (.ref (He.ga K c.name))))))))))))))))
theorem errB_ok {K : PySem.W.Frag} {h : Heap} {mg : Str → Option Value} {fI : Addr} {c : Ec} (X : K.In h) (G : h.Ns mainGlobals mg) (e : errB K fI c = true) : ErrC K mg fI c := by
  unfold errB at e
  obtain ⟨h1, e⟩ := Bool.and_eq_true_iff.mp e
  obtain ⟨h2, e⟩ := Bool.and_eq_true_iff.mp e
  obtain ⟨h3, e⟩ := Bool.and_eq_true_iff.mp e
  obtain ⟨h4, e⟩ := Bool.and_eq_true_iff.mp e
  obtain ⟨h5, e⟩ := Bool.and_eq_true_iff.mp e
  obtain ⟨h6, e⟩ := Bool.and_eq_true_iff.mp e
  obtain ⟨h7, e⟩ := Bool.and_eq_true_iff.mp e
  obtain ⟨h8, e⟩ := Bool.and_eq_true_iff.mp e
  obtain ⟨h9, e⟩ := Bool.and_eq_true_iff.mp e
  obtain ⟨ha, e⟩ := Bool.and_eq_true_iff.mp e
  obtain ⟨hb, e⟩ := Bool.and_eq_true_iff.mp e
  obtain ⟨hc, e⟩ := Bool.and_eq_true_iff.mp e
  obtain ⟨hd, he⟩ := Bool.and_eq_true_iff.mp e
  have xf := xfB_ok h8
  exact ⟨⟨oexB_ok h1, of_decide_eq_true h2, xf.exC, of_decide_eq_true h3, h4⟩, of_decide_eq_true h5, of_decide_eq_true h6, PySem.W.mg_of X G (He.eqO_ok he), of_decide_eq_true h7, xf,
    ⟨xf.ga, xf.gg, xf.exC, xf.hdC, of_decide_eq_true h9, of_decide_eq_true ha, of_decide_eq_true hb, of_decide_eq_true hc⟩, of_decide_eq_true hd⟩
def errsB (cs : List Ec) (K : PySem.W.Frag) : Bool := cs.all (fun c => errB K (He.fAd K ("DeskError", some "__init__")) c) &&
  cs.all fun c => cs.all fun b => decide (PySem.W.kitOne K (.ref (He.ga K c.name)) (.ref (He.ga K b.name)) = some (isaE c b)) && decide (PySem.W.exmOne K (.ref (He.ga K c.name)) (.ref (He.ga K b.name)) = some (isaE c b))
theorem errsB_ok {cs : List Ec} {K : PySem.W.Frag} {h : Heap} {mg : Str → Option Value} (X : K.In h) (G : h.Ns mainGlobals mg) (e : errsB cs K = true) :
    (∀ c, c ∈ cs → ErrC K mg (He.fAd K ("DeskError", some "__init__")) c) ∧ (∀ c b, c ∈ cs → b ∈ cs → PySem.W.kitOne K (.ref (He.ga K c.name)) (.ref (He.ga K b.name)) = some (isaE c b)) ∧ ∀ c b, c ∈ cs → b ∈ cs → PySem.W.exmOne K (.ref (He.ga K c.name)) (.ref (He.ga K b.name)) = some (isaE c b) := by
  obtain ⟨h1, h2⟩ := Bool.and_eq_true_iff.mp e
  have h1 := List.all_eq_true.mp h1
  have h2 := List.all_eq_true.mp h2
  refine ⟨fun c hc => errB_ok X G (h1 c hc), fun c b hc hb => ?_, fun c b hc hb => ?_⟩
  · exact of_decide_eq_true (Bool.and_eq_true_iff.mp (List.all_eq_true.mp (h2 c hc) b hb)).1
  · exact of_decide_eq_true (Bool.and_eq_true_iff.mp (List.all_eq_true.mp (h2 c hc) b hb)).2
end Sd

namespace Sd
open PySem L2
/-! ### plain laws of the mirrors -/
/-- m comes to an answer that is so -/
abbrev Is {α : Type} (m : Res α) (Q : α → Prop) : Prop := Post m Q XF
theorem is_iff {α : Type} {m : Res α} {Q : α → Prop} : Is m Q ↔ ∃ a, m = .ok a ∧ Q a := by
  cases m with
  | ok a => exact ⟨fun h => ⟨a, rfl, h⟩, fun ⟨b, e, h⟩ => by cases e; exact h⟩
  | exc c i => exact ⟨fun h => h.elim, fun ⟨b, e, h⟩ => by cases e⟩
  | bad => exact ⟨fun h => h.elim, fun ⟨b, e, h⟩ => by cases e⟩
theorem Is.ok {α : Type} {a : α} {Q : α → Prop} (h : Q a) : Is (.ok a) Q := h
theorem Is.eq {α : Type} {m : Res α} {a : α} (h : Is m (· = a)) : m = .ok a := by
  obtain ⟨b, e, h⟩ := is_iff.mp h
  rw [e, h]
theorem Is.of {α : Type} {m : Res α} {a : α} {Q : α → Prop} (e : m = .ok a) (h : Q a) : Is m Q := by
  rw [e]
  exact h
theorem Is.get {α : Type} {m : Res α} {Q : α → Prop} (h : Is m Q) : ∃ a, m = .ok a ∧ Q a := is_iff.mp h
theorem Is.bind {α β : Type} {m : Res α} {k : α → Res β} {Q : α → Prop} {R : β → Prop} (h : Is m Q) (hk : ∀ a, Q a → Is (k a) R) : Is (m.bind k) R := by
  obtain ⟨a, e, h⟩ := h.get
  rw [e]
  exact hk a h
theorem Is.imp {α : Type} {m : Res α} {Q R : α → Prop} (h : Is m Q) (hk : ∀ a, Q a → R a) : Is m R := Post.mono h hk fun _ _ z => z
section
variable {α β γ S ρ : Type}
/-- a loop keeps a word -/
theorem loopN_inv {f : α → S → Res S} (J : Nat → S → Prop) {xs : List α} {s : S} (h0 : J 0 s) (h : ∀ i x s, xs[i]? = some x → J i s → Is (f x s) (J (i + 1))) : Is (loopN f xs s) (J xs.length) := by
  induction xs generalizing J s with
  | nil => exact h0
  | cons x xs ih =>
    rw [loopN_cons]
    refine Is.bind (h 0 x s rfl h0) fun s' h1 => ?_
    exact ih (fun i => J (i + 1)) h1 fun i y s hy hj => h (i + 1) y s hy hj
theorem loopN_pure {f : α → S → Res S} {g : S → α → S} {xs : List α} {s : S} (h : ∀ x s, f x s = .ok (g s x)) : loopN f xs s = .ok (xs.foldl g s) := loopN_ok fun x _ s => h x s
/-- a loop that may return: the first turn that does -/
theorem loopR_find {f : α → Unit → Res (Out Unit ρ)} {g : α → Option ρ} : ∀ {xs : List α}, (∀ x, x ∈ xs → f x () = .ok (match g x with | some r => .rt r | none => .nx ())) → loopR f xs () = .ok (match xs.findSome? g with | some r => .rt r | none => .nx ())
  | [], _ => rfl
  | x :: xs, h => by
    rw [loopR_cons, h x List.mem_cons_self, List.findSome?_cons]
    cases q : g x with
    | some r => rfl
    | none => exact loopR_find fun y hy => h y (List.mem_cons_of_mem _ hy)
theorem loopR_any {f : α → Unit → Res (Out Unit ρ)} {p : α → Bool} {r : ρ} : ∀ {xs : List α}, (∀ x, x ∈ xs → f x () = .ok (if p x = true then .rt r else .nx ())) → loopR f xs () = .ok (if xs.any p = true then .rt r else .nx ())
  | [], _ => rfl
  | x :: xs, h => by
    rw [loopR_cons, h x List.mem_cons_self, List.any_cons]
    cases q : p x with
    | true => rfl
    | false => exact loopR_any fun y hy => h y (List.mem_cons_of_mem _ hy)
theorem filR_id {p : α → Res Bool} {q : α → Bool} {xs : List α} (h : ∀ x, x ∈ xs → p x = .ok (q x)) : filR p (fun x => .ok x) xs = .ok (xs.filter q) := by
  rw [filR_ok (g := fun x => x) h fun _ _ _ => rfl, List.map_id']
theorem findSome_none {g : α → Option β} {xs : List α} (h : xs.findSome? g = none) : ∀ x, x ∈ xs → g x = none := List.findSome?_eq_none_iff.mp h
theorem findSome_some {g : α → Option β} {b : β} : ∀ {xs : List α}, xs.findSome? g = some b → ∃ x, x ∈ xs ∧ g x = some b
  | [], h => by cases h
  | x :: xs, h => by
    rw [List.findSome?_cons] at h
    cases q : g x with
    | some c =>
      rw [q] at h
      exact ⟨x, List.mem_cons_self, q.trans h⟩
    | none =>
      rw [q] at h
      obtain ⟨y, hy, e⟩ := findSome_some h
      exact ⟨y, List.mem_cons_of_mem _ hy, e⟩
/-- a loop that appends -/
theorem loopN_app {f : α → List β → Res (List β)} {q : α → Bool} {g : α → β} : ∀ {xs : List α} {acc : List β}, (∀ x a, x ∈ xs → a.length < 1000000 → f x a = .ok (if q x = true then a ++ [g x] else a)) → acc.length + xs.length < 1000000 → loopN f xs acc = .ok (acc ++ (xs.filter q).map g)
  | [], acc, _, _ => by rw [List.filter_nil, List.map_nil, List.append_nil]; rfl
  | x :: xs, acc, h, hl => by
    rw [List.length_cons] at hl
    rw [loopN_cons, h x acc List.mem_cons_self (by omega)]
    cases q1 : q x with
    | true =>
      rw [if_pos rfl, Res.bind_ok, loopN_app (fun y a hy => h y a (List.mem_cons_of_mem _ hy)) (by rw [List.length_append, List.length_singleton]; omega), List.filter_cons, if_pos q1, List.map_cons, List.append_assoc]
      rfl
    | false =>
      rw [if_neg (by decide), Res.bind_ok, loopN_app (fun y a hy => h y a (List.mem_cons_of_mem _ hy)) (by omega), List.filter_cons, if_neg (by rw [q1]; decide)]
theorem mem_enumF {xs : List α} {y : Int × α} : y ∈ enumF 0 xs ↔ ∃ i : Nat, xs[i]? = some y.2 ∧ y.1 = (i : Int) := by
  rw [List.mem_iff_getElem?]
  constructor
  · rintro ⟨i, h⟩
    rw [enumF_get] at h
    cases q : xs[i]? with
    | none =>
      rw [q] at h
      cases h
    | some x =>
      rw [q] at h
      cases h
      exact ⟨i, q, by simp⟩
  · rintro ⟨i, h1, h2⟩
    refine ⟨i, ?_⟩
    rw [enumF_get, h1]
    obtain ⟨a, b⟩ := y
    simp only at h2
    subst h2
    simp
theorem enumF_lt : ∀ (xs : List α) (k : Int), (enumF k xs).Pairwise fun a b => a.1 < b.1
  | [], _ => .nil
  | x :: xs, k => by
    rw [enumF, List.pairwise_cons]
    refine ⟨fun y hy => ?_, enumF_lt xs (k + 1)⟩
    obtain ⟨i, h⟩ := List.mem_iff_getElem?.mp hy
    rw [enumF_get] at h
    cases q : xs[i]? with
    | none =>
      rw [q] at h
      cases h
    | some z =>
      rw [q] at h
      cases h
      dsimp only
      omega
/-- a loop that might return, but does not -/
theorem loopR_inv {f : α → S → Res (Out S ρ)} {J : S → Prop} : ∀ {xs : List α} {s : S}, J s → (∀ x s, x ∈ xs → J s → Is (f x s) fun o => ∃ s', o = .nx s' ∧ J s') → Is (loopR f xs s) fun o => ∃ s', o = .nx s' ∧ J s'
  | [], s, h0, _ => ⟨s, rfl, h0⟩
  | x :: xs, s, h0, h => by
    rw [loopR_cons]
    refine Is.bind (h x s List.mem_cons_self h0) fun o ⟨s', e, h1⟩ => ?_
    subst e
    exact loopR_inv h1 fun y s hy => h y s (List.mem_cons_of_mem _ hy)
theorem ix_nat {xs : List α} {i : Nat} {x : α} (h : xs[i]? = some x) : ix xs (i : Int) = .ok x := by
  unfold ix
  rw [if_pos (by omega), Int.toNat_natCast, h]
theorem ix_get {xs : List α} {i : Int} (h0 : 0 ≤ i) (h1 : i < xs.length) : ∃ x, ix xs i = .ok x ∧ xs[i.toNat]? = some x := by
  obtain ⟨n, rfl⟩ := Int.eq_ofNat_of_zero_le h0
  have hn : n < xs.length := by omega
  exact ⟨xs[n], ix_nat (by simp [hn]), by simp [hn]⟩
theorem ix_getD {xs : List α} {i : Int} {d : α} (h0 : 0 ≤ i) (h1 : i < xs.length) : ix xs i = .ok (xs.getD i.toNat d) := by
  obtain ⟨x, e, h⟩ := ix_get h0 h1
  rw [e, List.getD_eq_getElem?_getD, h]
  rfl
theorem setR_nat {xs : List α} {i : Int} {x : α} (h0 : 0 ≤ i) (h1 : i < xs.length) : setR xs i x = .ok (xs.set i.toNat x) := by
  unfold setR ixN
  rw [if_pos h0, if_pos h1]
theorem cut_lo {xs : List α} {k : Int} (h : 0 ≤ k) : cut xs none (some k) = xs.take k.toNat := by
  unfold cut
  rw [HT.sIx_none]
  show (xs.drop 0).take ((if k < 0 then (k + (xs.length : Int)).toNat else min k.toNat xs.length) - 0) = _
  rw [if_neg (by omega), List.drop_zero, Nat.sub_zero, ← List.take_eq_take_min]
theorem cut_hi {xs : List α} {k : Int} (h : 0 ≤ k) : cut xs (some k) none = xs.drop k.toNat := by
  unfold cut
  rw [HT.sIx_none]
  show (xs.drop (if k < 0 then (k + (xs.length : Int)).toNat else min k.toNat xs.length)).take (xs.length - (if k < 0 then (k + (xs.length : Int)).toNat else min k.toNat xs.length)) = _
  rw [if_neg (by omega), List.take_of_length_le (by rw [List.length_drop]; exact Nat.le_refl _)]
  by_cases hk : k.toNat ≤ xs.length
  · rw [Nat.min_eq_left hk]
  · rw [Nat.min_eq_right (by omega), List.drop_length, List.drop_eq_nil_of_le (by omega)]
theorem cut_last {xs : List α} : cut xs none (some (-1)) = xs.dropLast := by
  unfold cut
  rw [HT.sIx_none]
  show (xs.drop 0).take ((if (-1 : Int) < 0 then ((-1 : Int) + (xs.length : Int)).toNat else min (-1 : Int).toNat xs.length) - 0) = _
  rw [if_pos (by decide), List.drop_zero, Nat.sub_zero, List.dropLast_eq_take]
  congr 1
  omega
theorem rangeL_nat (n : Int) : rangeL 0 n = (List.range n.toNat).map fun i : Nat => (i : Int) := by
  unfold rangeL
  rw [Int.sub_zero]
  exact List.map_congr_left fun i _ => by omega
theorem loopN_inv' {f : α → S → Res S} (J : S → Prop) {xs : List α} {s : S} (h0 : J s) (h : ∀ x s, x ∈ xs → J s → Is (f x s) J) : Is (loopN f xs s) J :=
  loopN_inv (fun _ => J) h0 fun i x s hx hj => h x s (List.mem_of_getElem? hx) hj
theorem mapM_is {μ : Type} {f : α → μ → Res (β × μ)} {J : μ → Prop} {B : β → Prop} : ∀ {xs : List α} {y : μ}, J y → (∀ x y, x ∈ xs → J y → Is (f x y) fun b => B b.1 ∧ J b.2) → Is (mapM f xs y) fun c => c.1.length = xs.length ∧ (∀ b ∈ c.1, B b) ∧ J c.2
  | [], y, h0, _ => ⟨rfl, fun _ h => (nomatch h), h0⟩
  | x :: xs, y, h0, h => by
    refine Is.bind (h x y List.mem_cons_self h0) fun b hb => ?_
    refine Is.bind (mapM_is (xs := xs) hb.2 fun z w hz hw => h z w (List.mem_cons_of_mem _ hz) hw) fun c hc => ?_
    exact ⟨by simp [hc.1], fun d hd => by
      rcases List.mem_cons.mp hd with rfl | hd
      · exact hb.1
      · exact hc.2.1 d hd, hc.2.2⟩
variable {μ : Type}
@[simp] theorem callM_ok (f : α → μ → Res (β × μ)) (a : α) (x : μ) : callM f (liftM (.ok a)) x = f a x := rfl
theorem callM_eq (f : α → μ → Res (β × μ)) (m : μ → Res (α × μ)) (x : μ) : callM f m x = (m x).bind fun b => f b.1 b.2 := rfl
theorem unM_eq (f : α → Res γ) (m : μ → Res (α × μ)) (x : μ) : unM f m x = (m x).bind fun b => (f b.1).bind fun c => .ok (c, b.2) := rfl
theorem binM_eq (f : α → β → Res γ) (m : μ → Res (α × μ)) (n : μ → Res (β × μ)) (x : μ) : binM f m n x = (m x).bind fun b => (n b.2).bind fun d => (f b.1 d.1).bind fun c => .ok (c, d.2) := rfl
theorem pairM_eq (m : μ → Res (α × μ)) (n : μ → Res (β × μ)) (x : μ) : pairM m n x = (m x).bind fun b => (n b.2).bind fun d => .ok ((b.1, d.1), d.2) := rfl
theorem consM_eq (m : μ → Res (α × μ)) (n : μ → Res (List α × μ)) (x : μ) : consM m n x = (m x).bind fun b => (n b.2).bind fun d => .ok (b.1 :: d.1, d.2) := rfl
theorem ifMR_eq (c : μ → Res (Bool × μ)) (x : μ) (m n : μ → Res α) : ifMR c x m n = (c x).bind fun b => if b.1 = true then m b.2 else n b.2 := rfl
theorem andM_eq (m n : μ → Res (Bool × μ)) (x : μ) : andM m n x = (m x).bind fun b => if b.1 = true then n b.2 else .ok (false, b.2) := rfl
theorem slM_eq (m : Res (List α)) (lo hi : μ → Res (Option Int × μ)) (x : μ) : slM m lo hi x = m.bind fun xs => (lo x).bind fun a => (hi a.2).bind fun b => .ok (cut xs a.1 b.1, b.2) := rfl
@[simp] theorem consR_ok (a : α) (xs : List α) : consR (.ok a) (.ok xs) = .ok (a :: xs) := rfl
theorem Is.if_ {α : Type} {c : Bool} {m n : Res α} {Q : α → Prop} (h1 : c = true → Is m Q) (h2 : c = false → Is n Q) : Is (if c = true then m else n) Q := by
  cases c with
  | true => exact h1 rfl
  | false => exact h2 rfl
end
end Sd

namespace K83
open PySem L2 Sd
def top (i : Nat) : Stmt := PySem.Challenge.pw_stormdesk_k83_best_wishes_and_reasons.main.body.getD i (.Pass ⟨0, 0, 0, 0⟩)

abbrev s_check_wishes : Stmt := top 8
abbrev s_inside : Stmt := top 9
abbrev s_earliest_plan : Stmt := top 10
abbrev s_can_call : Stmt := top 11
abbrev s_check_weights : Stmt := top 12
abbrev s_chosen_until : Stmt := top 13
abbrev s_best_wishes : Stmt := top 14
abbrev s_reason : Stmt := top 15
abbrev s__law_mix : Stmt := top 17
abbrev s__law_pool : Stmt := top 18
abbrev s__law_fill : Stmt := top 19
abbrev s__law_take : Stmt := top 20
abbrev s__law_from : Stmt := top 21
abbrev s__law_wishes : Stmt := top 22
abbrev s__law_inside : Stmt := top 23
abbrev s__law_can : Stmt := top 24
abbrev s__law_chosen : Stmt := top 25
abbrev s__law_why : Stmt := top 26
abbrev s__law_weights : Stmt := top 27
abbrev s__law_other_sets : Stmt := top 28
abbrev s__law_is_int : Stmt := top 29
abbrev s__law_refused : Stmt := top 30
abbrev s__law_refused_right : Stmt := top 31
abbrev s__law_reasons_told : Stmt := top 32
abbrev s_law : Stmt := top 33
abbrev s_err : Stmt := mth (top 1)
def knE (c : Ec) : Bool := decide (c ∈ ([.DeskError, .TooMany, .Unlike, .BadPair] : List Ec))
structure Tx (K : PySem.W.Frag) (mg : Str → Option Value) where
  f_check_wishes : Addr
  d_check_wishes : FuncData
  f_inside : Addr
  d_inside : FuncData
  f_earliest_plan : Addr
  d_earliest_plan : FuncData
  f_can_call : Addr
  d_can_call : FuncData
  f_check_weights : Addr
  d_check_weights : FuncData
  f_chosen_until : Addr
  d_chosen_until : FuncData
  f_best_wishes : Addr
  d_best_wishes : FuncData
  f_reason : Addr
  d_reason : FuncData
  f__law_mix : Addr
  d__law_mix : FuncData
  f__law_pool : Addr
  d__law_pool : FuncData
  f__law_fill : Addr
  d__law_fill : FuncData
  f__law_take : Addr
  d__law_take : FuncData
  f__law_from : Addr
  d__law_from : FuncData
  f__law_wishes : Addr
  d__law_wishes : FuncData
  f__law_inside : Addr
  d__law_inside : FuncData
  f__law_can : Addr
  d__law_can : FuncData
  f__law_chosen : Addr
  d__law_chosen : FuncData
  f__law_why : Addr
  d__law_why : FuncData
  f__law_weights : Addr
  d__law_weights : FuncData
  f__law_other_sets : Addr
  d__law_other_sets : FuncData
  f__law_is_int : Addr
  d__law_is_int : FuncData
  f__law_refused : Addr
  d__law_refused : FuncData
  f__law_refused_right : Addr
  d__law_refused_right : FuncData
  f__law_reasons_told : Addr
  d__law_reasons_told : FuncData
  f_law : Addr
  d_law : FuncData
  F_check_wishes : FunD K "check_wishes" "check_wishes" (defArgs s_check_wishes) (defBody s_check_wishes) (defScope s_check_wishes) [] [] f_check_wishes d_check_wishes
  g_check_wishes : mg "check_wishes" = some (.ref f_check_wishes)
  F_inside : FunD K "inside" "inside" (defArgs s_inside) (defBody s_inside) (defScope s_inside) [] [] f_inside d_inside
  g_inside : mg "inside" = some (.ref f_inside)
  F_earliest_plan : FunD K "earliest_plan" "earliest_plan" (defArgs s_earliest_plan) (defBody s_earliest_plan) (defScope s_earliest_plan) [] [] f_earliest_plan d_earliest_plan
  g_earliest_plan : mg "earliest_plan" = some (.ref f_earliest_plan)
  F_can_call : FunD K "can_call" "can_call" (defArgs s_can_call) (defBody s_can_call) (defScope s_can_call) [] [] f_can_call d_can_call
  g_can_call : mg "can_call" = some (.ref f_can_call)
  F_check_weights : FunD K "check_weights" "check_weights" (defArgs s_check_weights) (defBody s_check_weights) (defScope s_check_weights) [] [] f_check_weights d_check_weights
  g_check_weights : mg "check_weights" = some (.ref f_check_weights)
  F_chosen_until : FunD K "chosen_until" "chosen_until" (defArgs s_chosen_until) (defBody s_chosen_until) (defScope s_chosen_until) [] [] f_chosen_until d_chosen_until
  g_chosen_until : mg "chosen_until" = some (.ref f_chosen_until)
  F_best_wishes : FunD K "best_wishes" "best_wishes" (defArgs s_best_wishes) (defBody s_best_wishes) (defScope s_best_wishes) [] [] f_best_wishes d_best_wishes
  g_best_wishes : mg "best_wishes" = some (.ref f_best_wishes)
  F_reason : FunD K "reason" "reason" (defArgs s_reason) (defBody s_reason) (defScope s_reason) [] [] f_reason d_reason
  g_reason : mg "reason" = some (.ref f_reason)
  F__law_mix : FunD K "_law_mix" "_law_mix" (defArgs s__law_mix) (defBody s__law_mix) (defScope s__law_mix) [] [] f__law_mix d__law_mix
  g__law_mix : mg "_law_mix" = some (.ref f__law_mix)
  F__law_pool : FunD K "_law_pool" "_law_pool" (defArgs s__law_pool) (defBody s__law_pool) (defScope s__law_pool) [] [] f__law_pool d__law_pool
  g__law_pool : mg "_law_pool" = some (.ref f__law_pool)
  F__law_fill : FunD K "_law_fill" "_law_fill" (defArgs s__law_fill) (defBody s__law_fill) (defScope s__law_fill) [] [] f__law_fill d__law_fill
  g__law_fill : mg "_law_fill" = some (.ref f__law_fill)
  F__law_take : FunD K "_law_take" "_law_take" (defArgs s__law_take) (defBody s__law_take) (defScope s__law_take) [] [] f__law_take d__law_take
  g__law_take : mg "_law_take" = some (.ref f__law_take)
  F__law_from : FunD K "_law_from" "_law_from" (defArgs s__law_from) (defBody s__law_from) (defScope s__law_from) [] [] f__law_from d__law_from
  g__law_from : mg "_law_from" = some (.ref f__law_from)
  F__law_wishes : FunD K "_law_wishes" "_law_wishes" (defArgs s__law_wishes) (defBody s__law_wishes) (defScope s__law_wishes) [] [] f__law_wishes d__law_wishes
  g__law_wishes : mg "_law_wishes" = some (.ref f__law_wishes)
  F__law_inside : FunD K "_law_inside" "_law_inside" (defArgs s__law_inside) (defBody s__law_inside) (defScope s__law_inside) [] [] f__law_inside d__law_inside
  g__law_inside : mg "_law_inside" = some (.ref f__law_inside)
  F__law_can : FunD K "_law_can" "_law_can" (defArgs s__law_can) (defBody s__law_can) (defScope s__law_can) [] [] f__law_can d__law_can
  g__law_can : mg "_law_can" = some (.ref f__law_can)
  F__law_chosen : FunD K "_law_chosen" "_law_chosen" (defArgs s__law_chosen) (defBody s__law_chosen) (defScope s__law_chosen) [] [] f__law_chosen d__law_chosen
  g__law_chosen : mg "_law_chosen" = some (.ref f__law_chosen)
  F__law_why : FunD K "_law_why" "_law_why" (defArgs s__law_why) (defBody s__law_why) (defScope s__law_why) [] [] f__law_why d__law_why
  g__law_why : mg "_law_why" = some (.ref f__law_why)
  F__law_weights : FunD K "_law_weights" "_law_weights" (defArgs s__law_weights) (defBody s__law_weights) (defScope s__law_weights) [] [] f__law_weights d__law_weights
  g__law_weights : mg "_law_weights" = some (.ref f__law_weights)
  F__law_other_sets : FunD K "_law_other_sets" "_law_other_sets" (defArgs s__law_other_sets) (defBody s__law_other_sets) (defScope s__law_other_sets) [] [] f__law_other_sets d__law_other_sets
  g__law_other_sets : mg "_law_other_sets" = some (.ref f__law_other_sets)
  F__law_is_int : FunD K "_law_is_int" "_law_is_int" (defArgs s__law_is_int) (defBody s__law_is_int) (defScope s__law_is_int) [] [] f__law_is_int d__law_is_int
  g__law_is_int : mg "_law_is_int" = some (.ref f__law_is_int)
  F__law_refused : FunD K "_law_refused" "_law_refused" (defArgs s__law_refused) (defBody s__law_refused) (defScope s__law_refused) [] [] f__law_refused d__law_refused
  g__law_refused : mg "_law_refused" = some (.ref f__law_refused)
  F__law_refused_right : FunD K "_law_refused_right" "_law_refused_right" (defArgs s__law_refused_right) (defBody s__law_refused_right) (defScope s__law_refused_right) [] [] f__law_refused_right d__law_refused_right
  g__law_refused_right : mg "_law_refused_right" = some (.ref f__law_refused_right)
  F__law_reasons_told : FunD K "_law_reasons_told" "_law_reasons_told" (defArgs s__law_reasons_told) (defBody s__law_reasons_told) (defScope s__law_reasons_told) [] [] f__law_reasons_told d__law_reasons_told
  g__law_reasons_told : mg "_law_reasons_told" = some (.ref f__law_reasons_told)
  F_law : FunD K "law" "law" (defArgs s_law) (defBody s_law) (defScope s_law) [] [] f_law d_law
  g_law : mg "law" = some (.ref f_law)
  gb_bool : mg "bool" = none
  gb_enumerate : mg "enumerate" = none
  gb_int : mg "int" = none
  gb_isinstance : mg "isinstance" = none
  gb_len : mg "len" = none
  gb_list : mg "list" = none
  gb_range : mg "range" = none
  gb_sorted : mg "sorted" = none
  gb_sum : mg "sum" = none
  gb_tuple : mg "tuple" = none
  gi_LAST_MINUTE : ∃ t, mg "LAST_MINUTE" = some (.int (60) t)
  gi_MOST_WISHES : ∃ t, mg "MOST_WISHES" = some (.int (20) t)
  f_err : Addr
  d_err : FuncData
  F_err : ErrF K s_err f_err d_err
  xs : ∀ c, knE c = true → ErrC K mg f_err c
  ki : ∀ c b, knE c = true → knE b = true → PySem.W.kitOne K (.ref (He.ga K c.name)) (.ref (He.ga K b.name)) = some (isaE c b)
  ex : ∀ c b, knE c = true → knE b = true → PySem.W.exmOne K (.ref (He.ga K c.name)) (.ref (He.ga K b.name)) = some (isaE c b)
section
variable {P : Program} {w : World} {K : PySem.W.Frag} {mg : Str → Option Value} {base : Heap}
theorem sc_err : FnScope ["self", "at"] ["self", "at"] (defScope s_err) := ⟨rfl, rfl, rfl, by decide +kernel, rfl, by decide +kernel, by decide +kernel⟩
theorem bind_err {K : PySem.W.Frag} {mg : Str → Option Value} {T : Tx K mg} : Binds K T.d_err ["self", "at"] [] := by
  obtain ⟨ds, h1, h2⟩ := FunD.binds1 T.F_err (ps := ["self", "at"]) 2 1 (by decide) rfl fun _ _ _ _ _ _ _ us its hu hi => match us, its, hu, hi with | [_, _], [_], _, _ => ⟨_, rfl, rfl⟩
  cases h1
  exact h2
theorem ok_err (T : Tx K mg) : FnOk P w K mg base (L2.CX P w) 1 T.f_err T.d_err ["self", "at"] (spInit K) := by
  refine T.F_err.ok sc_err (fun vs H Q E h => ?_) (fun cdv A outer s H vs Q E hr h => ?_)
  · obtain ⟨a, C, i, rfl, _⟩ := h
    rfl
  · obtain ⟨a, C, i, rfl, ho, hn, ha, hq⟩ := h
    exact ⟨_, pss_cons (ps_ost (pv 0) (pv 1)) pss_nil, _, rfl, _, rfl, a, C, rfl, ho, hn, .inl ⟨ha, fun dx h1 h2 => hq dx h1 h2⟩⟩
def m_check_wishes (a_wishes : (List (Int × Int))) : Res Unit :=
  (ifR (bin rGt (un rLen (Res.ok a_wishes)) (Res.ok (20 : Int))) ((Res.ok (20 : Int)).bind fun i => Res.exc .TooMany i) (((un enumR (Res.ok a_wishes)).bind fun xs => loopN (fun (x_16 : (Int × (Int × Int))) (z_9 : Unit) => (ifR (orR (bin rLt (un (fun p => Res.ok p.1) (Res.ok x_16.2)) (Res.ok (0 : Int))) (orR (bin rGe (un (fun p => Res.ok p.1) (Res.ok x_16.2)) (un (fun p => Res.ok p.2) (Res.ok x_16.2))) (bin rGt (un (fun p => Res.ok p.2) (Res.ok x_16.2)) (Res.ok (60 : Int))))) ((Res.ok x_16.1).bind fun i => Res.exc .BadPair i) (Res.ok ()))) xs ()).bind fun (z_43 : Unit) => (Res.ok ())))
abbrev N_check_wishes : List Str := ["wishes", "k", "wish"]
theorem sc_check_wishes : FnScope N_check_wishes ["wishes"] (defScope s_check_wishes) := ⟨rfl, rfl, rfl, by decide +kernel, rfl, by decide +kernel, by decide +kernel⟩
theorem bind_check_wishes {K : PySem.W.Frag} {mg : Str → Option Value} {T : Tx K mg} : Binds K T.d_check_wishes ["wishes"] [] := FunD.bindsN T.F_check_wishes fun _ _ _ _ _ _ us hl => match us, hl with | [_], _ => rfl
abbrev sp_check_wishes (K : PySem.W.Frag) : Sp := spP K (t1 (pL (pT (tc pI (t1 pI))))) m_check_wishes pN
theorem ok_check_wishes (T : Tx K mg) : FnOk P w K mg base (L2.CX P w) 3 T.f_check_wishes T.d_check_wishes ["wishes"] (sp_check_wishes K) := by
  refine T.F_check_wishes.ok sc_check_wishes (fun vs H Q E h => ?_) (fun cdv A outer s H vs Q E hr h => ?_)
  · obtain ⟨I, C, a, _, hr, _⟩ := h
    exact Rt.len _ hr
  · obtain ⟨I0, C0, a_wishes, hs, ⟨v_wishes, rfl, r_wishes⟩, hm⟩ := h
    have hm : Post (m_check_wishes a_wishes) (PQ pN I0 C0 Q) (PX E K I0 C0) := hm
    replace r_wishes : Rp.r (pL (pT (tc pI (t1 pI)))) a_wishes v_wishes I0 Z := Im.im r_wishes
    unfold m_check_wishes at hm
    refine ⟨_, (pss_cons (ps_if (pt_cmpR op_gt (pe_callB (r := rLen1 K) call_len_seq (by rfl) T.gb_len bt_len (pa_cons (pv 0) pa_nil)) (pe_glob (v := .int (20)) rfl T.gi_MOST_WISHES.choose_spec ⟨_, rfl⟩) (nomark _)) (pss_cons (ps_raise rfl (takes_of rfl rfl rfl rfl) (pmk_oex (T.xs .TooMany (by decide)).o (T.xs .TooMany (by decide)).ic (T.xs .TooMany (by decide)).ti (ok_err T) (hr.mono (by decide)) bind_err .nil passL rfl (T.xs .TooMany (by decide)).g (pa_cons (pe_glob (v := .int (20)) rfl T.gi_MOST_WISHES.choose_spec ⟨_, rfl⟩) pa_nil))) pss_nil) pss_nil) (pss_cons (ps_for (passes_of rfl) rfl (show PI _ _ _ (iEnum K _) from pi_enum (by rfl) T.gb_enumerate (pa_cons (pv 0) pa_nil)) (show PG _ _ (gTup K 2 _) from pg_tup rfl (pgs_cons (pg_name (i := 1) sc_check_wishes.nd rfl (Or.inl rfl)) (pgs_cons (pg_name (i := 2) sc_check_wishes.nd rfl (Or.inl rfl)) pgs_nil))) (pss_cons (ps_if (PW.pt (pw_or (pt_cmpR op_lt (pe_ix (r := rIxT K) ix_tup (pv 2) pe_int (fun _ _ => rfl)) pe_int (nomark _)) (pw_or (pt_cmpR op_ge (pe_ix (r := rIxT K) ix_tup (pv 2) pe_int (fun _ _ => rfl)) (pe_ix (r := rIxT K) ix_tup (pv 2) pe_int (fun _ _ => rfl)) (nomark _)) (pw_or1 (pt_cmpR op_gt (pe_ix (r := rIxT K) ix_tup (pv 2) pe_int (fun _ _ => rfl)) (pe_glob (v := .int (60)) rfl T.gi_LAST_MINUTE.choose_spec ⟨_, rfl⟩) (nomark _)))))) (pss_cons (ps_raise rfl (takes_of rfl rfl rfl rfl) (pmk_oex (T.xs .BadPair (by decide)).o (T.xs .BadPair (by decide)).ic (T.xs .BadPair (by decide)).ti (ok_err T) (hr.mono (by decide)) bind_err .nil passL rfl (T.xs .BadPair (by decide)).g (pa_cons (pv 1) pa_nil))) pss_nil) pss_nil) pss_nil)) pss_nil)), ?_⟩
    refine s_if (E := E) (K := K) (σ := [some v_wishes, none, none]) (t_test (x_op o_gt (x_cb o_len (a_one (x_v (x_var (i := 0) rfl (Rp.mono _ (Ex.refl _) exz r_wishes))))) (x_int (i := 20)))) hs (fun _ _ h => PX.mono (Ex.refl _) (Ex.refl _) h) hm (fun I_1 H_2 e_3 s_4 hm => ?_) (fun I_5 H_6 e_7 s_8 hm => ?_)
    · exact s_raise (E := E) (K := K) (σ := [some v_wishes, none, none]) (T.xs .TooMany (by decide)) (a_one (x_int (i := 20))) s_4 (fun _ _ h => PX.mono e_3 (Ex.refl _) h) hm
    · refine s_forN (E := E) (K := K) (σ := [some v_wishes, none, none]) (fun (z_9 : Unit) σ2 I_13 C_14 => ∃ w_11 : Option V, ∃ w_12 : Option V, σ2 = [some v_wishes, w_11, w_12] ∧ Ex C0 C_14) (i_enum (a_one (x_var (i := 0) rfl (Rp.mono _ e_7 exz r_wishes)))) s_8 (fun _ _ h => PX.mono e_7 (Ex.refl _) h) hm (fun _ e_24 => ⟨none, none, rfl, (Ex.refl _)⟩) (fun _ _ _ _ _ => trivial) (fun _ _ _ _ _ e ⟨w_11, w_12, hs_10, fr_15⟩ => ⟨w_11, w_12, hs_10, fr_15⟩) (fun N x_16 v_17 z_9 σ2 I_18 C_19 H_20 e_21 s_22 ⟨w_11, w_12, hs_10, fr_15⟩ r_23 hm => ?_) (fun z_43 σ2 I_38 C_39 H_40 e_41 s_42 ⟨w_45, w_46, hs_44, fr_49⟩ hm => ?_)
      · subst hs_10
        refine g2 (K := K) x_16 v_17 I_18 C_19 H_20 _ s_22 r_23 fun σ2 ⟨v_25, v_26, hs_29, r_27, r_28⟩ => ?_
        subst hs_29
        refine s_if (E := E) (K := K) (σ := [some v_wishes, some v_25, some v_26]) (t_or (t_test (x_op o_lt (x_k (k := ((0 : Nat) : Int)) (o_pj pj0) (x_var (i := 2) rfl (Rp.mono _ (Ex.refl _) exz r_28))) (x_int (i := 0)))) (t_or (t_test (x_op o_ge (x_k (k := ((0 : Nat) : Int)) (o_pj pj0) (x_var (i := 2) rfl (Rp.mono _ (Ex.refl _) exz r_28))) (x_k (k := ((1 : Nat) : Int)) (o_pj (pjs pj1)) (x_var (i := 2) rfl (Rp.mono _ (Ex.refl _) exz r_28))))) (t_test (x_op o_gt (x_k (k := ((1 : Nat) : Int)) (o_pj (pjs pj1)) (x_var (i := 2) rfl (Rp.mono _ (Ex.refl _) exz r_28))) (x_int (i := 60)))))) s_22 (fun _ _ h => PX.mono (e_7.trans e_21) fr_15 h) hm (fun I_30 H_31 e_32 s_33 hm => ?_) (fun I_34 H_35 e_36 s_37 hm => ?_)
        · exact s_raise (E := E) (K := K) (σ := [some v_wishes, some v_25, some v_26]) (T.xs .BadPair (by decide)) (a_one (x_var (i := 1) rfl (Rp.mono _ e_32 exz r_27))) s_33 (fun _ _ h => PX.mono (e_7.trans (e_21.trans e_32)) fr_15 h) hm
        · exact hm _ _ _ _ e_36 s_37 ⟨some v_25, some v_26, rfl, fr_15⟩
      subst hs_44
      exact hm .non _ _ (e_7.trans e_41) (St.less s_42 fr_49) rfl
def m_inside (a_wishes : (List (Int × Int))) (a_start : Int) (a_end : Int) : Res Int :=
  ((un rLen ((Res.ok a_wishes).bind (filR (fun (x_1 : (Int × Int)) => (andR (bin rLe (Res.ok a_start) (un (fun p => Res.ok p.1) (Res.ok x_1))) (bin rLe (un (fun p => Res.ok p.2) (Res.ok x_1)) (Res.ok a_end)))) (fun (x_1 : (Int × Int)) => (Res.ok x_1))))).bind fun a_8 => Res.ok a_8)
abbrev N_inside : List Str := ["wishes", "start", "end", "wish"]
theorem sc_inside : FnScope N_inside ["wishes", "start", "end"] (defScope s_inside) := ⟨rfl, rfl, rfl, by decide +kernel, rfl, by decide +kernel, by decide +kernel⟩
theorem bind_inside {K : PySem.W.Frag} {mg : Str → Option Value} {T : Tx K mg} : Binds K T.d_inside ["wishes", "start", "end"] [] := FunD.bindsN T.F_inside fun _ _ _ _ _ _ us hl => match us, hl with | [_, _, _], _ => rfl
abbrev sp_inside (K : PySem.W.Frag) : Sp := spP K (tc (pL (pT (tc pI (t1 pI)))) (tc pI (t1 pI))) (fun (p : ((List (Int × Int)) × Int × Int)) => m_inside p.1 p.2.1 p.2.2) pI
theorem ok_inside (T : Tx K mg) : FnOk P w K mg base (L2.CX P w) 1 T.f_inside T.d_inside ["wishes", "start", "end"] (sp_inside K) := by
  refine T.F_inside.ok sc_inside (fun vs H Q E h => ?_) (fun cdv A outer s H vs Q E hr h => ?_)
  · obtain ⟨I, C, a, _, hr, _⟩ := h
    exact Rt.len _ hr
  · obtain ⟨I0, C0, ⟨a_wishes, a_start, a_end⟩, hs, ⟨v_wishes, us0, rfl, r_wishes, v_start, us1, rfl, r_start, v_end, rfl, r_end⟩, hm⟩ := h
    have hm : Post (m_inside a_wishes a_start a_end) (PQ pI I0 C0 Q) (PX E K I0 C0) := hm
    replace r_wishes : Rp.r (pL (pT (tc pI (t1 pI)))) a_wishes v_wishes I0 Z := Im.im r_wishes
    replace r_start : Rp.r pI a_start v_start I0 Z := Im.im r_start
    replace r_end : Rp.r pI a_end v_end I0 Z := Im.im r_end
    unfold m_inside at hm
    refine ⟨_, (pss_cons (ps_ret (pe_callB (r := rLen1 K) call_len_seq (by rfl) T.gb_len bt_len (pa_cons (pe_lc (own := [("wish", 3)]) rfl sc_inside.nd (show PI _ _ _ (iList K _) from pi_list (pv 0)) (blkOk_by (own := [("wish", 3)]) (N := N_inside) (sc := defScope s_inside) (by decide +kernel)) (fun _ _ _ _ _ => (pg_name (i := 3) sc_inside.nd rfl (Or.inl rfl))) (fun _ _ _ _ _ => (pts_one (PW.pt (pw_and (pt_cmpR op_le (pv 1) (pe_ix (r := rIxT K) ix_tup (pv 3) pe_int (fun _ _ => rfl)) (nomark _)) (pw_and1 (pt_cmpR op_le (pe_ix (r := rIxT K) ix_tup (pv 3) pe_int (fun _ _ => rfl)) (pv 2) (nomark _))))))) (fun _ _ _ _ _ => (pv 3))) pa_nil))) pss_nil), ?_⟩
    refine q_ret (E := E) (K := K) (σ := [some v_wishes, some v_start, some v_end, none]) (x_cb o_len (a_one (x_v (x_lcg (i_list (x_var (i := 0) rfl (Rp.mono _ (Ex.refl _) exz r_wishes))) g1 (fun _ _ _ _ ⟨_, h, _⟩ => by rw [h]; rfl) (fun x_1 σ2 I_2 C_3 e_4 c_5 ⟨v_6, h, r_7⟩ => by subst h; exact (t_and (t_test (x_op o_le (x_var (i := 1) rfl (Rp.mono _ e_4 exz r_start)) (x_k (k := ((0 : Nat) : Int)) (o_pj pj0) (x_var (i := 3) rfl (Rp.mono _ (Ex.refl _) exz r_7))))) (t_test (x_op o_le (x_k (k := ((1 : Nat) : Int)) (o_pj (pjs pj1)) (x_var (i := 3) rfl (Rp.mono _ (Ex.refl _) exz r_7))) (x_var (i := 2) rfl (Rp.mono _ e_4 exz r_end)))))) (fun x_1 σ2 I_2 C_3 e_4 c_5 ⟨v_6, h, r_7⟩ => by subst h; exact (x_var (i := 3) rfl (Rp.mono _ (Ex.refl _) exz r_7))) (fun _ _ _ _ _ e ⟨v_6, h, r_7⟩ => ⟨v_6, h, Rp.mono _ e exz r_7⟩))))) hs (fun _ _ h => PX.mono (Ex.refl _) (Ex.refl _) h) hm fun a_8 v_9 I_10 H_11 e_12 s_13 r_14 hm => ?_
    exact hm v_9 I_10 H_11 e_12 (St.less s_13 (Ex.refl _)) (Im.im r_14)
def m_earliest_plan (a_wishes : (List (Int × Int))) (a_desks : Int) : Res (List Int) :=
  (((Res.ok a_wishes).bind (mapR (fun (x_1 : (Int × Int)) => (un rNeg (Res.ok (1 : Int)))))).bind fun (plan_8 : (List Int)) => (((un rng1 (Res.ok (60 : Int))).bind fun xs => loopN (fun (x_37 : Int) (z_23 : (List Int)) => ((Res.ok ([] : List (Int × Int))).bind fun (waiting_49 : (List (Int × Int))) => (((un enumR (Res.ok a_wishes)).bind fun xs => loopN (fun (x_78 : (Int × (Int × Int))) (z_66 : (List (Int × Int))) => (ifR (andR (bin rLt (bin ix (Res.ok z_23) (Res.ok x_78.1)) (Res.ok (0 : Int))) (andR (bin rLe (un (fun p => Res.ok p.1) (Res.ok x_78.2)) (Res.ok x_37)) (bin rLt (Res.ok x_37) (un (fun p => Res.ok p.2) (Res.ok x_78.2))))) (((pair (un (fun p => Res.ok p.2) (Res.ok x_78.2)) (Res.ok x_78.1)).bind fun x => push z_66 x).bind fun (waiting_100 : (List (Int × Int))) => (Res.ok waiting_100)) (Res.ok z_66))) xs waiting_49).bind fun (z_118 : (List (Int × Int))) => (((slR (un sortP (Res.ok z_118)) (Res.ok none) (someR (Res.ok a_desks))).bind fun xs => loopN (fun (x_150 : (Int × Int)) (z_140 : (List Int)) => (((Res.ok x_37).bind fun x => (un (fun p => Res.ok p.2) (Res.ok x_150)).bind fun j => setR z_140 j x).bind fun (plan_162 : (List Int)) => (Res.ok plan_162))) xs z_23).bind fun (z_179 : (List Int)) => (Res.ok z_179))))) xs plan_8).bind fun (z_194 : (List Int)) => (Res.ok z_194)))
abbrev N_earliest_plan : List Str := ["wishes", "desks", "plan", "minute", "waiting", "k", "wish", "pair", "_"]
theorem sc_earliest_plan : FnScope N_earliest_plan ["wishes", "desks"] (defScope s_earliest_plan) := ⟨rfl, rfl, rfl, by decide +kernel, rfl, by decide +kernel, by decide +kernel⟩
theorem bind_earliest_plan {K : PySem.W.Frag} {mg : Str → Option Value} {T : Tx K mg} : Binds K T.d_earliest_plan ["wishes", "desks"] [] := FunD.bindsN T.F_earliest_plan fun _ _ _ _ _ _ us hl => match us, hl with | [_, _], _ => rfl
abbrev sp_earliest_plan (K : PySem.W.Frag) : Sp := spO K (tc (pL (pT (tc pI (t1 pI)))) (t1 pI)) (fun (p : ((List (Int × Int)) × Int)) => m_earliest_plan p.1 p.2) pI
theorem ok_earliest_plan (T : Tx K mg) : FnOk P w K mg base (L2.CX P w) 1 T.f_earliest_plan T.d_earliest_plan ["wishes", "desks"] (sp_earliest_plan K) := by
  refine T.F_earliest_plan.ok sc_earliest_plan (fun vs H Q E h => ?_) (fun cdv A outer s H vs Q E hr h => ?_)
  · obtain ⟨I, C, a, _, hr, _⟩ := h
    exact Rt.len _ hr
  · obtain ⟨I0, C0, ⟨a_wishes, a_desks⟩, hs, ⟨v_wishes, us0, rfl, r_wishes, v_desks, rfl, r_desks⟩, hm⟩ := h
    have hm : Post (m_earliest_plan a_wishes a_desks) (PN pI I0 C0 Q) (PX E K I0 C0) := hm
    replace r_wishes : Rp.r (pL (pT (tc pI (t1 pI)))) a_wishes v_wishes I0 Z := Im.im r_wishes
    replace r_desks : Rp.r pI a_desks v_desks I0 Z := Im.im r_desks
    unfold m_earliest_plan at hm
    refine ⟨_, (pss_cons (ps_setLc (i := 2) (own := [("_", 8)]) rfl sc_earliest_plan.nd rfl rfl (sw_true rfl rfl rfl (by decide +kernel)) (show PI _ _ _ (iList K _) from pi_list (pv 0)) (blkOk_by (own := [("_", 8)]) (N := N_earliest_plan) (sc := defScope s_earliest_plan) (by decide +kernel)) (fun _ _ _ _ _ => (pg_name (i := 8) sc_earliest_plan.nd rfl (Or.inl rfl))) (fun _ _ _ _ _ => pts_nil) (fun _ _ _ _ _ => (pe_un un_neg pe_int))) (pss_cons (ps_for (passes_of rfl) rfl (pi_range1 (by rfl) T.gb_range (pa_cons (pe_glob (v := .int (60)) rfl T.gi_LAST_MINUTE.choose_spec ⟨_, rfl⟩) pa_nil)) (pg_name (i := 3) sc_earliest_plan.nd rfl (Or.inl rfl)) (pss_cons (ps_set (i := 4) sc_earliest_plan.nd rfl (Or.inl rfl) (pe_lst pa_nil)) (pss_cons (ps_for (passes_of rfl) rfl (show PI _ _ _ (iEnum K _) from pi_enum (by rfl) T.gb_enumerate (pa_cons (pv 0) pa_nil)) (show PG _ _ (gTup K 2 _) from pg_tup rfl (pgs_cons (pg_name (i := 5) sc_earliest_plan.nd rfl (Or.inl rfl)) (pgs_cons (pg_name (i := 6) sc_earliest_plan.nd rfl (Or.inl rfl)) pgs_nil))) (pss_cons (ps_if (PW.pt (pw_and (pt_cmpR op_lt (pe_ix (r := rIxL K) ix_list (pv 2) (pv 5) (fun _ _ => rfl)) pe_int (nomark _)) (pw_and (pt_cmpR op_le (pe_ix (r := rIxT K) ix_tup (pv 6) pe_int (fun _ _ => rfl)) (pv 3) (nomark _)) (pw_and1 (pt_cmpR op_lt (pv 3) (pe_ix (r := rIxT K) ix_tup (pv 6) pe_int (fun _ _ => rfl)) (nomark _)))))) (pss_cons (ps_expr (show PE _ _ (tBM K "list" rAppend _ _) from pe_bm PySem.F.plainAttrs_list PySem.F.slot_list_append PySem.F.type_list_append mt_append (pv 4) (pa_cons (pe_tup (pa_cons (pe_ix (r := rIxT K) ix_tup (pv 6) pe_int (fun _ _ => rfl)) (pa_cons (pv 5) pa_nil))) pa_nil))) pss_nil) pss_nil) pss_nil)) (pss_cons (ps_for (passes_of rfl) rfl (show PI _ _ _ (iList K _) from pi_list (pe_slice (r := rSlL K) sl_list (pe_callB (r := rSortedPO K) cr_sortedPO (by rfl) T.gb_sorted bt_sorted (pa_cons (pv 4) pa_nil)) po_none (po_some (pv 1)))) (pg_name (i := 7) sc_earliest_plan.nd rfl (Or.inl rfl)) (pss_cons (ps_asg (pv 3) (pg_sub (pv 2) (pe_ix (r := rIxT K) ix_tup (pv 7) pe_int (fun _ _ => rfl)) set_list)) pss_nil)) pss_nil)))) (pss_cons (ps_ret (pv 2)) pss_nil))), ?_⟩
    refine q_asgN (E := E) (K := K) (σ := [some v_wishes, some v_desks, none, none, none, none, none, none, none]) (i := 2) (n_lc (i_list (x_var (i := 0) rfl (Rp.mono _ (Ex.refl _) exz r_wishes))) g1 (fun _ _ _ _ ⟨_, h, _⟩ => by rw [h]; rfl) (fun x_1 σ2 I_2 C_3 e_4 c_5 ⟨v_6, h, r_7⟩ => by subst h; exact (x_un o_neg (x_int (i := 1)))) (fun _ _ _ _ _ e ⟨v_6, h, r_7⟩ => ⟨v_6, h, Rp.mono _ e exz r_7⟩)) hs (fun _ _ h => PX.mono (Ex.refl _) (Ex.refl _) h) hm fun plan_8 p_9 vs_10 I_11 C_12 H_13 e_14 hp_15 s_16 hc_17 k_18 hl_19 hr_20 hm => ?_
    have hB_21 := Ex.free (Ex.refl _) hp_15
    have fr_22 := fr_keep (Ex.refl _) hB_21 k_18
    refine s_forN (E := E) (K := K) (σ := [some v_wishes, some v_desks, some (.ref p_9), none, none, none, none, none, none]) (fun (z_23 : (List Int)) σ2 I_30 C_31 => ∃ w_25 : Option V, ∃ w_26 : Option V, ∃ w_27 : Option V, ∃ w_28 : Option V, ∃ w_29 : Option V, σ2 = [some v_wishes, some v_desks, some (.ref p_9), w_25, w_26, w_27, w_28, w_29, none] ∧ (∃ vs_32 : List V, C_31 p_9 = some (.lst vs_32) ∧ vs_32.length ≤ sizeLine ∧ A2 (fun x u => Rp.r pI x u I_30 Z) z_23 vs_32) ∧ Ex C0 C_31) (i_rng1 (a_one (x_int (i := 60)))) s_16 (fun _ _ h => PX.mono e_14 fr_22 h) hm (fun _ e_45 => ⟨none, none, none, none, none, rfl, ⟨_, hc_17, hl_19, a2up (Ex.trans (Ex.refl _) e_45) hr_20⟩, fr_22⟩) (fun _ _ _ _ _ => trivial) (fun _ _ _ _ _ e ⟨w_25, w_26, w_27, w_28, w_29, hs_24, ⟨vs_32, hc_33, hl_34, hr_35⟩, fr_36⟩ => ⟨w_25, w_26, w_27, w_28, w_29, hs_24, ⟨vs_32, hc_33, hl_34, a2up e hr_35⟩, fr_36⟩) (fun N x_37 v_38 z_23 σ2 I_39 C_40 H_41 e_42 s_43 ⟨w_25, w_26, w_27, w_28, w_29, hs_24, ⟨vs_32, hc_33, hl_34, hr_35⟩, fr_36⟩ r_44 hm => ?_) (fun z_194 σ2 I_189 C_190 H_191 e_192 s_193 ⟨w_196, w_197, w_198, w_199, w_200, hs_195, ⟨vs_203, hc_204, hl_205, hr_206⟩, fr_207⟩ hm => ?_)
    · subst hs_24
      refine g1 (K := K) x_37 v_38 I_39 C_40 H_41 _ s_43 r_44 fun σ2 ⟨v_46, hs_48, r_47⟩ => ?_
      subst hs_48
      refine q_asgN (E := E) (K := K) (σ := [some v_wishes, some v_desks, some (.ref p_9), some v_46, w_26, w_27, w_28, w_29, none]) (i := 4) (n_lst (R := (pT (tc pI (t1 pI)))) al_nil (by decide)) s_43 (fun _ _ h => PX.mono (e_14.trans e_42) fr_36 h) hm fun waiting_49 p_50 vs_51 I_52 C_53 H_54 e_55 hp_56 s_57 hc_58 k_59 hl_60 hr_61 hm => ?_
      have ne_62 := ne_new hc_33 hp_56
      have hB_63 := Ex.free fr_36 hp_56
      have hc_64 := (k_59 _ ne_62).trans hc_33
      have fr_65 := fr_keep fr_36 hB_63 k_59
      refine s_forN (E := E) (K := K) (σ := [some v_wishes, some v_desks, some (.ref p_9), some v_46, some (.ref p_50), w_27, w_28, w_29, none]) (fun (z_66 : (List (Int × Int))) σ2 I_70 C_71 => ∃ w_68 : Option V, ∃ w_69 : Option V, σ2 = [some v_wishes, some v_desks, some (.ref p_9), some v_46, some (.ref p_50), w_68, w_69, w_29, none] ∧ (∃ vs_72 : List V, C_71 p_50 = some (.lst vs_72) ∧ vs_72.length ≤ sizeLine ∧ A2 (fun x u => Rp.r (pT (tc pI (t1 pI))) x u I_70 Z) z_66 vs_72) ∧ C_71 p_9 = some (.lst vs_32) ∧ Ex C0 C_71) (i_enum (a_one (x_var (i := 0) rfl (Rp.mono _ (e_14.trans (e_42.trans e_55)) exz r_wishes)))) s_57 (fun _ _ h => PX.mono (e_14.trans (e_42.trans e_55)) fr_65 h) hm (fun _ e_86 => ⟨w_27, w_28, rfl, ⟨_, hc_58, hl_60, a2up (Ex.trans (Ex.refl _) e_86) hr_61⟩, hc_64, fr_65⟩) (fun _ _ _ _ _ => trivial) (fun _ _ _ _ _ e ⟨w_68, w_69, hs_67, ⟨vs_72, hc_73, hl_74, hr_75⟩, hc_76, fr_77⟩ => ⟨w_68, w_69, hs_67, ⟨vs_72, hc_73, hl_74, a2up e hr_75⟩, hc_76, fr_77⟩) (fun N x_78 v_79 z_66 σ2 I_80 C_81 H_82 e_83 s_84 ⟨w_68, w_69, hs_67, ⟨vs_72, hc_73, hl_74, hr_75⟩, hc_76, fr_77⟩ r_85 hm => ?_) (fun z_118 σ2 I_113 C_114 H_115 e_116 s_117 ⟨w_120, w_121, hs_119, ⟨vs_124, hc_125, hl_126, hr_127⟩, hc_128, fr_129⟩ hm => ?_)
      · subst hs_67
        refine g2 (K := K) x_78 v_79 I_80 C_81 H_82 _ s_84 r_85 fun σ2 ⟨v_87, v_88, hs_91, r_89, r_90⟩ => ?_
        subst hs_91
        refine s_if (E := E) (K := K) (σ := [some v_wishes, some v_desks, some (.ref p_9), some v_46, some (.ref p_50), some v_87, some v_88, w_29, none]) (t_and (t_test (x_op o_lt (x_op o_ix (x_cell (i := 2) rfl hc_76 hl_34 (a2up (e_55.trans e_83) hr_35)) (x_var (i := 5) rfl (Rp.mono _ (Ex.refl _) exz r_89))) (x_int (i := 0)))) (t_and (t_test (x_op o_le (x_k (k := ((0 : Nat) : Int)) (o_pj pj0) (x_var (i := 6) rfl (Rp.mono _ (Ex.refl _) exz r_90))) (x_var (i := 3) rfl (Rp.mono _ (e_55.trans e_83) exz r_47)))) (t_test (x_op o_lt (x_var (i := 3) rfl (Rp.mono _ (e_55.trans e_83) exz r_47)) (x_k (k := ((1 : Nat) : Int)) (o_pj (pjs pj1)) (x_var (i := 6) rfl (Rp.mono _ (Ex.refl _) exz r_90))))))) s_84 (fun _ _ h => PX.mono (e_14.trans (e_42.trans (e_55.trans e_83))) fr_77 h) hm (fun I_92 H_93 e_94 s_95 hm => ?_) (fun I_96 H_97 e_98 s_99 hm => ?_)
        · refine q_app (E := E) (K := K) (σ := [some v_wishes, some v_desks, some (.ref p_9), some v_46, some (.ref p_50), some v_87, some v_88, w_29, none]) (i := 4) rfl hc_73 (a2up e_94 hr_75) (x_tup (a_cons (x_k (k := ((1 : Nat) : Int)) (o_pj (pjs pj1)) (x_var (i := 6) rfl (Rp.mono _ e_94 exz r_90))) (a_one (x_var (i := 5) rfl (Rp.mono _ e_94 exz r_89)))) (Nat.le_of_ble_eq_true rfl)) s_95 (fun _ _ h => PX.mono (e_14.trans (e_42.trans (e_55.trans (e_83.trans e_94)))) fr_77 h) hm fun waiting_100 vs_101 I_102 C_103 H_104 e_105 s_106 hc_107 k_108 hl_109 hr_110 hm => ?_
          have hc_111 := (k_108 _ ne_62).trans hc_76
          have fr_112 := fr_keep fr_77 hB_63 k_108
          exact hm _ _ _ _ (e_94.trans e_105) s_106 ⟨some v_87, some v_88, rfl, ⟨_, hc_107, hl_109, a2up (Ex.refl _) hr_110⟩, hc_111, fr_112⟩
        · exact hm _ _ _ _ e_98 s_99 ⟨some v_87, some v_88, rfl, ⟨_, hc_73, hl_74, a2up e_98 hr_75⟩, hc_76, fr_77⟩
      subst hs_119
      obtain ⟨I_130, C_131, e_132, s_133, h_134, k_135⟩ := freeze s_117 hc_125
      have r_137 := frz_list e_132 h_134 hl_126 hr_127
      have hc_138 := (k_135 _ ne_62).trans hc_128
      have fr_139 := fr_keep fr_129 hB_63 k_135
      refine s_forN (E := E) (K := K) (σ := [some v_wishes, some v_desks, some (.ref p_9), some v_46, some (.ref p_50), w_120, w_121, w_29, none]) (fun (z_140 : (List Int)) σ2 I_143 C_144 => ∃ w_142 : Option V, σ2 = [some v_wishes, some v_desks, some (.ref p_9), some v_46, some (.ref p_50), w_120, w_121, w_142, none] ∧ (∃ vs_145 : List V, C_144 p_9 = some (.lst vs_145) ∧ vs_145.length ≤ sizeLine ∧ A2 (fun x u => Rp.r pI x u I_143 Z) z_140 vs_145) ∧ Ex C0 C_144) (i_list (x_sl (x_v (x_own (n_cb n_sortP (a_one (x_v (x_var (i := 4) rfl (Rp.mono _ (Ex.refl _) exz r_137))))))) p_none (p_some (x_var (i := 1) rfl (Rp.mono _ (e_14.trans (e_42.trans (e_55.trans (e_116.trans e_132)))) exz r_desks))))) s_133 (fun _ _ h => PX.mono (e_14.trans (e_42.trans (e_55.trans (e_116.trans e_132)))) fr_139 h) hm (fun _ e_158 => ⟨w_29, rfl, ⟨_, hc_138, hl_34, a2up (Ex.trans (e_55.trans (e_116.trans e_132)) e_158) hr_35⟩, fr_139⟩) (fun _ _ _ _ _ => trivial) (fun _ _ _ _ _ e ⟨w_142, hs_141, ⟨vs_145, hc_146, hl_147, hr_148⟩, fr_149⟩ => ⟨w_142, hs_141, ⟨vs_145, hc_146, hl_147, a2up e hr_148⟩, fr_149⟩) (fun N x_150 v_151 z_140 σ2 I_152 C_153 H_154 e_155 s_156 ⟨w_142, hs_141, ⟨vs_145, hc_146, hl_147, hr_148⟩, fr_149⟩ r_157 hm => ?_) (fun z_179 σ2 I_174 C_175 H_176 e_177 s_178 ⟨w_181, hs_180, ⟨vs_184, hc_185, hl_186, hr_187⟩, fr_188⟩ hm => ?_)
      · subst hs_141
        refine g1 (K := K) x_150 v_151 I_152 C_153 H_154 _ s_156 r_157 fun σ2 ⟨v_159, hs_161, r_160⟩ => ?_
        subst hs_161
        refine q_setL (E := E) (K := K) (σ := [some v_wishes, some v_desks, some (.ref p_9), some v_46, some (.ref p_50), w_120, w_121, some v_159, none]) (i := 2) rfl hc_146 hl_147 (a2up (Ex.refl _) hr_148) (x_var (i := 3) rfl (Rp.mono _ (e_55.trans (e_116.trans (e_132.trans e_155))) exz r_47)) (x_k (k := ((1 : Nat) : Int)) (o_pj (pjs pj1)) (x_var (i := 7) rfl (Rp.mono _ (Ex.refl _) exz r_160))) s_156 (fun _ _ h => PX.mono (e_14.trans (e_42.trans (e_55.trans (e_116.trans (e_132.trans e_155))))) fr_149 h) hm fun plan_162 vs_163 I_164 C_165 H_166 e_167 s_168 hc_169 k_170 hl_171 hr_172 hm => ?_
        have fr_173 := fr_keep fr_149 hB_21 k_170
        exact hm _ _ _ _ e_167 s_168 ⟨some v_159, rfl, ⟨_, hc_169, hl_171, a2up (Ex.refl _) hr_172⟩, fr_173⟩
      subst hs_180
      exact hm _ _ _ _ (e_55.trans (e_116.trans (e_132.trans e_177))) s_178 ⟨some v_46, some (.ref p_50), w_120, w_121, w_181, rfl, ⟨_, hc_185, hl_186, a2up (Ex.refl _) hr_187⟩, fr_188⟩
    subst hs_195
    refine q_retO (i := 2) rfl s_193 fr_207 hB_21 hc_204 hl_205 (a2up (Ex.refl _) hr_206) fun s hr => ?_
    exact hm _ _ _ _ (e_14.trans e_192) hB_21 s hl_205 hr
def m_can_call (a_wishes : (List (Int × Int))) (a_desks : Int) : Res Bool :=
  ((bin ninR (un rNeg (Res.ok (1 : Int))) (un (fun (p : ((List (Int × Int)) × Int)) => m_earliest_plan p.1 p.2) (pair (Res.ok a_wishes) (Res.ok a_desks)))).bind fun a_1 => Res.ok a_1)
abbrev N_can_call : List Str := ["wishes", "desks"]
theorem sc_can_call : FnScope N_can_call ["wishes", "desks"] (defScope s_can_call) := ⟨rfl, rfl, rfl, by decide +kernel, rfl, by decide +kernel, by decide +kernel⟩
theorem bind_can_call {K : PySem.W.Frag} {mg : Str → Option Value} {T : Tx K mg} : Binds K T.d_can_call ["wishes", "desks"] [] := FunD.bindsN T.F_can_call fun _ _ _ _ _ _ us hl => match us, hl with | [_, _], _ => rfl
abbrev sp_can_call (K : PySem.W.Frag) : Sp := spP K (tc (pL (pT (tc pI (t1 pI)))) (t1 pI)) (fun (p : ((List (Int × Int)) × Int)) => m_can_call p.1 p.2) pB
theorem ok_can_call (T : Tx K mg) : FnOk P w K mg base (L2.CX P w) 2 T.f_can_call T.d_can_call ["wishes", "desks"] (sp_can_call K) := by
  refine T.F_can_call.ok sc_can_call (fun vs H Q E h => ?_) (fun cdv A outer s H vs Q E hr h => ?_)
  · obtain ⟨I, C, a, _, hr, _⟩ := h
    exact Rt.len _ hr
  · obtain ⟨I0, C0, ⟨a_wishes, a_desks⟩, hs, ⟨v_wishes, us0, rfl, r_wishes, v_desks, rfl, r_desks⟩, hm⟩ := h
    have hm : Post (m_can_call a_wishes a_desks) (PQ pB I0 C0 Q) (PX E K I0 C0) := hm
    replace r_wishes : Rp.r (pL (pT (tc pI (t1 pI)))) a_wishes v_wishes I0 Z := Im.im r_wishes
    replace r_desks : Rp.r pI a_desks v_desks I0 Z := Im.im r_desks
    unfold m_can_call at hm
    refine ⟨_, (pss_cons (ps_ret (pe_cmpR (r := rIn K true) op_notIn_seq (pe_un un_neg pe_int) (pe_call (ok_earliest_plan T) (hr.mono (by decide)) rfl T.g_earliest_plan T.F_earliest_plan.kp bind_earliest_plan .nil passE (pa_cons (pv 0) (pa_cons (pv 1) pa_nil))) rfl)) pss_nil), ?_⟩
    refine q_ret (E := E) (K := K) (σ := [some v_wishes, some v_desks]) (x_op (o_nin fl_int) (x_un o_neg (x_int (i := 1))) (x_v (x_own (n_call (a_cons (x_var (i := 0) rfl (Rp.mono _ (Ex.refl _) exz r_wishes)) (a_one (x_var (i := 1) rfl (Rp.mono _ (Ex.refl _) exz r_desks)))))))) hs (fun _ _ h => PX.mono (Ex.refl _) (Ex.refl _) h) hm fun a_1 v_2 I_3 H_4 e_5 s_6 r_7 hm => ?_
    exact hm v_2 I_3 H_4 e_5 (St.less s_6 (Ex.refl _)) (Im.im r_7)
def m_check_weights (a_wishes : (List (Int × Int))) (a_weights : (List Int)) : Res Unit :=
  ((un m_check_wishes (Res.ok a_wishes)).bind fun (b_1 : Unit) => (ifR (bin neR (un rLen (Res.ok a_weights)) (un rLen (Res.ok a_wishes))) ((Res.ok (1 : Int)).bind fun i => Res.exc .Unlike i) (Res.ok ())))
abbrev N_check_weights : List Str := ["wishes", "weights"]
theorem sc_check_weights : FnScope N_check_weights ["wishes", "weights"] (defScope s_check_weights) := ⟨rfl, rfl, rfl, by decide +kernel, rfl, by decide +kernel, by decide +kernel⟩
theorem bind_check_weights {K : PySem.W.Frag} {mg : Str → Option Value} {T : Tx K mg} : Binds K T.d_check_weights ["wishes", "weights"] [] := FunD.bindsN T.F_check_weights fun _ _ _ _ _ _ us hl => match us, hl with | [_, _], _ => rfl
abbrev sp_check_weights (K : PySem.W.Frag) : Sp := spP K (tc (pL (pT (tc pI (t1 pI)))) (t1 (pL pI))) (fun (p : ((List (Int × Int)) × (List Int))) => m_check_weights p.1 p.2) pN
theorem ok_check_weights (T : Tx K mg) : FnOk P w K mg base (L2.CX P w) 4 T.f_check_weights T.d_check_weights ["wishes", "weights"] (sp_check_weights K) := by
  refine T.F_check_weights.ok sc_check_weights (fun vs H Q E h => ?_) (fun cdv A outer s H vs Q E hr h => ?_)
  · obtain ⟨I, C, a, _, hr, _⟩ := h
    exact Rt.len _ hr
  · obtain ⟨I0, C0, ⟨a_wishes, a_weights⟩, hs, ⟨v_wishes, us0, rfl, r_wishes, v_weights, rfl, r_weights⟩, hm⟩ := h
    have hm : Post (m_check_weights a_wishes a_weights) (PQ pN I0 C0 Q) (PX E K I0 C0) := hm
    replace r_wishes : Rp.r (pL (pT (tc pI (t1 pI)))) a_wishes v_wishes I0 Z := Im.im r_wishes
    replace r_weights : Rp.r (pL pI) a_weights v_weights I0 Z := Im.im r_weights
    unfold m_check_weights at hm
    refine ⟨_, (pss_cons (ps_expr (pe_call (ok_check_wishes T) (hr.mono (by decide)) rfl T.g_check_wishes T.F_check_wishes.kp bind_check_wishes .nil passE (pa_cons (pv 0) pa_nil))) (pss_cons (ps_if (pt_cmpR op_ne (pe_callB (r := rLen1 K) call_len_seq (by rfl) T.gb_len bt_len (pa_cons (pv 1) pa_nil)) (pe_callB (r := rLen1 K) call_len_seq (by rfl) T.gb_len bt_len (pa_cons (pv 0) pa_nil)) (nomark _)) (pss_cons (ps_raise rfl (takes_of rfl rfl rfl rfl) (pmk_oex (T.xs .Unlike (by decide)).o (T.xs .Unlike (by decide)).ic (T.xs .Unlike (by decide)).ti (ok_err T) (hr.mono (by decide)) bind_err .nil passL rfl (T.xs .Unlike (by decide)).g (pa_cons pe_int pa_nil))) pss_nil) pss_nil) pss_nil)), ?_⟩
    refine s_expr (E := E) (K := K) (σ := [some v_wishes, some v_weights]) (x_call (a_one (x_var (i := 0) rfl (Rp.mono _ (Ex.refl _) exz r_wishes)))) hs (fun _ _ h => PX.mono (Ex.refl _) (Ex.refl _) h) hm fun b_1 I_2 H_3 e_4 s_5 hm => ?_
    refine s_if (E := E) (K := K) (σ := [some v_wishes, some v_weights]) (t_test (x_op o_neI (x_cb o_len (a_one (x_v (x_var (i := 1) rfl (Rp.mono _ e_4 exz r_weights))))) (x_cb o_len (a_one (x_v (x_var (i := 0) rfl (Rp.mono _ e_4 exz r_wishes))))))) s_5 (fun _ _ h => PX.mono e_4 (Ex.refl _) h) hm (fun I_6 H_7 e_8 s_9 hm => ?_) (fun I_10 H_11 e_12 s_13 hm => ?_)
    · exact s_raise (E := E) (K := K) (σ := [some v_wishes, some v_weights]) (T.xs .Unlike (by decide)) (a_one (x_int (i := 1))) s_9 (fun _ _ h => PX.mono (e_4.trans e_8) (Ex.refl _) h) hm
    · exact hm .non _ _ (e_4.trans e_12) (St.less s_13 (Ex.refl _)) rfl
def m_chosen_until (a_wishes : (List (Int × Int))) (a_desks : Int) (a_weights : (List Int)) (a_last : Int) : Res (List Int) :=
  ((Res.ok ([] : List Int)).bind fun (chosen_1 : (List Int)) => (((un sortP ((un enumR (Res.ok a_weights)).bind (mapR (fun (x_16 : (Int × Int)) => (pair (un rNeg (Res.ok x_16.2)) (Res.ok x_16.1)))))).bind fun xs => loopR (fun (x_35 : (Int × Int)) (z_25 : (List Int)) => (ifR (bin eqR (un (fun p => Res.ok p.2) (Res.ok x_35)) (Res.ok a_last)) (Res.ok (Out.br z_25)) (ifR (un (fun (p : ((List (Int × Int)) × Int)) => m_can_call p.1 p.2) (pair ((bin rCatR (Res.ok z_25) (consR (un (fun p => Res.ok p.2) (Res.ok x_35)) (Res.ok []))).bind (mapR (fun (x_55 : Int) => (bin ix (Res.ok a_wishes) (Res.ok x_55))))) (Res.ok a_desks))) (((un (fun p => Res.ok p.2) (Res.ok x_35)).bind fun x => push z_25 x).bind fun (chosen_70 : (List Int)) => (Res.ok (Out.nx chosen_70))) (Res.ok (Out.nx z_25))))) xs chosen_1).bind fun (o : Out (List Int) (List Int)) => match o with | .nx z_87 => ((Res.ok z_87).bind fun a_106 => Res.ok a_106) | .br _ => Res.bad | .rt r => Res.ok r))
abbrev N_chosen_until : List Str := ["wishes", "desks", "weights", "last", "chosen", "pair", "k", "weight"]
theorem sc_chosen_until : FnScope N_chosen_until ["wishes", "desks", "weights", "last"] (defScope s_chosen_until) := ⟨rfl, rfl, rfl, by decide +kernel, rfl, by decide +kernel, by decide +kernel⟩
theorem bind_chosen_until {K : PySem.W.Frag} {mg : Str → Option Value} {T : Tx K mg} : Binds K T.d_chosen_until ["wishes", "desks", "weights", "last"] [] := FunD.bindsN T.F_chosen_until fun _ _ _ _ _ _ us hl => match us, hl with | [_, _, _, _], _ => rfl
abbrev sp_chosen_until (K : PySem.W.Frag) : Sp := spP K (tc (pL (pT (tc pI (t1 pI)))) (tc pI (tc (pL pI) (t1 pI)))) (fun (p : ((List (Int × Int)) × Int × (List Int) × Int)) => m_chosen_until p.1 p.2.1 p.2.2.1 p.2.2.2) (pL pI)
theorem ok_chosen_until (T : Tx K mg) : FnOk P w K mg base (L2.CX P w) 3 T.f_chosen_until T.d_chosen_until ["wishes", "desks", "weights", "last"] (sp_chosen_until K) := by
  refine T.F_chosen_until.ok sc_chosen_until (fun vs H Q E h => ?_) (fun cdv A outer s H vs Q E hr h => ?_)
  · obtain ⟨I, C, a, _, hr, _⟩ := h
    exact Rt.len _ hr
  · obtain ⟨I0, C0, ⟨a_wishes, a_desks, a_weights, a_last⟩, hs, ⟨v_wishes, us0, rfl, r_wishes, v_desks, us1, rfl, r_desks, v_weights, us2, rfl, r_weights, v_last, rfl, r_last⟩, hm⟩ := h
    have hm : Post (m_chosen_until a_wishes a_desks a_weights a_last) (PQ (pL pI) I0 C0 Q) (PX E K I0 C0) := hm
    replace r_wishes : Rp.r (pL (pT (tc pI (t1 pI)))) a_wishes v_wishes I0 Z := Im.im r_wishes
    replace r_desks : Rp.r pI a_desks v_desks I0 Z := Im.im r_desks
    replace r_weights : Rp.r (pL pI) a_weights v_weights I0 Z := Im.im r_weights
    replace r_last : Rp.r pI a_last v_last I0 Z := Im.im r_last
    unfold m_chosen_until at hm
    refine ⟨_, (pss_cons (ps_set (i := 4) sc_chosen_until.nd rfl (Or.inl rfl) (pe_lst pa_nil)) (pss_cons (ps_for (passes_of rfl) rfl (show PI _ _ _ (iList K _) from pi_list (pe_callB (r := rSortedPO K) cr_sortedPO (by rfl) T.gb_sorted bt_sorted (pa_cons (pe_lc (own := [("k", 6), ("weight", 7)]) rfl sc_chosen_until.nd (show PI _ _ _ (iEnum K _) from pi_enum (by rfl) T.gb_enumerate (pa_cons (pv 2) pa_nil)) (blkOk_by (own := [("k", 6), ("weight", 7)]) (N := N_chosen_until) (sc := defScope s_chosen_until) (by decide +kernel)) (fun _ _ _ _ _ => (show PG _ _ (gTup K 2 _) from pg_tup rfl (pgs_cons (pg_name (i := 6) sc_chosen_until.nd rfl (Or.inl rfl)) (pgs_cons (pg_name (i := 7) sc_chosen_until.nd rfl (Or.inl rfl)) pgs_nil)))) (fun _ _ _ _ _ => pts_nil) (fun _ _ _ _ _ => (pe_tup (pa_cons (pe_un un_neg (pv 7)) (pa_cons (pv 6) pa_nil))))) pa_nil))) (pg_name (i := 5) sc_chosen_until.nd rfl (Or.inl rfl)) (pss_cons (ps_if (pt_cmpR op_eq (pe_ix (r := rIxT K) ix_tup (pv 5) pe_int (fun _ _ => rfl)) (pv 3) (nomark _)) (pss_cons ps_break pss_nil) pss_nil) (pss_cons (ps_if (pt_val (pe_call (ok_can_call T) (hr.mono (by decide)) rfl T.g_can_call T.F_can_call.kp bind_can_call .nil passE (pa_cons (pe_lc (own := [("k", 6)]) rfl sc_chosen_until.nd (show PI _ _ _ (iList K _) from pi_list (pe_op op_cat (pv 4) (pe_lst (pa_cons (pe_ix (r := rIxT K) ix_tup (pv 5) pe_int (fun _ _ => rfl)) pa_nil)))) (blkOk_by (own := [("k", 6)]) (N := N_chosen_until) (sc := defScope s_chosen_until) (by decide +kernel)) (fun _ _ _ _ _ => (pg_name (i := 6) sc_chosen_until.nd rfl (Or.inl rfl))) (fun _ _ _ _ _ => pts_nil) (fun _ _ _ _ _ => (pe_ix (r := rIxL K) ix_list (pv 0) (pv 6) (fun _ _ => rfl)))) (pa_cons (pv 1) pa_nil)))) (pss_cons (ps_expr (show PE _ _ (tBM K "list" rAppend _ _) from pe_bm PySem.F.plainAttrs_list PySem.F.slot_list_append PySem.F.type_list_append mt_append (pv 4) (pa_cons (pe_ix (r := rIxT K) ix_tup (pv 5) pe_int (fun _ _ => rfl)) pa_nil))) pss_nil) pss_nil) pss_nil))) (pss_cons (ps_ret (pv 4)) pss_nil))), ?_⟩
    refine q_asgN (E := E) (K := K) (σ := [some v_wishes, some v_desks, some v_weights, some v_last, none, none, none, none]) (i := 4) (n_lst (R := pI) al_nil (by decide)) hs (fun _ _ h => PX.mono (Ex.refl _) (Ex.refl _) h) hm fun chosen_1 p_2 vs_3 I_4 C_5 H_6 e_7 hp_8 s_9 hc_10 k_11 hl_12 hr_13 hm => ?_
    have hB_14 := Ex.free (Ex.refl _) hp_8
    have fr_15 := fr_keep (Ex.refl _) hB_14 k_11
    refine s_forR (E := E) (K := K) (σ := [some v_wishes, some v_desks, some v_weights, some v_last, some (.ref p_2), none, none, none]) (fun (z_25 : (List Int)) σ2 I_28 C_29 => ∃ w_27 : Option V, σ2 = [some v_wishes, some v_desks, some v_weights, some v_last, some (.ref p_2), w_27, none, none] ∧ (∃ vs_30 : List V, C_29 p_2 = some (.lst vs_30) ∧ vs_30.length ≤ sizeLine ∧ A2 (fun x u => Rp.r pI x u I_28 Z) z_25 vs_30) ∧ Ex C0 C_29) (i_list (x_own (n_cb n_sortP (a_one (x_v (x_lc (i_enum (a_one (x_var (i := 2) rfl (Rp.mono _ e_7 exz r_weights)))) g2 (fun _ _ _ _ ⟨_, _, h, _, _⟩ => by rw [h]; rfl) (fun x_16 σ2 I_17 C_18 e_19 c_20 ⟨v_21, v_22, h, r_23, r_24⟩ => by subst h; exact (x_tup (a_cons (x_un o_neg (x_var (i := 7) rfl (Rp.mono _ (Ex.refl _) exz r_24))) (a_one (x_var (i := 6) rfl (Rp.mono _ (Ex.refl _) exz r_23)))) (Nat.le_of_ble_eq_true rfl))) (fun _ _ _ _ _ e ⟨v_21, v_22, h, r_23, r_24⟩ => ⟨v_21, v_22, h, Rp.mono _ e exz r_23, Rp.mono _ e exz r_24⟩))))))) s_9 (fun _ _ h => PX.mono e_7 fr_15 h) hm (fun _ e_43 => ⟨none, rfl, ⟨_, hc_10, hl_12, a2up (Ex.trans (Ex.refl _) e_43) hr_13⟩, fr_15⟩) (fun _ _ _ _ _ => trivial) (fun _ _ _ _ _ e ⟨w_27, hs_26, ⟨vs_30, hc_31, hl_32, hr_33⟩, fr_34⟩ => ⟨w_27, hs_26, ⟨vs_30, hc_31, hl_32, a2up e hr_33⟩, fr_34⟩) (fun N x_35 v_36 z_25 σ2 I_37 C_38 H_39 e_40 s_41 ⟨w_27, hs_26, ⟨vs_30, hc_31, hl_32, hr_33⟩, fr_34⟩ r_42 hm => ?_) (fun z_87 σ2 I_82 C_83 H_84 e_85 s_86 ⟨w_89, hs_88, ⟨vs_92, hc_93, hl_94, hr_95⟩, fr_96⟩ hm => ?_)
    · subst hs_26
      refine g1 (K := K) x_35 v_36 I_37 C_38 H_39 _ s_41 r_42 fun σ2 ⟨v_44, hs_46, r_45⟩ => ?_
      subst hs_46
      refine s_if (E := E) (K := K) (σ := [some v_wishes, some v_desks, some v_weights, some v_last, some (.ref p_2), some v_44, none, none]) (t_test (x_op o_eqI (x_k (k := ((1 : Nat) : Int)) (o_pj (pjs pj1)) (x_var (i := 5) rfl (Rp.mono _ (Ex.refl _) exz r_45))) (x_var (i := 3) rfl (Rp.mono _ (e_7.trans e_40) exz r_last)))) s_41 (fun _ _ h => PX.mono (e_7.trans e_40) fr_34 h) hm (fun I_47 H_48 e_49 s_50 hm => ?_) (fun I_51 H_52 e_53 s_54 hm => ?_)
      · exact hm _ _ _ _ e_49 s_50 ⟨some v_44, rfl, ⟨_, hc_31, hl_32, a2up e_49 hr_33⟩, fr_34⟩
      · refine s_if (E := E) (K := K) (σ := [some v_wishes, some v_desks, some v_weights, some v_last, some (.ref p_2), some v_44, none, none]) (t_B (x_call (a_cons (x_lc (i_list (x_op o_cat (x_cell (i := 4) rfl hc_31 hl_32 (a2up e_53 hr_33)) (x_v (x_lst (al_cons (x_k (k := ((1 : Nat) : Int)) (o_pj (pjs pj1)) (x_var (i := 5) rfl (Rp.mono _ e_53 exz r_45))) al_nil) (Nat.le_of_ble_eq_true rfl))))) g1 (fun _ _ _ _ ⟨_, h, _⟩ => by rw [h]; rfl) (fun x_55 σ2 I_56 C_57 e_58 c_59 ⟨v_60, h, r_61⟩ => by subst h; exact (x_op o_ix (x_v (x_var (i := 0) rfl (Rp.mono _ (e_7.trans (e_40.trans (e_53.trans e_58))) exz r_wishes))) (x_var (i := 6) rfl (Rp.mono _ (Ex.refl _) exz r_61)))) (fun _ _ _ _ _ e ⟨v_60, h, r_61⟩ => ⟨v_60, h, Rp.mono _ e exz r_61⟩)) (a_one (x_var (i := 1) rfl (Rp.mono _ (e_7.trans (e_40.trans e_53)) exz r_desks)))))) s_54 (fun _ _ h => PX.mono (e_7.trans (e_40.trans e_53)) fr_34 h) hm (fun I_62 H_63 e_64 s_65 hm => ?_) (fun I_66 H_67 e_68 s_69 hm => ?_)
        · refine q_app (E := E) (K := K) (σ := [some v_wishes, some v_desks, some v_weights, some v_last, some (.ref p_2), some v_44, none, none]) (i := 4) rfl hc_31 (a2up (e_53.trans e_64) hr_33) (x_k (k := ((1 : Nat) : Int)) (o_pj (pjs pj1)) (x_var (i := 5) rfl (Rp.mono _ (e_53.trans e_64) exz r_45))) s_65 (fun _ _ h => PX.mono (e_7.trans (e_40.trans (e_53.trans e_64))) fr_34 h) hm fun chosen_70 vs_71 I_72 C_73 H_74 e_75 s_76 hc_77 k_78 hl_79 hr_80 hm => ?_
          have fr_81 := fr_keep fr_34 hB_14 k_78
          exact hm _ _ _ _ (e_53.trans (e_64.trans e_75)) s_76 ⟨some v_44, rfl, ⟨_, hc_77, hl_79, a2up (Ex.refl _) hr_80⟩, fr_81⟩
        · exact hm _ _ _ _ (e_53.trans e_68) s_69 ⟨some v_44, rfl, ⟨_, hc_31, hl_32, a2up (e_53.trans e_68) hr_33⟩, fr_34⟩
    subst hs_88
    obtain ⟨I_97, C_98, e_99, s_100, h_101, k_102⟩ := freeze s_86 hc_93
    have r_104 := frz_list e_99 h_101 hl_94 hr_95
    have fr_105 := fr_keep fr_96 hB_14 k_102
    refine q_ret (E := E) (K := K) (σ := [some v_wishes, some v_desks, some v_weights, some v_last, some (.ref p_2), w_89, none, none]) (x_var (i := 4) rfl (Rp.mono _ (Ex.refl _) exz r_104)) s_100 (fun _ _ h => PX.mono (e_7.trans (e_85.trans e_99)) fr_105 h) hm fun a_106 v_107 I_108 H_109 e_110 s_111 r_112 hm => ?_
    exact hm v_107 I_108 H_109 (e_7.trans (e_85.trans (e_99.trans e_110))) (St.less s_111 fr_105) (Im.im r_112)
def m_best_wishes (a_wishes : (List (Int × Int))) (a_desks : Int) (a_weights : (List Int)) : Res (List Int) :=
  ((un (fun (p : ((List (Int × Int)) × (List Int))) => m_check_weights p.1 p.2) (pair (Res.ok a_wishes) (Res.ok a_weights))).bind fun (b_1 : Unit) => ((un sortI (un (fun (p : ((List (Int × Int)) × Int × (List Int) × Int)) => m_chosen_until p.1 p.2.1 p.2.2.1 p.2.2.2) (pair (Res.ok a_wishes) (pair (Res.ok a_desks) (pair (Res.ok a_weights) (un rNeg (Res.ok (1 : Int)))))))).bind fun a_6 => Res.ok a_6))
abbrev N_best_wishes : List Str := ["wishes", "desks", "weights"]
theorem sc_best_wishes : FnScope N_best_wishes ["wishes", "desks", "weights"] (defScope s_best_wishes) := ⟨rfl, rfl, rfl, by decide +kernel, rfl, by decide +kernel, by decide +kernel⟩
theorem bind_best_wishes {K : PySem.W.Frag} {mg : Str → Option Value} {T : Tx K mg} : Binds K T.d_best_wishes ["wishes", "desks", "weights"] [] := FunD.bindsN T.F_best_wishes fun _ _ _ _ _ _ us hl => match us, hl with | [_, _, _], _ => rfl
abbrev sp_best_wishes (K : PySem.W.Frag) : Sp := spO K (tc (pL (pT (tc pI (t1 pI)))) (tc pI (t1 (pL pI)))) (fun (p : ((List (Int × Int)) × Int × (List Int))) => m_best_wishes p.1 p.2.1 p.2.2) pI
theorem ok_best_wishes (T : Tx K mg) : FnOk P w K mg base (L2.CX P w) 5 T.f_best_wishes T.d_best_wishes ["wishes", "desks", "weights"] (sp_best_wishes K) := by
  refine T.F_best_wishes.ok sc_best_wishes (fun vs H Q E h => ?_) (fun cdv A outer s H vs Q E hr h => ?_)
  · obtain ⟨I, C, a, _, hr, _⟩ := h
    exact Rt.len _ hr
  · obtain ⟨I0, C0, ⟨a_wishes, a_desks, a_weights⟩, hs, ⟨v_wishes, us0, rfl, r_wishes, v_desks, us1, rfl, r_desks, v_weights, rfl, r_weights⟩, hm⟩ := h
    have hm : Post (m_best_wishes a_wishes a_desks a_weights) (PN pI I0 C0 Q) (PX E K I0 C0) := hm
    replace r_wishes : Rp.r (pL (pT (tc pI (t1 pI)))) a_wishes v_wishes I0 Z := Im.im r_wishes
    replace r_desks : Rp.r pI a_desks v_desks I0 Z := Im.im r_desks
    replace r_weights : Rp.r (pL pI) a_weights v_weights I0 Z := Im.im r_weights
    unfold m_best_wishes at hm
    refine ⟨_, (pss_cons (ps_expr (pe_call (ok_check_weights T) (hr.mono (by decide)) rfl T.g_check_weights T.F_check_weights.kp bind_check_weights .nil passE (pa_cons (pv 0) (pa_cons (pv 2) pa_nil)))) (pss_cons (ps_ret (pe_callB (r := rSortedI K) cr_sortedI (by rfl) T.gb_sorted bt_sorted (pa_cons (pe_call (ok_chosen_until T) (hr.mono (by decide)) rfl T.g_chosen_until T.F_chosen_until.kp bind_chosen_until .nil passE (pa_cons (pv 0) (pa_cons (pv 1) (pa_cons (pv 2) (pa_cons (pe_un un_neg pe_int) pa_nil))))) pa_nil))) pss_nil)), ?_⟩
    refine s_expr (E := E) (K := K) (σ := [some v_wishes, some v_desks, some v_weights]) (x_call (a_cons (x_var (i := 0) rfl (Rp.mono _ (Ex.refl _) exz r_wishes)) (a_one (x_var (i := 2) rfl (Rp.mono _ (Ex.refl _) exz r_weights))))) hs (fun _ _ h => PX.mono (Ex.refl _) (Ex.refl _) h) hm fun b_1 I_2 H_3 e_4 s_5 hm => ?_
    refine q_retN (E := E) (K := K) (σ := [some v_wishes, some v_desks, some v_weights]) (n_cb n_sortI (a_one (x_v (x_call (a_cons (x_var (i := 0) rfl (Rp.mono _ e_4 exz r_wishes)) (a_cons (x_var (i := 1) rfl (Rp.mono _ e_4 exz r_desks)) (a_cons (x_var (i := 2) rfl (Rp.mono _ e_4 exz r_weights)) (a_one (x_un o_neg (x_int (i := 1))))))))))) s_5 (fun _ _ h => PX.mono e_4 (Ex.refl _) h) hm fun a_6 p_7 vs_8 I_9 H_10 e_11 hp_12 s_13 hl_14 hr_15 hm => ?_
    exact ret_own hm (e_4.trans e_11) (Ex.refl _) hp_12 s_13 hl_14 hr_15
def m_reason (a_wishes : (List (Int × Int))) (a_desks : Int) (a_weights : (List Int)) (a_k : Int) : Res (Option (Int × Int)) :=
  ((un (fun (p : ((List (Int × Int)) × (List Int))) => m_check_weights p.1 p.2) (pair (Res.ok a_wishes) (Res.ok a_weights))).bind fun (b_1 : Unit) => (((un (fun (p : ((List (Int × Int)) × Int × (List Int) × Int)) => m_chosen_until p.1 p.2.1 p.2.2.1 p.2.2.2) (pair (Res.ok a_wishes) (pair (Res.ok a_desks) (pair (Res.ok a_weights) (Res.ok a_k))))).bind (mapR (fun (x_6 : Int) => (bin ix (Res.ok a_wishes) (Res.ok x_6))))).bind fun (ahead_13 : (List (Int × Int))) => (ifR (un (fun (p : ((List (Int × Int)) × Int)) => m_can_call p.1 p.2) (pair (bin rCatR (Res.ok ahead_13) (consR (bin ix (Res.ok a_wishes) (Res.ok a_k)) (Res.ok []))) (Res.ok a_desks))) ((Res.ok none).bind fun a_28 => Res.ok a_28) (((un rng1 (Res.ok (60 : Int))).bind fun xs => loopR (fun (x_42 : Int) (z_35 : Unit) => (((un rng2 (pair (bin rAdd (Res.ok x_42) (Res.ok (1 : Int))) (bin rAdd (Res.ok (60 : Int)) (Res.ok (1 : Int))))).bind fun xs => loopR (fun (x_60 : Int) (z_54 : Unit) => (ifR (andR (bin rLe (Res.ok x_42) (un (fun p => Res.ok p.1) (bin ix (Res.ok a_wishes) (Res.ok a_k)))) (bin rLe (un (fun p => Res.ok p.2) (bin ix (Res.ok a_wishes) (Res.ok a_k))) (Res.ok x_60))) (ifR (bin eqR (un (fun (p : ((List (Int × Int)) × Int × Int)) => m_inside p.1 p.2.1 p.2.2) (pair (Res.ok ahead_13) (pair (Res.ok x_42) (Res.ok x_60)))) (bin rMul (Res.ok a_desks) (bin rSub (Res.ok x_60) (Res.ok x_42)))) ((un someR' (pair (Res.ok x_42) (Res.ok x_60))).bind fun a_88 => Res.ok (Out.rt a_88)) (Res.ok (Out.nx ()))) (Res.ok (Out.nx ())))) xs ()).bind fun (o : Out Unit (Option (Int × Int))) => match o with | .nx z_100 => (Res.ok (Out.nx ())) | .br _ => Res.bad | .rt r => Res.ok (Out.rt r))) xs ()).bind fun (o : Out Unit (Option (Int × Int))) => match o with | .nx z_111 => ((Res.ok none).bind fun a_118 => Res.ok a_118) | .br _ => Res.bad | .rt r => Res.ok r))))
abbrev N_reason : List Str := ["wishes", "desks", "weights", "k", "ahead", "start", "end", "other"]
theorem sc_reason : FnScope N_reason ["wishes", "desks", "weights", "k"] (defScope s_reason) := ⟨rfl, rfl, rfl, by decide +kernel, rfl, by decide +kernel, by decide +kernel⟩
theorem bind_reason {K : PySem.W.Frag} {mg : Str → Option Value} {T : Tx K mg} : Binds K T.d_reason ["wishes", "desks", "weights", "k"] [] := FunD.bindsN T.F_reason fun _ _ _ _ _ _ us hl => match us, hl with | [_, _, _, _], _ => rfl
abbrev sp_reason (K : PySem.W.Frag) : Sp := spP K (tc (pL (pT (tc pI (t1 pI)))) (tc pI (tc (pL pI) (t1 pI)))) (fun (p : ((List (Int × Int)) × Int × (List Int) × Int)) => m_reason p.1 p.2.1 p.2.2.1 p.2.2.2) (pO (pT (tc pI (t1 pI))))
theorem ok_reason (T : Tx K mg) : FnOk P w K mg base (L2.CX P w) 5 T.f_reason T.d_reason ["wishes", "desks", "weights", "k"] (sp_reason K) := by
  refine T.F_reason.ok sc_reason (fun vs H Q E h => ?_) (fun cdv A outer s H vs Q E hr h => ?_)
  · obtain ⟨I, C, a, _, hr, _⟩ := h
    exact Rt.len _ hr
  · obtain ⟨I0, C0, ⟨a_wishes, a_desks, a_weights, a_k⟩, hs, ⟨v_wishes, us0, rfl, r_wishes, v_desks, us1, rfl, r_desks, v_weights, us2, rfl, r_weights, v_k, rfl, r_k⟩, hm⟩ := h
    have hm : Post (m_reason a_wishes a_desks a_weights a_k) (PQ (pO (pT (tc pI (t1 pI)))) I0 C0 Q) (PX E K I0 C0) := hm
    replace r_wishes : Rp.r (pL (pT (tc pI (t1 pI)))) a_wishes v_wishes I0 Z := Im.im r_wishes
    replace r_desks : Rp.r pI a_desks v_desks I0 Z := Im.im r_desks
    replace r_weights : Rp.r (pL pI) a_weights v_weights I0 Z := Im.im r_weights
    replace r_k : Rp.r pI a_k v_k I0 Z := Im.im r_k
    unfold m_reason at hm
    refine ⟨_, (pss_cons (ps_expr (pe_call (ok_check_weights T) (hr.mono (by decide)) rfl T.g_check_weights T.F_check_weights.kp bind_check_weights .nil passE (pa_cons (pv 0) (pa_cons (pv 2) pa_nil)))) (pss_cons (ps_setLc (i := 4) (own := [("other", 7)]) rfl sc_reason.nd rfl rfl (sw_true rfl rfl rfl (by decide +kernel)) (show PI _ _ _ (iList K _) from pi_list (pe_call (ok_chosen_until T) (hr.mono (by decide)) rfl T.g_chosen_until T.F_chosen_until.kp bind_chosen_until .nil passE (pa_cons (pv 0) (pa_cons (pv 1) (pa_cons (pv 2) (pa_cons (pv 3) pa_nil)))))) (blkOk_by (own := [("other", 7)]) (N := N_reason) (sc := defScope s_reason) (by decide +kernel)) (fun _ _ _ _ _ => (pg_name (i := 7) sc_reason.nd rfl (Or.inl rfl))) (fun _ _ _ _ _ => pts_nil) (fun _ _ _ _ _ => (pe_ix (r := rIxL K) ix_list (pv 0) (pv 7) (fun _ _ => rfl)))) (pss_cons (ps_if (pt_val (pe_call (ok_can_call T) (hr.mono (by decide)) rfl T.g_can_call T.F_can_call.kp bind_can_call .nil passE (pa_cons (pe_op op_cat (pv 4) (pe_lst (pa_cons (pe_ix (r := rIxL K) ix_list (pv 0) (pv 3) (fun _ _ => rfl)) pa_nil))) (pa_cons (pv 1) pa_nil)))) (pss_cons (ps_ret pe_non) pss_nil) pss_nil) (pss_cons (ps_for (passes_of rfl) rfl (pi_range1 (by rfl) T.gb_range (pa_cons (pe_glob (v := .int (60)) rfl T.gi_LAST_MINUTE.choose_spec ⟨_, rfl⟩) pa_nil)) (pg_name (i := 5) sc_reason.nd rfl (Or.inl rfl)) (pss_cons (ps_for (passes_of rfl) rfl (pi_range2 (by rfl) T.gb_range (pa_cons (pe_op op_add (pv 5) pe_int) (pa_cons (pe_op op_add (pe_glob (v := .int (60)) rfl T.gi_LAST_MINUTE.choose_spec ⟨_, rfl⟩) pe_int) pa_nil))) (pg_name (i := 6) sc_reason.nd rfl (Or.inl rfl)) (pss_cons (ps_if (PW.pt (pw_and (pt_cmpR op_le (pv 5) (pe_ix (r := rIxT K) ix_tup (pe_ix (r := rIxL K) ix_list (pv 0) (pv 3) (fun _ _ => rfl)) pe_int (fun _ _ => rfl)) (nomark _)) (pw_and1 (pt_cmpR op_le (pe_ix (r := rIxT K) ix_tup (pe_ix (r := rIxL K) ix_list (pv 0) (pv 3) (fun _ _ => rfl)) pe_int (fun _ _ => rfl)) (pv 6) (nomark _))))) (pss_cons (ps_if (pt_cmpR op_eq (pe_call (ok_inside T) (hr.mono (by decide)) rfl T.g_inside T.F_inside.kp bind_inside .nil passE (pa_cons (pv 4) (pa_cons (pv 5) (pa_cons (pv 6) pa_nil)))) (pe_op op_mul (pv 1) (pe_op op_sub (pv 6) (pv 5))) (nomark _)) (pss_cons (ps_ret (pe_tup (pa_cons (pv 5) (pa_cons (pv 6) pa_nil)))) pss_nil) pss_nil) pss_nil) pss_nil) pss_nil)) pss_nil)) (pss_cons (ps_ret pe_non) pss_nil))))), ?_⟩
    refine s_expr (E := E) (K := K) (σ := [some v_wishes, some v_desks, some v_weights, some v_k, none, none, none, none]) (x_call (a_cons (x_var (i := 0) rfl (Rp.mono _ (Ex.refl _) exz r_wishes)) (a_one (x_var (i := 2) rfl (Rp.mono _ (Ex.refl _) exz r_weights))))) hs (fun _ _ h => PX.mono (Ex.refl _) (Ex.refl _) h) hm fun b_1 I_2 H_3 e_4 s_5 hm => ?_
    refine q_asg (E := E) (K := K) (σ := [some v_wishes, some v_desks, some v_weights, some v_k, none, none, none, none]) (i := 4) (x_lc (i_list (x_call (a_cons (x_var (i := 0) rfl (Rp.mono _ e_4 exz r_wishes)) (a_cons (x_var (i := 1) rfl (Rp.mono _ e_4 exz r_desks)) (a_cons (x_var (i := 2) rfl (Rp.mono _ e_4 exz r_weights)) (a_one (x_var (i := 3) rfl (Rp.mono _ e_4 exz r_k)))))))) g1 (fun _ _ _ _ ⟨_, h, _⟩ => by rw [h]; rfl) (fun x_6 σ2 I_7 C_8 e_9 c_10 ⟨v_11, h, r_12⟩ => by subst h; exact (x_op o_ix (x_v (x_var (i := 0) rfl (Rp.mono _ (e_4.trans e_9) exz r_wishes))) (x_var (i := 7) rfl (Rp.mono _ (Ex.refl _) exz r_12)))) (fun _ _ _ _ _ e ⟨v_11, h, r_12⟩ => ⟨v_11, h, Rp.mono _ e exz r_12⟩)) s_5 (fun _ _ h => PX.mono e_4 (Ex.refl _) h) hm fun ahead_13 v_14 I_15 H_16 e_17 s_18 r_19 hm => ?_
    refine s_if (E := E) (K := K) (σ := [some v_wishes, some v_desks, some v_weights, some v_k, some v_14, none, none, none]) (t_B (x_call (a_cons (x_op o_cat (x_v (x_var (i := 4) rfl (Rp.mono _ (Ex.refl _) exz r_19))) (x_v (x_lst (al_cons (x_op o_ix (x_v (x_var (i := 0) rfl (Rp.mono _ (e_4.trans e_17) exz r_wishes))) (x_var (i := 3) rfl (Rp.mono _ (e_4.trans e_17) exz r_k))) al_nil) (Nat.le_of_ble_eq_true rfl)))) (a_one (x_var (i := 1) rfl (Rp.mono _ (e_4.trans e_17) exz r_desks)))))) s_18 (fun _ _ h => PX.mono (e_4.trans e_17) (Ex.refl _) h) hm (fun I_20 H_21 e_22 s_23 hm => ?_) (fun I_24 H_25 e_26 s_27 hm => ?_)
    · refine q_ret (E := E) (K := K) (σ := [some v_wishes, some v_desks, some v_weights, some v_k, some v_14, none, none, none]) (x_none (R := (pT (tc pI (t1 pI))))) s_23 (fun _ _ h => PX.mono (e_4.trans (e_17.trans e_22)) (Ex.refl _) h) hm fun a_28 v_29 I_30 H_31 e_32 s_33 r_34 hm => ?_
      exact hm v_29 I_30 H_31 (e_4.trans (e_17.trans (e_22.trans e_32))) (St.less s_33 (Ex.refl _)) (Im.im r_34)
    · refine s_forR (E := E) (K := K) (σ := [some v_wishes, some v_desks, some v_weights, some v_k, some v_14, none, none, none]) (fun (z_35 : Unit) σ2 I_39 C_40 => ∃ w_37 : Option V, ∃ w_38 : Option V, σ2 = [some v_wishes, some v_desks, some v_weights, some v_k, some v_14, w_37, w_38, none] ∧ Ex C0 C_40) (i_rng1 (a_one (x_int (i := 60)))) s_27 (fun _ _ h => PX.mono (e_4.trans (e_17.trans e_26)) (Ex.refl _) h) hm (fun _ e_50 => ⟨none, none, rfl, (Ex.refl _)⟩) (fun _ _ _ _ _ => trivial) (fun _ _ _ _ _ e ⟨w_37, w_38, hs_36, fr_41⟩ => ⟨w_37, w_38, hs_36, fr_41⟩) (fun N x_42 v_43 z_35 σ2 I_44 C_45 H_46 e_47 s_48 ⟨w_37, w_38, hs_36, fr_41⟩ r_49 hm => ?_) (fun z_111 σ2 I_106 C_107 H_108 e_109 s_110 ⟨w_113, w_114, hs_112, fr_117⟩ hm => ?_)
      · subst hs_36
        refine g1 (K := K) x_42 v_43 I_44 C_45 H_46 _ s_48 r_49 fun σ2 ⟨v_51, hs_53, r_52⟩ => ?_
        subst hs_53
        refine s_forR (E := E) (K := K) (σ := [some v_wishes, some v_desks, some v_weights, some v_k, some v_14, some v_51, w_38, none]) (fun (z_54 : Unit) σ2 I_57 C_58 => ∃ w_56 : Option V, σ2 = [some v_wishes, some v_desks, some v_weights, some v_k, some v_14, some v_51, w_56, none] ∧ Ex C0 C_58) (i_rng2 (a_cons (x_op o_add (x_var (i := 5) rfl (Rp.mono _ (Ex.refl _) exz r_52)) (x_int (i := 1))) (a_one (x_op o_add (x_int (i := 60)) (x_int (i := 1)))))) s_48 (fun _ _ h => PX.mono (e_4.trans (e_17.trans (e_26.trans e_47))) fr_41 h) hm (fun _ e_68 => ⟨w_38, rfl, fr_41⟩) (fun _ _ _ _ _ => trivial) (fun _ _ _ _ _ e ⟨w_56, hs_55, fr_59⟩ => ⟨w_56, hs_55, fr_59⟩) (fun N x_60 v_61 z_54 σ2 I_62 C_63 H_64 e_65 s_66 ⟨w_56, hs_55, fr_59⟩ r_67 hm => ?_) (fun z_100 σ2 I_95 C_96 H_97 e_98 s_99 ⟨w_102, hs_101, fr_105⟩ hm => ?_)
        · subst hs_55
          refine g1 (K := K) x_60 v_61 I_62 C_63 H_64 _ s_66 r_67 fun σ2 ⟨v_69, hs_71, r_70⟩ => ?_
          subst hs_71
          refine s_if (E := E) (K := K) (σ := [some v_wishes, some v_desks, some v_weights, some v_k, some v_14, some v_51, some v_69, none]) (t_and (t_test (x_op o_le (x_var (i := 5) rfl (Rp.mono _ e_65 exz r_52)) (x_k (k := ((0 : Nat) : Int)) (o_pj pj0) (x_op o_ix (x_v (x_var (i := 0) rfl (Rp.mono _ (e_4.trans (e_17.trans (e_26.trans (e_47.trans e_65)))) exz r_wishes))) (x_var (i := 3) rfl (Rp.mono _ (e_4.trans (e_17.trans (e_26.trans (e_47.trans e_65)))) exz r_k)))))) (t_test (x_op o_le (x_k (k := ((1 : Nat) : Int)) (o_pj (pjs pj1)) (x_op o_ix (x_v (x_var (i := 0) rfl (Rp.mono _ (e_4.trans (e_17.trans (e_26.trans (e_47.trans e_65)))) exz r_wishes))) (x_var (i := 3) rfl (Rp.mono _ (e_4.trans (e_17.trans (e_26.trans (e_47.trans e_65)))) exz r_k)))) (x_var (i := 6) rfl (Rp.mono _ (Ex.refl _) exz r_70))))) s_66 (fun _ _ h => PX.mono (e_4.trans (e_17.trans (e_26.trans (e_47.trans e_65)))) fr_59 h) hm (fun I_72 H_73 e_74 s_75 hm => ?_) (fun I_76 H_77 e_78 s_79 hm => ?_)
          · refine s_if (E := E) (K := K) (σ := [some v_wishes, some v_desks, some v_weights, some v_k, some v_14, some v_51, some v_69, none]) (t_test (x_op o_eqI (x_call (a_cons (x_var (i := 4) rfl (Rp.mono _ (e_26.trans (e_47.trans (e_65.trans e_74))) exz r_19)) (a_cons (x_var (i := 5) rfl (Rp.mono _ (e_65.trans e_74) exz r_52)) (a_one (x_var (i := 6) rfl (Rp.mono _ e_74 exz r_70)))))) (x_op o_mul (x_var (i := 1) rfl (Rp.mono _ (e_4.trans (e_17.trans (e_26.trans (e_47.trans (e_65.trans e_74))))) exz r_desks)) (x_op o_sub (x_var (i := 6) rfl (Rp.mono _ e_74 exz r_70)) (x_var (i := 5) rfl (Rp.mono _ (e_65.trans e_74) exz r_52)))))) s_75 (fun _ _ h => PX.mono (e_4.trans (e_17.trans (e_26.trans (e_47.trans (e_65.trans e_74))))) fr_59 h) hm (fun I_80 H_81 e_82 s_83 hm => ?_) (fun I_84 H_85 e_86 s_87 hm => ?_)
            · refine q_ret (E := E) (K := K) (σ := [some v_wishes, some v_desks, some v_weights, some v_k, some v_14, some v_51, some v_69, none]) (x_some (x_tup (a_cons (x_var (i := 5) rfl (Rp.mono _ (e_65.trans (e_74.trans e_82)) exz r_52)) (a_one (x_var (i := 6) rfl (Rp.mono _ (e_74.trans e_82) exz r_70)))) (Nat.le_of_ble_eq_true rfl))) s_83 (fun _ _ h => PX.mono (e_4.trans (e_17.trans (e_26.trans (e_47.trans (e_65.trans (e_74.trans e_82)))))) fr_59 h) hm fun a_88 v_89 I_90 H_91 e_92 s_93 r_94 hm => ?_
              exact hm v_89 I_90 H_91 (e_4.trans (e_17.trans (e_26.trans (e_47.trans (e_65.trans (e_74.trans (e_82.trans e_92))))))) (St.less s_93 fr_59) (Im.im r_94)
            · exact hm _ _ _ _ (e_74.trans e_86) s_87 ⟨some v_69, rfl, fr_59⟩
          · exact hm _ _ _ _ e_78 s_79 ⟨some v_69, rfl, fr_59⟩
        subst hs_101
        exact hm _ _ _ _ e_98 s_99 ⟨some v_51, w_102, rfl, fr_105⟩
      subst hs_112
      refine q_ret (E := E) (K := K) (σ := [some v_wishes, some v_desks, some v_weights, some v_k, some v_14, w_113, w_114, none]) (x_none (R := (pT (tc pI (t1 pI))))) s_110 (fun _ _ h => PX.mono (e_4.trans (e_17.trans (e_26.trans e_109))) fr_117 h) hm fun a_118 v_119 I_120 H_121 e_122 s_123 r_124 hm => ?_
      exact hm v_119 I_120 H_121 (e_4.trans (e_17.trans (e_26.trans (e_109.trans e_122)))) (St.less s_123 fr_117) (Im.im r_124)
def m__law_mix (a_cell : Int) (a_turn : Int) : Res Int :=
  ((bin rMod (un idR (bin rAdd (bin rAdd (bin rMul (Res.ok a_cell) (Res.ok (69621 : Int))) (bin rMul (Res.ok a_turn) (Res.ok (48271 : Int)))) (Res.ok (12345 : Int)))) (Res.ok (2147483647 : Int))).bind fun (x_1 : Int) => ((bin rMod (un idR (bin rAdd (bin rMul (Res.ok x_1) (Res.ok (16807 : Int))) (Res.ok (97 : Int)))) (Res.ok (2147483629 : Int))).bind fun (x_8 : Int) => ((bin rMod (un idR (bin rAdd (bin rAdd (bin rMul (Res.ok x_8) (Res.ok (69069 : Int))) (Res.ok a_cell)) (bin rMul (Res.ok a_turn) (Res.ok (7 : Int))))) (Res.ok (2147483587 : Int))).bind fun (y_15 : Int) => ((bin rMod (un idR (bin rAdd (bin rMul (Res.ok y_15) (Res.ok (39373 : Int))) (Res.ok (7 : Int)))) (Res.ok (2147483579 : Int))).bind fun (y_22 : Int) => ((bin rAdd (bin rMul (Res.ok x_8) (Res.ok (2147483647 : Int))) (Res.ok y_22)).bind fun a_29 => Res.ok a_29)))))
abbrev N__law_mix : List Str := ["cell", "turn", "x", "y"]
theorem sc__law_mix : FnScope N__law_mix ["cell", "turn"] (defScope s__law_mix) := ⟨rfl, rfl, rfl, by decide +kernel, rfl, by decide +kernel, by decide +kernel⟩
theorem bind__law_mix {K : PySem.W.Frag} {mg : Str → Option Value} {T : Tx K mg} : Binds K T.d__law_mix ["cell", "turn"] [] := FunD.bindsN T.F__law_mix fun _ _ _ _ _ _ us hl => match us, hl with | [_, _], _ => rfl
abbrev sp__law_mix (K : PySem.W.Frag) : Sp := spP K (tc pI (t1 pI)) (fun (p : (Int × Int)) => m__law_mix p.1 p.2) pI
theorem ok__law_mix (T : Tx K mg) : FnOk P w K mg base (L2.CX P w) 1 T.f__law_mix T.d__law_mix ["cell", "turn"] (sp__law_mix K) := by
  refine T.F__law_mix.ok sc__law_mix (fun vs H Q E h => ?_) (fun cdv A outer s H vs Q E hr h => ?_)
  · obtain ⟨I, C, a, _, hr, _⟩ := h
    exact Rt.len _ hr
  · obtain ⟨I0, C0, ⟨a_cell, a_turn⟩, hs, ⟨v_cell, us0, rfl, r_cell, v_turn, rfl, r_turn⟩, hm⟩ := h
    have hm : Post (m__law_mix a_cell a_turn) (PQ pI I0 C0 Q) (PX E K I0 C0) := hm
    replace r_cell : Rp.r pI a_cell v_cell I0 Z := Im.im r_cell
    replace r_turn : Rp.r pI a_turn v_turn I0 Z := Im.im r_turn
    unfold m__law_mix at hm
    refine ⟨_, (pss_cons (ps_set (i := 2) sc__law_mix.nd rfl (Or.inl rfl) (pe_op op_mod (pe_callTy call_int1 (by rfl) T.gb_int bt_int (pa_cons (pe_op op_add (pe_op op_add (pe_op op_mul (pv 0) pe_int) (pe_op op_mul (pv 1) pe_int)) pe_int) pa_nil)) pe_int)) (pss_cons (ps_set (i := 2) sc__law_mix.nd rfl (Or.inl rfl) (pe_op op_mod (pe_callTy call_int1 (by rfl) T.gb_int bt_int (pa_cons (pe_op op_add (pe_op op_mul (pv 2) pe_int) pe_int) pa_nil)) pe_int)) (pss_cons (ps_set (i := 3) sc__law_mix.nd rfl (Or.inl rfl) (pe_op op_mod (pe_callTy call_int1 (by rfl) T.gb_int bt_int (pa_cons (pe_op op_add (pe_op op_add (pe_op op_mul (pv 2) pe_int) (pv 0)) (pe_op op_mul (pv 1) pe_int)) pa_nil)) pe_int)) (pss_cons (ps_set (i := 3) sc__law_mix.nd rfl (Or.inl rfl) (pe_op op_mod (pe_callTy call_int1 (by rfl) T.gb_int bt_int (pa_cons (pe_op op_add (pe_op op_mul (pv 3) pe_int) pe_int) pa_nil)) pe_int)) (pss_cons (ps_ret (pe_op op_add (pe_op op_mul (pv 2) pe_int) (pv 3))) pss_nil))))), ?_⟩
    refine q_asg (E := E) (K := K) (σ := [some v_cell, some v_turn, none, none]) (i := 2) (x_op o_mod (x_cb o_int (a_one (x_op o_add (x_op o_add (x_op o_mul (x_var (i := 0) rfl (Rp.mono _ (Ex.refl _) exz r_cell)) (x_int (i := 69621))) (x_op o_mul (x_var (i := 1) rfl (Rp.mono _ (Ex.refl _) exz r_turn)) (x_int (i := 48271)))) (x_int (i := 12345))))) (x_int (i := 2147483647))) hs (fun _ _ h => PX.mono (Ex.refl _) (Ex.refl _) h) hm fun x_1 v_2 I_3 H_4 e_5 s_6 r_7 hm => ?_
    refine q_asg (E := E) (K := K) (σ := [some v_cell, some v_turn, some v_2, none]) (i := 2) (x_op o_mod (x_cb o_int (a_one (x_op o_add (x_op o_mul (x_var (i := 2) rfl (Rp.mono _ (Ex.refl _) exz r_7)) (x_int (i := 16807))) (x_int (i := 97))))) (x_int (i := 2147483629))) s_6 (fun _ _ h => PX.mono e_5 (Ex.refl _) h) hm fun x_8 v_9 I_10 H_11 e_12 s_13 r_14 hm => ?_
    refine q_asg (E := E) (K := K) (σ := [some v_cell, some v_turn, some v_9, none]) (i := 3) (x_op o_mod (x_cb o_int (a_one (x_op o_add (x_op o_add (x_op o_mul (x_var (i := 2) rfl (Rp.mono _ (Ex.refl _) exz r_14)) (x_int (i := 69069))) (x_var (i := 0) rfl (Rp.mono _ (e_5.trans e_12) exz r_cell))) (x_op o_mul (x_var (i := 1) rfl (Rp.mono _ (e_5.trans e_12) exz r_turn)) (x_int (i := 7)))))) (x_int (i := 2147483587))) s_13 (fun _ _ h => PX.mono (e_5.trans e_12) (Ex.refl _) h) hm fun y_15 v_16 I_17 H_18 e_19 s_20 r_21 hm => ?_
    refine q_asg (E := E) (K := K) (σ := [some v_cell, some v_turn, some v_9, some v_16]) (i := 3) (x_op o_mod (x_cb o_int (a_one (x_op o_add (x_op o_mul (x_var (i := 3) rfl (Rp.mono _ (Ex.refl _) exz r_21)) (x_int (i := 39373))) (x_int (i := 7))))) (x_int (i := 2147483579))) s_20 (fun _ _ h => PX.mono (e_5.trans (e_12.trans e_19)) (Ex.refl _) h) hm fun y_22 v_23 I_24 H_25 e_26 s_27 r_28 hm => ?_
    refine q_ret (E := E) (K := K) (σ := [some v_cell, some v_turn, some v_9, some v_23]) (x_op o_add (x_op o_mul (x_var (i := 2) rfl (Rp.mono _ (e_19.trans e_26) exz r_14)) (x_int (i := 2147483647))) (x_var (i := 3) rfl (Rp.mono _ (Ex.refl _) exz r_28))) s_27 (fun _ _ h => PX.mono (e_5.trans (e_12.trans (e_19.trans e_26))) (Ex.refl _) h) hm fun a_29 v_30 I_31 H_32 e_33 s_34 r_35 hm => ?_
    exact hm v_30 I_31 H_32 (e_5.trans (e_12.trans (e_19.trans (e_26.trans e_33)))) (St.less s_34 (Ex.refl _)) (Im.im r_35)
abbrev N__law_pool : List Str := ["script"]
theorem sc__law_pool : FnScope N__law_pool ["script"] (defScope s__law_pool) := ⟨rfl, rfl, rfl, by decide +kernel, rfl, by decide +kernel, by decide +kernel⟩
theorem bind__law_pool {K : PySem.W.Frag} {mg : Str → Option Value} {T : Tx K mg} : Binds K T.d__law_pool ["script"] [] := FunD.bindsN T.F__law_pool fun _ _ _ _ _ _ us hl => match us, hl with | [_], _ => rfl
theorem ok__law_pool (T : Tx K mg) : FnOk P w K mg base (L2.CX P w) 1 T.f__law_pool T.d__law_pool ["script"] (spPool K) := by
  refine T.F__law_pool.ok sc__law_pool (fun vs H Q E h => ?_) (fun cdv A outer s H vs Q E hr h => ?_)
  · obtain ⟨I, C, ns, v, rfl, _⟩ := h
    rfl
  · obtain ⟨I0, C0, ns, v, rfl, hs, r, hm⟩ := h
    refine ⟨_, pss_cons (ps_ret (pe_lst (pa_cons pe_int (pa_cons pe_int (pa_cons pe_int (pa_cons (pe_callTy (r := rList1 K) call_list_of (by rfl) T.gb_list bt_list (pa_cons (pe_slice (r := rSlL K) sl_list (pv 0) po_none (po_some pe_int)) pa_nil)) pa_nil)))))) pss_nil, ?_⟩
    exact n_lstP (E := E) (A := pM) (m := .ok (0, 0, 0, cut ns none (some 63))) (x_is' (a_cons x_int (a_cons x_int (a_cons x_int (a_one (x_cb o_list (a_one (x_v (x_slS (x_var (i := 0) rfl (Im.im r)) p_none (p_some x_int))))))))) rfl) (by decide) hs fun p ws I2 H2 e hp s2 hx => hm p ws I2 H2 e hp s2 hx
def m__law_fill (_ : Unit) (a_pool : Pl) : Res (Unit × Pl) :=
  ((Res.ok a_pool.2.2.2).bind fun (numbers_1 : (List Int)) => ((Res.ok (0 : Int)).bind fun (cell_8 : Int) => ((ifR (bin rLt (Res.ok a_pool.2.1) (un rLen (Res.ok numbers_1))) ((bin ix (Res.ok numbers_1) (Res.ok a_pool.2.1)).bind fun (cell_33 : Int) => (Res.ok (a_pool, cell_33))) (ifR (bin rGt (un rLen (Res.ok numbers_1)) (Res.ok (0 : Int))) ((bin ix (Res.ok numbers_1) (bin rMod (un idR (Res.ok a_pool.2.2.1)) (un rLen (Res.ok numbers_1)))).bind fun (cell_48 : Int) => (Res.ok (a_pool, cell_48))) (Res.ok (a_pool, cell_8)))).bind fun (z_23 : (Pl × Int)) => ((ifR (bin rLt (Res.ok z_23.2) (Res.ok (0 : Int))) ((bin rSub (Res.ok (1 : Int)) (bin rMul (Res.ok (2 : Int)) (Res.ok z_23.2))).bind fun (cell_76 : Int) => (Res.ok cell_76)) (Res.ok z_23.2)).bind fun (z_68 : Int) => (thenR (bin rAdd (Res.ok z_23.1.2.1) (Res.ok (1 : Int))) (fun (a_98 : Int) => (z_23.1.1, (a_98, z_23.1.2.2))) (fun (y_88 : Pl) => (thenR (bin rAdd (Res.ok y_88.2.2.1) (Res.ok (1 : Int))) (fun (a_110 : Int) => (y_88.1, (y_88.2.1, (a_110, y_88.2.2.2)))) (fun (y_100 : Pl) => (ifR (andR (bin rGe (Res.ok z_68) (bin rPow (Res.ok (10 : Int)) (Res.ok (18 : Int)))) (bin rLe (Res.ok y_100.2.1) (un rLen (Res.ok numbers_1)))) (thenR (Res.ok z_68) (fun (a_130 : Int) => (a_130, y_100.2)) (fun (y_120 : Pl) => (Res.ok ((), y_120)))) (thenR (un (fun (p : (Int × Int)) => m__law_mix p.1 p.2) (pair (Res.ok z_68) (Res.ok y_100.2.2.1))) (fun (a_142 : Int) => (a_142, y_100.2)) (fun (y_132 : Pl) => (Res.ok ((), y_132)))))))))))))
abbrev N__law_fill : List Str := ["pool", "numbers", "cell"]
theorem sc__law_fill : FnScope N__law_fill ["pool"] (defScope s__law_fill) := ⟨rfl, rfl, rfl, by decide +kernel, rfl, by decide +kernel, by decide +kernel⟩
theorem bind__law_fill {K : PySem.W.Frag} {mg : Str → Option Value} {T : Tx K mg} : Binds K T.d__law_fill ["pool"] [] := FunD.bindsN T.F__law_fill fun _ _ _ _ _ _ us hl => match us, hl with | [_], _ => rfl
abbrev sp__law_fill (K : PySem.W.Frag) : Sp := spM pM t0 m__law_fill pN
theorem ok__law_fill (T : Tx K mg) : FnOk P w K mg base (L2.CX P w) 2 T.f__law_fill T.d__law_fill ["pool"] (sp__law_fill K) := by
  refine T.F__law_fill.ok sc__law_fill (fun vs H Q E h => ?_) (fun cdv A outer s H vs Q E hr h => ?_)
  · obtain ⟨I, C, p, ws, us, x, a, rfl, _, _, _, hr, _⟩ := h
    exact congrArg (· + 1) (Rt.len _ hr)
  · obtain ⟨I0, C0, p0, ws0, us, a_pool, ⟨⟩, rfl, hs, hc0, hx1, rfl, hm⟩ := h
    have hx0 := It.im (C' := Z) hx1
    have hm : Post (m__law_fill () a_pool) (PM p0 pM pN I0 C0 Q) XF := hm
    unfold m__law_fill at hm
    refine ⟨_, (pss_cons (ps_set (i := 1) sc__law_fill.nd rfl (Or.inl rfl) (pe_ix (r := rIxL K) ix_list (pv 0) pe_int (fun _ _ => rfl))) (pss_cons (ps_set (i := 2) sc__law_fill.nd rfl (Or.inl rfl) pe_int) (Evl.pss_cut (ps_if (pt_cmpR op_lt (pe_ix (r := rIxL K) ix_list (pv 0) pe_int (fun _ _ => rfl)) (pe_callB (r := rLen1 K) call_len_seq (by rfl) T.gb_len bt_len (pa_cons (pv 1) pa_nil)) (nomark _)) (pss_cons (ps_set (i := 2) sc__law_fill.nd rfl (Or.inl rfl) (pe_ix (r := rIxL K) ix_list (pv 1) (pe_ix (r := rIxL K) ix_list (pv 0) pe_int (fun _ _ => rfl)) (fun _ _ => rfl))) pss_nil) (pss_cons (ps_if (pt_cmpR op_gt (pe_callB (r := rLen1 K) call_len_seq (by rfl) T.gb_len bt_len (pa_cons (pv 1) pa_nil)) pe_int (nomark _)) (pss_cons (ps_set (i := 2) sc__law_fill.nd rfl (Or.inl rfl) (pe_ix (r := rIxL K) ix_list (pv 1) (pe_op op_mod (pe_callTy call_int1 (by rfl) T.gb_int bt_int (pa_cons (pe_ix (r := rIxL K) ix_list (pv 0) pe_int (fun _ _ => rfl)) pa_nil)) (pe_callB (r := rLen1 K) call_len_seq (by rfl) T.gb_len bt_len (pa_cons (pv 1) pa_nil))) (fun _ _ => rfl))) pss_nil) pss_nil) pss_nil)) (Evl.pss_cut (ps_if (pt_cmpR op_lt (pv 2) pe_int (nomark _)) (pss_cons (ps_set (i := 2) sc__law_fill.nd rfl (Or.inl rfl) (pe_op op_sub pe_int (pe_op op_mul pe_int (pv 2)))) pss_nil) pss_nil) (pss_cons (ps_asg (pe_op op_add (pe_ix (r := rIxL K) ix_list (pv 0) pe_int (fun _ _ => rfl)) pe_int) (pg_sub (pv 0) pe_int set_list)) (pss_cons (ps_asg (pe_op op_add (pe_ix (r := rIxL K) ix_list (pv 0) pe_int (fun _ _ => rfl)) pe_int) (pg_sub (pv 0) pe_int set_list)) (pss_cons (ps_if (PW.pt (pw_and (pt_cmpR op_ge (pv 2) (pe_op op_pow pe_int pe_int) (nomark _)) (pw_and1 (pt_cmpR op_le (pe_ix (r := rIxL K) ix_list (pv 0) pe_int (fun _ _ => rfl)) (pe_callB (r := rLen1 K) call_len_seq (by rfl) T.gb_len bt_len (pa_cons (pv 1) pa_nil)) (nomark _))))) (pss_cons (ps_asg (pv 2) (pg_sub (pv 0) pe_int set_list)) pss_nil) (pss_cons (ps_asg (pe_call (ok__law_mix T) (hr.mono (by decide)) rfl T.g__law_mix T.F__law_mix.kp bind__law_mix .nil passE (pa_cons (pv 2) (pa_cons (pe_ix (r := rIxL K) ix_list (pv 0) pe_int (fun _ _ => rfl)) pa_nil))) (pg_sub (pv 0) pe_int set_list)) pss_nil)) pss_nil))))))), ?_⟩
    refine q_asg (E := E) (K := K) (σ := [some (.ref p0), none, none]) (i := 1) (q_pool (i := 0) (k := 3) rfl hc0 (Rt.mono _ (Ex.refl _) exz hx0) (pjs (pjs (pjs pj1)))) hs (fun _ _ h => h.elim) hm fun numbers_1 v_2 I_3 H_4 e_5 s_6 r_7 hm => ?_
    refine q_asg (E := E) (K := K) (σ := [some (.ref p0), some v_2, none]) (i := 2) (x_int (i := 0)) s_6 (fun _ _ h => h.elim) hm fun cell_8 v_9 I_10 H_11 e_12 s_13 r_14 hm => ?_
    refine s_ifj (E := E) (K := K) (σ := [some (.ref p0), some v_2, some v_9]) (fun (z_23 : (Pl × Int)) σ2 I_25 C_26 => ∃ v_30 : V, σ2 = [some (.ref p0), some v_2, some v_30] ∧ (∃ ws_27 : List V, C_26 p0 = some (.lst ws_27) ∧ Rt.r pM z_23.1 ws_27 I_25 Z) ∧ Rp.r pI z_23.2 v_30 I_25 Z ∧ Ex (off C0 p0) C_26) (t_test (x_op o_lt (q_pool (i := 0) (k := 1) rfl hc0 (Rt.mono _ (e_5.trans e_12) exz hx0) (pjs pj0)) (x_cb o_len (a_one (x_v (x_var (i := 1) rfl (Rp.mono _ e_12 exz r_7))))))) s_13 (fun _ _ h => h.elim) hm (fun N I_15 H_16 e_17 s_18 hm => ?_) (fun N I_19 H_20 e_21 s_22 hm => ?_) (fun z_23 σ2 I_55 C_56 H_57 e_58 s_59 ⟨v_30, hs_24, ⟨ws_27, hc_28, hx_29⟩, r_31, fr_32⟩ hm => ?_)
    · refine q_asg (E := E) (K := K) (σ := [some (.ref p0), some v_2, some v_9]) (i := 2) (x_op o_ix (x_v (x_var (i := 1) rfl (Rp.mono _ (e_12.trans e_17) exz r_7))) (q_pool (i := 0) (k := 1) rfl hc0 (Rt.mono _ (e_5.trans (e_12.trans e_17)) exz hx0) (pjs pj0))) s_18 (fun _ _ h => h.elim) hm fun cell_33 v_34 I_35 H_36 e_37 s_38 r_39 hm => ?_
      exact hm _ _ _ _ (e_17.trans e_37) s_38 ⟨v_34, rfl, ⟨_, hc0, Rt.mono _ (e_5.trans (e_12.trans (e_17.trans e_37))) exz hx0⟩, Rp.mono _ (Ex.refl _) exz r_39, (off_ex (C := C0) (p := p0))⟩
    · refine s_if (E := E) (K := K) (σ := [some (.ref p0), some v_2, some v_9]) (t_test (x_op o_gt (x_cb o_len (a_one (x_v (x_var (i := 1) rfl (Rp.mono _ (e_12.trans e_21) exz r_7))))) (x_int (i := 0)))) s_22 (fun _ _ h => h.elim) hm (fun I_40 H_41 e_42 s_43 hm => ?_) (fun I_44 H_45 e_46 s_47 hm => ?_)
      · refine q_asg (E := E) (K := K) (σ := [some (.ref p0), some v_2, some v_9]) (i := 2) (x_op o_ix (x_v (x_var (i := 1) rfl (Rp.mono _ (e_12.trans (e_21.trans e_42)) exz r_7))) (x_op o_mod (x_cb o_int (a_one (q_pool (i := 0) (k := 2) rfl hc0 (Rt.mono _ (e_5.trans (e_12.trans (e_21.trans e_42))) exz hx0) (pjs (pjs pj0))))) (x_cb o_len (a_one (x_v (x_var (i := 1) rfl (Rp.mono _ (e_12.trans (e_21.trans e_42)) exz r_7))))))) s_43 (fun _ _ h => h.elim) hm fun cell_48 v_49 I_50 H_51 e_52 s_53 r_54 hm => ?_
        exact hm _ _ _ _ (e_21.trans (e_42.trans e_52)) s_53 ⟨v_49, rfl, ⟨_, hc0, Rt.mono _ (e_5.trans (e_12.trans (e_21.trans (e_42.trans e_52)))) exz hx0⟩, Rp.mono _ (Ex.refl _) exz r_54, (off_ex (C := C0) (p := p0))⟩
      · exact hm _ _ _ _ (e_21.trans e_46) s_47 ⟨v_9, rfl, ⟨_, hc0, Rt.mono _ (e_5.trans (e_12.trans (e_21.trans e_46))) exz hx0⟩, Rp.mono _ (e_21.trans e_46) exz r_14, (off_ex (C := C0) (p := p0))⟩
    subst hs_24
    refine s_ifj (E := E) (K := K) (σ := [some (.ref p0), some v_2, some v_30]) (fun (z_68 : Int) σ2 I_70 C_71 => ∃ v_72 : V, σ2 = [some (.ref p0), some v_2, some v_72] ∧ Rp.r pI z_68 v_72 I_70 Z ∧ C_71 p0 = some (.lst ws_27) ∧ Ex (off C0 p0) C_71) (t_test (x_op o_lt (x_var (i := 2) rfl (Rp.mono _ (Ex.refl _) exz r_31)) (x_int (i := 0)))) s_59 (fun _ _ h => h.elim) hm (fun N I_60 H_61 e_62 s_63 hm => ?_) (fun N I_64 H_65 e_66 s_67 hm => ?_) (fun z_68 σ2 I_83 C_84 H_85 e_86 s_87 ⟨v_72, hs_69, r_73, hc_74, fr_75⟩ hm => ?_)
    · refine q_asg (E := E) (K := K) (σ := [some (.ref p0), some v_2, some v_30]) (i := 2) (x_op o_sub (x_int (i := 1)) (x_op o_mul (x_int (i := 2)) (x_var (i := 2) rfl (Rp.mono _ e_62 exz r_31)))) s_63 (fun _ _ h => h.elim) hm fun cell_76 v_77 I_78 H_79 e_80 s_81 r_82 hm => ?_
      exact hm _ _ _ _ (e_62.trans e_80) s_81 ⟨v_77, rfl, Rp.mono _ (Ex.refl _) exz r_82, hc_28, fr_32⟩
    · exact hm _ _ _ _ e_66 s_67 ⟨v_30, rfl, Rp.mono _ e_66 exz r_31, hc_28, fr_32⟩
    subst hs_69
    refine q_setT (E := E) (K := K) (σ := [some (.ref p0), some v_2, some v_72]) (i := 0) (k := 1) rfl (x_op o_add (q_pool (i := 0) (k := 1) rfl hc_74 (Rt.mono _ e_86 exz hx_29) (pjs pj0)) (x_int (i := 1))) (pks pk0) s_87 hc_74 (Rt.mono _ e_86 exz hx_29) hm fun y_88 ws_89 I_90 C_91 H_92 e_93 s_94 hc_95 k_96 hx_97 hm => ?_
    have fr_99 := fr_pool fr_75 k_96
    refine q_setT (E := E) (K := K) (σ := [some (.ref p0), some v_2, some v_72]) (i := 0) (k := 2) rfl (x_op o_add (q_pool (i := 0) (k := 2) rfl hc_95 (Rt.mono _ (Ex.refl _) exz hx_97) (pjs (pjs pj0))) (x_int (i := 1))) (pks (pks pk0)) s_94 hc_95 (Rt.mono _ (Ex.refl _) exz hx_97) hm fun y_100 ws_101 I_102 C_103 H_104 e_105 s_106 hc_107 k_108 hx_109 hm => ?_
    have fr_111 := fr_pool fr_99 k_108
    refine s_if (E := E) (K := K) (σ := [some (.ref p0), some v_2, some v_72]) (t_and (t_test (x_op o_ge (x_var (i := 2) rfl (Rp.mono _ (e_93.trans e_105) exz r_73)) (x_op o_pow (x_int (i := 10)) (x_int (i := 18))))) (t_test (x_op o_le (q_pool (i := 0) (k := 1) rfl hc_107 (Rt.mono _ (Ex.refl _) exz hx_109) (pjs pj0)) (x_cb o_len (a_one (x_v (x_var (i := 1) rfl (Rp.mono _ (e_12.trans (e_58.trans (e_86.trans (e_93.trans e_105)))) exz r_7)))))))) s_106 (fun _ _ h => h.elim) hm (fun I_112 H_113 e_114 s_115 hm => ?_) (fun I_116 H_117 e_118 s_119 hm => ?_)
    · refine q_setT (E := E) (K := K) (σ := [some (.ref p0), some v_2, some v_72]) (i := 0) (k := 0) rfl (x_var (i := 2) rfl (Rp.mono _ (e_93.trans (e_105.trans e_114)) exz r_73)) pk0 s_115 hc_107 (Rt.mono _ e_114 exz hx_109) hm fun y_120 ws_121 I_122 C_123 H_124 e_125 s_126 hc_127 k_128 hx_129 hm => ?_
      have fr_131 := fr_pool fr_111 k_128
      exact ret_poolN hm (e_5.trans (e_12.trans (e_58.trans (e_86.trans (e_93.trans (e_105.trans (e_114.trans e_125))))))) fr_131 s_126 hc_127 (Rt.mono _ (Ex.refl _) exz hx_129)
    · refine q_setT (E := E) (K := K) (σ := [some (.ref p0), some v_2, some v_72]) (i := 0) (k := 0) rfl (x_call (a_cons (x_var (i := 2) rfl (Rp.mono _ (e_93.trans (e_105.trans e_118)) exz r_73)) (a_one (q_pool (i := 0) (k := 2) rfl hc_107 (Rt.mono _ e_118 exz hx_109) (pjs (pjs pj0)))))) pk0 s_119 hc_107 (Rt.mono _ e_118 exz hx_109) hm fun y_132 ws_133 I_134 C_135 H_136 e_137 s_138 hc_139 k_140 hx_141 hm => ?_
      have fr_143 := fr_pool fr_111 k_140
      exact ret_poolN hm (e_5.trans (e_12.trans (e_58.trans (e_86.trans (e_93.trans (e_105.trans (e_118.trans e_137))))))) fr_143 s_138 hc_139 (Rt.mono _ (Ex.refl _) exz hx_141)
def m__law_take (a_many : Int) (a_pool : Pl) : Res (Int × Pl) :=
  ((ifR (bin rLt (Res.ok a_pool.1) (Res.ok a_many)) (((m__law_fill ()) a_pool).bind fun (b_17 : Unit × Pl) => (Res.ok b_17.2)) (Res.ok a_pool)).bind fun (z_9 : Pl) => ((bin rMod (un idR (Res.ok z_9.1)) (Res.ok a_many)).bind fun (value_33 : Int) => (thenR (bin rDiv (Res.ok z_9.1) (Res.ok a_many)) (fun (a_50 : Int) => (a_50, z_9.2)) (fun (y_40 : Pl) => ((Res.ok value_33).bind fun a_52 => Res.ok (a_52, y_40))))))
abbrev N__law_take : List Str := ["pool", "many", "value"]
theorem sc__law_take : FnScope N__law_take ["pool", "many"] (defScope s__law_take) := ⟨rfl, rfl, rfl, by decide +kernel, rfl, by decide +kernel, by decide +kernel⟩
theorem bind__law_take {K : PySem.W.Frag} {mg : Str → Option Value} {T : Tx K mg} : Binds K T.d__law_take ["pool", "many"] [] := FunD.bindsN T.F__law_take fun _ _ _ _ _ _ us hl => match us, hl with | [_, _], _ => rfl
abbrev sp__law_take (K : PySem.W.Frag) : Sp := spM pM (t1 pI) m__law_take pI
theorem ok__law_take (T : Tx K mg) : FnOk P w K mg base (L2.CX P w) 3 T.f__law_take T.d__law_take ["pool", "many"] (sp__law_take K) := by
  refine T.F__law_take.ok sc__law_take (fun vs H Q E h => ?_) (fun cdv A outer s H vs Q E hr h => ?_)
  · obtain ⟨I, C, p, ws, us, x, a, rfl, _, _, _, hr, _⟩ := h
    exact congrArg (· + 1) (Rt.len _ hr)
  · obtain ⟨I0, C0, p0, ws0, us, a_pool, a_many, rfl, hs, hc0, hx1, ⟨v_many, rfl, r_many⟩, hm⟩ := h
    have hx0 := It.im (C' := Z) hx1
    have hm : Post (m__law_take a_many a_pool) (PM p0 pM pI I0 C0 Q) XF := hm
    replace r_many : Rp.r pI a_many v_many I0 Z := Im.im r_many
    unfold m__law_take at hm
    refine ⟨_, (Evl.pss_cut (ps_if (pt_cmpR op_lt (pe_ix (r := rIxL K) ix_list (pv 0) pe_int (fun _ _ => rfl)) (pv 1) (nomark _)) (pss_cons (ps_expr (pe_call (ok__law_fill T) (hr.mono (by decide)) rfl T.g__law_fill T.F__law_fill.kp bind__law_fill .nil passE (pa_cons (pv 0) pa_nil))) pss_nil) pss_nil) (pss_cons (ps_set (i := 2) sc__law_take.nd rfl (Or.inl rfl) (pe_op op_mod (pe_callTy call_int1 (by rfl) T.gb_int bt_int (pa_cons (pe_ix (r := rIxL K) ix_list (pv 0) pe_int (fun _ _ => rfl)) pa_nil)) (pv 1))) (pss_cons (ps_asg (pe_op op_fdiv (pe_ix (r := rIxL K) ix_list (pv 0) pe_int (fun _ _ => rfl)) (pv 1)) (pg_sub (pv 0) pe_int set_list)) (pss_cons (ps_ret (pv 2)) pss_nil)))), ?_⟩
    refine s_ifj (E := E) (K := K) (σ := [some (.ref p0), some v_many, none]) (fun (z_9 : Pl) σ2 I_11 C_12 => σ2 = [some (.ref p0), some v_many, none] ∧ (∃ ws_13 : List V, C_12 p0 = some (.lst ws_13) ∧ Rt.r pM z_9 ws_13 I_11 Z) ∧ Ex (off C0 p0) C_12) (t_test (x_op o_lt (q_pool (i := 0) (k := 0) rfl hc0 (Rt.mono _ (Ex.refl _) exz hx0) pj0) (x_var (i := 1) rfl (Rp.mono _ (Ex.refl _) exz r_many)))) hs (fun _ _ h => h.elim) hm (fun N I_1 H_2 e_3 s_4 hm => ?_) (fun N I_5 H_6 e_7 s_8 hm => ?_) (fun z_9 σ2 I_28 C_29 H_30 e_31 s_32 ⟨hs_10, ⟨ws_13, hc_14, hx_15⟩, fr_16⟩ hm => ?_)
    · refine qm_expr (E := E) (K := K) (σ := [some (.ref p0), some v_many, none]) (m_callM0 (i := 0) rfl) s_4 hc0 (Rt.mono _ e_3 exz hx0) hm fun b_17 ws_18 I_19 C_20 H_21 e_22 s_23 hc_24 k_25 hx_26 hm => ?_
      have fr_27 := fr_pool (off_ex (C := C0) (p := p0)) k_25
      exact hm _ _ _ _ (e_3.trans e_22) s_23 ⟨rfl, ⟨_, hc_24, Rt.mono _ (Ex.refl _) exz hx_26⟩, fr_27⟩
    · exact hm _ _ _ _ e_7 s_8 ⟨rfl, ⟨_, hc0, Rt.mono _ e_7 exz hx0⟩, (off_ex (C := C0) (p := p0))⟩
    subst hs_10
    refine q_asg (E := E) (K := K) (σ := [some (.ref p0), some v_many, none]) (i := 2) (x_op o_mod (x_cb o_int (a_one (q_pool (i := 0) (k := 0) rfl hc_14 (Rt.mono _ (Ex.refl _) exz hx_15) pj0))) (x_var (i := 1) rfl (Rp.mono _ e_31 exz r_many))) s_32 (fun _ _ h => h.elim) hm fun value_33 v_34 I_35 H_36 e_37 s_38 r_39 hm => ?_
    refine q_setT (E := E) (K := K) (σ := [some (.ref p0), some v_many, some v_34]) (i := 0) (k := 0) rfl (x_op o_fdiv (q_pool (i := 0) (k := 0) rfl hc_14 (Rt.mono _ e_37 exz hx_15) pj0) (x_var (i := 1) rfl (Rp.mono _ (e_31.trans e_37) exz r_many))) pk0 s_38 hc_14 (Rt.mono _ e_37 exz hx_15) hm fun y_40 ws_41 I_42 C_43 H_44 e_45 s_46 hc_47 k_48 hx_49 hm => ?_
    have fr_51 := fr_pool fr_16 k_48
    refine q_ret (E := E) (K := K) (σ := [some (.ref p0), some v_many, some v_34]) (x_var (i := 2) rfl (Rp.mono _ e_45 exz r_39)) s_46 (fun _ _ h => h.elim) hm fun a_52 v_53 I_54 H_55 e_56 s_57 r_58 hm => ?_
    exact ret_pool hm (e_31.trans (e_37.trans (e_45.trans e_56))) fr_51 s_57 hc_47 (Rt.mono _ e_56 exz hx_49) r_58
def m__law_from (a_low : Int) (a_high : Int) (a_pool : Pl) : Res (Int × Pl) :=
  (((binM rAdd (liftM (Res.ok a_low)) (callM m__law_take (liftM (bin rAdd (bin rSub (Res.ok a_high) (Res.ok a_low)) (Res.ok (1 : Int)))))) a_pool).bind fun a_1 => Res.ok (a_1.1, a_1.2))
abbrev N__law_from : List Str := ["pool", "low", "high"]
theorem sc__law_from : FnScope N__law_from ["pool", "low", "high"] (defScope s__law_from) := ⟨rfl, rfl, rfl, by decide +kernel, rfl, by decide +kernel, by decide +kernel⟩
theorem bind__law_from {K : PySem.W.Frag} {mg : Str → Option Value} {T : Tx K mg} : Binds K T.d__law_from ["pool", "low", "high"] [] := FunD.bindsN T.F__law_from fun _ _ _ _ _ _ us hl => match us, hl with | [_, _, _], _ => rfl
abbrev sp__law_from (K : PySem.W.Frag) : Sp := spM pM (tc pI (t1 pI)) (fun (p : (Int × Int)) => m__law_from p.1 p.2) pI
theorem ok__law_from (T : Tx K mg) : FnOk P w K mg base (L2.CX P w) 4 T.f__law_from T.d__law_from ["pool", "low", "high"] (sp__law_from K) := by
  refine T.F__law_from.ok sc__law_from (fun vs H Q E h => ?_) (fun cdv A outer s H vs Q E hr h => ?_)
  · obtain ⟨I, C, p, ws, us, x, a, rfl, _, _, _, hr, _⟩ := h
    exact congrArg (· + 1) (Rt.len _ hr)
  · obtain ⟨I0, C0, p0, ws0, us, a_pool, ⟨a_low, a_high⟩, rfl, hs, hc0, hx1, ⟨v_low, us0, rfl, r_low, v_high, rfl, r_high⟩, hm⟩ := h
    have hx0 := It.im (C' := Z) hx1
    have hm : Post (m__law_from a_low a_high a_pool) (PM p0 pM pI I0 C0 Q) XF := hm
    replace r_low : Rp.r pI a_low v_low I0 Z := Im.im r_low
    replace r_high : Rp.r pI a_high v_high I0 Z := Im.im r_high
    unfold m__law_from at hm
    refine ⟨_, (pss_cons (ps_ret (pe_op op_add (pv 1) (pe_call (ok__law_take T) (hr.mono (by decide)) rfl T.g__law_take T.F__law_take.kp bind__law_take .nil passE (pa_cons (pv 0) (pa_cons (pe_op op_add (pe_op op_sub (pv 2) (pv 1)) pe_int) pa_nil))))) pss_nil), ?_⟩
    refine qm_ret (E := E) (K := K) (σ := [some (.ref p0), some v_low, some v_high]) (m_op (fun _ => o_add) off_same (m_pure (x_var (i := 1) rfl (Rp.mono _ (Ex.refl _) exz r_low))) (m_callM (i := 0) rfl (am_pure (a_one (x_op o_add (x_op o_sub (x_var (i := 2) rfl (Rp.mono _ (Ex.refl _) exz r_high)) (x_var (i := 1) rfl (Rp.mono _ (Ex.refl _) exz r_low))) (x_int (i := 1))))))) hs hc0 (Rt.mono _ (Ex.refl _) exz hx0) hm fun a_1 v_2 ws_8 I_3 C_9 H_4 e_5 s_6 hc_10 k_11 hx_12 r_7 hm => ?_
    have fr_13 := fr_pool (off_ex (C := C0) (p := p0)) k_11
    exact ret_pool hm e_5 fr_13 s_6 hc_10 hx_12 r_7
def m__law_wishes (a_desks : Int) (a_pool : Pl) : Res ((List (Int × Int)) × Pl) :=
  (((callM m__law_take (liftM (Res.ok (3 : Int)))) a_pool).bind fun (kind_1 : Int × Pl) => ((Res.ok ([] : List (Int × Int))).bind fun (wishes_14 : (List (Int × Int))) => (ifR (bin eqR (Res.ok kind_1.1) (Res.ok (2 : Int))) (((callM (fun (p : (Int × Int)) => m__law_from p.1 p.2) (liftM (pair (Res.ok (1 : Int)) (bin rDiv (Res.ok (20 : Int)) (Res.ok a_desks))))) kind_1.2).bind fun (width_39 : Int × Pl) => (((callM m__law_take (liftM (bin rSub (Res.ok (61 : Int)) (Res.ok width_39.1)))) width_39.2).bind fun (base_53 : Int × Pl) => (((un rng1 (bin rMul (Res.ok a_desks) (Res.ok width_39.1))).bind fun xs => loopN (fun (x_82 : Int) (z_67 : ((List (Int × Int)) × Pl)) => ((bin rDiv (Res.ok x_82) (Res.ok a_desks)).bind fun (minute_94 : Int) => (((callM (fun (p : (Int × Int)) => m__law_from p.1 p.2) (liftM (pair (bin rAdd (Res.ok minute_94) (Res.ok (1 : Int))) (Res.ok width_39.1)))) z_67.2).bind fun (closes_101 : Int × Pl) => ((((pairM (binM rAdd (liftM (Res.ok base_53.1)) (callM m__law_take (liftM (bin rAdd (Res.ok minute_94) (Res.ok (1 : Int)))))) (liftM (bin rAdd (Res.ok base_53.1) (Res.ok closes_101.1)))) closes_101.2).bind fun b => (push z_67.1 b.1).bind fun ys => Res.ok (ys, b.2)).bind fun (wishes_115 : (List (Int × Int)) × Pl) => (Res.ok (wishes_115.1, wishes_115.2)))))) xs (wishes_14, base_53.2)).bind fun (z_135 : ((List (Int × Int)) × Pl)) => ((ifMR (andM (liftM (bin rLt (un rLen (Res.ok z_135.1)) (Res.ok (20 : Int)))) (binM eqR (callM m__law_take (liftM (Res.ok (2 : Int)))) (liftM (Res.ok (0 : Int))))) z_135.2 (fun (y_158 : Pl) => (((callM m__law_take (liftM (Res.ok width_39.1))) y_158).bind fun (opens_185 : Int × Pl) => ((((pairM (liftM (bin rAdd (Res.ok base_53.1) (Res.ok opens_185.1))) (binM rAdd (liftM (Res.ok base_53.1)) (callM (fun (p : (Int × Int)) => m__law_from p.1 p.2) (liftM (pair (bin rAdd (Res.ok opens_185.1) (Res.ok (1 : Int))) (Res.ok width_39.1)))))) opens_185.2).bind fun b => (push z_135.1 b.1).bind fun ys => Res.ok (ys, b.2)).bind fun (wishes_199 : (List (Int × Int)) × Pl) => (Res.ok (wishes_199.2, wishes_199.1))))) (fun (y_164 : Pl) => (Res.ok (y_164, z_135.1)))).bind fun (z_170 : (Pl × (List (Int × Int)))) => (((callM m__law_take (liftM (un rLen (Res.ok z_170.2)))) z_170.1).bind fun (shift_231 : Int × Pl) => ((bin rCatR (slR (Res.ok z_170.2) (someR (Res.ok shift_231.1)) (Res.ok none)) (slR (Res.ok z_170.2) (Res.ok none) (someR (Res.ok shift_231.1)))).bind fun a_244 => Res.ok (a_244, shift_231.2))))))) ((Res.ok (60 : Int)).bind fun (width_251 : Int) => ((ifR (bin eqR (Res.ok kind_1.1) (Res.ok (1 : Int))) (((callM (fun (p : (Int × Int)) => m__law_from p.1 p.2) (liftM (pair (Res.ok (1 : Int)) (Res.ok (8 : Int))))) kind_1.2).bind fun (width_277 : Int × Pl) => (Res.ok (width_277.2, width_277.1))) (Res.ok (kind_1.2, width_251))).bind fun (z_266 : (Pl × Int)) => (((callM m__law_take (liftM (bin rSub (Res.ok (61 : Int)) (Res.ok z_266.2)))) z_266.1).bind fun (base_296 : Int × Pl) => ((((unM rng1 (callM m__law_take (liftM (Res.ok (21 : Int))))) base_296.2).bind fun b => loopN (fun (x_324 : Int) (z_310 : ((List (Int × Int)) × Pl)) => (((callM m__law_take (liftM (Res.ok z_266.2))) z_310.2).bind fun (opens_345 : Int × Pl) => ((((pairM (liftM (bin rAdd (Res.ok base_296.1) (Res.ok opens_345.1))) (binM rAdd (liftM (Res.ok base_296.1)) (callM (fun (p : (Int × Int)) => m__law_from p.1 p.2) (liftM (pair (bin rAdd (Res.ok opens_345.1) (Res.ok (1 : Int))) (Res.ok z_266.2)))))) opens_345.2).bind fun b => (push z_310.1 b.1).bind fun ys => Res.ok (ys, b.2)).bind fun (wishes_359 : (List (Int × Int)) × Pl) => (Res.ok (wishes_359.1, wishes_359.2))))) b.1 ((fun (y_333 : Pl) => (wishes_14, y_333)) b.2)).bind fun (z_379 : ((List (Int × Int)) × Pl)) => ((Res.ok z_379.1).bind fun a_403 => Res.ok (a_403, z_379.2)))))))))
abbrev N__law_wishes : List Str := ["pool", "desks", "kind", "wishes", "width", "base", "k", "minute", "closes", "opens", "shift"]
theorem sc__law_wishes : FnScope N__law_wishes ["pool", "desks"] (defScope s__law_wishes) := ⟨rfl, rfl, rfl, by decide +kernel, rfl, by decide +kernel, by decide +kernel⟩
theorem bind__law_wishes {K : PySem.W.Frag} {mg : Str → Option Value} {T : Tx K mg} : Binds K T.d__law_wishes ["pool", "desks"] [] := FunD.bindsN T.F__law_wishes fun _ _ _ _ _ _ us hl => match us, hl with | [_, _], _ => rfl
abbrev sp__law_wishes (K : PySem.W.Frag) : Sp := spM pM (t1 pI) m__law_wishes (pL (pT (tc pI (t1 pI))))
theorem ok__law_wishes (T : Tx K mg) : FnOk P w K mg base (L2.CX P w) 5 T.f__law_wishes T.d__law_wishes ["pool", "desks"] (sp__law_wishes K) := by
  refine T.F__law_wishes.ok sc__law_wishes (fun vs H Q E h => ?_) (fun cdv A outer s H vs Q E hr h => ?_)
  · obtain ⟨I, C, p, ws, us, x, a, rfl, _, _, _, hr, _⟩ := h
    exact congrArg (· + 1) (Rt.len _ hr)
  · obtain ⟨I0, C0, p0, ws0, us, a_pool, a_desks, rfl, hs, hc0, hx1, ⟨v_desks, rfl, r_desks⟩, hm⟩ := h
    have hx0 := It.im (C' := Z) hx1
    have hm : Post (m__law_wishes a_desks a_pool) (PM p0 pM (pL (pT (tc pI (t1 pI)))) I0 C0 Q) XF := hm
    replace r_desks : Rp.r pI a_desks v_desks I0 Z := Im.im r_desks
    unfold m__law_wishes at hm
    refine ⟨_, (pss_cons (ps_set (i := 2) sc__law_wishes.nd rfl (Or.inl rfl) (pe_call (ok__law_take T) (hr.mono (by decide)) rfl T.g__law_take T.F__law_take.kp bind__law_take .nil passE (pa_cons (pv 0) (pa_cons pe_int pa_nil)))) (pss_cons (ps_set (i := 3) sc__law_wishes.nd rfl (Or.inl rfl) (pe_lst pa_nil)) (pss_cons (ps_if (pt_cmpR op_eq (pv 2) pe_int (nomark _)) (pss_cons (ps_set (i := 4) sc__law_wishes.nd rfl (Or.inl rfl) (pe_call (ok__law_from T) (hr.mono (by decide)) rfl T.g__law_from T.F__law_from.kp bind__law_from .nil passE (pa_cons (pv 0) (pa_cons pe_int (pa_cons (pe_op op_fdiv pe_int (pv 1)) pa_nil))))) (pss_cons (ps_set (i := 5) sc__law_wishes.nd rfl (Or.inl rfl) (pe_call (ok__law_take T) (hr.mono (by decide)) rfl T.g__law_take T.F__law_take.kp bind__law_take .nil passE (pa_cons (pv 0) (pa_cons (pe_op op_sub pe_int (pv 4)) pa_nil)))) (pss_cons (ps_for (passes_of rfl) rfl (pi_range1 (by rfl) T.gb_range (pa_cons (pe_op op_mul (pv 1) (pv 4)) pa_nil)) (pg_name (i := 6) sc__law_wishes.nd rfl (Or.inl rfl)) (pss_cons (ps_set (i := 7) sc__law_wishes.nd rfl (Or.inl rfl) (pe_op op_fdiv (pv 6) (pv 1))) (pss_cons (ps_set (i := 8) sc__law_wishes.nd rfl (Or.inl rfl) (pe_call (ok__law_from T) (hr.mono (by decide)) rfl T.g__law_from T.F__law_from.kp bind__law_from .nil passE (pa_cons (pv 0) (pa_cons (pe_op op_add (pv 7) pe_int) (pa_cons (pv 4) pa_nil))))) (pss_cons (ps_expr (show PE _ _ (tBM K "list" rAppend _ _) from pe_bm PySem.F.plainAttrs_list PySem.F.slot_list_append PySem.F.type_list_append mt_append (pv 3) (pa_cons (pe_tup (pa_cons (pe_op op_add (pv 5) (pe_call (ok__law_take T) (hr.mono (by decide)) rfl T.g__law_take T.F__law_take.kp bind__law_take .nil passE (pa_cons (pv 0) (pa_cons (pe_op op_add (pv 7) pe_int) pa_nil)))) (pa_cons (pe_op op_add (pv 5) (pv 8)) pa_nil))) pa_nil))) pss_nil)))) (Evl.pss_cut (ps_if (PW.pt (pw_and (pt_cmpR op_lt (pe_callB (r := rLen1 K) call_len_seq (by rfl) T.gb_len bt_len (pa_cons (pv 3) pa_nil)) pe_int (nomark _)) (pw_and1 (pt_cmpR op_eq (pe_call (ok__law_take T) (hr.mono (by decide)) rfl T.g__law_take T.F__law_take.kp bind__law_take .nil passE (pa_cons (pv 0) (pa_cons pe_int pa_nil))) pe_int (nomark _))))) (pss_cons (ps_set (i := 9) sc__law_wishes.nd rfl (Or.inl rfl) (pe_call (ok__law_take T) (hr.mono (by decide)) rfl T.g__law_take T.F__law_take.kp bind__law_take .nil passE (pa_cons (pv 0) (pa_cons (pv 4) pa_nil)))) (pss_cons (ps_expr (show PE _ _ (tBM K "list" rAppend _ _) from pe_bm PySem.F.plainAttrs_list PySem.F.slot_list_append PySem.F.type_list_append mt_append (pv 3) (pa_cons (pe_tup (pa_cons (pe_op op_add (pv 5) (pv 9)) (pa_cons (pe_op op_add (pv 5) (pe_call (ok__law_from T) (hr.mono (by decide)) rfl T.g__law_from T.F__law_from.kp bind__law_from .nil passE (pa_cons (pv 0) (pa_cons (pe_op op_add (pv 9) pe_int) (pa_cons (pv 4) pa_nil))))) pa_nil))) pa_nil))) pss_nil)) pss_nil) (pss_cons (ps_set (i := 10) sc__law_wishes.nd rfl (Or.inl rfl) (pe_call (ok__law_take T) (hr.mono (by decide)) rfl T.g__law_take T.F__law_take.kp bind__law_take .nil passE (pa_cons (pv 0) (pa_cons (pe_callB (r := rLen1 K) call_len_seq (by rfl) T.gb_len bt_len (pa_cons (pv 3) pa_nil)) pa_nil)))) (pss_cons (ps_ret (pe_op op_cat (pe_slice (r := rSlL K) sl_list (pv 3) (po_some (pv 10)) po_none) (pe_slice (r := rSlL K) sl_list (pv 3) po_none (po_some (pv 10))))) pss_nil)))))) pss_nil) (pss_cons (ps_set (i := 4) sc__law_wishes.nd rfl (Or.inl rfl) pe_int) (Evl.pss_cut (ps_if (pt_cmpR op_eq (pv 2) pe_int (nomark _)) (pss_cons (ps_set (i := 4) sc__law_wishes.nd rfl (Or.inl rfl) (pe_call (ok__law_from T) (hr.mono (by decide)) rfl T.g__law_from T.F__law_from.kp bind__law_from .nil passE (pa_cons (pv 0) (pa_cons pe_int (pa_cons pe_int pa_nil))))) pss_nil) pss_nil) (pss_cons (ps_set (i := 5) sc__law_wishes.nd rfl (Or.inl rfl) (pe_call (ok__law_take T) (hr.mono (by decide)) rfl T.g__law_take T.F__law_take.kp bind__law_take .nil passE (pa_cons (pv 0) (pa_cons (pe_op op_sub pe_int (pv 4)) pa_nil)))) (pss_cons (ps_for (passes_of rfl) rfl (pi_range1 (by rfl) T.gb_range (pa_cons (pe_call (ok__law_take T) (hr.mono (by decide)) rfl T.g__law_take T.F__law_take.kp bind__law_take .nil passE (pa_cons (pv 0) (pa_cons pe_int pa_nil))) pa_nil)) (pg_name (i := 6) sc__law_wishes.nd rfl (Or.inl rfl)) (pss_cons (ps_set (i := 9) sc__law_wishes.nd rfl (Or.inl rfl) (pe_call (ok__law_take T) (hr.mono (by decide)) rfl T.g__law_take T.F__law_take.kp bind__law_take .nil passE (pa_cons (pv 0) (pa_cons (pv 4) pa_nil)))) (pss_cons (ps_expr (show PE _ _ (tBM K "list" rAppend _ _) from pe_bm PySem.F.plainAttrs_list PySem.F.slot_list_append PySem.F.type_list_append mt_append (pv 3) (pa_cons (pe_tup (pa_cons (pe_op op_add (pv 5) (pv 9)) (pa_cons (pe_op op_add (pv 5) (pe_call (ok__law_from T) (hr.mono (by decide)) rfl T.g__law_from T.F__law_from.kp bind__law_from .nil passE (pa_cons (pv 0) (pa_cons (pe_op op_add (pv 9) pe_int) (pa_cons (pv 4) pa_nil))))) pa_nil))) pa_nil))) pss_nil))) (pss_cons (ps_ret (pv 3)) pss_nil)))))))), ?_⟩
    refine qm_asg (E := E) (K := K) (σ := [some (.ref p0), some v_desks, none, none, none, none, none, none, none, none, none]) (i := 2) (m_callM (i := 0) rfl (am_pure (a_one (x_int (i := 3))))) hs hc0 (Rt.mono _ (Ex.refl _) exz hx0) hm fun kind_1 v_2 ws_8 I_3 C_9 H_4 e_5 s_6 hc_10 k_11 hx_12 r_7 hm => ?_
    have fr_13 := fr_pool (off_ex (C := C0) (p := p0)) k_11
    refine q_asgN (E := E) (K := K) (σ := [some (.ref p0), some v_desks, some v_2, none, none, none, none, none, none, none, none]) (i := 3) (n_lst (R := (pT (tc pI (t1 pI)))) al_nil (by decide)) s_6 (fun _ _ h => h.elim) hm fun wishes_14 p_15 vs_16 I_17 C_18 H_19 e_20 hp_21 s_22 hc_23 k_24 hl_25 hr_26 hm => ?_
    have ne_27 := ne_new hc_10 hp_21
    have hB_28 := Ex.free fr_13 hp_21
    have hc_29 := (k_24 _ ne_27).trans hc_10
    have fr_30 := fr_keep fr_13 hB_28 k_24
    refine s_if (E := E) (K := K) (σ := [some (.ref p0), some v_desks, some v_2, some (.ref p_15), none, none, none, none, none, none, none]) (t_test (x_op o_eqI (x_var (i := 2) rfl (Rp.mono _ e_20 exz r_7)) (x_int (i := 2)))) s_22 (fun _ _ h => h.elim) hm (fun I_31 H_32 e_33 s_34 hm => ?_) (fun I_35 H_36 e_37 s_38 hm => ?_)
    · refine qm_asg (E := E) (K := K) (σ := [some (.ref p0), some v_desks, some v_2, some (.ref p_15), none, none, none, none, none, none, none]) (i := 4) (m_callM (i := 0) rfl (am_pure (a_cons (x_int (i := 1)) (a_one (x_op o_fdiv (x_int (i := 20)) (x_var (i := 1) rfl (Rp.mono _ (e_5.trans (e_20.trans e_33)) exz r_desks))))))) s_34 hc_29 (Rt.mono _ (e_20.trans e_33) exz hx_12) hm fun width_39 v_40 ws_46 I_41 C_47 H_42 e_43 s_44 hc_48 k_49 hx_50 r_45 hm => ?_
      have hc_51 := (k_49 _ (Ne.symm ne_27)).trans hc_23
      have fr_52 := fr_pool fr_30 k_49
      refine qm_asg (E := E) (K := K) (σ := [some (.ref p0), some v_desks, some v_2, some (.ref p_15), some v_40, none, none, none, none, none, none]) (i := 5) (m_callM (i := 0) rfl (am_pure (a_one (x_op o_sub (x_int (i := 61)) (x_var (i := 4) rfl (Rp.mono _ (Ex.refl _) exz r_45)))))) s_44 hc_48 (Rt.mono _ (Ex.refl _) exz hx_50) hm fun base_53 v_54 ws_60 I_55 C_61 H_56 e_57 s_58 hc_62 k_63 hx_64 r_59 hm => ?_
      have hc_65 := (k_63 _ (Ne.symm ne_27)).trans hc_51
      have fr_66 := fr_pool fr_52 k_63
      refine s_forN (E := E) (K := K) (σ := [some (.ref p0), some v_desks, some v_2, some (.ref p_15), some v_40, some v_54, none, none, none, none, none]) (fun (z_67 : ((List (Int × Int)) × Pl)) σ2 I_72 C_73 => ∃ w_69 : Option V, ∃ w_70 : Option V, ∃ w_71 : Option V, σ2 = [some (.ref p0), some v_desks, some v_2, some (.ref p_15), some v_40, some v_54, w_69, w_70, w_71, none, none] ∧ (∃ vs_74 : List V, C_73 p_15 = some (.lst vs_74) ∧ vs_74.length ≤ sizeLine ∧ A2 (fun x u => Rp.r (pT (tc pI (t1 pI))) x u I_72 Z) z_67.1 vs_74) ∧ (∃ ws_78 : List V, C_73 p0 = some (.lst ws_78) ∧ Rt.r pM z_67.2 ws_78 I_72 Z) ∧ Ex (off C0 p0) C_73) (i_rng1 (a_one (x_op o_mul (x_var (i := 1) rfl (Rp.mono _ (e_5.trans (e_20.trans (e_33.trans (e_43.trans e_57)))) exz r_desks)) (x_var (i := 4) rfl (Rp.mono _ e_57 exz r_45))))) s_58 (fun _ _ h => h.elim) hm (fun _ e_90 => ⟨none, none, none, rfl, ⟨_, hc_65, hl_25, a2up (Ex.trans (e_33.trans (e_43.trans e_57)) e_90) hr_26⟩, ⟨_, hc_62, Rt.mono _ (Ex.trans (Ex.refl _) e_90) exz hx_64⟩, fr_66⟩) (fun _ _ _ _ _ => trivial) (fun _ _ _ _ _ e ⟨w_69, w_70, w_71, hs_68, ⟨vs_74, hc_75, hl_76, hr_77⟩, ⟨ws_78, hc_79, hx_80⟩, fr_81⟩ => ⟨w_69, w_70, w_71, hs_68, ⟨vs_74, hc_75, hl_76, a2up e hr_77⟩, ⟨ws_78, hc_79, Rt.mono _ e exz hx_80⟩, fr_81⟩) (fun N x_82 v_83 z_67 σ2 I_84 C_85 H_86 e_87 s_88 ⟨w_69, w_70, w_71, hs_68, ⟨vs_74, hc_75, hl_76, hr_77⟩, ⟨ws_78, hc_79, hx_80⟩, fr_81⟩ r_89 hm => ?_) (fun z_135 σ2 I_130 C_131 H_132 e_133 s_134 ⟨w_137, w_138, w_139, hs_136, ⟨vs_142, hc_143, hl_144, hr_145⟩, ⟨ws_146, hc_147, hx_148⟩, fr_149⟩ hm => ?_)
      · subst hs_68
        refine g1 (K := K) x_82 v_83 I_84 C_85 H_86 _ s_88 r_89 fun σ2 ⟨v_91, hs_93, r_92⟩ => ?_
        subst hs_93
        refine q_asg (E := E) (K := K) (σ := [some (.ref p0), some v_desks, some v_2, some (.ref p_15), some v_40, some v_54, some v_91, w_70, w_71, none, none]) (i := 7) (x_op o_fdiv (x_var (i := 6) rfl (Rp.mono _ (Ex.refl _) exz r_92)) (x_var (i := 1) rfl (Rp.mono _ (e_5.trans (e_20.trans (e_33.trans (e_43.trans (e_57.trans e_87))))) exz r_desks))) s_88 (fun _ _ h => h.elim) hm fun minute_94 v_95 I_96 H_97 e_98 s_99 r_100 hm => ?_
        refine qm_asg (E := E) (K := K) (σ := [some (.ref p0), some v_desks, some v_2, some (.ref p_15), some v_40, some v_54, some v_91, some v_95, w_71, none, none]) (i := 8) (m_callM (i := 0) rfl (am_pure (a_cons (x_op o_add (x_var (i := 7) rfl (Rp.mono _ (Ex.refl _) exz r_100)) (x_int (i := 1))) (a_one (x_var (i := 4) rfl (Rp.mono _ (e_57.trans (e_87.trans e_98)) exz r_45)))))) s_99 hc_79 (Rt.mono _ e_98 exz hx_80) hm fun closes_101 v_102 ws_108 I_103 C_109 H_104 e_105 s_106 hc_110 k_111 hx_112 r_107 hm => ?_
        have hc_113 := (k_111 _ (Ne.symm ne_27)).trans hc_75
        have fr_114 := fr_pool fr_81 k_111
        refine qm_app (E := E) (K := K) (σ := [some (.ref p0), some v_desks, some v_2, some (.ref p_15), some v_40, some v_54, some v_91, some v_95, some v_102, none, none]) (i := 3) rfl hc_113 (Ne.symm ne_27) (a2up (e_98.trans e_105) hr_77) (m_tup (am_cons off_same (m_op (fun _ => o_add) off_same (m_pure (x_var (i := 5) rfl (Rp.mono _ (e_87.trans (e_98.trans e_105)) exz r_59))) (m_callM (i := 0) rfl (am_pure (a_one (x_op o_add (x_var (i := 7) rfl (Rp.mono _ e_105 exz r_100)) (x_int (i := 1))))))) (am_one (m_pure (x_op o_add (x_var (i := 5) rfl (Rp.mono _ (e_87.trans (e_98.trans e_105)) exz r_59)) (x_var (i := 8) rfl (Rp.mono _ (Ex.refl _) exz r_107)))))) (Nat.le_of_ble_eq_true rfl)) s_106 hc_110 (Rt.mono _ (Ex.refl _) exz hx_112) hm fun wishes_115 vs_116 ws_117 I_118 C_119 H_120 e_121 s_122 hc_123 hc_124 k_125 hl_126 hr_127 hx_128 hm => ?_
        have fr_129 := fr_pool2 fr_114 hB_28 k_125
        exact hm _ _ _ _ (e_98.trans (e_105.trans e_121)) s_122 ⟨some v_91, some v_95, some v_102, rfl, ⟨_, hc_123, hl_126, a2up (Ex.refl _) hr_127⟩, ⟨_, hc_124, Rt.mono _ (Ex.refl _) exz hx_128⟩, fr_129⟩
      subst hs_136
      refine qm_ifj (E := E) (K := K) (σ := [some (.ref p0), some v_desks, some v_2, some (.ref p_15), some v_40, some v_54, w_137, w_138, w_139, none, none]) (fun (z_170 : (Pl × (List (Int × Int)))) σ2 I_173 C_174 => ∃ w_172 : Option V, σ2 = [some (.ref p0), some v_desks, some v_2, some (.ref p_15), some v_40, some v_54, w_137, w_138, w_139, w_172, none] ∧ (∃ ws_175 : List V, C_174 p0 = some (.lst ws_175) ∧ Rt.r pM z_170.1 ws_175 I_173 Z) ∧ (∃ vs_178 : List V, C_174 p_15 = some (.lst vs_178) ∧ vs_178.length ≤ sizeLine ∧ A2 (fun x u => Rp.r (pT (tc pI (t1 pI))) x u I_173 Z) z_170.2 vs_178) ∧ Ex (off C0 p0) C_174) (tm_and off_same (tm_pure (t_test (x_op o_lt (x_cb o_len (a_one (x_cell (i := 3) rfl ((off_ne (Ne.symm ne_27)).trans hc_143) hl_144 (a2up (Ex.refl _) hr_145)))) (x_int (i := 20))))) (tm_test (m_op (fun _ => o_eqI) off_same (m_callM (i := 0) rfl (am_pure (a_one (x_int (i := 2))))) (m_pure (x_int (i := 0)))))) s_134 hc_147 (Rt.mono _ (Ex.refl _) exz hx_148) hm (fun N y_158 ws_159 I_150 C_160 H_151 e_152 s_153 hc_161 k_162 hx_163 hm => ?_) (fun N y_164 ws_165 I_154 C_166 H_155 e_156 s_157 hc_167 k_168 hx_169 hm => ?_) (fun z_170 σ2 I_216 C_217 H_218 e_219 s_220 ⟨w_172, hs_171, ⟨ws_175, hc_176, hx_177⟩, ⟨vs_178, hc_179, hl_180, hr_181⟩, fr_182⟩ hm => ?_)
      · have hc_183 := (k_162 _ (Ne.symm ne_27)).trans hc_143
        have fr_184 := fr_pool fr_149 k_162
        refine qm_asg (E := E) (K := K) (σ := [some (.ref p0), some v_desks, some v_2, some (.ref p_15), some v_40, some v_54, w_137, w_138, w_139, none, none]) (i := 9) (m_callM (i := 0) rfl (am_pure (a_one (x_var (i := 4) rfl (Rp.mono _ (e_57.trans (e_133.trans e_152)) exz r_45))))) s_153 hc_161 (Rt.mono _ (Ex.refl _) exz hx_163) hm fun opens_185 v_186 ws_192 I_187 C_193 H_188 e_189 s_190 hc_194 k_195 hx_196 r_191 hm => ?_
        have hc_197 := (k_195 _ (Ne.symm ne_27)).trans hc_183
        have fr_198 := fr_pool fr_184 k_195
        refine qm_app (E := E) (K := K) (σ := [some (.ref p0), some v_desks, some v_2, some (.ref p_15), some v_40, some v_54, w_137, w_138, w_139, some v_186, none]) (i := 3) rfl hc_197 (Ne.symm ne_27) (a2up (e_152.trans e_189) hr_145) (m_tup (am_cons off_same (m_pure (x_op o_add (x_var (i := 5) rfl (Rp.mono _ (e_133.trans (e_152.trans e_189)) exz r_59)) (x_var (i := 9) rfl (Rp.mono _ (Ex.refl _) exz r_191)))) (am_one (m_op (fun _ => o_add) off_same (m_pure (x_var (i := 5) rfl (Rp.mono _ (e_133.trans (e_152.trans e_189)) exz r_59))) (m_callM (i := 0) rfl (am_pure (a_cons (x_op o_add (x_var (i := 9) rfl (Rp.mono _ (Ex.refl _) exz r_191)) (x_int (i := 1))) (a_one (x_var (i := 4) rfl (Rp.mono _ (e_57.trans (e_133.trans (e_152.trans e_189))) exz r_45))))))))) (Nat.le_of_ble_eq_true rfl)) s_190 hc_194 (Rt.mono _ (Ex.refl _) exz hx_196) hm fun wishes_199 vs_200 ws_201 I_202 C_203 H_204 e_205 s_206 hc_207 hc_208 k_209 hl_210 hr_211 hx_212 hm => ?_
        have fr_213 := fr_pool2 fr_198 hB_28 k_209
        exact hm _ _ _ _ (e_152.trans (e_189.trans e_205)) s_206 ⟨some v_186, rfl, ⟨_, hc_208, Rt.mono _ (Ex.refl _) exz hx_212⟩, ⟨_, hc_207, hl_210, a2up (Ex.refl _) hr_211⟩, fr_213⟩
      · have hc_214 := (k_168 _ (Ne.symm ne_27)).trans hc_143
        have fr_215 := fr_pool fr_149 k_168
        exact hm _ _ _ _ e_156 s_157 ⟨none, rfl, ⟨_, hc_167, Rt.mono _ (Ex.refl _) exz hx_169⟩, ⟨_, hc_214, hl_144, a2up e_156 hr_145⟩, fr_215⟩
      subst hs_171
      obtain ⟨I_221, C_222, e_223, s_224, h_225, k_226⟩ := freeze s_220 hc_179
      have r_228 := frz_list e_223 h_225 hl_180 hr_181
      have hc_229 := (k_226 _ ne_27).trans hc_176
      have fr_230 := fr_keep fr_182 hB_28 k_226
      refine qm_asg (E := E) (K := K) (σ := [some (.ref p0), some v_desks, some v_2, some (.ref p_15), some v_40, some v_54, w_137, w_138, w_139, w_172, none]) (i := 10) (m_callM (i := 0) rfl (am_pure (a_one (x_cb o_len (a_one (x_v (x_var (i := 3) rfl (Rp.mono _ (Ex.refl _) exz r_228)))))))) s_224 hc_229 (Rt.mono _ e_223 exz hx_177) hm fun shift_231 v_232 ws_238 I_233 C_239 H_234 e_235 s_236 hc_240 k_241 hx_242 r_237 hm => ?_
      have fr_243 := fr_pool fr_230 k_241
      refine q_ret (E := E) (K := K) (σ := [some (.ref p0), some v_desks, some v_2, some (.ref p_15), some v_40, some v_54, w_137, w_138, w_139, w_172, some v_232]) (x_op o_cat (x_v (x_sl (x_v (x_var (i := 3) rfl (Rp.mono _ e_235 exz r_228))) (p_some (x_var (i := 10) rfl (Rp.mono _ (Ex.refl _) exz r_237))) p_none)) (x_v (x_sl (x_v (x_var (i := 3) rfl (Rp.mono _ e_235 exz r_228))) p_none (p_some (x_var (i := 10) rfl (Rp.mono _ (Ex.refl _) exz r_237)))))) s_236 (fun _ _ h => h.elim) hm fun a_244 v_245 I_246 H_247 e_248 s_249 r_250 hm => ?_
      exact ret_pool hm (e_5.trans (e_20.trans (e_33.trans (e_43.trans (e_57.trans (e_133.trans (e_219.trans (e_223.trans (e_235.trans e_248))))))))) fr_243 s_249 hc_240 (Rt.mono _ e_248 exz hx_242) r_250
    · refine q_asg (E := E) (K := K) (σ := [some (.ref p0), some v_desks, some v_2, some (.ref p_15), none, none, none, none, none, none, none]) (i := 4) (x_int (i := 60)) s_38 (fun _ _ h => h.elim) hm fun width_251 v_252 I_253 H_254 e_255 s_256 r_257 hm => ?_
      refine s_ifj (E := E) (K := K) (σ := [some (.ref p0), some v_desks, some v_2, some (.ref p_15), some v_252, none, none, none, none, none, none]) (fun (z_266 : (Pl × Int)) σ2 I_268 C_269 => ∃ v_273 : V, σ2 = [some (.ref p0), some v_desks, some v_2, some (.ref p_15), some v_273, none, none, none, none, none, none] ∧ (∃ ws_270 : List V, C_269 p0 = some (.lst ws_270) ∧ Rt.r pM z_266.1 ws_270 I_268 Z) ∧ Rp.r pI z_266.2 v_273 I_268 Z ∧ C_269 p_15 = some (.lst vs_16) ∧ Ex (off C0 p0) C_269) (t_test (x_op o_eqI (x_var (i := 2) rfl (Rp.mono _ (e_20.trans (e_37.trans e_255)) exz r_7)) (x_int (i := 1)))) s_256 (fun _ _ h => h.elim) hm (fun N I_258 H_259 e_260 s_261 hm => ?_) (fun N I_262 H_263 e_264 s_265 hm => ?_) (fun z_266 σ2 I_291 C_292 H_293 e_294 s_295 ⟨v_273, hs_267, ⟨ws_270, hc_271, hx_272⟩, r_274, hc_275, fr_276⟩ hm => ?_)
      · refine qm_asg (E := E) (K := K) (σ := [some (.ref p0), some v_desks, some v_2, some (.ref p_15), some v_252, none, none, none, none, none, none]) (i := 4) (m_callM (i := 0) rfl (am_pure (a_cons (x_int (i := 1)) (a_one (x_int (i := 8)))))) s_261 hc_29 (Rt.mono _ (e_20.trans (e_37.trans (e_255.trans e_260))) exz hx_12) hm fun width_277 v_278 ws_284 I_279 C_285 H_280 e_281 s_282 hc_286 k_287 hx_288 r_283 hm => ?_
        have hc_289 := (k_287 _ (Ne.symm ne_27)).trans hc_23
        have fr_290 := fr_pool fr_30 k_287
        exact hm _ _ _ _ (e_260.trans e_281) s_282 ⟨v_278, rfl, ⟨_, hc_286, Rt.mono _ (Ex.refl _) exz hx_288⟩, Rp.mono _ (Ex.refl _) exz r_283, hc_289, fr_290⟩
      · exact hm _ _ _ _ e_264 s_265 ⟨v_252, rfl, ⟨_, hc_29, Rt.mono _ (e_20.trans (e_37.trans (e_255.trans e_264))) exz hx_12⟩, Rp.mono _ e_264 exz r_257, hc_23, fr_30⟩
      subst hs_267
      refine qm_asg (E := E) (K := K) (σ := [some (.ref p0), some v_desks, some v_2, some (.ref p_15), some v_273, none, none, none, none, none, none]) (i := 5) (m_callM (i := 0) rfl (am_pure (a_one (x_op o_sub (x_int (i := 61)) (x_var (i := 4) rfl (Rp.mono _ (Ex.refl _) exz r_274)))))) s_295 hc_271 (Rt.mono _ (Ex.refl _) exz hx_272) hm fun base_296 v_297 ws_303 I_298 C_304 H_299 e_300 s_301 hc_305 k_306 hx_307 r_302 hm => ?_
      have hc_308 := (k_306 _ (Ne.symm ne_27)).trans hc_275
      have fr_309 := fr_pool fr_276 k_306
      refine qm_forN (E := E) (K := K) (σ := [some (.ref p0), some v_desks, some v_2, some (.ref p_15), some v_273, some v_297, none, none, none, none, none]) (s0 := fun (y_333 : Pl) => (wishes_14, y_333)) (fun (z_310 : ((List (Int × Int)) × Pl)) σ2 I_314 C_315 => ∃ w_312 : Option V, ∃ w_313 : Option V, σ2 = [some (.ref p0), some v_desks, some v_2, some (.ref p_15), some v_273, some v_297, w_312, none, none, w_313, none] ∧ (∃ vs_316 : List V, C_315 p_15 = some (.lst vs_316) ∧ vs_316.length ≤ sizeLine ∧ A2 (fun x u => Rp.r (pT (tc pI (t1 pI))) x u I_314 Z) z_310.1 vs_316) ∧ (∃ ws_320 : List V, C_315 p0 = some (.lst ws_320) ∧ Rt.r pM z_310.2 ws_320 I_314 Z) ∧ Ex (off C0 p0) C_315) (im_rng1 (am_one (m_callM (i := 0) rfl (am_pure (a_one (x_int (i := 21))))))) s_301 hc_305 (Rt.mono _ (Ex.refl _) exz hx_307) hm (fun y_333 ws_334 I_335 C_336 e_332 hc_337 k_338 hx_339 => by
      have hc_340 := (k_338 _ (Ne.symm ne_27)).trans hc_308
      have fr_341 := fr_pool fr_309 k_338
      exact ⟨none, none, rfl, ⟨_, hc_340, hl_25, a2up (e_37.trans (e_255.trans (e_294.trans (e_300.trans e_332)))) hr_26⟩, ⟨_, hc_337, Rt.mono _ (Ex.refl _) exz hx_339⟩, fr_341⟩) (fun _ _ _ _ _ e ⟨w_312, w_313, hs_311, ⟨vs_316, hc_317, hl_318, hr_319⟩, ⟨ws_320, hc_321, hx_322⟩, fr_323⟩ => ⟨w_312, w_313, hs_311, ⟨vs_316, hc_317, hl_318, a2up e hr_319⟩, ⟨ws_320, hc_321, Rt.mono _ e exz hx_322⟩, fr_323⟩) (fun N x_324 v_325 z_310 σ2 I_326 C_327 H_328 e_329 s_330 ⟨w_312, w_313, hs_311, ⟨vs_316, hc_317, hl_318, hr_319⟩, ⟨ws_320, hc_321, hx_322⟩, fr_323⟩ r_331 hm => ?_) (fun z_379 σ2 I_374 C_375 H_376 e_377 s_378 ⟨w_381, w_382, hs_380, ⟨vs_385, hc_386, hl_387, hr_388⟩, ⟨ws_389, hc_390, hx_391⟩, fr_392⟩ hm => ?_)
      · subst hs_311
        refine g1 (K := K) x_324 v_325 I_326 C_327 H_328 _ s_330 r_331 fun σ2 ⟨v_342, hs_344, r_343⟩ => ?_
        subst hs_344
        refine qm_asg (E := E) (K := K) (σ := [some (.ref p0), some v_desks, some v_2, some (.ref p_15), some v_273, some v_297, some v_342, none, none, w_313, none]) (i := 9) (m_callM (i := 0) rfl (am_pure (a_one (x_var (i := 4) rfl (Rp.mono _ (e_300.trans e_329) exz r_274))))) s_330 hc_321 (Rt.mono _ (Ex.refl _) exz hx_322) hm fun opens_345 v_346 ws_352 I_347 C_353 H_348 e_349 s_350 hc_354 k_355 hx_356 r_351 hm => ?_
        have hc_357 := (k_355 _ (Ne.symm ne_27)).trans hc_317
        have fr_358 := fr_pool fr_323 k_355
        refine qm_app (E := E) (K := K) (σ := [some (.ref p0), some v_desks, some v_2, some (.ref p_15), some v_273, some v_297, some v_342, none, none, some v_346, none]) (i := 3) rfl hc_357 (Ne.symm ne_27) (a2up e_349 hr_319) (m_tup (am_cons off_same (m_pure (x_op o_add (x_var (i := 5) rfl (Rp.mono _ (e_329.trans e_349) exz r_302)) (x_var (i := 9) rfl (Rp.mono _ (Ex.refl _) exz r_351)))) (am_one (m_op (fun _ => o_add) off_same (m_pure (x_var (i := 5) rfl (Rp.mono _ (e_329.trans e_349) exz r_302))) (m_callM (i := 0) rfl (am_pure (a_cons (x_op o_add (x_var (i := 9) rfl (Rp.mono _ (Ex.refl _) exz r_351)) (x_int (i := 1))) (a_one (x_var (i := 4) rfl (Rp.mono _ (e_300.trans (e_329.trans e_349)) exz r_274))))))))) (Nat.le_of_ble_eq_true rfl)) s_350 hc_354 (Rt.mono _ (Ex.refl _) exz hx_356) hm fun wishes_359 vs_360 ws_361 I_362 C_363 H_364 e_365 s_366 hc_367 hc_368 k_369 hl_370 hr_371 hx_372 hm => ?_
        have fr_373 := fr_pool2 fr_358 hB_28 k_369
        exact hm _ _ _ _ (e_349.trans e_365) s_366 ⟨some v_342, some v_346, rfl, ⟨_, hc_367, hl_370, a2up (Ex.refl _) hr_371⟩, ⟨_, hc_368, Rt.mono _ (Ex.refl _) exz hx_372⟩, fr_373⟩
      subst hs_380
      obtain ⟨I_393, C_394, e_395, s_396, h_397, k_398⟩ := freeze s_378 hc_386
      have r_400 := frz_list e_395 h_397 hl_387 hr_388
      have hc_401 := (k_398 _ ne_27).trans hc_390
      have fr_402 := fr_keep fr_392 hB_28 k_398
      refine q_ret (E := E) (K := K) (σ := [some (.ref p0), some v_desks, some v_2, some (.ref p_15), some v_273, some v_297, w_381, none, none, w_382, none]) (x_var (i := 3) rfl (Rp.mono _ (Ex.refl _) exz r_400)) s_396 (fun _ _ h => h.elim) hm fun a_403 v_404 I_405 H_406 e_407 s_408 r_409 hm => ?_
      exact ret_pool hm (e_5.trans (e_20.trans (e_37.trans (e_255.trans (e_294.trans (e_300.trans (e_377.trans (e_395.trans e_407)))))))) fr_402 s_408 hc_401 (Rt.mono _ (e_395.trans e_407) exz hx_391) r_409
def m__law_inside (a_wishes : (List (Int × Int))) (a_start : Int) (a_end : Int) : Res Int :=
  ((un rLen ((Res.ok a_wishes).bind (filR (fun (x_1 : (Int × Int)) => (andR (bin rLe (Res.ok a_start) (un (fun p => Res.ok p.1) (Res.ok x_1))) (bin rLe (un (fun p => Res.ok p.2) (Res.ok x_1)) (Res.ok a_end)))) (fun (x_1 : (Int × Int)) => (Res.ok x_1))))).bind fun a_8 => Res.ok a_8)
abbrev N__law_inside : List Str := ["wishes", "start", "end", "wish"]
theorem sc__law_inside : FnScope N__law_inside ["wishes", "start", "end"] (defScope s__law_inside) := ⟨rfl, rfl, rfl, by decide +kernel, rfl, by decide +kernel, by decide +kernel⟩
theorem bind__law_inside {K : PySem.W.Frag} {mg : Str → Option Value} {T : Tx K mg} : Binds K T.d__law_inside ["wishes", "start", "end"] [] := FunD.bindsN T.F__law_inside fun _ _ _ _ _ _ us hl => match us, hl with | [_, _, _], _ => rfl
abbrev sp__law_inside (K : PySem.W.Frag) : Sp := spP K (tc (pL (pT (tc pI (t1 pI)))) (tc pI (t1 pI))) (fun (p : ((List (Int × Int)) × Int × Int)) => m__law_inside p.1 p.2.1 p.2.2) pI
theorem ok__law_inside (T : Tx K mg) : FnOk P w K mg base (L2.CX P w) 1 T.f__law_inside T.d__law_inside ["wishes", "start", "end"] (sp__law_inside K) := by
  refine T.F__law_inside.ok sc__law_inside (fun vs H Q E h => ?_) (fun cdv A outer s H vs Q E hr h => ?_)
  · obtain ⟨I, C, a, _, hr, _⟩ := h
    exact Rt.len _ hr
  · obtain ⟨I0, C0, ⟨a_wishes, a_start, a_end⟩, hs, ⟨v_wishes, us0, rfl, r_wishes, v_start, us1, rfl, r_start, v_end, rfl, r_end⟩, hm⟩ := h
    have hm : Post (m__law_inside a_wishes a_start a_end) (PQ pI I0 C0 Q) (PX E K I0 C0) := hm
    replace r_wishes : Rp.r (pL (pT (tc pI (t1 pI)))) a_wishes v_wishes I0 Z := Im.im r_wishes
    replace r_start : Rp.r pI a_start v_start I0 Z := Im.im r_start
    replace r_end : Rp.r pI a_end v_end I0 Z := Im.im r_end
    unfold m__law_inside at hm
    refine ⟨_, (pss_cons (ps_ret (pe_callB (r := rLen1 K) call_len_seq (by rfl) T.gb_len bt_len (pa_cons (pe_lc (own := [("wish", 3)]) rfl sc__law_inside.nd (show PI _ _ _ (iList K _) from pi_list (pv 0)) (blkOk_by (own := [("wish", 3)]) (N := N__law_inside) (sc := defScope s__law_inside) (by decide +kernel)) (fun _ _ _ _ _ => (pg_name (i := 3) sc__law_inside.nd rfl (Or.inl rfl))) (fun _ _ _ _ _ => (pts_one (PW.pt (pw_and (pt_cmpR op_le (pv 1) (pe_ix (r := rIxT K) ix_tup (pv 3) pe_int (fun _ _ => rfl)) (nomark _)) (pw_and1 (pt_cmpR op_le (pe_ix (r := rIxT K) ix_tup (pv 3) pe_int (fun _ _ => rfl)) (pv 2) (nomark _))))))) (fun _ _ _ _ _ => (pv 3))) pa_nil))) pss_nil), ?_⟩
    refine q_ret (E := E) (K := K) (σ := [some v_wishes, some v_start, some v_end, none]) (x_cb o_len (a_one (x_v (x_lcg (i_list (x_var (i := 0) rfl (Rp.mono _ (Ex.refl _) exz r_wishes))) g1 (fun _ _ _ _ ⟨_, h, _⟩ => by rw [h]; rfl) (fun x_1 σ2 I_2 C_3 e_4 c_5 ⟨v_6, h, r_7⟩ => by subst h; exact (t_and (t_test (x_op o_le (x_var (i := 1) rfl (Rp.mono _ e_4 exz r_start)) (x_k (k := ((0 : Nat) : Int)) (o_pj pj0) (x_var (i := 3) rfl (Rp.mono _ (Ex.refl _) exz r_7))))) (t_test (x_op o_le (x_k (k := ((1 : Nat) : Int)) (o_pj (pjs pj1)) (x_var (i := 3) rfl (Rp.mono _ (Ex.refl _) exz r_7))) (x_var (i := 2) rfl (Rp.mono _ e_4 exz r_end)))))) (fun x_1 σ2 I_2 C_3 e_4 c_5 ⟨v_6, h, r_7⟩ => by subst h; exact (x_var (i := 3) rfl (Rp.mono _ (Ex.refl _) exz r_7))) (fun _ _ _ _ _ e ⟨v_6, h, r_7⟩ => ⟨v_6, h, Rp.mono _ e exz r_7⟩))))) hs (fun _ _ h => PX.mono (Ex.refl _) (Ex.refl _) h) hm fun a_8 v_9 I_10 H_11 e_12 s_13 r_14 hm => ?_
    exact hm v_9 I_10 H_11 e_12 (St.less s_13 (Ex.refl _)) (Im.im r_14)
def m__law_can (a_wishes : (List (Int × Int))) (a_desks : Int) : Res Bool :=
  (((Res.ok a_wishes).bind fun xs => loopR (fun (x_8 : (Int × Int)) (z_1 : Unit) => (((Res.ok a_wishes).bind fun xs => loopR (fun (x_26 : (Int × Int)) (z_20 : Unit) => (ifR (andR (bin rLt (un (fun p => Res.ok p.1) (Res.ok x_8)) (un (fun p => Res.ok p.2) (Res.ok x_26))) (bin rGt (un (fun (p : ((List (Int × Int)) × Int × Int)) => m__law_inside p.1 p.2.1 p.2.2) (pair (Res.ok a_wishes) (pair (un (fun p => Res.ok p.1) (Res.ok x_8)) (un (fun p => Res.ok p.2) (Res.ok x_26))))) (bin rMul (Res.ok a_desks) (bin rSub (un (fun p => Res.ok p.2) (Res.ok x_26)) (un (fun p => Res.ok p.1) (Res.ok x_8)))))) ((Res.ok false).bind fun a_46 => Res.ok (Out.rt a_46)) (Res.ok (Out.nx ())))) xs ()).bind fun (o : Out Unit Bool) => match o with | .nx z_58 => (Res.ok (Out.nx ())) | .br _ => Res.bad | .rt r => Res.ok (Out.rt r))) xs ()).bind fun (o : Out Unit Bool) => match o with | .nx z_69 => ((Res.ok true).bind fun a_76 => Res.ok a_76) | .br _ => Res.bad | .rt r => Res.ok r)
abbrev N__law_can : List Str := ["wishes", "desks", "one", "two"]
theorem sc__law_can : FnScope N__law_can ["wishes", "desks"] (defScope s__law_can) := ⟨rfl, rfl, rfl, by decide +kernel, rfl, by decide +kernel, by decide +kernel⟩
theorem bind__law_can {K : PySem.W.Frag} {mg : Str → Option Value} {T : Tx K mg} : Binds K T.d__law_can ["wishes", "desks"] [] := FunD.bindsN T.F__law_can fun _ _ _ _ _ _ us hl => match us, hl with | [_, _], _ => rfl
abbrev sp__law_can (K : PySem.W.Frag) : Sp := spP K (tc (pL (pT (tc pI (t1 pI)))) (t1 pI)) (fun (p : ((List (Int × Int)) × Int)) => m__law_can p.1 p.2) pB
theorem ok__law_can (T : Tx K mg) : FnOk P w K mg base (L2.CX P w) 2 T.f__law_can T.d__law_can ["wishes", "desks"] (sp__law_can K) := by
  refine T.F__law_can.ok sc__law_can (fun vs H Q E h => ?_) (fun cdv A outer s H vs Q E hr h => ?_)
  · obtain ⟨I, C, a, _, hr, _⟩ := h
    exact Rt.len _ hr
  · obtain ⟨I0, C0, ⟨a_wishes, a_desks⟩, hs, ⟨v_wishes, us0, rfl, r_wishes, v_desks, rfl, r_desks⟩, hm⟩ := h
    have hm : Post (m__law_can a_wishes a_desks) (PQ pB I0 C0 Q) (PX E K I0 C0) := hm
    replace r_wishes : Rp.r (pL (pT (tc pI (t1 pI)))) a_wishes v_wishes I0 Z := Im.im r_wishes
    replace r_desks : Rp.r pI a_desks v_desks I0 Z := Im.im r_desks
    unfold m__law_can at hm
    refine ⟨_, (pss_cons (ps_for (passes_of rfl) rfl (show PI _ _ _ (iList K _) from pi_list (pv 0)) (pg_name (i := 2) sc__law_can.nd rfl (Or.inl rfl)) (pss_cons (ps_for (passes_of rfl) rfl (show PI _ _ _ (iList K _) from pi_list (pv 0)) (pg_name (i := 3) sc__law_can.nd rfl (Or.inl rfl)) (pss_cons (ps_if (PW.pt (pw_and (pt_cmpR op_lt (pe_ix (r := rIxT K) ix_tup (pv 2) pe_int (fun _ _ => rfl)) (pe_ix (r := rIxT K) ix_tup (pv 3) pe_int (fun _ _ => rfl)) (nomark _)) (pw_and1 (pt_cmpR op_gt (pe_call (ok__law_inside T) (hr.mono (by decide)) rfl T.g__law_inside T.F__law_inside.kp bind__law_inside .nil passE (pa_cons (pv 0) (pa_cons (pe_ix (r := rIxT K) ix_tup (pv 2) pe_int (fun _ _ => rfl)) (pa_cons (pe_ix (r := rIxT K) ix_tup (pv 3) pe_int (fun _ _ => rfl)) pa_nil)))) (pe_op op_mul (pv 1) (pe_op op_sub (pe_ix (r := rIxT K) ix_tup (pv 3) pe_int (fun _ _ => rfl)) (pe_ix (r := rIxT K) ix_tup (pv 2) pe_int (fun _ _ => rfl)))) (nomark _))))) (pss_cons (ps_ret pe_bl) pss_nil) pss_nil) pss_nil)) pss_nil)) (pss_cons (ps_ret pe_bl) pss_nil)), ?_⟩
    refine s_forR (E := E) (K := K) (σ := [some v_wishes, some v_desks, none, none]) (fun (z_1 : Unit) σ2 I_5 C_6 => ∃ w_3 : Option V, ∃ w_4 : Option V, σ2 = [some v_wishes, some v_desks, w_3, w_4] ∧ Ex C0 C_6) (i_list (x_var (i := 0) rfl (Rp.mono _ (Ex.refl _) exz r_wishes))) hs (fun _ _ h => PX.mono (Ex.refl _) (Ex.refl _) h) hm (fun _ e_16 => ⟨none, none, rfl, (Ex.refl _)⟩) (fun _ _ _ _ _ => trivial) (fun _ _ _ _ _ e ⟨w_3, w_4, hs_2, fr_7⟩ => ⟨w_3, w_4, hs_2, fr_7⟩) (fun N x_8 v_9 z_1 σ2 I_10 C_11 H_12 e_13 s_14 ⟨w_3, w_4, hs_2, fr_7⟩ r_15 hm => ?_) (fun z_69 σ2 I_64 C_65 H_66 e_67 s_68 ⟨w_71, w_72, hs_70, fr_75⟩ hm => ?_)
    · subst hs_2
      refine g1 (K := K) x_8 v_9 I_10 C_11 H_12 _ s_14 r_15 fun σ2 ⟨v_17, hs_19, r_18⟩ => ?_
      subst hs_19
      refine s_forR (E := E) (K := K) (σ := [some v_wishes, some v_desks, some v_17, w_4]) (fun (z_20 : Unit) σ2 I_23 C_24 => ∃ w_22 : Option V, σ2 = [some v_wishes, some v_desks, some v_17, w_22] ∧ Ex C0 C_24) (i_list (x_var (i := 0) rfl (Rp.mono _ e_13 exz r_wishes))) s_14 (fun _ _ h => PX.mono e_13 fr_7 h) hm (fun _ e_34 => ⟨w_4, rfl, fr_7⟩) (fun _ _ _ _ _ => trivial) (fun _ _ _ _ _ e ⟨w_22, hs_21, fr_25⟩ => ⟨w_22, hs_21, fr_25⟩) (fun N x_26 v_27 z_20 σ2 I_28 C_29 H_30 e_31 s_32 ⟨w_22, hs_21, fr_25⟩ r_33 hm => ?_) (fun z_58 σ2 I_53 C_54 H_55 e_56 s_57 ⟨w_60, hs_59, fr_63⟩ hm => ?_)
      · subst hs_21
        refine g1 (K := K) x_26 v_27 I_28 C_29 H_30 _ s_32 r_33 fun σ2 ⟨v_35, hs_37, r_36⟩ => ?_
        subst hs_37
        refine s_if (E := E) (K := K) (σ := [some v_wishes, some v_desks, some v_17, some v_35]) (t_and (t_test (x_op o_lt (x_k (k := ((0 : Nat) : Int)) (o_pj pj0) (x_var (i := 2) rfl (Rp.mono _ e_31 exz r_18))) (x_k (k := ((1 : Nat) : Int)) (o_pj (pjs pj1)) (x_var (i := 3) rfl (Rp.mono _ (Ex.refl _) exz r_36))))) (t_test (x_op o_gt (x_call (a_cons (x_var (i := 0) rfl (Rp.mono _ (e_13.trans e_31) exz r_wishes)) (a_cons (x_k (k := ((0 : Nat) : Int)) (o_pj pj0) (x_var (i := 2) rfl (Rp.mono _ e_31 exz r_18))) (a_one (x_k (k := ((1 : Nat) : Int)) (o_pj (pjs pj1)) (x_var (i := 3) rfl (Rp.mono _ (Ex.refl _) exz r_36))))))) (x_op o_mul (x_var (i := 1) rfl (Rp.mono _ (e_13.trans e_31) exz r_desks)) (x_op o_sub (x_k (k := ((1 : Nat) : Int)) (o_pj (pjs pj1)) (x_var (i := 3) rfl (Rp.mono _ (Ex.refl _) exz r_36))) (x_k (k := ((0 : Nat) : Int)) (o_pj pj0) (x_var (i := 2) rfl (Rp.mono _ e_31 exz r_18)))))))) s_32 (fun _ _ h => PX.mono (e_13.trans e_31) fr_25 h) hm (fun I_38 H_39 e_40 s_41 hm => ?_) (fun I_42 H_43 e_44 s_45 hm => ?_)
        · refine q_ret (E := E) (K := K) (σ := [some v_wishes, some v_desks, some v_17, some v_35]) x_bl s_41 (fun _ _ h => PX.mono (e_13.trans (e_31.trans e_40)) fr_25 h) hm fun a_46 v_47 I_48 H_49 e_50 s_51 r_52 hm => ?_
          exact hm v_47 I_48 H_49 (e_13.trans (e_31.trans (e_40.trans e_50))) (St.less s_51 fr_25) (Im.im r_52)
        · exact hm _ _ _ _ e_44 s_45 ⟨some v_35, rfl, fr_25⟩
      subst hs_59
      exact hm _ _ _ _ e_56 s_57 ⟨some v_17, w_60, rfl, fr_63⟩
    subst hs_70
    refine q_ret (E := E) (K := K) (σ := [some v_wishes, some v_desks, w_71, w_72]) x_bl s_68 (fun _ _ h => PX.mono e_67 fr_75 h) hm fun a_76 v_77 I_78 H_79 e_80 s_81 r_82 hm => ?_
    exact hm v_77 I_78 H_79 (e_67.trans e_80) (St.less s_81 fr_75) (Im.im r_82)
def m__law_chosen (a_wishes : (List (Int × Int))) (a_desks : Int) (a_weights : (List Int)) (a_last : Int) : Res (List Int) :=
  ((Res.ok ([] : List Int)).bind fun (chosen_1 : (List Int)) => (((un sortP ((un rng1 (un rLen (Res.ok a_wishes))).bind (mapR (fun (x_16 : Int) => (pair (un rNeg (bin ix (Res.ok a_weights) (Res.ok x_16))) (Res.ok x_16)))))).bind fun xs => loopR (fun (x_33 : (Int × Int)) (z_23 : (List Int)) => (ifR (bin eqR (un (fun p => Res.ok p.2) (Res.ok x_33)) (Res.ok a_last)) ((Res.ok z_23).bind fun a_62 => Res.ok (Out.rt a_62)) (ifR (un (fun (p : ((List (Int × Int)) × Int)) => m__law_can p.1 p.2) (pair ((bin rCatR (Res.ok z_23) (consR (un (fun p => Res.ok p.2) (Res.ok x_33)) (Res.ok []))).bind (mapR (fun (x_69 : Int) => (bin ix (Res.ok a_wishes) (Res.ok x_69))))) (Res.ok a_desks))) (((un (fun p => Res.ok p.2) (Res.ok x_33)).bind fun x => push z_23 x).bind fun (chosen_84 : (List Int)) => (Res.ok (Out.nx chosen_84))) (Res.ok (Out.nx z_23))))) xs chosen_1).bind fun (o : Out (List Int) (List Int)) => match o with | .nx z_101 => ((Res.ok z_101).bind fun a_120 => Res.ok a_120) | .br _ => Res.bad | .rt r => Res.ok r))
abbrev N__law_chosen : List Str := ["wishes", "desks", "weights", "last", "chosen", "pair", "k"]
theorem sc__law_chosen : FnScope N__law_chosen ["wishes", "desks", "weights", "last"] (defScope s__law_chosen) := ⟨rfl, rfl, rfl, by decide +kernel, rfl, by decide +kernel, by decide +kernel⟩
theorem bind__law_chosen {K : PySem.W.Frag} {mg : Str → Option Value} {T : Tx K mg} : Binds K T.d__law_chosen ["wishes", "desks", "weights", "last"] [] := FunD.bindsN T.F__law_chosen fun _ _ _ _ _ _ us hl => match us, hl with | [_, _, _, _], _ => rfl
abbrev sp__law_chosen (K : PySem.W.Frag) : Sp := spP K (tc (pL (pT (tc pI (t1 pI)))) (tc pI (tc (pL pI) (t1 pI)))) (fun (p : ((List (Int × Int)) × Int × (List Int) × Int)) => m__law_chosen p.1 p.2.1 p.2.2.1 p.2.2.2) (pL pI)
theorem ok__law_chosen (T : Tx K mg) : FnOk P w K mg base (L2.CX P w) 3 T.f__law_chosen T.d__law_chosen ["wishes", "desks", "weights", "last"] (sp__law_chosen K) := by
  refine T.F__law_chosen.ok sc__law_chosen (fun vs H Q E h => ?_) (fun cdv A outer s H vs Q E hr h => ?_)
  · obtain ⟨I, C, a, _, hr, _⟩ := h
    exact Rt.len _ hr
  · obtain ⟨I0, C0, ⟨a_wishes, a_desks, a_weights, a_last⟩, hs, ⟨v_wishes, us0, rfl, r_wishes, v_desks, us1, rfl, r_desks, v_weights, us2, rfl, r_weights, v_last, rfl, r_last⟩, hm⟩ := h
    have hm : Post (m__law_chosen a_wishes a_desks a_weights a_last) (PQ (pL pI) I0 C0 Q) (PX E K I0 C0) := hm
    replace r_wishes : Rp.r (pL (pT (tc pI (t1 pI)))) a_wishes v_wishes I0 Z := Im.im r_wishes
    replace r_desks : Rp.r pI a_desks v_desks I0 Z := Im.im r_desks
    replace r_weights : Rp.r (pL pI) a_weights v_weights I0 Z := Im.im r_weights
    replace r_last : Rp.r pI a_last v_last I0 Z := Im.im r_last
    unfold m__law_chosen at hm
    refine ⟨_, (pss_cons (ps_set (i := 4) sc__law_chosen.nd rfl (Or.inl rfl) (pe_lst pa_nil)) (pss_cons (ps_for (passes_of rfl) rfl (show PI _ _ _ (iList K _) from pi_list (pe_callB (r := rSortedPO K) cr_sortedPO (by rfl) T.gb_sorted bt_sorted (pa_cons (pe_lc (own := [("k", 6)]) rfl sc__law_chosen.nd (pi_range1 (by rfl) T.gb_range (pa_cons (pe_callB (r := rLen1 K) call_len_seq (by rfl) T.gb_len bt_len (pa_cons (pv 0) pa_nil)) pa_nil)) (blkOk_by (own := [("k", 6)]) (N := N__law_chosen) (sc := defScope s__law_chosen) (by decide +kernel)) (fun _ _ _ _ _ => (pg_name (i := 6) sc__law_chosen.nd rfl (Or.inl rfl))) (fun _ _ _ _ _ => pts_nil) (fun _ _ _ _ _ => (pe_tup (pa_cons (pe_un un_neg (pe_ix (r := rIxL K) ix_list (pv 2) (pv 6) (fun _ _ => rfl))) (pa_cons (pv 6) pa_nil))))) pa_nil))) (pg_name (i := 5) sc__law_chosen.nd rfl (Or.inl rfl)) (pss_cons (ps_if (pt_cmpR op_eq (pe_ix (r := rIxT K) ix_tup (pv 5) pe_int (fun _ _ => rfl)) (pv 3) (nomark _)) (pss_cons (ps_ret (pv 4)) pss_nil) pss_nil) (pss_cons (ps_if (pt_val (pe_call (ok__law_can T) (hr.mono (by decide)) rfl T.g__law_can T.F__law_can.kp bind__law_can .nil passE (pa_cons (pe_lc (own := [("k", 6)]) rfl sc__law_chosen.nd (show PI _ _ _ (iList K _) from pi_list (pe_op op_cat (pv 4) (pe_lst (pa_cons (pe_ix (r := rIxT K) ix_tup (pv 5) pe_int (fun _ _ => rfl)) pa_nil)))) (blkOk_by (own := [("k", 6)]) (N := N__law_chosen) (sc := defScope s__law_chosen) (by decide +kernel)) (fun _ _ _ _ _ => (pg_name (i := 6) sc__law_chosen.nd rfl (Or.inl rfl))) (fun _ _ _ _ _ => pts_nil) (fun _ _ _ _ _ => (pe_ix (r := rIxL K) ix_list (pv 0) (pv 6) (fun _ _ => rfl)))) (pa_cons (pv 1) pa_nil)))) (pss_cons (ps_expr (show PE _ _ (tBM K "list" rAppend _ _) from pe_bm PySem.F.plainAttrs_list PySem.F.slot_list_append PySem.F.type_list_append mt_append (pv 4) (pa_cons (pe_ix (r := rIxT K) ix_tup (pv 5) pe_int (fun _ _ => rfl)) pa_nil))) pss_nil) pss_nil) pss_nil))) (pss_cons (ps_ret (pv 4)) pss_nil))), ?_⟩
    refine q_asgN (E := E) (K := K) (σ := [some v_wishes, some v_desks, some v_weights, some v_last, none, none, none]) (i := 4) (n_lst (R := pI) al_nil (by decide)) hs (fun _ _ h => PX.mono (Ex.refl _) (Ex.refl _) h) hm fun chosen_1 p_2 vs_3 I_4 C_5 H_6 e_7 hp_8 s_9 hc_10 k_11 hl_12 hr_13 hm => ?_
    have hB_14 := Ex.free (Ex.refl _) hp_8
    have fr_15 := fr_keep (Ex.refl _) hB_14 k_11
    refine s_forR (E := E) (K := K) (σ := [some v_wishes, some v_desks, some v_weights, some v_last, some (.ref p_2), none, none]) (fun (z_23 : (List Int)) σ2 I_26 C_27 => ∃ w_25 : Option V, σ2 = [some v_wishes, some v_desks, some v_weights, some v_last, some (.ref p_2), w_25, none] ∧ (∃ vs_28 : List V, C_27 p_2 = some (.lst vs_28) ∧ vs_28.length ≤ sizeLine ∧ A2 (fun x u => Rp.r pI x u I_26 Z) z_23 vs_28) ∧ Ex C0 C_27) (i_list (x_own (n_cb n_sortP (a_one (x_v (x_lc (i_rng1 (a_one (x_cb o_len (a_one (x_v (x_var (i := 0) rfl (Rp.mono _ e_7 exz r_wishes))))))) g1 (fun _ _ _ _ ⟨_, h, _⟩ => by rw [h]; rfl) (fun x_16 σ2 I_17 C_18 e_19 c_20 ⟨v_21, h, r_22⟩ => by subst h; exact (x_tup (a_cons (x_un o_neg (x_op o_ix (x_v (x_var (i := 2) rfl (Rp.mono _ (e_7.trans e_19) exz r_weights))) (x_var (i := 6) rfl (Rp.mono _ (Ex.refl _) exz r_22)))) (a_one (x_var (i := 6) rfl (Rp.mono _ (Ex.refl _) exz r_22)))) (Nat.le_of_ble_eq_true rfl))) (fun _ _ _ _ _ e ⟨v_21, h, r_22⟩ => ⟨v_21, h, Rp.mono _ e exz r_22⟩))))))) s_9 (fun _ _ h => PX.mono e_7 fr_15 h) hm (fun _ e_41 => ⟨none, rfl, ⟨_, hc_10, hl_12, a2up (Ex.trans (Ex.refl _) e_41) hr_13⟩, fr_15⟩) (fun _ _ _ _ _ => trivial) (fun _ _ _ _ _ e ⟨w_25, hs_24, ⟨vs_28, hc_29, hl_30, hr_31⟩, fr_32⟩ => ⟨w_25, hs_24, ⟨vs_28, hc_29, hl_30, a2up e hr_31⟩, fr_32⟩) (fun N x_33 v_34 z_23 σ2 I_35 C_36 H_37 e_38 s_39 ⟨w_25, hs_24, ⟨vs_28, hc_29, hl_30, hr_31⟩, fr_32⟩ r_40 hm => ?_) (fun z_101 σ2 I_96 C_97 H_98 e_99 s_100 ⟨w_103, hs_102, ⟨vs_106, hc_107, hl_108, hr_109⟩, fr_110⟩ hm => ?_)
    · subst hs_24
      refine g1 (K := K) x_33 v_34 I_35 C_36 H_37 _ s_39 r_40 fun σ2 ⟨v_42, hs_44, r_43⟩ => ?_
      subst hs_44
      refine s_if (E := E) (K := K) (σ := [some v_wishes, some v_desks, some v_weights, some v_last, some (.ref p_2), some v_42, none]) (t_test (x_op o_eqI (x_k (k := ((1 : Nat) : Int)) (o_pj (pjs pj1)) (x_var (i := 5) rfl (Rp.mono _ (Ex.refl _) exz r_43))) (x_var (i := 3) rfl (Rp.mono _ (e_7.trans e_38) exz r_last)))) s_39 (fun _ _ h => PX.mono (e_7.trans e_38) fr_32 h) hm (fun I_45 H_46 e_47 s_48 hm => ?_) (fun I_49 H_50 e_51 s_52 hm => ?_)
      · obtain ⟨I_53, C_54, e_55, s_56, h_57, k_58⟩ := freeze s_48 hc_29
        have r_60 := frz_list (e_47.trans e_55) h_57 hl_30 hr_31
        have fr_61 := fr_keep fr_32 hB_14 k_58
        refine q_ret (E := E) (K := K) (σ := [some v_wishes, some v_desks, some v_weights, some v_last, some (.ref p_2), some v_42, none]) (x_var (i := 4) rfl (Rp.mono _ (Ex.refl _) exz r_60)) s_56 (fun _ _ h => PX.mono (e_7.trans (e_38.trans (e_47.trans e_55))) fr_61 h) hm fun a_62 v_63 I_64 H_65 e_66 s_67 r_68 hm => ?_
        exact hm v_63 I_64 H_65 (e_7.trans (e_38.trans (e_47.trans (e_55.trans e_66)))) (St.less s_67 fr_61) (Im.im r_68)
      · refine s_if (E := E) (K := K) (σ := [some v_wishes, some v_desks, some v_weights, some v_last, some (.ref p_2), some v_42, none]) (t_B (x_call (a_cons (x_lc (i_list (x_op o_cat (x_cell (i := 4) rfl hc_29 hl_30 (a2up e_51 hr_31)) (x_v (x_lst (al_cons (x_k (k := ((1 : Nat) : Int)) (o_pj (pjs pj1)) (x_var (i := 5) rfl (Rp.mono _ e_51 exz r_43))) al_nil) (Nat.le_of_ble_eq_true rfl))))) g1 (fun _ _ _ _ ⟨_, h, _⟩ => by rw [h]; rfl) (fun x_69 σ2 I_70 C_71 e_72 c_73 ⟨v_74, h, r_75⟩ => by subst h; exact (x_op o_ix (x_v (x_var (i := 0) rfl (Rp.mono _ (e_7.trans (e_38.trans (e_51.trans e_72))) exz r_wishes))) (x_var (i := 6) rfl (Rp.mono _ (Ex.refl _) exz r_75)))) (fun _ _ _ _ _ e ⟨v_74, h, r_75⟩ => ⟨v_74, h, Rp.mono _ e exz r_75⟩)) (a_one (x_var (i := 1) rfl (Rp.mono _ (e_7.trans (e_38.trans e_51)) exz r_desks)))))) s_52 (fun _ _ h => PX.mono (e_7.trans (e_38.trans e_51)) fr_32 h) hm (fun I_76 H_77 e_78 s_79 hm => ?_) (fun I_80 H_81 e_82 s_83 hm => ?_)
        · refine q_app (E := E) (K := K) (σ := [some v_wishes, some v_desks, some v_weights, some v_last, some (.ref p_2), some v_42, none]) (i := 4) rfl hc_29 (a2up (e_51.trans e_78) hr_31) (x_k (k := ((1 : Nat) : Int)) (o_pj (pjs pj1)) (x_var (i := 5) rfl (Rp.mono _ (e_51.trans e_78) exz r_43))) s_79 (fun _ _ h => PX.mono (e_7.trans (e_38.trans (e_51.trans e_78))) fr_32 h) hm fun chosen_84 vs_85 I_86 C_87 H_88 e_89 s_90 hc_91 k_92 hl_93 hr_94 hm => ?_
          have fr_95 := fr_keep fr_32 hB_14 k_92
          exact hm _ _ _ _ (e_51.trans (e_78.trans e_89)) s_90 ⟨some v_42, rfl, ⟨_, hc_91, hl_93, a2up (Ex.refl _) hr_94⟩, fr_95⟩
        · exact hm _ _ _ _ (e_51.trans e_82) s_83 ⟨some v_42, rfl, ⟨_, hc_29, hl_30, a2up (e_51.trans e_82) hr_31⟩, fr_32⟩
    subst hs_102
    obtain ⟨I_111, C_112, e_113, s_114, h_115, k_116⟩ := freeze s_100 hc_107
    have r_118 := frz_list e_113 h_115 hl_108 hr_109
    have fr_119 := fr_keep fr_110 hB_14 k_116
    refine q_ret (E := E) (K := K) (σ := [some v_wishes, some v_desks, some v_weights, some v_last, some (.ref p_2), w_103, none]) (x_var (i := 4) rfl (Rp.mono _ (Ex.refl _) exz r_118)) s_114 (fun _ _ h => PX.mono (e_7.trans (e_99.trans e_113)) fr_119 h) hm fun a_120 v_121 I_122 H_123 e_124 s_125 r_126 hm => ?_
    exact hm v_121 I_122 H_123 (e_7.trans (e_99.trans (e_113.trans e_124))) (St.less s_125 fr_119) (Im.im r_126)
def m__law_why (a_wishes : (List (Int × Int))) (a_desks : Int) (a_weights : (List Int)) (a_k : Int) : Res (Option (Int × Int)) :=
  (((un (fun (p : ((List (Int × Int)) × Int × (List Int) × Int)) => m__law_chosen p.1 p.2.1 p.2.2.1 p.2.2.2) (pair (Res.ok a_wishes) (pair (Res.ok a_desks) (pair (Res.ok a_weights) (Res.ok a_k))))).bind (mapR (fun (x_1 : Int) => (bin ix (Res.ok a_wishes) (Res.ok x_1))))).bind fun (ahead_8 : (List (Int × Int))) => (((un rng1 (bin rAdd (un (fun p => Res.ok p.1) (bin ix (Res.ok a_wishes) (Res.ok a_k))) (Res.ok (1 : Int)))).bind fun xs => loopR (fun (x_22 : Int) (z_15 : Unit) => (((un rng2 (pair (un (fun p => Res.ok p.2) (bin ix (Res.ok a_wishes) (Res.ok a_k))) (Res.ok (61 : Int)))).bind fun xs => loopR (fun (x_40 : Int) (z_34 : Unit) => (ifR (bin eqR (un (fun (p : ((List (Int × Int)) × Int × Int)) => m__law_inside p.1 p.2.1 p.2.2) (pair (Res.ok ahead_8) (pair (Res.ok x_22) (Res.ok x_40)))) (bin rMul (Res.ok a_desks) (bin rSub (Res.ok x_40) (Res.ok x_22)))) ((un someR' (pair (Res.ok x_22) (Res.ok x_40))).bind fun a_60 => Res.ok (Out.rt a_60)) (Res.ok (Out.nx ())))) xs ()).bind fun (o : Out Unit (Option (Int × Int))) => match o with | .nx z_72 => (Res.ok (Out.nx ())) | .br _ => Res.bad | .rt r => Res.ok (Out.rt r))) xs ()).bind fun (o : Out Unit (Option (Int × Int))) => match o with | .nx z_83 => ((Res.ok none).bind fun a_90 => Res.ok a_90) | .br _ => Res.bad | .rt r => Res.ok r))
abbrev N__law_why : List Str := ["wishes", "desks", "weights", "k", "ahead", "start", "end", "other"]
theorem sc__law_why : FnScope N__law_why ["wishes", "desks", "weights", "k"] (defScope s__law_why) := ⟨rfl, rfl, rfl, by decide +kernel, rfl, by decide +kernel, by decide +kernel⟩
theorem bind__law_why {K : PySem.W.Frag} {mg : Str → Option Value} {T : Tx K mg} : Binds K T.d__law_why ["wishes", "desks", "weights", "k"] [] := FunD.bindsN T.F__law_why fun _ _ _ _ _ _ us hl => match us, hl with | [_, _, _, _], _ => rfl
abbrev sp__law_why (K : PySem.W.Frag) : Sp := spP K (tc (pL (pT (tc pI (t1 pI)))) (tc pI (tc (pL pI) (t1 pI)))) (fun (p : ((List (Int × Int)) × Int × (List Int) × Int)) => m__law_why p.1 p.2.1 p.2.2.1 p.2.2.2) (pO (pT (tc pI (t1 pI))))
theorem ok__law_why (T : Tx K mg) : FnOk P w K mg base (L2.CX P w) 4 T.f__law_why T.d__law_why ["wishes", "desks", "weights", "k"] (sp__law_why K) := by
  refine T.F__law_why.ok sc__law_why (fun vs H Q E h => ?_) (fun cdv A outer s H vs Q E hr h => ?_)
  · obtain ⟨I, C, a, _, hr, _⟩ := h
    exact Rt.len _ hr
  · obtain ⟨I0, C0, ⟨a_wishes, a_desks, a_weights, a_k⟩, hs, ⟨v_wishes, us0, rfl, r_wishes, v_desks, us1, rfl, r_desks, v_weights, us2, rfl, r_weights, v_k, rfl, r_k⟩, hm⟩ := h
    have hm : Post (m__law_why a_wishes a_desks a_weights a_k) (PQ (pO (pT (tc pI (t1 pI)))) I0 C0 Q) (PX E K I0 C0) := hm
    replace r_wishes : Rp.r (pL (pT (tc pI (t1 pI)))) a_wishes v_wishes I0 Z := Im.im r_wishes
    replace r_desks : Rp.r pI a_desks v_desks I0 Z := Im.im r_desks
    replace r_weights : Rp.r (pL pI) a_weights v_weights I0 Z := Im.im r_weights
    replace r_k : Rp.r pI a_k v_k I0 Z := Im.im r_k
    unfold m__law_why at hm
    refine ⟨_, (pss_cons (ps_setLc (i := 4) (own := [("other", 7)]) rfl sc__law_why.nd rfl rfl (sw_true rfl rfl rfl (by decide +kernel)) (show PI _ _ _ (iList K _) from pi_list (pe_call (ok__law_chosen T) (hr.mono (by decide)) rfl T.g__law_chosen T.F__law_chosen.kp bind__law_chosen .nil passE (pa_cons (pv 0) (pa_cons (pv 1) (pa_cons (pv 2) (pa_cons (pv 3) pa_nil)))))) (blkOk_by (own := [("other", 7)]) (N := N__law_why) (sc := defScope s__law_why) (by decide +kernel)) (fun _ _ _ _ _ => (pg_name (i := 7) sc__law_why.nd rfl (Or.inl rfl))) (fun _ _ _ _ _ => pts_nil) (fun _ _ _ _ _ => (pe_ix (r := rIxL K) ix_list (pv 0) (pv 7) (fun _ _ => rfl)))) (pss_cons (ps_for (passes_of rfl) rfl (pi_range1 (by rfl) T.gb_range (pa_cons (pe_op op_add (pe_ix (r := rIxT K) ix_tup (pe_ix (r := rIxL K) ix_list (pv 0) (pv 3) (fun _ _ => rfl)) pe_int (fun _ _ => rfl)) pe_int) pa_nil)) (pg_name (i := 5) sc__law_why.nd rfl (Or.inl rfl)) (pss_cons (ps_for (passes_of rfl) rfl (pi_range2 (by rfl) T.gb_range (pa_cons (pe_ix (r := rIxT K) ix_tup (pe_ix (r := rIxL K) ix_list (pv 0) (pv 3) (fun _ _ => rfl)) pe_int (fun _ _ => rfl)) (pa_cons pe_int pa_nil))) (pg_name (i := 6) sc__law_why.nd rfl (Or.inl rfl)) (pss_cons (ps_if (pt_cmpR op_eq (pe_call (ok__law_inside T) (hr.mono (by decide)) rfl T.g__law_inside T.F__law_inside.kp bind__law_inside .nil passE (pa_cons (pv 4) (pa_cons (pv 5) (pa_cons (pv 6) pa_nil)))) (pe_op op_mul (pv 1) (pe_op op_sub (pv 6) (pv 5))) (nomark _)) (pss_cons (ps_ret (pe_tup (pa_cons (pv 5) (pa_cons (pv 6) pa_nil)))) pss_nil) pss_nil) pss_nil)) pss_nil)) (pss_cons (ps_ret pe_non) pss_nil))), ?_⟩
    refine q_asg (E := E) (K := K) (σ := [some v_wishes, some v_desks, some v_weights, some v_k, none, none, none, none]) (i := 4) (x_lc (i_list (x_call (a_cons (x_var (i := 0) rfl (Rp.mono _ (Ex.refl _) exz r_wishes)) (a_cons (x_var (i := 1) rfl (Rp.mono _ (Ex.refl _) exz r_desks)) (a_cons (x_var (i := 2) rfl (Rp.mono _ (Ex.refl _) exz r_weights)) (a_one (x_var (i := 3) rfl (Rp.mono _ (Ex.refl _) exz r_k)))))))) g1 (fun _ _ _ _ ⟨_, h, _⟩ => by rw [h]; rfl) (fun x_1 σ2 I_2 C_3 e_4 c_5 ⟨v_6, h, r_7⟩ => by subst h; exact (x_op o_ix (x_v (x_var (i := 0) rfl (Rp.mono _ e_4 exz r_wishes))) (x_var (i := 7) rfl (Rp.mono _ (Ex.refl _) exz r_7)))) (fun _ _ _ _ _ e ⟨v_6, h, r_7⟩ => ⟨v_6, h, Rp.mono _ e exz r_7⟩)) hs (fun _ _ h => PX.mono (Ex.refl _) (Ex.refl _) h) hm fun ahead_8 v_9 I_10 H_11 e_12 s_13 r_14 hm => ?_
    refine s_forR (E := E) (K := K) (σ := [some v_wishes, some v_desks, some v_weights, some v_k, some v_9, none, none, none]) (fun (z_15 : Unit) σ2 I_19 C_20 => ∃ w_17 : Option V, ∃ w_18 : Option V, σ2 = [some v_wishes, some v_desks, some v_weights, some v_k, some v_9, w_17, w_18, none] ∧ Ex C0 C_20) (i_rng1 (a_one (x_op o_add (x_k (k := ((0 : Nat) : Int)) (o_pj pj0) (x_op o_ix (x_v (x_var (i := 0) rfl (Rp.mono _ e_12 exz r_wishes))) (x_var (i := 3) rfl (Rp.mono _ e_12 exz r_k)))) (x_int (i := 1))))) s_13 (fun _ _ h => PX.mono e_12 (Ex.refl _) h) hm (fun _ e_30 => ⟨none, none, rfl, (Ex.refl _)⟩) (fun _ _ _ _ _ => trivial) (fun _ _ _ _ _ e ⟨w_17, w_18, hs_16, fr_21⟩ => ⟨w_17, w_18, hs_16, fr_21⟩) (fun N x_22 v_23 z_15 σ2 I_24 C_25 H_26 e_27 s_28 ⟨w_17, w_18, hs_16, fr_21⟩ r_29 hm => ?_) (fun z_83 σ2 I_78 C_79 H_80 e_81 s_82 ⟨w_85, w_86, hs_84, fr_89⟩ hm => ?_)
    · subst hs_16
      refine g1 (K := K) x_22 v_23 I_24 C_25 H_26 _ s_28 r_29 fun σ2 ⟨v_31, hs_33, r_32⟩ => ?_
      subst hs_33
      refine s_forR (E := E) (K := K) (σ := [some v_wishes, some v_desks, some v_weights, some v_k, some v_9, some v_31, w_18, none]) (fun (z_34 : Unit) σ2 I_37 C_38 => ∃ w_36 : Option V, σ2 = [some v_wishes, some v_desks, some v_weights, some v_k, some v_9, some v_31, w_36, none] ∧ Ex C0 C_38) (i_rng2 (a_cons (x_k (k := ((1 : Nat) : Int)) (o_pj (pjs pj1)) (x_op o_ix (x_v (x_var (i := 0) rfl (Rp.mono _ (e_12.trans e_27) exz r_wishes))) (x_var (i := 3) rfl (Rp.mono _ (e_12.trans e_27) exz r_k)))) (a_one (x_int (i := 61))))) s_28 (fun _ _ h => PX.mono (e_12.trans e_27) fr_21 h) hm (fun _ e_48 => ⟨w_18, rfl, fr_21⟩) (fun _ _ _ _ _ => trivial) (fun _ _ _ _ _ e ⟨w_36, hs_35, fr_39⟩ => ⟨w_36, hs_35, fr_39⟩) (fun N x_40 v_41 z_34 σ2 I_42 C_43 H_44 e_45 s_46 ⟨w_36, hs_35, fr_39⟩ r_47 hm => ?_) (fun z_72 σ2 I_67 C_68 H_69 e_70 s_71 ⟨w_74, hs_73, fr_77⟩ hm => ?_)
      · subst hs_35
        refine g1 (K := K) x_40 v_41 I_42 C_43 H_44 _ s_46 r_47 fun σ2 ⟨v_49, hs_51, r_50⟩ => ?_
        subst hs_51
        refine s_if (E := E) (K := K) (σ := [some v_wishes, some v_desks, some v_weights, some v_k, some v_9, some v_31, some v_49, none]) (t_test (x_op o_eqI (x_call (a_cons (x_var (i := 4) rfl (Rp.mono _ (e_27.trans e_45) exz r_14)) (a_cons (x_var (i := 5) rfl (Rp.mono _ e_45 exz r_32)) (a_one (x_var (i := 6) rfl (Rp.mono _ (Ex.refl _) exz r_50)))))) (x_op o_mul (x_var (i := 1) rfl (Rp.mono _ (e_12.trans (e_27.trans e_45)) exz r_desks)) (x_op o_sub (x_var (i := 6) rfl (Rp.mono _ (Ex.refl _) exz r_50)) (x_var (i := 5) rfl (Rp.mono _ e_45 exz r_32)))))) s_46 (fun _ _ h => PX.mono (e_12.trans (e_27.trans e_45)) fr_39 h) hm (fun I_52 H_53 e_54 s_55 hm => ?_) (fun I_56 H_57 e_58 s_59 hm => ?_)
        · refine q_ret (E := E) (K := K) (σ := [some v_wishes, some v_desks, some v_weights, some v_k, some v_9, some v_31, some v_49, none]) (x_some (x_tup (a_cons (x_var (i := 5) rfl (Rp.mono _ (e_45.trans e_54) exz r_32)) (a_one (x_var (i := 6) rfl (Rp.mono _ e_54 exz r_50)))) (Nat.le_of_ble_eq_true rfl))) s_55 (fun _ _ h => PX.mono (e_12.trans (e_27.trans (e_45.trans e_54))) fr_39 h) hm fun a_60 v_61 I_62 H_63 e_64 s_65 r_66 hm => ?_
          exact hm v_61 I_62 H_63 (e_12.trans (e_27.trans (e_45.trans (e_54.trans e_64)))) (St.less s_65 fr_39) (Im.im r_66)
        · exact hm _ _ _ _ e_58 s_59 ⟨some v_49, rfl, fr_39⟩
      subst hs_73
      exact hm _ _ _ _ e_70 s_71 ⟨some v_31, w_74, rfl, fr_77⟩
    subst hs_84
    refine q_ret (E := E) (K := K) (σ := [some v_wishes, some v_desks, some v_weights, some v_k, some v_9, w_85, w_86, none]) (x_none (R := (pT (tc pI (t1 pI))))) s_82 (fun _ _ h => PX.mono (e_12.trans e_81) fr_89 h) hm fun a_90 v_91 I_92 H_93 e_94 s_95 r_96 hm => ?_
    exact hm v_91 I_92 H_93 (e_12.trans (e_81.trans e_94)) (St.less s_95 fr_89) (Im.im r_96)
def m__law_weights (a_many : Int) (a_pool : Pl) : Res ((List Int) × Pl) :=
  (((callM m__law_take (liftM (Res.ok (3 : Int)))) a_pool).bind fun (kind_1 : Int × Pl) => (ifR (bin eqR (Res.ok kind_1.1) (Res.ok (0 : Int))) (((fun y_37 => ((liftM (un rng1 (Res.ok a_many))) y_37).bind fun b => mapM (fun (x_30 : Int) => (callM m__law_take (liftM (Res.ok (1001 : Int))))) b.1 b.2) kind_1.2).bind fun a_38 => Res.ok (a_38.1, a_38.2)) (ifR (bin eqR (Res.ok kind_1.1) (Res.ok (1 : Int))) (((fun y_74 => ((liftM (un rng1 (Res.ok a_many))) y_74).bind fun b => mapM (fun (x_67 : Int) => (callM m__law_take (liftM (Res.ok (4 : Int))))) b.1 b.2) kind_1.2).bind fun a_75 => Res.ok (a_75.1, a_75.2)) (((callM m__law_take (liftM (Res.ok (1001 : Int)))) kind_1.2).bind fun (same_88 : Int × Pl) => (((un rng1 (Res.ok a_many)).bind (mapR (fun (x_101 : Int) => (Res.ok same_88.1)))).bind fun a_108 => Res.ok (a_108, same_88.2))))))
abbrev N__law_weights : List Str := ["pool", "many", "kind", "same", "k"]
theorem sc__law_weights : FnScope N__law_weights ["pool", "many"] (defScope s__law_weights) := ⟨rfl, rfl, rfl, by decide +kernel, rfl, by decide +kernel, by decide +kernel⟩
theorem bind__law_weights {K : PySem.W.Frag} {mg : Str → Option Value} {T : Tx K mg} : Binds K T.d__law_weights ["pool", "many"] [] := FunD.bindsN T.F__law_weights fun _ _ _ _ _ _ us hl => match us, hl with | [_, _], _ => rfl
abbrev sp__law_weights (K : PySem.W.Frag) : Sp := spM pM (t1 pI) m__law_weights (pL pI)
theorem ok__law_weights (T : Tx K mg) : FnOk P w K mg base (L2.CX P w) 4 T.f__law_weights T.d__law_weights ["pool", "many"] (sp__law_weights K) := by
  refine T.F__law_weights.ok sc__law_weights (fun vs H Q E h => ?_) (fun cdv A outer s H vs Q E hr h => ?_)
  · obtain ⟨I, C, p, ws, us, x, a, rfl, _, _, _, hr, _⟩ := h
    exact congrArg (· + 1) (Rt.len _ hr)
  · obtain ⟨I0, C0, p0, ws0, us, a_pool, a_many, rfl, hs, hc0, hx1, ⟨v_many, rfl, r_many⟩, hm⟩ := h
    have hx0 := It.im (C' := Z) hx1
    have hm : Post (m__law_weights a_many a_pool) (PM p0 pM (pL pI) I0 C0 Q) XF := hm
    replace r_many : Rp.r pI a_many v_many I0 Z := Im.im r_many
    unfold m__law_weights at hm
    refine ⟨_, (pss_cons (ps_set (i := 2) sc__law_weights.nd rfl (Or.inl rfl) (pe_call (ok__law_take T) (hr.mono (by decide)) rfl T.g__law_take T.F__law_take.kp bind__law_take .nil passE (pa_cons (pv 0) (pa_cons pe_int pa_nil)))) (pss_cons (ps_if (pt_cmpR op_eq (pv 2) pe_int (nomark _)) (pss_cons (ps_ret (pe_lc (own := [("k", 4)]) rfl sc__law_weights.nd (pi_range1 (by rfl) T.gb_range (pa_cons (pv 1) pa_nil)) (blkOk_by (own := [("k", 4)]) (N := N__law_weights) (sc := defScope s__law_weights) (by decide +kernel)) (fun _ _ _ _ _ => (pg_name (i := 4) sc__law_weights.nd rfl (Or.inl rfl))) (fun _ _ _ _ _ => pts_nil) (fun _ _ _ _ _ => (pe_call (ok__law_take T) (hr.mono (by decide)) rfl T.g__law_take T.F__law_take.kp bind__law_take .nil passL (pa_cons (pv 0) (pa_cons pe_int pa_nil)))))) pss_nil) pss_nil) (pss_cons (ps_if (pt_cmpR op_eq (pv 2) pe_int (nomark _)) (pss_cons (ps_ret (pe_lc (own := [("k", 4)]) rfl sc__law_weights.nd (pi_range1 (by rfl) T.gb_range (pa_cons (pv 1) pa_nil)) (blkOk_by (own := [("k", 4)]) (N := N__law_weights) (sc := defScope s__law_weights) (by decide +kernel)) (fun _ _ _ _ _ => (pg_name (i := 4) sc__law_weights.nd rfl (Or.inl rfl))) (fun _ _ _ _ _ => pts_nil) (fun _ _ _ _ _ => (pe_call (ok__law_take T) (hr.mono (by decide)) rfl T.g__law_take T.F__law_take.kp bind__law_take .nil passL (pa_cons (pv 0) (pa_cons pe_int pa_nil)))))) pss_nil) pss_nil) (pss_cons (ps_set (i := 3) sc__law_weights.nd rfl (Or.inr rfl) (pe_call (ok__law_take T) (hr.mono (by decide)) rfl T.g__law_take T.F__law_take.kp bind__law_take .nil passE (pa_cons (pv 0) (pa_cons pe_int pa_nil)))) (pss_cons (ps_ret (pe_lc (own := [("k", 4)]) rfl sc__law_weights.nd (pi_range1 (by rfl) T.gb_range (pa_cons (pv 1) pa_nil)) (blkOk_by (own := [("k", 4)]) (N := N__law_weights) (sc := defScope s__law_weights) (by decide +kernel)) (fun _ _ _ _ _ => (pg_name (i := 4) sc__law_weights.nd rfl (Or.inl rfl))) (fun _ _ _ _ _ => pts_nil) (fun _ _ _ _ _ => (pv 3)))) pss_nil))))), ?_⟩
    refine qm_asg (E := E) (K := K) (σ := [some (.ref p0), some v_many, none, none, none]) (i := 2) (m_callM (i := 0) rfl (am_pure (a_one (x_int (i := 3))))) hs hc0 (Rt.mono _ (Ex.refl _) exz hx0) hm fun kind_1 v_2 ws_8 I_3 C_9 H_4 e_5 s_6 hc_10 k_11 hx_12 r_7 hm => ?_
    have fr_13 := fr_pool (off_ex (C := C0) (p := p0)) k_11
    refine s_if (E := E) (K := K) (σ := [some (.ref p0), some v_many, some v_2, none, none]) (t_test (x_op o_eqI (x_var (i := 2) rfl (Rp.mono _ (Ex.refl _) exz r_7)) (x_int (i := 0)))) s_6 (fun _ _ h => h.elim) hm (fun I_14 H_15 e_16 s_17 hm => ?_) (fun I_18 H_19 e_20 s_21 hm => ?_)
    · refine qm_ret (E := E) (K := K) (σ := [some (.ref p0), some v_many, some v_2, none, none]) (m_lc off_same (im_pure (i_rng1 (a_one (x_var (i := 1) rfl (Rp.mono _ (e_5.trans e_16) exz r_many))))) g1 (fun _ _ _ _ ⟨_, h, _⟩ => by rw [h]; rfl) (fun x_30 σ2 I_31 C_32 e_33 c_34 ⟨v_35, h, r_36⟩ => by subst h; exact (m_callM (i := 0) rfl (am_pure (a_one (x_int (i := 1001))))))) s_17 hc_10 (Rt.mono _ e_16 exz hx_12) hm fun a_38 v_39 ws_45 I_40 C_46 H_41 e_42 s_43 hc_47 k_48 hx_49 r_44 hm => ?_
      have fr_50 := fr_pool fr_13 k_48
      exact ret_pool hm (e_5.trans (e_16.trans e_42)) fr_50 s_43 hc_47 hx_49 r_44
    · refine s_if (E := E) (K := K) (σ := [some (.ref p0), some v_many, some v_2, none, none]) (t_test (x_op o_eqI (x_var (i := 2) rfl (Rp.mono _ e_20 exz r_7)) (x_int (i := 1)))) s_21 (fun _ _ h => h.elim) hm (fun I_51 H_52 e_53 s_54 hm => ?_) (fun I_55 H_56 e_57 s_58 hm => ?_)
      · refine qm_ret (E := E) (K := K) (σ := [some (.ref p0), some v_many, some v_2, none, none]) (m_lc off_same (im_pure (i_rng1 (a_one (x_var (i := 1) rfl (Rp.mono _ (e_5.trans (e_20.trans e_53)) exz r_many))))) g1 (fun _ _ _ _ ⟨_, h, _⟩ => by rw [h]; rfl) (fun x_67 σ2 I_68 C_69 e_70 c_71 ⟨v_72, h, r_73⟩ => by subst h; exact (m_callM (i := 0) rfl (am_pure (a_one (x_int (i := 4))))))) s_54 hc_10 (Rt.mono _ (e_20.trans e_53) exz hx_12) hm fun a_75 v_76 ws_82 I_77 C_83 H_78 e_79 s_80 hc_84 k_85 hx_86 r_81 hm => ?_
        have fr_87 := fr_pool fr_13 k_85
        exact ret_pool hm (e_5.trans (e_20.trans (e_53.trans e_79))) fr_87 s_80 hc_84 hx_86 r_81
      · refine qm_asg (E := E) (K := K) (σ := [some (.ref p0), some v_many, some v_2, none, none]) (i := 3) (m_callM (i := 0) rfl (am_pure (a_one (x_int (i := 1001))))) s_58 hc_10 (Rt.mono _ (e_20.trans e_57) exz hx_12) hm fun same_88 v_89 ws_95 I_90 C_96 H_91 e_92 s_93 hc_97 k_98 hx_99 r_94 hm => ?_
        have fr_100 := fr_pool fr_13 k_98
        refine q_ret (E := E) (K := K) (σ := [some (.ref p0), some v_many, some v_2, some v_89, none]) (x_lc (i_rng1 (a_one (x_var (i := 1) rfl (Rp.mono _ (e_5.trans (e_20.trans (e_57.trans e_92))) exz r_many)))) g1 (fun _ _ _ _ ⟨_, h, _⟩ => by rw [h]; rfl) (fun x_101 σ2 I_102 C_103 e_104 c_105 ⟨v_106, h, r_107⟩ => by subst h; exact (x_var (i := 3) rfl (Rp.mono _ e_104 exz r_94))) (fun _ _ _ _ _ e ⟨v_106, h, r_107⟩ => ⟨v_106, h, Rp.mono _ e exz r_107⟩)) s_93 (fun _ _ h => h.elim) hm fun a_108 v_109 I_110 H_111 e_112 s_113 r_114 hm => ?_
        exact ret_pool hm (e_5.trans (e_20.trans (e_57.trans (e_92.trans e_112)))) fr_100 s_113 hc_97 (Rt.mono _ e_112 exz hx_99) r_114
def m__law_other_sets (a_wishes : (List (Int × Int))) (a_desks : Int) (a_pool : Pl) : Res ((List (List Int)) × Pl) :=
  ((un rLen (Res.ok a_wishes)).bind fun (many_1 : Int) => ((Res.ok ([] : List (List Int))).bind fun (found_8 : (List (List Int))) => (((un rng1 (bin ix (consR (Res.ok (3 : Int)) (consR (Res.ok (1 : Int)) (Res.ok []))) (un b2iR (bin rGt (Res.ok many_1) (Res.ok (12 : Int)))))).bind fun xs => loopN (fun (x_38 : Int) (z_25 : ((List (List Int)) × Pl)) => ((((unM (fun (p : ((List (Int × Int)) × Int × (List Int) × Int)) => m__law_chosen p.1 p.2.1 p.2.2.1 p.2.2.2) (pairM (liftM (Res.ok a_wishes)) (pairM (liftM (Res.ok a_desks)) (pairM (callM m__law_weights (liftM (Res.ok many_1))) (liftM (un rNeg (Res.ok (1 : Int)))))))) z_25.2).bind fun b => (push z_25.1 b.1).bind fun ys => Res.ok (ys, b.2)).bind fun (found_50 : (List (List Int)) × Pl) => (Res.ok (found_50.1, found_50.2)))) xs (found_8, a_pool)).bind fun (z_70 : ((List (List Int)) × Pl)) => ((ifR (bin rLe (Res.ok many_1) (Res.ok (7 : Int))) ((consR (Res.ok (1 : Int)) (consR (Res.ok (2 : Int)) (consR (Res.ok (4 : Int)) (consR (Res.ok (8 : Int)) (consR (Res.ok (16 : Int)) (consR (Res.ok (32 : Int)) (consR (Res.ok (64 : Int)) (consR (Res.ok (128 : Int)) (Res.ok []))))))))).bind fun (powers_104 : (List Int)) => (((un rng1 (bin ix (Res.ok powers_104) (Res.ok many_1))).bind fun xs => loopN (fun (x_123 : Int) (z_111 : (List (List Int))) => (((un rng1 (Res.ok many_1)).bind (filR (fun (x_135 : Int) => (bin eqR (bin rMod (un idR (bin rDiv (Res.ok x_123) (bin ix (Res.ok powers_104) (Res.ok x_135)))) (Res.ok (2 : Int))) (Res.ok (1 : Int)))) (fun (x_135 : Int) => (Res.ok x_135)))).bind fun (members_142 : (List Int)) => (ifR (un (fun (p : ((List (Int × Int)) × Int)) => m__law_can p.1 p.2) (pair ((Res.ok members_142).bind (mapR (fun (x_149 : Int) => (bin ix (Res.ok a_wishes) (Res.ok x_149))))) (Res.ok a_desks))) (((Res.ok members_142).bind fun x => push z_111 x).bind fun (found_164 : (List (List Int))) => (Res.ok found_164)) (Res.ok z_111)))) xs z_70.1).bind fun (z_182 : (List (List Int))) => (Res.ok z_182))) (Res.ok z_70.1)).bind fun (z_91 : (List (List Int))) => ((Res.ok z_91).bind fun a_209 => Res.ok (a_209, z_70.2))))))
abbrev N__law_other_sets : List Str := ["pool", "wishes", "desks", "many", "found", "turn", "powers", "mask", "members", "k"]
theorem sc__law_other_sets : FnScope N__law_other_sets ["pool", "wishes", "desks"] (defScope s__law_other_sets) := ⟨rfl, rfl, rfl, by decide +kernel, rfl, by decide +kernel, by decide +kernel⟩
theorem bind__law_other_sets {K : PySem.W.Frag} {mg : Str → Option Value} {T : Tx K mg} : Binds K T.d__law_other_sets ["pool", "wishes", "desks"] [] := FunD.bindsN T.F__law_other_sets fun _ _ _ _ _ _ us hl => match us, hl with | [_, _, _], _ => rfl
abbrev sp__law_other_sets (K : PySem.W.Frag) : Sp := spM pM (tc (pL (pT (tc pI (t1 pI)))) (t1 pI)) (fun (p : ((List (Int × Int)) × Int)) => m__law_other_sets p.1 p.2) (pL (pL pI))
theorem ok__law_other_sets (T : Tx K mg) : FnOk P w K mg base (L2.CX P w) 5 T.f__law_other_sets T.d__law_other_sets ["pool", "wishes", "desks"] (sp__law_other_sets K) := by
  refine T.F__law_other_sets.ok sc__law_other_sets (fun vs H Q E h => ?_) (fun cdv A outer s H vs Q E hr h => ?_)
  · obtain ⟨I, C, p, ws, us, x, a, rfl, _, _, _, hr, _⟩ := h
    exact congrArg (· + 1) (Rt.len _ hr)
  · obtain ⟨I0, C0, p0, ws0, us, a_pool, ⟨a_wishes, a_desks⟩, rfl, hs, hc0, hx1, ⟨v_wishes, us0, rfl, r_wishes, v_desks, rfl, r_desks⟩, hm⟩ := h
    have hx0 := It.im (C' := Z) hx1
    have hm : Post (m__law_other_sets a_wishes a_desks a_pool) (PM p0 pM (pL (pL pI)) I0 C0 Q) XF := hm
    replace r_wishes : Rp.r (pL (pT (tc pI (t1 pI)))) a_wishes v_wishes I0 Z := Im.im r_wishes
    replace r_desks : Rp.r pI a_desks v_desks I0 Z := Im.im r_desks
    unfold m__law_other_sets at hm
    refine ⟨_, (pss_cons (ps_set (i := 3) sc__law_other_sets.nd rfl (Or.inl rfl) (pe_callB (r := rLen1 K) call_len_seq (by rfl) T.gb_len bt_len (pa_cons (pv 1) pa_nil))) (pss_cons (ps_set (i := 4) sc__law_other_sets.nd rfl (Or.inl rfl) (pe_lst pa_nil)) (pss_cons (ps_for (passes_of rfl) rfl (pi_range1 (by rfl) T.gb_range (pa_cons (pe_ix (r := rIxL K) ix_list (pe_lst (pa_cons pe_int (pa_cons pe_int pa_nil))) (pe_callTy call_int1 (by rfl) T.gb_int bt_int (pa_cons (pe_cmpR op_gt (pv 3) pe_int (nomark _)) pa_nil)) (fun _ _ => rfl)) pa_nil)) (pg_name (i := 5) sc__law_other_sets.nd rfl (Or.inl rfl)) (pss_cons (ps_expr (show PE _ _ (tBM K "list" rAppend _ _) from pe_bm PySem.F.plainAttrs_list PySem.F.slot_list_append PySem.F.type_list_append mt_append (pv 4) (pa_cons (pe_call (ok__law_chosen T) (hr.mono (by decide)) rfl T.g__law_chosen T.F__law_chosen.kp bind__law_chosen .nil passE (pa_cons (pv 1) (pa_cons (pv 2) (pa_cons (pe_call (ok__law_weights T) (hr.mono (by decide)) rfl T.g__law_weights T.F__law_weights.kp bind__law_weights .nil passE (pa_cons (pv 0) (pa_cons (pv 3) pa_nil))) (pa_cons (pe_un un_neg pe_int) pa_nil))))) pa_nil))) pss_nil)) (Evl.pss_cut (ps_if (pt_cmpR op_le (pv 3) pe_int (nomark _)) (pss_cons (ps_set (i := 6) sc__law_other_sets.nd rfl (Or.inr rfl) (pe_lst (pa_cons pe_int (pa_cons pe_int (pa_cons pe_int (pa_cons pe_int (pa_cons pe_int (pa_cons pe_int (pa_cons pe_int (pa_cons pe_int pa_nil)))))))))) (pss_cons (ps_for (passes_of rfl) rfl (pi_range1 (by rfl) T.gb_range (pa_cons (pe_ix (r := rIxL K) ix_list (pv 6) (pv 3) (fun _ _ => rfl)) pa_nil)) (pg_name (i := 7) sc__law_other_sets.nd rfl (Or.inr rfl)) (pss_cons (ps_setLc (i := 8) (own := [("k", 9)]) rfl sc__law_other_sets.nd rfl rfl (sw_true rfl rfl rfl (by decide +kernel)) (pi_range1 (by rfl) T.gb_range (pa_cons (pv 3) pa_nil)) (blkOk_by (own := [("k", 9)]) (N := N__law_other_sets) (sc := defScope s__law_other_sets) (by decide +kernel)) (fun _ _ _ _ _ => (pg_name (i := 9) sc__law_other_sets.nd rfl (Or.inl rfl))) (fun _ _ _ _ _ => (pts_one (pt_cmpR op_eq (pe_op op_mod (pe_callTy call_int1 (by rfl) T.gb_int bt_int (pa_cons (pe_op op_fdiv (pv 7) (pe_ix (r := rIxL K) ix_list (pv 6) (pv 9) (fun _ _ => rfl))) pa_nil)) pe_int) pe_int (nomark _)))) (fun _ _ _ _ _ => (pv 9))) (pss_cons (ps_if (pt_val (pe_call (ok__law_can T) (hr.mono (by decide)) rfl T.g__law_can T.F__law_can.kp bind__law_can .nil passE (pa_cons (pe_lc (own := [("k", 9)]) rfl sc__law_other_sets.nd (show PI _ _ _ (iList K _) from pi_list (pv 8)) (blkOk_by (own := [("k", 9)]) (N := N__law_other_sets) (sc := defScope s__law_other_sets) (by decide +kernel)) (fun _ _ _ _ _ => (pg_name (i := 9) sc__law_other_sets.nd rfl (Or.inl rfl))) (fun _ _ _ _ _ => pts_nil) (fun _ _ _ _ _ => (pe_ix (r := rIxL K) ix_list (pv 1) (pv 9) (fun _ _ => rfl)))) (pa_cons (pv 2) pa_nil)))) (pss_cons (ps_expr (show PE _ _ (tBM K "list" rAppend _ _) from pe_bm PySem.F.plainAttrs_list PySem.F.slot_list_append PySem.F.type_list_append mt_append (pv 4) (pa_cons (pv 8) pa_nil))) pss_nil) pss_nil) pss_nil))) pss_nil)) pss_nil) (pss_cons (ps_ret (pv 4)) pss_nil))))), ?_⟩
    refine q_asg (E := E) (K := K) (σ := [some (.ref p0), some v_wishes, some v_desks, none, none, none, none, none, none, none]) (i := 3) (x_cb o_len (a_one (x_v (x_var (i := 1) rfl (Rp.mono _ (Ex.refl _) exz r_wishes))))) hs (fun _ _ h => h.elim) hm fun many_1 v_2 I_3 H_4 e_5 s_6 r_7 hm => ?_
    refine q_asgN (E := E) (K := K) (σ := [some (.ref p0), some v_wishes, some v_desks, some v_2, none, none, none, none, none, none]) (i := 4) (n_lst (R := (pL pI)) al_nil (by decide)) s_6 (fun _ _ h => h.elim) hm fun found_8 p_9 vs_10 I_11 C_12 H_13 e_14 hp_15 s_16 hc_17 k_18 hl_19 hr_20 hm => ?_
    have ne_21 := ne_new hc0 hp_15
    have hB_22 := Ex.free (off_ex (C := C0) (p := p0)) hp_15
    have hc_23 := (k_18 _ ne_21).trans hc0
    have fr_24 := fr_keep (off_ex (C := C0) (p := p0)) hB_22 k_18
    refine s_forN (E := E) (K := K) (σ := [some (.ref p0), some v_wishes, some v_desks, some v_2, some (.ref p_9), none, none, none, none, none]) (fun (z_25 : ((List (List Int)) × Pl)) σ2 I_28 C_29 => ∃ w_27 : Option V, σ2 = [some (.ref p0), some v_wishes, some v_desks, some v_2, some (.ref p_9), w_27, none, none, none, none] ∧ (∃ vs_30 : List V, C_29 p_9 = some (.lst vs_30) ∧ vs_30.length ≤ sizeLine ∧ A2 (fun x u => Rp.r (pL pI) x u I_28 Z) z_25.1 vs_30) ∧ (∃ ws_34 : List V, C_29 p0 = some (.lst ws_34) ∧ Rt.r pM z_25.2 ws_34 I_28 Z) ∧ Ex (off C0 p0) C_29) (i_rng1 (a_one (x_op o_ix (x_v (x_lst (al_cons (x_int (i := 3)) (al_cons (x_int (i := 1)) al_nil)) (Nat.le_of_ble_eq_true rfl))) (x_cb o_intB (a_one (x_op o_gt (x_var (i := 3) rfl (Rp.mono _ e_14 exz r_7)) (x_int (i := 12)))))))) s_16 (fun _ _ h => h.elim) hm (fun _ e_46 => ⟨none, rfl, ⟨_, hc_17, hl_19, a2up (Ex.trans (Ex.refl _) e_46) hr_20⟩, ⟨_, hc_23, Rt.mono _ (Ex.trans (e_5.trans e_14) e_46) exz hx0⟩, fr_24⟩) (fun _ _ _ _ _ => trivial) (fun _ _ _ _ _ e ⟨w_27, hs_26, ⟨vs_30, hc_31, hl_32, hr_33⟩, ⟨ws_34, hc_35, hx_36⟩, fr_37⟩ => ⟨w_27, hs_26, ⟨vs_30, hc_31, hl_32, a2up e hr_33⟩, ⟨ws_34, hc_35, Rt.mono _ e exz hx_36⟩, fr_37⟩) (fun N x_38 v_39 z_25 σ2 I_40 C_41 H_42 e_43 s_44 ⟨w_27, hs_26, ⟨vs_30, hc_31, hl_32, hr_33⟩, ⟨ws_34, hc_35, hx_36⟩, fr_37⟩ r_45 hm => ?_) (fun z_70 σ2 I_65 C_66 H_67 e_68 s_69 ⟨w_72, hs_71, ⟨vs_75, hc_76, hl_77, hr_78⟩, ⟨ws_79, hc_80, hx_81⟩, fr_82⟩ hm => ?_)
    · subst hs_26
      refine g1 (K := K) x_38 v_39 I_40 C_41 H_42 _ s_44 r_45 fun σ2 ⟨v_47, hs_49, r_48⟩ => ?_
      subst hs_49
      refine qm_app (E := E) (K := K) (σ := [some (.ref p0), some v_wishes, some v_desks, some v_2, some (.ref p_9), some v_47, none, none, none, none]) (i := 4) rfl hc_31 (Ne.symm ne_21) (a2up (Ex.refl _) hr_33) (m_callP (am_cons off_same (m_pure (x_var (i := 1) rfl (Rp.mono _ (e_5.trans (e_14.trans e_43)) exz r_wishes))) (am_cons off_same (m_pure (x_var (i := 2) rfl (Rp.mono _ (e_5.trans (e_14.trans e_43)) exz r_desks))) (am_cons off_same (m_callM (i := 0) rfl (am_pure (a_one (x_var (i := 3) rfl (Rp.mono _ (e_14.trans e_43) exz r_7))))) (am_one (m_pure (x_un o_neg (x_int (i := 1))))))))) s_44 hc_35 (Rt.mono _ (Ex.refl _) exz hx_36) hm fun found_50 vs_51 ws_52 I_53 C_54 H_55 e_56 s_57 hc_58 hc_59 k_60 hl_61 hr_62 hx_63 hm => ?_
      have fr_64 := fr_pool2 fr_37 hB_22 k_60
      exact hm _ _ _ _ e_56 s_57 ⟨some v_47, rfl, ⟨_, hc_58, hl_61, a2up (Ex.refl _) hr_62⟩, ⟨_, hc_59, Rt.mono _ (Ex.refl _) exz hx_63⟩, fr_64⟩
    subst hs_71
    refine s_ifj (E := E) (K := K) (σ := [some (.ref p0), some v_wishes, some v_desks, some v_2, some (.ref p_9), w_72, none, none, none, none]) (fun (z_91 : (List (List Int))) σ2 I_96 C_97 => ∃ w_93 : Option V, ∃ w_94 : Option V, ∃ w_95 : Option V, σ2 = [some (.ref p0), some v_wishes, some v_desks, some v_2, some (.ref p_9), w_72, w_93, w_94, w_95, none] ∧ (∃ vs_98 : List V, C_97 p_9 = some (.lst vs_98) ∧ vs_98.length ≤ sizeLine ∧ A2 (fun x u => Rp.r (pL pI) x u I_96 Z) z_91 vs_98) ∧ C_97 p0 = some (.lst ws_79) ∧ Ex (off C0 p0) C_97) (t_test (x_op o_le (x_var (i := 3) rfl (Rp.mono _ (e_14.trans e_68) exz r_7)) (x_int (i := 7)))) s_69 (fun _ _ h => h.elim) hm (fun N I_83 H_84 e_85 s_86 hm => ?_) (fun N I_87 H_88 e_89 s_90 hm => ?_) (fun z_91 σ2 I_194 C_195 H_196 e_197 s_198 ⟨w_93, w_94, w_95, hs_92, ⟨vs_98, hc_99, hl_100, hr_101⟩, hc_102, fr_103⟩ hm => ?_)
    · refine q_asg (E := E) (K := K) (σ := [some (.ref p0), some v_wishes, some v_desks, some v_2, some (.ref p_9), w_72, none, none, none, none]) (i := 6) (x_lst (al_cons (x_int (i := 1)) (al_cons (x_int (i := 2)) (al_cons (x_int (i := 4)) (al_cons (x_int (i := 8)) (al_cons (x_int (i := 16)) (al_cons (x_int (i := 32)) (al_cons (x_int (i := 64)) (al_cons (x_int (i := 128)) al_nil)))))))) (Nat.le_of_ble_eq_true rfl)) s_86 (fun _ _ h => h.elim) hm fun powers_104 v_105 I_106 H_107 e_108 s_109 r_110 hm => ?_
      refine s_forN (E := E) (K := K) (σ := [some (.ref p0), some v_wishes, some v_desks, some v_2, some (.ref p_9), w_72, some v_105, none, none, none]) (fun (z_111 : (List (List Int))) σ2 I_115 C_116 => ∃ w_113 : Option V, ∃ w_114 : Option V, σ2 = [some (.ref p0), some v_wishes, some v_desks, some v_2, some (.ref p_9), w_72, some v_105, w_113, w_114, none] ∧ (∃ vs_117 : List V, C_116 p_9 = some (.lst vs_117) ∧ vs_117.length ≤ sizeLine ∧ A2 (fun x u => Rp.r (pL pI) x u I_115 Z) z_111 vs_117) ∧ C_116 p0 = some (.lst ws_79) ∧ Ex (off C0 p0) C_116) (i_rng1 (a_one (x_op o_ix (x_v (x_var (i := 6) rfl (Rp.mono _ (Ex.refl _) exz r_110))) (x_var (i := 3) rfl (Rp.mono _ (e_14.trans (e_68.trans (e_85.trans e_108))) exz r_7))))) s_109 (fun _ _ h => h.elim) hm (fun _ e_131 => ⟨none, none, rfl, ⟨_, hc_76, hl_77, a2up (Ex.trans (e_85.trans e_108) e_131) hr_78⟩, hc_80, fr_82⟩) (fun _ _ _ _ _ => trivial) (fun _ _ _ _ _ e ⟨w_113, w_114, hs_112, ⟨vs_117, hc_118, hl_119, hr_120⟩, hc_121, fr_122⟩ => ⟨w_113, w_114, hs_112, ⟨vs_117, hc_118, hl_119, a2up e hr_120⟩, hc_121, fr_122⟩) (fun N x_123 v_124 z_111 σ2 I_125 C_126 H_127 e_128 s_129 ⟨w_113, w_114, hs_112, ⟨vs_117, hc_118, hl_119, hr_120⟩, hc_121, fr_122⟩ r_130 hm => ?_) (fun z_182 σ2 I_177 C_178 H_179 e_180 s_181 ⟨w_184, w_185, hs_183, ⟨vs_188, hc_189, hl_190, hr_191⟩, hc_192, fr_193⟩ hm => ?_)
      · subst hs_112
        refine g1 (K := K) x_123 v_124 I_125 C_126 H_127 _ s_129 r_130 fun σ2 ⟨v_132, hs_134, r_133⟩ => ?_
        subst hs_134
        refine q_asg (E := E) (K := K) (σ := [some (.ref p0), some v_wishes, some v_desks, some v_2, some (.ref p_9), w_72, some v_105, some v_132, w_114, none]) (i := 8) (x_lcg (i_rng1 (a_one (x_var (i := 3) rfl (Rp.mono _ (e_14.trans (e_68.trans (e_85.trans (e_108.trans e_128)))) exz r_7)))) g1 (fun _ _ _ _ ⟨_, h, _⟩ => by rw [h]; rfl) (fun x_135 σ2 I_136 C_137 e_138 c_139 ⟨v_140, h, r_141⟩ => by subst h; exact (t_test (x_op o_eqI (x_op o_mod (x_cb o_int (a_one (x_op o_fdiv (x_var (i := 7) rfl (Rp.mono _ e_138 exz r_133)) (x_op o_ix (x_v (x_var (i := 6) rfl (Rp.mono _ (e_128.trans e_138) exz r_110))) (x_var (i := 9) rfl (Rp.mono _ (Ex.refl _) exz r_141)))))) (x_int (i := 2))) (x_int (i := 1))))) (fun x_135 σ2 I_136 C_137 e_138 c_139 ⟨v_140, h, r_141⟩ => by subst h; exact (x_var (i := 9) rfl (Rp.mono _ (Ex.refl _) exz r_141))) (fun _ _ _ _ _ e ⟨v_140, h, r_141⟩ => ⟨v_140, h, Rp.mono _ e exz r_141⟩)) s_129 (fun _ _ h => h.elim) hm fun members_142 v_143 I_144 H_145 e_146 s_147 r_148 hm => ?_
        refine s_if (E := E) (K := K) (σ := [some (.ref p0), some v_wishes, some v_desks, some v_2, some (.ref p_9), w_72, some v_105, some v_132, some v_143, none]) (t_B (x_call (a_cons (x_lc (i_list (x_var (i := 8) rfl (Rp.mono _ (Ex.refl _) exz r_148))) g1 (fun _ _ _ _ ⟨_, h, _⟩ => by rw [h]; rfl) (fun x_149 σ2 I_150 C_151 e_152 c_153 ⟨v_154, h, r_155⟩ => by subst h; exact (x_op o_ix (x_v (x_var (i := 1) rfl (Rp.mono _ (e_5.trans (e_14.trans (e_68.trans (e_85.trans (e_108.trans (e_128.trans (e_146.trans e_152))))))) exz r_wishes))) (x_var (i := 9) rfl (Rp.mono _ (Ex.refl _) exz r_155)))) (fun _ _ _ _ _ e ⟨v_154, h, r_155⟩ => ⟨v_154, h, Rp.mono _ e exz r_155⟩)) (a_one (x_var (i := 2) rfl (Rp.mono _ (e_5.trans (e_14.trans (e_68.trans (e_85.trans (e_108.trans (e_128.trans e_146)))))) exz r_desks)))))) s_147 (fun _ _ h => h.elim) hm (fun I_156 H_157 e_158 s_159 hm => ?_) (fun I_160 H_161 e_162 s_163 hm => ?_)
        · refine q_app (E := E) (K := K) (σ := [some (.ref p0), some v_wishes, some v_desks, some v_2, some (.ref p_9), w_72, some v_105, some v_132, some v_143, none]) (i := 4) rfl hc_118 (a2up (e_146.trans e_158) hr_120) (x_var (i := 8) rfl (Rp.mono _ e_158 exz r_148)) s_159 (fun _ _ h => h.elim) hm fun found_164 vs_165 I_166 C_167 H_168 e_169 s_170 hc_171 k_172 hl_173 hr_174 hm => ?_
          have hc_175 := (k_172 _ ne_21).trans hc_121
          have fr_176 := fr_keep fr_122 hB_22 k_172
          exact hm _ _ _ _ (e_146.trans (e_158.trans e_169)) s_170 ⟨some v_132, some v_143, rfl, ⟨_, hc_171, hl_173, a2up (Ex.refl _) hr_174⟩, hc_175, fr_176⟩
        · exact hm _ _ _ _ (e_146.trans e_162) s_163 ⟨some v_132, some v_143, rfl, ⟨_, hc_118, hl_119, a2up (e_146.trans e_162) hr_120⟩, hc_121, fr_122⟩
      subst hs_183
      exact hm _ _ _ _ (e_85.trans (e_108.trans e_180)) s_181 ⟨some v_105, w_184, w_185, rfl, ⟨_, hc_189, hl_190, a2up (Ex.refl _) hr_191⟩, hc_192, fr_193⟩
    · exact hm _ _ _ _ e_89 s_90 ⟨none, none, none, rfl, ⟨_, hc_76, hl_77, a2up e_89 hr_78⟩, hc_80, fr_82⟩
    subst hs_92
    obtain ⟨I_199, C_200, e_201, s_202, h_203, k_204⟩ := freeze s_198 hc_99
    have r_206 := frz_list e_201 h_203 hl_100 hr_101
    have hc_207 := (k_204 _ ne_21).trans hc_102
    have fr_208 := fr_keep fr_103 hB_22 k_204
    refine q_ret (E := E) (K := K) (σ := [some (.ref p0), some v_wishes, some v_desks, some v_2, some (.ref p_9), w_72, w_93, w_94, w_95, none]) (x_var (i := 4) rfl (Rp.mono _ (Ex.refl _) exz r_206)) s_202 (fun _ _ h => h.elim) hm fun a_209 v_210 I_211 H_212 e_213 s_214 r_215 hm => ?_
    exact ret_pool hm (e_5.trans (e_14.trans (e_68.trans (e_197.trans (e_201.trans e_213))))) fr_208 s_214 hc_207 (Rt.mono _ (e_197.trans (e_201.trans e_213)) exz hx_81) r_215
def m__law_is_int (a_value : Int) : Res Bool :=
  ((andR (un (fun _ => Res.ok true) (pair (Res.ok a_value) (Res.ok ()))) (un notR (un (fun _ => Res.ok false) (pair (Res.ok a_value) (Res.ok ()))))).bind fun a_1 => Res.ok a_1)
abbrev N__law_is_int : List Str := ["value"]
theorem sc__law_is_int : FnScope N__law_is_int ["value"] (defScope s__law_is_int) := ⟨rfl, rfl, rfl, by decide +kernel, rfl, by decide +kernel, by decide +kernel⟩
theorem bind__law_is_int {K : PySem.W.Frag} {mg : Str → Option Value} {T : Tx K mg} : Binds K T.d__law_is_int ["value"] [] := FunD.bindsN T.F__law_is_int fun _ _ _ _ _ _ us hl => match us, hl with | [_], _ => rfl
abbrev sp__law_is_int (K : PySem.W.Frag) : Sp := spP K (t1 pI) m__law_is_int pB
theorem ok__law_is_int (T : Tx K mg) : FnOk P w K mg base (L2.CX P w) 1 T.f__law_is_int T.d__law_is_int ["value"] (sp__law_is_int K) := by
  refine T.F__law_is_int.ok sc__law_is_int (fun vs H Q E h => ?_) (fun cdv A outer s H vs Q E hr h => ?_)
  · obtain ⟨I, C, a, _, hr, _⟩ := h
    exact Rt.len _ hr
  · obtain ⟨I0, C0, a_value, hs, ⟨v_value, rfl, r_value⟩, hm⟩ := h
    have hm : Post (m__law_is_int a_value) (PQ pB I0 C0 Q) (PX E K I0 C0) := hm
    replace r_value : Rp.r pI a_value v_value I0 Z := Im.im r_value
    unfold m__law_is_int at hm
    refine ⟨_, (pss_cons (ps_ret (pe_and (pe_callB (r := rIsi K) call_isi (by rfl) T.gb_isinstance bt_isinstance (pa_cons (pv 0) (pa_cons (pe_bltn (v := .ty "int") rfl T.gb_int bt_int rfl) pa_nil))) (pe_one (pe_not (pe_callB (r := rIsi K) call_isi (by rfl) T.gb_isinstance bt_isinstance (pa_cons (pv 0) (pa_cons (pe_bltn (v := .ty "bool") rfl T.gb_bool bt_bool rfl) pa_nil))))))) pss_nil), ?_⟩
    refine q_ret (E := E) (K := K) (σ := [some v_value]) (x_andV (x_cb (o_isi (n := "int") (by decide +kernel)) (a_cons (x_var (i := 0) rfl (Rp.mono _ (Ex.refl _) exz r_value)) (a_one (x_c (R := pY "int") (a := ()) fun _ _ => rfl)))) (x_notV (x_cb (o_isi (n := "int") (by decide +kernel)) (a_cons (x_var (i := 0) rfl (Rp.mono _ (Ex.refl _) exz r_value)) (a_one (x_c (R := pY "bool") (a := ()) fun _ _ => rfl)))))) hs (fun _ _ h => PX.mono (Ex.refl _) (Ex.refl _) h) hm fun a_1 v_2 I_3 H_4 e_5 s_6 r_7 hm => ?_
    exact hm v_2 I_3 H_4 e_5 (St.less s_6 (Ex.refl _)) (Im.im r_7)
def m__law_refused (a_wishes : (List (Int × Int))) (a_weights : (List Int)) (a_which : Int) : Res (Str × Int) :=
  ((tryR knE (fun c => isaE c .DeskError) (ifR (bin eqR (Res.ok a_which) (Res.ok (0 : Int))) ((un (fun (p : ((List (Int × Int)) × Int × (List Int))) => m_best_wishes p.1 p.2.1 p.2.2) (pair (Res.ok a_wishes) (pair (Res.ok (1 : Int)) (Res.ok a_weights)))).bind fun (b_21 : (List Int)) => (Res.ok (Out.nx ()))) ((un (fun (p : ((List (Int × Int)) × Int × (List Int) × Int)) => m_reason p.1 p.2.1 p.2.2.1 p.2.2.2) (pair (Res.ok a_wishes) (pair (Res.ok (1 : Int)) (pair (Res.ok a_weights) (Res.ok (0 : Int)))))).bind fun (b_26 : (Option (Int × Int))) => (Res.ok (Out.nx ())))) (fun c_38 j_39 => (ifR (andR (Res.ok (isaE c_38 .BadPair)) (andR (un notR (Res.ok (isaE c_38 .TooMany))) (un notR (Res.ok (isaE c_38 .Unlike))))) ((pair (Res.ok ("pair" : Str)) (Res.ok j_39)).bind fun a_51 => Res.ok (Out.rt a_51)) (ifR (andR (Res.ok (isaE c_38 .TooMany)) (andR (un notR (Res.ok (isaE c_38 .BadPair))) (un notR (Res.ok (isaE c_38 .Unlike))))) ((pair (Res.ok ("many" : Str)) (Res.ok j_39)).bind fun a_66 => Res.ok (Out.rt a_66)) (ifR (andR (Res.ok (isaE c_38 .Unlike)) (andR (un notR (Res.ok (isaE c_38 .BadPair))) (un notR (Res.ok (isaE c_38 .TooMany))))) ((pair (Res.ok ("unlike" : Str)) (Res.ok j_39)).bind fun a_81 => Res.ok (Out.rt a_81)) ((pair (Res.ok ("other" : Str)) (Res.ok (0 : Int))).bind fun a_88 => Res.ok (Out.rt a_88))))))).bind fun (o : Out Unit (Str × Int)) => match o with | .nx z_2 => ((pair (Res.ok ("none" : Str)) (Res.ok (0 : Int))).bind fun a_100 => Res.ok a_100) | .br _ => Res.bad | .rt r => Res.ok r)
abbrev N__law_refused : List Str := ["wishes", "weights", "which", "e"]
theorem sc__law_refused : FnScope N__law_refused ["wishes", "weights", "which"] (defScope s__law_refused) := ⟨rfl, rfl, rfl, by decide +kernel, rfl, by decide +kernel, by decide +kernel⟩
theorem bind__law_refused {K : PySem.W.Frag} {mg : Str → Option Value} {T : Tx K mg} : Binds K T.d__law_refused ["wishes", "weights", "which"] [] := FunD.bindsN T.F__law_refused fun _ _ _ _ _ _ us hl => match us, hl with | [_, _, _], _ => rfl
abbrev sp__law_refused (K : PySem.W.Frag) : Sp := spP K (tc (pL (pT (tc pI (t1 pI)))) (tc (pL pI) (t1 pI))) (fun (p : ((List (Int × Int)) × (List Int) × Int)) => m__law_refused p.1 p.2.1 p.2.2) (pT (tc pS (t1 pI)))
theorem ok__law_refused (T : Tx K mg) : FnOk P w K mg base (L2.CX P w) 6 T.f__law_refused T.d__law_refused ["wishes", "weights", "which"] (sp__law_refused K) := by
  refine T.F__law_refused.ok sc__law_refused (fun vs H Q E h => ?_) (fun cdv A outer s H vs Q E hr h => ?_)
  · obtain ⟨I, C, a, _, hr, _⟩ := h
    exact Rt.len _ hr
  · obtain ⟨I0, C0, ⟨a_wishes, a_weights, a_which⟩, hs, ⟨v_wishes, us0, rfl, r_wishes, v_weights, us1, rfl, r_weights, v_which, rfl, r_which⟩, hm⟩ := h
    have hm : Post (m__law_refused a_wishes a_weights a_which) (PQ (pT (tc pS (t1 pI))) I0 C0 Q) (PX E K I0 C0) := hm
    replace r_wishes : Rp.r (pL (pT (tc pI (t1 pI)))) a_wishes v_wishes I0 Z := Im.im r_wishes
    replace r_weights : Rp.r (pL pI) a_weights v_weights I0 Z := Im.im r_weights
    replace r_which : Rp.r pI a_which v_which I0 Z := Im.im r_which
    unfold m__law_refused at hm
    refine ⟨_, (Evl.pss_cut (ps_tryS (c := .ref (He.ga K "DeskError")) (i := 3) rfl rfl sc__law_refused.nd rfl rfl ⟨rfl, by decide, Or.inl (T.xs .DeskError (by decide)).g⟩ (takes_of rfl rfl rfl rfl) (fun W pn xe tk hp => (pss_cons (ps_if (pt_cmpR op_eq (pv 2) pe_int (nomark _)) (pss_cons (ps_expr (by exact (pe_callS (ok_best_wishes T) (hr.mono (by decide)) rfl T.g_best_wishes T.F_best_wishes.kp bind_best_wishes (fun σ => passAt tk σ) (by exact (pa_cons (pv 0) (pa_cons pe_int (pa_cons (pv 1) pa_nil))))))) pss_nil) (pss_cons (ps_expr (by exact (pe_callS (ok_reason T) (hr.mono (by decide)) rfl T.g_reason T.F_reason.kp bind_reason (fun σ => passAt tk σ) (by exact (pa_cons (pv 0) (pa_cons pe_int (pa_cons (pv 1) (pa_cons pe_int pa_nil)))))))) pss_nil)) pss_nil)) (fun a oe cls d pn hz hf => (pss_cons (ps_if (PW.pt (pw_and (pt_val (pe_callB (r := rIsX K a cls d) (call_isX hz hf) (by rfl) T.gb_isinstance bt_isinstance (pa_cons (pv 3) (pa_cons (pe_glob (v := .ref (He.ga K "BadPair")) rfl (T.xs .BadPair (by decide)).g rfl) pa_nil)))) (pw_and (pt_not (pt_val (pe_callB (r := rIsX K a cls d) (call_isX hz hf) (by rfl) T.gb_isinstance bt_isinstance (pa_cons (pv 3) (pa_cons (pe_glob (v := .ref (He.ga K "TooMany")) rfl (T.xs .TooMany (by decide)).g rfl) pa_nil))))) (pw_and1 (pt_not (pt_val (pe_callB (r := rIsX K a cls d) (call_isX hz hf) (by rfl) T.gb_isinstance bt_isinstance (pa_cons (pv 3) (pa_cons (pe_glob (v := .ref (He.ga K "Unlike")) rfl (T.xs .Unlike (by decide)).g rfl) pa_nil))))))))) (pss_cons (ps_ret (pe_tup (pa_cons pe_str (pa_cons (pe_xfX hz hf (pv 3)) pa_nil)))) pss_nil) pss_nil) (pss_cons (ps_if (PW.pt (pw_and (pt_val (pe_callB (r := rIsX K a cls d) (call_isX hz hf) (by rfl) T.gb_isinstance bt_isinstance (pa_cons (pv 3) (pa_cons (pe_glob (v := .ref (He.ga K "TooMany")) rfl (T.xs .TooMany (by decide)).g rfl) pa_nil)))) (pw_and (pt_not (pt_val (pe_callB (r := rIsX K a cls d) (call_isX hz hf) (by rfl) T.gb_isinstance bt_isinstance (pa_cons (pv 3) (pa_cons (pe_glob (v := .ref (He.ga K "BadPair")) rfl (T.xs .BadPair (by decide)).g rfl) pa_nil))))) (pw_and1 (pt_not (pt_val (pe_callB (r := rIsX K a cls d) (call_isX hz hf) (by rfl) T.gb_isinstance bt_isinstance (pa_cons (pv 3) (pa_cons (pe_glob (v := .ref (He.ga K "Unlike")) rfl (T.xs .Unlike (by decide)).g rfl) pa_nil))))))))) (pss_cons (ps_ret (pe_tup (pa_cons pe_str (pa_cons (pe_xfX hz hf (pv 3)) pa_nil)))) pss_nil) pss_nil) (pss_cons (ps_if (PW.pt (pw_and (pt_val (pe_callB (r := rIsX K a cls d) (call_isX hz hf) (by rfl) T.gb_isinstance bt_isinstance (pa_cons (pv 3) (pa_cons (pe_glob (v := .ref (He.ga K "Unlike")) rfl (T.xs .Unlike (by decide)).g rfl) pa_nil)))) (pw_and (pt_not (pt_val (pe_callB (r := rIsX K a cls d) (call_isX hz hf) (by rfl) T.gb_isinstance bt_isinstance (pa_cons (pv 3) (pa_cons (pe_glob (v := .ref (He.ga K "BadPair")) rfl (T.xs .BadPair (by decide)).g rfl) pa_nil))))) (pw_and1 (pt_not (pt_val (pe_callB (r := rIsX K a cls d) (call_isX hz hf) (by rfl) T.gb_isinstance bt_isinstance (pa_cons (pv 3) (pa_cons (pe_glob (v := .ref (He.ga K "TooMany")) rfl (T.xs .TooMany (by decide)).g rfl) pa_nil))))))))) (pss_cons (ps_ret (pe_tup (pa_cons pe_str (pa_cons (pe_xfX hz hf (pv 3)) pa_nil)))) pss_nil) pss_nil) (pss_cons (ps_ret (pe_tup (pa_cons pe_str (pa_cons pe_int pa_nil)))) pss_nil)))))) (pss_cons (ps_ret (pe_tup (pa_cons pe_str (pa_cons pe_int pa_nil)))) pss_nil)), ?_⟩
    refine s_try (E := E) (K := K) (σ := [some v_wishes, some v_weights, some v_which, none]) (mg := mg) (fun (z_2 : Unit) σ2 I_9 C_10 => ∃ w_8 : Option V, σ2 = [some v_wishes, some v_weights, some v_which, w_8] ∧ Ex C0 C_10) ((fun (z_1 : Unit) σ2 I_4 C_5 => σ2 = [some v_wishes, some v_weights, some v_which, none] ∧ Ex C0 C_5) ()) (fun c h => ⟨T.ex c .DeskError h (by decide), T.xs c h⟩) (fun _ _ _ e ⟨hs_3, fr_6⟩ => fun _ _ h => PX.mono (Ex.trans (Ex.refl _) e) fr_6 h) (fun _ _ _ _ e ⟨hs_3, fr_6⟩ => ⟨hs_3, fr_6⟩) hm (fun N W hW_12 hm => ?_) (fun N c_38 j_39 a_40 cls_42 d_41 σ2 I_31 C_32 H_33 kn_37 cg_36 e_34 s_35 ⟨hs_3, fr_6⟩ hm => ?_) (fun z_2 σ2 I_95 C_96 H_97 e_98 s_99 ⟨w_8, hs_7, fr_11⟩ hm => ?_)
    · refine s_if (E := WE W _) (K := K) (σ := [some v_wishes, some v_weights, some v_which, none]) (t_test (x_op o_eqI (x_var (i := 2) rfl (Rp.mono _ (Ex.refl _) exz r_which)) (x_int (i := 0)))) hs (hW_12 _ _ _ (Ex.refl _) ⟨rfl, (Ex.refl _)⟩) hm (fun I_13 H_14 e_15 s_16 hm => ?_) (fun I_17 H_18 e_19 s_20 hm => ?_)
      · refine s_expr (E := WE W _) (K := K) (σ := [some v_wishes, some v_weights, some v_which, none]) (x_own (n_callS (a_cons (x_var (i := 0) rfl (Rp.mono _ e_15 exz r_wishes)) (a_cons (x_int (i := 1)) (a_one (x_var (i := 1) rfl (Rp.mono _ e_15 exz r_weights))))))) s_16 (hW_12 _ _ _ e_15 ⟨rfl, (Ex.refl _)⟩) hm fun b_21 I_22 H_23 e_24 s_25 hm => ?_
        exact hm _ _ _ _ (e_15.trans e_24) s_25 ⟨none, rfl, (Ex.refl _)⟩
      · refine s_expr (E := WE W _) (K := K) (σ := [some v_wishes, some v_weights, some v_which, none]) (x_callS (a_cons (x_var (i := 0) rfl (Rp.mono _ e_19 exz r_wishes)) (a_cons (x_int (i := 1)) (a_cons (x_var (i := 1) rfl (Rp.mono _ e_19 exz r_weights)) (a_one (x_int (i := 0))))))) s_20 (hW_12 _ _ _ e_19 ⟨rfl, (Ex.refl _)⟩) hm fun b_26 I_27 H_28 e_29 s_30 hm => ?_
        exact hm _ _ _ _ (e_19.trans e_29) s_30 ⟨none, rfl, (Ex.refl _)⟩
    · subst hs_3
      refine s_if (E := E) (K := K) (σ := [some v_wishes, some v_weights, some v_which, some (.ref a_40)]) (t_and (t_B (x_isE (Cg.up (Ex.refl _) cg_36) (T.ki _ .BadPair kn_37 (by decide)) (by rfl))) (t_and (t_not (t_B (x_isE (Cg.up (Ex.refl _) cg_36) (T.ki _ .TooMany kn_37 (by decide)) (by rfl)))) (t_not (t_B (x_isE (Cg.up (Ex.refl _) cg_36) (T.ki _ .Unlike kn_37 (by decide)) (by rfl)))))) s_35 (fun _ _ h => PX.mono e_34 fr_6 h) hm (fun I_43 H_44 e_45 s_46 hm => ?_) (fun I_47 H_48 e_49 s_50 hm => ?_)
      · refine q_ret (E := E) (K := K) (σ := [some v_wishes, some v_weights, some v_which, some (.ref a_40)]) (x_tup (a_cons (x_str (by decide +kernel)) (a_one (x_at (Cg.up e_45 cg_36) (by rfl)))) (Nat.le_of_ble_eq_true rfl)) s_46 (fun _ _ h => PX.mono (e_34.trans e_45) fr_6 h) hm fun a_51 v_52 I_53 H_54 e_55 s_56 r_57 hm => ?_
        exact hm v_52 I_53 H_54 (e_34.trans (e_45.trans e_55)) (St.less s_56 fr_6) (Im.im r_57)
      · refine s_if (E := E) (K := K) (σ := [some v_wishes, some v_weights, some v_which, some (.ref a_40)]) (t_and (t_B (x_isE (Cg.up e_49 cg_36) (T.ki _ .TooMany kn_37 (by decide)) (by rfl))) (t_and (t_not (t_B (x_isE (Cg.up e_49 cg_36) (T.ki _ .BadPair kn_37 (by decide)) (by rfl)))) (t_not (t_B (x_isE (Cg.up e_49 cg_36) (T.ki _ .Unlike kn_37 (by decide)) (by rfl)))))) s_50 (fun _ _ h => PX.mono (e_34.trans e_49) fr_6 h) hm (fun I_58 H_59 e_60 s_61 hm => ?_) (fun I_62 H_63 e_64 s_65 hm => ?_)
        · refine q_ret (E := E) (K := K) (σ := [some v_wishes, some v_weights, some v_which, some (.ref a_40)]) (x_tup (a_cons (x_str (by decide +kernel)) (a_one (x_at (Cg.up (e_49.trans e_60) cg_36) (by rfl)))) (Nat.le_of_ble_eq_true rfl)) s_61 (fun _ _ h => PX.mono (e_34.trans (e_49.trans e_60)) fr_6 h) hm fun a_66 v_67 I_68 H_69 e_70 s_71 r_72 hm => ?_
          exact hm v_67 I_68 H_69 (e_34.trans (e_49.trans (e_60.trans e_70))) (St.less s_71 fr_6) (Im.im r_72)
        · refine s_if (E := E) (K := K) (σ := [some v_wishes, some v_weights, some v_which, some (.ref a_40)]) (t_and (t_B (x_isE (Cg.up (e_49.trans e_64) cg_36) (T.ki _ .Unlike kn_37 (by decide)) (by rfl))) (t_and (t_not (t_B (x_isE (Cg.up (e_49.trans e_64) cg_36) (T.ki _ .BadPair kn_37 (by decide)) (by rfl)))) (t_not (t_B (x_isE (Cg.up (e_49.trans e_64) cg_36) (T.ki _ .TooMany kn_37 (by decide)) (by rfl)))))) s_65 (fun _ _ h => PX.mono (e_34.trans (e_49.trans e_64)) fr_6 h) hm (fun I_73 H_74 e_75 s_76 hm => ?_) (fun I_77 H_78 e_79 s_80 hm => ?_)
          · refine q_ret (E := E) (K := K) (σ := [some v_wishes, some v_weights, some v_which, some (.ref a_40)]) (x_tup (a_cons (x_str (by decide +kernel)) (a_one (x_at (Cg.up (e_49.trans (e_64.trans e_75)) cg_36) (by rfl)))) (Nat.le_of_ble_eq_true rfl)) s_76 (fun _ _ h => PX.mono (e_34.trans (e_49.trans (e_64.trans e_75))) fr_6 h) hm fun a_81 v_82 I_83 H_84 e_85 s_86 r_87 hm => ?_
            exact hm v_82 I_83 H_84 (e_34.trans (e_49.trans (e_64.trans (e_75.trans e_85)))) (St.less s_86 fr_6) (Im.im r_87)
          · refine q_ret (E := E) (K := K) (σ := [some v_wishes, some v_weights, some v_which, some (.ref a_40)]) (x_tup (a_cons (x_str (by decide +kernel)) (a_one (x_int (i := 0)))) (Nat.le_of_ble_eq_true rfl)) s_80 (fun _ _ h => PX.mono (e_34.trans (e_49.trans (e_64.trans e_79))) fr_6 h) hm fun a_88 v_89 I_90 H_91 e_92 s_93 r_94 hm => ?_
            exact hm v_89 I_90 H_91 (e_34.trans (e_49.trans (e_64.trans (e_79.trans e_92)))) (St.less s_93 fr_6) (Im.im r_94)
    subst hs_7
    refine q_ret (E := E) (K := K) (σ := [some v_wishes, some v_weights, some v_which, w_8]) (x_tup (a_cons (x_str (by decide +kernel)) (a_one (x_int (i := 0)))) (Nat.le_of_ble_eq_true rfl)) s_99 (fun _ _ h => PX.mono e_98 fr_11 h) hm fun a_100 v_101 I_102 H_103 e_104 s_105 r_106 hm => ?_
    exact hm v_101 I_102 H_103 (e_98.trans e_104) (St.less s_105 fr_11) (Im.im r_106)
def m__law_refused_right (a_wishes : (List (Int × Int))) (a_pool : Pl) : Res (Bool × Pl) :=
  ((bin rCatR (Res.ok a_wishes) ((un rng1 (bin rSub (Res.ok (20 : Int)) (un rLen (Res.ok a_wishes)))).bind (mapR (fun (x_1 : Int) => (pair (Res.ok x_1) (Res.ok (60 : Int))))))).bind fun (full_8 : (List (Int × Int))) => (((fun y_30 => ((liftM (un rng1 (Res.ok (20 : Int)))) y_30).bind fun b => mapM (fun (x_23 : Int) => (callM m__law_take (liftM (Res.ok (1001 : Int))))) b.1 b.2) a_pool).bind fun (weights_31 : (List Int) × Pl) => (((callM m__law_take (liftM (Res.ok (20 : Int)))) weights_31.2).bind fun (at_44 : Int × Pl) => (((binM ix (liftM (consR (pair (un rNeg (Res.ok (1 : Int))) (Res.ok (3 : Int))) (consR (pair (Res.ok (3 : Int)) (Res.ok (3 : Int))) (consR (pair (Res.ok (4 : Int)) (Res.ok (2 : Int))) (consR (pair (Res.ok (0 : Int)) (Res.ok (61 : Int))) (consR (pair (Res.ok (60 : Int)) (Res.ok (60 : Int))) (consR (pair (Res.ok (59 : Int)) (Res.ok (61 : Int))) (Res.ok [])))))))) (callM m__law_take (liftM (Res.ok (6 : Int))))) at_44.2).bind fun (bad_57 : (Int × Int) × Pl) => ((bin rCatR (bin rCatR (slR (Res.ok full_8) (Res.ok none) (someR (Res.ok at_44.1))) (consR (Res.ok bad_57.1) (Res.ok []))) (slR (Res.ok full_8) (someR (bin rAdd (Res.ok at_44.1) (Res.ok (1 : Int)))) (Res.ok none))).bind fun (spoilt_70 : (List (Int × Int))) => (((slM (Res.ok weights_31.1) (liftM (Res.ok none)) (unM (fun i => Res.ok (some i)) (callM m__law_take (liftM (Res.ok (20 : Int)))))) bad_57.2).bind fun (few_77 : (List Int) × Pl) => (((consR (Res.ok (0 : Int)) (consR (Res.ok (1 : Int)) (Res.ok []))).bind fun xs => loopR (fun (x_97 : Int) (z_90 : Unit) => (ifR (orR (bin neR (un (fun (p : ((List (Int × Int)) × (List Int) × Int)) => m__law_refused p.1 p.2.1 p.2.2) (pair (Res.ok full_8) (pair (Res.ok weights_31.1) (Res.ok x_97)))) (pair (Res.ok ("none" : Str)) (Res.ok (0 : Int)))) (bin neR (un (fun (p : ((List (Int × Int)) × (List Int) × Int)) => m__law_refused p.1 p.2.1 p.2.2) (pair (Res.ok spoilt_70) (pair (Res.ok few_77.1) (Res.ok x_97)))) (pair (Res.ok ("pair" : Str)) (Res.ok at_44.1)))) ((Res.ok false).bind fun a_117 => Res.ok (Out.rt (a_117, few_77.2))) (ifR (orR (bin neR (un (fun (p : ((List (Int × Int)) × (List Int) × Int)) => m__law_refused p.1 p.2.1 p.2.2) (pair (Res.ok full_8) (pair (Res.ok few_77.1) (Res.ok x_97)))) (pair (Res.ok ("unlike" : Str)) (Res.ok (1 : Int)))) (bin neR (un (fun (p : ((List (Int × Int)) × (List Int) × Int)) => m__law_refused p.1 p.2.1 p.2.2) (pair (Res.ok full_8) (pair (bin rCatR (Res.ok weights_31.1) (consR (Res.ok (0 : Int)) (Res.ok []))) (Res.ok x_97)))) (pair (Res.ok ("unlike" : Str)) (Res.ok (1 : Int))))) ((Res.ok false).bind fun a_132 => Res.ok (Out.rt (a_132, few_77.2))) (ifR (bin neR (un (fun (p : ((List (Int × Int)) × (List Int) × Int)) => m__law_refused p.1 p.2.1 p.2.2) (pair (bin rCatR (Res.ok spoilt_70) (consR (pair (Res.ok (0 : Int)) (Res.ok (1 : Int))) (Res.ok []))) (pair (Res.ok few_77.1) (Res.ok x_97)))) (pair (Res.ok ("many" : Str)) (Res.ok (20 : Int)))) ((Res.ok false).bind fun a_147 => Res.ok (Out.rt (a_147, few_77.2))) (Res.ok (Out.nx ())))))) xs ()).bind fun (o : Out Unit (Bool × Pl)) => match o with | .nx z_159 => ((Res.ok true).bind fun a_166 => Res.ok (a_166, few_77.2)) | .br _ => Res.bad | .rt r => Res.ok r)))))))
abbrev N__law_refused_right : List Str := ["pool", "wishes", "full", "weights", "at", "bad", "spoilt", "few", "which", "k"]
theorem sc__law_refused_right : FnScope N__law_refused_right ["pool", "wishes"] (defScope s__law_refused_right) := ⟨rfl, rfl, rfl, by decide +kernel, rfl, by decide +kernel, by decide +kernel⟩
theorem bind__law_refused_right {K : PySem.W.Frag} {mg : Str → Option Value} {T : Tx K mg} : Binds K T.d__law_refused_right ["pool", "wishes"] [] := FunD.bindsN T.F__law_refused_right fun _ _ _ _ _ _ us hl => match us, hl with | [_, _], _ => rfl
abbrev sp__law_refused_right (K : PySem.W.Frag) : Sp := spM pM (t1 (pL (pT (tc pI (t1 pI))))) m__law_refused_right pB
theorem ok__law_refused_right (T : Tx K mg) : FnOk P w K mg base (L2.CX P w) 7 T.f__law_refused_right T.d__law_refused_right ["pool", "wishes"] (sp__law_refused_right K) := by
  refine T.F__law_refused_right.ok sc__law_refused_right (fun vs H Q E h => ?_) (fun cdv A outer s H vs Q E hr h => ?_)
  · obtain ⟨I, C, p, ws, us, x, a, rfl, _, _, _, hr, _⟩ := h
    exact congrArg (· + 1) (Rt.len _ hr)
  · obtain ⟨I0, C0, p0, ws0, us, a_pool, a_wishes, rfl, hs, hc0, hx1, ⟨v_wishes, rfl, r_wishes⟩, hm⟩ := h
    have hx0 := It.im (C' := Z) hx1
    have hm : Post (m__law_refused_right a_wishes a_pool) (PM p0 pM pB I0 C0 Q) XF := hm
    replace r_wishes : Rp.r (pL (pT (tc pI (t1 pI)))) a_wishes v_wishes I0 Z := Im.im r_wishes
    unfold m__law_refused_right at hm
    refine ⟨_, (pss_cons (ps_set (i := 2) sc__law_refused_right.nd rfl (Or.inl rfl) (pe_op op_cat (pv 1) (pe_lc (own := [("k", 9)]) rfl sc__law_refused_right.nd (pi_range1 (by rfl) T.gb_range (pa_cons (pe_op op_sub pe_int (pe_callB (r := rLen1 K) call_len_seq (by rfl) T.gb_len bt_len (pa_cons (pv 1) pa_nil))) pa_nil)) (blkOk_by (own := [("k", 9)]) (N := N__law_refused_right) (sc := defScope s__law_refused_right) (by decide +kernel)) (fun _ _ _ _ _ => (pg_name (i := 9) sc__law_refused_right.nd rfl (Or.inl rfl))) (fun _ _ _ _ _ => pts_nil) (fun _ _ _ _ _ => (pe_tup (pa_cons (pv 9) (pa_cons pe_int pa_nil))))))) (pss_cons (ps_setLc (i := 3) (own := [("k", 9)]) rfl sc__law_refused_right.nd rfl rfl (sw_true rfl rfl rfl (by decide +kernel)) (pi_range1 (by rfl) T.gb_range (pa_cons pe_int pa_nil)) (blkOk_by (own := [("k", 9)]) (N := N__law_refused_right) (sc := defScope s__law_refused_right) (by decide +kernel)) (fun _ _ _ _ _ => (pg_name (i := 9) sc__law_refused_right.nd rfl (Or.inl rfl))) (fun _ _ _ _ _ => pts_nil) (fun _ _ _ _ _ => (pe_call (ok__law_take T) (hr.mono (by decide)) rfl T.g__law_take T.F__law_take.kp bind__law_take .nil passL (pa_cons (pv 0) (pa_cons pe_int pa_nil))))) (pss_cons (ps_set (i := 4) sc__law_refused_right.nd rfl (Or.inl rfl) (pe_call (ok__law_take T) (hr.mono (by decide)) rfl T.g__law_take T.F__law_take.kp bind__law_take .nil passE (pa_cons (pv 0) (pa_cons pe_int pa_nil)))) (pss_cons (ps_set (i := 5) sc__law_refused_right.nd rfl (Or.inl rfl) (pe_ix (r := rIxL K) ix_list (pe_lst (pa_cons (pe_tup (pa_cons (pe_un un_neg pe_int) (pa_cons pe_int pa_nil))) (pa_cons (pe_tup (pa_cons pe_int (pa_cons pe_int pa_nil))) (pa_cons (pe_tup (pa_cons pe_int (pa_cons pe_int pa_nil))) (pa_cons (pe_tup (pa_cons pe_int (pa_cons pe_int pa_nil))) (pa_cons (pe_tup (pa_cons pe_int (pa_cons pe_int pa_nil))) (pa_cons (pe_tup (pa_cons pe_int (pa_cons pe_int pa_nil))) pa_nil))))))) (pe_call (ok__law_take T) (hr.mono (by decide)) rfl T.g__law_take T.F__law_take.kp bind__law_take .nil passE (pa_cons (pv 0) (pa_cons pe_int pa_nil))) (fun _ _ => rfl))) (pss_cons (ps_set (i := 6) sc__law_refused_right.nd rfl (Or.inl rfl) (pe_op op_cat (pe_op op_cat (pe_slice (r := rSlL K) sl_list (pv 2) po_none (po_some (pv 4))) (pe_lst (pa_cons (pv 5) pa_nil))) (pe_slice (r := rSlL K) sl_list (pv 2) (po_some (pe_op op_add (pv 4) pe_int)) po_none))) (pss_cons (ps_set (i := 7) sc__law_refused_right.nd rfl (Or.inl rfl) (pe_slice (r := rSlL K) sl_list (pv 3) po_none (po_some (pe_call (ok__law_take T) (hr.mono (by decide)) rfl T.g__law_take T.F__law_take.kp bind__law_take .nil passE (pa_cons (pv 0) (pa_cons pe_int pa_nil)))))) (pss_cons (ps_for (passes_of rfl) rfl (show PI _ _ _ (iList K _) from pi_list (pe_lst (pa_cons pe_int (pa_cons pe_int pa_nil)))) (pg_name (i := 8) sc__law_refused_right.nd rfl (Or.inl rfl)) (pss_cons (ps_if (PW.pt (pw_or (pt_cmpR (r := rNeD K) (op_neD hr.units) (pe_call (ok__law_refused T) (hr.mono (by decide)) rfl T.g__law_refused T.F__law_refused.kp bind__law_refused .nil passE (pa_cons (pv 2) (pa_cons (pv 3) (pa_cons (pv 8) pa_nil)))) (pe_tup (pa_cons pe_str (pa_cons pe_int pa_nil))) (nomark _)) (pw_or1 (pt_cmpR (r := rNeD K) (op_neD hr.units) (pe_call (ok__law_refused T) (hr.mono (by decide)) rfl T.g__law_refused T.F__law_refused.kp bind__law_refused .nil passE (pa_cons (pv 6) (pa_cons (pv 7) (pa_cons (pv 8) pa_nil)))) (pe_tup (pa_cons pe_str (pa_cons (pv 4) pa_nil))) (nomark _))))) (pss_cons (ps_ret pe_bl) pss_nil) pss_nil) (pss_cons (ps_if (PW.pt (pw_or (pt_cmpR (r := rNeD K) (op_neD hr.units) (pe_call (ok__law_refused T) (hr.mono (by decide)) rfl T.g__law_refused T.F__law_refused.kp bind__law_refused .nil passE (pa_cons (pv 2) (pa_cons (pv 7) (pa_cons (pv 8) pa_nil)))) (pe_tup (pa_cons pe_str (pa_cons pe_int pa_nil))) (nomark _)) (pw_or1 (pt_cmpR (r := rNeD K) (op_neD hr.units) (pe_call (ok__law_refused T) (hr.mono (by decide)) rfl T.g__law_refused T.F__law_refused.kp bind__law_refused .nil passE (pa_cons (pv 2) (pa_cons (pe_op op_cat (pv 3) (pe_lst (pa_cons pe_int pa_nil))) (pa_cons (pv 8) pa_nil)))) (pe_tup (pa_cons pe_str (pa_cons pe_int pa_nil))) (nomark _))))) (pss_cons (ps_ret pe_bl) pss_nil) pss_nil) (pss_cons (ps_if (pt_cmpR (r := rNeD K) (op_neD hr.units) (pe_call (ok__law_refused T) (hr.mono (by decide)) rfl T.g__law_refused T.F__law_refused.kp bind__law_refused .nil passE (pa_cons (pe_op op_cat (pv 6) (pe_lst (pa_cons (pe_tup (pa_cons pe_int (pa_cons pe_int pa_nil))) pa_nil))) (pa_cons (pv 7) (pa_cons (pv 8) pa_nil)))) (pe_tup (pa_cons pe_str (pa_cons pe_int pa_nil))) (nomark _)) (pss_cons (ps_ret pe_bl) pss_nil) pss_nil) pss_nil)))) (pss_cons (ps_ret pe_bl) pss_nil)))))))), ?_⟩
    refine q_asg (E := E) (K := K) (σ := [some (.ref p0), some v_wishes, none, none, none, none, none, none, none, none]) (i := 2) (x_op o_cat (x_v (x_var (i := 1) rfl (Rp.mono _ (Ex.refl _) exz r_wishes))) (x_v (x_lc (i_rng1 (a_one (x_op o_sub (x_int (i := 20)) (x_cb o_len (a_one (x_v (x_var (i := 1) rfl (Rp.mono _ (Ex.refl _) exz r_wishes)))))))) g1 (fun _ _ _ _ ⟨_, h, _⟩ => by rw [h]; rfl) (fun x_1 σ2 I_2 C_3 e_4 c_5 ⟨v_6, h, r_7⟩ => by subst h; exact (x_tup (a_cons (x_var (i := 9) rfl (Rp.mono _ (Ex.refl _) exz r_7)) (a_one (x_int (i := 60)))) (Nat.le_of_ble_eq_true rfl))) (fun _ _ _ _ _ e ⟨v_6, h, r_7⟩ => ⟨v_6, h, Rp.mono _ e exz r_7⟩)))) hs (fun _ _ h => h.elim) hm fun full_8 v_9 I_10 H_11 e_12 s_13 r_14 hm => ?_
    refine qm_asg (E := E) (K := K) (σ := [some (.ref p0), some v_wishes, some v_9, none, none, none, none, none, none, none]) (i := 3) (m_lc off_same (im_pure (i_rng1 (a_one (x_int (i := 20))))) g1 (fun _ _ _ _ ⟨_, h, _⟩ => by rw [h]; rfl) (fun x_23 σ2 I_24 C_25 e_26 c_27 ⟨v_28, h, r_29⟩ => by subst h; exact (m_callM (i := 0) rfl (am_pure (a_one (x_int (i := 1001))))))) s_13 hc0 (Rt.mono _ e_12 exz hx0) hm fun weights_31 v_32 ws_38 I_33 C_39 H_34 e_35 s_36 hc_40 k_41 hx_42 r_37 hm => ?_
    have fr_43 := fr_pool (off_ex (C := C0) (p := p0)) k_41
    refine qm_asg (E := E) (K := K) (σ := [some (.ref p0), some v_wishes, some v_9, some v_32, none, none, none, none, none, none]) (i := 4) (m_callM (i := 0) rfl (am_pure (a_one (x_int (i := 20))))) s_36 hc_40 (Rt.mono _ (Ex.refl _) exz hx_42) hm fun at_44 v_45 ws_51 I_46 C_52 H_47 e_48 s_49 hc_53 k_54 hx_55 r_50 hm => ?_
    have fr_56 := fr_pool fr_43 k_54
    refine qm_asg (E := E) (K := K) (σ := [some (.ref p0), some v_wishes, some v_9, some v_32, some v_45, none, none, none, none, none]) (i := 5) (m_op (fun _ => (Op2.ofL o_ix)) off_same (m_pure (x_lst (al_cons (x_tup (a_cons (x_un o_neg (x_int (i := 1))) (a_one (x_int (i := 3)))) (Nat.le_of_ble_eq_true rfl)) (al_cons (x_tup (a_cons (x_int (i := 3)) (a_one (x_int (i := 3)))) (Nat.le_of_ble_eq_true rfl)) (al_cons (x_tup (a_cons (x_int (i := 4)) (a_one (x_int (i := 2)))) (Nat.le_of_ble_eq_true rfl)) (al_cons (x_tup (a_cons (x_int (i := 0)) (a_one (x_int (i := 61)))) (Nat.le_of_ble_eq_true rfl)) (al_cons (x_tup (a_cons (x_int (i := 60)) (a_one (x_int (i := 60)))) (Nat.le_of_ble_eq_true rfl)) (al_cons (x_tup (a_cons (x_int (i := 59)) (a_one (x_int (i := 61)))) (Nat.le_of_ble_eq_true rfl)) al_nil)))))) (Nat.le_of_ble_eq_true rfl))) (m_callM (i := 0) rfl (am_pure (a_one (x_int (i := 6)))))) s_49 hc_53 (Rt.mono _ (Ex.refl _) exz hx_55) hm fun bad_57 v_58 ws_64 I_59 C_65 H_60 e_61 s_62 hc_66 k_67 hx_68 r_63 hm => ?_
    have fr_69 := fr_pool fr_56 k_67
    refine q_asg (E := E) (K := K) (σ := [some (.ref p0), some v_wishes, some v_9, some v_32, some v_45, some v_58, none, none, none, none]) (i := 6) (x_op o_cat (x_v (x_op o_cat (x_v (x_sl (x_v (x_var (i := 2) rfl (Rp.mono _ (e_35.trans (e_48.trans e_61)) exz r_14))) p_none (p_some (x_var (i := 4) rfl (Rp.mono _ e_61 exz r_50))))) (x_v (x_lst (al_cons (x_var (i := 5) rfl (Rp.mono _ (Ex.refl _) exz r_63)) al_nil) (Nat.le_of_ble_eq_true rfl))))) (x_v (x_sl (x_v (x_var (i := 2) rfl (Rp.mono _ (e_35.trans (e_48.trans e_61)) exz r_14))) (p_some (x_op o_add (x_var (i := 4) rfl (Rp.mono _ e_61 exz r_50)) (x_int (i := 1)))) p_none))) s_62 (fun _ _ h => h.elim) hm fun spoilt_70 v_71 I_72 H_73 e_74 s_75 r_76 hm => ?_
    refine qm_asg (E := E) (K := K) (σ := [some (.ref p0), some v_wishes, some v_9, some v_32, some v_45, some v_58, some v_71, none, none, none]) (i := 7) (m_sl off_same (x_var (i := 3) rfl (Rp.mono _ (e_48.trans (e_61.trans e_74)) exz r_37)) (pm_pure p_none) (pm_some (m_callM (i := 0) rfl (am_pure (a_one (x_int (i := 20))))))) s_75 hc_66 (Rt.mono _ e_74 exz hx_68) hm fun few_77 v_78 ws_84 I_79 C_85 H_80 e_81 s_82 hc_86 k_87 hx_88 r_83 hm => ?_
    have fr_89 := fr_pool fr_69 k_87
    refine s_forR (E := E) (K := K) (σ := [some (.ref p0), some v_wishes, some v_9, some v_32, some v_45, some v_58, some v_71, some v_78, none, none]) (fun (z_90 : Unit) σ2 I_93 C_94 => ∃ w_92 : Option V, σ2 = [some (.ref p0), some v_wishes, some v_9, some v_32, some v_45, some v_58, some v_71, some v_78, w_92, none] ∧ C_94 p0 = some (.lst ws_84) ∧ Ex (off C0 p0) C_94) (i_list (x_lst (al_cons (x_int (i := 0)) (al_cons (x_int (i := 1)) al_nil)) (Nat.le_of_ble_eq_true rfl))) s_82 (fun _ _ h => h.elim) hm (fun _ e_105 => ⟨none, rfl, hc_86, fr_89⟩) (fun _ _ _ _ _ => trivial) (fun _ _ _ _ _ e ⟨w_92, hs_91, hc_95, fr_96⟩ => ⟨w_92, hs_91, hc_95, fr_96⟩) (fun N x_97 v_98 z_90 σ2 I_99 C_100 H_101 e_102 s_103 ⟨w_92, hs_91, hc_95, fr_96⟩ r_104 hm => ?_) (fun z_159 σ2 I_154 C_155 H_156 e_157 s_158 ⟨w_161, hs_160, hc_164, fr_165⟩ hm => ?_)
    · subst hs_91
      refine g1 (K := K) x_97 v_98 I_99 C_100 H_101 _ s_103 r_104 fun σ2 ⟨v_106, hs_108, r_107⟩ => ?_
      subst hs_108
      refine s_if (E := E) (K := K) (σ := [some (.ref p0), some v_wishes, some v_9, some v_32, some v_45, some v_58, some v_71, some v_78, some v_106, none]) (t_or (t_test (x_op (o_neD (de_tup (dt_cons de_str (dt_one de_int))) (de_tup (dt_cons de_str (dt_one de_int))) (by decide)) (x_call (a_cons (x_var (i := 2) rfl (Rp.mono _ (e_35.trans (e_48.trans (e_61.trans (e_74.trans (e_81.trans e_102))))) exz r_14)) (a_cons (x_var (i := 3) rfl (Rp.mono _ (e_48.trans (e_61.trans (e_74.trans (e_81.trans e_102)))) exz r_37)) (a_one (x_var (i := 8) rfl (Rp.mono _ (Ex.refl _) exz r_107)))))) (x_tup (a_cons (x_str (by decide +kernel)) (a_one (x_int (i := 0)))) (Nat.le_of_ble_eq_true rfl)))) (t_test (x_op (o_neD (de_tup (dt_cons de_str (dt_one de_int))) (de_tup (dt_cons de_str (dt_one de_int))) (by decide)) (x_call (a_cons (x_var (i := 6) rfl (Rp.mono _ (e_81.trans e_102) exz r_76)) (a_cons (x_var (i := 7) rfl (Rp.mono _ e_102 exz r_83)) (a_one (x_var (i := 8) rfl (Rp.mono _ (Ex.refl _) exz r_107)))))) (x_tup (a_cons (x_str (by decide +kernel)) (a_one (x_var (i := 4) rfl (Rp.mono _ (e_61.trans (e_74.trans (e_81.trans e_102))) exz r_50)))) (Nat.le_of_ble_eq_true rfl))))) s_103 (fun _ _ h => h.elim) hm (fun I_109 H_110 e_111 s_112 hm => ?_) (fun I_113 H_114 e_115 s_116 hm => ?_)
      · refine q_ret (E := E) (K := K) (σ := [some (.ref p0), some v_wishes, some v_9, some v_32, some v_45, some v_58, some v_71, some v_78, some v_106, none]) x_bl s_112 (fun _ _ h => h.elim) hm fun a_117 v_118 I_119 H_120 e_121 s_122 r_123 hm => ?_
        exact ret_pool hm (e_12.trans (e_35.trans (e_48.trans (e_61.trans (e_74.trans (e_81.trans (e_102.trans (e_111.trans e_121)))))))) fr_96 s_122 hc_95 (Rt.mono _ (e_102.trans (e_111.trans e_121)) exz hx_88) r_123
      · refine s_if (E := E) (K := K) (σ := [some (.ref p0), some v_wishes, some v_9, some v_32, some v_45, some v_58, some v_71, some v_78, some v_106, none]) (t_or (t_test (x_op (o_neD (de_tup (dt_cons de_str (dt_one de_int))) (de_tup (dt_cons de_str (dt_one de_int))) (by decide)) (x_call (a_cons (x_var (i := 2) rfl (Rp.mono _ (e_35.trans (e_48.trans (e_61.trans (e_74.trans (e_81.trans (e_102.trans e_115)))))) exz r_14)) (a_cons (x_var (i := 7) rfl (Rp.mono _ (e_102.trans e_115) exz r_83)) (a_one (x_var (i := 8) rfl (Rp.mono _ e_115 exz r_107)))))) (x_tup (a_cons (x_str (by decide +kernel)) (a_one (x_int (i := 1)))) (Nat.le_of_ble_eq_true rfl)))) (t_test (x_op (o_neD (de_tup (dt_cons de_str (dt_one de_int))) (de_tup (dt_cons de_str (dt_one de_int))) (by decide)) (x_call (a_cons (x_var (i := 2) rfl (Rp.mono _ (e_35.trans (e_48.trans (e_61.trans (e_74.trans (e_81.trans (e_102.trans e_115)))))) exz r_14)) (a_cons (x_op o_cat (x_v (x_var (i := 3) rfl (Rp.mono _ (e_48.trans (e_61.trans (e_74.trans (e_81.trans (e_102.trans e_115))))) exz r_37))) (x_v (x_lst (al_cons (x_int (i := 0)) al_nil) (Nat.le_of_ble_eq_true rfl)))) (a_one (x_var (i := 8) rfl (Rp.mono _ e_115 exz r_107)))))) (x_tup (a_cons (x_str (by decide +kernel)) (a_one (x_int (i := 1)))) (Nat.le_of_ble_eq_true rfl))))) s_116 (fun _ _ h => h.elim) hm (fun I_124 H_125 e_126 s_127 hm => ?_) (fun I_128 H_129 e_130 s_131 hm => ?_)
        · refine q_ret (E := E) (K := K) (σ := [some (.ref p0), some v_wishes, some v_9, some v_32, some v_45, some v_58, some v_71, some v_78, some v_106, none]) x_bl s_127 (fun _ _ h => h.elim) hm fun a_132 v_133 I_134 H_135 e_136 s_137 r_138 hm => ?_
          exact ret_pool hm (e_12.trans (e_35.trans (e_48.trans (e_61.trans (e_74.trans (e_81.trans (e_102.trans (e_115.trans (e_126.trans e_136))))))))) fr_96 s_137 hc_95 (Rt.mono _ (e_102.trans (e_115.trans (e_126.trans e_136))) exz hx_88) r_138
        · refine s_if (E := E) (K := K) (σ := [some (.ref p0), some v_wishes, some v_9, some v_32, some v_45, some v_58, some v_71, some v_78, some v_106, none]) (t_test (x_op (o_neD (de_tup (dt_cons de_str (dt_one de_int))) (de_tup (dt_cons de_str (dt_one de_int))) (by decide)) (x_call (a_cons (x_op o_cat (x_v (x_var (i := 6) rfl (Rp.mono _ (e_81.trans (e_102.trans (e_115.trans e_130))) exz r_76))) (x_v (x_lst (al_cons (x_tup (a_cons (x_int (i := 0)) (a_one (x_int (i := 1)))) (Nat.le_of_ble_eq_true rfl)) al_nil) (Nat.le_of_ble_eq_true rfl)))) (a_cons (x_var (i := 7) rfl (Rp.mono _ (e_102.trans (e_115.trans e_130)) exz r_83)) (a_one (x_var (i := 8) rfl (Rp.mono _ (e_115.trans e_130) exz r_107)))))) (x_tup (a_cons (x_str (by decide +kernel)) (a_one (x_int (i := 20)))) (Nat.le_of_ble_eq_true rfl)))) s_131 (fun _ _ h => h.elim) hm (fun I_139 H_140 e_141 s_142 hm => ?_) (fun I_143 H_144 e_145 s_146 hm => ?_)
          · refine q_ret (E := E) (K := K) (σ := [some (.ref p0), some v_wishes, some v_9, some v_32, some v_45, some v_58, some v_71, some v_78, some v_106, none]) x_bl s_142 (fun _ _ h => h.elim) hm fun a_147 v_148 I_149 H_150 e_151 s_152 r_153 hm => ?_
            exact ret_pool hm (e_12.trans (e_35.trans (e_48.trans (e_61.trans (e_74.trans (e_81.trans (e_102.trans (e_115.trans (e_130.trans (e_141.trans e_151)))))))))) fr_96 s_152 hc_95 (Rt.mono _ (e_102.trans (e_115.trans (e_130.trans (e_141.trans e_151)))) exz hx_88) r_153
          · exact hm _ _ _ _ (e_115.trans (e_130.trans e_145)) s_146 ⟨some v_106, rfl, hc_95, fr_96⟩
    subst hs_160
    refine q_ret (E := E) (K := K) (σ := [some (.ref p0), some v_wishes, some v_9, some v_32, some v_45, some v_58, some v_71, some v_78, w_161, none]) x_bl s_158 (fun _ _ h => h.elim) hm fun a_166 v_167 I_168 H_169 e_170 s_171 r_172 hm => ?_
    exact ret_pool hm (e_12.trans (e_35.trans (e_48.trans (e_61.trans (e_74.trans (e_81.trans (e_157.trans e_170))))))) fr_165 s_171 hc_164 (Rt.mono _ (e_157.trans e_170) exz hx_88) r_172
def m__law_reasons_told (a_wishes : (List (Int × Int))) (a_desks : Int) (a_weights : (List Int)) (a_best : (List Int)) (a_pool : Pl) : Res (Bool × Pl) :=
  (((un rng1 (Res.ok (3 : Int))).bind fun xs => loopR (fun (x_13 : Int) (z_1 : Pl) => (((callM m__law_take (liftM (un rLen (Res.ok a_wishes)))) z_1).bind fun (k_25 : Int × Pl) => ((un (fun (p : ((List (Int × Int)) × Int × (List Int) × Int)) => m_reason p.1 p.2.1 p.2.2.1 p.2.2.2) (pair (Res.ok a_wishes) (pair (Res.ok a_desks) (pair (Res.ok a_weights) (Res.ok k_25.1))))).bind fun (told_38 : (Option (Int × Int))) => (ifR (bin inR (Res.ok k_25.1) (Res.ok a_best)) (ifR (bin notNone (Res.ok told_38) (Res.ok ())) ((Res.ok false).bind fun a_61 => Res.ok (Out.rt (a_61, k_25.2))) (Res.ok (Out.nx k_25.2))) ((un (fun (p : ((List (Int × Int)) × Int × (List Int) × Int)) => m__law_why p.1 p.2.1 p.2.2.1 p.2.2.2) (pair (Res.ok a_wishes) (pair (Res.ok a_desks) (pair (Res.ok a_weights) (Res.ok k_25.1))))).bind fun (due_68 : (Option (Int × Int))) => (ifR (orR (bin isNone (Res.ok due_68) (Res.ok ())) (orR (un notR (un (fun p => Res.ok (isO true p.1)) (pair (Res.ok told_38) (Res.ok ())))) (bin neR (Res.ok told_38) (Res.ok due_68)))) ((Res.ok false).bind fun a_83 => Res.ok (Out.rt (a_83, k_25.2))) (ifR (orR (un notR (un m__law_is_int (un (fun p => Res.ok p.1) (un getO (Res.ok told_38))))) (un notR (un m__law_is_int (un (fun p => Res.ok p.2) (un getO (Res.ok told_38)))))) ((Res.ok false).bind fun a_98 => Res.ok (Out.rt (a_98, k_25.2))) (Res.ok (Out.nx k_25.2))))))))) xs a_pool).bind fun (o : Out Pl (Bool × Pl)) => match o with | .nx z_110 => ((Res.ok true).bind fun a_122 => Res.ok (a_122, z_110)) | .br _ => Res.bad | .rt r => Res.ok r)
abbrev N__law_reasons_told : List Str := ["pool", "wishes", "desks", "weights", "best", "turn", "k", "told", "due"]
theorem sc__law_reasons_told : FnScope N__law_reasons_told ["pool", "wishes", "desks", "weights", "best"] (defScope s__law_reasons_told) := ⟨rfl, rfl, rfl, by decide +kernel, rfl, by decide +kernel, by decide +kernel⟩
theorem bind__law_reasons_told {K : PySem.W.Frag} {mg : Str → Option Value} {T : Tx K mg} : Binds K T.d__law_reasons_told ["pool", "wishes", "desks", "weights", "best"] [] := FunD.bindsN T.F__law_reasons_told fun _ _ _ _ _ _ us hl => match us, hl with | [_, _, _, _, _], _ => rfl
abbrev sp__law_reasons_told (K : PySem.W.Frag) : Sp := spM pM (tc (pL (pT (tc pI (t1 pI)))) (tc pI (tc (pL pI) (t1 (pL pI))))) (fun (p : ((List (Int × Int)) × Int × (List Int) × (List Int))) => m__law_reasons_told p.1 p.2.1 p.2.2.1 p.2.2.2) pB
theorem ok__law_reasons_told (T : Tx K mg) : FnOk P w K mg base (L2.CX P w) 6 T.f__law_reasons_told T.d__law_reasons_told ["pool", "wishes", "desks", "weights", "best"] (sp__law_reasons_told K) := by
  refine T.F__law_reasons_told.ok sc__law_reasons_told (fun vs H Q E h => ?_) (fun cdv A outer s H vs Q E hr h => ?_)
  · obtain ⟨I, C, p, ws, us, x, a, rfl, _, _, _, hr, _⟩ := h
    exact congrArg (· + 1) (Rt.len _ hr)
  · obtain ⟨I0, C0, p0, ws0, us, a_pool, ⟨a_wishes, a_desks, a_weights, a_best⟩, rfl, hs, hc0, hx1, ⟨v_wishes, us0, rfl, r_wishes, v_desks, us1, rfl, r_desks, v_weights, us2, rfl, r_weights, v_best, rfl, r_best⟩, hm⟩ := h
    have hx0 := It.im (C' := Z) hx1
    have hm : Post (m__law_reasons_told a_wishes a_desks a_weights a_best a_pool) (PM p0 pM pB I0 C0 Q) XF := hm
    replace r_wishes : Rp.r (pL (pT (tc pI (t1 pI)))) a_wishes v_wishes I0 Z := Im.im r_wishes
    replace r_desks : Rp.r pI a_desks v_desks I0 Z := Im.im r_desks
    replace r_weights : Rp.r (pL pI) a_weights v_weights I0 Z := Im.im r_weights
    replace r_best : Rp.r (pL pI) a_best v_best I0 Z := Im.im r_best
    unfold m__law_reasons_told at hm
    refine ⟨_, (pss_cons (ps_for (passes_of rfl) rfl (pi_range1 (by rfl) T.gb_range (pa_cons pe_int pa_nil)) (pg_name (i := 5) sc__law_reasons_told.nd rfl (Or.inl rfl)) (pss_cons (ps_set (i := 6) sc__law_reasons_told.nd rfl (Or.inl rfl) (pe_call (ok__law_take T) (hr.mono (by decide)) rfl T.g__law_take T.F__law_take.kp bind__law_take .nil passE (pa_cons (pv 0) (pa_cons (pe_callB (r := rLen1 K) call_len_seq (by rfl) T.gb_len bt_len (pa_cons (pv 1) pa_nil)) pa_nil)))) (pss_cons (ps_set (i := 7) sc__law_reasons_told.nd rfl (Or.inl rfl) (pe_call (ok_reason T) (hr.mono (by decide)) rfl T.g_reason T.F_reason.kp bind_reason .nil passE (pa_cons (pv 1) (pa_cons (pv 2) (pa_cons (pv 3) (pa_cons (pv 6) pa_nil)))))) (pss_cons (ps_if (pt_cmpR (r := rIn K false) op_in_seq (pv 6) (pv 4) rfl) (pss_cons (ps_if (pt_cmpR op_notN (pv 7) pe_non (nomark _)) (pss_cons (ps_ret pe_bl) pss_nil) pss_nil) pss_nil) (pss_cons (ps_set (i := 8) sc__law_reasons_told.nd rfl (Or.inl rfl) (pe_call (ok__law_why T) (hr.mono (by decide)) rfl T.g__law_why T.F__law_why.kp bind__law_why .nil passE (pa_cons (pv 1) (pa_cons (pv 2) (pa_cons (pv 3) (pa_cons (pv 6) pa_nil)))))) (pss_cons (ps_if (PW.pt (pw_or (pt_cmpR op_isN (pv 8) pe_non (nomark _)) (pw_or (pt_not (pt_val (pe_callB (r := rIsi K) call_isi (by rfl) T.gb_isinstance bt_isinstance (pa_cons (pv 7) (pa_cons (pe_bltn (v := .ty "tuple") rfl T.gb_tuple bt_tuple rfl) pa_nil))))) (pw_or1 (pt_cmpR (r := rNeD K) (op_neD hr.units) (pv 7) (pv 8) (nomark _)))))) (pss_cons (ps_ret pe_bl) pss_nil) pss_nil) (pss_cons (ps_if (PW.pt (pw_or (pt_not (pt_val (pe_call (ok__law_is_int T) (hr.mono (by decide)) rfl T.g__law_is_int T.F__law_is_int.kp bind__law_is_int .nil passE (pa_cons (pe_ix (r := rIxT K) ix_tup (pv 7) pe_int (fun _ _ => rfl)) pa_nil)))) (pw_or1 (pt_not (pt_val (pe_call (ok__law_is_int T) (hr.mono (by decide)) rfl T.g__law_is_int T.F__law_is_int.kp bind__law_is_int .nil passE (pa_cons (pe_ix (r := rIxT K) ix_tup (pv 7) pe_int (fun _ _ => rfl)) pa_nil))))))) (pss_cons (ps_ret pe_bl) pss_nil) pss_nil) pss_nil)))) pss_nil)))) (pss_cons (ps_ret pe_bl) pss_nil)), ?_⟩
    refine s_forR (E := E) (K := K) (σ := [some (.ref p0), some v_wishes, some v_desks, some v_weights, some v_best, none, none, none, none]) (fun (z_1 : Pl) σ2 I_7 C_8 => ∃ w_3 : Option V, ∃ w_4 : Option V, ∃ w_5 : Option V, ∃ w_6 : Option V, σ2 = [some (.ref p0), some v_wishes, some v_desks, some v_weights, some v_best, w_3, w_4, w_5, w_6] ∧ (∃ ws_9 : List V, C_8 p0 = some (.lst ws_9) ∧ Rt.r pM z_1 ws_9 I_7 Z) ∧ Ex (off C0 p0) C_8) (i_rng1 (a_one (x_int (i := 3)))) hs (fun _ _ h => h.elim) hm (fun _ e_21 => ⟨none, none, none, none, rfl, ⟨_, hc0, Rt.mono _ (Ex.trans (Ex.refl _) e_21) exz hx0⟩, (off_ex (C := C0) (p := p0))⟩) (fun _ _ _ _ _ => trivial) (fun _ _ _ _ _ e ⟨w_3, w_4, w_5, w_6, hs_2, ⟨ws_9, hc_10, hx_11⟩, fr_12⟩ => ⟨w_3, w_4, w_5, w_6, hs_2, ⟨ws_9, hc_10, Rt.mono _ e exz hx_11⟩, fr_12⟩) (fun N x_13 v_14 z_1 σ2 I_15 C_16 H_17 e_18 s_19 ⟨w_3, w_4, w_5, w_6, hs_2, ⟨ws_9, hc_10, hx_11⟩, fr_12⟩ r_20 hm => ?_) (fun z_110 σ2 I_105 C_106 H_107 e_108 s_109 ⟨w_112, w_113, w_114, w_115, hs_111, ⟨ws_118, hc_119, hx_120⟩, fr_121⟩ hm => ?_)
    · subst hs_2
      refine g1 (K := K) x_13 v_14 I_15 C_16 H_17 _ s_19 r_20 fun σ2 ⟨v_22, hs_24, r_23⟩ => ?_
      subst hs_24
      refine qm_asg (E := E) (K := K) (σ := [some (.ref p0), some v_wishes, some v_desks, some v_weights, some v_best, some v_22, w_4, w_5, w_6]) (i := 6) (m_callM (i := 0) rfl (am_pure (a_one (x_cb o_len (a_one (x_v (x_var (i := 1) rfl (Rp.mono _ e_18 exz r_wishes)))))))) s_19 hc_10 (Rt.mono _ (Ex.refl _) exz hx_11) hm fun k_25 v_26 ws_32 I_27 C_33 H_28 e_29 s_30 hc_34 k_35 hx_36 r_31 hm => ?_
      have fr_37 := fr_pool fr_12 k_35
      refine q_asg (E := E) (K := K) (σ := [some (.ref p0), some v_wishes, some v_desks, some v_weights, some v_best, some v_22, some v_26, w_5, w_6]) (i := 7) (x_call (a_cons (x_var (i := 1) rfl (Rp.mono _ (e_18.trans e_29) exz r_wishes)) (a_cons (x_var (i := 2) rfl (Rp.mono _ (e_18.trans e_29) exz r_desks)) (a_cons (x_var (i := 3) rfl (Rp.mono _ (e_18.trans e_29) exz r_weights)) (a_one (x_var (i := 6) rfl (Rp.mono _ (Ex.refl _) exz r_31))))))) s_30 (fun _ _ h => h.elim) hm fun told_38 v_39 I_40 H_41 e_42 s_43 r_44 hm => ?_
      refine s_if (E := E) (K := K) (σ := [some (.ref p0), some v_wishes, some v_desks, some v_weights, some v_best, some v_22, some v_26, some v_39, w_6]) (t_test (x_op (o_in fl_int) (x_var (i := 6) rfl (Rp.mono _ e_42 exz r_31)) (x_v (x_var (i := 4) rfl (Rp.mono _ (e_18.trans (e_29.trans e_42)) exz r_best))))) s_43 (fun _ _ h => h.elim) hm (fun I_45 H_46 e_47 s_48 hm => ?_) (fun I_49 H_50 e_51 s_52 hm => ?_)
      · refine s_if (E := E) (K := K) (σ := [some (.ref p0), some v_wishes, some v_desks, some v_weights, some v_best, some v_22, some v_26, some v_39, w_6]) (t_test (x_op o_notN (x_var (i := 7) rfl (Rp.mono _ e_47 exz r_44)) x_non)) s_48 (fun _ _ h => h.elim) hm (fun I_53 H_54 e_55 s_56 hm => ?_) (fun I_57 H_58 e_59 s_60 hm => ?_)
        · refine q_ret (E := E) (K := K) (σ := [some (.ref p0), some v_wishes, some v_desks, some v_weights, some v_best, some v_22, some v_26, some v_39, w_6]) x_bl s_56 (fun _ _ h => h.elim) hm fun a_61 v_62 I_63 H_64 e_65 s_66 r_67 hm => ?_
          exact ret_pool hm (e_18.trans (e_29.trans (e_42.trans (e_47.trans (e_55.trans e_65))))) fr_37 s_66 hc_34 (Rt.mono _ (e_42.trans (e_47.trans (e_55.trans e_65))) exz hx_36) r_67
        · exact hm _ _ _ _ (e_29.trans (e_42.trans (e_47.trans e_59))) s_60 ⟨some v_22, some v_26, some v_39, w_6, rfl, ⟨_, hc_34, Rt.mono _ (e_42.trans (e_47.trans e_59)) exz hx_36⟩, fr_37⟩
      · refine q_asg (E := E) (K := K) (σ := [some (.ref p0), some v_wishes, some v_desks, some v_weights, some v_best, some v_22, some v_26, some v_39, w_6]) (i := 8) (x_call (a_cons (x_var (i := 1) rfl (Rp.mono _ (e_18.trans (e_29.trans (e_42.trans e_51))) exz r_wishes)) (a_cons (x_var (i := 2) rfl (Rp.mono _ (e_18.trans (e_29.trans (e_42.trans e_51))) exz r_desks)) (a_cons (x_var (i := 3) rfl (Rp.mono _ (e_18.trans (e_29.trans (e_42.trans e_51))) exz r_weights)) (a_one (x_var (i := 6) rfl (Rp.mono _ (e_42.trans e_51) exz r_31))))))) s_52 (fun _ _ h => h.elim) hm fun due_68 v_69 I_70 H_71 e_72 s_73 r_74 hm => ?_
        refine s_if (E := E) (K := K) (σ := [some (.ref p0), some v_wishes, some v_desks, some v_weights, some v_best, some v_22, some v_26, some v_39, some v_69]) (t_or (t_test (x_op o_isN (x_var (i := 8) rfl (Rp.mono _ (Ex.refl _) exz r_74)) x_non)) (t_or (t_not (t_B (x_cb (o_isiO (n := "tuple") (by decide +kernel) (by decide +kernel)) (a_cons (x_var (i := 7) rfl (Rp.mono _ (e_51.trans e_72) exz r_44)) (a_one (x_c (R := pY "tuple") (a := ()) fun _ _ => rfl)))))) (t_test (x_op (o_neD (de_opt (de_tup (dt_cons de_int (dt_one de_int))) (fun _ => ⟨by simp [PyData.eqv], by simp [PyData.eqv]⟩)) (de_opt (de_tup (dt_cons de_int (dt_one de_int))) (fun _ => ⟨by simp [PyData.eqv], by simp [PyData.eqv]⟩)) (by decide)) (x_var (i := 7) rfl (Rp.mono _ (e_51.trans e_72) exz r_44)) (x_var (i := 8) rfl (Rp.mono _ (Ex.refl _) exz r_74)))))) s_73 (fun _ _ h => h.elim) hm (fun I_75 H_76 e_77 s_78 hm => ?_) (fun I_79 H_80 e_81 s_82 hm => ?_)
        · refine q_ret (E := E) (K := K) (σ := [some (.ref p0), some v_wishes, some v_desks, some v_weights, some v_best, some v_22, some v_26, some v_39, some v_69]) x_bl s_78 (fun _ _ h => h.elim) hm fun a_83 v_84 I_85 H_86 e_87 s_88 r_89 hm => ?_
          exact ret_pool hm (e_18.trans (e_29.trans (e_42.trans (e_51.trans (e_72.trans (e_77.trans e_87)))))) fr_37 s_88 hc_34 (Rt.mono _ (e_42.trans (e_51.trans (e_72.trans (e_77.trans e_87)))) exz hx_36) r_89
        · refine s_if (E := E) (K := K) (σ := [some (.ref p0), some v_wishes, some v_desks, some v_weights, some v_best, some v_22, some v_26, some v_39, some v_69]) (t_or (t_not (t_B (x_call (a_one (x_k (k := ((0 : Nat) : Int)) (o_pj pj0) (x_get (x_var (i := 7) rfl (Rp.mono _ (e_51.trans (e_72.trans e_81)) exz r_44)))))))) (t_not (t_B (x_call (a_one (x_k (k := ((1 : Nat) : Int)) (o_pj (pjs pj1)) (x_get (x_var (i := 7) rfl (Rp.mono _ (e_51.trans (e_72.trans e_81)) exz r_44))))))))) s_82 (fun _ _ h => h.elim) hm (fun I_90 H_91 e_92 s_93 hm => ?_) (fun I_94 H_95 e_96 s_97 hm => ?_)
          · refine q_ret (E := E) (K := K) (σ := [some (.ref p0), some v_wishes, some v_desks, some v_weights, some v_best, some v_22, some v_26, some v_39, some v_69]) x_bl s_93 (fun _ _ h => h.elim) hm fun a_98 v_99 I_100 H_101 e_102 s_103 r_104 hm => ?_
            exact ret_pool hm (e_18.trans (e_29.trans (e_42.trans (e_51.trans (e_72.trans (e_81.trans (e_92.trans e_102))))))) fr_37 s_103 hc_34 (Rt.mono _ (e_42.trans (e_51.trans (e_72.trans (e_81.trans (e_92.trans e_102))))) exz hx_36) r_104
          · exact hm _ _ _ _ (e_29.trans (e_42.trans (e_51.trans (e_72.trans (e_81.trans e_96))))) s_97 ⟨some v_22, some v_26, some v_39, some v_69, rfl, ⟨_, hc_34, Rt.mono _ (e_42.trans (e_51.trans (e_72.trans (e_81.trans e_96)))) exz hx_36⟩, fr_37⟩
    subst hs_111
    refine q_ret (E := E) (K := K) (σ := [some (.ref p0), some v_wishes, some v_desks, some v_weights, some v_best, w_112, w_113, w_114, w_115]) x_bl s_109 (fun _ _ h => h.elim) hm fun a_122 v_123 I_124 H_125 e_126 s_127 r_128 hm => ?_
    exact ret_pool hm (e_108.trans e_126) fr_121 s_127 hc_119 (Rt.mono _ e_126 exz hx_120) r_128
def m_law (a_script : List Int) : Res Bool :=
  ((poolR a_script).bind fun (pool_10 : Pl) => (((callM (fun (p : (Int × Int)) => m__law_from p.1 p.2) (liftM (pair (Res.ok (1 : Int)) (Res.ok (5 : Int))))) pool_10).bind fun (desks_11 : Int × Pl) => (((callM m__law_wishes (liftM (Res.ok desks_11.1))) desks_11.2).bind fun (wishes_23 : (List (Int × Int)) × Pl) => (((callM m__law_weights (liftM (un rLen (Res.ok wishes_23.1)))) wishes_23.2).bind fun (weights_35 : (List Int) × Pl) => ((un sortI (un (fun (p : ((List (Int × Int)) × Int × (List Int) × Int)) => m__law_chosen p.1 p.2.1 p.2.2.1 p.2.2.2) (pair (Res.ok wishes_23.1) (pair (Res.ok desks_11.1) (pair (Res.ok weights_35.1) (un rNeg (Res.ok (1 : Int)))))))).bind fun (best_47 : (List Int)) => ((un idR (Res.ok wishes_23.1)).bind fun (passed_54 : (List (Int × Int))) => ((un idR (Res.ok weights_35.1)).bind fun (kept_61 : (List Int)) => ((un (fun (p : ((List (Int × Int)) × Int × (List Int))) => m_best_wishes p.1 p.2.1 p.2.2) (pair (Res.ok passed_54) (pair (Res.ok desks_11.1) (Res.ok kept_61)))).bind fun (told_68 : (List Int)) => (ifR (orR (un notR (un (fun _ => Res.ok true) (pair (Res.ok told_68) (Res.ok ())))) (orR (bin neR (Res.ok told_68) (Res.ok best_47)) (bin rGt (un rLen ((Res.ok told_68).bind (filR (fun (x_84 : Int) => (un notR (un m__law_is_int (Res.ok x_84)))) (fun (x_84 : Int) => (Res.ok x_84))))) (Res.ok (0 : Int))))) ((Res.ok false).bind fun a_99 => Res.ok a_99) ((un sumR ((Res.ok told_68).bind (mapR (fun (x_106 : Int) => (bin ix (Res.ok weights_35.1) (Res.ok x_106)))))).bind fun (worth_113 : Int) => ((((callM (fun (p : ((List (Int × Int)) × Int)) => m__law_other_sets p.1 p.2) (liftM (pair (Res.ok wishes_23.1) (Res.ok desks_11.1)))) weights_35.2).bind fun b => loopR (fun (x_130 : (List Int)) (z_120 : Pl) => (ifR (orR (bin rGt (un sumR ((Res.ok x_130).bind (mapR (fun (x_150 : Int) => (bin ix (Res.ok weights_35.1) (Res.ok x_150)))))) (Res.ok worth_113)) (bin rGt (un rLen (Res.ok x_130)) (un rLen (Res.ok told_68)))) ((Res.ok false).bind fun a_165 => Res.ok (Out.rt a_165)) (Res.ok (Out.nx z_120)))) b.1 ((fun (y_139 : Pl) => y_139) b.2)).bind fun (o : Out Pl Bool) => match o with | .nx z_177 => (((Res.ok (0 : Int)).bind fun x => push told_68 x).bind fun (told_187 : (List Int)) => (ifR (bin neR (un (fun (p : ((List (Int × Int)) × Int × (List Int))) => m_best_wishes p.1 p.2.1 p.2.2) (pair (Res.ok passed_54) (pair (Res.ok desks_11.1) (Res.ok kept_61)))) (Res.ok best_47)) ((Res.ok false).bind fun a_207 => Res.ok a_207) (ifMR (andM (liftM (bin rGt (un rLen (Res.ok wishes_23.1)) (Res.ok (0 : Int)))) (unM notR (callM (fun (p : ((List (Int × Int)) × Int × (List Int) × (List Int))) => m__law_reasons_told p.1 p.2.1 p.2.2.1 p.2.2.2) (liftM (pair (Res.ok passed_54) (pair (Res.ok desks_11.1) (pair (Res.ok kept_61) (Res.ok best_47)))))))) z_177 (fun (y_222 : Pl) => ((Res.ok false).bind fun a_235 => Res.ok a_235)) (fun (y_228 : Pl) => (ifR (orR (bin neR (Res.ok passed_54) (Res.ok wishes_23.1)) (bin neR (Res.ok kept_61) (Res.ok weights_35.1))) ((Res.ok false).bind fun a_251 => Res.ok a_251) (((callM m__law_refused_right (liftM (Res.ok wishes_23.1))) y_228).bind fun a_258 => Res.ok a_258.1)))))) | .br _ => Res.bad | .rt r => Res.ok r)))))))))))
abbrev N_law : List Str := ["script", "pool", "desks", "wishes", "weights", "best", "passed", "kept", "told", "worth", "other", "k"]
theorem sc_law : FnScope N_law ["script"] (defScope s_law) := ⟨rfl, rfl, rfl, by decide +kernel, rfl, by decide +kernel, by decide +kernel⟩
theorem ok_law (T : Tx K mg) : FnOk P w K mg base CX0 8 T.f_law T.d_law ["script"] (spLaw K m_law) := by
  refine T.F_law.ok sc_law (fun vs H Q E h => ?_) (fun cdv A outer s H vs Q E hr h => ?_)
  · obtain ⟨a, ns, rfl, _⟩ := h
    rfl
  · obtain ⟨a0, a_script, rfl, hS, hz, hm⟩ := h
    obtain ⟨I0, hs, r_script⟩ := law_start hS hz
    unfold m_law at hm
    refine ⟨_, (pss_cons (ps_set (i := 1) sc_law.nd rfl (Or.inl rfl) (pe_call (ok__law_pool T) (hr.mono (by decide)) rfl T.g__law_pool T.F__law_pool.kp bind__law_pool .nil passL (pa_cons (pv 0) pa_nil))) (pss_cons (ps_set (i := 2) sc_law.nd rfl (Or.inl rfl) (pe_call (ok__law_from T) (hr.mono (by decide)) rfl T.g__law_from T.F__law_from.kp bind__law_from .nil passL (pa_cons (pv 1) (pa_cons pe_int (pa_cons pe_int pa_nil))))) (pss_cons (ps_set (i := 3) sc_law.nd rfl (Or.inl rfl) (pe_call (ok__law_wishes T) (hr.mono (by decide)) rfl T.g__law_wishes T.F__law_wishes.kp bind__law_wishes .nil passL (pa_cons (pv 1) (pa_cons (pv 2) pa_nil)))) (pss_cons (ps_set (i := 4) sc_law.nd rfl (Or.inr rfl) (pe_call (ok__law_weights T) (hr.mono (by decide)) rfl T.g__law_weights T.F__law_weights.kp bind__law_weights .nil passL (pa_cons (pv 1) (pa_cons (pe_callB (r := rLen1 K) call_len_seq (by rfl) T.gb_len bt_len (pa_cons (pv 3) pa_nil)) pa_nil)))) (pss_cons (ps_set (i := 5) sc_law.nd rfl (Or.inl rfl) (pe_callB (r := rSortedI K) cr_sortedI (by rfl) T.gb_sorted bt_sorted (pa_cons (pe_call (ok__law_chosen T) (hr.mono (by decide)) rfl T.g__law_chosen T.F__law_chosen.kp bind__law_chosen .nil passL (pa_cons (pv 3) (pa_cons (pv 2) (pa_cons (pv 4) (pa_cons (pe_un un_neg pe_int) pa_nil))))) pa_nil))) (pss_cons (ps_set (i := 6) sc_law.nd rfl (Or.inl rfl) (pe_callTy (r := rList1 K) call_list_of (by rfl) T.gb_list bt_list (pa_cons (pv 3) pa_nil))) (pss_cons (ps_set (i := 7) sc_law.nd rfl (Or.inl rfl) (pe_callTy (r := rList1 K) call_list_of (by rfl) T.gb_list bt_list (pa_cons (pv 4) pa_nil))) (pss_cons (ps_set (i := 8) sc_law.nd rfl (Or.inl rfl) (pe_call (ok_best_wishes T) (hr.mono (by decide)) rfl T.g_best_wishes T.F_best_wishes.kp bind_best_wishes .nil passL (pa_cons (pv 6) (pa_cons (pv 2) (pa_cons (pv 7) pa_nil))))) (pss_cons (ps_if (PW.pt (pw_or (pt_not (pt_val (pe_callB (r := rIsi K) call_isi (by rfl) T.gb_isinstance bt_isinstance (pa_cons (pv 8) (pa_cons (pe_bltn (v := .ty "list") rfl T.gb_list bt_list rfl) pa_nil))))) (pw_or (pt_cmpR (r := rNeD K) (op_neD hr.units) (pv 8) (pv 5) (nomark _)) (pw_or1 (pt_cmpR op_gt (pe_callB (r := rLen1 K) call_len_seq (by rfl) T.gb_len bt_len (pa_cons (pe_lc (own := [("k", 11)]) rfl sc_law.nd (show PI _ _ _ (iList K _) from pi_list (pv 8)) (blkOk_by (own := [("k", 11)]) (N := N_law) (sc := defScope s_law) (by decide +kernel)) (fun _ _ _ _ _ => (pg_name (i := 11) sc_law.nd rfl (Or.inl rfl))) (fun _ _ _ _ _ => (pts_one (pt_not (pt_val (pe_call (ok__law_is_int T) (hr.mono (by decide)) rfl T.g__law_is_int T.F__law_is_int.kp bind__law_is_int .nil passL (pa_cons (pv 11) pa_nil)))))) (fun _ _ _ _ _ => (pv 11))) pa_nil)) pe_int (nomark _)))))) (pss_cons (ps_ret pe_bl) pss_nil) pss_nil) (pss_cons (ps_set (i := 9) sc_law.nd rfl (Or.inl rfl) (pe_callB (r := rSum K) (cr_sum rfl) (by rfl) T.gb_sum bt_sum (pa_cons (pe_lc (own := [("k", 11)]) rfl sc_law.nd (show PI _ _ _ (iList K _) from pi_list (pv 8)) (blkOk_by (own := [("k", 11)]) (N := N_law) (sc := defScope s_law) (by decide +kernel)) (fun _ _ _ _ _ => (pg_name (i := 11) sc_law.nd rfl (Or.inl rfl))) (fun _ _ _ _ _ => pts_nil) (fun _ _ _ _ _ => (pe_ix (r := rIxL K) ix_list (pv 4) (pv 11) (fun _ _ => rfl)))) pa_nil))) (pss_cons (ps_for (passes_of rfl) rfl (show PI _ _ _ (iList K _) from pi_list (pe_call (ok__law_other_sets T) (hr.mono (by decide)) rfl T.g__law_other_sets T.F__law_other_sets.kp bind__law_other_sets .nil passL (pa_cons (pv 1) (pa_cons (pv 3) (pa_cons (pv 2) pa_nil))))) (pg_name (i := 10) sc_law.nd rfl (Or.inl rfl)) (pss_cons (ps_if (PW.pt (pw_or (pt_cmpR op_gt (pe_callB (r := rSum K) (cr_sum rfl) (by rfl) T.gb_sum bt_sum (pa_cons (pe_lc (own := [("k", 11)]) rfl sc_law.nd (show PI _ _ _ (iList K _) from pi_list (pv 10)) (blkOk_by (own := [("k", 11)]) (N := N_law) (sc := defScope s_law) (by decide +kernel)) (fun _ _ _ _ _ => (pg_name (i := 11) sc_law.nd rfl (Or.inl rfl))) (fun _ _ _ _ _ => pts_nil) (fun _ _ _ _ _ => (pe_ix (r := rIxL K) ix_list (pv 4) (pv 11) (fun _ _ => rfl)))) pa_nil)) (pv 9) (nomark _)) (pw_or1 (pt_cmpR op_gt (pe_callB (r := rLen1 K) call_len_seq (by rfl) T.gb_len bt_len (pa_cons (pv 10) pa_nil)) (pe_callB (r := rLen1 K) call_len_seq (by rfl) T.gb_len bt_len (pa_cons (pv 8) pa_nil)) (nomark _))))) (pss_cons (ps_ret pe_bl) pss_nil) pss_nil) pss_nil)) (pss_cons (ps_expr (show PE _ _ (tBM K "list" rAppend _ _) from pe_bm PySem.F.plainAttrs_list PySem.F.slot_list_append PySem.F.type_list_append mt_append (pv 8) (pa_cons pe_int pa_nil))) (pss_cons (ps_if (pt_cmpR (r := rNeD K) (op_neD hr.units) (pe_call (ok_best_wishes T) (hr.mono (by decide)) rfl T.g_best_wishes T.F_best_wishes.kp bind_best_wishes .nil passL (pa_cons (pv 6) (pa_cons (pv 2) (pa_cons (pv 7) pa_nil)))) (pv 5) (nomark _)) (pss_cons (ps_ret pe_bl) pss_nil) pss_nil) (pss_cons (ps_if (PW.pt (pw_and (pt_cmpR op_gt (pe_callB (r := rLen1 K) call_len_seq (by rfl) T.gb_len bt_len (pa_cons (pv 3) pa_nil)) pe_int (nomark _)) (pw_and1 (pt_not (pt_val (pe_call (ok__law_reasons_told T) (hr.mono (by decide)) rfl T.g__law_reasons_told T.F__law_reasons_told.kp bind__law_reasons_told .nil passL (pa_cons (pv 1) (pa_cons (pv 6) (pa_cons (pv 2) (pa_cons (pv 7) (pa_cons (pv 5) pa_nil))))))))))) (pss_cons (ps_ret pe_bl) pss_nil) pss_nil) (pss_cons (ps_if (PW.pt (pw_or (pt_cmpR (r := rNeD K) (op_neD hr.units) (pv 6) (pv 3) (nomark _)) (pw_or1 (pt_cmpR (r := rNeD K) (op_neD hr.units) (pv 7) (pv 4) (nomark _))))) (pss_cons (ps_ret pe_bl) pss_nil) pss_nil) (pss_cons (ps_ret (pe_call (ok__law_refused_right T) (hr.mono (by decide)) rfl T.g__law_refused_right T.F__law_refused_right.kp bind__law_refused_right .nil passL (pa_cons (pv 1) (pa_cons (pv 3) pa_nil)))) pss_nil)))))))))))))))), ?_⟩
    refine q_mkpool (E := EZ) (K := K) (σ := [some (.ref a0), none, none, none, none, none, none, none, none, none, none, none]) (i := 1) (j := 0) rfl (Rp.mono _ (Ex.refl _) exz r_script) hs hm fun pool_10 p_1 ws_2 I_3 C_4 H_5 e_6 s_7 hc_8 hx_9 hm => ?_
    refine qm_asg (E := EZ) (K := K) (σ := [some (.ref a0), some (.ref p_1), none, none, none, none, none, none, none, none, none, none]) (i := 2) (m_callM (i := 1) rfl (am_pure (a_cons (x_int (i := 1)) (a_one (x_int (i := 5)))))) s_7 hc_8 (Rt.mono _ (Ex.refl _) exz hx_9) hm fun desks_11 v_12 ws_18 I_13 C_19 H_14 e_15 s_16 hc_20 k_21 hx_22 r_17 hm => ?_
    refine qm_asg (E := EZ) (K := K) (σ := [some (.ref a0), some (.ref p_1), some v_12, none, none, none, none, none, none, none, none, none]) (i := 3) (m_callM (i := 1) rfl (am_pure (a_one (x_var (i := 2) rfl (Rp.mono _ (Ex.refl _) exz r_17))))) s_16 hc_20 (Rt.mono _ (Ex.refl _) exz hx_22) hm fun wishes_23 v_24 ws_30 I_25 C_31 H_26 e_27 s_28 hc_32 k_33 hx_34 r_29 hm => ?_
    refine qm_asg (E := EZ) (K := K) (σ := [some (.ref a0), some (.ref p_1), some v_12, some v_24, none, none, none, none, none, none, none, none]) (i := 4) (m_callM (i := 1) rfl (am_pure (a_one (x_cb o_len (a_one (x_v (x_var (i := 3) rfl (Rp.mono _ (Ex.refl _) exz r_29)))))))) s_28 hc_32 (Rt.mono _ (Ex.refl _) exz hx_34) hm fun weights_35 v_36 ws_42 I_37 C_43 H_38 e_39 s_40 hc_44 k_45 hx_46 r_41 hm => ?_
    refine q_asg (E := EZ) (K := K) (σ := [some (.ref a0), some (.ref p_1), some v_12, some v_24, some v_36, none, none, none, none, none, none, none]) (i := 5) (x_own (n_cb n_sortI (a_one (x_v (x_call (a_cons (x_var (i := 3) rfl (Rp.mono _ e_39 exz r_29)) (a_cons (x_var (i := 2) rfl (Rp.mono _ (e_27.trans e_39) exz r_17)) (a_cons (x_var (i := 4) rfl (Rp.mono _ (Ex.refl _) exz r_41)) (a_one (x_un o_neg (x_int (i := 1)))))))))))) s_40 (fun _ _ h => h.elim) hm fun best_47 v_48 I_49 H_50 e_51 s_52 r_53 hm => ?_
    refine q_asg (E := EZ) (K := K) (σ := [some (.ref a0), some (.ref p_1), some v_12, some v_24, some v_36, some v_48, none, none, none, none, none, none]) (i := 6) (x_cb o_list (a_one (x_v (x_var (i := 3) rfl (Rp.mono _ (e_39.trans e_51) exz r_29))))) s_52 (fun _ _ h => h.elim) hm fun passed_54 v_55 I_56 H_57 e_58 s_59 r_60 hm => ?_
    refine q_asg (E := EZ) (K := K) (σ := [some (.ref a0), some (.ref p_1), some v_12, some v_24, some v_36, some v_48, some v_55, none, none, none, none, none]) (i := 7) (x_cb o_list (a_one (x_v (x_var (i := 4) rfl (Rp.mono _ (e_51.trans e_58) exz r_41))))) s_59 (fun _ _ h => h.elim) hm fun kept_61 v_62 I_63 H_64 e_65 s_66 r_67 hm => ?_
    refine q_asgN (E := EZ) (K := K) (σ := [some (.ref a0), some (.ref p_1), some v_12, some v_24, some v_36, some v_48, some v_55, some v_62, none, none, none, none]) (i := 8) (n_call (a_cons (x_var (i := 6) rfl (Rp.mono _ e_65 exz r_60)) (a_cons (x_var (i := 2) rfl (Rp.mono _ (e_27.trans (e_39.trans (e_51.trans (e_58.trans e_65)))) exz r_17)) (a_one (x_var (i := 7) rfl (Rp.mono _ (Ex.refl _) exz r_67)))))) s_66 (fun _ _ h => h.elim) hm fun told_68 p_69 vs_70 I_71 C_72 H_73 e_74 hp_75 s_76 hc_77 k_78 hl_79 hr_80 hm => ?_
    have ne_81 := ne_new hc_44 hp_75
    have hB_82 : Z p_69 = none := rfl
    have hc_83 := (k_78 _ ne_81).trans hc_44
    refine s_if (E := EZ) (K := K) (σ := [some (.ref a0), some (.ref p_1), some v_12, some v_24, some v_36, some v_48, some v_55, some v_62, some (.ref p_69), none, none, none]) (t_or (t_not (t_B (x_cb (o_isi (n := "list") (by decide +kernel)) (a_cons (x_cell (i := 8) rfl hc_77 hl_79 (a2up (Ex.refl _) hr_80)) (a_one (x_c (R := pY "list") (a := ()) fun _ _ => rfl)))))) (t_or (t_test (x_op (o_neD (de_vw de_int) (de_lst de_int) (by decide)) (x_cell (i := 8) rfl hc_77 hl_79 (a2up (Ex.refl _) hr_80)) (x_var (i := 5) rfl (Rp.mono _ (e_58.trans (e_65.trans e_74)) exz r_53)))) (t_test (x_op o_gt (x_cb o_len (a_one (x_v (x_lcgK (i_cellZ (i := 8) rfl hc_77 hl_79 (a2up (Ex.refl _) hr_80)) (fun _ e => e _ _ hc_77) g1 (fun _ _ _ _ ⟨_, h, _⟩ => by rw [h]; rfl) (fun x_84 σ2 I_85 C_86 e_87 c_88 ⟨v_89, h, r_90⟩ => by subst h; exact (t_not (t_B (x_call (a_one (x_var (i := 11) rfl (Rp.mono _ (Ex.refl _) exz r_90))))))) (fun x_84 σ2 I_85 C_86 e_87 c_88 ⟨v_89, h, r_90⟩ => by subst h; exact (x_var (i := 11) rfl (Rp.mono _ (Ex.refl _) exz r_90))) (fun _ _ _ _ _ e ⟨v_89, h, r_90⟩ => ⟨v_89, h, Rp.mono _ e exz r_90⟩))))) (x_int (i := 0)))))) s_76 (fun _ _ h => h.elim) hm (fun I_91 H_92 e_93 s_94 hm => ?_) (fun I_95 H_96 e_97 s_98 hm => ?_)
    · refine q_ret (E := EZ) (K := K) (σ := [some (.ref a0), some (.ref p_1), some v_12, some v_24, some v_36, some v_48, some v_55, some v_62, some (.ref p_69), none, none, none]) x_bl s_94 (fun _ _ h => h.elim) hm fun a_99 v_100 I_101 H_102 e_103 s_104 r_105 hm => ?_
      exact hm v_100 H_102 r_105
    · refine q_asg (E := EZ) (K := K) (σ := [some (.ref a0), some (.ref p_1), some v_12, some v_24, some v_36, some v_48, some v_55, some v_62, some (.ref p_69), none, none, none]) (i := 9) (x_cb o_sum (a_one (x_v (x_lcK (i_cellZ (i := 8) rfl hc_77 hl_79 (a2up e_97 hr_80)) (fun _ e => e _ _ hc_77) g1 (fun _ _ _ _ ⟨_, h, _⟩ => by rw [h]; rfl) (fun x_106 σ2 I_107 C_108 e_109 c_110 ⟨v_111, h, r_112⟩ => by subst h; exact (x_op o_ix (x_v (x_var (i := 4) rfl (Rp.mono _ (e_51.trans (e_58.trans (e_65.trans (e_74.trans (e_97.trans e_109))))) exz r_41))) (x_var (i := 11) rfl (Rp.mono _ (Ex.refl _) exz r_112)))) (fun _ _ _ _ _ e ⟨v_111, h, r_112⟩ => ⟨v_111, h, Rp.mono _ e exz r_112⟩))))) s_98 (fun _ _ h => h.elim) hm fun worth_113 v_114 I_115 H_116 e_117 s_118 r_119 hm => ?_
      refine qm_forR (E := EZ) (K := K) (σ := [some (.ref a0), some (.ref p_1), some v_12, some v_24, some v_36, some v_48, some v_55, some v_62, some (.ref p_69), some v_114, none, none]) (s0 := fun (y_139 : Pl) => y_139) (fun (z_120 : Pl) σ2 I_123 C_124 => ∃ w_122 : Option V, σ2 = [some (.ref a0), some (.ref p_1), some v_12, some v_24, some v_36, some v_48, some v_55, some v_62, some (.ref p_69), some v_114, w_122, none] ∧ (∃ ws_125 : List V, C_124 p_1 = some (.lst ws_125) ∧ Rt.r pM z_120 ws_125 I_123 Z) ∧ C_124 p_69 = some (.lst vs_70)) (im_list (m_callM (i := 1) rfl (am_pure (a_cons (x_var (i := 3) rfl (Rp.mono _ (e_39.trans (e_51.trans (e_58.trans (e_65.trans (e_74.trans (e_97.trans e_117)))))) exz r_29)) (a_one (x_var (i := 2) rfl (Rp.mono _ (e_27.trans (e_39.trans (e_51.trans (e_58.trans (e_65.trans (e_74.trans (e_97.trans e_117))))))) exz r_17))))))) s_118 hc_83 (Rt.mono _ (e_51.trans (e_58.trans (e_65.trans (e_74.trans (e_97.trans e_117))))) exz hx_46) hm (fun y_139 ws_140 I_141 C_142 e_138 hc_143 k_144 hx_145 => by
      have hc_146 := (k_144 _ (Ne.symm ne_81)).trans hc_77
      exact ⟨none, rfl, ⟨_, hc_143, Rt.mono _ (Ex.refl _) exz hx_145⟩, hc_146⟩) (fun _ _ _ _ _ e ⟨w_122, hs_121, ⟨ws_125, hc_126, hx_127⟩, hc_128⟩ => ⟨w_122, hs_121, ⟨ws_125, hc_126, Rt.mono _ e exz hx_127⟩, hc_128⟩) (fun N x_130 v_131 z_120 σ2 I_132 C_133 H_134 e_135 s_136 ⟨w_122, hs_121, ⟨ws_125, hc_126, hx_127⟩, hc_128⟩ r_137 hm => ?_) (fun z_177 σ2 I_172 C_173 H_174 e_175 s_176 ⟨w_179, hs_178, ⟨ws_182, hc_183, hx_184⟩, hc_185⟩ hm => ?_)
      · subst hs_121
        refine g1 (K := K) x_130 v_131 I_132 C_133 H_134 _ s_136 r_137 fun σ2 ⟨v_147, hs_149, r_148⟩ => ?_
        subst hs_149
        refine s_if (E := EZ) (K := K) (σ := [some (.ref a0), some (.ref p_1), some v_12, some v_24, some v_36, some v_48, some v_55, some v_62, some (.ref p_69), some v_114, some v_147, none]) (t_or (t_test (x_op o_gt (x_cb o_sum (a_one (x_v (x_lc (i_list (x_var (i := 10) rfl (Rp.mono _ (Ex.refl _) exz r_148))) g1 (fun _ _ _ _ ⟨_, h, _⟩ => by rw [h]; rfl) (fun x_150 σ2 I_151 C_152 e_153 c_154 ⟨v_155, h, r_156⟩ => by subst h; exact (x_op o_ix (x_v (x_var (i := 4) rfl (Rp.mono _ (e_51.trans (e_58.trans (e_65.trans (e_74.trans (e_97.trans (e_117.trans (e_135.trans e_153))))))) exz r_41))) (x_var (i := 11) rfl (Rp.mono _ (Ex.refl _) exz r_156)))) (fun _ _ _ _ _ e ⟨v_155, h, r_156⟩ => ⟨v_155, h, Rp.mono _ e exz r_156⟩))))) (x_var (i := 9) rfl (Rp.mono _ e_135 exz r_119)))) (t_test (x_op o_gt (x_cb o_len (a_one (x_v (x_var (i := 10) rfl (Rp.mono _ (Ex.refl _) exz r_148))))) (x_cb o_len (a_one (x_cell (i := 8) rfl hc_128 hl_79 (a2up (e_97.trans (e_117.trans e_135)) hr_80))))))) s_136 (fun _ _ h => h.elim) hm (fun I_157 H_158 e_159 s_160 hm => ?_) (fun I_161 H_162 e_163 s_164 hm => ?_)
        · refine q_ret (E := EZ) (K := K) (σ := [some (.ref a0), some (.ref p_1), some v_12, some v_24, some v_36, some v_48, some v_55, some v_62, some (.ref p_69), some v_114, some v_147, none]) x_bl s_160 (fun _ _ h => h.elim) hm fun a_165 v_166 I_167 H_168 e_169 s_170 r_171 hm => ?_
          exact hm v_166 H_168 r_171
        · exact hm _ _ _ _ e_163 s_164 ⟨some v_147, rfl, ⟨_, hc_126, Rt.mono _ e_163 exz hx_127⟩, hc_128⟩
      subst hs_178
      refine q_app (E := EZ) (K := K) (σ := [some (.ref a0), some (.ref p_1), some v_12, some v_24, some v_36, some v_48, some v_55, some v_62, some (.ref p_69), some v_114, w_179, none]) (i := 8) rfl hc_185 (a2up (e_97.trans (e_117.trans e_175)) hr_80) (x_int (i := 0)) s_176 (fun _ _ h => h.elim) hm fun told_187 vs_188 I_189 C_190 H_191 e_192 s_193 hc_194 k_195 hl_196 hr_197 hm => ?_
      have hc_198 := (k_195 _ ne_81).trans hc_183
      refine s_if (E := EZ) (K := K) (σ := [some (.ref a0), some (.ref p_1), some v_12, some v_24, some v_36, some v_48, some v_55, some v_62, some (.ref p_69), some v_114, w_179, none]) (t_test (x_op (o_neD (de_lst de_int) (de_lst de_int) (by decide)) (x_own (n_call (a_cons (x_var (i := 6) rfl (Rp.mono _ (e_65.trans (e_74.trans (e_97.trans (e_117.trans (e_175.trans e_192))))) exz r_60)) (a_cons (x_var (i := 2) rfl (Rp.mono _ (e_27.trans (e_39.trans (e_51.trans (e_58.trans (e_65.trans (e_74.trans (e_97.trans (e_117.trans (e_175.trans e_192))))))))) exz r_17)) (a_one (x_var (i := 7) rfl (Rp.mono _ (e_74.trans (e_97.trans (e_117.trans (e_175.trans e_192)))) exz r_67))))))) (x_var (i := 5) rfl (Rp.mono _ (e_58.trans (e_65.trans (e_74.trans (e_97.trans (e_117.trans (e_175.trans e_192)))))) exz r_53)))) s_193 (fun _ _ h => h.elim) hm (fun I_199 H_200 e_201 s_202 hm => ?_) (fun I_203 H_204 e_205 s_206 hm => ?_)
      · refine q_ret (E := EZ) (K := K) (σ := [some (.ref a0), some (.ref p_1), some v_12, some v_24, some v_36, some v_48, some v_55, some v_62, some (.ref p_69), some v_114, w_179, none]) x_bl s_202 (fun _ _ h => h.elim) hm fun a_207 v_208 I_209 H_210 e_211 s_212 r_213 hm => ?_
        exact hm v_208 H_210 r_213
      · refine qm_if (E := EZ) (K := K) (σ := [some (.ref a0), some (.ref p_1), some v_12, some v_24, some v_36, some v_48, some v_55, some v_62, some (.ref p_69), some v_114, w_179, none]) (tm_and off_same (tm_pure (t_test (x_op o_gt (x_cb o_len (a_one (x_v (x_var (i := 3) rfl (Rp.mono _ (e_39.trans (e_51.trans (e_58.trans (e_65.trans (e_74.trans (e_97.trans (e_117.trans (e_175.trans (e_192.trans e_205))))))))) exz r_29))))) (x_int (i := 0))))) (tm_not (tm_B (m_callM (i := 1) rfl (am_pure (a_cons (x_var (i := 6) rfl (Rp.mono _ (e_65.trans (e_74.trans (e_97.trans (e_117.trans (e_175.trans (e_192.trans e_205)))))) exz r_60)) (a_cons (x_var (i := 2) rfl (Rp.mono _ (e_27.trans (e_39.trans (e_51.trans (e_58.trans (e_65.trans (e_74.trans (e_97.trans (e_117.trans (e_175.trans (e_192.trans e_205)))))))))) exz r_17)) (a_cons (x_var (i := 7) rfl (Rp.mono _ (e_74.trans (e_97.trans (e_117.trans (e_175.trans (e_192.trans e_205))))) exz r_67)) (a_one (x_var (i := 5) rfl (Rp.mono _ (e_58.trans (e_65.trans (e_74.trans (e_97.trans (e_117.trans (e_175.trans (e_192.trans e_205))))))) exz r_53))))))))))) s_206 hc_198 (Rt.mono _ (e_192.trans e_205) exz hx_184) hm (fun y_222 ws_223 I_214 C_224 H_215 e_216 s_217 hc_225 k_226 hx_227 hm => ?_) (fun y_228 ws_229 I_218 C_230 H_219 e_220 s_221 hc_231 k_232 hx_233 hm => ?_)
        · have hc_234 := (k_226 _ (Ne.symm ne_81)).trans hc_194
          refine q_ret (E := EZ) (K := K) (σ := [some (.ref a0), some (.ref p_1), some v_12, some v_24, some v_36, some v_48, some v_55, some v_62, some (.ref p_69), some v_114, w_179, none]) x_bl s_217 (fun _ _ h => h.elim) hm fun a_235 v_236 I_237 H_238 e_239 s_240 r_241 hm => ?_
          exact hm v_236 H_238 r_241
        · have hc_242 := (k_232 _ (Ne.symm ne_81)).trans hc_194
          refine s_if (E := EZ) (K := K) (σ := [some (.ref a0), some (.ref p_1), some v_12, some v_24, some v_36, some v_48, some v_55, some v_62, some (.ref p_69), some v_114, w_179, none]) (t_or (t_test (x_op (o_neD (de_lst (de_tup (dt_cons de_int (dt_one de_int)))) (de_lst (de_tup (dt_cons de_int (dt_one de_int)))) (by decide)) (x_var (i := 6) rfl (Rp.mono _ (e_65.trans (e_74.trans (e_97.trans (e_117.trans (e_175.trans (e_192.trans (e_205.trans e_220))))))) exz r_60)) (x_var (i := 3) rfl (Rp.mono _ (e_39.trans (e_51.trans (e_58.trans (e_65.trans (e_74.trans (e_97.trans (e_117.trans (e_175.trans (e_192.trans (e_205.trans e_220)))))))))) exz r_29)))) (t_test (x_op (o_neD (de_lst de_int) (de_lst de_int) (by decide)) (x_var (i := 7) rfl (Rp.mono _ (e_74.trans (e_97.trans (e_117.trans (e_175.trans (e_192.trans (e_205.trans e_220)))))) exz r_67)) (x_var (i := 4) rfl (Rp.mono _ (e_51.trans (e_58.trans (e_65.trans (e_74.trans (e_97.trans (e_117.trans (e_175.trans (e_192.trans (e_205.trans e_220))))))))) exz r_41))))) s_221 (fun _ _ h => h.elim) hm (fun I_243 H_244 e_245 s_246 hm => ?_) (fun I_247 H_248 e_249 s_250 hm => ?_)
          · refine q_ret (E := EZ) (K := K) (σ := [some (.ref a0), some (.ref p_1), some v_12, some v_24, some v_36, some v_48, some v_55, some v_62, some (.ref p_69), some v_114, w_179, none]) x_bl s_246 (fun _ _ h => h.elim) hm fun a_251 v_252 I_253 H_254 e_255 s_256 r_257 hm => ?_
            exact hm v_252 H_254 r_257
          · refine qm_ret (E := EZ) (K := K) (σ := [some (.ref a0), some (.ref p_1), some v_12, some v_24, some v_36, some v_48, some v_55, some v_62, some (.ref p_69), some v_114, w_179, none]) (m_callM (i := 1) rfl (am_pure (a_one (x_var (i := 3) rfl (Rp.mono _ (e_39.trans (e_51.trans (e_58.trans (e_65.trans (e_74.trans (e_97.trans (e_117.trans (e_175.trans (e_192.trans (e_205.trans (e_220.trans e_249))))))))))) exz r_29))))) s_250 hc_231 (Rt.mono _ e_249 exz hx_233) hm fun a_258 v_259 ws_265 I_260 C_266 H_261 e_262 s_263 hc_267 k_268 hx_269 r_264 hm => ?_
            exact hm v_259 H_261 r_264
end
end K83

namespace K83
open PySem Sd
/-! the pool -/
theorem mix_ok (c t : Int) : ∃ v, m__law_mix c t = .ok v := by
  unfold m__law_mix
  simp [rMul, rMod]
/-- the pool's counter does not run below 0 -/
abbrev PI_ (p : Pl) : Prop := 0 ≤ p.2.1 ∧ 0 ≤ p.2.2.1
theorem fill_is (p : Pl) (h : PI_ p) : Is (m__law_fill () p) fun b => PI_ b.2 := by
  unfold m__law_fill
  simp only [Res.bind_ok, rLen_eq, bin_ok, un_ok, rLt_eq, rGt_eq, ifR_ok, idR_eq]
  refine Is.bind (Q := fun z => z.1 = p) ?_ fun z hz => ?_
  · by_cases h1 : p.2.1 < (p.2.2.2.length : Int)
    · obtain ⟨x, e, _⟩ := ix_get h.1 h1
      simp only [decide_eq_true_eq, if_pos h1, e, Res.bind_ok]
      exact rfl
    · simp only [decide_eq_true_eq, if_neg h1]
      by_cases h2 : 0 < (p.2.2.2.length : Int)
      · obtain ⟨x, e, _⟩ := ix_get (xs := p.2.2.2) (Int.emod_nonneg p.2.2.1 (by omega)) (Int.emod_lt_of_pos p.2.2.1 h2)
        simp only [if_pos h2, rMod_ok h2, bin, Res.bind_ok, e]
        exact rfl
      · simp only [if_neg h2]
        exact rfl
  · obtain ⟨q, c⟩ := z
    have hz : q = p := hz
    subst hz
    refine Is.bind (Q := fun _ => True) ?_ fun c2 _ => ?_
    · dsimp only
      by_cases h3 : c < 0
      · simp only [decide_eq_true_eq, if_pos h3, bin, Res.bind_ok]
        rw [rMul_ok (.inl (by decide))]
        trivial
      · simp only [decide_eq_true_eq, if_neg h3]
        trivial
    · have hp : rPow 10 18 = .ok (10 ^ 18) := rPow_ok (by decide)
      simp only [thenR_eq, bin_ok, rAdd_eq, Res.bind_ok, hp, rGe_eq, rLe_eq, andR_ok, ifR_ok]
      split
      · exact ⟨by dsimp only; omega, by dsimp only; omega⟩
      · obtain ⟨v, hv⟩ := mix_ok c2 (q.2.2.1 + 1)
        simp only [pair_ok, un_ok, hv, Res.bind_ok]
        exact ⟨by dsimp only; omega, by dsimp only; omega⟩
theorem take_is {n : Int} {p : Pl} (h : PI_ p) (h0 : 0 < n) (h1 : n < 1073741824) : Is (m__law_take n p) fun b => (0 ≤ b.1 ∧ b.1 < n) ∧ PI_ b.2 := by
  unfold m__law_take
  simp only [bin_ok, rLt_eq, ifR_ok]
  refine Is.bind (Q := PI_) ?_ fun z hz => ?_
  · split
    · exact Is.bind (fill_is p h) fun b hb => hb
    · exact h
  · simp only [un_ok, idR_eq, bin_ok, rMod_ok h0, rDiv_ok ⟨h0, h1⟩, Res.bind_ok, thenR_eq]
    exact ⟨⟨Int.emod_nonneg _ (by omega), Int.emod_lt_of_pos _ h0⟩, hz⟩
theorem take_ok {n : Int} {p : Pl} (h : PI_ p) (h0 : 0 < n) (h1 : n < 1073741824) : ∃ b, m__law_take n p = .ok b ∧ (0 ≤ b.1 ∧ b.1 < n) ∧ PI_ b.2 := (take_is h h0 h1).get
theorem from_is {lo hi : Int} {p : Pl} (h : PI_ p) (h0 : lo ≤ hi) (h1 : hi - lo < 1073741823) : Is (m__law_from lo hi p) fun b => (lo ≤ b.1 ∧ b.1 ≤ hi) ∧ PI_ b.2 := by
  unfold m__law_from
  obtain ⟨b, e, hb, hp⟩ := take_ok (n := hi - lo + 1) h (by omega) (by omega)
  simp only [binM, callM, liftM_eq, bin_ok, rSub_eq, rAdd_eq, Res.bind_ok, e]
  exact ⟨⟨by dsimp only; omega, by dsimp only; omega⟩, hp⟩
theorem from_ok {lo hi : Int} {p : Pl} (h : PI_ p) (h0 : lo ≤ hi) (h1 : hi - lo < 1073741823) : ∃ b, m__law_from lo hi p = .ok b ∧ (lo ≤ b.1 ∧ b.1 ≤ hi) ∧ PI_ b.2 := (from_is h h0 h1).get

/-! wishes -/
abbrev Wish := Int × Int
def VW (x : Wish) : Prop := 0 ≤ x.1 ∧ x.1 < x.2 ∧ x.2 ≤ 60
def Val (w : List Wish) : Prop := w.length ≤ 20 ∧ ∀ x ∈ w, VW x
theorem div_le_20 {d : Int} (h0 : 1 ≤ d) (h1 : d ≤ 5) : 1 ≤ 20 / d ∧ 20 / d ≤ 20 ∧ ∀ w, w ≤ 20 / d → d * w ≤ 20 := by
  have : d = 1 ∨ d = 2 ∨ d = 3 ∨ d = 4 ∨ d = 5 := by omega
  rcases this with rfl | rfl | rfl | rfl | rfl
  · exact ⟨by decide, by decide, fun w h => by have : (20 : Int) / 1 = 20 := by decide
                                               omega⟩
  · exact ⟨by decide, by decide, fun w h => by have : (20 : Int) / 2 = 10 := by decide
                                               omega⟩
  · exact ⟨by decide, by decide, fun w h => by have : (20 : Int) / 3 = 6 := by decide
                                               omega⟩
  · exact ⟨by decide, by decide, fun w h => by have : (20 : Int) / 4 = 5 := by decide
                                               omega⟩
  · exact ⟨by decide, by decide, fun w h => by have : (20 : Int) / 5 = 4 := by decide
                                               omega⟩
theorem wishes_is {d : Int} {p : Pl} (h0 : 1 ≤ d) (h1 : d ≤ 5) (hp : PI_ p) : Is (m__law_wishes d p) fun b => Val b.1 ∧ PI_ b.2 := by
  unfold m__law_wishes
  obtain ⟨k, ek, hk, pk⟩ := take_ok (n := 3) hp (by decide) (by decide)
  simp only [callM_ok, ek, Res.bind_ok, bin_ok, eqR_eq, ifR_ok]
  obtain ⟨hd1, hd2, hd3⟩ := div_le_20 h0 h1
  refine Is.if_ (fun _ => ?_) fun _ => ?_
  · rw [rDiv_ok ⟨by omega, by omega⟩]
    simp only [pair_ok, callM_ok]
    obtain ⟨w, ew, hw, pw⟩ := from_ok (lo := 1) (hi := 20 / d) pk hd1 (by omega)
    simp only [ew, Res.bind_ok, rSub_eq, callM_ok]
    obtain ⟨b, eb, hb, pb⟩ := take_ok (n := 61 - w.1) pw (by omega) (by omega)
    have hdw : d * w.1 ≤ 20 := hd3 _ hw.2
    have hdw1 : 1 ≤ d * w.1 := by
      have := Int.mul_le_mul h0 hw.1 (by omega) (by omega : (0:Int) ≤ d)
      omega
    simp only [eb, Res.bind_ok, rMul_ok (.inl (by omega) : (-(2 ^ 64) < d ∧ d < 2 ^ 64) ∨ (-(2 ^ 64) < w.1 ∧ w.1 < 2 ^ 64)), un_ok, rng1_ok (n := d * w.1) (by omega)]
    refine Is.bind (loopN_inv (fun i (z : List Wish × Pl) => z.1.length = i ∧ (∀ x ∈ z.1, VW x) ∧ PI_ z.2) ⟨rfl, fun x hx => (nomatch hx), pb⟩ fun i x z hx ⟨hz1, hz2, hz3⟩ => ?_) fun z ⟨hz1, hz2, hz3⟩ => ?_
    · have hx0 := mem_rangeL.mp (List.mem_of_getElem? hx)
      have hi : i < 20 := by
        have := rangeL_get hx
        omega
      simp only [rDiv_ok (a := x) (b := d) ⟨by omega, by omega⟩, Res.bind_ok, rAdd_eq, pair_ok, callM_ok]
      have hm0 : 0 ≤ x / d := Int.ediv_nonneg (by omega) (by omega)
      have hm1 : x / d < w.1 := Int.ediv_lt_of_lt_mul (by omega) (by rw [Int.mul_comm]; omega)
      obtain ⟨c, ec, hc, pc⟩ := from_ok (lo := x / d + 1) (hi := w.1) hz3 (by omega) (by omega)
      obtain ⟨o, eo, ho, po⟩ := take_ok (n := x / d + 1) pc (by omega) (by omega)
      simp only [ec, Res.bind_ok, pairM_eq, binM_eq, liftM_ok, callM_ok, eo, rAdd_eq, push_ok (xs := z.1) (x := (b.1 + o.1, b.1 + c.1)) (by omega)]
      refine ⟨by simp [hz1], fun y hy => ?_, po⟩
      rcases List.mem_append.mp hy with hy | hy
      · exact hz2 y hy
      · rw [List.mem_singleton.mp hy]
        exact ⟨by dsimp only; omega, by dsimp only; omega, by dsimp only; omega⟩
    · rw [rangeL_length] at hz1
      simp only [ifMR_eq, andM_eq, liftM_eq, un_ok, rLen_eq, bin_ok, rLt_eq, Res.bind_ok, binM_eq, callM_ok]
      refine Is.bind (Q := fun y : Pl × List Wish => PI_ y.1 ∧ Val y.2 ∧ 1 ≤ (y.2.length : Int)) ?_ fun y ⟨hy1, hy2, hy3⟩ => ?_
      · refine Is.bind (Q := fun b : Bool × Pl => (b.1 = true → (z.1.length : Int) < 20) ∧ PI_ b.2) ?_ fun y ⟨hy1, hy2⟩ => ?_
        · refine Is.if_ (fun h => ?_) fun _ => ⟨fun h => (nomatch h), hz3⟩
          obtain ⟨t, et, ht, pt⟩ := take_ok (n := 2) hz3 (by decide) (by decide)
          simp only [et, Res.bind_ok, liftM_eq, eqR_eq]
          exact ⟨fun _ => of_decide_eq_true h, pt⟩
        · refine Is.if_ (fun h => ?_) fun _ => ⟨hy2, ⟨by dsimp only; omega, hz2⟩, by dsimp only; omega⟩
          obtain ⟨o, eo, ho, po⟩ := take_ok (n := w.1) hy2 (by omega) (by omega)
          obtain ⟨c, ec, hc, pc⟩ := from_ok (lo := o.1 + 1) (hi := w.1) po (by omega) (by omega)
          have hl := hy1 h
          simp only [eo, Res.bind_ok, pairM_eq, binM_eq, liftM_ok, liftM_eq, callM_ok, rAdd_eq, bin_ok, pair_ok, ec, push_ok (xs := z.1) (x := (b.1 + o.1, b.1 + c.1)) (by omega)]
          refine ⟨pc, ⟨by simp; omega, fun y hy => ?_⟩, by simp; omega⟩
          rcases List.mem_append.mp hy with hy | hy
          · exact hz2 y hy
          · rw [List.mem_singleton.mp hy]
            exact ⟨by dsimp only; omega, by dsimp only; omega, by dsimp only; omega⟩
      · obtain ⟨t, et, ht, pt⟩ := take_ok (n := (y.2.length : Int)) hy1 (by omega) (by have := hy2.1; omega)
        simp only [et, Res.bind_ok, someR_ok, slR_ok, cut_hi ht.1, cut_lo ht.1, bin_ok]
        have hlen : (y.2.drop t.1.toNat).length + (y.2.take t.1.toNat).length = y.2.length := by
          rw [List.length_drop, List.length_take]
          omega
        rw [rCatR_ok (by rw [hlen]; have := hy2.1; omega)]
        refine ⟨⟨by rw [List.length_append, hlen]; exact hy2.1, fun x hx => ?_⟩, pt⟩
        rcases List.mem_append.mp hx with hx | hx
        · exact hy2.2 x (List.mem_of_mem_drop hx)
        · exact hy2.2 x (List.mem_of_mem_take hx)
  · refine Is.bind (Q := fun y : Pl × Int => PI_ y.1 ∧ 1 ≤ y.2 ∧ y.2 ≤ 60) ?_ fun y ⟨hy1, hy2, hy3⟩ => ?_
    · refine Is.if_ (fun _ => ?_) fun _ => ⟨pk, by dsimp only; decide, by dsimp only; decide⟩
      obtain ⟨w, ew, hw, pw⟩ := from_ok (lo := 1) (hi := 8) pk (by decide) (by decide)
      simp only [pair_ok, callM_ok, ew, Res.bind_ok]
      exact ⟨pw, by dsimp only; omega, by dsimp only; omega⟩
    · obtain ⟨b, eb, hb, pb⟩ := take_ok (n := 61 - y.2) hy1 (by omega) (by omega)
      obtain ⟨m, em, hm, pm⟩ := take_ok (n := 21) pb (by decide) (by decide)
      simp only [rSub_eq, callM_ok, eb, Res.bind_ok, unM_eq, em, rng1_ok (n := m.1) (by omega)]
      refine Is.bind (loopN_inv (fun i (z : List Wish × Pl) => z.1.length = i ∧ (∀ x ∈ z.1, VW x) ∧ PI_ z.2) ⟨rfl, fun x hx => (nomatch hx), pm⟩ fun i x z hx ⟨hz1, hz2, hz3⟩ => ?_) fun z ⟨hz1, hz2, hz3⟩ => ?_
      · have hx0 := mem_rangeL.mp (List.mem_of_getElem? hx)
        have hi : i < 21 := by
          have := rangeL_get hx
          omega
        obtain ⟨o, eo, ho, po⟩ := take_ok (n := y.2) hz3 (by omega) (by omega)
        obtain ⟨c, ec, hc, pc⟩ := from_ok (lo := o.1 + 1) (hi := y.2) po (by omega) (by omega)
        simp only [callM_ok, eo, Res.bind_ok, pairM_eq, binM_eq, liftM_ok, liftM_eq, rAdd_eq, bin_ok, pair_ok, ec, push_ok (xs := z.1) (x := (b.1 + o.1, b.1 + c.1)) (by omega)]
        refine ⟨by simp [hz1], fun y hy => ?_, pc⟩
        rcases List.mem_append.mp hy with hy | hy
        · exact hz2 y hy
        · rw [List.mem_singleton.mp hy]
          exact ⟨by dsimp only; omega, by dsimp only; omega, by dsimp only; omega⟩
      · rw [rangeL_length] at hz1
        exact ⟨⟨by dsimp only; omega, hz2⟩, hz3⟩
/-! crowds -/
def cnt (w : List Wish) (s e : Int) : Int := ((w.filter fun x => decide (s ≤ x.1) && decide (x.2 ≤ e)).length : Nat)
theorem inside_eq (w : List Wish) (s e : Int) : m_inside w s e = .ok (cnt w s e) := by
  unfold m_inside cnt
  rw [Res.bind_ok, filR_id (q := fun x => decide (s ≤ x.1) && decide (x.2 ≤ e)) (fun x _ => by simp)]
  rfl
theorem linside_eq (w : List Wish) (s e : Int) : m__law_inside w s e = .ok (cnt w s e) := by
  unfold m__law_inside cnt
  rw [Res.bind_ok, filR_id (q := fun x => decide (s ≤ x.1) && decide (x.2 ≤ e)) (fun x _ => by simp)]
  rfl
abbrev Small (d : Int) : Prop := -(2 ^ 64) < d ∧ d < 2 ^ 64
/-! checks -/
def okW (x : Wish) : Bool := !(decide (x.1 < 0) || (decide (x.2 ≤ x.1) || decide (60 < x.2)))
theorem okW_iff {x : Wish} : okW x = true ↔ VW x := by
  unfold okW VW
  simp only [Bool.not_eq_true', Bool.or_eq_false_iff, decide_eq_false_iff_not]
  omega
def fb : List Wish → Int → Option Int
  | [], _ => none
  | x :: xs, k => if okW x = true then fb xs (k + 1) else some k
def chk (w : List Wish) : Res Unit := if 20 < w.length then .exc .TooMany 20 else match fb w 0 with
  | some k => .exc .BadPair k
  | none => .ok ()
theorem chk_eq (w : List Wish) : m_check_wishes w = chk w := by
  unfold m_check_wishes chk
  simp only [un_ok, rLen_eq, bin_ok, rGt_eq, Res.bind_ok, ifR_ok, enumR_eq, decide_eq_true_eq]
  by_cases h : 20 < w.length
  · rw [if_pos h, if_pos (by omega)]
  · rw [if_neg h, if_neg (by omega)]
    have key : ∀ (w : List Wish) (k : Int), loopN (fun (x_16 : (Int × (Int × Int))) (z_9 : Unit) => (if (decide (x_16.2.1 < 0) || (decide (x_16.2.2 ≤ x_16.2.1) || decide (60 < x_16.2.2))) = true then Res.exc .BadPair x_16.1 else Res.ok ())) (enumF k w) () = match fb w k with
        | some k => .exc .BadPair k
        | none => .ok () := by
      intro w
      induction w with
      | nil => intro k; rfl
      | cons x xs ih =>
        intro k
        rw [enumF, loopN_cons, fb]
        unfold okW
        cases (decide (x.1 < 0) || (decide (x.2 ≤ x.1) || decide (60 < x.2))) with
        | true => rfl
        | false => exact ih (k + 1)
    simp only [rLt_eq, rGe_eq, orR_ok, ifR_ok]
    rw [key]
    cases fb w 0 <;> rfl
theorem fb_none : ∀ {w : List Wish} {k : Int}, (∀ x ∈ w, VW x) → fb w k = none
  | [], _, _ => rfl
  | x :: xs, k, h => by
    rw [fb, if_pos (okW_iff.mpr (h x List.mem_cons_self))]
    exact fb_none fun y hy => h y (List.mem_cons_of_mem _ hy)
theorem chk_ok {w : List Wish} (h : Val w) : m_check_wishes w = .ok () := by
  rw [chk_eq]
  unfold chk
  rw [if_neg (by have := h.1; omega), fb_none h.2]
theorem fb_at : ∀ {w : List Wish} {k : Int} {j : Nat}, (∀ i x, i < j → w[i]? = some x → VW x) → (∃ x, w[j]? = some x ∧ ¬ VW x) → fb w k = some (k + j)
  | [], _, _, _, ⟨x, h, _⟩ => by cases h
  | x :: xs, k, 0, _, ⟨y, h, hy⟩ => by
    have e : x = y := Option.some.inj h
    subst e
    rw [fb, if_neg (fun z => hy (okW_iff.mp z))]
    simp
  | x :: xs, k, j + 1, h1, ⟨y, h, hy⟩ => by
    rw [fb, if_pos (okW_iff.mpr (h1 0 x (by omega) rfl)), fb_at (k := k + 1) (j := j) (fun i z hi hz => h1 (i + 1) z (by omega) hz) ⟨y, h, hy⟩]
    congr 1
    omega
def many (pl : List Int) (m : Int) : Int := ((pl.filter fun x => decide (x = m)).length : Nat)
/-! the greedy plan and the crowds -/
def cn (P : List Int) (u : Int) : Nat := P.countP fun x => decide (x = u)
theorem many_cn (P : List Int) (u : Int) : many P u = (cn P u : Int) := by
  unfold many cn
  rw [List.countP_eq_length_filter]
def inR (P : List Int) (s e : Int) : Nat := P.countP fun m => decide (s ≤ m) && decide (m < e)
theorem inR_succ (P : List Int) {s e : Int} (h : s ≤ e) : inR P s (e + 1) = inR P s e + cn P e := by
  unfold inR cn
  induction P with
  | nil => rfl
  | cons x xs ih =>
    rw [List.countP_cons, List.countP_cons, List.countP_cons, ih]
    by_cases h1 : x = e
    · subst h1
      simp [h, show x < x + 1 by omega]
      omega
    · by_cases h2 : s ≤ x
      · by_cases h3 : x < e
        · simp [h1, h2, h3, show x < e + 1 by omega]
          omega
        · simp [h1, h2, h3, show ¬ x < e + 1 by omega]
      · simp [h1, h2]
theorem inR_nil (P : List Int) (s : Int) : inR P s s = 0 := by
  unfold inR
  rw [List.countP_eq_zero]
  intro x _
  simp
theorem inR_full (P : List Int) (d : Nat) (s : Int) : ∀ n : Nat, (∀ t, s ≤ t → t < s + n → cn P t = d) → inR P s (s + n) = d * n
  | 0, _ => by
    rw [show s + ((0 : Nat) : Int) = s by omega, inR_nil]
    rfl
  | n + 1, h => by
    rw [show s + ((n + 1 : Nat) : Int) = s + n + 1 by omega, inR_succ P (by omega), inR_full P d s n (fun t h1 h2 => h t h1 (by omega)), h (s + n) (by omega) (by omega), Nat.mul_succ]
theorem inR_cap (P : List Int) (d : Nat) (s : Int) : ∀ n : Nat, (∀ t, s ≤ t → t < s + n → cn P t ≤ d) → inR P s (s + n) ≤ d * n
  | 0, _ => by
    rw [show s + ((0 : Nat) : Int) = s by omega, inR_nil]
    omega
  | n + 1, h => by
    rw [show s + ((n + 1 : Nat) : Int) = s + n + 1 by omega, inR_succ P (by omega), Nat.mul_succ]
    have h1 := inR_cap P d s n (fun t h1 h2 => h t h1 (by omega))
    have h2 := h (s + n) (by omega) (by omega)
    omega
theorem cnt_zip {w : List Wish} {P : List Int} (h : P.length = w.length) (s e : Int) : cnt w s e = ((w.zip P).countP fun z => decide (s ≤ z.1.1) && decide (z.1.2 ≤ e) : Nat) := by
  unfold cnt
  rw [← List.countP_eq_length_filter]
  have e1 : w = (w.zip P).map Prod.fst := (List.map_fst_zip (by omega)).symm
  conv => lhs; rw [e1]
  rw [List.countP_map]
  rfl
theorem inR_zip {w : List Wish} {P : List Int} (h : P.length = w.length) (s e : Int) : inR P s e = (w.zip P).countP fun z => decide (s ≤ z.2) && decide (z.2 < e) := by
  unfold inR
  have e1 : P = (w.zip P).map Prod.snd := (List.map_snd_zip (by omega)).symm
  conv => lhs; rw [e1]
  rw [List.countP_map]
  rfl
theorem countP_lt {α : Type} {p q : α → Bool} : ∀ {l : List α} {z : α}, z ∈ l → p z = true → q z = false → (∀ x, x ∈ l → q x = true → p x = true) → l.countP q < l.countP p
  | x :: xs, z, hz, h1, h2, h => by
    rw [List.countP_cons, List.countP_cons]
    rcases List.mem_cons.mp hz with rfl | hz
    · have := List.countP_mono_left (l := xs) (p := q) (q := p) fun y hy => h y (List.mem_cons_of_mem _ hy)
      rw [h1, h2]
      simp
      omega
    · have := countP_lt hz h1 h2 fun y hy => h y (List.mem_cons_of_mem _ hy)
      have hx := h x List.mem_cons_self
      cases q1 : q x with
      | false => simp; omega
      | true => rw [hx q1]; simp; omega
structure Edf (w : List Wish) (d : Nat) (t : Int) (P : List Int) : Prop where
  len : P.length = w.length
  win : ∀ (i : Nat) (x : Wish) (m : Int), w[i]? = some x → P[i]? = some m → m = -1 ∨ (0 ≤ m ∧ m < t ∧ x.1 ≤ m ∧ m < x.2)
  cap : ∀ u, u ≠ -1 → cn P u ≤ d
  grd : ∀ (u : Int) (j : Nat) (x : Wish) (m : Int), 0 ≤ u → u < t → w[j]? = some x → P[j]? = some m → x.1 ≤ u → u < x.2 → (m = -1 ∨ u < m) → cn P u = d ∧ ∀ (i : Nat) (y : Wish), w[i]? = some y → P[i]? = some u → y.2 ≤ x.2
theorem edf_all {w : List Wish} {d : Nat} {P : List Int} (H : Edf w d 60 P) (hw : ∀ x ∈ w, VW x) (hn : ∀ s e : Int, 0 ≤ s → s < e → e ≤ 60 → cnt w s e ≤ (d : Int) * (e - s)) : -1 ∉ P := by
  intro hm
  obtain ⟨j, hj⟩ := List.mem_iff_getElem?.mp hm
  have hjl : j < w.length := by
    have := (List.getElem?_eq_some_iff.mp hj).1
    rw [H.len] at this
    exact this
  obtain ⟨x, hx⟩ : ∃ x, w[j]? = some x := ⟨w[j], by simp [hjl]⟩
  have vx := hw x (List.mem_of_getElem? hx)
  obtain ⟨v0, v1, v2⟩ := vx
  -- the earliest minute from which on all are full
  have key : ∀ n : Nat, ∀ s : Int, 0 ≤ s → s.toNat = n → s ≤ x.1 → (∀ t, s ≤ t → t < x.2 → cn P t = d ∧ ∀ (i : Nat) (y : Wish), w[i]? = some y → P[i]? = some t → y.2 ≤ x.2) →
      ∃ s', 0 ≤ s' ∧ s' ≤ x.1 ∧ (∀ t, s' ≤ t → t < x.2 → cn P t = d ∧ ∀ (i : Nat) (y : Wish), w[i]? = some y → P[i]? = some t → y.2 ≤ x.2) ∧ (s' = 0 ∨ ¬ (cn P (s' - 1) = d ∧ ∀ (i : Nat) (y : Wish), w[i]? = some y → P[i]? = some (s' - 1) → y.2 ≤ x.2)) := by
    intro n
    induction n with
    | zero => intro s h0 hs h1 h2; exact ⟨s, h0, h1, h2, .inl (by omega)⟩
    | succ n ih =>
      intro s h0 hs h1 h2
      by_cases hg : cn P (s - 1) = d ∧ ∀ (i : Nat) (y : Wish), w[i]? = some y → P[i]? = some (s - 1) → y.2 ≤ x.2
      · exact ih (s - 1) (by omega) (by omega) (by omega) fun t h3 h4 => by
          by_cases ht : t = s - 1
          · rw [ht]; exact hg
          · exact h2 t (by omega) h4
      · exact ⟨s, h0, h1, h2, .inr hg⟩
  obtain ⟨s, s0, s1, sg, sm⟩ := key x.1.toNat x.1 v0 rfl (Int.le_refl _) fun t h1 h2 => H.grd t j x (-1) (by omega) (by omega) hx hj h1 h2 (.inl rfl)
  -- whoever is told in it, or is x, opens in it
  have open_ : ∀ (i : Nat) (y : Wish) (m : Int), w[i]? = some y → P[i]? = some m → (m = -1 ∨ s ≤ m) → s ≤ y.2 - 1 → y.2 ≤ x.2 → s ≤ y.1 := by
    intro i y m hy hm h1 h2 h3
    rcases sm with rfl | sm
    · exact (hw y (List.mem_of_getElem? hy)).1
    · by_cases hs : s ≤ y.1
      · exact hs
      · refine absurd ?_ sm
        by_cases hs0 : s = 0
        · have := (hw y (List.mem_of_getElem? hy)).1
          omega
        · obtain ⟨g1, g2⟩ := H.grd (s - 1) i y m (by omega) (by omega) hy hm (by omega) (by omega) (by rcases h1 with h | h; exact .inl h; exact .inr (by omega))
          exact ⟨g1, fun i2 y2 h4 h5 => Int.le_trans (g2 i2 y2 h4 h5) h3⟩
  have hz : (x, (-1 : Int)) ∈ w.zip P := by
    rw [List.mem_iff_getElem?]
    exact ⟨j, List.getElem?_zip_eq_some.mpr ⟨hx, hj⟩⟩
  have lt := countP_lt (p := fun z : Wish × Int => decide (s ≤ z.1.1) && decide (z.1.2 ≤ x.2)) (q := fun z => decide (s ≤ z.2) && decide (z.2 < x.2)) hz (by simp [s1]) (by simp; omega) fun z hz hq => by
    obtain ⟨i, hi⟩ := List.mem_iff_getElem?.mp hz
    obtain ⟨h1, h2⟩ := List.getElem?_zip_eq_some.mp hi
    simp only [Bool.and_eq_true, decide_eq_true_eq] at hq ⊢
    have hc := (sg z.2 hq.1 hq.2).2 i z.1 h1 h2
    have hw2 := H.win i z.1 z.2 h1 h2
    exact ⟨open_ i z.1 z.2 h1 h2 (.inr hq.1) (by omega) hc, hc⟩
  rw [← inR_zip H.len] at lt
  have hc := cnt_zip H.len s x.2
  have hf := inR_full P d s (x.2 - s).toNat fun t h1 h2 => (sg t h1 (by omega)).1
  rw [show s + ((x.2 - s).toNat : Int) = x.2 by omega] at hf
  have hb := hn s x.2 s0 (by omega) v2
  have e1 : (d : Int) * (x.2 - s) = ((d * (x.2 - s).toNat : Nat) : Int) := by
    rw [Int.natCast_mul]
    congr 1
    omega
  rw [e1] at hb
  omega
theorem edf_crowd {w : List Wish} {d : Nat} {P : List Int} (H : Edf w d 60 P) {s e : Int} (h0 : 0 ≤ s) (h1 : s < e) (hc : (d : Int) * (e - s) < cnt w s e) : -1 ∈ P := by
  by_cases hm : -1 ∈ P
  · exact hm
  · exfalso
    have le : (w.zip P).countP (fun z : Wish × Int => decide (s ≤ z.1.1) && decide (z.1.2 ≤ e)) ≤ (w.zip P).countP (fun z => decide (s ≤ z.2) && decide (z.2 < e)) := List.countP_mono_left fun z hz hq => by
      obtain ⟨i, hi⟩ := List.mem_iff_getElem?.mp hz
      obtain ⟨h2, h3⟩ := List.getElem?_zip_eq_some.mp hi
      simp only [Bool.and_eq_true, decide_eq_true_eq] at hq ⊢
      rcases H.win i z.1 z.2 h2 h3 with h | h
      · exact absurd (h ▸ List.mem_of_getElem? h3) hm
      · omega
    rw [← inR_zip H.len] at le
    have e2 := cnt_zip H.len s e
    have hf := inR_cap P d s (e - s).toNat fun t h2 h3 => H.cap t (by omega)
    rw [show s + ((e - s).toNat : Int) = e by omega] at hf
    have e1 : (d : Int) * (e - s) = ((d * (e - s).toNat : Nat) : Int) := by
      rw [Int.natCast_mul]
      congr 1
      omega
    rw [e1] at hc
    omega
/-! the plan that earliest_plan makes -/
def wl (w : List Wish) (t : Int) (P : List Int) : List (Int × Int) := ((enumF 0 w).filter fun x => decide (P.getD x.1.toNat 0 < 0) && (decide (x.2.1 ≤ t) && decide (t < x.2.2))).map fun x => (x.2.2, x.1)
theorem mem_wl {w : List Wish} {t : Int} {P : List Int} {y : Int × Int} : y ∈ wl w t P ↔ ∃ (i : Nat) (x : Wish), w[i]? = some x ∧ y = (x.2, (i : Int)) ∧ P.getD i 0 < 0 ∧ x.1 ≤ t ∧ t < x.2 := by
  unfold wl
  rw [List.mem_map]
  constructor
  · rintro ⟨x, hx, rfl⟩
    obtain ⟨h1, h2⟩ := List.mem_filter.mp hx
    obtain ⟨i, h3, h4⟩ := mem_enumF.mp h1
    simp only [Bool.and_eq_true, decide_eq_true_eq] at h2
    rw [h4, Int.toNat_natCast] at h2
    exact ⟨i, x.2, h3, by rw [h4], h2.1, h2.2.1, h2.2.2⟩
  · rintro ⟨i, x, h1, rfl, h2, h3, h4⟩
    exact ⟨((i : Int), x), List.mem_filter.mpr ⟨mem_enumF.mpr ⟨i, h1, rfl⟩, by simp only [Int.toNat_natCast, Bool.and_eq_true, decide_eq_true_eq]; exact ⟨h2, h3, h4⟩⟩, rfl⟩
theorem wl_ne (w : List Wish) (t : Int) (P : List Int) : (wl w t P).Pairwise fun a b => a.2 ≠ b.2 := by
  unfold wl
  rw [List.pairwise_map]
  exact ((enumF_lt w 0).filter _).imp fun h => by dsimp only; omega
theorem cn_set {P : List Int} {i : Nat} {a b u : Int} (h : P[i]? = some a) : cn (P.set i b) u + (if a = u then 1 else 0) = cn P u + if b = u then 1 else 0 := by
  obtain ⟨hi, ha⟩ := List.getElem?_eq_some_iff.mp h
  unfold cn
  rw [List.countP_set hi, ha]
  have : a = u → 0 < P.countP fun x => decide (x = u) := fun e => by
    rw [List.countP_pos_iff]
    exact ⟨a, List.mem_of_getElem? h, by simp [e]⟩
  by_cases h1 : a = u
  · have := this h1
    simp only [h1, decide_true, if_pos]
    by_cases h2 : b = u
    · simp only [h2, decide_true, if_pos]
      omega
    · simp only [h2, decide_false, if_neg Bool.false_ne_true, if_neg not_false]
      omega
  · by_cases h2 : b = u <;> simp [h1, h2]
theorem set_all {t : Int} (ht : t ≠ -1) : ∀ (L : List (Int × Int)) (P : List Int), L.Pairwise (fun a b => a.2 ≠ b.2) → (∀ x ∈ L, 0 ≤ x.2 ∧ P[x.2.toNat]? = some (-1)) →
    ∃ P', loopN (fun (x_150 : (Int × Int)) (z_140 : (List Int)) => (setR z_140 x_150.2 t).bind fun (plan_162 : (List Int)) => (Res.ok plan_162)) L P = .ok P' ∧ P'.length = P.length ∧
      (∀ i : Nat, (∃ x ∈ L, x.2.toNat = i) → P'[i]? = some t) ∧ (∀ i : Nat, (∀ x ∈ L, x.2.toNat ≠ i) → P'[i]? = P[i]?) ∧ cn P' t = cn P t + L.length ∧ ∀ u, u ≠ t → u ≠ -1 → cn P' u = cn P u
  | [], P, _, _ => ⟨P, rfl, rfl, fun i ⟨x, h, _⟩ => (nomatch h), fun i _ => rfl, rfl, fun u _ _ => rfl⟩
  | x :: xs, P, hp, hx => by
    obtain ⟨h1, h2⟩ := List.pairwise_cons.mp hp
    obtain ⟨h3, h4⟩ := hx x List.mem_cons_self
    have hi := (List.getElem?_eq_some_iff.mp h4).1
    obtain ⟨P', e, hl, ha, hb, hc, hd⟩ := set_all ht xs (P.set x.2.toNat t) h2 fun y hy => by
      obtain ⟨h5, h6⟩ := hx y (List.mem_cons_of_mem _ hy)
      refine ⟨h5, ?_⟩
      rw [List.getElem?_set, if_neg (by have := h1 y hy; omega)]
      exact h6
    have c1 := cn_set (b := t) (u := t) h4
    rw [if_neg (by omega), if_pos rfl] at c1
    refine ⟨P', ?_, by rw [hl, List.length_set], ?_, ?_, ?_, ?_⟩
    · rw [loopN_cons]
      simp only [Res.bind_ok, setR_nat h3 (by omega : x.2 < P.length)]
      exact e
    · rintro i ⟨y, hy, rfl⟩
      rcases List.mem_cons.mp hy with rfl | hy
      · by_cases hz : ∃ z ∈ xs, z.2.toNat = y.2.toNat
        · exact ha _ hz
        · rw [hb _ fun z hz2 hz3 => hz ⟨z, hz2, hz3⟩, List.getElem?_set, if_pos rfl, if_pos hi]
      · exact ha _ ⟨y, hy, rfl⟩
    · intro i h
      rw [hb i fun z hz => h z (List.mem_cons_of_mem _ hz), List.getElem?_set, if_neg (h x List.mem_cons_self)]
    · rw [hc, List.length_cons]
      omega
    · intro u h5 h6
      rw [hd u h5 h6]
      have c2 := cn_set (b := t) (u := u) h4
      rw [if_neg (by omega), if_neg (by omega)] at c2
      exact c2
theorem plan_step {w : List Wish} {d : Nat} {t : Int} {P : List Int} (h0 : 0 ≤ t) (hlen : w.length ≤ 20) (H : Edf w d t P) :
    ∃ P', loopN (fun (x_150 : (Int × Int)) (z_140 : (List Int)) => (setR z_140 x_150.2 t).bind fun (plan_162 : (List Int)) => (Res.ok plan_162)) ((isortP (wl w t P)).take d) P = .ok P' ∧ Edf w d (t + 1) P' := by
  have perm := isortP_perm (wl w t P)
  have sorted := isortP_sorted (wl w t P)
  have ne : (isortP (wl w t P)).Pairwise fun a b => a.2 ≠ b.2 := (perm.pairwise_iff (fun h => Ne.symm h)).mpr (wl_ne w t P)
  have old : ∀ y ∈ wl w t P, 0 ≤ y.2 ∧ P[y.2.toNat]? = some (-1) := fun y hy => by
    obtain ⟨i, x, h1, rfl, h2, h3, h4⟩ := mem_wl.mp hy
    refine ⟨by dsimp only; omega, ?_⟩
    have hi : i < P.length := by
      rw [H.len]
      exact (List.getElem?_eq_some_iff.mp h1).1
    rw [Int.toNat_natCast]
    have hm : P[i]? = some P[i] := by simp [hi]
    rw [List.getD_eq_getElem?_getD, hm, Option.getD_some] at h2
    rcases H.win i x _ h1 hm with h | h
    · rw [hm, h]
    · omega
  have selmem : ∀ y ∈ (isortP (wl w t P)).take d, y ∈ wl w t P := fun y hy => perm.mem_iff.mp (List.mem_of_mem_take hy)
  obtain ⟨P', e, hl, ha, hb, hc, hd⟩ := set_all (t := t) (by omega) ((isortP (wl w t P)).take d) P (ne.sublist (List.take_sublist _ _)) fun y hy => old y (selmem y hy)
  refine ⟨P', e, ?_⟩
  -- what stands in P'
  have new : ∀ (i : Nat) (m : Int), P'[i]? = some m → (m = t ∧ ∃ y ∈ (isortP (wl w t P)).take d, y.2.toNat = i) ∨ (P[i]? = some m ∧ ∀ y ∈ (isortP (wl w t P)).take d, y.2.toNat ≠ i) := fun i m hm => by
    by_cases hz : ∃ y ∈ (isortP (wl w t P)).take d, y.2.toNat = i
    · rw [ha i hz] at hm
      exact .inl ⟨(Option.some.inj hm).symm, hz⟩
    · have hn : ∀ y ∈ (isortP (wl w t P)).take d, y.2.toNat ≠ i := fun y hy hy2 => hz ⟨y, hy, hy2⟩
      rw [hb i hn] at hm
      exact .inr ⟨hm, hn⟩
  have none_t : cn P t = 0 := by
    unfold cn
    rw [List.countP_eq_zero]
    intro m hm
    obtain ⟨i, hi⟩ := List.mem_iff_getElem?.mp hm
    have hi2 : i < w.length := by
      rw [← H.len]
      exact (List.getElem?_eq_some_iff.mp hi).1
    have hx : w[i]? = some w[i] := by simp [hi2]
    have := H.win i _ m hx hi
    simp
    omega
  have wt : ∀ (i : Nat) (x : Wish), w[i]? = some x → (∃ y ∈ (isortP (wl w t P)).take d, y.2.toNat = i) → x.1 ≤ t ∧ t < x.2 ∧ (x.2, (i : Int)) ∈ (isortP (wl w t P)).take d := fun i x hx ⟨y, hy, hi⟩ => by
    obtain ⟨k, z, h1, rfl, h2, h3, h4⟩ := mem_wl.mp (selmem y hy)
    have hi : k = i := by
      rw [← hi]
      rfl
    subst hi
    rw [hx] at h1
    cases h1
    exact ⟨h3, h4, hy⟩
  constructor
  · rw [hl, H.len]
  · intro i x m hx hm
    rcases new i m hm with ⟨rfl, hz⟩ | ⟨hm2, _⟩
    · have := wt i x hx hz
      exact .inr ⟨h0, by omega, this.1, this.2.1⟩
    · rcases H.win i x m hx hm2 with h | h
      · exact .inl h
      · exact .inr ⟨h.1, by omega, h.2.2.1, h.2.2.2⟩
  · intro u hu
    by_cases hut : u = t
    · subst hut
      rw [hc, none_t, List.length_take]
      omega
    · rw [hd u hut hu]
      exact H.cap u hu
  · intro u j x m hu0 hu1 hx hm hx1 hx2 hmu
    by_cases hut : u = t
    · subst hut
      have hm1 : m = -1 := by
        rcases new j m hm with ⟨rfl, _⟩ | ⟨hm2, _⟩
        · omega
        · have := H.win j x m hx hm2
          omega
      subst hm1
      rcases new j (-1) hm with ⟨h, _⟩ | ⟨hm2, hnot⟩
      · omega
      · have hw : (x.2, (j : Int)) ∈ isortP (wl w u P) := perm.mem_iff.mpr (mem_wl.mpr ⟨j, x, hx, rfl, by rw [List.getD_eq_getElem?_getD, hm2]; decide, hx1, hx2⟩)
        rw [← List.take_append_drop d (isortP (wl w u P))] at hw sorted
        have hdrop : (x.2, (j : Int)) ∈ (isortP (wl w u P)).drop d := by
          rcases List.mem_append.mp hw with h | h
          · exact absurd rfl (hnot _ h)
          · exact h
        have hlong : d ≤ (isortP (wl w u P)).length := by
          have := List.length_pos_of_mem hdrop
          rw [List.length_drop] at this
          omega
        refine ⟨?_, fun i y hy hi => ?_⟩
        · rw [hc, none_t, List.length_take]
          omega
        · rcases new i u hi with ⟨_, hz⟩ | ⟨hi2, _⟩
          · have hs := (wt i y hy hz).2.2
            have := leP_iff.mp ((List.pairwise_append.mp sorted).2.2 _ hs _ hdrop)
            dsimp only at this
            omega
          · have := H.win i y u hy hi2
            omega
    · have hul : u < t := by omega
      have hold : ∃ m', P[j]? = some m' ∧ (m' = -1 ∨ u < m') := by
        rcases new j m hm with ⟨rfl, y, hy, hyj⟩ | ⟨hm2, _⟩
        · have := (old y (selmem y hy)).2
          rw [hyj] at this
          exact ⟨-1, this, .inl rfl⟩
        · exact ⟨m, hm2, hmu⟩
      obtain ⟨m', hm', hmu'⟩ := hold
      obtain ⟨g1, g2⟩ := H.grd u j x m' hu0 hul hx hm' hx1 hx2 hmu'
      refine ⟨by rw [hd u hut (by omega)]; exact g1, fun i y hy hi => ?_⟩
      rcases new i u hi with ⟨h, _⟩ | ⟨hi2, _⟩
      · exact absurd h hut
      · exact g2 i y hy hi2
theorem plan_is {w : List Wish} {d : Int} (hw : Val w) (hd0 : 0 ≤ d) : ∃ P, m_earliest_plan w d = .ok P ∧ Edf w d.toNat 60 P := by
  refine Is.get (Q := Edf w d.toNat 60) ?_
  unfold m_earliest_plan
  have e0 : mapR (fun (x_1 : (Int × Int)) => rNeg (1 : Int)) w = .ok (w.map fun _ => (-1 : Int)) := mapR_ok fun _ _ => rfl
  simp only [Res.bind_ok, un_ok, e0, rng1_ok (n := 60) (by decide), enumR_eq]
  have start : Edf w d.toNat 0 (w.map fun _ => (-1 : Int)) := by
    constructor
    · rw [List.length_map]
    · intro i x m hx hm
      rw [List.getElem?_map, hx] at hm
      cases hm
      exact .inl rfl
    · intro u hu
      have : cn (w.map fun _ => (-1 : Int)) u = 0 := by
        unfold cn
        rw [List.countP_eq_zero]
        intro m hm
        obtain ⟨_, _, rfl⟩ := List.mem_map.mp hm
        simp
        omega
      omega
    · intro u j x m h1 h2
      omega
  refine Is.bind (loopN_inv (fun i P => Edf w d.toNat (i : Int) P) start fun i t P ht HP => ?_) fun P hP => ?_
  · have ht2 := rangeL_get ht
    have ht3 : t = (i : Int) := by omega
    subst ht3
    have len := HP.len
    rw [loopN_app (q := fun x => decide (P.getD x.1.toNat 0 < 0) && (decide (x.2.1 ≤ (i : Int)) && decide ((i : Int) < x.2.2))) (g := fun x => (x.2.2, x.1)) (fun x a hx ha => ?_) (by rw [enumF_length]; have := hw.1; simp; omega)]
    · simp only [Res.bind_ok, List.nil_append, sortP_eq, someR_ok, slR_ok, cut_lo hd0]
      obtain ⟨P', e, h⟩ := plan_step (w := w) (d := d.toNat) (t := (i : Int)) (P := P) (by omega) hw.1 HP
      have e : loopN _ ((isortP (wl w (i : Int) P)).take d.toNat) P = .ok P' := e
      unfold wl at e
      rw [e]
      exact h
    · obtain ⟨k, hk1, hk2⟩ := mem_enumF.mp hx
      have hk3 := (List.getElem?_eq_some_iff.mp hk1).1
      have hix := ix_getD (xs := P) (i := x.1) (d := (0 : Int)) (by omega) (by omega)
      simp only [bin_ok, un_ok, hix, rLt_eq, rLe_eq, andR_ok, ifR_ok, pair_ok, Res.bind_ok, push_ok ha]
      split <;> rfl
  · rw [rangeL_length] at hP
    exact hP

/-! who can be called -/
theorem cnt_nonneg (w : List Wish) (s e : Int) : 0 ≤ cnt w s e := by
  unfold cnt
  omega
abbrev Free (w : List Wish) (d : Int) : Prop := ∀ s e : Int, 0 ≤ s → s < e → e ≤ 60 → cnt w s e ≤ d * (e - s)
def lcan (w : List Wish) (d : Int) : Bool := !(w.any fun x => w.any fun y => decide (x.1 < y.2) && decide (d * (y.2 - x.1) < cnt w x.1 y.2))
theorem law_can_eq {w : List Wish} {d : Int} (hd : Small d) : m__law_can w d = .ok (lcan w d) := by
  unfold m__law_can lcan
  simp only [Res.bind_ok]
  rw [loopR_any (r := false) (p := fun x => w.any fun y => decide (x.1 < y.2) && decide (d * (y.2 - x.1) < cnt w x.1 y.2)) (fun x _ => ?_)]
  · cases w.any fun x => w.any fun y => decide (x.1 < y.2) && decide (d * (y.2 - x.1) < cnt w x.1 y.2) <;> rfl
  · rw [loopR_any (r := false) (p := fun y => decide (x.1 < y.2) && decide (d * (y.2 - x.1) < cnt w x.1 y.2)) (fun y _ => ?_)]
    · cases w.any fun y => decide (x.1 < y.2) && decide (d * (y.2 - x.1) < cnt w x.1 y.2) <;> rfl
    · simp only [un_ok, bin_ok, pair_ok, rLt_eq, linside_eq, rSub_eq, rMul_ok (.inl hd), rGt_eq, andR_ok, ifR_ok, Res.bind_ok]
      split <;> rfl
/-- the least of a row by f -/
theorem least {α : Type} (f : α → Int) : ∀ {l : List α}, l ≠ [] → ∃ x, x ∈ l ∧ ∀ y, y ∈ l → f x ≤ f y
  | [], h => absurd rfl h
  | [x], _ => ⟨x, List.mem_singleton.mpr rfl, fun y hy => by rw [List.mem_singleton.mp hy]; exact Int.le_refl _⟩
  | x :: z :: l, _ => by
    obtain ⟨y, hy, h⟩ := least f (l := z :: l) (List.cons_ne_nil _ _)
    by_cases q : f x ≤ f y
    · exact ⟨x, List.mem_cons_self, fun u hu => by
        rcases List.mem_cons.mp hu with rfl | hu
        · exact Int.le_refl _
        · exact Int.le_trans q (h u hu)⟩
    · exact ⟨y, List.mem_cons_of_mem _ hy, fun u hu => by
        rcases List.mem_cons.mp hu with rfl | hu
        · omega
        · exact h u hu⟩
theorem cnt_mono {w : List Wish} {s e s2 e2 : Int} (h : ∀ x, x ∈ w → s ≤ x.1 → x.2 ≤ e → s2 ≤ x.1 ∧ x.2 ≤ e2) : cnt w s e ≤ cnt w s2 e2 := by
  unfold cnt
  rw [← List.countP_eq_length_filter, ← List.countP_eq_length_filter]
  have := List.countP_mono_left (l := w) (p := fun x : Wish => decide (s ≤ x.1) && decide (x.2 ≤ e)) (q := fun x => decide (s2 ≤ x.1) && decide (x.2 ≤ e2)) fun x hx hp => by
    simp only [Bool.and_eq_true, decide_eq_true_eq] at hp ⊢
    exact h x hx hp.1 hp.2
  omega
theorem lcan_iff {w : List Wish} {d : Int} (hw : ∀ x ∈ w, VW x) (hd : 0 ≤ d) : lcan w d = true ↔ Free w d := by
  unfold lcan
  rw [Bool.not_eq_true', Bool.eq_false_iff]
  constructor
  · intro h s e h0 h1 h2
    by_cases hc : cnt w s e ≤ d * (e - s)
    · exact hc
    · exfalso
      have hpos : 0 ≤ d * (e - s) := Int.mul_nonneg hd (by omega)
      have hne : w.filter (fun x => decide (s ≤ x.1) && decide (x.2 ≤ e)) ≠ [] := fun z => by
        unfold cnt at hc
        rw [z] at hc
        simp at hc
        omega
      obtain ⟨x, hx, hx2⟩ := least (fun x : Wish => x.1) hne
      obtain ⟨y, hy, hy2⟩ := least (fun x : Wish => -x.2) hne
      have mx := List.mem_filter.mp hx
      have my := List.mem_filter.mp hy
      simp only [Bool.and_eq_true, decide_eq_true_eq] at mx my
      have hle := cnt_mono (w := w) (s := s) (e := e) (s2 := x.1) (e2 := y.2) fun z hz h3 h4 => by
        have hz2 : z ∈ w.filter (fun x => decide (s ≤ x.1) && decide (x.2 ≤ e)) := List.mem_filter.mpr ⟨hz, by simp [h3, h4]⟩
        have a := hx2 z hz2
        have b := hy2 z hz2
        exact ⟨a, by omega⟩
      have vx := hw x mx.1
      have hxy := hy2 x hx
      have hlt : x.1 < y.2 := by have := vx.2.1; omega
      have hm : d * (y.2 - x.1) ≤ d * (e - s) := Int.mul_le_mul_of_nonneg_left (by omega) hd
      refine h ?_
      rw [List.any_eq_true]
      refine ⟨x, mx.1, ?_⟩
      rw [List.any_eq_true]
      exact ⟨y, my.1, by simp only [Bool.and_eq_true, decide_eq_true_eq]; exact ⟨hlt, by omega⟩⟩
  · intro h z
    obtain ⟨x, hx, z⟩ := List.any_eq_true.mp z
    obtain ⟨y, hy, z⟩ := List.any_eq_true.mp z
    simp only [Bool.and_eq_true, decide_eq_true_eq] at z
    have := h x.1 y.2 (hw x hx).1 z.1 (hw y hy).2.2
    omega
theorem can_call_eq {w : List Wish} {d : Int} (hw : Val w) (h0 : 0 ≤ d) : m_can_call w d = .ok (lcan w d) := by
  obtain ⟨P, e, H⟩ := plan_is (d := d) hw h0
  have dn : ((d.toNat : Nat) : Int) = d := by omega
  unfold m_can_call
  simp only [un_ok, pair_ok, e, rNeg_eq, bin_ok, ninR_eq, Res.bind_ok]
  congr 1
  have key : -1 ∉ P ↔ lcan w d = true := by
    rw [lcan_iff hw.2 h0]
    constructor
    · intro hn s e h1 h2 h3
      by_cases hc : cnt w s e ≤ d * (e - s)
      · exact hc
      · exact absurd (edf_crowd H h1 h2 (by rw [dn]; omega)) hn
    · intro hf
      exact edf_all H hw.2 fun s e h1 h2 h3 => by
        rw [dn]
        exact hf s e h1 h2 h3
  by_cases hm : -1 ∈ P
  · have : ¬ lcan w d = true := fun z => key.mpr z hm
    rw [Bool.not_eq_true] at this
    simp [hm, this]
  · simp [hm, key.mp hm]

/-! the greedy choice -/
def at_ (w : List Wish) (k : Int) : Wish := w.getD k.toNat (0, 0)
def sub (w : List Wish) (S : List Int) : List Wish := S.map (at_ w)
abbrev Ix (w : List Wish) (S : List Int) : Prop := ∀ k, k ∈ S → 0 ≤ k ∧ k < (w.length : Int)
theorem at_ok {w : List Wish} {k : Int} (h : 0 ≤ k ∧ k < (w.length : Int)) : ix w k = .ok (at_ w k) := ix_getD h.1 h.2
theorem at_mem {w : List Wish} {k : Int} (h : 0 ≤ k ∧ k < (w.length : Int)) : at_ w k ∈ w := by
  unfold at_
  have hk : k.toNat < w.length := by omega
  rw [List.getD_eq_getElem?_getD, List.getElem?_eq_getElem hk]
  exact List.getElem_mem hk
theorem sub_eq {w : List Wish} {S : List Int} (h : Ix w S) : mapR (fun x => bin ix (.ok w) (.ok x)) S = .ok (sub w S) := mapR_ok fun k hk => at_ok (h k hk)
theorem sub_eq' {w : List Wish} {S : List Int} (h : Ix w S) : mapR (fun x => ix w x) S = .ok (sub w S) := mapR_ok fun k hk => at_ok (h k hk)
theorem sub_val {w : List Wish} {S : List Int} (hw : Val w) (h : Ix w S) (hl : S.length ≤ 20) : Val (sub w S) := by
  refine ⟨by unfold sub; rw [List.length_map]; exact hl, fun x hx => ?_⟩
  obtain ⟨k, hk, rfl⟩ := List.mem_map.mp hx
  exact hw.2 _ (at_mem (h k hk))
def grd (w : List Wish) (d : Int) : List (Int × Int) → Int → List Int → List Int
  | [], _, z => z
  | x :: xs, last, z => if x.2 = last then z else if lcan (sub w (z ++ [x.2])) d = true then grd w d xs last (z ++ [x.2]) else grd w d xs last z
theorem loop_br {w : List Wish} {d last : Int} {f : Int × Int → List Int → Res (Out (List Int) (List Int))} : ∀ {xs : List (Int × Int)} {z : List Int}, Ix w (xs.map (·.2)) → Ix w z → z.length + xs.length ≤ 20 →
    (∀ x z, 0 ≤ x.2 ∧ x.2 < (w.length : Int) → Ix w z → z.length < 20 → f x z = .ok (if x.2 = last then .br z else if lcan (sub w (z ++ [x.2])) d = true then .nx (z ++ [x.2]) else .nx z)) → loopR f xs z = .ok (.nx (grd w d xs last z))
  | [], z, _, _, _, _ => rfl
  | x :: xs, z, hx, hz, hl, hf => by
    have h1 : 0 ≤ x.2 ∧ x.2 < (w.length : Int) := hx x.2 (by simp)
    have h2 : Ix w (xs.map (·.2)) := fun k hk => hx k (by rw [List.map_cons]; exact List.mem_cons_of_mem _ hk)
    rw [List.length_cons] at hl
    rw [loopR_cons, hf x z h1 hz (by omega), grd]
    by_cases q : x.2 = last
    · rw [if_pos q, if_pos q]
      rfl
    · rw [if_neg q, if_neg q]
      by_cases r : lcan (sub w (z ++ [x.2])) d = true
      · rw [if_pos r, if_pos r]
        exact loop_br h2 (fun k hk => by
          rcases List.mem_append.mp hk with hk | hk
          · exact hz k hk
          · rw [List.mem_singleton.mp hk]; exact h1) (by rw [List.length_append, List.length_singleton]; omega) hf
      · rw [if_neg r, if_neg r]
        exact loop_br h2 hz (by omega) hf
theorem loop_rt {w : List Wish} {d last : Int} {f : Int × Int → List Int → Res (Out (List Int) (List Int))} : ∀ {xs : List (Int × Int)} {z : List Int}, Ix w (xs.map (·.2)) → Ix w z → z.length + xs.length ≤ 20 →
    (∀ x z, 0 ≤ x.2 ∧ x.2 < (w.length : Int) → Ix w z → z.length < 20 → f x z = .ok (if x.2 = last then .rt z else if lcan (sub w (z ++ [x.2])) d = true then .nx (z ++ [x.2]) else .nx z)) → ∃ o, loopR f xs z = .ok o ∧ (o = .nx (grd w d xs last z) ∨ o = .rt (grd w d xs last z))
  | [], z, _, _, _, _ => ⟨_, rfl, .inl rfl⟩
  | x :: xs, z, hx, hz, hl, hf => by
    have h1 : 0 ≤ x.2 ∧ x.2 < (w.length : Int) := hx x.2 (by simp)
    have h2 : Ix w (xs.map (·.2)) := fun k hk => hx k (by rw [List.map_cons]; exact List.mem_cons_of_mem _ hk)
    rw [List.length_cons] at hl
    rw [loopR_cons, hf x z h1 hz (by omega), grd]
    by_cases q : x.2 = last
    · rw [if_pos q, if_pos q]
      exact ⟨_, rfl, .inr rfl⟩
    · rw [if_neg q, if_neg q]
      by_cases r : lcan (sub w (z ++ [x.2])) d = true
      · rw [if_pos r, if_pos r]
        exact loop_rt h2 (fun k hk => by
          rcases List.mem_append.mp hk with hk | hk
          · exact hz k hk
          · rw [List.mem_singleton.mp hk]; exact h1) (by rw [List.length_append, List.length_singleton]; omega) hf
      · rw [if_neg r, if_neg r]
        exact loop_rt h2 hz (by omega) hf
/-- the order in which they are looked at -/
def prs (v : List Int) : List (Int × Int) := (enumF 0 v).map fun x => (-x.2, x.1)
def ord (v : List Int) : List (Int × Int) := isortP (prs v)
theorem mem_prs {v : List Int} {y : Int × Int} : y ∈ prs v ↔ ∃ i : Nat, ∃ c : Int, v[i]? = some c ∧ y = (-c, (i : Int)) := by
  unfold prs
  rw [List.mem_map]
  constructor
  · rintro ⟨x, hx, rfl⟩
    obtain ⟨i, h1, h2⟩ := mem_enumF.mp hx
    exact ⟨i, x.2, h1, by rw [h2]⟩
  · rintro ⟨i, c, h, rfl⟩
    exact ⟨((i : Int), c), mem_enumF.mpr ⟨i, h, rfl⟩, rfl⟩
theorem ord_ix {w : List Wish} {v : List Int} (h : v.length = w.length) : Ix w ((ord v).map (·.2)) := fun k hk => by
  obtain ⟨y, hy, rfl⟩ := List.mem_map.mp hk
  obtain ⟨i, c, h1, rfl⟩ := mem_prs.mp ((isortP_perm _).mem_iff.mp hy)
  have := (List.getElem?_eq_some_iff.mp h1).1
  exact ⟨by dsimp only; omega, by dsimp only; omega⟩
theorem ord_len (v : List Int) : (ord v).length = v.length := by
  unfold ord
  rw [(isortP_perm _).length_eq, prs, List.length_map, enumF_length]
theorem chosen_eq {w : List Wish} {d : Int} {v : List Int} (hw : Val w) (h0 : 0 ≤ d) (hv : v.length = w.length) (last : Int) : m_chosen_until w d v last = .ok (grd w d (ord v) last []) := by
  unfold m_chosen_until
  have e0 : mapR (fun (x_16 : (Int × Int)) => (Res.ok (-x_16.2, x_16.1))) (enumF 0 v) = .ok (prs v) := mapR_ok fun _ _ => rfl
  simp only [Res.bind_ok, un_ok, enumR_eq, rNeg_eq, pair_ok, e0, sortP_eq]
  have hl := hw.1
  rw [show isortP (prs v) = ord v from rfl, loop_br (w := w) (d := d) (last := last) (z := []) (ord_ix hv) (fun k hk => absurd hk List.not_mem_nil) (by rw [ord_len]; simp; omega) (fun x z hx hz hzl => ?_)]
  · rfl
  · have hzx : Ix w (z ++ [x.2]) := fun k hk => by
      rcases List.mem_append.mp hk with hk | hk
      · exact hz k hk
      · rw [List.mem_singleton.mp hk]; exact hx
    have hln : (z ++ [x.2]).length ≤ 20 := by rw [List.length_append, List.length_singleton]; omega
    simp only [un_ok, bin_ok, eqR_eq, consR_ok, rCatR_ok (xs := z) (ys := [x.2]) (by simp; omega), Res.bind_ok, sub_eq' hzx, pair_ok, can_call_eq (sub_val hw hzx hln) h0, ifR_ok, push_ok (xs := z) (x := x.2) (by omega), decide_eq_true_eq]
    split
    · rfl
    · split <;> rfl
theorem law_chosen_eq {w : List Wish} {d : Int} {v : List Int} (hw : Val w) (h0 : 0 ≤ d) (hd : Small d) (hv : v.length = w.length) (last : Int) : m__law_chosen w d v last = .ok (grd w d (ord v) last []) := by
  unfold m__law_chosen
  have hl := hw.1
  have e0 : mapR (fun (x_16 : Int) => (pair (un rNeg (ix v x_16)) (Res.ok x_16))) (rangeL 0 (w.length : Int)) = .ok ((rangeL 0 (w.length : Int)).map fun k => (-(v.getD k.toNat 0), k)) := mapR_ok fun k hk => by
    have hk := mem_rangeL.mp hk
    rw [ix_getD (d := (0 : Int)) hk.1 (by omega)]
    rfl
  have e1 : ((rangeL 0 (w.length : Int)).map fun k => (-(v.getD k.toNat 0), k)) = prs v := by
    unfold prs
    apply List.ext_getElem?
    intro i
    rw [List.getElem?_map, List.getElem?_map, enumF_get]
    unfold rangeL
    rw [List.getElem?_map]
    by_cases hi : i < w.length
    · rw [List.getElem?_range (by omega)]
      have hv2 : v[i]? = some v[i] := by simp [show i < v.length by omega]
      rw [hv2]
      simp only [Option.map_some, Int.zero_add, Int.toNat_natCast, List.getD_eq_getElem?_getD, hv2, Option.getD_some]
    · rw [List.getElem?_eq_none (by rw [List.length_range]; omega), List.getElem?_eq_none (show v.length ≤ i by omega)]
      rfl
  simp only [Res.bind_ok, un_ok, rLen_eq, rng1_ok (n := (w.length : Int)) (by omega), bin_ok, e0, e1, sortP_eq]
  obtain ⟨o, eo, ho⟩ := loop_rt (w := w) (d := d) (last := last) (xs := ord v) (z := []) (f := fun (x_33 : (Int × Int)) (z_23 : (List Int)) => ifR (eqR x_33.2 last) (Res.ok (Out.rt z_23)) (ifR (un (fun (p : ((List (Int × Int)) × Int)) => m__law_can p.1 p.2) (pair ((rCatR z_23 [x_33.2]).bind (mapR (fun (x_69 : Int) => (ix w x_69)))) (Res.ok d))) ((push z_23 x_33.2).bind fun (chosen_84 : (List Int)) => (Res.ok (Out.nx chosen_84))) (Res.ok (Out.nx z_23)))) (ord_ix hv) (fun k hk => (nomatch hk)) (by rw [ord_len]; simp; omega) (fun x z hx hz hzl => by
    have hzx : Ix w (z ++ [x.2]) := fun k hk => by
      rcases List.mem_append.mp hk with hk | hk
      · exact hz k hk
      · rw [List.mem_singleton.mp hk]; exact hx
    simp only [un_ok, eqR_eq, rCatR_ok (xs := z) (ys := [x.2]) (by simp; omega), Res.bind_ok, sub_eq' hzx, pair_ok, law_can_eq hd, ifR_ok, push_ok (xs := z) (x := x.2) (by omega), decide_eq_true_eq]
    split
    · rfl
    · split <;> rfl)
  simp only [consR_ok, bin_ok, eqR_eq]
  have eo2 : loopR _ (isortP (prs v)) [] = .ok o := eo
  simp only [eqR_eq] at eo2
  rw [eo2]
  rcases ho with rfl | rfl <;> rfl

/-! no free set is larger than a full one -/
theorem nodup_sub {α : Type} [DecidableEq α] : ∀ {xs ys : List α}, xs.Nodup → (∀ x, x ∈ xs → x ∈ ys) → xs.length ≤ ys.length
  | [], _, _, _ => Nat.zero_le _
  | x :: xs, ys, hn, h => by
    obtain ⟨h1, h2⟩ := List.nodup_cons.mp hn
    have hx := h x List.mem_cons_self
    have := nodup_sub (xs := xs) (ys := ys.erase x) h2 fun y hy => (List.mem_erase_of_ne (fun z : y = x => h1 (by rw [← z]; exact hy))).mpr (h y (List.mem_cons_of_mem _ hy))
    rw [List.length_erase_of_mem hx] at this
    have hp := List.length_pos_of_mem hx
    rw [List.length_cons]
    omega
theorem inR_cap_lt (P : List Int) (d : Nat) (s t0 : Int) : ∀ n : Nat, (∀ t, s ≤ t → t < s + n → cn P t ≤ d) → s ≤ t0 → t0 < s + n → cn P t0 < d → inR P s (s + n) < d * n
  | 0, _, h1, h2, _ => by omega
  | n + 1, h, h1, h2, h3 => by
    rw [show s + ((n + 1 : Nat) : Int) = s + n + 1 by omega, inR_succ P (by omega), Nat.mul_succ]
    by_cases q : t0 = s + n
    · have a := inR_cap P d s n (fun t h4 h5 => h t h4 (by omega))
      have b : cn P (s + n) < d := by
        rw [← q]
        exact h3
      omega
    · have a := inR_cap_lt P d s t0 n (fun t h4 h5 => h t h4 (by omega)) h1 (by omega) h3
      have b := h (s + n) (by omega) (by omega)
      omega
theorem tight_full {X : List Wish} {d : Nat} {P : List Int} (H : Edf X d 60 P) (hn : -1 ∉ P) {s e : Int} (h1 : s < e) (h0 : 0 ≤ s) (ht : (d : Int) * (e - s) ≤ cnt X s e) :
    (∀ t, s ≤ t → t < e → cn P t = d) ∧ ∀ z ∈ X.zip P, s ≤ z.2 → z.2 < e → s ≤ z.1.1 ∧ z.1.2 ≤ e := by
  have imp : ∀ z, z ∈ X.zip P → (decide (s ≤ z.1.1) && decide (z.1.2 ≤ e)) = true → (decide (s ≤ z.2) && decide (z.2 < e)) = true := fun z hz hq => by
    obtain ⟨i, hi⟩ := List.mem_iff_getElem?.mp hz
    obtain ⟨h2, h3⟩ := List.getElem?_zip_eq_some.mp hi
    simp only [Bool.and_eq_true, decide_eq_true_eq] at hq ⊢
    rcases H.win i z.1 z.2 h2 h3 with h | h
    · exact absurd (h ▸ List.mem_of_getElem? h3) hn
    · omega
  have le := List.countP_mono_left imp
  rw [← inR_zip H.len] at le
  have e2 := cnt_zip H.len s e
  have cap : ∀ t, s ≤ t → t < s + ((e - s).toNat : Int) → cn P t ≤ d := fun t h2 h3 => H.cap t (by omega)
  have hf := inR_cap P d s (e - s).toNat cap
  have e1 : (d : Int) * (e - s) = ((d * (e - s).toNat : Nat) : Int) := by
    rw [Int.natCast_mul]
    congr 1
    omega
  have es : s + ((e - s).toNat : Int) = e := by omega
  rw [e1] at ht
  constructor
  · intro t h2 h3
    by_cases hlt : cn P t < d
    · have := inR_cap_lt P d s t (e - s).toNat cap h2 (by omega) hlt
      rw [es] at this
      omega
    · have := H.cap t (by omega)
      omega
  · intro z hz h2 h3
    by_cases hi : (decide (s ≤ z.1.1) && decide (z.1.2 ≤ e)) = true
    · simp only [Bool.and_eq_true, decide_eq_true_eq] at hi
      exact hi
    · have := countP_lt (l := X.zip P) (p := fun z => decide (s ≤ z.2) && decide (z.2 < e)) (q := fun z => decide (s ≤ z.1.1) && decide (z.1.2 ≤ e)) hz (by simp [h2, h3]) (Bool.eq_false_iff.mpr hi) imp
      rw [← inR_zip H.len] at this
      rw [es] at hf
      omega
theorem layer (T : Int → Bool) (P : List Int) : ∀ n : Nat, (∀ m ∈ P, 0 ≤ m) → P.countP (fun m : Int => decide (m < ((n + 1 : Nat) : Int)) && T m) = P.countP (fun m : Int => decide (m < (n : Int)) && T m) + (if T n = true then cn P n else 0) := by
  intro n hP
  unfold cn
  induction P with
  | nil => simp
  | cons x xs ih =>
    rw [List.countP_cons, List.countP_cons, List.countP_cons, ih fun m hm => hP m (List.mem_cons_of_mem _ hm)]
    by_cases h1 : x = (n : Int)
    · subst h1
      have e1 : decide ((n : Int) < ((n + 1 : Nat) : Int)) = true := decide_eq_true (by omega)
      have e2 : decide ((n : Int) < (n : Int)) = false := decide_eq_false (by omega)
      have e3 : decide ((n : Int) = (n : Int)) = true := decide_eq_true rfl
      rw [e1, e2, e3]
      cases hT : T (n : Int) with
      | true =>
        simp only [Bool.and_true, Bool.false_eq_true, ↓reduceIte]
        omega
      | false => simp only [Bool.and_false, Bool.false_eq_true, ↓reduceIte]
    · have e1 : decide (x < ((n + 1 : Nat) : Int)) = decide (x < (n : Int)) := decide_eq_decide.mpr (by omega)
      have e3 : decide (x = (n : Int)) = false := decide_eq_false h1
      rw [e1, e3, if_neg (show ¬ (false = true) by decide), Nat.add_zero, Nat.add_right_comm]
theorem layers {T : Int → Bool} {P Q : List Int} (hP : ∀ m ∈ P, 0 ≤ m) (hQ : ∀ m ∈ Q, 0 ≤ m) : ∀ n : Nat, (∀ t : Nat, t < n → T t = true → cn P t ≤ cn Q t) → P.countP (fun m : Int => decide (m < (n : Int)) && T m) ≤ Q.countP (fun m : Int => decide (m < (n : Int)) && T m)
  | 0, _ => by
    have : P.countP (fun m : Int => decide (m < ((0 : Nat) : Int)) && T m) = 0 := by
      rw [List.countP_eq_zero]
      intro m hm
      have := hP m hm
      simp
      omega
    rw [this]
    exact Nat.zero_le _
  | n + 1, h => by
    rw [layer T P n hP, layer T Q n hQ]
    have := layers hP hQ n fun t ht => h t (by omega)
    by_cases q : T n = true
    · rw [if_pos q, if_pos q]
      have := h n (by omega) q
      omega
    · rw [if_neg q, if_neg q]
      omega
abbrev Tight (X : List Wish) (d : Int) (s e : Int) : Prop := 0 ≤ s ∧ s < e ∧ e ≤ 60 ∧ d * (e - s) ≤ cnt X s e
open Classical in
theorem max_size {w : List Wish} {d : Int} {G O : List Int} (hw : Val w) (h0 : 0 ≤ d) (iG : Ix w G) (iO : Ix w O) (lG : G.length ≤ 20) (lO : O.length ≤ 20) (fG : Free (sub w G) d) (fO : Free (sub w O) d) (nO : O.Nodup)
    (rej : ∀ j ∈ O, j ∈ G ∨ ∃ s e, Tight (sub w G) d s e ∧ s ≤ (at_ w j).1 ∧ (at_ w j).2 ≤ e) : O.length ≤ G.length := by
  have vG := sub_val hw iG lG
  have vO := sub_val hw iO lO
  have dn : ((d.toNat : Nat) : Int) = d := by omega
  obtain ⟨PG, _, HG⟩ := plan_is (d := d) vG h0
  obtain ⟨PO, _, HO⟩ := plan_is (d := d) vO h0
  have nG1 : -1 ∉ PG := edf_all HG vG.2 fun s e a b c => by rw [dn]; exact fG s e a b c
  have nO1 : -1 ∉ PO := edf_all HO vO.2 fun s e a b c => by rw [dn]; exact fO s e a b c
  let In : Wish → Bool := fun x => decide (∃ s e, Tight (sub w G) d s e ∧ s ≤ x.1 ∧ x.2 ≤ e)
  let T : Int → Bool := fun t => decide (∃ s e, Tight (sub w G) d s e ∧ s ≤ t ∧ t < e)
  have win : ∀ {X : List Wish} {P : List Int}, Edf X d.toNat 60 P → -1 ∉ P → ∀ z ∈ X.zip P, 0 ≤ z.2 ∧ z.2 < 60 ∧ z.1.1 ≤ z.2 ∧ z.2 < z.1.2 := fun H hn z hz => by
    obtain ⟨i, hi⟩ := List.mem_iff_getElem?.mp hz
    obtain ⟨h2, h3⟩ := List.getElem?_zip_eq_some.mp hi
    rcases H.win i z.1 z.2 h2 h3 with h | h
    · exact absurd (h ▸ List.mem_of_getElem? h3) hn
    · exact h
  have snd : ∀ {X : List Wish} {P : List Int}, P.length = X.length → ∀ p : Int → Bool, P.countP p = (X.zip P).countP fun z => p z.2 := fun {X P} h p => by
    have e1 : P = (X.zip P).map Prod.snd := (List.map_snd_zip (by omega)).symm
    conv => lhs; rw [e1]
    rw [List.countP_map]
    rfl
  have fst : ∀ {X : List Wish} {P : List Int}, P.length = X.length → ∀ p : Wish → Bool, X.countP p = (X.zip P).countP fun z => p z.1 := fun {X P} h p => by
    have e1 : X = (X.zip P).map Prod.fst := (List.map_fst_zip (by omega)).symm
    conv => lhs; rw [e1]
    rw [List.countP_map]
    rfl
  have pos : ∀ {X : List Wish} {P : List Int}, Edf X d.toNat 60 P → -1 ∉ P → ∀ m ∈ P, 0 ≤ m ∧ m < 60 := fun {X P} H hn m hm => by
    have e1 : P = (X.zip P).map Prod.snd := (List.map_snd_zip (by rw [H.len]; exact Nat.le_refl _)).symm
    rw [e1] at hm
    obtain ⟨z, hz, rfl⟩ := List.mem_map.mp hm
    have := win H hn z hz
    exact ⟨this.1, this.2.1⟩
  -- who lies within: by minutes
  have a1 : (sub w O).countP In ≤ PO.countP T := by
    rw [fst HO.len, snd HO.len]
    refine List.countP_mono_left fun z hz h => ?_
    obtain ⟨s, e, h1, h2, h3⟩ := of_decide_eq_true h
    have := win HO nO1 z hz
    exact decide_eq_true ⟨s, e, h1, by omega, by omega⟩
  have a2 : PG.countP T ≤ (sub w G).countP In := by
    rw [fst HG.len, snd HG.len]
    refine List.countP_mono_left fun z hz h => ?_
    obtain ⟨s, e, h1, h2, h3⟩ := of_decide_eq_true h
    obtain ⟨_, g⟩ := tight_full HG nG1 h1.2.1 h1.1 (by rw [dn]; exact h1.2.2.2)
    have := g z hz h2 h3
    exact decide_eq_true ⟨s, e, h1, this.1, this.2⟩
  have a3 : PO.countP T ≤ PG.countP T := by
    have l := layers (T := T) (P := PO) (Q := PG) (fun m hm => (pos HO nO1 m hm).1) (fun m hm => (pos HG nG1 m hm).1) 60 fun t ht hT => by
      obtain ⟨s, e, h1, h2, h3⟩ := of_decide_eq_true hT
      have g := (tight_full HG nG1 h1.2.1 h1.1 (by rw [dn]; exact h1.2.2.2)).1 t h2 h3
      have := HO.cap (t : Int) (by omega)
      omega
    have e1 : ∀ {P : List Int}, (∀ m ∈ P, 0 ≤ m ∧ m < 60) → P.countP (fun m => decide (m < ((60 : Nat) : Int)) && T m) = P.countP T := fun {P} h => by
      refine List.countP_congr fun m hm => ?_
      have := (h m hm).2
      have e2 : decide (m < ((60 : Nat) : Int)) = true := decide_eq_true (by omega)
      rw [e2, Bool.true_and]
    rw [e1 (pos HO nO1), e1 (pos HG nG1)] at l
    exact l
  have b1 : (O.filter fun k => !In (at_ w k)).length ≤ (G.filter fun k => !In (at_ w k)).length := by
    refine nodup_sub (nO.filter _) fun k hk => ?_
    obtain ⟨h1, h2⟩ := List.mem_filter.mp hk
    refine List.mem_filter.mpr ⟨?_, h2⟩
    rcases rej k h1 with h | h
    · exact h
    · have : In (at_ w k) = true := decide_eq_true h
      rw [this] at h2
      cases h2
  have split : ∀ S : List Int, S.length = (sub w S).countP In + (S.filter fun k => !In (at_ w k)).length := fun S => by
    unfold sub
    rw [List.countP_map, ← List.countP_eq_length_filter]
    have := List.length_eq_countP_add_countP (fun k => In (at_ w k)) (l := S)
    rw [this]
    congr 1
    refine List.countP_congr fun k _ => ?_
    simp
  rw [split O, split G]
  omega

/-! the greedy choice is best -/
theorem cnt_app (a b : List Wish) (s e : Int) : cnt (a ++ b) s e = cnt a s e + cnt b s e := by
  unfold cnt
  rw [List.filter_append, List.length_append]
  omega
theorem sub_app (w : List Wish) (a b : List Int) : sub w (a ++ b) = sub w a ++ sub w b := by
  unfold sub
  rw [List.map_append]
theorem cnt_one (x : Wish) (s e : Int) : cnt [x] s e = if s ≤ x.1 ∧ x.2 ≤ e then 1 else 0 := by
  unfold cnt
  by_cases h : s ≤ x.1 ∧ x.2 ≤ e
  · rw [if_pos h]
    simp [h.1, h.2]
  · rw [if_neg h, List.filter_cons, if_neg (by simp only [Bool.and_eq_true, decide_eq_true_eq]; exact h)]
    rfl
theorem ix_app {w : List Wish} {a b : List Int} (ha : Ix w a) (hb : Ix w b) : Ix w (a ++ b) := fun k hk => by
  rcases List.mem_append.mp hk with h | h
  · exact ha k h
  · exact hb k h
theorem vw_sub {w : List Wish} {S : List Int} (hw : Val w) (h : Ix w S) : ∀ x ∈ sub w S, VW x := fun x hx => by
  obtain ⟨k, hk, rfl⟩ := List.mem_map.mp hx
  exact hw.2 _ (at_mem (h k hk))
theorem free_part {w : List Wish} {d : Int} {a b : List Int} (h : Free (sub w (a ++ b)) d) : Free (sub w a) d := fun s e h0 h1 h2 => by
  have := h s e h0 h1 h2
  rw [sub_app, cnt_app] at this
  have := cnt_nonneg (sub w b) s e
  omega
/-- who is turned away lies within a full stretch -/
theorem away {w : List Wish} {d : Int} {z : List Int} {k : Int} (hw : Val w) (hd : 0 ≤ d) (hz : Ix w z) (hk : 0 ≤ k ∧ k < (w.length : Int)) (hf : Free (sub w z) d) (hn : ¬ lcan (sub w (z ++ [k])) d = true) : ∃ s e, Tight (sub w z) d s e ∧ s ≤ (at_ w k).1 ∧ (at_ w k).2 ≤ e := by
  have iz : Ix w (z ++ [k]) := ix_app hz fun j hj => by rw [List.mem_singleton.mp hj]; exact hk
  rw [lcan_iff (vw_sub hw iz) hd] at hn
  have : ∃ s e : Int, 0 ≤ s ∧ s < e ∧ e ≤ 60 ∧ ¬ cnt (sub w (z ++ [k])) s e ≤ d * (e - s) := by
    refine Classical.byContradiction fun h => hn fun s e h0 h1 h2 => ?_
    exact Classical.byContradiction fun h3 => h ⟨s, e, h0, h1, h2, h3⟩
  obtain ⟨s, e, h0, h1, h2, h3⟩ := this
  have hz2 := hf s e h0 h1 h2
  rw [sub_app, cnt_app] at h3
  have : sub w [k] = [at_ w k] := rfl
  rw [this, cnt_one] at h3
  by_cases q : s ≤ (at_ w k).1 ∧ (at_ w k).2 ≤ e
  · rw [if_pos q] at h3
    exact ⟨s, e, ⟨h0, h1, h2, by omega⟩, q.1, q.2⟩
  · rw [if_neg q] at h3
    omega
structure Gr (w : List Wish) (d : Int) (L : List (Int × Int)) (z G : List Int) : Prop where
  ext : ∃ t, G = z ++ t ∧ t.Sublist (L.map (·.2))
  free : Free (sub w G) d
  rej : ∀ x ∈ L, x.2 ∈ G ∨ ∃ s e, Tight (sub w G) d s e ∧ s ≤ (at_ w x.2).1 ∧ (at_ w x.2).2 ≤ e
theorem tight_app {w : List Wish} {d s e : Int} {a b : List Int} (h : Tight (sub w a) d s e) : Tight (sub w (a ++ b)) d s e := ⟨h.1, h.2.1, h.2.2.1, by
  rw [sub_app, cnt_app]
  have := h.2.2.2
  have := cnt_nonneg (sub w b) s e
  omega⟩
theorem grd_is {w : List Wish} {d : Int} (hw : Val w) (hd : 0 ≤ d) : ∀ {L : List (Int × Int)} {z : List Int}, Ix w (L.map (·.2)) → Ix w z → Free (sub w z) d → Gr w d L z (grd w d L (-1) z)
  | [], z, _, _, hf => ⟨⟨[], by rw [List.append_nil]; rfl, List.Sublist.slnil⟩, hf, fun x hx => absurd hx List.not_mem_nil⟩
  | x :: xs, z, hL, hz, hf => by
    have h1 : 0 ≤ x.2 ∧ x.2 < (w.length : Int) := hL x.2 (by simp)
    have h2 : Ix w (xs.map (·.2)) := fun k hk => hL k (by rw [List.map_cons]; exact List.mem_cons_of_mem _ hk)
    rw [grd, if_neg (by omega)]
    have iz : Ix w (z ++ [x.2]) := ix_app hz fun j hj => by rw [List.mem_singleton.mp hj]; exact h1
    by_cases r : lcan (sub w (z ++ [x.2])) d = true
    · rw [if_pos r]
      obtain ⟨⟨t, e1, e2⟩, g2, g3⟩ := grd_is hw hd h2 iz ((lcan_iff (vw_sub hw iz) hd).mp r)
      refine ⟨⟨x.2 :: t, by rw [e1, List.append_assoc]; rfl, ?_⟩, g2, fun y hy => ?_⟩
      · rw [List.map_cons]
        exact e2.cons₂ _
      · rcases List.mem_cons.mp hy with rfl | hy
        · exact .inl (by rw [e1]; exact List.mem_append_left _ (List.mem_append_right _ List.mem_cons_self))
        · exact g3 y hy
    · rw [if_neg r]
      obtain ⟨⟨t, e1, e2⟩, g2, g3⟩ := grd_is hw hd h2 hz hf
      refine ⟨⟨t, e1, ?_⟩, g2, fun y hy => ?_⟩
      · rw [List.map_cons]
        exact e2.cons _
      · rcases List.mem_cons.mp hy with rfl | hy
        · obtain ⟨s, e, ht, ha, hb⟩ := away hw hd hz h1 hf r
          refine .inr ⟨s, e, ?_, ha, hb⟩
          rw [e1]
          exact tight_app ht
        · exact g3 y hy
theorem grd_app {w : List Wish} {d : Int} : ∀ {L1 L2 : List (Int × Int)} {z : List Int}, (∀ x ∈ L1, 0 ≤ x.2) → grd w d (L1 ++ L2) (-1) z = grd w d L2 (-1) (grd w d L1 (-1) z)
  | [], _, _, _ => rfl
  | x :: xs, L2, z, h => by
    have hx := h x List.mem_cons_self
    have h2 := fun y hy => h y (List.mem_cons_of_mem x hy)
    have hne : ¬ x.2 = -1 := by omega
    simp only [List.cons_append, grd, if_neg hne]
    by_cases r : lcan (sub w (z ++ [x.2])) d = true
    · simp only [if_pos r]
      exact grd_app h2
    · simp only [if_neg r]
      exact grd_app h2
/-- sums by what is counted -/
def wsum (p : Int × Int → Bool) (L : List (Int × Int)) : Int := (L.map fun x => if p x = true then -x.1 else 0).sum
theorem abel (o g : Int × Int → Bool) : ∀ (L : List (Int × Int)) (c V : Int), 0 ≤ c → 0 ≤ V → (∀ x ∈ L, 0 ≤ -x.1 ∧ -x.1 ≤ V) → L.Pairwise (fun a b => -b.1 ≤ -a.1) → (∀ L1 L2, L = L1 ++ L2 → 0 ≤ c + (L1.countP g : Int) - (L1.countP o : Int)) → wsum o L ≤ wsum g L + c * V
  | [], c, V, hc, hV, _, _, _ => by
    have := Int.mul_nonneg hc hV
    show (0 : Int) ≤ 0 + c * V
    omega
  | x :: xs, c, V, hc, hV, hx, hp, hl => by
    obtain ⟨p1, p2⟩ := List.pairwise_cons.mp hp
    have hv := hx x List.mem_cons_self
    have h1 := hl [x] xs rfl
    rw [List.countP_cons, List.countP_cons, List.countP_nil, List.countP_nil] at h1
    have ih := abel o g xs (c + (if g x = true then 1 else 0) - (if o x = true then 1 else 0)) (-x.1) (by
      cases hg : g x <;> cases ho : o x <;> simp [hg, ho] at h1 ⊢ <;> omega) hv.1 (fun y hy => ⟨(hx y (List.mem_cons_of_mem _ hy)).1, p1 y hy⟩) p2 fun L1 L2 e => by
      have := hl (x :: L1) L2 (by rw [e]; rfl)
      rw [List.countP_cons, List.countP_cons] at this
      cases hg : g x <;> cases ho : o x <;> simp [hg, ho] at this ⊢ <;> omega
    have hm : c * -x.1 ≤ c * V := Int.mul_le_mul_of_nonneg_left hv.2 hc
    have so : wsum o (x :: xs) = (if o x = true then -x.1 else 0) + wsum o xs := by
      unfold wsum
      rw [List.map_cons, List.sum_cons]
    have sg : wsum g (x :: xs) = (if g x = true then -x.1 else 0) + wsum g xs := by
      unfold wsum
      rw [List.map_cons, List.sum_cons]
    rw [so, sg]
    cases hg : g x <;> cases ho : o x <;> simp only [hg, ho, Bool.false_eq_true, ↓reduceIte] at ih ⊢
    · rw [show c + 0 - 0 = c by omega] at ih
      omega
    · rw [show c + 0 - 1 = c + -1 by omega, Int.add_mul] at ih
      omega
    · rw [show c + 1 - 0 = c + 1 by omega, Int.add_mul] at ih
      omega
    · rw [show c + 1 - 1 = c by omega] at ih
      omega

/-! .. of all free sets -/
def vsum (v : List Int) (S : List Int) : Int := (S.map fun k => v.getD k.toNat 0).sum
theorem sum_perm : ∀ {a b : List Int}, a.Perm b → a.sum = b.sum := by
  intro a b h
  induction h with
  | nil => rfl
  | cons x _ ih => rw [List.sum_cons, List.sum_cons, ih]
  | swap x y l => rw [List.sum_cons, List.sum_cons, List.sum_cons, List.sum_cons]; omega
  | trans _ _ ih1 ih2 => exact ih1.trans ih2
theorem vsum_perm {v a b : List Int} (h : a.Perm b) : vsum v a = vsum v b := sum_perm (h.map _)
theorem vsum_filter {v : List Int} {p : Int → Bool} : ∀ {L : List (Int × Int)}, (∀ x ∈ L, -x.1 = v.getD x.2.toNat 0) → vsum v ((L.map (·.2)).filter p) = wsum (fun x => p x.2) L
  | [], _ => rfl
  | x :: xs, h => by
    have ih := vsum_filter (p := p) (L := xs) fun y hy => h y (List.mem_cons_of_mem _ hy)
    have hx := h x List.mem_cons_self
    unfold vsum wsum at ih ⊢
    rw [List.map_cons, List.map_cons, List.sum_cons, ← ih, List.filter_cons]
    cases q : p x.2 with
    | true =>
      simp only [q, ↓reduceIte, List.map_cons, List.sum_cons]
      omega
    | false =>
      simp only [q, Bool.false_eq_true, ↓reduceIte]
      omega
theorem ord_mem {v : List Int} {y : Int × Int} : y ∈ ord v ↔ ∃ i : Nat, ∃ c : Int, v[i]? = some c ∧ y = (-c, (i : Int)) := (isortP_perm _).mem_iff.trans mem_prs
theorem ord_nodup (v : List Int) : ((ord v).map (·.2)).Nodup := by
  have : ((prs v).map (·.2)).Nodup := by
    unfold prs
    rw [List.map_map]
    unfold List.Nodup
    rw [List.pairwise_map]
    exact (enumF_lt v 0).imp fun h => by
      show _ ≠ _
      dsimp only [Function.comp]
      omega
  exact (((isortP_perm (prs v)).map (·.2)).nodup_iff).mpr this
theorem ord_all {w : List Wish} {v : List Int} (h : v.length = w.length) {k : Int} (hk : 0 ≤ k ∧ k < (w.length : Int)) : k ∈ (ord v).map (·.2) := by
  rw [List.mem_map]
  have : k.toNat < v.length := by omega
  exact ⟨(-v[k.toNat], ((k.toNat : Nat) : Int)), ord_mem.mpr ⟨k.toNat, v[k.toNat], by simp [this], rfl⟩, by dsimp only; omega⟩
theorem ord_v {v : List Int} {x : Int × Int} (h : x ∈ ord v) : -x.1 = v.getD x.2.toNat 0 := by
  obtain ⟨i, c, h1, rfl⟩ := ord_mem.mp h
  rw [Int.toNat_natCast, List.getD_eq_getElem?_getD, h1]
  simp
theorem ord_desc (v : List Int) : (ord v).Pairwise fun a b => -b.1 ≤ -a.1 := (isortP_sorted (prs v)).imp fun h => by
  have := leP_iff.mp h
  omega
theorem cnt_sub (w : List Wish) (S : List Int) (s e : Int) : cnt (sub w S) s e = ((S.filter fun k => decide (s ≤ (at_ w k).1) && decide ((at_ w k).2 ≤ e)).length : Nat) := by
  unfold cnt sub
  rw [← List.countP_eq_length_filter, ← List.countP_eq_length_filter, List.countP_map]
  rfl
theorem free_sub {w : List Wish} {d : Int} {S O : List Int} (nS : S.Nodup) (h : ∀ k ∈ S, k ∈ O) (hO : Free (sub w O) d) : Free (sub w S) d := fun s e h0 h1 h2 => by
  have := hO s e h0 h1 h2
  rw [cnt_sub] at this ⊢
  have le := nodup_sub (xs := S.filter fun k => decide (s ≤ (at_ w k).1) && decide ((at_ w k).2 ≤ e)) (ys := O.filter fun k => decide (s ≤ (at_ w k).1) && decide ((at_ w k).2 ≤ e)) (nS.filter _) fun k hk => by
    obtain ⟨h3, h4⟩ := List.mem_filter.mp hk
    exact List.mem_filter.mpr ⟨h k h3, h4⟩
  omega
theorem free_nil (w : List Wish) {d : Int} (hd : 0 ≤ d) : Free (sub w []) d := fun s e h0 h1 h2 => by
  have : 0 ≤ d * (e - s) := Int.mul_nonneg hd (by omega)
  have : cnt (sub w []) s e = 0 := rfl
  omega
theorem nil_ix (w : List Wish) : Ix w [] := fun k hk => absurd hk List.not_mem_nil
/-- what the greedy choice is -/
structure Best (w : List Wish) (d : Int) (v G : List Int) : Prop where
  ix : Ix w G
  nodup : G.Nodup
  len : G.length ≤ 20
  free : Free (sub w G) d
theorem grd_best {w : List Wish} {d : Int} {v : List Int} (hw : Val w) (hd : 0 ≤ d) (hv : v.length = w.length) {L1 L2 : List (Int × Int)} (e : ord v = L1 ++ L2) : Best w d v (grd w d L1 (-1) []) ∧ Gr w d L1 [] (grd w d L1 (-1) []) ∧ (∀ k ∈ grd w d L1 (-1) [], k ∈ L1.map (·.2)) := by
  have oi := ord_ix hv
  have on := ord_nodup v
  have ol := ord_len v
  rw [e, List.map_append] at oi on
  rw [e, List.length_append] at ol
  have i1 : Ix w (L1.map (·.2)) := fun k hk => oi k (List.mem_append_left _ hk)
  have g := grd_is hw hd i1 (nil_ix w) (free_nil w hd)
  obtain ⟨t, e1, e2⟩ := g.ext
  rw [List.nil_append] at e1
  have hl := e2.length_le
  rw [List.length_map] at hl
  have := hw.1
  refine ⟨⟨fun k hk => i1 k (e2.subset (by rw [← e1]; exact hk)), ?_, by rw [e1]; omega, g.free⟩, g, fun k hk => e2.subset (by rw [← e1]; exact hk)⟩
  rw [e1]
  exact (List.nodup_append.mp on).1.sublist e2
theorem best_of {w : List Wish} {d : Int} {v O : List Int} (hw : Val w) (hd : 0 ≤ d) (hv : v.length = w.length) (hv0 : ∀ c ∈ v, 0 ≤ c ∧ c ≤ 1000) (iO : Ix w O) (nO : O.Nodup) (fO : Free (sub w O) d) :
    O.length ≤ (grd w d (ord v) (-1) []).length ∧ vsum v O ≤ vsum v (grd w d (ord v) (-1) []) := by
  have lO : O.length ≤ 20 := by
    have := nodup_sub nO fun k hk => ord_all hv (iO k hk)
    rw [List.length_map, ord_len] at this
    have := hw.1
    omega
  have all := grd_best hw hd hv (List.append_nil (ord v)).symm
  obtain ⟨b, g, gm⟩ := all
  constructor
  · exact max_size hw hd b.ix iO b.len lO b.free fO nO fun j hj => by
      obtain ⟨x, hx, rfl⟩ := List.mem_map.mp (ord_all hv (iO j hj))
      exact g.rej x hx
  · -- both as sums over the order
    have key : ∀ S : List Int, Ix w S → S.Nodup → vsum v S = wsum (fun x => decide (x.2 ∈ S)) (ord v) := fun S iS nS => by
      rw [← vsum_filter (p := fun k => decide (k ∈ S)) fun x hx => ord_v hx]
      refine vsum_perm ((List.perm_ext_iff_of_nodup nS ((ord_nodup v).filter _)).mpr fun k => ?_)
      rw [List.mem_filter]
      constructor
      · intro h
        exact ⟨ord_all hv (iS k h), decide_eq_true h⟩
      · intro h
        exact of_decide_eq_true h.2
    rw [key O iO nO, key _ b.ix b.nodup]
    have := abel (fun x => decide (x.2 ∈ O)) (fun x => decide (x.2 ∈ grd w d (ord v) (-1) [])) (ord v) 0 1000 (by decide) (by decide) (fun x hx => by
      obtain ⟨i, c, h1, rfl⟩ := ord_mem.mp hx
      have := hv0 c (List.mem_of_getElem? h1)
      dsimp only
      omega) (ord_desc v) fun L1 L2 e => by
      obtain ⟨b1, g1, gm1⟩ := grd_best hw hd hv e
      have on := ord_nodup v
      have oi := ord_ix hv
      rw [e, List.map_append] at on oi
      have n1 := (List.nodup_append.mp on).1
      -- O's part
      have nO1 : ((L1.map (·.2)).filter fun k => decide (k ∈ O)).Nodup := n1.filter _
      have sO1 : ∀ k ∈ (L1.map (·.2)).filter fun k => decide (k ∈ O), k ∈ O := fun k hk => of_decide_eq_true (List.mem_filter.mp hk).2
      have lO1 := nodup_sub nO1 sO1
      have m := max_size hw hd b1.ix (fun k hk => iO k (sO1 k hk)) b1.len (by omega) b1.free (free_sub nO1 sO1 fO) nO1 fun j hj => by
        obtain ⟨x, hx, rfl⟩ := List.mem_map.mp (List.mem_filter.mp hj).1
        exact g1.rej x hx
      have cO : L1.countP (fun x => decide (x.2 ∈ O)) = ((L1.map (·.2)).filter fun k => decide (k ∈ O)).length := by
        rw [← List.countP_eq_length_filter, List.countP_map]
        rfl
      have cG : L1.countP (fun x => decide (x.2 ∈ grd w d (ord v) (-1) [])) = ((L1.map (·.2)).filter fun k => decide (k ∈ grd w d (ord v) (-1) [])).length := by
        rw [← List.countP_eq_length_filter, List.countP_map]
        rfl
      have pos : ∀ x ∈ L1, 0 ≤ x.2 := fun x hx => (oi x.2 (List.mem_append_left _ (List.mem_map_of_mem hx))).1
      have i2 : Ix w (L2.map (·.2)) := fun k hk => oi k (List.mem_append_right _ hk)
      have g2 := grd_is hw hd i2 b1.ix b1.free
      obtain ⟨t, e1, _⟩ := g2.ext
      have eG : grd w d (ord v) (-1) [] = grd w d L1 (-1) [] ++ t := by
        rw [e, grd_app pos, e1]
      have le := nodup_sub b1.nodup (ys := (L1.map (·.2)).filter fun k => decide (k ∈ grd w d (ord v) (-1) [])) fun k hk => List.mem_filter.mpr ⟨gm1 k hk, decide_eq_true (by rw [eG]; exact List.mem_append_left _ hk)⟩
      rw [cO, cG]
      omega
    omega

/-! weights, reasons -/
theorem weights_is {n : Int} {p : Pl} (h0 : 0 ≤ n) (h1 : n ≤ 20) (hp : PI_ p) : Is (m__law_weights n p) fun b => b.1.length = n.toNat ∧ (∀ c ∈ b.1, 0 ≤ c ∧ c ≤ 1000) ∧ PI_ b.2 := by
  unfold m__law_weights
  obtain ⟨k, ek, hk, pk⟩ := take_ok (n := 3) hp (by decide) (by decide)
  have lr : (rangeL 0 n).length = n.toNat := by rw [rangeL_length]; congr 1; omega
  simp only [callM_ok, ek, Res.bind_ok, bin_ok, eqR_eq, ifR_ok, un_ok, rng1_ok (n := n) (by omega), liftM_ok]
  refine Is.if_ (fun _ => ?_) fun _ => Is.if_ (fun _ => ?_) fun _ => ?_
  · refine Is.bind (mapM_is (J := PI_) (B := fun c => 0 ≤ c ∧ c ≤ 1000) pk fun x y _ hy => ?_) fun b hb => ?_
    · exact (take_is (n := 1001) hy (by decide) (by decide)).imp fun b hb => ⟨⟨hb.1.1, by omega⟩, hb.2⟩
    · exact ⟨by dsimp only; rw [hb.1, lr], hb.2⟩
  · refine Is.bind (mapM_is (J := PI_) (B := fun c => 0 ≤ c ∧ c ≤ 1000) pk fun x y _ hy => ?_) fun b hb => ?_
    · exact (take_is (n := 4) hy (by decide) (by decide)).imp fun b hb => ⟨⟨hb.1.1, by omega⟩, hb.2⟩
    · exact ⟨by dsimp only; rw [hb.1, lr], hb.2⟩
  · obtain ⟨s, es, hs, ps⟩ := take_ok (n := 1001) pk (by decide) (by decide)
    have e0 : mapR (fun (x_101 : Int) => (Res.ok s.1)) (rangeL 0 n) = .ok ((rangeL 0 n).map fun _ => s.1) := mapR_ok fun _ _ => rfl
    simp only [es, Res.bind_ok, e0]
    exact ⟨by dsimp only; rw [List.length_map, lr], fun c hc => by
      obtain ⟨_, _, rfl⟩ := List.mem_map.mp hc
      omega, ps⟩
theorem check_weights_ok {w : List Wish} {v : List Int} (hw : Val w) (hv : v.length = w.length) : m_check_weights w v = .ok () := by
  unfold m_check_weights
  simp [chk_ok hw, hv]
theorem best_wishes_eq {w : List Wish} {d : Int} {v : List Int} (hw : Val w) (hd : 0 ≤ d) (hv : v.length = w.length) : m_best_wishes w d v = .ok (isortI (grd w d (ord v) (-1) [])) := by
  unfold m_best_wishes
  simp only [pair_ok, un_ok, check_weights_ok hw hv, Res.bind_ok, rNeg_eq, chosen_eq hw hd hv, sortI_eq]
theorem rangeL_append {a b c : Int} (h1 : a ≤ b) (h2 : b ≤ c) : rangeL a c = rangeL a b ++ rangeL b c := by
  apply List.ext_getElem?
  intro i
  rw [List.getElem?_append, rangeL_length]
  unfold rangeL
  rw [List.getElem?_map, List.getElem?_map, List.getElem?_map]
  by_cases h3 : i < (b - a).toNat
  · rw [if_pos h3, List.getElem?_range h3, List.getElem?_range (show i < (c - a).toNat by omega)]
  · rw [if_neg h3]
    by_cases h4 : i < (c - a).toNat
    · rw [List.getElem?_range h4, List.getElem?_range (show i - (b - a).toNat < (c - b).toNat by omega)]
      simp only [Option.map_some]
      congr 1
      omega
    · rw [List.getElem?_eq_none (by rw [List.length_range]; omega), List.getElem?_eq_none (by rw [List.length_range]; omega)]
      rfl
def tE (X : List Wish) (d s e : Int) : Option (Option (Int × Int)) := if cnt X s e = d * (e - s) then some (some (s, e)) else none
def why (X : List Wish) (d : Int) (x : Wish) : Option (Option (Int × Int)) := (rangeL 0 (x.1 + 1)).findSome? fun s => (rangeL x.2 61).findSome? (tE X d s)
theorem why_all {X : List Wish} {d : Int} {x : Wish} (hx : VW x) : ((rangeL 0 60).findSome? fun s => (rangeL (s + 1) 61).findSome? fun e => if (decide (s ≤ x.1) && decide (x.2 ≤ e)) = true then tE X d s e else none) = why X d x := by
  obtain ⟨v0, v1, v2⟩ := hx
  unfold why
  rw [rangeL_append (a := 0) (b := x.1 + 1) (c := 60) (by omega) (by omega), List.findSome?_append]
  have second : ((rangeL (x.1 + 1) 60).findSome? fun s => (rangeL (s + 1) 61).findSome? fun e => if (decide (s ≤ x.1) && decide (x.2 ≤ e)) = true then tE X d s e else none) = none := by
    rw [List.findSome?_eq_none_iff]
    intro s hs
    have hs := mem_rangeL.mp hs
    rw [List.findSome?_eq_none_iff]
    intro e _
    rw [if_neg (by simp; omega)]
  rw [second, Option.or_none]
  have congr_some : ∀ {f g : Int → Option (Option (Int × Int))} {l : List Int}, (∀ s, s ∈ l → f s = g s) → l.findSome? f = l.findSome? g := by
    intro f g l h
    induction l with
    | nil => rfl
    | cons a l ih => rw [List.findSome?_cons, List.findSome?_cons, h a List.mem_cons_self, ih fun s hs => h s (List.mem_cons_of_mem _ hs)]
  refine congr_some fun s hs => ?_
  have hs := mem_rangeL.mp hs
  rw [rangeL_append (a := s + 1) (b := x.2) (c := 61) (by omega) (by omega), List.findSome?_append]
  have first : ((rangeL (s + 1) x.2).findSome? fun e => if (decide (s ≤ x.1) && decide (x.2 ≤ e)) = true then tE X d s e else none) = none := by
    rw [List.findSome?_eq_none_iff]
    intro e he
    have he := mem_rangeL.mp he
    rw [if_neg (by simp; omega)]
  rw [first, Option.none_or]
  refine congr_some fun e he => ?_
  have he := mem_rangeL.mp he
  rw [if_pos (by simp; omega)]
def flat {α : Type} : Option (Option α) → Option α
  | some r => r
  | none => none
theorem sub_at {w : List Wish} {S : List Int} {k : Int} : sub w (S ++ [k]) = sub w S ++ [at_ w k] := sub_app w S [k]
/-- those ahead of k -/
structure Ahead (w : List Wish) (d : Int) (v : List Int) (k : Int) (A : List Int) : Prop where
  eq : grd w d (ord v) k [] = A
  ix : Ix w A
  len : A.length < 20
  free : Free (sub w A) d
  best : k ∈ grd w d (ord v) (-1) [] ↔ lcan (sub w (A ++ [k])) d = true
theorem grd_stop {w : List Wish} {d k : Int} {x : Int × Int} {L2 : List (Int × Int)} (hx : x.2 = k) : ∀ {L1 : List (Int × Int)} {z : List Int}, (∀ y ∈ L1, y.2 ≠ k ∧ 0 ≤ y.2) → grd w d (L1 ++ x :: L2) k z = grd w d L1 (-1) z
  | [], z, _ => by
    simp only [List.nil_append, grd, if_pos hx]
  | y :: ys, z, h => by
    have hy := h y List.mem_cons_self
    have h2 := fun u hu => h u (List.mem_cons_of_mem y hu)
    have hne : ¬ y.2 = -1 := by omega
    simp only [List.cons_append, grd, if_neg hne, if_neg hy.1]
    by_cases r : lcan (sub w (z ++ [y.2])) d = true
    · simp only [if_pos r]
      exact grd_stop hx h2
    · simp only [if_neg r]
      exact grd_stop hx h2
theorem ahead {w : List Wish} {d : Int} {v : List Int} {k : Int} (hw : Val w) (hd : 0 ≤ d) (hv : v.length = w.length) (hk : 0 ≤ k ∧ k < (w.length : Int)) : ∃ A, Ahead w d v k A := by
  obtain ⟨x, hx, hxk⟩ := List.mem_map.mp (ord_all hv hk)
  obtain ⟨L1, L2, e⟩ := List.append_of_mem hx
  obtain ⟨b, g, gm⟩ := grd_best hw hd hv e
  have on := ord_nodup v
  have oi := ord_ix hv
  rw [e, List.map_append, List.map_cons] at on oi
  have n1 := List.nodup_append.mp on
  have n2 := List.nodup_cons.mp n1.2.1
  have pos : ∀ y ∈ L1, y.2 ≠ k ∧ 0 ≤ y.2 := fun y hy => ⟨fun z => n1.2.2 y.2 (List.mem_map_of_mem hy) x.2 List.mem_cons_self (by rw [hxk]; exact z), (oi y.2 (List.mem_append_left _ (List.mem_map_of_mem hy))).1⟩
  have kn1 : k ∉ grd w d L1 (-1) [] := fun z => by
    obtain ⟨y, hy, e2⟩ := List.mem_map.mp (gm k z)
    exact (pos y hy).1 e2
  have i2 : Ix w (L2.map (·.2)) := fun j hj => oi j (List.mem_append_right _ (List.mem_cons_of_mem _ hj))
  have ll := ord_len v
  rw [e, List.length_append, List.length_cons] at ll
  have lA : (grd w d L1 (-1) []).length ≤ L1.length := by
    obtain ⟨t, e1, e2⟩ := g.ext
    rw [List.nil_append] at e1
    have := e2.length_le
    rw [List.length_map] at this
    rw [e1]
    exact this
  have := hw.1
  refine ⟨grd w d L1 (-1) [], by rw [e]; exact grd_stop hxk pos, b.ix, by omega, b.free, ?_⟩
  have eG : grd w d (ord v) (-1) [] = grd w d (x :: L2) (-1) (grd w d L1 (-1) []) := by
    rw [e]
    exact grd_app fun y hy => (pos y hy).2
  have ik : Ix w (grd w d L1 (-1) [] ++ [k]) := ix_app b.ix fun j hj => by rw [List.mem_singleton.mp hj]; exact hk
  rw [eG, grd, if_neg (by omega), hxk]
  by_cases r : lcan (sub w (grd w d L1 (-1) [] ++ [k])) d = true
  · rw [if_pos r]
    obtain ⟨t, e1, _⟩ := (grd_is hw hd i2 ik ((lcan_iff (vw_sub hw ik) hd).mp r)).ext
    rw [e1]
    exact ⟨fun _ => r, fun _ => List.mem_append_left _ (List.mem_append_right _ (List.mem_singleton.mpr rfl))⟩
  · rw [if_neg r]
    obtain ⟨t, e1, e2⟩ := (grd_is hw hd i2 b.ix b.free).ext
    rw [e1]
    refine ⟨fun h => ?_, fun h => absurd h r⟩
    rcases List.mem_append.mp h with h | h
    · exact absurd h kn1
    · exact absurd (e2.subset h) (by rw [← hxk]; exact n2.1)

/-! the two reasons agree -/
theorem reason_eq {w : List Wish} {d : Int} {v A : List Int} {k : Int} (hw : Val w) (hd : 0 ≤ d) (sm : Small d) (hv : v.length = w.length) (hk : 0 ≤ k ∧ k < (w.length : Int)) (ha : Ahead w d v k A) :
    m_reason w d v k = .ok (if lcan (sub w (A ++ [k])) d = true then none else flat (why (sub w A) d (at_ w k))) := by
  unfold m_reason
  have ik : Ix w (A ++ [k]) := ix_app ha.ix fun j hj => by rw [List.mem_singleton.mp hj]; exact hk
  have vk := sub_val hw ik (by rw [List.length_append, List.length_singleton]; have := ha.len; omega)
  have sl : (sub w A).length = A.length := by unfold sub; rw [List.length_map]
  have hl := ha.len
  simp only [pair_ok, un_ok, check_weights_ok hw hv, Res.bind_ok, chosen_eq hw hd hv, ha.eq, bin_ok, sub_eq' ha.ix, at_ok hk, consR_ok, rCatR_ok (xs := sub w A) (ys := [at_ w k]) (by rw [sl]; simp; omega)]
  rw [← sub_at]
  simp only [pair_ok, un_ok, can_call_eq vk hd, ifR_ok]
  by_cases r : lcan (sub w (A ++ [k])) d = true
  · rw [if_pos r, if_pos r]
  · rw [if_neg r, if_neg r, ← why_all (hw.2 _ (at_mem hk))]
    simp only [rng1_ok (n := 60) (by decide), Res.bind_ok]
    rw [loopR_find (g := fun s => (rangeL (s + 1) 61).findSome? fun e => if (decide (s ≤ (at_ w k).1) && decide ((at_ w k).2 ≤ e)) = true then tE (sub w A) d s e else none) (fun s hs => ?_)]
    · simp only [Res.bind_ok]
      cases (rangeL 0 60).findSome? fun s => (rangeL (s + 1) 61).findSome? fun e => if (decide (s ≤ (at_ w k).1) && decide ((at_ w k).2 ≤ e)) = true then tE (sub w A) d s e else none with
      | none => rfl
      | some x => rfl
    · have h := mem_rangeL.mp hs
      simp only [rAdd_eq, pair_ok, un_ok, bin_ok, show (60 : Int) + 1 = 61 from rfl, rng2_ok (a := s + 1) (b := 61) (by omega), Res.bind_ok]
      rw [loopR_find (g := fun e => if (decide (s ≤ (at_ w k).1) && decide ((at_ w k).2 ≤ e)) = true then tE (sub w A) d s e else none) (fun e he => ?_)]
      · simp only [Res.bind_ok]
        cases (rangeL (s + 1) 61).findSome? fun e => if (decide (s ≤ (at_ w k).1) && decide ((at_ w k).2 ≤ e)) = true then tE (sub w A) d s e else none with
        | none => rfl
        | some x => rfl
      · simp only [at_ok hk, un_ok, rLe_eq, bin_ok, andR_ok, ifR_ok, inside_eq, rSub_eq, rMul_ok (.inl sm), eqR_eq, someR'_eq, Res.bind_ok, pair_ok, decide_eq_true_eq]
        unfold tE
        split
        · split <;> rfl
        · rfl
theorem why_eq {w : List Wish} {d : Int} {v A : List Int} {k : Int} (hw : Val w) (hd : 0 ≤ d) (sm : Small d) (hv : v.length = w.length) (hk : 0 ≤ k ∧ k < (w.length : Int)) (ha : Ahead w d v k A) :
    m__law_why w d v k = .ok (flat (why (sub w A) d (at_ w k))) := by
  unfold m__law_why why
  obtain ⟨v0, v1, v2⟩ := hw.2 _ (at_mem hk)
  simp only [pair_ok, un_ok, Res.bind_ok, law_chosen_eq hw hd sm hv, ha.eq, bin_ok, sub_eq' ha.ix, at_ok hk, rAdd_eq, rng1_ok (n := (at_ w k).1 + 1) (by omega), rng2_ok (a := (at_ w k).2) (b := 61) (by omega)]
  rw [loopR_find (g := fun s => (rangeL (at_ w k).2 61).findSome? (tE (sub w A) d s)) (fun s hs => ?_)]
  · simp only [Res.bind_ok]
    cases (rangeL 0 ((at_ w k).1 + 1)).findSome? fun s => (rangeL (at_ w k).2 61).findSome? (tE (sub w A) d s) with
    | none => rfl
    | some x => rfl
  · rw [loopR_find (g := tE (sub w A) d s) (fun e he => ?_)]
    · simp only [Res.bind_ok]
      cases (rangeL (at_ w k).2 61).findSome? (tE (sub w A) d s) with
      | none => rfl
      | some x => rfl
    · simp only [linside_eq, rSub_eq, bin_ok, rMul_ok (.inl sm), eqR_eq, someR'_eq, Res.bind_ok, pair_ok, un_ok, ifR_ok, decide_eq_true_eq]
      unfold tE
      split <;> rfl
theorem why_some {w : List Wish} {d : Int} {v A : List Int} {k : Int} (hw : Val w) (hd : 0 ≤ d) (hk : 0 ≤ k ∧ k < (w.length : Int)) (ha : Ahead w d v k A) (r : ¬ lcan (sub w (A ++ [k])) d = true) : ∃ c, flat (why (sub w A) d (at_ w k)) = some c := by
  obtain ⟨s, e, ⟨t0, t1, t2, t3⟩, h1, h2⟩ := away hw hd ha.ix hk ha.free r
  have hle := ha.free s e t0 t1 t2
  obtain ⟨v0, v1, v2⟩ := hw.2 _ (at_mem hk)
  unfold why
  cases q : (rangeL 0 ((at_ w k).1 + 1)).findSome? fun s => (rangeL (at_ w k).2 61).findSome? (tE (sub w A) d s) with
  | none =>
    have a := findSome_none q s (mem_rangeL.mpr ⟨t0, by omega⟩)
    have b := findSome_none a e (mem_rangeL.mpr ⟨h2, by omega⟩)
    unfold tE at b
    rw [if_pos (by omega)] at b
    cases b
  | some c =>
    obtain ⟨a, _, qa⟩ := findSome_some q
    obtain ⟨b, _, qb⟩ := findSome_some qa
    unfold tE at qb
    split at qb
    · cases qb
      exact ⟨_, rfl⟩
    · cases qb
theorem told_is {w : List Wish} {d : Int} {v B : List Int} {p : Pl} (hw : Val w) (hd : 0 ≤ d) (sm : Small d) (hv : v.length = w.length) (hB : ∀ k, k ∈ B ↔ k ∈ grd w d (ord v) (-1) []) (hn : 0 < (w.length : Int)) (hp : PI_ p) : Is (m__law_reasons_told w d v B p) fun b => b.1 = true ∧ PI_ b.2 := by
  unfold m__law_reasons_told
  have hl := hw.1
  simp only [un_ok, rng1_ok (n := 3) (by decide), Res.bind_ok]
  refine Is.bind (loopR_inv (J := PI_) hp fun x y hx hy => ?_) ?_
  · obtain ⟨k, ek, hk, pk⟩ := take_ok (n := (w.length : Int)) hy hn (by omega)
    obtain ⟨A, ha⟩ := ahead hw hd hv hk
    simp only [rLen_eq, callM_ok, ek, Res.bind_ok, pair_ok, un_ok, reason_eq hw hd sm hv hk ha, bin_ok, inR_eq, ifR_ok]
    by_cases r : lcan (sub w (A ++ [k.1])) d = true
    · have hm : k.1 ∈ B := (hB _).mpr (ha.best.mpr r)
      simp only [if_pos r, hm, decide_true, if_pos, notNone_eq, Option.isSome_none, Bool.false_eq_true, if_false]
      exact ⟨k.2, rfl, pk⟩
    · have hm : k.1 ∉ B := fun z => r (ha.best.mp ((hB _).mp z))
      obtain ⟨c, ec⟩ := why_some hw hd hk ha r
      simp only [if_neg r, hm, decide_false, Bool.false_eq_true, if_false, why_eq hw hd sm hv hk ha, ec, Res.bind_ok, isNone_eq, Option.isNone_some, isO_some, notR_eq, Bool.not_true, neR_eq, decide_true, orR_ok, Bool.or_self, ifR_ok, getO_some]
      exact ⟨k.2, rfl, pk⟩
  · rintro o ⟨y, rfl, hy⟩
    exact ⟨rfl, hy⟩

/-! other sets -/
theorem at_eq_val {v : List Int} {S : List Int} (h : ∀ k, k ∈ S → 0 ≤ k ∧ k < (v.length : Int)) : mapR (fun x => ix v x) S = .ok (S.map fun k => v.getD k.toNat 0) := mapR_ok fun k hk => ix_getD (h k hk).1 (h k hk).2
structure Fs (w : List Wish) (d : Int) (O : List Int) : Prop where
  ix : Ix w O
  nodup : O.Nodup
  free : Free (sub w O) d
theorem rangeL_nodup (a b : Int) : (rangeL a b).Nodup := by
  unfold rangeL List.Nodup
  rw [List.pairwise_map]
  exact List.nodup_range.imp fun h => by omega
theorem others_is {w : List Wish} {d : Int} {p : Pl} (hw : Val w) (hd : 0 ≤ d) (sm : Small d) (hp : PI_ p) : Is (m__law_other_sets w d p) fun b => (∀ O ∈ b.1, Fs w d O) ∧ PI_ b.2 := by
  unfold m__law_other_sets
  have hl := hw.1
  have e0 : ∃ n : Int, ix [(3 : Int), 1] (if decide (12 < (w.length : Int)) = true then 1 else 0) = .ok n ∧ 0 ≤ n ∧ n ≤ 3 := by
    split
    · exact ⟨1, rfl, by decide, by decide⟩
    · exact ⟨3, rfl, by decide, by decide⟩
  obtain ⟨n, en, hn0, hn1⟩ := e0
  simp only [un_ok, rLen_eq, Res.bind_ok, consR_ok, bin_ok, rGt_eq, b2iR_eq, en, rng1_ok (n := n) (by omega)]
  refine Is.bind (loopN_inv (fun i (z : List (List Int) × Pl) => z.1.length = i ∧ (∀ O ∈ z.1, Fs w d O) ∧ PI_ z.2) ⟨rfl, fun O h => absurd h List.not_mem_nil, hp⟩ fun i x z hx ⟨hz1, hz2, hz3⟩ => ?_) fun z ⟨hz1, hz2, hz3⟩ => ?_
  · have hi : i < 3 := by
      have h1 := mem_rangeL.mp (List.mem_of_getElem? hx)
      have h2 := rangeL_get hx
      omega
    obtain ⟨v, ev, hv1, hv2, pv⟩ := (weights_is (n := (w.length : Int)) (by omega) (by omega) hz3).get
    have hv : v.1.length = w.length := by rw [hv1]; omega
    simp only [unM_eq, pairM_eq, liftM_ok, callM_ok, ev, Res.bind_ok, rNeg_eq, law_chosen_eq hw hd sm hv, push_ok (xs := z.1) (x := grd w d (ord v.1) (-1) []) (by omega)]
    obtain ⟨b, _, _⟩ := grd_best hw hd hv (List.append_nil (ord v.1)).symm
    refine ⟨by simp [hz1], fun O hO => ?_, pv⟩
    rcases List.mem_append.mp hO with hO | hO
    · exact hz2 O hO
    · rw [List.mem_singleton.mp hO]
      exact ⟨b.ix, b.nodup, b.free⟩
  · rw [rangeL_length] at hz1
    refine Is.bind (Q := fun y : List (List Int) => ∀ O ∈ y, Fs w d O) ?_ fun y hy => ⟨hy, hz3⟩
    simp only [rLe_eq, ifR_ok]
    refine Is.if_ (fun h => ?_) fun _ => hz2
    have h := of_decide_eq_true h
    obtain ⟨m, em, hm⟩ := ix_get (xs := [(1 : Int), 2, 4, 8, 16, 32, 64, 128]) (i := (w.length : Int)) (by omega) (by simp; omega)
    have hm2 : m ∈ [(1 : Int), 2, 4, 8, 16, 32, 64, 128] := List.mem_of_getElem? hm
    have hm3 : 1 ≤ m ∧ m ≤ 128 := by
      revert hm2
      clear em hm
      intro hm2
      simp only [List.mem_cons, List.not_mem_nil, or_false] at hm2
      omega
    simp only [em, un_ok, rng1_ok (n := m) (by omega), rng1_ok (n := (w.length : Int)) (by omega), Res.bind_ok]
    refine Is.bind (loopN_inv (fun i (z : List (List Int)) => z.length ≤ 3 + i ∧ ∀ O ∈ z, Fs w d O) ⟨by omega, hz2⟩ fun i x y hx ⟨hy1, hy2⟩ => ?_) fun y hy => hy.2
    have hx0 := mem_rangeL.mp (List.mem_of_getElem? hx)
    have hi := rangeL_get hx
    have ef : filR (fun (x_135 : Int) => (bin eqR (bin rMod (un idR (bin rDiv (Res.ok x) (ix [(1 : Int), 2, 4, 8, 16, 32, 64, 128] x_135))) (Res.ok (2 : Int))) (Res.ok (1 : Int)))) (fun (x_135 : Int) => (Res.ok x_135)) (rangeL 0 (w.length : Int)) = .ok ((rangeL 0 (w.length : Int)).filter fun k => decide (x / ([(1 : Int), 2, 4, 8, 16, 32, 64, 128].getD k.toNat 1) % 2 = 1)) := filR_id fun k hk => by
      have hk := mem_rangeL.mp hk
      rw [ix_getD (d := (1 : Int)) hk.1 (by simp; omega)]
      have hq : 0 < [(1 : Int), 2, 4, 8, 16, 32, 64, 128].getD k.toNat 1 ∧ [(1 : Int), 2, 4, 8, 16, 32, 64, 128].getD k.toNat 1 < 1073741824 := by
        obtain ⟨u, eu, hu⟩ := ix_get (xs := [(1 : Int), 2, 4, 8, 16, 32, 64, 128]) hk.1 (by simp; omega)
        have hu2 := List.mem_of_getElem? hu
        rw [List.getD_eq_getElem?_getD, hu, Option.getD_some]
        simp only [List.mem_cons, List.not_mem_nil, or_false] at hu2
        omega
      simp only [bin_ok, rDiv_ok hq, un_ok, idR_eq, rMod_ok (a := x / [(1 : Int), 2, 4, 8, 16, 32, 64, 128].getD k.toNat 1) (b := 2) (by decide), eqR_eq]
    rw [ef]
    have fm : Ix w ((rangeL 0 (w.length : Int)).filter fun k => decide (x / ([(1 : Int), 2, 4, 8, 16, 32, 64, 128].getD k.toNat 1) % 2 = 1)) := fun k hk => mem_rangeL.mp (List.mem_filter.mp hk).1
    have nm := (rangeL_nodup 0 (w.length : Int)).filter fun k => decide (x / ([(1 : Int), 2, 4, 8, 16, 32, 64, 128].getD k.toNat 1) % 2 = 1)
    generalize ((rangeL 0 (w.length : Int)).filter fun k => decide (x / ([(1 : Int), 2, 4, 8, 16, 32, 64, 128].getD k.toNat 1) % 2 = 1)) = S at fm nm
    simp only [Res.bind_ok, sub_eq' fm, pair_ok, un_ok, law_can_eq sm, ifR_ok]
    refine Is.if_ (fun hc => ?_) fun _ => ⟨by omega, hy2⟩
    rw [push_ok (by omega)]
    refine ⟨by simp; omega, fun O hO => ?_⟩
    rcases List.mem_append.mp hO with hO | hO
    · exact hy2 O hO
    · rw [List.mem_singleton.mp hO]
      exact ⟨fm, nm, (lcan_iff (vw_sub hw fm) hd).mp hc⟩

/-! refusals -/
theorem reason_any {w : List Wish} {v : List Int} (hw : Val w) (hv : v.length = w.length) (hn : 0 < w.length) : ∃ r, m_reason w 1 v 0 = .ok r := by
  obtain ⟨A, ha⟩ := ahead (d := 1) (k := 0) hw (by decide) hv ⟨by decide, by omega⟩
  exact ⟨_, reason_eq hw (by decide) ⟨by decide, by decide⟩ hv ⟨by decide, by omega⟩ ha⟩
theorem refused_ok {w : List Wish} {v : List Int} (hw : Val w) (hv : v.length = w.length) (hn : 0 < w.length) (k : Int) : m__law_refused w v k = .ok ("none", 0) := by
  unfold m__law_refused
  obtain ⟨r, er⟩ := reason_any hw hv hn
  simp only [bin_ok, eqR_eq, ifR_ok, pair_ok, un_ok, best_wishes_eq (d := 1) hw (by decide) hv, er, Res.bind_ok]
  by_cases h0 : k = 0
  · simp [h0]
  · simp [h0]
theorem refused_at {w : List Wish} {v : List Int} {c : Ec} {i : Int} (h : m_check_weights w v = .exc c i) (hk : knE c = true) (k : Int) : m__law_refused w v k = if isaE c .BadPair && (!isaE c .TooMany && !isaE c .Unlike) then .ok ("pair", i) else if isaE c .TooMany && (!isaE c .BadPair && !isaE c .Unlike) then .ok ("many", i) else if isaE c .Unlike && (!isaE c .BadPair && !isaE c .TooMany) then .ok ("unlike", i) else .ok ("other", 0) := by
  have e1 : m_best_wishes w 1 v = .exc c i := by
    unfold m_best_wishes
    rw [pair_ok, un_ok, h]
    rfl
  have e2 : m_reason w 1 v 0 = .exc c i := by
    unfold m_reason
    rw [pair_ok, un_ok, h]
    rfl
  unfold m__law_refused
  have body : (ifR (bin eqR (Res.ok k) (Res.ok (0 : Int))) ((un (fun (p : ((List (Int × Int)) × Int × (List Int))) => m_best_wishes p.1 p.2.1 p.2.2) (pair (Res.ok w) (pair (Res.ok (1 : Int)) (Res.ok v)))).bind fun (b_21 : (List Int)) => (Res.ok (Out.nx ()))) ((un (fun (p : ((List (Int × Int)) × Int × (List Int) × Int)) => m_reason p.1 p.2.1 p.2.2.1 p.2.2.2) (pair (Res.ok w) (pair (Res.ok (1 : Int)) (pair (Res.ok v) (Res.ok (0 : Int)))))).bind fun (b_26 : (Option (Int × Int))) => (Res.ok (Out.nx ()))) : Res (Out Unit (Str × Int))) = .exc c i := by
    simp only [bin_ok, eqR_eq, ifR_ok, pair_ok, un_ok, e1, e2, Res.bind_exc]
    split <;> rfl
  rw [body, tryR_exc hk (by simp [isaE])]
  simp only [un_ok, notR_eq, andR_ok, ifR_ok, pair_ok, Res.bind_ok]
  split
  · rfl
  · split
    · rfl
    · split <;> rfl
theorem cw_exc {w : List Wish} {v : List Int} {c : Ec} {i : Int} (h : m_check_wishes w = .exc c i) : m_check_weights w v = .exc c i := by
  unfold m_check_weights
  rw [un_ok, h]
  rfl
theorem cw_unlike {w : List Wish} {v : List Int} (hw : Val w) (h : v.length ≠ w.length) : m_check_weights w v = .exc .Unlike 1 := by
  unfold m_check_weights
  simp only [un_ok, chk_ok hw, Res.bind_ok, rLen_eq, bin_ok, neR_eq, ifR_ok]
  rw [if_pos (by simp; omega)]
theorem refused_pair {w : List Wish} {i : Int} (h : m_check_wishes w = .exc .BadPair i) (v : List Int) (k : Int) : m__law_refused w v k = .ok ("pair", i) := by
  rw [refused_at (cw_exc h) (by decide)]
  rfl
theorem refused_many {w : List Wish} {i : Int} (h : m_check_wishes w = .exc .TooMany i) (v : List Int) (k : Int) : m__law_refused w v k = .ok ("many", i) := by
  rw [refused_at (cw_exc h) (by decide)]
  rfl
theorem refused_unlike {w : List Wish} {v : List Int} (hw : Val w) (h : v.length ≠ w.length) (k : Int) : m__law_refused w v k = .ok ("unlike", 1) := by
  rw [refused_at (cw_unlike hw h) (by decide)]
  rfl
theorem chk_many {w : List Wish} (h : 20 < w.length) : m_check_wishes w = .exc .TooMany 20 := by
  rw [chk_eq]
  unfold chk
  rw [if_pos h]
theorem chk_at {w : List Wish} (h : w.length ≤ 20) {j : Nat} (h1 : ∀ i x, i < j → w[i]? = some x → VW x) (h2 : ∃ x, w[j]? = some x ∧ ¬ VW x) : m_check_wishes w = .exc .BadPair j := by
  rw [chk_eq]
  unfold chk
  rw [if_neg (by omega), fb_at h1 h2]
  simp
theorem put_eq {α : Type} {xs : List α} {k : Nat} {x : α} (h : k < xs.length) : xs.take k ++ [x] ++ xs.drop (k + 1) = xs.set k x := by
  rw [List.set_eq_take_append_cons_drop, if_pos h, List.append_assoc]
  rfl
theorem bads_bad : ∀ x ∈ ([(-1, 3), (3, 3), (4, 2), (0, 61), (60, 60), (59, 61)] : List Wish), ¬ VW x := by
  have key : ∀ x ∈ ([(-1, 3), (3, 3), (4, 2), (0, 61), (60, 60), (59, 61)] : List Wish), okW x = false := by decide
  intro x hx h
  have h1 := okW_iff.mpr h
  rw [key x hx] at h1
  cases h1
theorem refused_right_is {w : List Wish} {p : Pl} (hw : Val w) (hp : PI_ p) : Is (m__law_refused_right w p) fun b => b.1 = true := by
  unfold m__law_refused_right
  have hl := hw.1
  have e0 : mapR (fun (x_1 : Int) => (pair (Res.ok x_1) (Res.ok (60 : Int)))) (rangeL 0 (20 - (w.length : Int))) = .ok ((rangeL 0 (20 - (w.length : Int))).map fun k => (k, (60 : Int))) := mapR_ok fun _ _ => rfl
  simp only [un_ok, rLen_eq, bin_ok, rSub_eq, rng1_ok (n := 20 - (w.length : Int)) (by omega), Res.bind_ok, e0]
  have lf : (w ++ (rangeL 0 (20 - (w.length : Int))).map fun k => (k, (60 : Int))).length = 20 := by
    rw [List.length_append, List.length_map, rangeL_length]
    omega
  have vf : ∀ x ∈ (w ++ (rangeL 0 (20 - (w.length : Int))).map fun k => (k, (60 : Int))), VW x := fun x hx => by
    rcases List.mem_append.mp hx with hx | hx
    · exact hw.2 x hx
    · obtain ⟨k, hk, rfl⟩ := List.mem_map.mp hx
      have := mem_rangeL.mp hk
      exact ⟨this.1, by dsimp only; omega, by dsimp only; omega⟩
  rw [rCatR_ok (by rw [← List.length_append, lf]; decide)]
  generalize (w ++ (rangeL 0 (20 - (w.length : Int))).map fun k => (k, (60 : Int))) = full at lf vf
  simp only [Res.bind_ok, liftM_ok, rng1_ok (n := 20) (by decide)]
  obtain ⟨v, ev, lv, _, pv⟩ := (mapM_is (f := fun (x_23 : Int) => (callM m__law_take (liftM (Res.ok (1001 : Int))))) (xs := rangeL 0 20) (J := PI_) (B := fun _ => True) hp fun x y _ hy => (take_is (n := 1001) hy (by decide) (by decide)).imp fun b hb => ⟨trivial, hb.2⟩).get
  have lv2 : v.1.length = 20 := by rw [lv, rangeL_length]; rfl
  obtain ⟨a, ea, ha, pa⟩ := take_ok (n := 20) pv (by decide) (by decide)
  obtain ⟨b, eb, hb, pb⟩ := take_ok (n := 6) pa (by decide) (by decide)
  obtain ⟨y, ey, hy⟩ := ix_get (xs := ([(-1, 3), (3, 3), (4, 2), (0, 61), (60, 60), (59, 61)] : List Wish)) hb.1 hb.2
  have by_ := bads_bad y (List.mem_of_getElem? hy)
  obtain ⟨c, ec, hc, pc⟩ := take_ok (n := 20) pb (by decide) (by decide)
  simp only [ev, Res.bind_ok, rNeg_eq, un_ok, pair_ok, consR_ok, binM_eq, liftM_ok, callM_ok, ea, eb, ey, ec, someR_ok, slR_ok, slM_eq, unM_eq, bin_ok, rAdd_eq, cut_lo ha.1, cut_lo hc.1, cut_hi (show 0 ≤ a.1 + 1 by omega)]
  have t1 : (a.1 + 1).toNat = a.1.toNat + 1 := by omega
  have la : a.1.toNat < full.length := by omega
  rw [rCatR_ok (by rw [List.length_take]; simp; omega)]
  simp only [Res.bind_ok, bin_ok]
  rw [rCatR_ok (by rw [List.length_append, List.length_take, List.length_drop]; simp; omega), t1, put_eq la]
  have ls : (full.set a.1.toNat y).length = 20 := by rw [List.length_set, lf]
  have lw : (v.1.take c.1.toNat).length ≠ full.length := by
    rw [List.length_take, lf]
    omega
  have lw2 : (v.1 ++ [(0 : Int)]).length ≠ full.length := by
    rw [List.length_append, lv2, lf]
    decide
  have vfull : Val full := ⟨by omega, vf⟩
  have r0 : ∀ k, m__law_refused full v.1 k = .ok ("none", 0) := refused_ok vfull (by omega) (by omega)
  have r1 : ∀ k u, m__law_refused (full.set a.1.toNat y) u k = .ok ("pair", a.1) := fun k u => by
    have := chk_at (w := full.set a.1.toNat y) (j := a.1.toNat) (by omega) (fun i x hi hx => by
      rw [List.getElem?_set, if_neg (by omega)] at hx
      exact vf x (List.mem_of_getElem? hx)) ⟨y, by rw [List.getElem?_set, if_pos rfl, if_pos la], by_⟩
    rw [show ((a.1.toNat : Nat) : Int) = a.1 by omega] at this
    exact refused_pair this u k
  have r2 : ∀ k, m__law_refused full (v.1.take c.1.toNat) k = .ok ("unlike", 1) := refused_unlike vfull lw
  have r3 : ∀ k, m__law_refused full (v.1 ++ [(0 : Int)]) k = .ok ("unlike", 1) := refused_unlike vfull lw2
  have r4 : ∀ k x u, m__law_refused (full.set a.1.toNat y ++ [x]) u k = .ok ("many", 20) := fun k x u => refused_many (chk_many (by rw [List.length_append, ls, List.length_singleton]; decide)) u k
  simp only [Res.bind_ok]
  rw [loopR_any (r := (false, c.2)) (p := fun _ => false) (fun k _ => ?_)]
  · simp only [List.any_eq_true, Bool.false_eq_true, and_false, exists_false, if_false, Res.bind_ok]
    rfl
  · rw [rCatR_ok (by rw [lv2]; decide), rCatR_ok (by rw [ls]; decide)]
    simp only [r0, r1, r2, r3, r4, bin_ok, pair_ok, neR_eq, decide_true, Bool.not_true, orR_ok, Bool.or_self, ifR_ok, if_neg Bool.false_ne_true, un_ok]
theorem is_int_eq (i : Int) : m__law_is_int i = .ok true := rfl
theorem small_of {d : Int} (h0 : 0 ≤ d) (h1 : d ≤ 5) : Small d := ⟨by omega, by omega⟩
theorem filR_none {α : Type} {p : α → Res Bool} {xs : List α} (h : ∀ x, x ∈ xs → p x = .ok false) : filR p (fun x => .ok x) xs = .ok [] := by
  rw [filR_id (q := fun _ => false) h]
  simp
theorem law_true (ns : List Int) (hns : ns.length ≤ 63) : m_law ns = .ok true := by
  refine Is.eq ?_
  unfold m_law
  have p0 : PI_ (0, 0, 0, cut ns none (some 63)) := ⟨Int.le_refl _, Int.le_refl _⟩
  obtain ⟨d, ed, hd, pd⟩ := from_ok (lo := 1) (hi := 5) p0 (by decide) (by decide)
  obtain ⟨w, ew, hw, pw⟩ := (wishes_is hd.1 hd.2 pd).get
  have hl := hw.1
  have hd0 : 0 ≤ d.1 := by omega
  have sm := small_of hd0 hd.2
  obtain ⟨v, ev, hv1, hv2, pv⟩ := (weights_is (n := (w.1.length : Int)) (by omega) (by omega) pw).get
  have hv : v.1.length = w.1.length := by rw [hv1]; omega
  obtain ⟨b, _, _⟩ := grd_best hw hd0 hv (List.append_nil (ord v.1)).symm
  have perm := isortI_perm (grd w.1 d.1 (ord v.1) (-1) [])
  have e2 : filR (fun x_84 => un notR (m__law_is_int x_84)) (fun x => Res.ok x) (isortI (grd w.1 d.1 (ord v.1) (-1) [])) = .ok [] := filR_none fun _ _ => rfl
  have e3 := at_eq_val (v := v.1) (S := isortI (grd w.1 d.1 (ord v.1) (-1) [])) fun k hk => by
    have := b.ix k (perm.mem_iff.mp hk)
    omega
  simp only [poolR_eq, Res.bind_ok, pair_ok, callM_ok, ed, ew, un_ok, rLen_eq, ev, rNeg_eq, law_chosen_eq hw hd0 sm hv, sortI_eq, idR_eq, best_wishes_eq hw hd0 hv, notR_eq, Bool.not_true, bin_ok, neR_eq, decide_true, e2, List.length_nil, rGt_eq, orR_ok, ifR_ok, e3, sumR_eq]
  rw [if_neg (by simp)]
  obtain ⟨o, eo, ho, po⟩ := (others_is hw hd0 sm pv).get
  simp only [eo, Res.bind_ok]
  refine Is.bind (loopR_inv (J := PI_) po fun x y hx hy => ?_) ?_
  · have hf := ho x hx
    have best := best_of hw hd0 hv hv2 hf.ix hf.nodup hf.free
    have e4 := at_eq_val (v := v.1) (S := x) fun k hk => by
      have := hf.ix k hk
      omega
    simp only [e4, un_ok, sumR_eq, bin_ok, rGt_eq, orR_ok, ifR_ok]
    have s1 : ((isortI (grd w.1 d.1 (ord v.1) (-1) [])).map fun k => v.1.getD k.toNat 0).sum = vsum v.1 (grd w.1 d.1 (ord v.1) (-1) []) := vsum_perm perm
    have s2 : (x.map fun k => v.1.getD k.toNat 0).sum = vsum v.1 x := rfl
    rw [s1, s2, perm.length_eq, if_neg (by simp only [Bool.or_eq_true, decide_eq_true_eq]; omega)]
    exact ⟨y, rfl, hy⟩
  · rintro o ⟨y, rfl, hy⟩
    dsimp only
    rw [push_ok (by rw [perm.length_eq]; have := b.len; omega)]
    simp only [Res.bind_ok, if_neg Bool.false_ne_true, ifMR_eq, andM_eq, liftM_ok, unM_eq, callM_ok, rGt_eq]
    refine Is.bind (Q := fun c : Bool × Pl => c.1 = false ∧ PI_ c.2) ?_ fun c ⟨hc1, hc2⟩ => ?_
    · refine Is.if_ (fun h => ?_) fun _ => ⟨rfl, hy⟩
      have h := of_decide_eq_true h
      obtain ⟨t, et, ht, pt⟩ := (told_is (B := isortI (grd w.1 d.1 (ord v.1) (-1) [])) hw hd0 sm hv (fun k => perm.mem_iff) h hy).get
      simp only [et, Res.bind_ok, notR_eq, ht]
      exact ⟨rfl, pt⟩
    · rw [hc1]
      obtain ⟨r, er, hr⟩ := (refused_right_is hw hc2).get
      simp only [Bool.false_eq_true, if_false, Bool.or_self, er, Res.bind_ok]
      exact hr

end K83
set_option maxHeartbeats 0
namespace K83
open PySem PySem.Spec PyProof.Rows L2 Sd
def dd0 : He.DefD := ⟨("check_wishes", none), "check_wishes", "check_wishes", defArgs s_check_wishes, defBody s_check_wishes, defScope s_check_wishes, [], []⟩
def dd1 : He.DefD := ⟨("inside", none), "inside", "inside", defArgs s_inside, defBody s_inside, defScope s_inside, [], []⟩
def dd2 : He.DefD := ⟨("earliest_plan", none), "earliest_plan", "earliest_plan", defArgs s_earliest_plan, defBody s_earliest_plan, defScope s_earliest_plan, [], []⟩
def dd3 : He.DefD := ⟨("can_call", none), "can_call", "can_call", defArgs s_can_call, defBody s_can_call, defScope s_can_call, [], []⟩
def dd4 : He.DefD := ⟨("check_weights", none), "check_weights", "check_weights", defArgs s_check_weights, defBody s_check_weights, defScope s_check_weights, [], []⟩
def dd5 : He.DefD := ⟨("chosen_until", none), "chosen_until", "chosen_until", defArgs s_chosen_until, defBody s_chosen_until, defScope s_chosen_until, [], []⟩
def dd6 : He.DefD := ⟨("best_wishes", none), "best_wishes", "best_wishes", defArgs s_best_wishes, defBody s_best_wishes, defScope s_best_wishes, [], []⟩
def dd7 : He.DefD := ⟨("reason", none), "reason", "reason", defArgs s_reason, defBody s_reason, defScope s_reason, [], []⟩
def dd8 : He.DefD := ⟨("_law_mix", none), "_law_mix", "_law_mix", defArgs s__law_mix, defBody s__law_mix, defScope s__law_mix, [], []⟩
def dd9 : He.DefD := ⟨("_law_pool", none), "_law_pool", "_law_pool", defArgs s__law_pool, defBody s__law_pool, defScope s__law_pool, [], []⟩
def dd10 : He.DefD := ⟨("_law_fill", none), "_law_fill", "_law_fill", defArgs s__law_fill, defBody s__law_fill, defScope s__law_fill, [], []⟩
def dd11 : He.DefD := ⟨("_law_take", none), "_law_take", "_law_take", defArgs s__law_take, defBody s__law_take, defScope s__law_take, [], []⟩
def dd12 : He.DefD := ⟨("_law_from", none), "_law_from", "_law_from", defArgs s__law_from, defBody s__law_from, defScope s__law_from, [], []⟩
def dd13 : He.DefD := ⟨("_law_wishes", none), "_law_wishes", "_law_wishes", defArgs s__law_wishes, defBody s__law_wishes, defScope s__law_wishes, [], []⟩
def dd14 : He.DefD := ⟨("_law_inside", none), "_law_inside", "_law_inside", defArgs s__law_inside, defBody s__law_inside, defScope s__law_inside, [], []⟩
def dd15 : He.DefD := ⟨("_law_can", none), "_law_can", "_law_can", defArgs s__law_can, defBody s__law_can, defScope s__law_can, [], []⟩
def dd16 : He.DefD := ⟨("_law_chosen", none), "_law_chosen", "_law_chosen", defArgs s__law_chosen, defBody s__law_chosen, defScope s__law_chosen, [], []⟩
def dd17 : He.DefD := ⟨("_law_why", none), "_law_why", "_law_why", defArgs s__law_why, defBody s__law_why, defScope s__law_why, [], []⟩
def dd18 : He.DefD := ⟨("_law_weights", none), "_law_weights", "_law_weights", defArgs s__law_weights, defBody s__law_weights, defScope s__law_weights, [], []⟩
def dd19 : He.DefD := ⟨("_law_other_sets", none), "_law_other_sets", "_law_other_sets", defArgs s__law_other_sets, defBody s__law_other_sets, defScope s__law_other_sets, [], []⟩
def dd20 : He.DefD := ⟨("_law_is_int", none), "_law_is_int", "_law_is_int", defArgs s__law_is_int, defBody s__law_is_int, defScope s__law_is_int, [], []⟩
def dd21 : He.DefD := ⟨("_law_refused", none), "_law_refused", "_law_refused", defArgs s__law_refused, defBody s__law_refused, defScope s__law_refused, [], []⟩
def dd22 : He.DefD := ⟨("_law_refused_right", none), "_law_refused_right", "_law_refused_right", defArgs s__law_refused_right, defBody s__law_refused_right, defScope s__law_refused_right, [], []⟩
def dd23 : He.DefD := ⟨("_law_reasons_told", none), "_law_reasons_told", "_law_reasons_told", defArgs s__law_reasons_told, defBody s__law_reasons_told, defScope s__law_reasons_told, [], []⟩
def dd24 : He.DefD := ⟨("law", none), "law", "law", defArgs s_law, defBody s_law, defScope s_law, [], []⟩
def dd25 : He.DefD := ⟨("DeskError", some "__init__"), "__init__", "DeskError.__init__", defArgs s_err, defBody s_err, defScope s_err, [.int 0], []⟩
def dfs : List He.DefD := [dd0, dd1, dd2, dd3, dd4, dd5, dd6, dd7, dd8, dd9, dd10, dd11, dd12, dd13, dd14, dd15, dd16, dd17, dd18, dd19, dd20, dd21, dd22, dd23, dd24, dd25]
def fas : List He.Fa := [.glo "check_wishes", .glo "inside", .glo "earliest_plan", .glo "can_call", .glo "check_weights", .glo "chosen_until", .glo "best_wishes", .glo "reason", .glo "_law_mix", .glo "_law_pool", .glo "_law_fill", .glo "_law_take", .glo "_law_from", .glo "_law_wishes", .glo "_law_inside", .glo "_law_can", .glo "_law_chosen", .glo "_law_why", .glo "_law_weights", .glo "_law_other_sets", .glo "_law_is_int", .glo "_law_refused", .glo "_law_refused_right", .glo "_law_reasons_told", .glo "law", .free "bool", .free "enumerate", .free "int", .free "isinstance", .free "len", .free "list", .free "range", .free "sorted", .free "sum", .free "tuple", .int "LAST_MINUTE" (60), .int "MOST_WISHES" (20)]
def exB (K : PySem.W.Frag) : Bool := errsB [.DeskError, .TooMany, .Unlike, .BadPair] K
abbrev R : PySem.W.OpenRow := PySem.W.OpenLaw.row PySem.Challenge.rw_stormdesk_k83_best_wishes_and_reasons
abbrev hk : PySem.W.Hook := He.hookX 6 fas dfs [] [] exB
def ob (s : PySem.W.SharedT) : He.AlX := He.obsX 6 fas dfs [] [] exB (HandSHeadRun.getT s)
theorem ob_eq (s : PySem.W.SharedT) : ob s = hk.obs s.abs := He.obsX_eq (HandSHeadRun.getT_eq s)
def lo0 : List PySem.Str := ["DeskError", "TooMany", "Unlike", "BadPair", "MOST_WISHES", "LAST_MINUTE", "check_wishes", "inside", "earliest_plan", "can_call", "check_weights", "chosen_until", "best_wishes", "reason", "_law_mix", "_law_pool", "_law_fill", "_law_take", "_law_from", "_law_wishes", "_law_inside", "_law_can", "_law_chosen", "_law_why", "_law_weights", "_law_other_sets", "_law_is_int", "_law_refused", "_law_refused_right", "_law_reasons_told"]
abbrev lo : List PySem.Str := lo0
theorem run (w : World) : HandSHeadRun.RunEq R (PySem.W.view R.prog [33]) hk ob 6000 lo w := by
  intro os
  kernel_rfl
theorem mk {K : PySem.W.Frag} {w : World} {h : Heap} {mg : Str → Option Value} (X : K.In h) (G : h.Ns mainGlobals mg) (c : He.SaysX fas dfs [] [] exB w h K) : ∃ T : Tx K mg, T.f_law = He.ga K "law" := by
  obtain ⟨d0, F0⟩ := c.t.d.def_ 0 (d := dd0) rfl
  obtain ⟨d1, F1⟩ := c.t.d.def_ 1 (d := dd1) rfl
  obtain ⟨d2, F2⟩ := c.t.d.def_ 2 (d := dd2) rfl
  obtain ⟨d3, F3⟩ := c.t.d.def_ 3 (d := dd3) rfl
  obtain ⟨d4, F4⟩ := c.t.d.def_ 4 (d := dd4) rfl
  obtain ⟨d5, F5⟩ := c.t.d.def_ 5 (d := dd5) rfl
  obtain ⟨d6, F6⟩ := c.t.d.def_ 6 (d := dd6) rfl
  obtain ⟨d7, F7⟩ := c.t.d.def_ 7 (d := dd7) rfl
  obtain ⟨d8, F8⟩ := c.t.d.def_ 8 (d := dd8) rfl
  obtain ⟨d9, F9⟩ := c.t.d.def_ 9 (d := dd9) rfl
  obtain ⟨d10, F10⟩ := c.t.d.def_ 10 (d := dd10) rfl
  obtain ⟨d11, F11⟩ := c.t.d.def_ 11 (d := dd11) rfl
  obtain ⟨d12, F12⟩ := c.t.d.def_ 12 (d := dd12) rfl
  obtain ⟨d13, F13⟩ := c.t.d.def_ 13 (d := dd13) rfl
  obtain ⟨d14, F14⟩ := c.t.d.def_ 14 (d := dd14) rfl
  obtain ⟨d15, F15⟩ := c.t.d.def_ 15 (d := dd15) rfl
  obtain ⟨d16, F16⟩ := c.t.d.def_ 16 (d := dd16) rfl
  obtain ⟨d17, F17⟩ := c.t.d.def_ 17 (d := dd17) rfl
  obtain ⟨d18, F18⟩ := c.t.d.def_ 18 (d := dd18) rfl
  obtain ⟨d19, F19⟩ := c.t.d.def_ 19 (d := dd19) rfl
  obtain ⟨d20, F20⟩ := c.t.d.def_ 20 (d := dd20) rfl
  obtain ⟨d21, F21⟩ := c.t.d.def_ 21 (d := dd21) rfl
  obtain ⟨d22, F22⟩ := c.t.d.def_ 22 (d := dd22) rfl
  obtain ⟨d23, F23⟩ := c.t.d.def_ 23 (d := dd23) rfl
  obtain ⟨d24, F24⟩ := c.t.d.def_ 24 (d := dd24) rfl
  obtain ⟨d25, F25⟩ := c.t.d.def_ 25 (d := dd25) rfl
  obtain ⟨e1, e2, e3⟩ := errsB_ok X G (show errsB [.DeskError, .TooMany, .Unlike, .BadPair] K = true from c.more)
  exact ⟨{ f_check_wishes := He.ga K "check_wishes", d_check_wishes := d0, F_check_wishes := F0, g_check_wishes := He.glo_ok X G (c.t.d.fact 0 (f := .glo "check_wishes") rfl), f_inside := He.ga K "inside", d_inside := d1, F_inside := F1, g_inside := He.glo_ok X G (c.t.d.fact 1 (f := .glo "inside") rfl), f_earliest_plan := He.ga K "earliest_plan", d_earliest_plan := d2, F_earliest_plan := F2, g_earliest_plan := He.glo_ok X G (c.t.d.fact 2 (f := .glo "earliest_plan") rfl), f_can_call := He.ga K "can_call", d_can_call := d3, F_can_call := F3, g_can_call := He.glo_ok X G (c.t.d.fact 3 (f := .glo "can_call") rfl), f_check_weights := He.ga K "check_weights", d_check_weights := d4, F_check_weights := F4, g_check_weights := He.glo_ok X G (c.t.d.fact 4 (f := .glo "check_weights") rfl), f_chosen_until := He.ga K "chosen_until", d_chosen_until := d5, F_chosen_until := F5, g_chosen_until := He.glo_ok X G (c.t.d.fact 5 (f := .glo "chosen_until") rfl), f_best_wishes := He.ga K "best_wishes", d_best_wishes := d6, F_best_wishes := F6, g_best_wishes := He.glo_ok X G (c.t.d.fact 6 (f := .glo "best_wishes") rfl), f_reason := He.ga K "reason", d_reason := d7, F_reason := F7, g_reason := He.glo_ok X G (c.t.d.fact 7 (f := .glo "reason") rfl), f__law_mix := He.ga K "_law_mix", d__law_mix := d8, F__law_mix := F8, g__law_mix := He.glo_ok X G (c.t.d.fact 8 (f := .glo "_law_mix") rfl), f__law_pool := He.ga K "_law_pool", d__law_pool := d9, F__law_pool := F9, g__law_pool := He.glo_ok X G (c.t.d.fact 9 (f := .glo "_law_pool") rfl), f__law_fill := He.ga K "_law_fill", d__law_fill := d10, F__law_fill := F10, g__law_fill := He.glo_ok X G (c.t.d.fact 10 (f := .glo "_law_fill") rfl), f__law_take := He.ga K "_law_take", d__law_take := d11, F__law_take := F11, g__law_take := He.glo_ok X G (c.t.d.fact 11 (f := .glo "_law_take") rfl), f__law_from := He.ga K "_law_from", d__law_from := d12, F__law_from := F12, g__law_from := He.glo_ok X G (c.t.d.fact 12 (f := .glo "_law_from") rfl), f__law_wishes := He.ga K "_law_wishes", d__law_wishes := d13, F__law_wishes := F13, g__law_wishes := He.glo_ok X G (c.t.d.fact 13 (f := .glo "_law_wishes") rfl), f__law_inside := He.ga K "_law_inside", d__law_inside := d14, F__law_inside := F14, g__law_inside := He.glo_ok X G (c.t.d.fact 14 (f := .glo "_law_inside") rfl), f__law_can := He.ga K "_law_can", d__law_can := d15, F__law_can := F15, g__law_can := He.glo_ok X G (c.t.d.fact 15 (f := .glo "_law_can") rfl), f__law_chosen := He.ga K "_law_chosen", d__law_chosen := d16, F__law_chosen := F16, g__law_chosen := He.glo_ok X G (c.t.d.fact 16 (f := .glo "_law_chosen") rfl), f__law_why := He.ga K "_law_why", d__law_why := d17, F__law_why := F17, g__law_why := He.glo_ok X G (c.t.d.fact 17 (f := .glo "_law_why") rfl), f__law_weights := He.ga K "_law_weights", d__law_weights := d18, F__law_weights := F18, g__law_weights := He.glo_ok X G (c.t.d.fact 18 (f := .glo "_law_weights") rfl), f__law_other_sets := He.ga K "_law_other_sets", d__law_other_sets := d19, F__law_other_sets := F19, g__law_other_sets := He.glo_ok X G (c.t.d.fact 19 (f := .glo "_law_other_sets") rfl), f__law_is_int := He.ga K "_law_is_int", d__law_is_int := d20, F__law_is_int := F20, g__law_is_int := He.glo_ok X G (c.t.d.fact 20 (f := .glo "_law_is_int") rfl), f__law_refused := He.ga K "_law_refused", d__law_refused := d21, F__law_refused := F21, g__law_refused := He.glo_ok X G (c.t.d.fact 21 (f := .glo "_law_refused") rfl), f__law_refused_right := He.ga K "_law_refused_right", d__law_refused_right := d22, F__law_refused_right := F22, g__law_refused_right := He.glo_ok X G (c.t.d.fact 22 (f := .glo "_law_refused_right") rfl), f__law_reasons_told := He.ga K "_law_reasons_told", d__law_reasons_told := d23, F__law_reasons_told := F23, g__law_reasons_told := He.glo_ok X G (c.t.d.fact 23 (f := .glo "_law_reasons_told") rfl), f_law := He.ga K "law", d_law := d24, F_law := F24, g_law := He.glo_ok X G (c.t.d.fact 24 (f := .glo "law") rfl), gb_bool := He.free_ok X G (c.t.d.fact 25 (f := .free "bool") rfl), gb_enumerate := He.free_ok X G (c.t.d.fact 26 (f := .free "enumerate") rfl), gb_int := He.free_ok X G (c.t.d.fact 27 (f := .free "int") rfl), gb_isinstance := He.free_ok X G (c.t.d.fact 28 (f := .free "isinstance") rfl), gb_len := He.free_ok X G (c.t.d.fact 29 (f := .free "len") rfl), gb_list := He.free_ok X G (c.t.d.fact 30 (f := .free "list") rfl), gb_range := He.free_ok X G (c.t.d.fact 31 (f := .free "range") rfl), gb_sorted := He.free_ok X G (c.t.d.fact 32 (f := .free "sorted") rfl), gb_sum := He.free_ok X G (c.t.d.fact 33 (f := .free "sum") rfl), gb_tuple := He.free_ok X G (c.t.d.fact 34 (f := .free "tuple") rfl), gi_LAST_MINUTE := He.int_ok X G (c.t.d.fact 35 (f := .int "LAST_MINUTE" (60)) rfl), gi_MOST_WISHES := He.int_ok X G (c.t.d.fact 36 (f := .int "MOST_WISHES" (20)) rfl), f_err := He.fAd K ("DeskError", some "__init__"), d_err := d25, F_err := F25, xs := fun c h => e1 c (of_decide_eq_true h), ki := fun c b h h2 => e2 c b (of_decide_eq_true h) (of_decide_eq_true h2), ex := fun c b h h2 => e3 c b (of_decide_eq_true h) (of_decide_eq_true h2) }, rfl⟩
end K83
open PySem PySem.W PySem.Calls PyProof.Rows
theorem PySem.Challenge.cw_stormdesk_k83_best_wishes_and_reasons_holds : PySem.Challenge.rw_stormdesk_k83_best_wishes_and_reasons.Holds := by
  w_on; o_law
  refine HandSHeadRun.head_any (r := OpenLaw.row PySem.Challenge.rw_stormdesk_k83_best_wishes_and_reasons) (q := view (OpenLaw.row PySem.Challenge.rw_stormdesk_k83_best_wishes_and_reasons).prog [33]) (H := K83.hk) (ob := K83.ob) (M := 6000) (loose := K83.lo) (d := HandSHeadRun.topDef (OpenLaw.row PySem.Challenge.rw_stormdesk_k83_best_wishes_and_reasons).prog 33) (kwd := []) K83.ob_eq
    (by kernel_rfl) (fun s => by kernel_rfl) K83.run (by kernel_rfl) (by kernel_rfl) (by kernel_rfl) (by rfl) (by first | assumption | decide +kernel) (by decide +kernel) ⟨rfl, rfl, rfl, rfl, rfl, by decide +kernel⟩ ?hw ?hc
  case hw => w_witness2
  case hc =>
    refine L2.walk_ofE (l := PySem.Challenge.rw_stormdesk_k83_best_wishes_and_reasons) (n := 63) (k := 8) (x := "script") (CX := L2.CX0) rfl (by decide) (by kernel_rfl) ⟨rfl, by decide, by decide⟩ ?F (fun _ _ _ _ z => z)
    intro w mg fa h Y G hmg0
    obtain ⟨K, KX, c⟩ := Y
    have hmg : mg ("law" : PySem.Str) = some (.ref fa) := by
      have e : (HandSHeadRun.topDef (OpenLaw.row PySem.Challenge.rw_stormdesk_k83_best_wishes_and_reasons).prog 33).name = ("law" : PySem.Str) := by kernel_rfl
      rw [← e]
      exact hmg0
    obtain ⟨T, hT⟩ := K83.mk KX G c
    have e := hmg.symm.trans T.g_law
    have e2 : fa = T.f_law := by
      have e3 := Option.some.inj e
      injection e3
    subst e2
    have b := L2.FunD.bindsA (ps := ["script"]) T.F_law fun _ _ _ _ _ _ us hl => match us, hl with | [_], _ => rfl
    exact ⟨K, T.d_law, Sd.spLaw K K83.m_law, KX, fun s v => b s [v] rfl, fun H a ns hl _ hS => ⟨a, ns, rfl, hS, Nat.le_trans hl (by decide), by rw [K83.law_true ns hl]; exact fun v H' hv => hv⟩, fun base _ _ => K83.ok_law T⟩

