import PyProof.Rows.All
import Wide.All
import OpenK.AllK
import Wide.FinOn
import HandS.ForMost
import HandS.ForExc
import HandS.Walk
import HandS.Sort
import HandS.SortRule
import HandS.SortInts
import HandS.Flow
import HandS.IsInst
import HandS.Gcd
import HandS.ExcInit
import HandS.ExcIs
import HandS.ExcField
import HandS.TryOnly
import HandS.Defaults
import HandS.TupAny
import HandS.Conv
import HandS.Style
import HandS.HeadHook4
import HandS.HeadEnd
import HandS.Head2
import HandS.Evl
import HandS.Wide
import HandS.Head3
import PySem.Challenge.RW_stormdesk_k84_whole_rising_division
set_option Elab.async false
set_option linter.all false
set_option maxRecDepth 100000
set_option maxHeartbeats 4000000
namespace Sd
open PySem L2
/-! ### results -/
inductive Ec where
  | DeskError | TooMany | BadName | BadRatio | BadSpan | BadLine | BadWorld | BadArea | BadGauge | BadRun | BadTable | BadSignals | Unlike
  | BadPerson | BadCall | BadTree | BadRule | BadDeed | NoBulletin | BadPair | Unplayable
  deriving DecidableEq, Repr
inductive Res (α : Type) where
  | ok (a : α)
  | exc (c : Ec) (i : Int)
  | bad
namespace Res
variable {α β γ : Type}
def bind (m : Res α) (k : α → Res β) : Res β := match m with
  | .ok a => k a
  | .exc c i => .exc c i
  | .bad => .bad
@[simp] theorem bind_ok (a : α) (k : α → Res β) : (Res.ok a).bind k = k a := rfl
@[simp] theorem bind_exc (c : Ec) (i : Int) (k : α → Res β) : (Res.exc c i).bind k = .exc c i := rfl
@[simp] theorem bind_bad (k : α → Res β) : (Res.bad).bind k = .bad := rfl
@[simp] theorem bind_assoc (m : Res α) (k : α → Res β) (l : β → Res γ) : (m.bind k).bind l = m.bind fun a => (k a).bind l := by cases m <;> rfl
@[simp] theorem bind_id (m : Res α) : m.bind .ok = m := by cases m <;> rfl
end Res
/-- what is wanted of a result -/
def Post {α : Type} (m : Res α) (Q : α → Prop) (X : Ec → Int → Prop) : Prop := match m with
  | .ok a => Q a
  | .exc c i => X c i
  | .bad => False
section
variable {α β : Type} {m : Res α} {k : α → Res β} {Q Q' : α → Prop} {R : β → Prop} {X X' : Ec → Int → Prop}
theorem Post.bind (h : Post (m.bind k) R X) : Post m (fun a => Post (k a) R X) X := by
  cases m with
  | ok a => exact h
  | exc c i => exact h
  | bad => exact h
theorem Post.of_bind (h : Post m (fun a => Post (k a) R X) X) : Post (m.bind k) R X := by
  cases m with
  | ok a => exact h
  | exc c i => exact h
  | bad => exact h
theorem Post.mono (h : Post m Q X) (q : ∀ a, Q a → Q' a) (x : ∀ c i, X c i → X' c i) : Post m Q' X' := by
  cases m with
  | ok a => exact q a h
  | exc c i => exact x c i h
  | bad => exact h
theorem Post.and (h : Post m Q X) (h' : Post m Q' X) : Post m (fun a => Q a ∧ Q' a) X := by
  cases m with
  | ok a => exact ⟨h, h'⟩
  | exc c i => exact h
  | bad => exact h
end
/-! ### the heap: what is known for good (I), what may change (C) -/
abbrev Ex (H H' : Hp) : Prop := ∀ a o, H a = some o → H' a = some o
theorem Ex.refl (H : Hp) : Ex H H := fun _ _ h => h
theorem Ex.trans {H H1 H2 : Hp} (a : Ex H H1) (b : Ex H1 H2) : Ex H H2 := fun x o h => b x o (a x o h)
theorem Ex.new {H : Hp} {p : Addr} {o : HO} (h : H p = none) : Ex H (upd H p o) := fun a u e => by
  rw [upd_ne (ne_of_none e h)]
  exact e
structure St (I C H : Hp) : Prop where
  i : Ex I H
  c : Ex C H
  s : ∀ a, I a = none ∨ C a = none
theorem Ex.free {H H' : Hp} {p : Addr} (e : Ex H H') (h : H' p = none) : H p = none := by
  cases q : H p with
  | none => rfl
  | some o =>
    rw [e p o q] at h
    cases h
section
variable {I I' C C' H H' : Hp} {p : Addr} {o u : HO}
/-- a new object, known for good -/
theorem St.newI (s : St I C H) (h : H p = none) : St (upd I p o) C (upd H p o) := by
  refine ⟨fun a v e => ?_, fun a v e => ?_, fun a => ?_⟩
  · by_cases q : a = p
    · subst q
      rw [upd_same] at e ⊢
      exact e
    · rw [upd_ne q] at e ⊢
      exact s.i a v e
  · rw [upd_ne (ne_of_none (s.c a v e) h)]
    exact s.c a v e
  · by_cases q : a = p
    · subst q
      exact .inr (s.c.free h)
    · rw [upd_ne q]
      exact s.s a
/-- a new object that may change -/
theorem St.newC (s : St I C H) (h : H p = none) : St I (upd C p o) (upd H p o) := by
  refine ⟨fun a v e => ?_, fun a v e => ?_, fun a => ?_⟩
  · rw [upd_ne (ne_of_none (s.i a v e) h)]
    exact s.i a v e
  · by_cases q : a = p
    · subst q
      rw [upd_same] at e ⊢
      exact e
    · rw [upd_ne q] at e ⊢
      exact s.c a v e
  · by_cases q : a = p
    · subst q
      exact .inl (s.i.free h)
    · rw [upd_ne q]
      exact s.s a
/-- a cell changes -/
theorem St.set (s : St I C H) (h : C p = some u) : St I (upd C p o) (upd H p o) := by
  have hi : I p = none := (s.s p).elim id fun z => by
    rw [z] at h
    cases h
  refine ⟨fun a v e => ?_, fun a v e => ?_, fun a => ?_⟩
  · rw [upd_ne (ne_of_none e hi)]
    exact s.i a v e
  · by_cases q : a = p
    · subst q
      rw [upd_same] at e ⊢
      exact e
    · rw [upd_ne q] at e ⊢
      exact s.c a v e
  · by_cases q : a = p
    · subst q
      exact .inl hi
    · rw [upd_ne q]
      exact s.s a
/-- a cell is known for good from now on -/
theorem St.frz (s : St I C H) (h : C p = some o) : St (upd I p o) (fun a => if a = p then none else C a) H := by
  refine ⟨fun a v e => ?_, fun a v e => ?_, fun a => ?_⟩
  · by_cases q : a = p
    · subst q
      rw [upd_same] at e
      cases e
      exact s.c a o h
    · rw [upd_ne q] at e
      exact s.i a v e
  · by_cases q : a = p
    · rw [if_pos q] at e
      cases e
    · rw [if_neg q] at e
      exact s.c a v e
  · by_cases q : a = p
    · exact .inr (if_pos q)
    · rw [upd_ne q, if_neg q]
      exact s.s a
theorem St.less (s : St I C H) (e : Ex C' C) : St I C' H := ⟨s.i, e.trans s.c, fun a => (s.s a).imp id fun z => e.free z⟩
theorem St.freeI (s : St I C H) (h : C p = some u) : I p = none := (s.s p).elim id fun z => by
  rw [z] at h
  cases h
end
/-! ### representation -/
structure Rp (α : Type) where
  r : α → V → Hp → Hp → Prop
  mono : ∀ {a : α} {v : V} {I I' C C' : Hp}, Ex I I' → Ex C C' → r a v I C → r a v I' C'
/-- .. by what is known for good alone -/
class Im {α : Type} (R : Rp α) : Prop where
  im : ∀ {a : α} {v : V} {I C C' : Hp}, R.r a v I C → R.r a v I C'
theorem Rp.to {α : Type} (R : Rp α) [Im R] {a : α} {v : V} {I I' C C' : Hp} (e : Ex I I') (h : R.r a v I C) : R.r a v I' C' := Im.im (R.mono e (Ex.refl C) h)
/-- item by item -/
inductive A2 {α : Type} (f : α → V → Prop) : List α → List V → Prop where
  | nil : A2 f [] []
  | cons {x : α} {v : V} {xs : List α} {vs : List V} : f x v → A2 f xs vs → A2 f (x :: xs) (v :: vs)
section
variable {α β : Type} {f g : α → V → Prop} {xs ys : List α} {vs ws : List V}
theorem A2.imp (h : ∀ x v, f x v → g x v) : ∀ {xs : List α} {vs : List V}, A2 f xs vs → A2 g xs vs
  | _, _, .nil => .nil
  | _, _, .cons r t => .cons (h _ _ r) (A2.imp h t)
theorem A2.len : ∀ {xs : List α} {vs : List V}, A2 f xs vs → vs.length = xs.length
  | _, _, .nil => rfl
  | _, _, .cons _ t => by rw [List.length_cons, List.length_cons, A2.len t]
theorem A2.get : ∀ {xs : List α} {vs : List V} {i : Nat} {v : V}, A2 f xs vs → vs[i]? = some v → ∃ x, xs[i]? = some x ∧ f x v
  | _, _, _, _, .nil, e => by cases e
  | _, _, 0, _, .cons r _, e => ⟨_, rfl, by
    have e2 := Option.some.inj e
    rw [← e2]
    exact r⟩
  | _, _, i + 1, _, .cons _ t, e => A2.get (i := i) t e
theorem A2.get' : ∀ {xs : List α} {vs : List V} {i : Nat} {x : α}, A2 f xs vs → xs[i]? = some x → ∃ v, vs[i]? = some v ∧ f x v
  | _, _, _, _, .nil, e => by cases e
  | _, _, 0, _, .cons r _, e => ⟨_, rfl, by
    have e2 := Option.some.inj e
    rw [← e2]
    exact r⟩
  | _, _, i + 1, _, .cons _ t, e => A2.get' (i := i) t e
theorem A2.append : ∀ {xs : List α} {vs : List V} {ys : List α} {ws : List V}, A2 f xs vs → A2 f ys ws → A2 f (xs ++ ys) (vs ++ ws)
  | _, _, _, _, .nil, s => s
  | _, _, _, _, .cons r t, s => .cons r (A2.append t s)
theorem A2.take : ∀ {xs : List α} {vs : List V} (n : Nat), A2 f xs vs → A2 f (xs.take n) (vs.take n)
  | _, _, 0, _ => .nil
  | _, _, _ + 1, .nil => .nil
  | _, _, n + 1, .cons r t => .cons r (A2.take n t)
theorem A2.drop : ∀ {xs : List α} {vs : List V} (n : Nat), A2 f xs vs → A2 f (xs.drop n) (vs.drop n)
  | _, _, 0, r => r
  | _, _, _ + 1, .nil => .nil
  | _, _, n + 1, .cons _ t => A2.drop n t
theorem A2.set {x : α} {v : V} (r : f x v) : ∀ {xs : List α} {vs : List V} (i : Nat), A2 f xs vs → A2 f (xs.set i x) (vs.set i v)
  | _, _, _, .nil => .nil
  | _, _, 0, .cons _ t => .cons r t
  | _, _, i + 1, .cons q t => .cons q (A2.set r i t)
theorem A2.dropLast : ∀ {xs : List α} {vs : List V}, A2 f xs vs → A2 f xs.dropLast vs.dropLast
  | _, _, .nil => .nil
  | _, _, .cons _ .nil => .nil
  | _, _, .cons r (.cons q t) => .cons r (A2.dropLast (.cons q t))
theorem A2.one {x : α} {v : V} (h : f x v) : A2 f [x] [v] := .cons h .nil
/-- scalars: the values are a map -/
theorem A2.map_iff {h : α → V} (hf : ∀ x v, f x v → v = h x) : ∀ {xs : List α} {vs : List V}, A2 f xs vs → vs = xs.map h
  | _, _, .nil => rfl
  | _, _, .cons r t => by rw [List.map_cons, hf _ _ r, A2.map_iff hf t]
theorem A2.of_map {h : α → V} (hf : ∀ x, f x (h x)) : ∀ xs : List α, A2 f xs (xs.map h)
  | [] => .nil
  | x :: r => .cons (hf x) (A2.of_map hf r)
end
def pI : Rp Int := ⟨fun i v _ _ => v = .int i, fun _ _ h => h⟩
def pB : Rp Bool := ⟨fun b v _ _ => v = .bl b, fun _ _ h => h⟩
def pS : Rp Str := ⟨fun x v _ _ => v = .str x ∧ PyData.strOk x = true, fun _ _ h => h⟩
def pN : Rp Unit := ⟨fun _ v _ _ => v = .non, fun _ _ h => h⟩
instance : Im pI := ⟨fun h => h⟩
instance : Im pB := ⟨fun h => h⟩
instance : Im pS := ⟨fun h => h⟩
instance : Im pN := ⟨fun h => h⟩
def oR {α : Type} (R : Rp α) (I C : Hp) : Option α → V → Prop
  | none, v => v = .non
  | some a, v => R.r a v I C ∧ v ≠ .non
def pO {α : Type} (R : Rp α) : Rp (Option α) := ⟨fun o v I C => oR R I C o v, fun {a v I I' C C'} e e' h => by
  cases a with
  | none => exact h
  | some a => exact ⟨R.mono e e' h.1, h.2⟩⟩
instance {α : Type} {R : Rp α} [Im R] : Im (pO R) := ⟨fun {a v I C C'} h => by
  cases a with
  | none => exact h
  | some a => exact ⟨Im.im h.1, h.2⟩⟩
theorem ex_l {K : PySem.W.Frag} {H H' : Hp} {a : Addr} {xs : List V} (e : Ex H H') (h : SqL K H a xs) : SqL K H' a xs := by
  rcases h with (h | ⟨o, h⟩) | h
  · exact .inl (.inl (e a _ h))
  · exact .inl (.inr ⟨o, e a _ h⟩)
  · exact .inr h
theorem ex_t {K : PySem.W.Frag} {H H' : Hp} {a : Addr} {xs : List V} (e : Ex H H') (h : SqT K H a xs) : SqT K H' a xs := by
  rcases h with (h | ⟨o, h⟩) | h
  · exact .inl (.inl (e a _ h))
  · exact .inl (.inr ⟨o, e a _ h⟩)
  · exact .inr h
/-- the places of a row of values -/
structure Rt (α : Type) where
  r : α → List V → Hp → Hp → Prop
  mono : ∀ {a : α} {vs : List V} {I I' C C' : Hp}, Ex I I' → Ex C C' → r a vs I C → r a vs I' C'
  n : Nat
  len : ∀ {a : α} {vs : List V} {I C : Hp}, r a vs I C → vs.length = n
class It {α : Type} (T : Rt α) : Prop where
  im : ∀ {a : α} {vs : List V} {I C C' : Hp}, T.r a vs I C → T.r a vs I C'
def t1 {α : Type} (R : Rp α) : Rt α := ⟨fun a vs I C => ∃ v, vs = [v] ∧ R.r a v I C, fun e e' ⟨v, h1, h2⟩ => ⟨v, h1, R.mono e e' h2⟩, 1, fun ⟨_, h, _⟩ => by rw [h]; rfl⟩
def tc {α β : Type} (R : Rp α) (T : Rt β) : Rt (α × β) := ⟨fun p vs I C => ∃ v us, vs = v :: us ∧ R.r p.1 v I C ∧ T.r p.2 us I C, fun e e' ⟨v, us, h1, h2, h3⟩ => ⟨v, us, h1, R.mono e e' h2, T.mono e e' h3⟩, T.n + 1,
  fun ⟨_, _, h, _, h3⟩ => by rw [h, List.length_cons, T.len h3]⟩
instance {α : Type} {R : Rp α} [Im R] : It (t1 R) := ⟨fun ⟨v, h1, h2⟩ => ⟨v, h1, Im.im h2⟩⟩
instance {α β : Type} {R : Rp α} {T : Rt β} [Im R] [It T] : It (tc R T) := ⟨fun ⟨v, us, h1, h2, h3⟩ => ⟨v, us, h1, Im.im h2, It.im h3⟩⟩
section
variable (K : PySem.W.Frag) {α : Type}
/-- a list -/
def pL (R : Rp α) : Rp (List α) := ⟨fun xs v I C => ∃ a vs, v = .ref a ∧ I a = some (.lst vs) ∧ vs.length ≤ sizeLine ∧ A2 (fun x u => R.r x u I C) xs vs,
  fun e e' ⟨a, vs, h1, h2, h3, h4⟩ => ⟨a, vs, h1, e a _ h2, h3, h4.imp fun _ _ => R.mono e e'⟩⟩
/-- a tuple of any length -/
def pQ (R : Rp α) : Rp (List α) := ⟨fun xs v I C => ∃ a vs, v = .ref a ∧ SqT K I a vs ∧ vs.length ≤ sizeLine ∧ A2 (fun x u => R.r x u I C) xs vs,
  fun e e' ⟨a, vs, h1, h2, h3, h4⟩ => ⟨a, vs, h1, ex_t e h2, h3, h4.imp fun _ _ => R.mono e e'⟩⟩
/-- a list that is read: known for good, or a cell -/
def pV (R : Rp α) : Rp (List α) := ⟨fun xs v I C => ∃ a vs, v = .ref a ∧ (I a = some (.lst vs) ∨ C a = some (.lst vs)) ∧ vs.length ≤ sizeLine ∧ A2 (fun x u => R.r x u I C) xs vs,
  fun e e' ⟨a, vs, h1, h2, h3, h4⟩ => ⟨a, vs, h1, h2.imp (e a _) (e' a _), h3, h4.imp fun _ _ => R.mono e e'⟩⟩
/-- the script -/
def pW (R : Rp α) : Rp (List α) := ⟨fun xs v I C => ∃ a vs, v = .ref a ∧ SqL K I a vs ∧ vs.length ≤ sizeLine ∧ A2 (fun x u => R.r x u I C) xs vs,
  fun e e' ⟨a, vs, h1, h2, h3, h4⟩ => ⟨a, vs, h1, ex_l e h2, h3, h4.imp fun _ _ => R.mono e e'⟩⟩
/-- a tuple, a list, with fixed places -/
def pT (T : Rt α) : Rp α := ⟨fun x v I C => ∃ a vs, v = .ref a ∧ I a = some (.tup vs) ∧ T.r x vs I C, fun e e' ⟨a, vs, h1, h2, h3⟩ => ⟨a, vs, h1, e a _ h2, T.mono e e' h3⟩⟩
/-- a tuple that may stand in the written part -/
def pU (T : Rt α) : Rp α := ⟨fun x v I C => ∃ a vs, v = .ref a ∧ SqT K I a vs ∧ T.r x vs I C, fun e e' ⟨a, vs, h1, h2, h3⟩ => ⟨a, vs, h1, ex_t e h2, T.mono e e' h3⟩⟩
def pD (T : Rt α) : Rp α := ⟨fun x v I C => ∃ a vs, v = .ref a ∧ I a = some (.lst vs) ∧ T.r x vs I C, fun e e' ⟨a, vs, h1, h2, h3⟩ => ⟨a, vs, h1, e a _ h2, T.mono e e' h3⟩⟩
instance {T : Rt α} [It T] : Im (pU K T) := ⟨fun ⟨a, vs, h1, h2, h3⟩ => ⟨a, vs, h1, h2, It.im h3⟩⟩
instance {R : Rp α} [Im R] : Im (pW K R) := ⟨fun ⟨a, vs, h1, h2, h3, h4⟩ => ⟨a, vs, h1, h2, h3, h4.imp fun _ _ => Im.im⟩⟩
instance {R : Rp α} [Im R] : Im (pL R) := ⟨fun ⟨a, vs, h1, h2, h3, h4⟩ => ⟨a, vs, h1, h2, h3, h4.imp fun _ _ => Im.im⟩⟩
instance {R : Rp α} [Im R] : Im (pQ K R) := ⟨fun ⟨a, vs, h1, h2, h3, h4⟩ => ⟨a, vs, h1, h2, h3, h4.imp fun _ _ => Im.im⟩⟩
instance {T : Rt α} [It T] : Im (pT T) := ⟨fun ⟨a, vs, h1, h2, h3⟩ => ⟨a, vs, h1, h2, It.im h3⟩⟩
instance {T : Rt α} [It T] : Im (pD T) := ⟨fun ⟨a, vs, h1, h2, h3⟩ => ⟨a, vs, h1, h2, It.im h3⟩⟩
end
/-- the k-th place of such a row, its reading f -/
def Pj {α β : Type} (T : Rt α) (k : Nat) (f : α → β) (R : Rp β) : Prop := ∀ x vs I C, T.r x vs I C → ∃ w, vs[k]? = some w ∧ R.r (f x) w I C
theorem pj1 {α : Type} {R : Rp α} : Pj (t1 R) 0 (fun x => x) R := fun x vs I C ⟨v, h1, h2⟩ => ⟨v, by rw [h1]; rfl, h2⟩
theorem pj0 {α β : Type} {R : Rp α} {T : Rt β} : Pj (tc R T) 0 (fun x => x.1) R := fun x vs I C ⟨v, us, h1, h2, _⟩ => ⟨v, by rw [h1]; rfl, h2⟩
theorem pjs {α β γ : Type} {R : Rp α} {T : Rt β} {S : Rp γ} {k : Nat} {f : β → γ} (h : Pj T k f S) : Pj (tc R T) (k + 1) (fun x => f x.2) S := fun x vs I C ⟨v, us, h1, _, h3⟩ => by
  obtain ⟨w, e, r⟩ := h x.2 us I C h3
  exact ⟨w, by rw [h1]; exact e, r⟩
/-- the k-th place stored -/
def Pk {α β : Type} (T : Rt α) (k : Nat) (g : α → β → α) (R : Rp β) : Prop := ∀ x vs I C b w, T.r x vs I C → R.r b w I C → T.r (g x b) (vs.set k w) I C ∧ k < vs.length
theorem pk1 {α : Type} {R : Rp α} : Pk (t1 R) 0 (fun _ b => b) R := fun x vs I C b w ⟨v, h1, h2⟩ r => by
  subst h1
  exact ⟨⟨w, rfl, r⟩, Nat.zero_lt_one⟩
theorem pk0 {α β : Type} {R : Rp α} {T : Rt β} : Pk (tc R T) 0 (fun x b => (b, x.2)) R := fun x vs I C b w ⟨v, us, h1, h2, h3⟩ r => by
  subst h1
  exact ⟨⟨w, us, rfl, r, h3⟩, Nat.succ_pos _⟩
theorem pks {α β γ : Type} {R : Rp α} {T : Rt β} {S : Rp γ} {k : Nat} {g : β → γ → β} (h : Pk T k g S) : Pk (tc R T) (k + 1) (fun x b => (x.1, g x.2 b)) S := fun x vs I C b w ⟨v, us, h1, h2, h3⟩ r => by
  subst h1
  obtain ⟨q, l⟩ := h x.2 us I C b w h3 r
  exact ⟨⟨v, us.set k w, rfl, h2, q⟩, Nat.succ_lt_succ l⟩

/-! ### what an expression gives -/
def Ec.name : Ec → Str
  | .DeskError => "DeskError" | .TooMany => "TooMany" | .BadName => "BadName" | .BadRatio => "BadRatio" | .BadSpan => "BadSpan" | .BadLine => "BadLine"
  | .BadWorld => "BadWorld" | .BadArea => "BadArea" | .BadGauge => "BadGauge" | .BadRun => "BadRun" | .BadTable => "BadTable" | .BadSignals => "BadSignals"
  | .Unlike => "Unlike" | .BadPerson => "BadPerson" | .BadCall => "BadCall" | .BadTree => "BadTree" | .BadRule => "BadRule" | .BadDeed => "BadDeed"
  | .NoBulletin => "NoBulletin" | .BadPair => "BadPair" | .Unplayable => "Unplayable"
/-- what is wanted of an error that leaves: E, where all stands as it was -/
def PX (E : XK) (K : PySem.W.Frag) (I C : Hp) (c : Ec) (i : Int) : Prop := ∀ d I2 H2, Ex I I2 → St I2 C H2 → I2 d = some (.xd [(("at" : Str), .int i)]) → E (.ref (He.ga K c.name)) (some d) H2
theorem PX.mono {E : XK} {K : PySem.W.Frag} {I I' C C' : Hp} {c : Ec} {i : Int} (e : Ex I I') (e' : Ex C C') (h : PX E K I C c i) : PX E K I' C' c i := fun d I2 H2 a s q => h d I2 H2 (e.trans a) (s.less e') q
abbrev PQ {α : Type} (R : Rp α) (I C : Hp) (Q : VK) (a : α) : Prop := ∀ v I2 H2, Ex I I2 → St I2 C H2 → R.r a v I2 C → Q v H2
def EvX (E : XK) (K : PySem.W.Frag) (te : TE) (σ : L2.St) (I C : Hp) {α : Type} (m : Res α) (R : Rp α) : Prop :=
  ∀ I1 C1 H1, Ex I I1 → Ex C C1 → St I1 C1 H1 → ∀ Q : VK, Post m (PQ R I1 C1 Q) (PX E K I1 C1) → te σ H1 Q
def EvT (E : XK) (K : PySem.W.Frag) (tt : TT) (σ : L2.St) (I C : Hp) (m : Res Bool) : Prop :=
  ∀ I1 C1 H1, Ex I I1 → Ex C C1 → St I1 C1 H1 → ∀ Q : Bool → Hp → Prop, Post m (fun b => ∀ I2 H2, Ex I1 I2 → St I2 C1 H2 → Q b H2) (PX E K I1 C1) → tt σ H1 Q
def EvA (E : XK) (K : PySem.W.Frag) (ta : TA) (σ : L2.St) (I C : Hp) {α : Type} (m : Res α) (T : Rt α) : Prop :=
  ∀ I1 C1 H1, Ex I I1 → Ex C C1 → St I1 C1 H1 → ∀ Q : List V → Hp → Prop, Post m (fun a => ∀ vs I2 H2, Ex I1 I2 → St I2 C1 H2 → T.r a vs I2 C1 → Q vs H2) (PX E K I1 C1) → ta σ H1 Q
/-- a rule on values -/
def Op1 (E : XK) (K : PySem.W.Frag) (r : V → Hp → VK → Prop) {α γ : Type} (f : α → Res γ) (R : Rp α) (T : Rp γ) : Prop :=
  ∀ I C H a x, St I C H → R.r a x I C → ∀ Q : VK, Post (f a) (PQ T I C Q) (PX E K I C) → r x H Q
def Op2 (E : XK) (K : PySem.W.Frag) (r : R2) {α β γ : Type} (f : α → β → Res γ) (R : Rp α) (S : Rp β) (T : Rp γ) : Prop :=
  ∀ I C H a b x y, St I C H → R.r a x I C → S.r b y I C → ∀ Q : VK, Post (f a b) (PQ T I C Q) (PX E K I C) → r x y H Q
def OpL (E : XK) (K : PySem.W.Frag) (r : List V → Hp → VK → Prop) {α γ : Type} (f : α → Res γ) (R : Rt α) (T : Rp γ) : Prop :=
  ∀ I C H a vs, St I C H → R.r a vs I C → ∀ Q : VK, Post (f a) (PQ T I C Q) (PX E K I C) → r vs H Q
def un {α γ : Type} (f : α → Res γ) (m : Res α) : Res γ := m.bind f
def bin {α β γ : Type} (f : α → β → Res γ) (m : Res α) (n : Res β) : Res γ := m.bind fun a => n.bind fun b => f a b
def pair {α β : Type} (m : Res α) (n : Res β) : Res (α × β) := m.bind fun a => n.bind fun b => .ok (a, b)
@[simp] theorem un_ok {α γ : Type} (f : α → Res γ) (a : α) : un f (.ok a) = f a := rfl
@[simp] theorem bin_ok {α β γ : Type} (f : α → β → Res γ) (a : α) (b : β) : bin f (.ok a) (.ok b) = f a b := rfl
@[simp] theorem pair_ok {α β : Type} (a : α) (b : β) : pair (.ok a) (.ok b) = .ok (a, b) := rfl
section
variable {E : XK} {K : PySem.W.Frag} {σ : L2.St} {I I' C C' : Hp} {α β γ : Type} {m : Res α} {n : Res β} {R : Rp α} {S : Rp β} {T : Rp γ} {ta tb te : TE} {tt tu : TT}
theorem EvX.mono (e : Ex I I') (e' : Ex C C') (h : EvX E K te σ I C m R) : EvX E K te σ I' C' m R := fun I1 C1 H1 a b s Q q => h I1 C1 H1 (e.trans a) (e'.trans b) s Q q
theorem PQ.ret {I1 C1 H1 : Hp} {Q : VK} {a : α} {v : V} (q : PQ R I1 C1 Q a) (s : St I1 C1 H1) (r : R.r a v I1 C1) : Q v H1 := q v I1 H1 (Ex.refl _) s r
theorem x_var {i : Nat} {v : V} {a : α} (h : σ[i]? = some (some v)) (r : R.r a v I C) : EvX E K (tVar i) σ I C (.ok a) R := fun I1 C1 H1 e e' s Q q => ⟨v, h, PQ.ret (R := R) (a := a) q s (R.mono e e' r)⟩
theorem x_c {v : V} {a : α} (r : ∀ I C, R.r a v I C) : EvX E K (tC v) σ I C (.ok a) R := fun I1 C1 H1 e e' s Q q => PQ.ret (R := R) (a := a) q s (r _ _)
theorem x_int {i : Int} : EvX E K (tC (.int i)) σ I C (.ok i) pI := x_c fun _ _ => rfl
theorem x_bl {b : Bool} : EvX E K (tC (.bl b)) σ I C (.ok b) pB := x_c fun _ _ => rfl
theorem x_str {x : Str} (h : PyData.strOk x = true) : EvX E K (tC (.str x)) σ I C (.ok x) pS := x_c fun _ _ => ⟨rfl, h⟩
theorem x_non : EvX E K (tC .non) σ I C (.ok ()) pN := x_c fun _ _ => rfl
theorem x_un {r : V → Hp → VK → Prop} {f : α → Res γ} (hr : Op1 E K r f R T) (h : EvX E K ta σ I C m R) : EvX E K (tUn r ta) σ I C (un f m) T := fun I1 C1 H1 e e' s Q q =>
  h I1 C1 H1 e e' s _ ((Post.bind q).mono (fun a p v I2 H2 e2 s2 rv => hr I2 C1 H2 a v s2 rv Q (p.mono (fun c z w I3 H3 e3 s3 rw => z w I3 H3 (e2.trans e3) s3 rw) fun c i z => z.mono e2 (Ex.refl _))) fun _ _ z => z)
theorem x_op {r : R2} {f : α → β → Res γ} (hr : Op2 E K r f R S T) (h1 : EvX E K ta σ I C m R) (h2 : EvX E K tb σ I C n S) : EvX E K (tOp r ta tb) σ I C (bin f m n) T := fun I1 C1 H1 e e' s Q q =>
  h1 I1 C1 H1 e e' s _ ((Post.bind q).mono (fun a p x I2 H2 e2 s2 rx =>
    h2 I2 C1 H2 (e.trans e2) e' s2 _ ((Post.bind p).mono (fun b p2 y I3 H3 e3 s3 ry =>
      hr I3 C1 H3 a b x y s3 (R.mono e3 (Ex.refl _) rx) ry Q (p2.mono (fun c z w I4 H4 e4 s4 rw => z w I4 H4 (e2.trans (e3.trans e4)) s4 rw) fun c i z => z.mono (e2.trans e3) (Ex.refl _))) fun c i z => z.mono e2 (Ex.refl _)))
    fun _ _ z => z)
theorem a_nil : EvA E K tNil σ I C (.ok ()) (⟨fun _ vs _ _ => vs = [], fun _ _ h => h, 0, fun h => by rw [h]; rfl⟩ : Rt Unit) := fun I1 C1 H1 e e' s Q q => q [] I1 H1 (Ex.refl _) s rfl
theorem a_one (h : EvX E K ta σ I C m R) : EvA E K (tCons ta tNil) σ I C m (t1 R) := fun I1 C1 H1 e e' s Q q =>
  h I1 C1 H1 e e' s _ (q.mono (fun a p v I2 H2 e2 s2 rv => p [v] I2 H2 e2 s2 ⟨v, rfl, rv⟩) fun _ _ z => z)
theorem a_cons {tr : TA} {T : Rt β} (h1 : EvX E K ta σ I C m R) (h2 : EvA E K tr σ I C n T) : EvA E K (tCons ta tr) σ I C (pair m n) (tc R T) := fun I1 C1 H1 e e' s Q q =>
  h1 I1 C1 H1 e e' s _ ((Post.bind q).mono (fun a p x I2 H2 e2 s2 rx =>
    h2 I2 C1 H2 (e.trans e2) e' s2 _ ((Post.bind p).mono (fun b p2 ys I3 H3 e3 s3 ry => p2 (x :: ys) I3 H3 (e2.trans e3) s3 ⟨x, ys, rfl, R.mono e3 (Ex.refl _) rx, ry⟩) fun c i z => z.mono e2 (Ex.refl _)))
    fun _ _ z => z)
theorem x_cb {r : List V → Hp → VK → Prop} {f : α → Res γ} {A : Rt α} {tr : TA} (hr : OpL E K r f A T) (h : EvA E K tr σ I C m A) : EvX E K (tCB r tr) σ I C (un f m) T := fun I1 C1 H1 e e' s Q q =>
  h I1 C1 H1 e e' s _ ((Post.bind q).mono (fun a p vs I2 H2 e2 s2 rv => hr I2 C1 H2 a vs s2 rv Q (p.mono (fun c z w I3 H3 e3 s3 rw => z w I3 H3 (e2.trans e3) s3 rw) fun c i z => z.mono e2 (Ex.refl _))) fun _ _ z => z)
/-- tuples, lists with fixed places -/
theorem x_tup {A : Rt α} {tr : TA} (h : EvA E K tr σ I C m A) (hn : A.n ≤ 100) : EvX E K (tTup tr) σ I C m (pT A) := fun I1 C1 H1 e e' s Q q =>
  h I1 C1 H1 e e' s _ (q.mono (fun a p vs I2 H2 e2 s2 rv => ⟨by rw [A.len rv]; exact Nat.le_trans hn (by decide), fun t ht => p _ (upd I2 t (.tup vs)) _ (e2.trans (Ex.new (s2.i.free ht))) (s2.newI ht) ⟨t, vs, rfl, upd_same, A.mono (Ex.new (s2.i.free ht)) (Ex.refl _) rv⟩⟩) fun _ _ z => z)
theorem x_lstD {A : Rt α} {tr : TA} (h : EvA E K tr σ I C m A) (hn : A.n ≤ 100) : EvX E K (tLst tr) σ I C m (pD A) := fun I1 C1 H1 e e' s Q q =>
  h I1 C1 H1 e e' s _ (q.mono (fun a p vs I2 H2 e2 s2 rv => ⟨by rw [A.len rv]; exact Nat.le_trans hn (by decide), fun t ht => p _ (upd I2 t (.lst vs)) _ (e2.trans (Ex.new (s2.i.free ht))) (s2.newI ht) ⟨t, vs, rfl, upd_same, A.mono (Ex.new (s2.i.free ht)) (Ex.refl _) rv⟩⟩) fun _ _ z => z)
/-- a row of things of one kind -/
def tL (R : Rp α) (n : Nat) : Rt (List α) := ⟨fun xs vs I C => vs.length = n ∧ A2 (fun x u => R.r x u I C) xs vs, fun e e' ⟨h1, h2⟩ => ⟨h1, h2.imp fun _ _ => R.mono e e'⟩, n, fun h => h.1⟩
def consR (m : Res α) (n : Res (List α)) : Res (List α) := m.bind fun a => n.bind fun b => .ok (a :: b)
theorem al_nil : EvA E K tNil σ I C (.ok []) (tL R 0) := fun I1 C1 H1 e e' s Q q => q [] I1 H1 (Ex.refl _) s ⟨rfl, .nil⟩
theorem al_cons {tr : TA} {k : Nat} {n : Res (List α)} (h1 : EvX E K ta σ I C m R) (h2 : EvA E K tr σ I C n (tL R k)) : EvA E K (tCons ta tr) σ I C (consR m n) (tL R (k + 1)) := fun I1 C1 H1 e e' s Q q =>
  h1 I1 C1 H1 e e' s _ ((Post.bind q).mono (fun a p x I2 H2 e2 s2 rx =>
    h2 I2 C1 H2 (e.trans e2) e' s2 _ ((Post.bind p).mono (fun b p2 ys I3 H3 e3 s3 ry => p2 (x :: ys) I3 H3 (e2.trans e3) s3 ⟨by rw [List.length_cons, ry.1], .cons (R.mono e3 (Ex.refl _) rx) ry.2⟩) fun c i z => z.mono e2 (Ex.refl _)))
    fun _ _ z => z)
theorem x_lst {k : Nat} {m : Res (List α)} {tr : TA} (h : EvA E K tr σ I C m (tL R k)) (hn : k ≤ 100) : EvX E K (tLst tr) σ I C m (pL R) := fun I1 C1 H1 e e' s Q q =>
  h I1 C1 H1 e e' s _ (q.mono (fun a p vs I2 H2 e2 s2 rv => by
    have hl : vs.length ≤ sizeLine := by
      rw [rv.1]
      exact Nat.le_trans hn (by decide)
    exact ⟨hl, fun t ht => p _ (upd I2 t (.lst vs)) _ (e2.trans (Ex.new (s2.i.free ht))) (s2.newI ht) ⟨t, vs, rfl, upd_same, hl, rv.2.imp fun _ _ => R.mono (Ex.new (s2.i.free ht)) (Ex.refl _)⟩⟩) fun _ _ z => z)
/-- a list as one that is read -/
theorem x_v {m : Res (List α)} (h : EvX E K te σ I C m (pL R)) : EvX E K te σ I C m (pV R) := fun I1 C1 H1 e e' s Q q =>
  h I1 C1 H1 e e' s Q (q.mono (fun a p v I2 H2 e2 s2 ⟨a, vs, h1, h2, h3, h4⟩ => p v I2 H2 e2 s2 ⟨a, vs, h1, .inl h2, h3, h4⟩) fun _ _ z => z)
theorem x_is' {β : Type} {T : Rt β} {tr : TA} {m m' : Res β} (h : EvA E K tr σ I C m T) (e : m = m') : EvA E K tr σ I C m' T := e ▸ h
theorem x_is {m' : Res α} (h : EvX E K te σ I C m R) (e : m = m') : EvX E K te σ I C m' R := e ▸ h
/-! tests -/
theorem t_test {m : Res Bool} (h : EvX E K te σ I C m pB) : EvT E K (tTest te) σ I C m := fun I1 C1 H1 e e' s Q q => h I1 C1 H1 e e' s _ (q.mono (fun b p v I2 H2 e2 s2 rv => ⟨b, rv, p I2 H2 e2 s2⟩) fun _ _ z => z)
theorem t_B {m : Res Bool} (h : EvX E K te σ I C m pB) : EvT E K (tB te) σ I C m := fun I1 C1 H1 e e' s Q q => h I1 C1 H1 e e' s _ (q.mono (fun b p v I2 H2 e2 s2 rv => ⟨b, rv, p I2 H2 e2 s2⟩) fun _ _ z => z)
def andR (m n : Res Bool) : Res Bool := m.bind fun b => if b = true then n else .ok false
def orR (m n : Res Bool) : Res Bool := m.bind fun b => if b = true then .ok true else n
def notR (b : Bool) : Res Bool := .ok (!b)
@[simp] theorem andR_ok (a b : Bool) : andR (.ok a) (.ok b) = .ok (a && b) := by cases a <;> rfl
@[simp] theorem orR_ok (a b : Bool) : orR (.ok a) (.ok b) = .ok (a || b) := by cases a <;> rfl
@[simp] theorem andR_true (m : Res Bool) : andR (.ok true) m = m := rfl
@[simp] theorem andR_false (m : Res Bool) : andR (.ok false) m = .ok false := rfl
@[simp] theorem orR_true (m : Res Bool) : orR (.ok true) m = .ok true := rfl
@[simp] theorem orR_false (m : Res Bool) : orR (.ok false) m = m := rfl
@[simp] theorem notR_eq (b : Bool) : notR b = .ok (!b) := rfl
theorem t_and {m n : Res Bool} (h1 : EvT E K tt σ I C m) (h2 : EvT E K tu σ I C n) : EvT E K (tAnd tt tu) σ I C (andR m n) := fun I1 C1 H1 e e' s Q q =>
  h1 I1 C1 H1 e e' s _ ((Post.bind q).mono (fun b p I2 H2 e2 s2 => by
    cases b with
    | true => exact h2 I2 C1 H2 (e.trans e2) e' s2 Q (Post.mono (m := n) p (fun b z I3 H3 e3 s3 => z I3 H3 (e2.trans e3) s3) fun c i z => z.mono e2 (Ex.refl _))
    | false => exact p I2 H2 e2 s2) fun _ _ z => z)
theorem t_or {m n : Res Bool} (h1 : EvT E K tt σ I C m) (h2 : EvT E K tu σ I C n) : EvT E K (tOr tt tu) σ I C (orR m n) := fun I1 C1 H1 e e' s Q q =>
  h1 I1 C1 H1 e e' s _ ((Post.bind q).mono (fun b p I2 H2 e2 s2 => by
    cases b with
    | false => exact h2 I2 C1 H2 (e.trans e2) e' s2 Q (Post.mono (m := n) p (fun b z I3 H3 e3 s3 => z I3 H3 (e2.trans e3) s3) fun c i z => z.mono e2 (Ex.refl _))
    | true => exact p I2 H2 e2 s2) fun _ _ z => z)
theorem t_not {m : Res Bool} (h : EvT E K tt σ I C m) : EvT E K (tNot tt) σ I C (un notR m) := fun I1 C1 H1 e e' s Q q =>
  h I1 C1 H1 e e' s _ ((Post.bind q).mono (fun b p I2 H2 e2 s2 => p I2 H2 e2 s2) fun _ _ z => z)
theorem x_andV {m n : Res Bool} (h1 : EvX E K ta σ I C m pB) (h2 : EvX E K tb σ I C n pB) : EvX E K (tAndV ta tb) σ I C (andR m n) pB := fun I1 C1 H1 e e' s Q q =>
  h1 I1 C1 H1 e e' s _ ((Post.bind q).mono (fun b p v I2 H2 e2 s2 rv => ⟨b, rv, by
    cases b with
    | true => exact h2 I2 C1 H2 (e.trans e2) e' s2 Q (Post.mono (m := n) p (fun b z v I3 H3 e3 s3 => z v I3 H3 (e2.trans e3) s3) fun c i z => z.mono e2 (Ex.refl _))
    | false => exact p (.bl false) I2 H2 e2 s2 rfl⟩) fun _ _ z => z)
theorem x_orV {m n : Res Bool} (h1 : EvX E K ta σ I C m pB) (h2 : EvX E K tb σ I C n pB) : EvX E K (tOrV ta tb) σ I C (orR m n) pB := fun I1 C1 H1 e e' s Q q =>
  h1 I1 C1 H1 e e' s _ ((Post.bind q).mono (fun b p v I2 H2 e2 s2 rv => ⟨b, rv, by
    cases b with
    | false => exact h2 I2 C1 H2 (e.trans e2) e' s2 Q (Post.mono (m := n) p (fun b z v I3 H3 e3 s3 => z v I3 H3 (e2.trans e3) s3) fun c i z => z.mono e2 (Ex.refl _))
    | true => exact p (.bl true) I2 H2 e2 s2 rfl⟩) fun _ _ z => z)
theorem x_notV {m : Res Bool} (h : EvX E K te σ I C m pB) : EvX E K (tNotV te) σ I C (un notR m) pB := fun I1 C1 H1 e e' s Q q =>
  h I1 C1 H1 e e' s _ ((Post.bind q).mono (fun b p v I2 H2 e2 s2 rv => ⟨b, rv, p _ I2 H2 e2 s2 rfl⟩) fun _ _ z => z)
def ifR {α : Type} (c : Res Bool) (m n : Res α) : Res α := c.bind fun b => if b = true then m else n
@[simp] theorem ifR_ok {α : Type} (b : Bool) (m n : Res α) : ifR (.ok b) m n = if b = true then m else n := rfl
theorem x_if {c : Res Bool} {m n : Res α} (h : EvT E K tt σ I C c) (h1 : EvX E K ta σ I C m R) (h2 : EvX E K tb σ I C n R) : EvX E K (tIf tt ta tb) σ I C (ifR c m n) R := fun I1 C1 H1 e e' s Q q =>
  h I1 C1 H1 e e' s _ ((Post.bind q).mono (fun b p I2 H2 e2 s2 => by
    cases b with
    | true => exact h1 I2 C1 H2 (e.trans e2) e' s2 Q (Post.mono (m := m) p (fun b z v I3 H3 e3 s3 => z v I3 H3 (e2.trans e3) s3) fun c i z => z.mono e2 (Ex.refl _))
    | false => exact h2 I2 C1 H2 (e.trans e2) e' s2 Q (Post.mono (m := n) p (fun b z v I3 H3 e3 s3 => z v I3 H3 (e2.trans e3) s3) fun c i z => z.mono e2 (Ex.refl _))) fun _ _ z => z)
end
end Sd

namespace Sd
open PySem L2
/-! ### rules on values -/
section
variable {E : XK} {K : PySem.W.Frag} {α β γ : Type} {R : Rp α}
theorem PQ.now {I C H : Hp} {Q : VK} {a : α} {v : V} (q : PQ R I C Q a) (s : St I C H) (r : R.r a v I C) : Q v H := q v I H (Ex.refl _) s r
def rAdd (a b : Int) : Res Int := .ok (a + b)
def rSub (a b : Int) : Res Int := .ok (a - b)
def rMul (a b : Int) : Res Int := if (-(2 ^ 64) < a ∧ a < 2 ^ 64) ∨ (-(2 ^ 64) < b ∧ b < 2 ^ 64) then .ok (a * b) else .bad
def rMod (a b : Int) : Res Int := if 0 < b then .ok (a % b) else .bad
def rDiv (a b : Int) : Res Int := if 0 < b ∧ b < 1073741824 then .ok (a / b) else .bad
def rPow (a b : Int) : Res Int := if 0 ≤ b ∧ b ≤ 1000000 ∧ a.natAbs < 2 ^ 64 then .ok (a ^ b.toNat) else .bad
def rNeg (a : Int) : Res Int := .ok (-a)
@[simp] theorem rAdd_eq (a b : Int) : rAdd a b = .ok (a + b) := rfl
@[simp] theorem rSub_eq (a b : Int) : rSub a b = .ok (a - b) := rfl
@[simp] theorem rNeg_eq (a : Int) : rNeg a = .ok (-a) := rfl
theorem rMul_ok {a b : Int} (h : (-(2 ^ 64) < a ∧ a < 2 ^ 64) ∨ (-(2 ^ 64) < b ∧ b < 2 ^ 64)) : rMul a b = .ok (a * b) := if_pos h
theorem rMod_ok {a b : Int} (h : 0 < b) : rMod a b = .ok (a % b) := if_pos h
theorem rDiv_ok {a b : Int} (h : 0 < b ∧ b < 1073741824) : rDiv a b = .ok (a / b) := if_pos h
theorem rPow_ok {a b : Int} (h : 0 ≤ b ∧ b ≤ 1000000 ∧ a.natAbs < 2 ^ 64) : rPow a b = .ok (a ^ b.toNat) := if_pos h
theorem o_add : Op2 E K (rI0 fun i j => .int (i + j)) rAdd pI pI pI := fun I C H a b x y s hx hy Q q => ⟨a, b, hx, hy, PQ.now q s rfl⟩
theorem o_sub : Op2 E K (rI0 fun i j => .int (i - j)) rSub pI pI pI := fun I C H a b x y s hx hy Q q => ⟨a, b, hx, hy, PQ.now q s rfl⟩
theorem o_mul : Op2 E K (rI CMul fun i j => .int (i * j)) rMul pI pI pI := fun I C H a b x y s hx hy Q q => by
  unfold rMul at q
  split at q
  · rename_i h
    exact ⟨a, b, hx, hy, h, PQ.now q s rfl⟩
  · exact q.elim
theorem o_mod : Op2 E K (rI (fun _ j => 0 < j) fun i j => .int (i % j)) rMod pI pI pI := fun I C H a b x y s hx hy Q q => by
  unfold rMod at q
  split at q
  · rename_i h
    exact ⟨a, b, hx, hy, h, PQ.now q s rfl⟩
  · exact q.elim
theorem o_fdiv : Op2 E K (rI CDiv fun i j => .int (i / j)) rDiv pI pI pI := fun I C H a b x y s hx hy Q q => by
  unfold rDiv at q
  split at q
  · rename_i h
    exact ⟨a, b, hx, hy, h, PQ.now q s rfl⟩
  · exact q.elim
theorem o_pow : Op2 E K (rI CPow fun i j => .int (i ^ j.toNat)) rPow pI pI pI := fun I C H a b x y s hx hy Q q => by
  unfold rPow at q
  split at q
  · rename_i h
    exact ⟨a, b, hx, hy, h, PQ.now q s rfl⟩
  · exact q.elim
theorem o_neg : Op1 E K (rU fun i => .int (-i)) rNeg pI pI := fun I C H a x s hx Q q => ⟨a, hx, PQ.now q s rfl⟩
/-! comparisons -/
def rLt (a b : Int) : Res Bool := .ok (decide (a < b))
def rLe (a b : Int) : Res Bool := .ok (decide (a ≤ b))
def rGt (a b : Int) : Res Bool := .ok (decide (b < a))
def rGe (a b : Int) : Res Bool := .ok (decide (b ≤ a))
@[simp] theorem rLt_eq (a b : Int) : rLt a b = .ok (decide (a < b)) := rfl
@[simp] theorem rLe_eq (a b : Int) : rLe a b = .ok (decide (a ≤ b)) := rfl
@[simp] theorem rGt_eq (a b : Int) : rGt a b = .ok (decide (b < a)) := rfl
@[simp] theorem rGe_eq (a b : Int) : rGe a b = .ok (decide (b ≤ a)) := rfl
theorem o_lt : Op2 E K (rI0 fun i j => .bl (decide (i < j))) rLt pI pI pB := fun I C H a b x y s hx hy Q q => ⟨a, b, hx, hy, PQ.now q s rfl⟩
theorem o_le : Op2 E K (rI0 fun i j => .bl (decide (i ≤ j))) rLe pI pI pB := fun I C H a b x y s hx hy Q q => ⟨a, b, hx, hy, PQ.now q s rfl⟩
theorem o_gt : Op2 E K (rI0 fun i j => .bl (decide (j < i))) rGt pI pI pB := fun I C H a b x y s hx hy Q q => ⟨a, b, hx, hy, PQ.now q s rfl⟩
theorem o_ge : Op2 E K (rI0 fun i j => .bl (decide (j ≤ i))) rGe pI pI pB := fun I C H a b x y s hx hy Q q => ⟨a, b, hx, hy, PQ.now q s rfl⟩
def eqR {α : Type} [DecidableEq α] (a b : α) : Res Bool := .ok (decide (a = b))
def neR {α : Type} [DecidableEq α] (a b : α) : Res Bool := .ok (!decide (a = b))
@[simp] theorem eqR_eq {α : Type} [DecidableEq α] (a b : α) : eqR a b = .ok (decide (a = b)) := rfl
@[simp] theorem neR_eq {α : Type} [DecidableEq α] (a b : α) : neR a b = .ok (!decide (a = b)) := rfl
theorem dec_congr {p q : Prop} [Decidable p] [Decidable q] (h : p ↔ q) : decide p = decide q := by
  by_cases hp : p
  · rw [decide_eq_true hp, decide_eq_true (h.mp hp)]
  · rw [decide_eq_false hp, decide_eq_false fun z => hp (h.mpr z)]
theorem o_eqI : Op2 E K rEq eqR pI pI pB := fun I C H a b x y s hx hy Q q => by
  subst hx hy
  exact ⟨rfl, PQ.now q s (congrArg V.bl (dec_congr ⟨fun h => V.int.inj h, fun h => by rw [h]⟩))⟩
theorem o_neI : Op2 E K rNe neR pI pI pB := fun I C H a b x y s hx hy Q q => by
  subst hx hy
  exact ⟨rfl, PQ.now q s (congrArg (fun z => V.bl (!z)) (dec_congr ⟨fun h => V.int.inj h, fun h => by rw [h]⟩))⟩
theorem o_eqB : Op2 E K rEq eqR pB pB pB := fun I C H a b x y s hx hy Q q => by
  subst hx hy
  exact ⟨rfl, PQ.now q s (congrArg V.bl (dec_congr ⟨fun h => V.bl.inj h, fun h => by rw [h]⟩))⟩
theorem o_neB : Op2 E K rNe neR pB pB pB := fun I C H a b x y s hx hy Q q => by
  subst hx hy
  exact ⟨rfl, PQ.now q s (congrArg (fun z => V.bl (!z)) (dec_congr ⟨fun h => V.bl.inj h, fun h => by rw [h]⟩))⟩
theorem o_eqS : Op2 E K rEq eqR pS pS pB := fun I C H a b x y s hx hy Q q => by
  obtain ⟨rfl, _⟩ := hx
  obtain ⟨rfl, _⟩ := hy
  exact ⟨rfl, PQ.now q s (congrArg V.bl (dec_congr ⟨fun h => V.str.inj h, fun h => by rw [h]⟩))⟩
theorem o_neS : Op2 E K rNe neR pS pS pB := fun I C H a b x y s hx hy Q q => by
  obtain ⟨rfl, _⟩ := hx
  obtain ⟨rfl, _⟩ := hy
  exact ⟨rfl, PQ.now q s (congrArg (fun z => V.bl (!z)) (dec_congr ⟨fun h => V.str.inj h, fun h => by rw [h]⟩))⟩
def isNone {α : Type} (o : Option α) (_ : Unit) : Res Bool := .ok o.isNone
def notNone {α : Type} (o : Option α) (_ : Unit) : Res Bool := .ok o.isSome
@[simp] theorem isNone_eq {α : Type} (o : Option α) : isNone o () = .ok o.isNone := rfl
@[simp] theorem notNone_eq {α : Type} (o : Option α) : notNone o () = .ok o.isSome := rfl
theorem o_isN : Op2 E K (fun x y H Q => y = .non ∧ Q (.bl (decide (x = .non))) H) isNone (pO R) pN pB := fun I C H a b x y s hx hy Q q => by
  refine ⟨hy, PQ.now q s (congrArg V.bl ?_)⟩
  cases a with
  | none => exact decide_eq_true hx
  | some a => exact decide_eq_false hx.2
theorem o_notN : Op2 E K (fun x y H Q => y = .non ∧ Q (.bl (!decide (x = .non))) H) notNone (pO R) pN pB := fun I C H a b x y s hx hy Q q => by
  refine ⟨hy, PQ.now q s (congrArg V.bl ?_)⟩
  cases a with
  | none =>
    have e : decide (x = V.non) = true := decide_eq_true hx
    rw [e]
    rfl
  | some a =>
    have e : decide (x = V.non) = false := decide_eq_false hx.2
    rw [e]
    rfl
/-! lists that are read -/
theorem pV.at {xs : List α} {v : V} {I C H : Hp} (s : St I C H) (h : (pV R).r xs v I C) : ∃ a vs, v = .ref a ∧ H a = some (.lst vs) ∧ vs.length ≤ sizeLine ∧ A2 (fun x u => R.r x u I C) xs vs := by
  obtain ⟨a, vs, h1, h2, h3, h4⟩ := h
  exact ⟨a, vs, h1, h2.elim (s.i a _) (s.c a _), h3, h4⟩
def rLen (xs : List α) : Res Int := .ok (xs.length : Int)
@[simp] theorem rLen_eq (xs : List α) : rLen xs = .ok (xs.length : Int) := rfl
theorem o_len : OpL E K (fun xs H Q => ∃ p ys, xs = [.ref p] ∧ (SqL K H p ys ∨ SqT K H p ys) ∧ Q (.int ys.length) H) rLen (t1 (pV R)) pI := fun I C H a vs s hv Q q => by
  obtain ⟨v, rfl, h⟩ := hv
  obtain ⟨p, us, rfl, h2, h3, h4⟩ := pV.at s h
  exact ⟨p, us, rfl, .inl (.inl (.inl h2)), PQ.now q s (by rw [h4.len]; rfl)⟩
theorem o_lenQ : OpL E K (fun xs H Q => ∃ p ys, xs = [.ref p] ∧ (SqL K H p ys ∨ SqT K H p ys) ∧ Q (.int ys.length) H) rLen (t1 (pQ K R)) pI := fun I C H a vs s hv Q q => by
  obtain ⟨v, rfl, p, us, rfl, h2, h3, h4⟩ := hv
  exact ⟨p, us, rfl, .inr (ex_t s.i h2), PQ.now q s (by rw [h4.len]; rfl)⟩
/-- xs[i] -/
def ix (xs : List α) (i : Int) : Res α := if 0 ≤ i then (match xs[i.toNat]? with
    | some x => .ok x
    | none => .bad) else if -(xs.length : Int) ≤ i then (match xs[(i + xs.length).toNat]? with
    | some x => .ok x
    | none => .bad) else .bad
theorem ix_atI {f : α → V → Prop} {xs : List α} {vs : List V} {i : Int} {x : α} (h : A2 f xs vs) (e : ix xs i = .ok x) : ∃ v, atI vs i = some v ∧ f x v := by
  have hl := h.len
  unfold ix at e
  unfold atI ixN
  by_cases h0 : 0 ≤ i
  · rw [if_pos h0] at e ⊢
    cases q : xs[i.toNat]? with
    | none =>
      rw [q] at e
      cases e
    | some y =>
      rw [q] at e
      cases e
      have hlt := (List.getElem?_eq_some_iff.mp q).1
      obtain ⟨v, hv, r⟩ := h.get' q
      rw [if_pos (by omega)]
      exact ⟨v, hv, r⟩
  · rw [if_neg h0] at e ⊢
    by_cases h1 : -(xs.length : Int) ≤ i
    · rw [if_pos h1] at e
      rw [if_pos (by omega)]
      cases q : xs[(i + xs.length).toNat]? with
      | none =>
        rw [q] at e
        cases e
      | some y =>
        rw [q] at e
        cases e
        obtain ⟨v, hv, r⟩ := h.get' q
        exact ⟨v, by rw [hl]; exact hv, r⟩
    · rw [if_neg h1] at e
      cases e
theorem o_ix : Op2 E K (rIxL K) ix (pV R) pI R := fun I C H a b x y s hx hy Q q => by
  obtain ⟨p, us, rfl, h2, h3, h4⟩ := pV.at s hx
  subst hy
  cases e : ix a b with
  | ok z =>
    rw [e] at q
    obtain ⟨v, e1, r⟩ := ix_atI h4 e
    exact ⟨p, us, b, v, rfl, rfl, .inl (.inl h2), e1, PQ.now q s r⟩
  | exc c i =>
    unfold ix at e
    split at e <;> (try split at e) <;> (try split at e) <;> cases e
  | bad =>
    rw [e] at q
    exact q.elim
theorem o_ixQ : Op2 E K (rIxT K) ix (pQ K R) pI R := fun I C H a b x y s hx hy Q q => by
  obtain ⟨p, us, rfl, h2, h3, h4⟩ := hx
  subst hy
  cases e : ix a b with
  | ok z =>
    rw [e] at q
    obtain ⟨v, e1, r⟩ := ix_atI h4 e
    exact ⟨p, us, b, v, rfl, rfl, ex_t s.i h2, e1, PQ.now q s r⟩
  | exc c i =>
    unfold ix at e
    split at e <;> (try split at e) <;> (try split at e) <;> cases e
  | bad =>
    rw [e] at q
    exact q.elim
/-- a place of a tuple, of a list with fixed places; k written -/
theorem o_pj {T : Rt α} {k : Nat} {f : α → β} {S : Rp β} (j : Pj T k f S) : Op1 E K (fun x H Q => rIxT K x (.int (k : Int)) H Q) (fun x => .ok (f x)) (pT T) S := fun I C H a x s hx Q q => by
  obtain ⟨p, vs, rfl, h2, h3⟩ := hx
  obtain ⟨w, e, r⟩ := j a vs I C h3
  exact ⟨p, vs, _, w, rfl, rfl, .inl (.inl (s.i p _ h2)), atI_nat e, PQ.now q s r⟩
theorem o_pjU {T : Rt α} {k : Nat} {f : α → β} {S : Rp β} (j : Pj T k f S) : Op1 E K (fun x H Q => rIxT K x (.int (k : Int)) H Q) (fun x => .ok (f x)) (pU K T) S := fun I C H a x s hx Q q => by
  obtain ⟨p, vs, rfl, h2, h3⟩ := hx
  obtain ⟨w, e, r⟩ := j a vs I C h3
  exact ⟨p, vs, _, w, rfl, rfl, ex_t s.i h2, atI_nat e, PQ.now q s r⟩
theorem o_pjD {T : Rt α} {k : Nat} {f : α → β} {S : Rp β} (j : Pj T k f S) : Op1 E K (fun x H Q => rIxL K x (.int (k : Int)) H Q) (fun x => .ok (f x)) (pD T) S := fun I C H a x s hx Q q => by
  obtain ⟨p, vs, rfl, h2, h3⟩ := hx
  obtain ⟨w, e, r⟩ := j a vs I C h3
  exact ⟨p, vs, _, w, rfl, rfl, .inl (.inl (s.i p _ h2)), atI_nat e, PQ.now q s r⟩
/-- e[k], k written, by a rule for this k -/
theorem x_k {r : R2} {te : TE} {σ : L2.St} {I C : Hp} {m : Res α} {f : α → Res γ} {T : Rp γ} {k : Int} (hr : Op1 E K (fun x H Q => r x (.int k) H Q) f R T) (h : EvX E K te σ I C m R) : EvX E K (tOp r te (tC (.int k))) σ I C (un f m) T :=
  fun I1 C1 H1 e e' s Q q => x_un (r := fun x H Q => r x (.int k) H Q) hr h I1 C1 H1 e e' s Q q
end
end Sd

namespace Sd
open PySem L2
/-! ### == of data -/
/-- data of this kind, as == sees them: enc; at most n deep -/
structure De (K : PySem.W.Frag) {α : Type} (R : Rp α) (enc : α → PyData) (n : Nat) : Prop where
  dp : ∀ {a v I C H}, St I C H → R.r a v I C → Dp K H v (enc a)
  ly : ∀ {a v I C}, R.r a v I C → (enc a).canLay0 = true
  de : ∀ {a v I C}, R.r a v I C → (enc a).depth ≤ n
  eq : ∀ a b, PyData.eqv (enc a) (enc b) = true ↔ a = b
section
variable {E : XK} {K : PySem.W.Frag} {α β γ : Type} {R : Rp α} {S : Rp β} {enc : α → PyData} {enb : β → PyData} {n m : Nat}
theorem de_int : De K pI PyData.int 0 := ⟨fun _ h => by cases h; exact .int _, fun _ => by simp only [PyData.canLay0], fun _ => by simp only [PyData.depth]; exact Nat.le_refl _, fun a b => by
  simp only [PyData.eqv, beq_iff_eq]⟩
theorem de_bl : De K pB PyData.bool 0 := ⟨fun _ h => by cases h; exact .bl _, fun _ => by simp only [PyData.canLay0], fun _ => by simp only [PyData.depth]; exact Nat.le_refl _, fun a b => by
  simp only [PyData.eqv, beq_iff_eq]⟩
theorem de_str : De K pS PyData.str 0 := ⟨fun _ h => by obtain ⟨rfl, _⟩ := h; exact .str _, fun h => by simp only [PyData.canLay0]; exact h.2, fun _ => by simp only [PyData.depth]; exact Nat.le_refl _, fun a b => by
  simp only [PyData.eqv, beq_iff_eq]⟩
theorem de_all (d : De K R enc n) : ∀ {xs : List α} {vs : List V} {I C H : Hp}, St I C H → A2 (fun x u => R.r x u I C) xs vs → DpAll K H vs (xs.map enc)
  | _, _, _, _, _, _, .nil => .nil
  | _, _, _, _, _, s, .cons r t => .cons (d.dp s r) (de_all d s t)
theorem ly_all (d : De K R enc n) : ∀ {xs : List α} {vs : List V} {I C : Hp}, A2 (fun x u => R.r x u I C) xs vs → PyData.canLayAll0 (xs.map enc) = true
  | _, _, _, _, .nil => by simp only [List.map_nil, PyData.canLayAll0]
  | _, _, _, _, .cons r t => by
    simp only [List.map_cons, PyData.canLayAll0, Bool.and_eq_true]
    exact ⟨d.ly r, ly_all d t⟩
theorem dp_all (d : De K R enc n) : ∀ {xs : List α} {vs : List V} {I C : Hp}, A2 (fun x u => R.r x u I C) xs vs → PyData.depthAll (xs.map enc) ≤ n
  | _, _, _, _, .nil => by
    simp only [List.map_nil, PyData.depthAll]
    exact Nat.zero_le _
  | _, _, _, _, .cons r t => by
    simp only [List.map_cons, PyData.depthAll]
    exact Nat.max_le.mpr ⟨d.de r, dp_all d t⟩
theorem eq_all (h : ∀ a b, PyData.eqv (enc a) (enc b) = true ↔ a = b) : ∀ xs ys : List α, PyData.eqvAll (xs.map enc) (ys.map enc) = true ↔ xs = ys
  | [], [] => by simp only [List.map_nil, PyData.eqvAll]
  | [], y :: ys => by
    simp only [List.map_nil, List.map_cons, PyData.eqvAll]
    exact ⟨fun q => (nomatch q), fun q => (nomatch q)⟩
  | x :: xs, [] => by
    simp only [List.map_nil, List.map_cons, PyData.eqvAll]
    exact ⟨fun q => (nomatch q), fun q => (nomatch q)⟩
  | x :: xs, y :: ys => by
    simp only [List.map_cons, PyData.eqvAll, Bool.and_eq_true, List.cons.injEq]
    rw [h x y, eq_all h xs ys]
theorem de_lst (d : De K R enc n) : De K (pL R) (fun xs => PyData.list (xs.map enc)) (n + 1) :=
  ⟨fun s ⟨a, vs, h1, h2, h3, h4⟩ => by
    subst h1
    exact .lst (.inl (.inl (s.i _ _ h2))) (de_all d s h4),
  fun ⟨a, vs, h1, h2, h3, h4⟩ => by
    simp only [PyData.canLay0]
    exact ly_all d h4,
  fun ⟨a, vs, h1, h2, h3, h4⟩ => by
    simp only [PyData.depth]
    exact Nat.succ_le_succ (dp_all d h4),
  fun a b => by
    simp only [PyData.eqv]
    exact eq_all d.eq a b⟩
theorem de_vw (d : De K R enc n) : De K (pV R) (fun xs => PyData.list (xs.map enc)) (n + 1) :=
  ⟨fun s h => by
    obtain ⟨a, vs, rfl, h2, h3, h4⟩ := pV.at s h
    exact .lst (.inl (.inl h2)) (de_all d s h4),
  fun ⟨a, vs, h1, h2, h3, h4⟩ => by
    simp only [PyData.canLay0]
    exact ly_all d h4,
  fun ⟨a, vs, h1, h2, h3, h4⟩ => by
    simp only [PyData.depth]
    exact Nat.succ_le_succ (dp_all d h4),
  fun a b => by
    simp only [PyData.eqv]
    exact eq_all d.eq a b⟩
theorem de_seq (d : De K R enc n) : De K (pQ K R) (fun xs => PyData.tuple (xs.map enc)) (n + 1) :=
  ⟨fun s ⟨a, vs, h1, h2, h3, h4⟩ => by
    subst h1
    exact .tup (ex_t s.i h2) (de_all d s h4),
  fun ⟨a, vs, h1, h2, h3, h4⟩ => by
    simp only [PyData.canLay0]
    exact ly_all d h4,
  fun ⟨a, vs, h1, h2, h3, h4⟩ => by
    simp only [PyData.depth]
    exact Nat.succ_le_succ (dp_all d h4),
  fun a b => by
    simp only [PyData.eqv]
    exact eq_all d.eq a b⟩
/-- places -/
structure Dt (K : PySem.W.Frag) {α : Type} (T : Rt α) (enc : α → List PyData) (n : Nat) : Prop where
  dp : ∀ {a vs I C H}, St I C H → T.r a vs I C → DpAll K H vs (enc a)
  ly : ∀ {a vs I C}, T.r a vs I C → PyData.canLayAll0 (enc a) = true
  de : ∀ {a vs I C}, T.r a vs I C → PyData.depthAll (enc a) ≤ n
  eq : ∀ a b, PyData.eqvAll (enc a) (enc b) = true ↔ a = b
theorem dt_one (d : De K R enc n) : Dt K (t1 R) (fun x => [enc x]) n :=
  ⟨fun s ⟨v, h1, h2⟩ => by
    subst h1
    exact .cons (d.dp s h2) .nil,
  fun ⟨v, h1, h2⟩ => by
    simp only [PyData.canLayAll0, Bool.and_true]
    exact d.ly h2,
  fun ⟨v, h1, h2⟩ => by
    simp only [PyData.depthAll]
    exact Nat.max_le.mpr ⟨d.de h2, Nat.zero_le _⟩,
  fun a b => by
    simp only [PyData.eqvAll, Bool.and_true]
    exact d.eq a b⟩
theorem dt_cons {T : Rt β} {ens : β → List PyData} (d : De K R enc n) (t : Dt K T ens m) : Dt K (tc R T) (fun x => enc x.1 :: ens x.2) (max n m) :=
  ⟨fun s ⟨v, us, h1, h2, h3⟩ => by
    subst h1
    exact .cons (d.dp s h2) (t.dp s h3),
  fun ⟨v, us, h1, h2, h3⟩ => by
    simp only [PyData.canLayAll0, Bool.and_eq_true]
    exact ⟨d.ly h2, t.ly h3⟩,
  fun ⟨v, us, h1, h2, h3⟩ => by
    simp only [PyData.depthAll]
    exact Nat.max_le.mpr ⟨Nat.le_trans (d.de h2) (Nat.le_max_left _ _), Nat.le_trans (t.de h3) (Nat.le_max_right _ _)⟩,
  fun a b => by
    simp only [PyData.eqvAll, Bool.and_eq_true]
    rw [d.eq, t.eq]
    exact ⟨fun ⟨h1, h2⟩ => Prod.ext h1 h2, fun h => by
      subst h
      exact ⟨rfl, rfl⟩⟩⟩
theorem de_tup {T : Rt α} {ens : α → List PyData} (t : Dt K T ens n) : De K (pT T) (fun x => PyData.tuple (ens x)) (n + 1) :=
  ⟨fun s ⟨a, vs, h1, h2, h3⟩ => by
    subst h1
    exact .tup (.inl (.inl (s.i _ _ h2))) (t.dp s h3),
  fun ⟨a, vs, h1, h2, h3⟩ => by
    simp only [PyData.canLay0]
    exact t.ly h3,
  fun ⟨a, vs, h1, h2, h3⟩ => by
    simp only [PyData.depth]
    exact Nat.succ_le_succ (t.de h3),
  fun a b => by
    simp only [PyData.eqv]
    exact t.eq a b⟩
theorem de_tupU {T : Rt α} {ens : α → List PyData} (t : Dt K T ens n) : De K (pU K T) (fun x => PyData.tuple (ens x)) (n + 1) :=
  ⟨fun s ⟨a, vs, h1, h2, h3⟩ => by
    subst h1
    exact .tup (ex_t s.i h2) (t.dp s h3),
  fun ⟨a, vs, h1, h2, h3⟩ => by
    simp only [PyData.canLay0]
    exact t.ly h3,
  fun ⟨a, vs, h1, h2, h3⟩ => by
    simp only [PyData.depth]
    exact Nat.succ_le_succ (t.de h3),
  fun a b => by
    simp only [PyData.eqv]
    exact t.eq a b⟩
theorem de_lstD {T : Rt α} {ens : α → List PyData} (t : Dt K T ens n) : De K (pD T) (fun x => PyData.list (ens x)) (n + 1) :=
  ⟨fun s ⟨a, vs, h1, h2, h3⟩ => by
    subst h1
    exact .lst (.inl (.inl (s.i _ _ h2))) (t.dp s h3),
  fun ⟨a, vs, h1, h2, h3⟩ => by
    simp only [PyData.canLay0]
    exact t.ly h3,
  fun ⟨a, vs, h1, h2, h3⟩ => by
    simp only [PyData.depth]
    exact Nat.succ_le_succ (t.de h3),
  fun a b => by
    simp only [PyData.eqv]
    exact t.eq a b⟩
def oEnc (enc : α → PyData) : Option α → PyData
  | none => .none
  | some a => enc a
/-- None or such a thing (that is not None itself) -/
theorem de_opt (d : De K R enc n) (hn : ∀ a, PyData.eqv (enc a) .none = false ∧ PyData.eqv .none (enc a) = false) : De K (pO R) (oEnc enc) n :=
  ⟨fun {a v I C H} s h => by
    cases a with
    | none =>
      have h' : v = .non := h
      subst h'
      exact .non
    | some a => exact d.dp s h.1,
  fun {a v I C} h => by
    cases a with
    | none => simp only [oEnc, PyData.canLay0]
    | some a => exact d.ly h.1,
  fun {a v I C} h => by
    cases a with
    | none =>
      simp only [oEnc, PyData.depth]
      exact Nat.zero_le _
    | some a => exact d.de h.1,
  fun a b => by
    cases a with
    | none =>
      cases b with
      | none => simp only [oEnc, PyData.eqv]
      | some b =>
        simp only [oEnc]
        rw [(hn b).2]
        exact ⟨fun q => (nomatch q), fun q => (nomatch q)⟩
    | some a =>
      cases b with
      | none =>
        simp only [oEnc]
        rw [(hn a).1]
        exact ⟨fun q => (nomatch q), fun q => (nomatch q)⟩
      | some b =>
        simp only [oEnc]
        rw [d.eq, Option.some.injEq]⟩
theorem o_eqD [DecidableEq α] {R' : Rp α} (d : De K R enc n) (d' : De K R' enc n) (hn : n ≤ 64) : Op2 E K (rEqD K) eqR R R' pB := fun I C H a b x y s hx hy Q q =>
  ⟨enc a, enc b, d.dp s hx, d'.dp s hy, Bool.and_eq_true_iff.mpr ⟨d.ly hx, decide_eq_true (Nat.le_trans (d.de hx) hn)⟩, Bool.and_eq_true_iff.mpr ⟨d'.ly hy, decide_eq_true (Nat.le_trans (d'.de hy) hn)⟩,
    PQ.now q s (congrArg V.bl (by
      by_cases e : a = b
      · rw [(d.eq a b).mpr e, decide_eq_true e]
      · rw [decide_eq_false e]
        exact Bool.eq_false_iff.mpr fun z => e ((d.eq a b).mp z)))⟩
theorem o_neD [DecidableEq α] {R' : Rp α} (d : De K R enc n) (d' : De K R' enc n) (hn : n ≤ 64) : Op2 E K (rNeD K) neR R R' pB := fun I C H a b x y s hx hy Q q =>
  ⟨enc a, enc b, d.dp s hx, d'.dp s hy, Bool.and_eq_true_iff.mpr ⟨d.ly hx, decide_eq_true (Nat.le_trans (d.de hx) hn)⟩, Bool.and_eq_true_iff.mpr ⟨d'.ly hy, decide_eq_true (Nat.le_trans (d'.de hy) hn)⟩,
    PQ.now q s (congrArg (fun z => V.bl (!z)) (by
      by_cases e : a = b
      · rw [(d.eq a b).mpr e, decide_eq_true e]
      · rw [decide_eq_false e]
        exact Bool.eq_false_iff.mpr fun z => e ((d.eq a b).mp z)))⟩
/-! ### in -/
def inR {α : Type} [DecidableEq α] (x : α) (xs : List α) : Res Bool := .ok (decide (x ∈ xs))
def ninR {α : Type} [DecidableEq α] (x : α) (xs : List α) : Res Bool := .ok (!decide (x ∈ xs))
@[simp] theorem inR_eq {α : Type} [DecidableEq α] (x : α) (xs : List α) : inR x xs = .ok (decide (x ∈ xs)) := rfl
@[simp] theorem ninR_eq {α : Type} [DecidableEq α] (x : α) (xs : List α) : ninR x xs = .ok (!decide (x ∈ xs)) := rfl
/-- flat things -/
structure Fl {α : Type} (R : Rp α) (f : α → V) : Prop where
  is : ∀ {a v I C}, R.r a v I C → v = f a
  flat : ∀ a, flatV (f a) = true
  eq : ∀ a b, eqV (f a) (f b) = true ↔ a = b
theorem fl_int : Fl pI V.int := ⟨fun h => h, fun _ => rfl, fun a b => by simp only [eqV, beq_iff_eq]⟩
theorem fl_str : Fl pS V.str := ⟨fun h => h.1, fun _ => rfl, fun a b => by simp only [eqV, beq_iff_eq]⟩
theorem inV_iff [DecidableEq α] {f : α → V} (F : Fl R f) (x : α) : ∀ xs : List α, inV (f x) (xs.map f) = decide (x ∈ xs)
  | [] => rfl
  | y :: ys => by
    have ih := inV_iff F x ys
    unfold inV at ih ⊢
    rw [List.map_cons, List.any_cons, ih]
    by_cases e : y = x
    · rw [(F.eq y x).mpr e, Bool.true_or, decide_eq_true (show x ∈ y :: ys by rw [e]; exact List.mem_cons_self)]
    · rw [Bool.eq_false_iff.mpr fun z => e ((F.eq y x).mp z), Bool.false_or]
      exact dec_congr ⟨fun h => List.mem_cons_of_mem _ h, fun h => (List.mem_cons.mp h).resolve_left fun q => e q.symm⟩
theorem allFlat {f : α → V} (F : Fl R f) : ∀ xs : List α, (xs.map f).all flatV = true
  | [] => rfl
  | x :: xs => by rw [List.map_cons, List.all_cons, F.flat, allFlat F xs]; rfl
theorem o_in [DecidableEq α] {f : α → V} (F : Fl R f) : Op2 E K (rIn K false) inR R (pV R) pB := fun I C H a b x y s hx hy Q q => by
  obtain ⟨p, us, rfl, h2, h3, h4⟩ := pV.at s hy
  have ex := F.is hx
  have eu := A2.map_iff (fun _ _ h => F.is h) h4
  subst ex eu
  exact ⟨p, _, rfl, .inl (.inl (.inl h2)), F.flat a, allFlat F b, PQ.now q s (congrArg V.bl (inV_iff F a b))⟩
theorem o_nin [DecidableEq α] {f : α → V} (F : Fl R f) : Op2 E K (rIn K true) ninR R (pV R) pB := fun I C H a b x y s hx hy Q q => by
  obtain ⟨p, us, rfl, h2, h3, h4⟩ := pV.at s hy
  have ex := F.is hx
  have eu := A2.map_iff (fun _ _ h => F.is h) h4
  subst ex eu
  exact ⟨p, _, rfl, .inl (.inl (.inl h2)), F.flat a, allFlat F b, PQ.now q s (congrArg (fun z => V.bl (!z)) (inV_iff F a b))⟩
theorem o_inQ [DecidableEq α] {f : α → V} (F : Fl R f) : Op2 E K (rIn K false) inR R (pQ K R) pB := fun I C H a b x y s hx hy Q q => by
  obtain ⟨p, us, rfl, h2, h3, h4⟩ := hy
  have ex := F.is hx
  have eu := A2.map_iff (fun _ _ h => F.is h) h4
  subst ex eu
  exact ⟨p, _, rfl, .inr (ex_t s.i h2), F.flat a, allFlat F b, PQ.now q s (congrArg V.bl (inV_iff F a b))⟩
theorem o_ninQ [DecidableEq α] {f : α → V} (F : Fl R f) : Op2 E K (rIn K true) ninR R (pQ K R) pB := fun I C H a b x y s hx hy Q q => by
  obtain ⟨p, us, rfl, h2, h3, h4⟩ := hy
  have ex := F.is hx
  have eu := A2.map_iff (fun _ _ h => F.is h) h4
  subst ex eu
  exact ⟨p, _, rfl, .inr (ex_t s.i h2), F.flat a, allFlat F b, PQ.now q s (congrArg (fun z => V.bl (!z)) (inV_iff F a b))⟩
/-! ### slices -/
def cut (xs : List α) (lo hi : Option Int) : List α := (xs.drop (HT.sIx xs.length 0 lo)).take (HT.sIx xs.length xs.length hi - HT.sIx xs.length 0 lo)
theorem A2.cut {f : α → V → Prop} {xs : List α} {vs : List V} (h : A2 f xs vs) (lo hi : Option Int) : A2 f (Sd.cut xs lo hi) (cutV vs lo hi) := by
  unfold Sd.cut cutV
  rw [h.len]
  exact (h.drop _).take _
def EvO (E : XK) (K : PySem.W.Frag) (to : TO) (σ : L2.St) (I C : Hp) (m : Res (Option Int)) : Prop :=
  ∀ I1 C1 H1, Ex I I1 → Ex C C1 → St I1 C1 H1 → ∀ Q : Option Int → Hp → Prop, Post m (fun o => ∀ I2 H2, Ex I1 I2 → St I2 C1 H2 → Q o H2) (PX E K I1 C1) → to σ H1 Q
def someR (m : Res Int) : Res (Option Int) := m.bind fun i => .ok (some i)
@[simp] theorem someR_ok (i : Int) : someR (.ok i) = .ok (some i) := rfl
variable {σ : L2.St} {I C : Hp} {te : TE}
theorem p_none : EvO E K tNoPart σ I C (.ok none) := fun I1 C1 H1 e e' s Q q => q I1 H1 (Ex.refl _) s
theorem p_some {m : Res Int} (h : EvX E K te σ I C m pI) : EvO E K (tPart te) σ I C (someR m) := fun I1 C1 H1 e e' s Q q =>
  h I1 C1 H1 e e' s _ ((Post.bind q).mono (fun i p v I2 H2 e2 s2 rv => ⟨i, rv, p I2 H2 e2 s2⟩) fun _ _ z => z)
def slR (m : Res (List α)) (lo hi : Res (Option Int)) : Res (List α) := m.bind fun xs => lo.bind fun a => hi.bind fun b => .ok (cut xs a b)
@[simp] theorem slR_ok (xs : List α) (a b : Option Int) : slR (.ok xs) (.ok a) (.ok b) = .ok (cut xs a b) := rfl
theorem new_list {xs : List α} {vs : List V} {I C H : Hp} {Q : VK} (q : PQ (pL R) I C Q xs) (s : St I C H) (h : A2 (fun x u => R.r x u I C) xs vs) (hl : vs.length ≤ sizeLine) : ∀ p, H p = none → Q (.ref p) (upd H p (.lst vs)) := fun p hp =>
  q (.ref p) (upd I p (.lst vs)) _ (Ex.new (s.i.free hp)) (s.newI hp) ⟨p, vs, rfl, upd_same, hl, h.imp fun _ _ => R.mono (Ex.new (s.i.free hp)) (Ex.refl _)⟩
theorem x_slW (r0 : V → Option Int → Option Int → Hp → VK → Prop) {V0 : Rp (List α)}
    (hr : ∀ I C H xs x lo hi, St I C H → V0.r xs x I C → ∀ Q, PQ (pL R) I C Q (cut xs lo hi) → r0 x lo hi H Q)
    {tl th : TO} {m : Res (List α)} {lo hi : Res (Option Int)} (h : EvX E K te σ I C m V0) (hl : EvO E K tl σ I C lo) (hh : EvO E K th σ I C hi) : EvX E K (tSl r0 te tl th) σ I C (slR m lo hi) (pL R) := fun I1 C1 H1 e e' s Q q =>
  h I1 C1 H1 e e' s _ ((Post.bind q).mono (fun a p x I2 H2 e2 s2 rx =>
    hl I2 C1 H2 (e.trans e2) e' s2 _ ((Post.bind p).mono (fun o p2 I3 H3 e3 s3 =>
      hh I3 C1 H3 (e.trans (e2.trans e3)) e' s3 _ ((Post.bind p2).mono (fun o2 p3 I4 H4 e4 s4 =>
        hr I4 C1 H4 a x o o2 s4 (V0.mono (e3.trans e4) (Ex.refl _) rx) Q fun v I5 H5 e5 s5 rv => p3 v I5 H5 (e2.trans (e3.trans (e4.trans e5))) s5 rv) fun c i z => z.mono (e2.trans e3) (Ex.refl _))) fun c i z => z.mono e2 (Ex.refl _)))
    fun _ _ z => z)
theorem x_sl {tl th : TO} {m : Res (List α)} {lo hi : Res (Option Int)} (h : EvX E K te σ I C m (pV R)) (hl : EvO E K tl σ I C lo) (hh : EvO E K th σ I C hi) : EvX E K (tSl (rSlL K) te tl th) σ I C (slR m lo hi) (pL R) :=
  x_slW (rSlL K) (fun I C H xs x lo hi s hx Q q => by
    obtain ⟨p, us, rfl, h2, h3, h4⟩ := pV.at s hx
    exact ⟨p, us, rfl, .inl (.inl h2), new_list q s (h4.cut lo hi) (Nat.le_trans (cutV_length _ _ _) h3)⟩) h hl hh
theorem x_slS {tl th : TO} {m : Res (List α)} {lo hi : Res (Option Int)} (h : EvX E K te σ I C m (pW K R)) (hl : EvO E K tl σ I C lo) (hh : EvO E K th σ I C hi) : EvX E K (tSl (rSlL K) te tl th) σ I C (slR m lo hi) (pL R) :=
  x_slW (rSlL K) (fun I C H xs x lo hi s hx Q q => by
    obtain ⟨p, us, rfl, h2, h3, h4⟩ := hx
    exact ⟨p, us, rfl, ex_l s.i h2, new_list q s (h4.cut lo hi) (Nat.le_trans (cutV_length _ _ _) h3)⟩) h hl hh
/-! ### + of lists, list(xs), tuple(xs), [x] * n -/
def rCatR (xs ys : List α) : Res (List α) := if xs.length + ys.length ≤ 1000000 then .ok (xs ++ ys) else .bad
theorem rCatR_ok {xs ys : List α} (h : xs.length + ys.length ≤ 1000000) : rCatR xs ys = .ok (xs ++ ys) := if_pos h
theorem o_cat : Op2 E K rCat rCatR (pV R) (pV R) (pL R) := fun I C H a b x y s hx hy Q q => by
  unfold rCatR at q
  split at q
  · rename_i h
    obtain ⟨p, us, rfl, h2, h3, h4⟩ := pV.at s hx
    obtain ⟨p', us', rfl, h2', h3', h4'⟩ := pV.at s hy
    have hl : us.length + us'.length ≤ sizeLine := by
      rw [h4.len, h4'.len]
      exact Nat.le_trans h (by decide)
    exact ⟨p, p', us, us', rfl, rfl, h2, h2', hl, new_list q s (h4.append h4') (by rw [List.length_append]; exact hl)⟩
  · exact q.elim
def rRepR (xs : List α) (k : Int) : Res (List α) := if k < 1000000 ∧ -1000000 < k ∧ xs.length * k.toNat ≤ 1000000 then .ok (List.replicate k.toNat xs).flatten else .bad
theorem rRepR_ok {xs : List α} {k : Int} (h : k < 1000000 ∧ -1000000 < k ∧ xs.length * k.toNat ≤ 1000000) : rRepR xs k = .ok (List.replicate k.toNat xs).flatten := if_pos h
theorem A2.rep {f : α → V → Prop} {xs : List α} {vs : List V} (h : A2 f xs vs) : ∀ n : Nat, A2 f (List.replicate n xs).flatten (List.replicate n vs).flatten
  | 0 => .nil
  | n + 1 => by
    rw [List.replicate_succ, List.replicate_succ, List.flatten_cons, List.flatten_cons]
    exact h.append (A2.rep h n)
theorem flat_len {vs : List V} : ∀ n : Nat, (List.replicate n vs).flatten.length = vs.length * n
  | 0 => by simp
  | n + 1 => by
    rw [List.replicate_succ, List.flatten_cons, List.length_append, flat_len n, Nat.mul_succ, Nat.add_comm]
theorem o_rep : Op2 E K rRep rRepR (pV R) pI (pL R) := fun I C H a b x y s hx hy Q q => by
  unfold rRepR at q
  split at q
  · rename_i h
    obtain ⟨p, us, rfl, h2, h3, h4⟩ := pV.at s hx
    subst hy
    have hl : us.length * b.toNat ≤ sizeLine := by
      rw [h4.len]
      exact Nat.le_trans h.2.2 (by decide)
    exact ⟨p, b, us, rfl, rfl, h2, by omega, by omega, hl, new_list q s (h4.rep _) (by rw [flat_len]; exact hl)⟩
  · exact q.elim
def idR (xs : α) : Res α := .ok xs
@[simp] theorem idR_eq (xs : α) : idR xs = .ok xs := rfl
theorem o_list : OpL E K (fun xs H Q => ∃ p ys, xs = [.ref p] ∧ (SqL K H p ys ∨ SqT K H p ys) ∧ ∀ l, H l = none → Q (.ref l) (upd H l (.lst ys))) idR (t1 (pV R)) (pL R) := fun I C H a vs s hv Q q => by
  obtain ⟨v, rfl, h⟩ := hv
  obtain ⟨p, us, rfl, h2, h3, h4⟩ := pV.at s h
  exact ⟨p, us, rfl, .inl (.inl (.inl h2)), new_list q s h4 h3⟩
theorem o_listW : OpL E K (fun xs H Q => ∃ p ys, xs = [.ref p] ∧ (SqL K H p ys ∨ SqT K H p ys) ∧ ∀ l, H l = none → Q (.ref l) (upd H l (.lst ys))) idR (t1 (pW K R)) (pL R) := fun I C H a vs s hv Q q => by
  obtain ⟨v, rfl, p, us, rfl, h2, h3, h4⟩ := hv
  exact ⟨p, us, rfl, .inl (ex_l s.i h2), new_list q s h4 h3⟩
theorem o_listQ : OpL E K (fun xs H Q => ∃ p ys, xs = [.ref p] ∧ (SqL K H p ys ∨ SqT K H p ys) ∧ ∀ l, H l = none → Q (.ref l) (upd H l (.lst ys))) idR (t1 (pQ K R)) (pL R) := fun I C H a vs s hv Q q => by
  obtain ⟨v, rfl, p, us, rfl, h2, h3, h4⟩ := hv
  exact ⟨p, us, rfl, .inr (ex_t s.i h2), new_list q s h4 h3⟩
theorem new_tup {xs : List α} {vs : List V} {I C H : Hp} {Q : VK} (q : PQ (pQ K R) I C Q xs) (s : St I C H) (h : A2 (fun x u => R.r x u I C) xs vs) (hl : vs.length ≤ sizeLine) : ∀ p, H p = none → Q (.ref p) (upd H p (.tup vs)) := fun p hp =>
  q (.ref p) (upd I p (.tup vs)) _ (Ex.new (s.i.free hp)) (s.newI hp) ⟨p, vs, rfl, .inl (.inl upd_same), hl, h.imp fun _ _ => R.mono (Ex.new (s.i.free hp)) (Ex.refl _)⟩
theorem o_tuple : OpL E K (fun xs H Q => ∃ p ys, xs = [.ref p] ∧ ((SqL K H p ys ∧ ∀ l, H l = none → Q (.ref l) (upd H l (.tup ys))) ∨ (SqT K H p ys ∧ Q (.ref p) H))) idR (t1 (pV R)) (pQ K R) := fun I C H a vs s hv Q q => by
  obtain ⟨v, rfl, h⟩ := hv
  obtain ⟨p, us, rfl, h2, h3, h4⟩ := pV.at s h
  exact ⟨p, us, rfl, .inl ⟨.inl (.inl h2), new_tup q s h4 h3⟩⟩
theorem o_tupleQ : OpL E K (fun xs H Q => ∃ p ys, xs = [.ref p] ∧ ((SqL K H p ys ∧ ∀ l, H l = none → Q (.ref l) (upd H l (.tup ys))) ∨ (SqT K H p ys ∧ Q (.ref p) H))) idR (t1 (pQ K R)) (pQ K R) := fun I C H a vs s hv Q q => by
  obtain ⟨v, rfl, p, us, rfl, h2, h3, h4⟩ := hv
  exact ⟨p, us, rfl, .inr ⟨ex_t s.i h2, PQ.now q s ⟨p, us, rfl, h2, h3, h4⟩⟩⟩
/-! ### int, max, min, sum, gcd -/
theorem o_int : OpL E K (fun xs H Q => (∃ i, xs = [.int i] ∧ Q (.int i) H) ∨ ∃ k, xs = [.bl k] ∧ Q (.int (if k then 1 else 0)) H) idR (t1 pI) pI := fun I C H a vs s hv Q q => by
  obtain ⟨v, rfl, rfl⟩ := hv
  exact .inl ⟨a, rfl, PQ.now q s rfl⟩
def max2 (p : Int × Int) : Res Int := .ok (if p.2 > p.1 then p.2 else p.1)
def min2 (p : Int × Int) : Res Int := .ok (if p.2 < p.1 then p.2 else p.1)
@[simp] theorem max2_eq (a b : Int) : max2 (a, b) = .ok (max a b) := by
  unfold max2
  congr 1
  show (if b > a then b else a) = max a b
  split <;> omega
@[simp] theorem min2_eq (a b : Int) : min2 (a, b) = .ok (min a b) := by
  unfold min2
  congr 1
  show (if b < a then b else a) = min a b
  split <;> omega
theorem o_max2 : OpL E K (fun xs H Q => ∃ i j, xs = [.int i, .int j] ∧ Q (.int (if j > i then j else i)) H) max2 (tc pI (t1 pI)) pI := fun I C H a vs s hv Q q => by
  obtain ⟨v, us, rfl, rfl, w, rfl, rfl⟩ := hv
  exact ⟨_, _, rfl, PQ.now q s rfl⟩
theorem o_min2 : OpL E K (fun xs H Q => ∃ i j, xs = [.int i, .int j] ∧ Q (.int (if j < i then j else i)) H) min2 (tc pI (t1 pI)) pI := fun I C H a vs s hv Q q => by
  obtain ⟨v, us, rfl, rfl, w, rfl, rfl⟩ := hv
  exact ⟨_, _, rfl, PQ.now q s rfl⟩
def sumR (xs : List Int) : Res Int := .ok xs.sum
@[simp] theorem sumR_eq (xs : List Int) : sumR xs = .ok xs.sum := rfl
theorem o_sum : OpL E K (rSum K) sumR (t1 (pV pI)) pI := fun I C H a vs s hv Q q => by
  obtain ⟨v, rfl, h⟩ := hv
  obtain ⟨p, us, rfl, h2, h3, h4⟩ := pV.at s h
  have eu := A2.map_iff (h := V.int) (fun _ _ h => h) h4
  subst eu
  exact ⟨p, a, rfl, .inl (.inl h2), PQ.now q s rfl⟩
def gcdR (p : Int × Int) : Res Int := .ok ((Nat.gcd p.1.natAbs p.2.natAbs : Nat) : Int)
@[simp] theorem gcdR_eq (a b : Int) : gcdR (a, b) = .ok ((Nat.gcd a.natAbs b.natAbs : Nat) : Int) := rfl
theorem o_gcd : OpL E K rGcd gcdR (tc pI (t1 pI)) pI := fun I C H a vs s hv Q q => by
  obtain ⟨v, us, rfl, rfl, w, rfl, rfl⟩ := hv
  exact ⟨_, _, rfl, PQ.now q s rfl⟩
/-! ### truth of a list -/
def neR' (xs : List α) : Res Bool := .ok (!xs.isEmpty)
@[simp] theorem neR'_eq (xs : List α) : neR' xs = .ok (!xs.isEmpty) := rfl
theorem t_lst {m : Res (List α)} (h : EvX E K te σ I C m (pV R)) : EvT E K (fun σ H Q => te σ H fun x H' => ∃ k, TruV K x H' k ∧ Q k H') σ I C (un neR' m) := fun I1 C1 H1 e e' s Q q =>
  h I1 C1 H1 e e' s _ ((Post.bind q).mono (fun a p v I2 H2 e2 s2 rv => by
    obtain ⟨b, us, rfl, h2, h3, h4⟩ := pV.at s2 rv
    have hb : (!us.isEmpty) = !a.isEmpty := by
      cases h4 <;> rfl
    refine ⟨!a.isEmpty, .inl ⟨us, .inl (.inl h2), hb.symm⟩, p I2 H2 e2 s2⟩) fun _ _ z => z)
/-! ### isinstance, where the kind is known -/
def pY (n : String) : Rp Unit := ⟨fun _ v _ _ => v = .ty n, fun _ _ h => h⟩
instance {n : String} : Im (pY n) := ⟨fun h => h⟩
end
end Sd

namespace Sd
open PySem L2
/-! ### what a for walks -/
def EvI (E : XK) (K : PySem.W.Frag) (wi : TI) (σ : L2.St) (I C : Hp) (kp : Hp → Prop) {α : Type} (m : Res (List α)) (R : Rp α) : Prop :=
  ∀ I1 C1 H1, Ex I I1 → Ex C C1 → St I1 C1 H1 → ∀ Kt : L2.It → Hp → Prop, Post m (fun xs => ∀ J G Y I2 H2, Ex I1 I2 → St I2 C1 H2 → xs.length ≤ sizeLine → Walk J xs.length G Y →
    (∀ I3 C3 H3, Ex I2 I3 → kp C3 → St I3 C3 H3 → G H3) →
    (∀ i x v I3 C3 H3 H4, xs[i]? = some x → Ex I2 I3 → kp C3 → St I3 C3 H3 → Y i H3 v H4 → ∃ I4, Ex I3 I4 ∧ St I4 C3 H4 ∧ R.r x v I4 C3) → Kt J H2) (PX E K I1 C1) → wi σ H1 Kt
abbrev kpT : Hp → Prop := fun _ => True
def rangeL (lo hi : Int) : List Int := (List.range (hi - lo).toNat).map fun i : Nat => lo + ((i : Nat) : Int)
def rng1 (n : Int) : Res (List Int) := if n ≤ 1000000 ∧ -1000000 ≤ n then .ok (rangeL 0 n) else .bad
def rng2 (p : Int × Int) : Res (List Int) := if p.1 ≤ 1000000 ∧ -1000000 ≤ p.1 ∧ p.2 ≤ 1000000 ∧ -1000000 ≤ p.2 then .ok (rangeL p.1 p.2) else .bad
theorem rng1_ok {n : Int} (h : n ≤ 1000000 ∧ -1000000 ≤ n) : rng1 n = .ok (rangeL 0 n) := if_pos h
theorem rng2_ok {a b : Int} (h : a ≤ 1000000 ∧ -1000000 ≤ a ∧ b ≤ 1000000 ∧ -1000000 ≤ b) : rng2 (a, b) = .ok (rangeL a b) := if_pos h
@[simp] theorem rangeL_length (lo hi : Int) : (rangeL lo hi).length = (hi - lo).toNat := by unfold rangeL; rw [List.length_map, List.length_range]
theorem rangeL_get {lo hi : Int} {i : Nat} {x : Int} (h : (rangeL lo hi)[i]? = some x) : x = lo + (i : Int) := by
  unfold rangeL at h
  rw [List.getElem?_map] at h
  cases q : (List.range (hi - lo).toNat)[i]? with
  | none =>
    rw [q] at h
    cases h
  | some j =>
    rw [q] at h
    have hj : j = i := by
      obtain ⟨_, e⟩ := List.getElem?_eq_some_iff.mp q
      rw [List.getElem_range] at e
      exact e.symm
    rw [← hj]
    exact (Option.some.inj h).symm
theorem mem_rangeL {lo hi x : Int} : x ∈ rangeL lo hi ↔ lo ≤ x ∧ x < hi := by
  unfold rangeL
  rw [List.mem_map]
  constructor
  · rintro ⟨i, h, rfl⟩
    rw [List.mem_range] at h
    omega
  · intro h
    exact ⟨(x - lo).toNat, List.mem_range.mpr (by omega), by show lo + (((x - lo).toNat : Nat) : Int) = x; omega⟩
def enumF {α : Type} (k : Int) : List α → List (Int × α)
  | [] => []
  | x :: xs => (k, x) :: enumF (k + 1) xs
def enumR {α : Type} (xs : List α) : Res (List (Int × α)) := .ok (enumF 0 xs)
@[simp] theorem enumR_eq {α : Type} (xs : List α) : enumR xs = .ok (enumF 0 xs) := rfl
@[simp] theorem enumF_length {α : Type} : ∀ (xs : List α) (k : Int), (enumF k xs).length = xs.length
  | [], _ => rfl
  | _ :: xs, k => by rw [enumF, List.length_cons, List.length_cons, enumF_length xs]
theorem enumF_get {α : Type} : ∀ (xs : List α) (k : Int) (i : Nat), (enumF k xs)[i]? = xs[i]?.map fun x => (k + (i : Int), x)
  | [], _, _ => by simp [enumF]
  | x :: xs, k, 0 => by simp [enumF]
  | x :: xs, k, i + 1 => by
    rw [enumF, List.getElem?_cons_succ, List.getElem?_cons_succ, enumF_get xs (k + 1) i]
    cases xs[i]? with
    | none => rfl
    | some y =>
      simp only [Option.map_some, Option.some.injEq, Prod.mk.injEq, and_true]
      omega
def zipR {α β : Type} (p : List α × List β) : Res (List (α × β)) := .ok (p.1.zip p.2)
@[simp] theorem zipR_eq {α β : Type} (a : List α) (b : List β) : zipR (a, b) = .ok (a.zip b) := rfl
section
variable {E : XK} {K : PySem.W.Frag} {σ : L2.St} {I C : Hp} {α β γ : Type} {R : Rp α} {S : Rp β} {T : Rp γ} {te : TE} {ta : TA} {m : Res (List α)}
theorem i_list [Im R] (h : EvX E K te σ I C m (pL R)) : EvI E K (iList K te) σ I C kpT m R := fun I1 C1 H1 e e' s Kt q =>
  h I1 C1 H1 e e' s _ (q.mono (fun xs p v I2 H2 e2 s2 ⟨a, vs, h1, h2, h3, h4⟩ => ⟨a, h1, ⟨vs, .inl (.inl (s2.i a _ h2))⟩, by
    have hl := h4.len
    refine p (Itl K a) (fun H => SqL K H a vs) (YAt vs) I2 H2 e2 s2 (by omega) (by rw [← hl]; exact walk_list) (fun I3 C3 H3 e3 _ s3 => .inl (.inl (s3.i a _ (e3 a _ h2)))) (fun i x v' I3 C3 H3 H4 hx e3 _ s3 y => ?_)
    obtain ⟨rfl, y⟩ := y
    obtain ⟨w, hw, r⟩ := h4.get' hx
    rw [hw] at y
    cases y
    exact ⟨I3, Ex.refl _, s3, R.to e3 r⟩⟩) fun _ _ z => z)
/-- over a list that is a cell: the turns leave it as it is -/
theorem i_cell [Im R] {i : Nat} {a : Addr} {vs : List V} {xs : List α} (h : σ[i]? = some (some (.ref a))) (hc : C a = some (.lst vs)) (hl : vs.length ≤ sizeLine) (hr : A2 (fun x u => R.r x u I C) xs vs) :
    EvI E K (iList K (tVar i)) σ I C (fun C3 => C3 a = some (.lst vs)) (.ok xs) R := fun I1 C1 H1 e e' s Kt q =>
  ⟨.ref a, h, a, rfl, ⟨vs, .inl (.inl (s.c a _ (e' a _ hc)))⟩, by
    have hn := hr.len
    refine q (Itl K a) (fun H => SqL K H a vs) (YAt vs) I1 H1 (Ex.refl _) s (by omega) (by rw [← hn]; exact walk_list) (fun I3 C3 H3 e3 k3 s3 => .inl (.inl (s3.c a _ k3))) (fun i x v' I3 C3 H3 H4 hx e3 _ s3 y => ?_)
    obtain ⟨rfl, y⟩ := y
    obtain ⟨w, hw, r⟩ := hr.get' hx
    rw [hw] at y
    cases y
    exact ⟨I3, Ex.refl _, s3, R.to (e.trans e3) r⟩⟩
theorem i_script [Im R] (h : EvX E K te σ I C m (pW K R)) : EvI E K (iList K te) σ I C kpT m R := fun I1 C1 H1 e e' s Kt q =>
  h I1 C1 H1 e e' s _ (q.mono (fun xs p v I2 H2 e2 s2 ⟨a, vs, h1, h2, h3, h4⟩ => ⟨a, h1, ⟨vs, ex_l s2.i h2⟩, by
    have hl := h4.len
    refine p (Itl K a) (fun H => SqL K H a vs) (YAt vs) I2 H2 e2 s2 (by omega) (by rw [← hl]; exact walk_list) (fun I3 C3 H3 e3 _ s3 => ex_l (e3.trans s3.i) h2) (fun i x v' I3 C3 H3 H4 hx e3 _ s3 y => ?_)
    obtain ⟨rfl, y⟩ := y
    obtain ⟨w, hw, r⟩ := h4.get' hx
    rw [hw] at y
    cases y
    exact ⟨I3, Ex.refl _, s3, R.to e3 r⟩⟩) fun _ _ z => z)
theorem i_tup [Im R] (h : EvX E K te σ I C m (pQ K R)) : EvI E K (iTup K te) σ I C kpT m R := fun I1 C1 H1 e e' s Kt q =>
  h I1 C1 H1 e e' s _ (q.mono (fun xs p v I2 H2 e2 s2 ⟨a, vs, h1, h2, h3, h4⟩ => ⟨a, h1, ⟨vs, ex_t s2.i h2⟩, by
    have hl := h4.len
    refine p (Itt K a) (fun H => SqT K H a vs) (YAt vs) I2 H2 e2 s2 (by omega) (by rw [← hl]; exact walk_tup) (fun I3 C3 H3 e3 _ s3 => ex_t (e3.trans s3.i) h2) (fun i x v' I3 C3 H3 H4 hx e3 _ s3 y => ?_)
    obtain ⟨rfl, y⟩ := y
    obtain ⟨w, hw, r⟩ := h4.get' hx
    rw [hw] at y
    cases y
    exact ⟨I3, Ex.refl _, s3, R.to e3 r⟩⟩) fun _ _ z => z)
theorem i_rng1 {m : Res Int} (h : EvA E K ta σ I C m (t1 pI)) : EvI E K (iRng1 ta) σ I C kpT (un rng1 m) pI := fun I1 C1 H1 e e' s Kt q =>
  h I1 C1 H1 e e' s _ ((Post.bind q).mono (fun n p vs I2 H2 e2 s2 ⟨v, hv, rv⟩ => by
    unfold rng1 at p
    split at p
    · rename_i hn
      have hv1 : v = .int n := rv
      subst hv hv1
      refine ⟨n, rfl, by omega, by omega, p (Itr 0 n.toNat) (fun _ => True) (YFn fun i => .int (0 + i)) I2 H2 e2 s2 (by rw [rangeL_length]; exact Nat.le_trans (show (n - 0).toNat ≤ 1000000 by omega) (by decide)) (by rw [rangeL_length, Int.sub_zero]; exact walk_range) (fun _ _ _ _ _ _ => trivial) (fun i x v' I3 C3 H3 H4 hx e3 _ s3 y => ?_)⟩
      obtain ⟨rfl, rfl⟩ := y
      rw [rangeL_get hx]
      exact ⟨I3, Ex.refl _, s3, rfl⟩
    · exact p.elim) fun _ _ z => z)
theorem i_rng2 {m : Res (Int × Int)} (h : EvA E K ta σ I C m (tc pI (t1 pI))) : EvI E K (iRng2 ta) σ I C kpT (un rng2 m) pI := fun I1 C1 H1 e e' s Kt q =>
  h I1 C1 H1 e e' s _ ((Post.bind q).mono (fun n p vs I2 H2 e2 s2 ⟨v, us, hv, rv, w, hw, rw⟩ => by
    unfold rng2 at p
    split at p
    · rename_i hn
      have hv1 : v = .int n.1 := rv
      have hw1 : w = .int n.2 := rw
      subst hv hw hv1 hw1
      refine ⟨n.1, n.2, rfl, by omega, p (Itr n.1 (n.2 - n.1).toNat) (fun _ => True) (YFn fun i => .int (n.1 + i)) I2 H2 e2 s2 (by rw [rangeL_length]; exact Nat.le_trans (show (n.2 - n.1).toNat ≤ 2000000 by omega) (by decide)) (by rw [rangeL_length]; exact walk_range) (fun _ _ _ _ _ _ => trivial) (fun i x v' I3 C3 H3 H4 hx e3 _ s3 y => ?_)⟩
      obtain ⟨rfl, rfl⟩ := y
      rw [rangeL_get hx]
      exact ⟨I3, Ex.refl _, s3, rfl⟩
    · exact p.elim) fun _ _ z => z)
theorem new_pair {I C H : Hp} {T : Addr} {x y : V} {a : α} {b : β} (s : St I C H) (ht : H T = none) (hx : R.r a x I C) (hy : S.r b y I C) :
    ∃ I4, Ex I I4 ∧ St I4 C (upd H T (.tup [x, y])) ∧ (pT (tc R (t1 S))).r (a, b) (.ref T) I4 C :=
  ⟨upd I T (.tup [x, y]), Ex.new (s.i.free ht), s.newI ht, T, _, rfl, upd_same, x, [y], rfl, R.mono (Ex.new (s.i.free ht)) (Ex.refl _) hx, y, rfl, S.mono (Ex.new (s.i.free ht)) (Ex.refl _) hy⟩
theorem i_enum [Im R] (h : EvA E K ta σ I C m (t1 (pL R))) : EvI E K (iEnum K ta) σ I C kpT (un enumR m) (pT (tc pI (t1 R))) := fun I1 C1 H1 e e' s Kt q =>
  h I1 C1 H1 e e' s _ ((Post.bind q).mono (fun xs p vs I2 H2 e2 s2 ⟨v, hv, a, us, h1, h2, h3, h4⟩ => by
    subst hv h1
    have hl := h4.len
    refine ⟨a, us, rfl, .inl (.inl (s2.i a _ h2)), p (Ite K a) (fun H => SqL K H a us) (YPair (fun i => some (.int (i : Nat))) (fun i => us[i]?)) I2 H2 e2 s2 (by rw [enumF_length]; omega) (by rw [enumF_length, ← hl]; exact walk_enum) (fun I3 C3 H3 e3 _ s3 => .inl (.inl (s3.i a _ (e3 a _ h2)))) (fun i x v' I3 C3 H3 H4 hx e3 _ s3 y => ?_)⟩
    obtain ⟨T, u, w, rfl, hT, rfl, hu, hw⟩ := y
    rw [enumF_get] at hx
    cases hz : xs[i]? with
    | none =>
      rw [hz] at hx
      cases hx
    | some z =>
      rw [hz] at hx
      cases hx
      obtain ⟨w', hw', r⟩ := h4.get' hz
      have hw2 : us[i]? = some w := hw
      rw [hw'] at hw2
      cases hw2
      cases hu
      exact new_pair s3 hT (show V.int (i : Nat) = V.int (0 + (i : Int)) by rw [Int.zero_add]) (R.to e3 r)) fun _ _ z => z)
theorem i_zip [Im R] [Im S] {m : Res (List α × List β)} (h : EvA E K ta σ I C m (tc (pL R) (t1 (pL S)))) : EvI E K (iZip K ta) σ I C kpT (un zipR m) (pT (tc R (t1 S))) := fun I1 C1 H1 e e' s Kt q =>
  h I1 C1 H1 e e' s _ ((Post.bind q).mono (fun xs p vs I2 H2 e2 s2 ⟨v, us0, hv, ⟨a, us, h1, h2, h3, h4⟩, v', hv', a', us', h1', h2', h3', h4'⟩ => by
    subst hv hv' h1 h1'
    have hl := h4.len
    have hl' := h4'.len
    refine ⟨a, a', us, us', rfl, .inl (.inl (s2.i a _ h2)), .inl (.inl (s2.i a' _ h2')), p (Itz K a a') (fun H => SqL K H a us ∧ SqL K H a' us') (YPair (fun i => us[i]?) (fun i => us'[i]?)) I2 H2 e2 s2 (by rw [List.length_zip]; omega) (walk_zip (by rw [List.length_zip, hl, hl']))
      (fun I3 C3 H3 e3 _ s3 => ⟨.inl (.inl (s3.i a _ (e3 a _ h2))), .inl (.inl (s3.i a' _ (e3 a' _ h2')))⟩) (fun i x v' I3 C3 H3 H4 hx e3 _ s3 y => ?_)⟩
    obtain ⟨T, u, w, rfl, hT, rfl, hu, hw⟩ := y
    obtain ⟨x1, x2⟩ := x
    obtain ⟨hx1, hx2⟩ := List.getElem?_zip_eq_some.mp hx
    obtain ⟨w1, hw1, r1⟩ := h4.get' hx1
    obtain ⟨w2, hw2, r2⟩ := h4'.get' hx2
    have hu2 : us[i]? = some u := hu
    have hw3 : us'[i]? = some w := hw
    rw [hw1] at hu2
    cases hu2
    rw [hw2] at hw3
    cases hw3
    exact new_pair s3 hT (R.to e3 r1) (S.to e3 r2)) fun _ _ z => z)
/-! ### targets -/
def Tg (K : PySem.W.Frag) {α : Type} (g : TG) (R : Rp α) (σ : L2.St) (P : α → L2.St → Hp → Hp → Prop) : Prop := ∀ x v I C H Q, St I C H → R.r x v I C → (∀ σ2, P x σ2 I C → Q σ2 H) → g v σ H Q
theorem g_name {i : Nat} : Tg K (gName i) R σ (fun x σ2 I C => ∃ v, σ2 = σ.set i (some v) ∧ R.r x v I C) := fun x v I C H Q s r k => k _ ⟨v, rfl, r⟩
theorem g_two {i j : Nat} : Tg K (gTup K 2 (gCons (gName i) (gCons (gName j) gNil))) (pT (tc R (t1 S))) σ (fun x σ2 I C => ∃ u w, σ2 = (σ.set i (some u)).set j (some w) ∧ R.r x.1 u I C ∧ S.r x.2 w I C) := fun x v I C H Q s r k => by
  obtain ⟨a, vs, rfl, h2, u, us, rfl, h3, w, rfl, h4⟩ := r
  exact ⟨a, _, rfl, .inl (.inl (s.i _ _ h2)), rfl, u, _, rfl, w, _, rfl, rfl, k _ ⟨u, w, rfl, h3, h4⟩⟩
theorem g_three {i j l : Nat} : Tg K (gTup K 3 (gCons (gName i) (gCons (gName j) (gCons (gName l) gNil)))) (pT (tc R (tc S (t1 T)))) σ
    (fun x σ2 I C => ∃ u w z, σ2 = ((σ.set i (some u)).set j (some w)).set l (some z) ∧ R.r x.1 u I C ∧ S.r x.2.1 w I C ∧ T.r x.2.2 z I C) := fun x v I C H Q s r k => by
  obtain ⟨a, vs, rfl, h2, u, us, rfl, h3, w, us', rfl, h4, z, rfl, h5⟩ := r
  exact ⟨a, _, rfl, .inl (.inl (s.i _ _ h2)), rfl, u, _, rfl, w, _, rfl, z, _, rfl, rfl, k _ ⟨u, w, z, rfl, h3, h4, h5⟩⟩
/-! ### comprehensions (an element that raises is not served) -/
def mapR (f : α → Res β) : List α → Res (List β)
  | [] => .ok []
  | x :: xs => match f x with
    | .ok y => (mapR f xs).bind fun ys => .ok (y :: ys)
    | _ => .bad
def filR (p : α → Res Bool) (f : α → Res β) : List α → Res (List β)
  | [] => .ok []
  | x :: xs => match p x with
    | .ok true => (match f x with
      | .ok y => (filR p f xs).bind fun ys => .ok (y :: ys)
      | _ => .bad)
    | .ok false => filR p f xs
    | _ => .bad
theorem mapR_ok {f : α → Res β} {g : α → β} : ∀ {xs : List α}, (∀ x, x ∈ xs → f x = .ok (g x)) → mapR f xs = .ok (xs.map g)
  | [], _ => rfl
  | x :: xs, h => by
    unfold mapR
    rw [h x List.mem_cons_self]
    show (mapR f xs).bind _ = _
    rw [mapR_ok (xs := xs) fun y hy => h y (List.mem_cons_of_mem _ hy)]
    rfl
theorem filR_ok {p : α → Res Bool} {f : α → Res β} {q : α → Bool} {g : α → β} : ∀ {xs : List α}, (∀ x, x ∈ xs → p x = .ok (q x)) → (∀ x, x ∈ xs → q x = true → f x = .ok (g x)) → filR p f xs = .ok ((xs.filter q).map g)
  | [], _, _ => rfl
  | x :: xs, h, h' => by
    have ih := filR_ok (xs := xs) (fun y hy => h y (List.mem_cons_of_mem _ hy)) (fun y hy => h' y (List.mem_cons_of_mem _ hy))
    unfold filR
    rw [h x List.mem_cons_self]
    cases hq : q x with
    | true =>
      show (match f x with
        | .ok y => (filR p f xs).bind fun ys => .ok (y :: ys)
        | _ => .bad) = _
      rw [h' x List.mem_cons_self hq, List.filter_cons, hq]
      show (filR p f xs).bind _ = _
      rw [ih]
      rfl
    | false =>
      show filR p f xs = _
      rw [ih, List.filter_cons, hq]
      rfl
@[simp] theorem mapR_okf (g : α → β) (xs : List α) : mapR (fun x => .ok (g x)) xs = .ok (xs.map g) := mapR_ok fun _ _ => rfl
@[simp] theorem filR_okf (q : α → Bool) (g : α → β) (xs : List α) : filR (fun x => .ok (q x)) (fun x => .ok (g x)) xs = .ok ((xs.filter q).map g) := filR_ok (fun _ _ => rfl) (fun _ _ _ => rfl)
abbrev EZ : XK := fun _ _ _ => False
theorem drop_cons {xs : List α} {i : Nat} {x : α} (h : xs[i]? = some x) : xs.drop i = x :: xs.drop (i + 1) := by
  obtain ⟨hi, e⟩ := List.getElem?_eq_some_iff.mp h
  rw [← e]
  exact List.drop_eq_getElem_cons hi
/-- what stands between two turns: ys made so far, the rest gives what is wanted -/
def Lc (S : Rp β) (I C : Hp) (D : Addr) (rest : Res (List β)) (W : List β → Prop) (n : Nat) (H : Hp) : Prop :=
  ∃ (ys : List β) (vs : List V) (I' : Hp), Ex I I' ∧ St I' (upd C D (.lst vs)) H ∧ vs.length ≤ n ∧ A2 (fun x u => S.r x u I' C) ys vs ∧ Post rest (fun zs => W (ys ++ zs)) (fun _ _ => False)
theorem PX.no {K : PySem.W.Frag} {I C : Hp} {c : Ec} {i : Int} (h : False) : PX EZ K I C c i := h.elim
theorem x_lcgK [Im S] {wi : TI} {g : TG} {tt : TT} {vs : List Nat} {p : α → Res Bool} {f : α → Res β} {P : α → L2.St → Hp → Hp → Prop} {kp : Hp → Prop} (hi : EvI E K wi σ I C kp m R) (hkp : ∀ C3, Ex C C3 → kp C3) (hg : Tg K g R (wipe σ vs) P)
    (hw : ∀ x σ2 I' C', P x σ2 I' C' → wipe σ2 vs = wipe σ vs)
    (hp : ∀ x σ2 I' C', Ex I I' → Ex C C' → P x σ2 I' C' → EvT EZ K tt σ2 I' C' (p x))
    (hf : ∀ x σ2 I' C', Ex I I' → Ex C C' → P x σ2 I' C' → EvX EZ K te σ2 I' C' (f x) S)
    (hm : ∀ x σ2 I' I2 C', Ex I' I2 → P x σ2 I' C' → P x σ2 I2 C') : EvX E K (tLc wi g tt te vs) σ I C (m.bind (filR p f)) (pL S) := fun I1 C1 H1 e e' s Q q =>
  hi I1 C1 H1 e e' s _ ((Post.bind q).mono (fun xs q2 J G Y I2 H2 e2 s2 hz w hG hY D hD => by
    have cD : C1 D = none := s2.c.free hD
    refine lc_it w (fun i H => Lc S I2 C1 D (filR p f (xs.drop i)) (PQ (pL S) I1 C1 Q) i H) ⟨[], [], I2, Ex.refl _, s2.newC hD, Nat.le_refl _, .nil, ?_⟩ (fun i H hi ⟨_, vs', I', e3, s3, _⟩ => hG I' _ H e3 (hkp _ (e'.trans (Ex.new cD))) s3) (fun i x H H' hi ⟨ys, us, I', e3, s3, hn, r3, po⟩ y => ?_) (fun H ⟨ys, us, I', e3, s3, hn, r3, po⟩ => ?_)
    · cases hfil : filR p f xs with
      | ok zs =>
        rw [hfil] at q2
        show Post (filR p f (xs.drop 0)) _ _
        rw [List.drop_zero, hfil]
        exact q2
      | exc c i =>
        exfalso
        revert hfil
        clear q2 hG hY w hz
        induction xs with
        | nil =>
          intro z
          cases z
        | cons x xs ih =>
          unfold filR
          cases p x with
          | ok b =>
            cases b with
            | true =>
              cases f x with
              | ok y =>
                intro z
                cases hh : filR p f xs with
                | ok zs =>
                  simp only [hh] at z
                  cases z
                | exc c' i' =>
                  simp only [hh] at z
                  have z2 : (Res.exc c' i' : Res (List β)) = .exc c i := z
                  cases z2
                  exact ih hh
                | bad =>
                  simp only [hh] at z
                  cases z
              | exc _ _ => intro z; cases z
              | bad => intro z; cases z
            | false => exact ih
          | exc _ _ => intro z; cases z
          | bad => intro z; cases z
      | bad =>
        rw [hfil] at q2
        exact q2.elim
    · obtain ⟨a, ha⟩ : ∃ a, xs[i]? = some a := ⟨xs[i], by simp [hi]⟩
      rw [drop_cons ha] at po
      obtain ⟨I4, e4, s4, ra⟩ := hY i a x I' _ H H' ha e3 (hkp _ (e'.trans (Ex.new cD))) s3 y
      refine hg a x I4 _ H' _ s4 ra fun σ2 pa => ⟨hw _ _ _ _ pa, ?_⟩
      have eI : Ex I I4 := e.trans (e2.trans (e3.trans e4))
      have eC : Ex C (upd C1 D (.lst us)) := e'.trans (Ex.new cD)
      unfold filR at po
      refine hp a σ2 I4 _ eI eC pa I4 _ H' (Ex.refl _) (Ex.refl _) s4 _ ?_
      cases hpa : p a with
      | ok b =>
        rw [hpa] at po
        cases b with
        | true =>
          show ∀ I5 H5, Ex I4 I5 → St I5 (upd C1 D (.lst us)) H5 → te σ2 H5 _
          intro I5 H5 e5 s5
          refine hf a σ2 I5 _ (eI.trans e5) eC (hm _ _ _ _ _ e5 pa) I5 _ H5 (Ex.refl _) (Ex.refl _) s5 _ ?_
          cases hfa : f a with
          | ok b =>
            have po2 : Post ((filR p f (xs.drop (i + 1))).bind fun ys => .ok (b :: ys)) (fun zs => PQ (pL S) I1 C1 Q (ys ++ zs)) (fun _ _ => False) := by
              have z := po
              simp only [hfa] at z
              exact z
            intro v I6 H6 e6 s6 rv
            have hsz : us.length < sizeLine := Nat.lt_of_le_of_lt hn (Nat.lt_of_lt_of_le hi hz)
            refine ⟨us, s6.c D _ upd_same, hsz, ⟨ys ++ [b], us ++ [v], I6, e3.trans (e4.trans (e5.trans e6)), ?_, by rw [List.length_append]; exact Nat.succ_le_succ hn, ?_, ?_⟩⟩
            · have z := s6.set (o := .lst (us ++ [v])) (p := D) upd_same
              rw [upd_upd] at z
              exact z
            · exact (r3.imp fun _ _ => S.mono (e4.trans (e5.trans e6)) (Ex.refl _)).append (.one (Im.im rv))
            · refine (Post.bind po2).mono (fun zs z => ?_) fun _ _ z => z
              rw [List.append_assoc]
              exact z
          | exc c j =>
            have z := po
            simp only [hfa] at z
            exact z.elim
          | bad =>
            have z := po
            simp only [hfa] at z
            exact z.elim
        | false =>
          show ∀ I5 H5, Ex I4 I5 → St I5 (upd C1 D (.lst us)) H5 → Lc S I2 C1 D (filR p f (xs.drop (i + 1))) (PQ (pL S) I1 C1 Q) (i + 1) H5
          intro I5 H5 e5 s5
          exact ⟨ys, us, I5, e3.trans (e4.trans e5), s5, Nat.le_succ_of_le hn, r3.imp fun _ _ => S.mono (e4.trans e5) (Ex.refl _), po⟩
      | exc c j =>
        rw [hpa] at po
        exact po.elim
      | bad =>
        rw [hpa] at po
        exact po.elim
    · rw [List.drop_length] at po
      have po2 : PQ (pL S) I1 C1 Q (ys ++ []) := po
      rw [List.append_nil] at po2
      have sf := s3.frz (p := D) upd_same
      have iD : I' D = none := s3.freeI upd_same
      refine po2 (.ref D) (upd I' D (.lst us)) H (e2.trans (e3.trans (Ex.new iD))) (sf.less fun a o ha => ?_) ⟨D, us, rfl, upd_same, Nat.le_trans hn hz, r3.imp fun _ _ => S.mono (Ex.new iD) (Ex.refl _)⟩
      have hne : a ≠ D := fun z => by
        rw [z, cD] at ha
        cases ha
      show (if a = D then none else upd C1 D (.lst us) a) = some o
      rw [if_neg hne, upd_ne hne]
      exact ha) fun _ _ z => z)
theorem x_lcg [Im S] {wi : TI} {g : TG} {tt : TT} {vs : List Nat} {p : α → Res Bool} {f : α → Res β} {P : α → L2.St → Hp → Hp → Prop} (hi : EvI E K wi σ I C kpT m R) (hg : Tg K g R (wipe σ vs) P)
    (hw : ∀ x σ2 I' C', P x σ2 I' C' → wipe σ2 vs = wipe σ vs)
    (hp : ∀ x σ2 I' C', Ex I I' → Ex C C' → P x σ2 I' C' → EvT EZ K tt σ2 I' C' (p x))
    (hf : ∀ x σ2 I' C', Ex I I' → Ex C C' → P x σ2 I' C' → EvX EZ K te σ2 I' C' (f x) S)
    (hm : ∀ x σ2 I' I2 C', Ex I' I2 → P x σ2 I' C' → P x σ2 I2 C') : EvX E K (tLc wi g tt te vs) σ I C (m.bind (filR p f)) (pL S) := x_lcgK hi (fun _ _ => trivial) hg hw hp hf hm
theorem filR_yes (f : α → Res β) : ∀ xs : List α, filR (fun _ => .ok true) f xs = mapR f xs
  | [] => rfl
  | x :: xs => by
    unfold filR mapR
    rw [filR_yes f xs]
theorem t_yes : EvT E K tYes σ I C (.ok true) := fun I1 C1 H1 e e' s Q q => q I1 H1 (Ex.refl _) s
theorem x_lc [Im S] {wi : TI} {g : TG} {vs : List Nat} {f : α → Res β} {P : α → L2.St → Hp → Hp → Prop} (hi : EvI E K wi σ I C kpT m R) (hg : Tg K g R (wipe σ vs) P)
    (hw : ∀ x σ2 I' C', P x σ2 I' C' → wipe σ2 vs = wipe σ vs)
    (hf : ∀ x σ2 I' C', Ex I I' → Ex C C' → P x σ2 I' C' → EvX EZ K te σ2 I' C' (f x) S)
    (hm : ∀ x σ2 I' I2 C', Ex I' I2 → P x σ2 I' C' → P x σ2 I2 C') : EvX E K (tLc wi g tYes te vs) σ I C (m.bind (mapR f)) (pL S) := by
  have z := x_lcg (p := fun _ => .ok true) hi hg hw (fun x σ2 I' C' _ _ _ => t_yes) hf hm
  have e : filR (fun _ => Res.ok true) f = mapR f := funext (filR_yes f)
  rw [e] at z
  exact z
theorem x_lcK [Im S] {wi : TI} {g : TG} {vs : List Nat} {f : α → Res β} {P : α → L2.St → Hp → Hp → Prop} {kp : Hp → Prop} (hi : EvI E K wi σ I C kp m R) (hkp : ∀ C3, Ex C C3 → kp C3) (hg : Tg K g R (wipe σ vs) P)
    (hw : ∀ x σ2 I' C', P x σ2 I' C' → wipe σ2 vs = wipe σ vs)
    (hf : ∀ x σ2 I' C', Ex I I' → Ex C C' → P x σ2 I' C' → EvX EZ K te σ2 I' C' (f x) S)
    (hm : ∀ x σ2 I' I2 C', Ex I' I2 → P x σ2 I' C' → P x σ2 I2 C') : EvX E K (tLc wi g tYes te vs) σ I C (m.bind (mapR f)) (pL S) := by
  have z := x_lcgK (p := fun _ => .ok true) hi hkp hg hw (fun x σ2 I' C' _ _ _ => t_yes) hf hm
  have e : filR (fun _ => Res.ok true) f = mapR f := funext (filR_yes f)
  rw [e] at z
  exact z
end
end Sd

namespace Sd
open PySem L2
/-! ### promises -/
/-- f(a ..) hands back what the mirror m tells; nothing changes -/
def spP (K : PySem.W.Frag) {α β : Type} (T : Rt α) (m : α → Res β) (R : Rp β) : Sp := fun vs H Q E => ∃ (I C : Hp) (a : α), St I C H ∧ T.r a vs I C ∧ Post (m a) (PQ R I C Q) (PX E K I C)
/-- f(pool, a ..): the list at the first place changes; nothing is raised -/
def spM {α β μ : Type} (M : Rt μ) (T : Rt α) (m : α → μ → Res (β × μ)) (R : Rp β) : Sp := fun vs H Q _ => ∃ (I C : Hp) (p : Addr) (ws us : List V) (x : μ) (a : α), vs = .ref p :: us ∧ St I C H ∧ C p = some (.lst ws) ∧ M.r x ws I C ∧ T.r a us I C ∧
  Post (m a x) (fun b => ∀ v ws' I2 H2, Ex I I2 → St I2 (upd C p (.lst ws')) H2 → M.r b.2 ws' I2 (upd C p (.lst ws')) → R.r b.1 v I2 (upd C p (.lst ws')) → Q v H2) (fun _ _ => False)
inductive Out (S ρ : Type) where
  | nx (s : S)
  | br (s : S)
  | rt (r : ρ)
section
variable {α β S ρ : Type}
def loopN (f : α → S → Res S) : List α → S → Res S
  | [], s => .ok s
  | x :: xs, s => (f x s).bind fun s' => loopN f xs s'
def loopR (f : α → S → Res (Out S ρ)) : List α → S → Res (Out S ρ)
  | [], s => .ok (.nx s)
  | x :: xs, s => (f x s).bind fun o => match o with
    | .nx s' => loopR f xs s'
    | .br s' => .ok (.nx s')
    | .rt r => .ok (.rt r)
def whileF (c : S → Res Bool) (f : S → Res (Out S ρ)) : Nat → S → Res (Out S ρ)
  | 0, _ => .bad
  | n + 1, s => (c s).bind fun b => if b = true then (f s).bind fun o => match o with
    | .nx s' => whileF c f n s'
    | .br s' => .ok (.nx s')
    | .rt r => .ok (.rt r) else .ok (.nx s)
def whileN (c : S → Res Bool) (f : S → Res S) : Nat → S → Res S
  | 0, _ => .bad
  | n + 1, s => (c s).bind fun b => if b = true then (f s).bind fun s' => whileN c f n s' else .ok s
theorem loopN_ok {f : α → S → Res S} {g : S → α → S} : ∀ {xs : List α} {s : S}, (∀ x, x ∈ xs → ∀ s, f x s = .ok (g s x)) → loopN f xs s = .ok (xs.foldl g s)
  | [], s, _ => rfl
  | x :: xs, s, h => by
    unfold loopN
    rw [h x List.mem_cons_self]
    exact loopN_ok (xs := xs) fun y hy => h y (List.mem_cons_of_mem _ hy)
theorem loopN_cons (f : α → S → Res S) (x : α) (xs : List α) (s : S) : loopN f (x :: xs) s = (f x s).bind fun s' => loopN f xs s' := rfl
theorem loopR_cons (f : α → S → Res (Out S ρ)) (x : α) (xs : List α) (s : S) : loopR f (x :: xs) s = (f x s).bind fun o => match o with
    | .nx s' => loopR f xs s'
    | .br s' => .ok (.nx s')
    | .rt r => .ok (.rt r) := rfl
end
abbrev XH (X : Ec → Int → Prop) (E : XK) (K : PySem.W.Frag) (I C : Hp) : Prop := ∀ c i, X c i → PX E K I C c i
section
variable {E : XK} {K : PySem.W.Frag} {σ : L2.St} {I C H : Hp} {α β γ ω S ρ μ : Type} {R : Rp α} {te : TE} {ta : TA} {tt : TT} {tz tu tw : TS} {D : Ends} {m : Res α} {Q : ω → Prop} {X : Ec → Int → Prop}
/-! ### calls of defs -/
theorem x_call {T : Rt α} {f : α → Res β} {R : Rp β} (h : EvA E K ta σ I C m T) : EvX E K (tCall (spP K T f R) [] E ta) σ I C (un f m) R := fun I1 C1 H1 e e' s Q q =>
  h I1 C1 H1 e e' s _ ((Post.bind q).mono (fun a p vs I2 H2 e2 s2 rv => by
    refine ⟨I2, C1, a, s2, by rw [List.append_nil]; exact rv, Post.mono (m := f a) p (fun b z v I3 H3 e3 s3 rw => z v I3 H3 (e2.trans e3) s3 rw) fun c i z => z.mono e2 (Ex.refl _)⟩) fun _ _ z => z)
/-! ### statements -/
theorem s_asg {i : Nat} {k : α → Res ω} (h : EvX E K te σ I C m R) (s : St I C H) (hX : XH X E K I C) (hm : Post (m.bind k) Q X)
    (next : ∀ a v I2 H2, Ex I I2 → St I2 C H2 → R.r a v I2 C → Post (k a) Q X → tz D (σ.set i (some v)) H2) : tSeq (tAsg te (gName i)) tz D σ H :=
  h I C H (Ex.refl _) (Ex.refl _) s _ ((Post.bind hm).mono (fun a p v I2 H2 e2 s2 rv => next a v I2 H2 e2 s2 rv p) hX)
theorem s_asgG {g : TG} {P : α → L2.St → Hp → Hp → Prop} {k : α → Res ω} (hg : Tg K g R σ P) (h : EvX E K te σ I C m R) (s : St I C H) (hX : XH X E K I C) (hm : Post (m.bind k) Q X)
    (next : ∀ a σ2 I2 H2, Ex I I2 → St I2 C H2 → P a σ2 I2 C → Post (k a) Q X → tz D σ2 H2) : tSeq (tAsg te g) tz D σ H :=
  h I C H (Ex.refl _) (Ex.refl _) s _ ((Post.bind hm).mono (fun a p v I2 H2 e2 s2 rv => hg a v I2 C H2 _ s2 rv fun σ2 pa => next a σ2 I2 H2 e2 s2 pa p) hX)
theorem s_ret {k : α → Res ω} (h : EvX E K te σ I C m R) (s : St I C H) (hX : XH X E K I C) (hm : Post (m.bind k) Q X)
    (next : ∀ a v I2 H2, Ex I I2 → St I2 C H2 → R.r a v I2 C → Post (k a) Q X → D.rt v H2) : tSeq (tRet te) tz D σ H :=
  h I C H (Ex.refl _) (Ex.refl _) s _ ((Post.bind hm).mono (fun a p v I2 H2 e2 s2 rv => next a v I2 H2 e2 s2 rv p) hX)
theorem s_expr {k : α → Res ω} (h : EvX E K te σ I C m R) (s : St I C H) (hX : XH X E K I C) (hm : Post (m.bind k) Q X)
    (next : ∀ a I2 H2, Ex I I2 → St I2 C H2 → Post (k a) Q X → tz D σ H2) : tSeq (tDrop te) tz D σ H :=
  h I C H (Ex.refl _) (Ex.refl _) s _ ((Post.bind hm).mono (fun a p v I2 H2 e2 s2 rv => next a I2 H2 e2 s2 p) hX)
theorem s_if {c : Res Bool} {m1 m2 : Res ω} (h : EvT E K tt σ I C c) (s : St I C H) (hX : XH X E K I C) (hm : Post (ifR c m1 m2) Q X)
    (h1 : ∀ I2 H2, Ex I I2 → St I2 C H2 → Post m1 Q X → tu { D with nx := tz D } σ H2) (h2 : ∀ I2 H2, Ex I I2 → St I2 C H2 → Post m2 Q X → tw { D with nx := tz D } σ H2) : tSeq (tIfS tt tu tw) tz D σ H :=
  h I C H (Ex.refl _) (Ex.refl _) s _ ((Post.bind hm).mono (fun b p I2 H2 e2 s2 => by
    cases b with
    | true => exact h1 I2 H2 e2 s2 p
    | false => exact h2 I2 H2 e2 s2 p) hX)
/-- an if whose ways meet: the word P of what stands behind it -/
theorem s_ifj (P : S → L2.St → Hp → Hp → Prop) {c : Res Bool} {m1 m2 : Res S} {k : S → Res ω} (h : EvT E K tt σ I C c) (s : St I C H) (hX : XH X E K I C) (hm : Post ((ifR c m1 m2).bind k) Q X)
    (h1 : ∀ (N : L2.St → Hp → Prop) I2 H2, Ex I I2 → St I2 C H2 → Post m1 (fun s' => ∀ σ2 I3 C3 H3, Ex I I3 → St I3 C3 H3 → P s' σ2 I3 C3 → N σ2 H3) X → tu { D with nx := N } σ H2)
    (h2 : ∀ (N : L2.St → Hp → Prop) I2 H2, Ex I I2 → St I2 C H2 → Post m2 (fun s' => ∀ σ2 I3 C3 H3, Ex I I3 → St I3 C3 H3 → P s' σ2 I3 C3 → N σ2 H3) X → tw { D with nx := N } σ H2)
    (next : ∀ s' σ2 I3 C3 H3, Ex I I3 → St I3 C3 H3 → P s' σ2 I3 C3 → Post (k s') Q X → tz D σ2 H3) : Evl.tCut (tIfS tt tu tw) tz D σ H := by
  refine ⟨fun σ2 H3 => ∃ s' I3 C3, Ex I I3 ∧ St I3 C3 H3 ∧ P s' σ2 I3 C3 ∧ Post (k s') Q X, ?_, fun σ2 H3 ⟨s', I3, C3, e3, s3, p, q⟩ => next s' σ2 I3 C3 H3 e3 s3 p q⟩
  refine h I C H (Ex.refl _) (Ex.refl _) s _ ((Post.bind (Post.bind hm)).mono (fun b p I2 H2 e2 s2 => ?_) hX)
  cases b with
  | true => exact h1 _ I2 H2 e2 s2 (Post.mono (m := m1) p (fun s' z σ2 I3 C3 H3 e3 s3 pp => ⟨s', I3, C3, e3, s3, pp, z⟩) fun _ _ z => z)
  | false => exact h2 _ I2 H2 e2 s2 (Post.mono (m := m2) p (fun s' z σ2 I3 C3 H3 e3 s3 pp => ⟨s', I3, C3, e3, s3, pp, z⟩) fun _ _ z => z)
/-- the same, a way may return -/
theorem s_ifr (P : S → L2.St → Hp → Hp → Prop) {c : Res Bool} {m1 m2 : Res (Out S ρ)} {k : Out S ρ → Res ω} (h : EvT E K tt σ I C c) (s : St I C H) (hX : XH X E K I C) (hm : Post ((ifR c m1 m2).bind k) Q X)
    (h1 : ∀ (N : L2.St → Hp → Prop) I2 H2, Ex I I2 → St I2 C H2 → Post m1 (fun o => match o with
      | .nx s' => ∀ σ2 I3 C3 H3, Ex I I3 → St I3 C3 H3 → P s' σ2 I3 C3 → N σ2 H3
      | o => Post (k o) Q X) X → tu { D with nx := N } σ H2)
    (h2 : ∀ (N : L2.St → Hp → Prop) I2 H2, Ex I I2 → St I2 C H2 → Post m2 (fun o => match o with
      | .nx s' => ∀ σ2 I3 C3 H3, Ex I I3 → St I3 C3 H3 → P s' σ2 I3 C3 → N σ2 H3
      | o => Post (k o) Q X) X → tw { D with nx := N } σ H2)
    (next : ∀ s' σ2 I3 C3 H3, Ex I I3 → St I3 C3 H3 → P s' σ2 I3 C3 → Post (k (.nx s')) Q X → tz D σ2 H3) : Evl.tCut (tIfS tt tu tw) tz D σ H := by
  refine ⟨fun σ2 H3 => ∃ s' I3 C3, Ex I I3 ∧ St I3 C3 H3 ∧ P s' σ2 I3 C3 ∧ Post (k (.nx s')) Q X, ?_, fun σ2 H3 ⟨s', I3, C3, e3, s3, p, q⟩ => next s' σ2 I3 C3 H3 e3 s3 p q⟩
  refine h I C H (Ex.refl _) (Ex.refl _) s _ ((Post.bind (Post.bind hm)).mono (fun b p I2 H2 e2 s2 => ?_) hX)
  cases b with
  | true => exact h1 _ I2 H2 e2 s2 (Post.mono (m := m1) p (fun o z => by
      cases o with
      | nx s' => exact fun σ2 I3 C3 H3 e3 s3 pp => ⟨s', I3, C3, e3, s3, pp, z⟩
      | br s' => exact z
      | rt r => exact z) fun _ _ z => z)
  | false => exact h2 _ I2 H2 e2 s2 (Post.mono (m := m2) p (fun o z => by
      cases o with
      | nx s' => exact fun σ2 I3 C3 H3 e3 s3 pp => ⟨s', I3, C3, e3, s3, pp, z⟩
      | br s' => exact z
      | rt r => exact z) fun _ _ z => z)
/-! ### loops -/
theorem s_forN (P : S → L2.St → Hp → Hp → Prop) {wi : TI} {g : TG} {kp : Hp → Prop} {m : Res (List α)} {f : α → S → Res S} {s0 : S} {k : S → Res ω} (hi : EvI E K wi σ I C kp m R) (s : St I C H) (hX : XH X E K I C) (hm : Post ((m.bind fun xs => loopN f xs s0).bind k) Q X)
    (h0 : ∀ I2, Ex I I2 → P s0 σ I2 C) (hk : ∀ s' σ' I' C', P s' σ' I' C' → kp C') (hP : ∀ s' σ' I' I2 C', Ex I' I2 → P s' σ' I' C' → P s' σ' I2 C')
    (body : ∀ (N : L2.St → Hp → Prop) x v s' σ' I' C' H', Ex I I' → St I' C' H' → P s' σ' I' C' → R.r x v I' C' → Post (f x s') (fun s2 => ∀ σ2 I3 C3 H3, Ex I' I3 → St I3 C3 H3 → P s2 σ2 I3 C3 → N σ2 H3) X →
      g v σ' H' fun σ2 H2 => tu { D with nx := N, ct := N, bk := tz D } σ2 H2)
    (next : ∀ s' σ' I' C' H', Ex I I' → St I' C' H' → P s' σ' I' C' → Post (k s') Q X → tz D σ' H') : tSeq (tFor wi g tu) tz D σ H :=
  hi I C H (Ex.refl _) (Ex.refl _) s _ ((Post.bind (Post.bind hm)).mono (fun xs q2 J G Y I2 H2 e2 s2 hz w hG hY => by
    refine for_it w (fun i σ' H' => ∃ s' I' C', Ex I2 I' ∧ St I' C' H' ∧ P s' σ' I' C' ∧ Post ((loopN f (xs.drop i) s').bind k) Q X) ⟨s0, I2, C, Ex.refl _, s2, h0 I2 e2, by rw [List.drop_zero]; exact Post.of_bind q2⟩
      (fun i σ' H' hi ⟨s', I', C', e3, s3, p, _⟩ => hG I' C' H' e3 (hk _ _ _ _ p) s3) (fun i x σ' H1 H' hi ⟨s', I', C', e3, s3, p, po⟩ y => ?_) (fun σ' H' ⟨s', I', C', e3, s3, p, po⟩ => ?_)
    · obtain ⟨a, ha⟩ : ∃ a, xs[i]? = some a := ⟨xs[i], by simp [hi]⟩
      rw [drop_cons ha] at po
      obtain ⟨I4, e4, s4, ra⟩ := hY i a x I' C' H1 H' ha e3 (hk _ _ _ _ p) s3 y
      exact body _ a x s' σ' I4 C' H' (e2.trans (e3.trans e4)) s4 (hP _ _ _ _ _ e4 p) ra ((Post.bind (Post.bind po)).mono (fun s3 z σ2 I5 C5 H5 e5 s5 p5 => ⟨s3, I5, C5, e3.trans (e4.trans e5), s5, p5, Post.of_bind z⟩) fun _ _ z => z)
    · rw [List.drop_length] at po
      exact next s' σ' I' C' H' (e2.trans e3) s3 p po) hX)
/-- .. a turn may break or return -/
theorem s_forR (P : S → L2.St → Hp → Hp → Prop) {wi : TI} {g : TG} {kp : Hp → Prop} {m : Res (List α)} {f : α → S → Res (Out S ρ)} {s0 : S} {k : Out S ρ → Res ω} (hi : EvI E K wi σ I C kp m R) (s : St I C H) (hX : XH X E K I C) (hm : Post ((m.bind fun xs => loopR f xs s0).bind k) Q X)
    (h0 : ∀ I2, Ex I I2 → P s0 σ I2 C) (hk : ∀ s' σ' I' C', P s' σ' I' C' → kp C') (hP : ∀ s' σ' I' I2 C', Ex I' I2 → P s' σ' I' C' → P s' σ' I2 C')
    (body : ∀ (N : L2.St → Hp → Prop) x v s' σ' I' C' H', Ex I I' → St I' C' H' → P s' σ' I' C' → R.r x v I' C' → Post (f x s') (fun o => match o with
        | .nx s2 => ∀ σ2 I3 C3 H3, Ex I' I3 → St I3 C3 H3 → P s2 σ2 I3 C3 → N σ2 H3
        | .br s2 => ∀ σ2 I3 C3 H3, Ex I' I3 → St I3 C3 H3 → P s2 σ2 I3 C3 → tz D σ2 H3
        | .rt r => Post (k (.rt r)) Q X) X →
      g v σ' H' fun σ2 H2 => tu { D with nx := N, ct := N, bk := tz D } σ2 H2)
    (next : ∀ s' σ' I' C' H', Ex I I' → St I' C' H' → P s' σ' I' C' → Post (k (.nx s')) Q X → tz D σ' H') : tSeq (tFor wi g tu) tz D σ H :=
  hi I C H (Ex.refl _) (Ex.refl _) s _ ((Post.bind (Post.bind hm)).mono (fun xs q2 J G Y I2 H2 e2 s2 hz w hG hY => by
    refine for_it w (fun i σ' H' => ∃ s' I' C', Ex I2 I' ∧ St I' C' H' ∧ P s' σ' I' C' ∧ Post ((loopR f (xs.drop i) s').bind k) Q X) ⟨s0, I2, C, Ex.refl _, s2, h0 I2 e2, by rw [List.drop_zero]; exact Post.of_bind q2⟩
      (fun i σ' H' hi ⟨s', I', C', e3, s3, p, _⟩ => hG I' C' H' e3 (hk _ _ _ _ p) s3) (fun i x σ' H1 H' hi ⟨s', I', C', e3, s3, p, po⟩ y => ?_) (fun σ' H' ⟨s', I', C', e3, s3, p, po⟩ => ?_)
    · obtain ⟨a, ha⟩ : ∃ a, xs[i]? = some a := ⟨xs[i], by simp [hi]⟩
      rw [drop_cons ha] at po
      obtain ⟨I4, e4, s4, ra⟩ := hY i a x I' C' H1 H' ha e3 (hk _ _ _ _ p) s3 y
      refine body _ a x s' σ' I4 C' H' (e2.trans (e3.trans e4)) s4 (hP _ _ _ _ _ e4 p) ra ((Post.bind (Post.bind po)).mono (fun o z => ?_) fun _ _ z => z)
      cases o with
      | nx s3 => exact fun σ2 I5 C5 H5 e5 s5 p5 => ⟨s3, I5, C5, e3.trans (e4.trans e5), s5, p5, Post.of_bind z⟩
      | br s3 => exact fun σ2 I5 C5 H5 e5 s5 p5 => next s3 σ2 I5 C5 H5 (e2.trans (e3.trans (e4.trans e5))) s5 p5 z
      | rt r => exact z
    · rw [List.drop_length] at po
      exact next s' σ' I' C' H' (e2.trans e3) s3 p po) hX)
theorem s_while (P : S → L2.St → Hp → Hp → Prop) {n : Nat} {c : S → Res Bool} {f : S → Res (Out S ρ)} {s0 : S} {k : Out S ρ → Res ω} (s : St I C H) (hm : Post ((whileF c f n s0).bind k) Q X)
    (h0 : P s0 σ I C)
    (cond : ∀ s' σ' I' C', Ex I I' → P s' σ' I' C' → EvT E K tt σ' I' C' (c s') ∧ XH X E K I' C') (hP : ∀ s' σ' I' I2 C', Ex I' I2 → P s' σ' I' C' → P s' σ' I2 C')
    (body : ∀ (N : L2.St → Hp → Prop) s' σ' I' C' H', Ex I I' → St I' C' H' → P s' σ' I' C' → Post (f s') (fun o => match o with
        | .nx s2 => ∀ σ2 I3 C3 H3, Ex I' I3 → St I3 C3 H3 → P s2 σ2 I3 C3 → N σ2 H3
        | .br s2 => ∀ σ2 I3 C3 H3, Ex I' I3 → St I3 C3 H3 → P s2 σ2 I3 C3 → tz D σ2 H3
        | .rt r => Post (k (.rt r)) Q X) X → tu { D with nx := N, ct := N, bk := tz D } σ' H')
    (next : ∀ s' σ' I' C' H', Ex I I' → St I' C' H' → P s' σ' I' C' → Post (k (.nx s')) Q X → tz D σ' H') : tSeq (tWhile tt tu) tz D σ H := by
  refine ⟨fun n σ' H' => ∃ s' I' C', Ex I I' ∧ St I' C' H' ∧ P s' σ' I' C' ∧ Post ((whileF c f n s').bind k) Q X, ⟨n, s0, I, C, Ex.refl _, s, h0, hm⟩, ?_⟩
  rintro n σ' H' ⟨s', I', C', e1, s1, p, po⟩
  cases n with
  | zero => exact po.elim
  | succ n =>
    obtain ⟨hc, hx⟩ := cond s' σ' I' C' e1 p
    refine hc I' C' H' (Ex.refl _) (Ex.refl _) s1 _ ((Post.bind (Post.bind po)).mono (fun b q I2 H2 e2 s2 => ?_) hx)
    cases b with
    | true =>
      refine ⟨fun σ2 H3 => ∃ s' I' C', Ex I I' ∧ St I' C' H3 ∧ P s' σ2 I' C' ∧ Post ((whileF c f n s').bind k) Q X, fun σ2 H3 z => ⟨n, Nat.lt_succ_self _, z⟩, ?_⟩
      refine body _ s' σ' I2 C' H2 (e1.trans e2) s2 (hP _ _ _ _ _ e2 p) ((Post.bind q).mono (fun o z => ?_) fun _ _ z => z)
      cases o with
      | nx s3 => exact fun σ2 I5 C5 H5 e5 s5 p5 => ⟨s3, I5, C5, e1.trans (e2.trans e5), s5, p5, Post.of_bind z⟩
      | br s3 => exact fun σ2 I5 C5 H5 e5 s5 p5 => next s3 σ2 I5 C5 H5 (e1.trans (e2.trans e5)) s5 p5 z
      | rt r => exact z
    | false => exact next s' σ' I2 C' H2 (e1.trans e2) s2 (hP _ _ _ _ _ e2 p) q
/-! ### cells -/
/-- xs = []  (xs will change) -/
theorem s_newL {i : Nat} (s : St I C H) (next : ∀ p H2, C p = none → H p = none → St I (upd C p (.lst [])) H2 → tz D (σ.set i (some (.ref p))) H2) : tSeq (tAsg (tLst tNil) (gName i)) tz D σ H :=
  ⟨Nat.zero_le _, fun p hp => next p _ (s.c.free hp) hp (s.newC hp)⟩
/-- xs = e, a new list of e's (xs will change) -/
theorem s_asgC {i : Nat} {k : List α → Res ω} {m : Res (List α)} {te : TE} (h : EvX E K te σ I C m (pL R)) (s : St I C H) (hX : XH X E K I C) (hm : Post (m.bind k) Q X)
    (fresh : True) (next : ∀ a v I2 H2, Ex I I2 → St I2 C H2 → (pL R).r a v I2 C → Post (k a) Q X → tz D (σ.set i (some v)) H2) : tSeq (tAsg te (gName i)) tz D σ H :=
  s_asg h s hX hm next
/-- xs.append(e) -/
def push (xs : List α) (x : α) : Res (List α) := if xs.length < 1000000 then .ok (xs ++ [x]) else .bad
theorem push_ok {xs : List α} {x : α} (h : xs.length < 1000000) : push xs x = .ok (xs ++ [x]) := if_pos h
theorem s_app {i : Nat} {p : Addr} {xs : List α} {vs : List V} {k : List α → Res ω} [Im R] {m : Res α} (hv : σ[i]? = some (some (.ref p))) (hc : C p = some (.lst vs)) (hr : A2 (fun x u => R.r x u I C) xs vs) (h : EvX E K te σ I C m R) (s : St I C H) (hX : XH X E K I C)
    (hm : Post ((m.bind fun x => push xs x).bind k) Q X)
    (next : ∀ ys vs' I2 H2, Ex I I2 → St I2 (upd C p (.lst vs')) H2 → vs'.length ≤ sizeLine → A2 (fun x u => R.r x u I2 (upd C p (.lst vs'))) ys vs' → Post (k ys) Q X → tz D σ H2) :
    tSeq (tDrop (tBM K "list" rAppend (tVar i) (tCons te tNil))) tz D σ H :=
  ⟨.ref p, hv, .inl ⟨rfl, vs, .inl (.inl (s.c p _ hc))⟩, h I C H (Ex.refl _) (Ex.refl _) s _ ((Post.bind (Post.bind hm)).mono (fun a po v I2 H2 e2 s2 rv => by
    unfold push at po
    split at po
    · rename_i hl
      have hn := hr.len
      have hl2 : vs.length < sizeLine := by
        rw [hn]
        exact Nat.lt_of_lt_of_le hl (by decide)
      refine ⟨p, vs, v, rfl, rfl, s2.c p _ hc, hl2, next (xs ++ [a]) (vs ++ [v]) I2 _ e2 (s2.set hc) (by rw [List.length_append]; exact hl2) ?_ po⟩
      exact (hr.imp fun _ _ h => R.to e2 h).append (.one (Im.im rv))
    · exact po.elim) hX)⟩
/-- xs[e1] = e2 -/
def setR (xs : List α) (i : Int) (x : α) : Res (List α) := match ixN xs.length i with
  | some j => .ok (xs.set j x)
  | none => .bad
theorem s_setL {i : Nat} {p : Addr} {xs : List α} {vs : List V} {k : List α → Res ω} [Im R] {ti : TE} {m : Res α} {mi : Res Int} (hv : σ[i]? = some (some (.ref p))) (hc : C p = some (.lst vs)) (hl : vs.length ≤ sizeLine) (hr : A2 (fun x u => R.r x u I C) xs vs)
    (h : EvX E K te σ I C m R) (hi : EvX E K ti σ I C mi pI) (s : St I C H) (hX : XH X E K I C) (hm : Post ((m.bind fun x => mi.bind fun j => setR xs j x).bind k) Q X)
    (next : ∀ ys vs' I2 H2, Ex I I2 → St I2 (upd C p (.lst vs')) H2 → vs'.length ≤ sizeLine → A2 (fun x u => R.r x u I2 (upd C p (.lst vs'))) ys vs' → Post (k ys) Q X → tz D σ H2) :
    tSeq (tAsg te (gSub (tVar i) ti rSetL)) tz D σ H :=
  h I C H (Ex.refl _) (Ex.refl _) s _ ((Post.bind (Post.bind hm)).mono (fun a po v I2 H2 e2 s2 rv => by
    refine ⟨.ref p, hv, hi I2 C H2 e2 (Ex.refl _) s2 _ ((Post.bind po).mono (fun j po2 w I3 H3 e3 s3 rw => ?_) fun c i z => (hX c i z).mono e2 (Ex.refl _))⟩
    have hw : w = .int j := rw
    subst hw
    unfold setR at po2
    have hn := hr.len
    cases hj : ixN xs.length j with
    | none =>
      rw [hj] at po2
      exact po2.elim
    | some l =>
      rw [hj] at po2
      refine ⟨p, vs, j, l, rfl, rfl, s3.c p _ hc, by rw [hn]; exact hj, next (xs.set l a) (vs.set l v) I3 _ (e2.trans e3) (s3.set hc) (by rw [List.length_set]; exact hl) ?_ po2⟩
      exact A2.set (Im.im (R.mono e3 (Ex.refl _) rv)) l (hr.imp fun _ _ h => R.to (e2.trans e3) h)) hX)
end
end Sd

namespace Sd
open PySem L2
/-! ### what draws from the pool (the list at p, its places M) -/
def off (C : Hp) (p : Addr) : Hp := fun a => if a = p then none else C a
theorem off_same {C : Hp} {p : Addr} : off C p p = none := if_pos rfl
theorem off_ne {C : Hp} {p q : Addr} (h : q ≠ p) : off C p q = C q := if_neg h
theorem off_ex {C : Hp} {p : Addr} : Ex (off C p) C := fun a o h => by
  unfold off at h
  split at h
  · cases h
  · exact h
theorem off_upd {C : Hp} {p : Addr} {o : HO} : Ex (off C p) (upd C p o) := fun a u h => by
  unfold off at h
  split at h
  · cases h
  · rename_i hne
    rw [upd_ne hne]
    exact h
theorem Ex.over {C C1 : Hp} {p : Addr} {o : HO} (h : Ex C C1) (hp : C p = none) : Ex C (upd C1 p o) := fun a u e => by
  rw [upd_ne (ne_of_none e hp)]
  exact h a u e
theorem upd_id {C : Hp} {p : Addr} {o : HO} (h : C p = some o) : upd C p o = C := by
  funext a
  by_cases q : a = p
  · rw [q, upd_same, h]
  · exact upd_ne q
def EvM (E : XK) (K : PySem.W.Frag) (p : Addr) {μ : Type} (M : Rt μ) (te : TE) (σ : L2.St) (I Cp : Hp) {β : Type} (m : μ → Res (β × μ)) (R : Rp β) : Prop :=
  ∀ x ws I1 C1 H1, Ex I I1 → Ex Cp C1 → St I1 C1 H1 → C1 p = some (.lst ws) → M.r x ws I1 C1 → ∀ Q : VK, Post (m x) (fun b => ∀ v ws' I2 H2, Ex I1 I2 → St I2 (upd C1 p (.lst ws')) H2 → M.r b.2 ws' I2 (upd C1 p (.lst ws')) → R.r b.1 v I2 (upd C1 p (.lst ws')) → Q v H2) (fun _ _ => False) → te σ H1 Q
def EvTM (E : XK) (K : PySem.W.Frag) (p : Addr) {μ : Type} (M : Rt μ) (tt : TT) (σ : L2.St) (I Cp : Hp) (m : μ → Res (Bool × μ)) : Prop :=
  ∀ x ws I1 C1 H1, Ex I I1 → Ex Cp C1 → St I1 C1 H1 → C1 p = some (.lst ws) → M.r x ws I1 C1 → ∀ Q : Bool → Hp → Prop, Post (m x) (fun b => ∀ ws' I2 H2, Ex I1 I2 → St I2 (upd C1 p (.lst ws')) H2 → M.r b.2 ws' I2 (upd C1 p (.lst ws')) → Q b.1 H2) (fun _ _ => False) → tt σ H1 Q
def EvAM (E : XK) (K : PySem.W.Frag) (p : Addr) {μ : Type} (M : Rt μ) (ta : TA) (σ : L2.St) (I Cp : Hp) {α : Type} (m : μ → Res (α × μ)) (T : Rt α) : Prop :=
  ∀ x ws I1 C1 H1, Ex I I1 → Ex Cp C1 → St I1 C1 H1 → C1 p = some (.lst ws) → M.r x ws I1 C1 → ∀ Q : List V → Hp → Prop, Post (m x) (fun b => ∀ vs ws' I2 H2, Ex I1 I2 → St I2 (upd C1 p (.lst ws')) H2 → M.r b.2 ws' I2 (upd C1 p (.lst ws')) → T.r b.1 vs I2 (upd C1 p (.lst ws')) → Q vs H2) (fun _ _ => False) → ta σ H1 Q
def EvIM (E : XK) (K : PySem.W.Frag) (p : Addr) {μ : Type} (M : Rt μ) (wi : TI) (σ : L2.St) (I Cp : Hp) {α : Type} (m : μ → Res (List α × μ)) (R : Rp α) : Prop :=
  ∀ x ws I1 C1 H1, Ex I I1 → Ex Cp C1 → St I1 C1 H1 → C1 p = some (.lst ws) → M.r x ws I1 C1 → ∀ Kt : L2.It → Hp → Prop, Post (m x) (fun b => ∀ ws' J G Y I2 H2, Ex I1 I2 → St I2 (upd C1 p (.lst ws')) H2 → M.r b.2 ws' I2 (upd C1 p (.lst ws')) → b.1.length ≤ sizeLine → Walk J b.1.length G Y →
    (∀ I3 C3 H3, Ex I2 I3 → St I3 C3 H3 → G H3) →
    (∀ i x v I3 C3 H3 H4, b.1[i]? = some x → Ex I2 I3 → St I3 C3 H3 → Y i H3 v H4 → ∃ I4, Ex I3 I4 ∧ St I4 C3 H4 ∧ R.r x v I4 C3) → Kt J H2) (fun _ _ => False) → wi σ H1 Kt
section
variable {μ α β γ : Type}
def liftM (m : Res α) : μ → Res (α × μ) := fun x => m.bind fun a => .ok (a, x)
def unM (f : α → Res γ) (m : μ → Res (α × μ)) : μ → Res (γ × μ) := fun x => (m x).bind fun b => (f b.1).bind fun c => .ok (c, b.2)
def binM (f : α → β → Res γ) (m : μ → Res (α × μ)) (n : μ → Res (β × μ)) : μ → Res (γ × μ) := fun x => (m x).bind fun b => (n b.2).bind fun d => (f b.1 d.1).bind fun c => .ok (c, d.2)
def pairM (m : μ → Res (α × μ)) (n : μ → Res (β × μ)) : μ → Res ((α × β) × μ) := fun x => (m x).bind fun b => (n b.2).bind fun d => .ok ((b.1, d.1), d.2)
def consM (m : μ → Res (α × μ)) (n : μ → Res (List α × μ)) : μ → Res (List α × μ) := fun x => (m x).bind fun b => (n b.2).bind fun d => .ok (b.1 :: d.1, d.2)
def callM (f : α → μ → Res (β × μ)) (m : μ → Res (α × μ)) : μ → Res (β × μ) := fun x => (m x).bind fun b => f b.1 b.2
def andM (m n : μ → Res (Bool × μ)) : μ → Res (Bool × μ) := fun x => (m x).bind fun b => if b.1 = true then n b.2 else .ok (false, b.2)
def orM (m n : μ → Res (Bool × μ)) : μ → Res (Bool × μ) := fun x => (m x).bind fun b => if b.1 = true then .ok (true, b.2) else n b.2
def ifM (c : μ → Res (Bool × μ)) (m n : μ → Res (α × μ)) : μ → Res (α × μ) := fun x => (c x).bind fun b => if b.1 = true then m b.2 else n b.2
@[simp] theorem liftM_ok (a : α) (x : μ) : liftM (.ok a) x = .ok (a, x) := rfl
theorem liftM_eq (m : Res α) (x : μ) : liftM m x = m.bind fun a => .ok (a, x) := rfl
end
section
variable {E : XK} {K : PySem.W.Frag} {p : Addr} {μ : Type} {M : Rt μ} {σ : L2.St} {I Cp : Hp} {α β γ : Type} {R : Rp α} {S : Rp β} {T : Rp γ} {te ta tb : TE} {tt tu : TT} {m : μ → Res (α × μ)} {n : μ → Res (β × μ)}
theorem m_pure {m : Res α} (h : EvX E K te σ I Cp m R) : EvM E K p M te σ I Cp (liftM m) R := fun x ws I1 C1 H1 e e' s hc hx Q q =>
  h I1 C1 H1 e e' s Q ((Post.bind q).mono (fun a z v I2 H2 e2 s2 rv => by
    have z2 := z v ws I2 H2 e2
    rw [upd_id hc] at z2
    exact z2 s2 (M.mono e2 (Ex.refl _) hx) rv) fun _ _ z => z.elim)
theorem m_un [It M] {r : V → Hp → VK → Prop} {f : α → Res γ} (hr : ∀ E, Op1 E K r f R T) (hp : Cp p = none) (h : EvM E K p M ta σ I Cp m R) : EvM E K p M (tUn r ta) σ I Cp (unM f m) T := fun x ws I1 C1 H1 e e' s hc hx Q q =>
  h x ws I1 C1 H1 e e' s hc hx _ ((Post.bind q).mono (fun b z v ws' I2 H2 e2 s2 hx2 rv => hr E I2 _ H2 b.1 v s2 rv Q ((Post.bind z).mono (fun c z w I3 H3 e3 s3 rw => z w ws' I3 H3 (e2.trans e3) s3 (M.mono e3 (Ex.refl _) hx2) rw) fun _ _ z => z.elim)) fun _ _ z => z)
theorem m_op [It M] [Im R] {r : R2} {f : α → β → Res γ} (hr : ∀ E, Op2 E K r f R S T) (hp : Cp p = none) (h1 : EvM E K p M ta σ I Cp m R) (h2 : EvM E K p M tb σ I Cp n S) : EvM E K p M (tOp r ta tb) σ I Cp (binM f m n) T := fun x ws I1 C1 H1 e e' s hc hx Q q =>
  h1 x ws I1 C1 H1 e e' s hc hx _ ((Post.bind q).mono (fun b z v ws' I2 H2 e2 s2 hx2 rv =>
    h2 b.2 ws' I2 _ H2 (e.trans e2) (e'.over hp) s2 upd_same hx2 _ ((Post.bind z).mono (fun d z2 w ws2 I3 H3 e3 s3 hx3 rw => by
      rw [upd_upd] at s3 hx3 rw
      exact hr E I3 _ H3 b.1 d.1 v w s3 (R.to e3 rv) rw Q ((Post.bind z2).mono (fun c z3 w I4 H4 e4 s4 rw => z3 w ws2 I4 H4 (e2.trans (e3.trans e4)) s4 (M.mono e4 (Ex.refl _) hx3) rw) fun _ _ z => z.elim)) fun _ _ z => z)) fun _ _ z => z)
theorem m_k [It M] {r : R2} {f : α → Res γ} {k : Int} (hr : ∀ E, Op1 E K (fun x H Q => r x (.int k) H Q) f R T) (hp : Cp p = none) (h : EvM E K p M te σ I Cp m R) : EvM E K p M (tOp r te (tC (.int k))) σ I Cp (unM f m) T :=
  fun x ws I1 C1 H1 e e' s hc hx Q q => m_un (r := fun x H Q => r x (.int k) H Q) hr hp h x ws I1 C1 H1 e e' s hc hx Q q
theorem am_one (h : EvM E K p M te σ I Cp m R) : EvAM E K p M (tCons te tNil) σ I Cp m (t1 R) := fun x ws I1 C1 H1 e e' s hc hx Q q =>
  h x ws I1 C1 H1 e e' s hc hx _ (q.mono (fun b z v ws' I2 H2 e2 s2 hx2 rv => z [v] ws' I2 H2 e2 s2 hx2 ⟨v, rfl, rv⟩) fun _ _ z => z)
theorem am_cons [Im R] {tr : TA} {A : Rt β} (hp : Cp p = none) (h1 : EvM E K p M te σ I Cp m R) (h2 : EvAM E K p M tr σ I Cp n A) : EvAM E K p M (tCons te tr) σ I Cp (pairM m n) (tc R A) := fun x ws I1 C1 H1 e e' s hc hx Q q =>
  h1 x ws I1 C1 H1 e e' s hc hx _ ((Post.bind q).mono (fun b z v ws' I2 H2 e2 s2 hx2 rv =>
    h2 b.2 ws' I2 _ H2 (e.trans e2) (e'.over hp) s2 upd_same hx2 _ ((Post.bind z).mono (fun d z2 vs ws2 I3 H3 e3 s3 hx3 rw => by
      rw [upd_upd] at s3 hx3 rw
      exact z2 (v :: vs) ws2 I3 H3 (e2.trans e3) s3 hx3 ⟨v, vs, rfl, R.to e3 rv, rw⟩) fun _ _ z => z)) fun _ _ z => z)
/-- a name's value, whatever the draws change -/
theorem am_var {tr : TA} {A : Rt β} {i : Nat} {v : V} {a : α} (hv : σ[i]? = some (some v)) (r : R.r a v I Cp) (hp : Cp p = none) (h2 : EvAM E K p M tr σ I Cp n A) : EvAM E K p M (tCons (tVar i) tr) σ I Cp (pairM (liftM (.ok a)) n) (tc R A) := fun x ws I1 C1 H1 e e' s hc hx Q q =>
  ⟨v, hv, h2 x ws I1 C1 H1 e e' s hc hx _ ((Post.bind (m := n x) (k := fun d => .ok ((a, d.1), d.2)) q).mono (fun d z2 vs ws2 I3 H3 e3 s3 hx3 rw => z2 (v :: vs) ws2 I3 H3 e3 s3 hx3 ⟨v, vs, rfl, R.mono (e.trans e3) (e'.over hp) r, rw⟩) fun _ _ z => z)⟩
theorem am_var1 {i : Nat} {v : V} {a : α} (hv : σ[i]? = some (some v)) (r : R.r a v I Cp) : EvAM E K p M (tCons (tVar i) tNil) σ I Cp (liftM (.ok a) : μ → Res (α × μ)) (t1 R) := am_one (m_pure (x_var hv r))
theorem am_pure {tr : TA} {A : Rt α} {m : Res α} (h : EvA E K tr σ I Cp m A) : EvAM E K p M tr σ I Cp (liftM m) A := fun x ws I1 C1 H1 e e' s hc hx Q q =>
  h I1 C1 H1 e e' s Q ((Post.bind q).mono (fun a z v I2 H2 e2 s2 rv => by
    have z2 := z v ws I2 H2 e2
    rw [upd_id hc] at z2
    exact z2 s2 (M.mono e2 (Ex.refl _) hx) rv) fun _ _ z => z.elim)
theorem alm_nil : EvAM E K p M tNil σ I Cp (liftM (.ok ([] : List α)) : μ → Res (List α × μ)) (tL R 0) := am_pure al_nil
theorem alm_cons [Im R] {tr : TA} {k : Nat} {n : μ → Res (List α × μ)} (hp : Cp p = none) (h1 : EvM E K p M te σ I Cp m R) (h2 : EvAM E K p M tr σ I Cp n (tL R k)) : EvAM E K p M (tCons te tr) σ I Cp (consM m n) (tL R (k + 1)) := fun x ws I1 C1 H1 e e' s hc hx Q q =>
  h1 x ws I1 C1 H1 e e' s hc hx _ ((Post.bind q).mono (fun b z v ws' I2 H2 e2 s2 hx2 rv =>
    h2 b.2 ws' I2 _ H2 (e.trans e2) (e'.over hp) s2 upd_same hx2 _ ((Post.bind z).mono (fun d z2 vs ws2 I3 H3 e3 s3 hx3 rw => by
      rw [upd_upd] at s3 hx3 rw
      exact z2 (v :: vs) ws2 I3 H3 (e2.trans e3) s3 hx3 ⟨by rw [List.length_cons, rw.1], .cons (R.to e3 rv) rw.2⟩) fun _ _ z => z)) fun _ _ z => z)
theorem m_lst [It M] {tr : TA} {k : Nat} {m : μ → Res (List α × μ)} (h : EvAM E K p M tr σ I Cp m (tL R k)) (hn : k ≤ 100) : EvM E K p M (tLst tr) σ I Cp m (pL R) := fun x ws I1 C1 H1 e e' s hc hx Q q =>
  h x ws I1 C1 H1 e e' s hc hx _ (q.mono (fun b z vs ws' I2 H2 e2 s2 hx2 rv => by
    have hl : vs.length ≤ sizeLine := by
      rw [rv.1]
      exact Nat.le_trans hn (by decide)
    refine ⟨hl, fun t ht => z (.ref t) ws' (upd I2 t (.lst vs)) _ (e2.trans (Ex.new (s2.i.free ht))) (s2.newI ht) (M.mono (Ex.new (s2.i.free ht)) (Ex.refl _) hx2) ⟨t, vs, rfl, upd_same, hl, rv.2.imp fun _ _ => R.mono (Ex.new (s2.i.free ht)) (Ex.refl _)⟩⟩) fun _ _ z => z)
theorem m_tup [It M] {tr : TA} {A : Rt α} (h : EvAM E K p M tr σ I Cp m A) (hn : A.n ≤ 100) : EvM E K p M (tTup tr) σ I Cp m (pT A) := fun x ws I1 C1 H1 e e' s hc hx Q q =>
  h x ws I1 C1 H1 e e' s hc hx _ (q.mono (fun b z vs ws' I2 H2 e2 s2 hx2 rv => ⟨by rw [A.len rv]; exact Nat.le_trans hn (by decide), fun t ht => z (.ref t) ws' (upd I2 t (.tup vs)) _ (e2.trans (Ex.new (s2.i.free ht))) (s2.newI ht) (M.mono (Ex.new (s2.i.free ht)) (Ex.refl _) hx2) ⟨t, vs, rfl, upd_same, A.mono (Ex.new (s2.i.free ht)) (Ex.refl _) rv⟩⟩) fun _ _ z => z)
theorem m_lstD [It M] {tr : TA} {A : Rt α} (h : EvAM E K p M tr σ I Cp m A) (hn : A.n ≤ 100) : EvM E K p M (tLst tr) σ I Cp m (pD A) := fun x ws I1 C1 H1 e e' s hc hx Q q =>
  h x ws I1 C1 H1 e e' s hc hx _ (q.mono (fun b z vs ws' I2 H2 e2 s2 hx2 rv => ⟨by rw [A.len rv]; exact Nat.le_trans hn (by decide), fun t ht => z (.ref t) ws' (upd I2 t (.lst vs)) _ (e2.trans (Ex.new (s2.i.free ht))) (s2.newI ht) (M.mono (Ex.new (s2.i.free ht)) (Ex.refl _) hx2) ⟨t, vs, rfl, upd_same, A.mono (Ex.new (s2.i.free ht)) (Ex.refl _) rv⟩⟩) fun _ _ z => z)
theorem m_cb [It M] {r : List V → Hp → VK → Prop} {f : α → Res γ} {A : Rt α} {tr : TA} (hr : ∀ E, OpL E K r f A T) (h : EvAM E K p M tr σ I Cp m A) : EvM E K p M (tCB r tr) σ I Cp (unM f m) T := fun x ws I1 C1 H1 e e' s hc hx Q q =>
  h x ws I1 C1 H1 e e' s hc hx _ ((Post.bind q).mono (fun b z vs ws' I2 H2 e2 s2 hx2 rv => hr E I2 _ H2 b.1 vs s2 rv Q ((Post.bind z).mono (fun c z w I3 H3 e3 s3 rw => z w ws' I3 H3 (e2.trans e3) s3 (M.mono e3 (Ex.refl _) hx2) rw) fun _ _ z => z.elim)) fun _ _ z => z)
/-- f(a ..), f a def that draws nothing -/
theorem m_callP [It M] {A : Rt α} {f : α → Res γ} {tr : TA} (h : EvAM E K p M tr σ I Cp m A) : EvM E K p M (tCall (spP K A f T) [] E tr) σ I Cp (unM f m) T := fun x ws I1 C1 H1 e e' s hc hx Q q =>
  h x ws I1 C1 H1 e e' s hc hx _ ((Post.bind q).mono (fun b z vs ws' I2 H2 e2 s2 hx2 rv => by
    refine ⟨I2, _, b.1, s2, by rw [List.append_nil]; exact rv, (Post.bind z).mono (fun c z w I3 H3 e3 s3 rw => z w ws' I3 H3 (e2.trans e3) s3 (M.mono e3 (Ex.refl _) hx2) rw) fun _ _ z => z.elim⟩) fun _ _ z => z)
/-- f(pool, a ..) -/
theorem m_callM {A : Rt α} {f : α → μ → Res (β × μ)} {tr : TA} {i : Nat} (hv : σ[i]? = some (some (.ref p))) (h : EvAM E K p M tr σ I Cp m A) : EvM E K p M (tCall (spM M A f S) [] E (tCons (tVar i) tr)) σ I Cp (callM f m) S := fun x ws I1 C1 H1 e e' s hc hx Q q =>
  ⟨.ref p, hv, h x ws I1 C1 H1 e e' s hc hx _ ((Post.bind q).mono (fun b z vs ws' I2 H2 e2 s2 hx2 rv => by
    refine ⟨I2, _, p, ws', vs, b.2, b.1, by rw [List.append_nil], s2, upd_same, hx2, rv, Post.mono (m := f b.1 b.2) z (fun c z w ws2 I3 H3 e3 s3 hx3 rw => ?_) fun _ _ z => z⟩
    rw [upd_upd] at s3 hx3 rw
    exact z w ws2 I3 H3 (e2.trans e3) s3 hx3 rw) fun _ _ z => z)⟩
theorem m_callM0 {f : Unit → μ → Res (β × μ)} {i : Nat} (hv : σ[i]? = some (some (.ref p))) : EvM E K p M (tCall (spM M (⟨fun _ vs _ _ => vs = [], fun _ _ h => h, 0, fun h => by rw [h]; rfl⟩ : Rt Unit) f S) [] E (tCons (tVar i) tNil)) σ I Cp (fun x => f () x) S := fun x ws I1 C1 H1 e e' s hc hx Q q =>
  ⟨.ref p, hv, I1, C1, p, ws, [], x, (), rfl, s, hc, hx, rfl, q⟩
theorem tm_pure {m : Res Bool} (h : EvT E K tt σ I Cp m) : EvTM E K p M tt σ I Cp (liftM m) := fun x ws I1 C1 H1 e e' s hc hx Q q =>
  h I1 C1 H1 e e' s Q ((Post.bind q).mono (fun a z I2 H2 e2 s2 => by
    have z2 := z ws I2 H2 e2
    rw [upd_id hc] at z2
    exact z2 s2 (M.mono e2 (Ex.refl _) hx)) fun _ _ z => z.elim)
theorem tm_test {m : μ → Res (Bool × μ)} (h : EvM E K p M te σ I Cp m pB) : EvTM E K p M (tTest te) σ I Cp m := fun x ws I1 C1 H1 e e' s hc hx Q q => h x ws I1 C1 H1 e e' s hc hx _ (q.mono (fun b z v ws' I2 H2 e2 s2 hx2 rv => ⟨b.1, rv, z ws' I2 H2 e2 s2 hx2⟩) fun _ _ z => z)
theorem tm_B {m : μ → Res (Bool × μ)} (h : EvM E K p M te σ I Cp m pB) : EvTM E K p M (tB te) σ I Cp m := fun x ws I1 C1 H1 e e' s hc hx Q q => h x ws I1 C1 H1 e e' s hc hx _ (q.mono (fun b z v ws' I2 H2 e2 s2 hx2 rv => ⟨b.1, rv, z ws' I2 H2 e2 s2 hx2⟩) fun _ _ z => z)
theorem tm_and {m n : μ → Res (Bool × μ)} (hp : Cp p = none) (h1 : EvTM E K p M tt σ I Cp m) (h2 : EvTM E K p M tu σ I Cp n) : EvTM E K p M (tAnd tt tu) σ I Cp (andM m n) := fun x ws I1 C1 H1 e e' s hc hx Q q =>
  h1 x ws I1 C1 H1 e e' s hc hx _ ((Post.bind q).mono (fun b z ws' I2 H2 e2 s2 hx2 => by
    obtain ⟨c, y⟩ := b
    cases c with
    | true => exact h2 y ws' I2 _ H2 (e.trans e2) (e'.over hp) s2 upd_same hx2 Q (Post.mono (m := n y) z (fun b z ws2 I3 H3 e3 s3 hx3 => by
        rw [upd_upd] at s3 hx3
        exact z ws2 I3 H3 (e2.trans e3) s3 hx3) fun _ _ z => z)
    | false => exact z ws' I2 H2 e2 s2 hx2) fun _ _ z => z)
theorem tm_or {m n : μ → Res (Bool × μ)} (hp : Cp p = none) (h1 : EvTM E K p M tt σ I Cp m) (h2 : EvTM E K p M tu σ I Cp n) : EvTM E K p M (tOr tt tu) σ I Cp (orM m n) := fun x ws I1 C1 H1 e e' s hc hx Q q =>
  h1 x ws I1 C1 H1 e e' s hc hx _ ((Post.bind q).mono (fun b z ws' I2 H2 e2 s2 hx2 => by
    obtain ⟨c, y⟩ := b
    cases c with
    | false => exact h2 y ws' I2 _ H2 (e.trans e2) (e'.over hp) s2 upd_same hx2 Q (Post.mono (m := n y) z (fun b z ws2 I3 H3 e3 s3 hx3 => by
        rw [upd_upd] at s3 hx3
        exact z ws2 I3 H3 (e2.trans e3) s3 hx3) fun _ _ z => z)
    | true => exact z ws' I2 H2 e2 s2 hx2) fun _ _ z => z)
theorem tm_not {m : μ → Res (Bool × μ)} (h : EvTM E K p M tt σ I Cp m) : EvTM E K p M (tNot tt) σ I Cp (unM notR m) := fun x ws I1 C1 H1 e e' s hc hx Q q =>
  h x ws I1 C1 H1 e e' s hc hx _ ((Post.bind q).mono (fun b z ws' I2 H2 e2 s2 hx2 => z ws' I2 H2 e2 s2 hx2) fun _ _ z => z)
/-! sources -/
theorem im_pure {wi : TI} {m : Res (List α)} (h : EvI E K wi σ I Cp kpT m R) : EvIM E K p M wi σ I Cp (liftM m) R := fun x ws I1 C1 H1 e e' s hc hx Q q =>
  h I1 C1 H1 e e' s Q ((Post.bind q).mono (fun a z J G Y I2 H2 e2 s2 hz w hG hY => by
    have z2 := z ws J G Y I2 H2 e2
    rw [upd_id hc] at z2
    exact z2 s2 (M.mono e2 (Ex.refl _) hx) hz w (fun I3 C3 H3 e3 s3 => hG I3 C3 H3 e3 trivial s3) (fun i x v I3 C3 H3 H4 hx e3 s3 y => hY i x v I3 C3 H3 H4 hx e3 trivial s3 y)) fun _ _ z => z.elim)
theorem im_rng1 [It M] {tr : TA} {m : μ → Res (Int × μ)} (h : EvAM E K p M tr σ I Cp m (t1 pI)) : EvIM E K p M (iRng1 tr) σ I Cp (unM rng1 m) pI := fun x ws I1 C1 H1 e e' s hc hx Q q =>
  h x ws I1 C1 H1 e e' s hc hx _ ((Post.bind q).mono (fun b z vs ws' I2 H2 e2 s2 hx2 ⟨v, hv, rv⟩ => by
    have z := Post.bind z
    unfold rng1 at z
    split at z
    · rename_i hn
      have hv1 : v = .int b.1 := rv
      subst hv hv1
      refine ⟨b.1, rfl, by omega, by omega, z ws' (Itr 0 b.1.toNat) (fun _ => True) (YFn fun i => .int (0 + i)) I2 H2 e2 s2 hx2 (by rw [rangeL_length]; exact Nat.le_trans (show (b.1 - 0).toNat ≤ 1000000 by omega) (by decide)) (by rw [rangeL_length, Int.sub_zero]; exact walk_range) (fun _ _ _ _ _ => trivial) (fun i x v' I3 C3 H3 H4 hx e3 s3 y => ?_)⟩
      obtain ⟨rfl, rfl⟩ := y
      rw [rangeL_get hx]
      exact ⟨I3, Ex.refl _, s3, rfl⟩
    · exact z.elim) fun _ _ z => z)
/-! ### comprehensions that draw -/
def mapM (f : α → μ → Res (β × μ)) : List α → μ → Res (List β × μ)
  | [], x => .ok ([], x)
  | a :: as, x => (f a x).bind fun b => (mapM f as b.2).bind fun c => .ok (b.1 :: c.1, c.2)
def LcM (p : Addr) (M : Rt μ) (S : Rp β) (I C : Hp) (D : Addr) (rest : μ → Res (List β × μ)) (W : List β × μ → Prop) (n : Nat) (H : Hp) : Prop :=
  ∃ (ys : List β) (vs ws : List V) (x : μ) (I' : Hp), Ex I I' ∧ St I' (upd (upd C p (.lst ws)) D (.lst vs)) H ∧ M.r x ws I' C ∧ vs.length ≤ n ∧ A2 (fun x u => S.r x u I' C) ys vs ∧ Post (rest x) (fun zs => W (ys ++ zs.1, zs.2)) (fun _ _ => False)
theorem m_lc [It M] [Im S] {wi : TI} {g : TG} {vs : List Nat} {m : μ → Res (List α × μ)} {f : α → μ → Res (β × μ)} {P : α → L2.St → Hp → Hp → Prop} (hp : Cp p = none) (hi : EvIM E K p M wi σ I Cp m R) (hg : Tg K g R (wipe σ vs) P)
    (hw : ∀ x σ2 I' C', P x σ2 I' C' → wipe σ2 vs = wipe σ vs)
    (hf : ∀ x σ2 I' C', Ex I I' → Ex Cp C' → P x σ2 I' C' → EvM EZ K p M te σ2 I' (off C' p) (f x) S) : EvM E K p M (tLc wi g tYes te vs) σ I Cp (fun x => (m x).bind fun b => mapM f b.1 b.2) (pL S) := fun x ws I1 C1 H1 e e' s hc hx Q q =>
  hi x ws I1 C1 H1 e e' s hc hx _ ((Post.bind q).mono (fun b q2 ws2 J G Y I2 H2 e2 s2 hx2 hz w hG hY D hD => by
    have cD2 : upd C1 p (.lst ws2) D = none := s2.c.free hD
    have hDp : D ≠ p := fun z => by
      rw [z, upd_same] at cD2
      cases cD2
    have cD : C1 D = none := by
      rw [upd_ne hDp] at cD2
      exact cD2
    refine lc_it w (fun i H => LcM p M S I2 C1 D (mapM f (b.1.drop i)) (fun c => ∀ v ws' I2 H2, Ex I1 I2 → St I2 (upd C1 p (.lst ws')) H2 → M.r c.2 ws' I2 (upd C1 p (.lst ws')) → (pL S).r c.1 v I2 (upd C1 p (.lst ws')) → Q v H2) i H) ⟨[], [], ws2, b.2, I2, Ex.refl _, s2.newC hD, It.im hx2, Nat.le_refl _, .nil, ?_⟩
      (fun i H hi ⟨_, _, _, _, I', e3, s3, _⟩ => hG I' _ H e3 s3) (fun i v H H' hi ⟨ys, us, ws3, x3, I', e3, s3, hx3, hn, r3, po⟩ y => ?_) (fun H ⟨ys, us, ws3, x3, I', e3, s3, hx3, hn, r3, po⟩ => ?_)
    · rw [List.drop_zero]
      exact q2
    · obtain ⟨a, ha⟩ : ∃ a, b.1[i]? = some a := ⟨b.1[i], by simp [hi]⟩
      rw [drop_cons ha] at po
      obtain ⟨I4, e4, s4, ra⟩ := hY i a v I' _ H H' ha e3 s3 y
      refine hg a v I4 _ H' _ s4 ra fun σ2 pa => ⟨hw _ _ _ _ pa, ?_⟩
      have eI : Ex I I4 := e.trans (e2.trans (e3.trans e4))
      have eC : Ex Cp (upd (upd C1 p (.lst ws3)) D (.lst us)) := (e'.over hp).trans (Ex.new (by rw [upd_ne hDp]; exact cD))
      have hcp : upd (upd C1 p (.lst ws3)) D (.lst us) p = some (.lst ws3) := by rw [upd_ne hDp.symm, upd_same]
      show te σ2 H' _
      refine hf a σ2 I4 _ eI eC pa x3 ws3 I4 _ H' (Ex.refl _) off_ex s4 hcp (It.im (M.mono e4 (Ex.refl _) hx3)) _ ((Post.bind po).mono (fun c po2 v2 ws4 I6 H6 e6 s6 hx6 rv => ?_) fun _ _ z => z)
      have hswap : upd (upd (upd C1 p (.lst ws3)) D (.lst us)) p (.lst ws4) = upd (upd C1 p (.lst ws4)) D (.lst us) := by
        funext a
        by_cases h1 : a = p
        · rw [h1, upd_same, upd_ne hDp.symm, upd_same]
        · rw [upd_ne h1]
          by_cases h2 : a = D
          · rw [h2, upd_same, upd_same]
          · rw [upd_ne h2, upd_ne h2, upd_ne h1, upd_ne h1]
      rw [hswap] at s6 hx6 rv
      have hsz : us.length < sizeLine := Nat.lt_of_le_of_lt hn (Nat.lt_of_lt_of_le hi hz)
      refine ⟨us, s6.c D _ upd_same, hsz, ⟨ys ++ [c.1], us ++ [v2], ws4, c.2, I6, e3.trans (e4.trans e6), ?_, It.im hx6, by rw [List.length_append]; exact Nat.succ_le_succ hn, ?_, ?_⟩⟩
      · have z := s6.set (o := .lst (us ++ [v2])) (p := D) upd_same
        rw [upd_upd] at z
        exact z
      · exact (r3.imp fun _ _ => S.mono (e4.trans e6) (Ex.refl _)).append (.one (Im.im rv))
      · refine (Post.bind po2).mono (fun zs z => ?_) fun _ _ z => z
        show ∀ v ws' I2 H2, Ex I1 I2 → St I2 (upd C1 p (.lst ws')) H2 → M.r zs.2 ws' I2 (upd C1 p (.lst ws')) → (pL S).r (ys ++ [c.1] ++ zs.1) v I2 (upd C1 p (.lst ws')) → Q v H2
        rw [List.append_assoc]
        exact z
    · rw [List.drop_length] at po
      have po2 : ∀ v ws' I2 H2, Ex I1 I2 → St I2 (upd C1 p (.lst ws')) H2 → M.r x3 ws' I2 (upd C1 p (.lst ws')) → (pL S).r (ys ++ []) v I2 (upd C1 p (.lst ws')) → Q v H2 := po
      rw [List.append_nil] at po2
      have sf := s3.frz (p := D) upd_same
      have iD : I' D = none := s3.freeI upd_same
      refine po2 (.ref D) ws3 (upd I' D (.lst us)) H (e2.trans (e3.trans (Ex.new iD))) (sf.less fun a o ha => ?_) (It.im (M.mono (Ex.new iD) (Ex.refl _) hx3)) ⟨D, us, rfl, upd_same, Nat.le_trans hn hz, r3.imp fun _ _ h => Im.im (S.mono (Ex.new iD) (Ex.refl _) h)⟩
      have hne : a ≠ D := fun z => by
        rw [z, upd_ne hDp, cD] at ha
        cases ha
      show (if a = D then none else upd (upd C1 p (.lst ws3)) D (.lst us) a) = some o
      rw [if_neg hne, upd_ne hne]
      exact ha) fun _ _ z => z)
end
section
variable {E : XK} {K : PySem.W.Frag} {p : Addr} {μ : Type} {M : Rt μ} {σ : L2.St} {I C H : Hp} {α β ω S ρ : Type} {R : Rp α} {te : TE} {tt : TT} {tz tu tw : TS} {D : Ends} {m : μ → Res (α × μ)} {Q : ω → Prop} {x : μ} {ws : List V}
abbrev XF : Ec → Int → Prop := fun _ _ => False
theorem sm_asg {i : Nat} {k : α × μ → Res ω} (h : EvM E K p M te σ I (off C p) m R) (s : St I C H) (hc : C p = some (.lst ws)) (hx : M.r x ws I C) (hm : Post ((m x).bind k) Q XF)
    (next : ∀ b v ws' I2 H2, Ex I I2 → St I2 (upd C p (.lst ws')) H2 → M.r b.2 ws' I2 (upd C p (.lst ws')) → R.r b.1 v I2 (upd C p (.lst ws')) → Post (k b) Q XF → tz D (σ.set i (some v)) H2) : tSeq (tAsg te (gName i)) tz D σ H :=
  h x ws I C H (Ex.refl _) off_ex s hc hx _ ((Post.bind hm).mono (fun b z v ws' I2 H2 e2 s2 hx2 rv => next b v ws' I2 H2 e2 s2 hx2 rv z) fun _ _ z => z)
theorem sm_ret {k : α × μ → Res ω} (h : EvM E K p M te σ I (off C p) m R) (s : St I C H) (hc : C p = some (.lst ws)) (hx : M.r x ws I C) (hm : Post ((m x).bind k) Q XF)
    (next : ∀ b v ws' I2 H2, Ex I I2 → St I2 (upd C p (.lst ws')) H2 → M.r b.2 ws' I2 (upd C p (.lst ws')) → R.r b.1 v I2 (upd C p (.lst ws')) → Post (k b) Q XF → D.rt v H2) : tSeq (tRet te) tz D σ H :=
  h x ws I C H (Ex.refl _) off_ex s hc hx _ ((Post.bind hm).mono (fun b z v ws' I2 H2 e2 s2 hx2 rv => next b v ws' I2 H2 e2 s2 hx2 rv z) fun _ _ z => z)
theorem sm_expr {k : α × μ → Res ω} (h : EvM E K p M te σ I (off C p) m R) (s : St I C H) (hc : C p = some (.lst ws)) (hx : M.r x ws I C) (hm : Post ((m x).bind k) Q XF)
    (next : ∀ b ws' I2 H2, Ex I I2 → St I2 (upd C p (.lst ws')) H2 → M.r b.2 ws' I2 (upd C p (.lst ws')) → Post (k b) Q XF → tz D σ H2) : tSeq (tDrop te) tz D σ H :=
  h x ws I C H (Ex.refl _) off_ex s hc hx _ ((Post.bind hm).mono (fun b z v ws' I2 H2 e2 s2 hx2 rv => next b ws' I2 H2 e2 s2 hx2 z) fun _ _ z => z)
def ifMR (c : μ → Res (Bool × μ)) (x : μ) (m n : μ → Res α) : Res α := (c x).bind fun b => if b.1 = true then m b.2 else n b.2
theorem sm_if {c : μ → Res (Bool × μ)} {m1 m2 : μ → Res ω} (h : EvTM E K p M tt σ I (off C p) c) (s : St I C H) (hc : C p = some (.lst ws)) (hx : M.r x ws I C) (hm : Post (ifMR c x m1 m2) Q XF)
    (h1 : ∀ y ws' I2 H2, Ex I I2 → St I2 (upd C p (.lst ws')) H2 → M.r y ws' I2 (upd C p (.lst ws')) → Post (m1 y) Q XF → tu { D with nx := tz D } σ H2)
    (h2 : ∀ y ws' I2 H2, Ex I I2 → St I2 (upd C p (.lst ws')) H2 → M.r y ws' I2 (upd C p (.lst ws')) → Post (m2 y) Q XF → tw { D with nx := tz D } σ H2) : tSeq (tIfS tt tu tw) tz D σ H :=
  h x ws I C H (Ex.refl _) off_ex s hc hx _ ((Post.bind hm).mono (fun b z ws' I2 H2 e2 s2 hx2 => by
    obtain ⟨c, y⟩ := b
    cases c with
    | true => exact h1 y ws' I2 H2 e2 s2 hx2 z
    | false => exact h2 y ws' I2 H2 e2 s2 hx2 z) fun _ _ z => z)
theorem sm_ifj (P : S → L2.St → Hp → Hp → Prop) {c : μ → Res (Bool × μ)} {m1 m2 : μ → Res S} {k : S → Res ω} (h : EvTM E K p M tt σ I (off C p) c) (s : St I C H) (hc : C p = some (.lst ws)) (hx : M.r x ws I C) (hm : Post ((ifMR c x m1 m2).bind k) Q XF)
    (h1 : ∀ (N : L2.St → Hp → Prop) y ws' I2 H2, Ex I I2 → St I2 (upd C p (.lst ws')) H2 → M.r y ws' I2 (upd C p (.lst ws')) → Post (m1 y) (fun s' => ∀ σ2 I3 C3 H3, Ex I I3 → St I3 C3 H3 → P s' σ2 I3 C3 → N σ2 H3) XF → tu { D with nx := N } σ H2)
    (h2 : ∀ (N : L2.St → Hp → Prop) y ws' I2 H2, Ex I I2 → St I2 (upd C p (.lst ws')) H2 → M.r y ws' I2 (upd C p (.lst ws')) → Post (m2 y) (fun s' => ∀ σ2 I3 C3 H3, Ex I I3 → St I3 C3 H3 → P s' σ2 I3 C3 → N σ2 H3) XF → tw { D with nx := N } σ H2)
    (next : ∀ s' σ2 I3 C3 H3, Ex I I3 → St I3 C3 H3 → P s' σ2 I3 C3 → Post (k s') Q XF → tz D σ2 H3) : Evl.tCut (tIfS tt tu tw) tz D σ H := by
  refine ⟨fun σ2 H3 => ∃ s' I3 C3, Ex I I3 ∧ St I3 C3 H3 ∧ P s' σ2 I3 C3 ∧ Post (k s') Q XF, ?_, fun σ2 H3 ⟨s', I3, C3, e3, s3, p, q⟩ => next s' σ2 I3 C3 H3 e3 s3 p q⟩
  refine h x ws I C H (Ex.refl _) off_ex s hc hx _ ((Post.bind (Post.bind hm)).mono (fun b z ws' I2 H2 e2 s2 hx2 => ?_) fun _ _ z => z)
  obtain ⟨c, y⟩ := b
  cases c with
  | true => exact h1 _ y ws' I2 H2 e2 s2 hx2 (Post.mono (m := m1 y) z (fun s' z σ2 I3 C3 H3 e3 s3 pp => ⟨s', I3, C3, e3, s3, pp, z⟩) fun _ _ z => z)
  | false => exact h2 _ y ws' I2 H2 e2 s2 hx2 (Post.mono (m := m2 y) z (fun s' z σ2 I3 C3 H3 e3 s3 pp => ⟨s', I3, C3, e3, s3, pp, z⟩) fun _ _ z => z)
/-- a for whose source draws -/
theorem sm_forN (P : S → L2.St → Hp → Hp → Prop) {wi : TI} {g : TG} {m : μ → Res (List α × μ)} {f : α → S → Res S} {s0 : μ → S} {k : S → Res ω} (hi : EvIM E K p M wi σ I (off C p) m R) (s : St I C H) (hc : C p = some (.lst ws)) (hx : M.r x ws I C) (hm : Post (((m x).bind fun b => loopN f b.1 (s0 b.2)).bind k) Q XF)
    (h0 : ∀ y ws' I2, Ex I I2 → M.r y ws' I2 (upd C p (.lst ws')) → P (s0 y) σ I2 (upd C p (.lst ws'))) (hP : ∀ s' σ' I' I2 C', Ex I' I2 → P s' σ' I' C' → P s' σ' I2 C')
    (body : ∀ (N : L2.St → Hp → Prop) x v s' σ' I' C' H', Ex I I' → St I' C' H' → P s' σ' I' C' → R.r x v I' C' → Post (f x s') (fun s2 => ∀ σ2 I3 C3 H3, Ex I' I3 → St I3 C3 H3 → P s2 σ2 I3 C3 → N σ2 H3) XF →
      g v σ' H' fun σ2 H2 => tu { D with nx := N, ct := N, bk := tz D } σ2 H2)
    (next : ∀ s' σ' I' C' H', Ex I I' → St I' C' H' → P s' σ' I' C' → Post (k s') Q XF → tz D σ' H') : tSeq (tFor wi g tu) tz D σ H :=
  hi x ws I C H (Ex.refl _) off_ex s hc hx _ ((Post.bind (Post.bind hm)).mono (fun b q2 ws2 J G Y I2 H2 e2 s2 hx2 hz w hG hY => by
    refine for_it w (fun i σ' H' => ∃ s' I' C', Ex I2 I' ∧ St I' C' H' ∧ P s' σ' I' C' ∧ Post ((loopN f (b.1.drop i) s').bind k) Q XF) ⟨s0 b.2, I2, _, Ex.refl _, s2, h0 _ _ I2 e2 hx2, by rw [List.drop_zero]; exact Post.of_bind q2⟩
      (fun i σ' H' hi ⟨s', I', C', e3, s3, p, _⟩ => hG I' C' H' e3 s3) (fun i x σ' H1 H' hi ⟨s', I', C', e3, s3, p, po⟩ y => ?_) (fun σ' H' ⟨s', I', C', e3, s3, p, po⟩ => ?_)
    · obtain ⟨a, ha⟩ : ∃ a, b.1[i]? = some a := ⟨b.1[i], by simp [hi]⟩
      rw [drop_cons ha] at po
      obtain ⟨I4, e4, s4, ra⟩ := hY i a x I' C' H1 H' ha e3 s3 y
      exact body _ a x s' σ' I4 C' H' (e2.trans (e3.trans e4)) s4 (hP _ _ _ _ _ e4 p) ra ((Post.bind (Post.bind po)).mono (fun s3 z σ2 I5 C5 H5 e5 s5 p5 => ⟨s3, I5, C5, e3.trans (e4.trans e5), s5, p5, Post.of_bind z⟩) fun _ _ z => z)
    · rw [List.drop_length] at po
      exact next s' σ' I' C' H' (e2.trans e3) s3 p po) fun _ _ z => z)
/-- pool[k] = e, k written -/
theorem sm_set [It M] {i k : Nat} {g : μ → α → μ} {kk : μ → Res ω} {m : Res α} (hv : σ[i]? = some (some (.ref p))) (h : EvX E K te σ I C m R) (j : Pk M k g R) (s : St I C H) (hc : C p = some (.lst ws)) (hx : M.r x ws I C) (hm : Post (m.bind fun a => kk (g x a)) Q XF)
    (next : ∀ y ws' I2 H2, Ex I I2 → St I2 (upd C p (.lst ws')) H2 → M.r y ws' I2 (upd C p (.lst ws')) → Post (kk y) Q XF → tz D σ H2) : tSeq (tAsg te (gSub (tVar i) (tC (.int (k : Int))) rSetL)) tz D σ H :=
  h I C H (Ex.refl _) (Ex.refl _) s _ ((Post.bind hm).mono (fun a z v I2 H2 e2 s2 rv => by
    obtain ⟨q, hl⟩ := j x ws I2 C a v (M.mono e2 (Ex.refl _) hx) rv
    refine ⟨.ref p, hv, p, ws, k, k, rfl, rfl, s2.c p _ hc, ?_, next (g x a) (ws.set k v) I2 _ e2 (s2.set hc) (It.im q) z⟩
    unfold ixN
    rw [if_pos (by omega), if_pos (by omega)]
    rfl) fun _ _ z => z.elim)
/-- pool[k], k written -/
theorem x_pool {i k : Nat} {f : μ → β} {S : Rp β} (hv : σ[i]? = some (some (.ref p))) (hc : C p = some (.lst ws)) (hx : M.r x ws I C) (j : Pj M k f S) : EvX E K (tOp (rIxL K) (tVar i) (tC (.int (k : Int)))) σ I C (.ok (f x)) S := fun I1 C1 H1 e e' s Q q => by
  obtain ⟨w, hw, r⟩ := j x ws I1 C1 (M.mono e e' hx)
  exact ⟨.ref p, hv, p, ws, k, w, rfl, rfl, .inl (.inl (s.c p _ (e' p _ hc))), atI_nat hw, PQ.now (R := S) (a := f x) q s r⟩
end
end Sd

namespace Sd
open PySem L2
/-! ### forms for the printed proofs -/
abbrev Z : Hp := fun _ => none
theorem exz {C : Hp} : Ex Z C := fun _ _ h => nomatch h
theorem Im.z {α : Type} {R : Rp α} [Im R] {a : α} {v : V} {I C : Hp} (h : R.r a v I C) : R.r a v I Z := Im.im h
/-- a new list of one's own -/
abbrev PN {α : Type} (R : Rp α) (I C : Hp) (Q : VK) (xs : List α) : Prop := ∀ p vs I2 H2, Ex I I2 → C p = none → St I2 (upd C p (.lst vs)) H2 → vs.length ≤ sizeLine → A2 (fun x u => R.r x u I2 C) xs vs → Q (.ref p) H2
def EvN (E : XK) (K : PySem.W.Frag) (te : TE) (σ : L2.St) (I C : Hp) {α : Type} (m : Res (List α)) (R : Rp α) : Prop :=
  ∀ I1 C1 H1, Ex I I1 → Ex C C1 → St I1 C1 H1 → ∀ Q : VK, Post m (PN R I1 C1 Q) (PX E K I1 C1) → te σ H1 Q
def Op2N (E : XK) (K : PySem.W.Frag) (r : R2) {α β γ : Type} (f : α → β → Res (List γ)) (R : Rp α) (S : Rp β) (T : Rp γ) : Prop :=
  ∀ I C H a b x y, St I C H → R.r a x I C → S.r b y I C → ∀ Q : VK, Post (f a b) (PN T I C Q) (PX E K I C) → r x y H Q
def OpLN (E : XK) (K : PySem.W.Frag) (r : List V → Hp → VK → Prop) {α γ : Type} (f : α → Res (List γ)) (R : Rt α) (T : Rp γ) : Prop :=
  ∀ I C H a vs, St I C H → R.r a vs I C → ∀ Q : VK, Post (f a) (PN T I C Q) (PX E K I C) → r vs H Q
/-- f(a ..) hands back a new list of its own -/
def spO (K : PySem.W.Frag) {α β : Type} (T : Rt α) (m : α → Res (List β)) (R : Rp β) : Sp := fun vs H Q E => ∃ (I C : Hp) (a : α), St I C H ∧ T.r a vs I C ∧ Post (m a) (PN R I C Q) (PX E K I C)
section
variable {E : XK} {K : PySem.W.Frag} {σ : L2.St} {I I' C C' H : Hp} {α β γ : Type} {R : Rp α} {S : Rp β} {T : Rp γ} {te ta tb : TE} {tt : TT}
theorem PN.of {I1 C1 : Hp} {Q : VK} {xs : List α} [Im R] (q : PQ (pL R) I1 C1 Q xs) : PN R I1 C1 Q xs := fun p vs I2 H2 e hp s hl hr => by
  have sf := s.frz (p := p) upd_same
  have iD : I2 p = none := s.freeI upd_same
  refine q (.ref p) (upd I2 p (.lst vs)) H2 (e.trans (Ex.new iD)) (sf.less fun a o ha => ?_) ⟨p, vs, rfl, upd_same, hl, hr.imp fun _ _ => R.mono (Ex.new iD) (Ex.refl _)⟩
  have hne : a ≠ p := fun z => by
    rw [z, hp] at ha
    cases ha
  show (if a = p then none else upd C1 p (.lst vs) a) = some o
  rw [if_neg hne, upd_ne hne]
  exact ha
theorem x_own [Im R] {m : Res (List α)} (h : EvN E K te σ I C m R) : EvX E K te σ I C m (pL R) := fun I1 C1 H1 e e' s Q q => h I1 C1 H1 e e' s Q (q.mono (fun xs z => PN.of z) fun _ _ z => z)
theorem PN.new {I1 C1 H1 : Hp} {Q : VK} {xs : List α} {vs : List V} (q : PN R I1 C1 Q xs) (s : St I1 C1 H1) (h : A2 (fun x u => R.r x u I1 C1) xs vs) (hl : vs.length ≤ sizeLine) : ∀ p, H1 p = none → Q (.ref p) (upd H1 p (.lst vs)) := fun p hp =>
  q p vs I1 _ (Ex.refl _) (s.c.free hp) (s.newC hp) hl h
theorem PN.up {I1 I2 C1 : Hp} {Q : VK} {xs : List α} (e : Ex I1 I2) (q : PN R I1 C1 Q xs) : PN R I2 C1 Q xs := fun p vs I3 H3 e3 hp s hl hr => q p vs I3 H3 (e.trans e3) hp s hl hr
theorem n_op {r : R2} {f : α → β → Res (List γ)} {m : Res α} {n : Res β} (hr : Op2N E K r f R S T) (h1 : EvX E K ta σ I C m R) (h2 : EvX E K tb σ I C n S) : EvN E K (tOp r ta tb) σ I C (bin f m n) T := fun I1 C1 H1 e e' s Q q =>
  h1 I1 C1 H1 e e' s _ ((Post.bind q).mono (fun a p x I2 H2 e2 s2 rx =>
    h2 I2 C1 H2 (e.trans e2) e' s2 _ ((Post.bind p).mono (fun b p2 y I3 H3 e3 s3 ry =>
      hr I3 C1 H3 a b x y s3 (R.mono e3 (Ex.refl _) rx) ry Q (p2.mono (fun c z => z.up (e2.trans e3)) fun c i z => z.mono (e2.trans e3) (Ex.refl _))) fun c i z => z.mono e2 (Ex.refl _)))
    fun _ _ z => z)
theorem n_cb {r : List V → Hp → VK → Prop} {f : α → Res (List γ)} {A : Rt α} {tr : TA} {m : Res α} (hr : OpLN E K r f A T) (h : EvA E K tr σ I C m A) : EvN E K (tCB r tr) σ I C (un f m) T := fun I1 C1 H1 e e' s Q q =>
  h I1 C1 H1 e e' s _ ((Post.bind q).mono (fun a p vs I2 H2 e2 s2 rv => hr I2 C1 H2 a vs s2 rv Q (p.mono (fun c z => z.up e2) fun c i z => z.mono e2 (Ex.refl _))) fun _ _ z => z)
theorem n_call {A : Rt α} {f : α → Res (List β)} {m : Res α} {tr : TA} (h : EvA E K tr σ I C m A) : EvN E K (tCall (spO K A f S) [] E tr) σ I C (un f m) S := fun I1 C1 H1 e e' s Q q =>
  h I1 C1 H1 e e' s _ ((Post.bind q).mono (fun a p vs I2 H2 e2 s2 rv => ⟨I2, C1, a, s2, by rw [List.append_nil]; exact rv, Post.mono (m := f a) p (fun b z => z.up e2) fun c i z => z.mono e2 (Ex.refl _)⟩) fun _ _ z => z)
theorem n_lst {k : Nat} {m : Res (List α)} {tr : TA} (h : EvA E K tr σ I C m (tL R k)) (hn : k ≤ 100) : EvN E K (tLst tr) σ I C m R := fun I1 C1 H1 e e' s Q q =>
  h I1 C1 H1 e e' s _ (q.mono (fun a p vs I2 H2 e2 s2 rv => by
    have hl : vs.length ≤ sizeLine := by
      rw [rv.1]
      exact Nat.le_trans hn (by decide)
    exact ⟨hl, PN.new (PN.up e2 p) s2 rv.2 hl⟩) fun _ _ z => z)
theorem n_list : OpLN E K (fun xs H Q => ∃ p ys, xs = [.ref p] ∧ (SqL K H p ys ∨ SqT K H p ys) ∧ ∀ l, H l = none → Q (.ref l) (upd H l (.lst ys))) idR (t1 (pV R)) R := fun I C H a vs s hv Q q => by
  obtain ⟨v, rfl, h⟩ := hv
  obtain ⟨p, us, rfl, h2, h3, h4⟩ := pV.at s h
  exact ⟨p, us, rfl, .inl (.inl (.inl h2)), PN.new q s h4 h3⟩
theorem n_listQ : OpLN E K (fun xs H Q => ∃ p ys, xs = [.ref p] ∧ (SqL K H p ys ∨ SqT K H p ys) ∧ ∀ l, H l = none → Q (.ref l) (upd H l (.lst ys))) idR (t1 (pQ K R)) R := fun I C H a vs s hv Q q => by
  obtain ⟨v, rfl, p, us, rfl, h2, h3, h4⟩ := hv
  exact ⟨p, us, rfl, .inr (ex_t s.i h2), PN.new q s h4 h3⟩
theorem n_cat : Op2N E K rCat rCatR (pV R) (pV R) R := fun I C H a b x y s hx hy Q q => by
  unfold rCatR at q
  split at q
  · rename_i h
    obtain ⟨p, us, rfl, h2, h3, h4⟩ := pV.at s hx
    obtain ⟨p', us', rfl, h2', h3', h4'⟩ := pV.at s hy
    have hl : us.length + us'.length ≤ sizeLine := by
      rw [h4.len, h4'.len]
      exact Nat.le_trans h (by decide)
    exact ⟨p, p', us, us', rfl, rfl, h2, h2', hl, PN.new q s (h4.append h4') (by rw [List.length_append]; exact hl)⟩
  · exact q.elim
theorem n_rep : Op2N E K rRep rRepR (pV R) pI R := fun I C H a b x y s hx hy Q q => by
  unfold rRepR at q
  split at q
  · rename_i h
    obtain ⟨p, us, rfl, h2, h3, h4⟩ := pV.at s hx
    subst hy
    have hl : us.length * b.toNat ≤ sizeLine := by
      rw [h4.len]
      exact Nat.le_trans h.2.2 (by decide)
    exact ⟨p, b, us, rfl, rfl, h2, by omega, by omega, hl, PN.new q s (h4.rep _) (by rw [flat_len]; exact hl)⟩
  · exact q.elim
theorem n_sl {tl th : TO} {m : Res (List α)} {lo hi : Res (Option Int)} (h : EvX E K te σ I C m (pV R)) (hl : EvO E K tl σ I C lo) (hh : EvO E K th σ I C hi) : EvN E K (tSl (rSlL K) te tl th) σ I C (slR m lo hi) R := fun I1 C1 H1 e e' s Q q =>
  h I1 C1 H1 e e' s _ ((Post.bind q).mono (fun a p x I2 H2 e2 s2 rx =>
    hl I2 C1 H2 (e.trans e2) e' s2 _ ((Post.bind p).mono (fun o p2 I3 H3 e3 s3 =>
      hh I3 C1 H3 (e.trans (e2.trans e3)) e' s3 _ ((Post.bind p2).mono (fun o2 p3 I4 H4 e4 s4 => by
        obtain ⟨b, us, rfl, h2, h3, h4⟩ := pV.at s4 ((pV R).mono (e3.trans e4) (Ex.refl _) rx)
        exact ⟨b, us, rfl, .inl (.inl h2), PN.new (PN.up (e2.trans (e3.trans e4)) p3) s4 (h4.cut o o2) (Nat.le_trans (cutV_length _ _ _) h3)⟩) fun c i z => z.mono (e2.trans e3) (Ex.refl _))) fun c i z => z.mono e2 (Ex.refl _)))
    fun _ _ z => z)
theorem n_lcgK [Im S] {wi : TI} {g : TG} {tt : TT} {vs : List Nat} {p : α → Res Bool} {f : α → Res β} {P : α → L2.St → Hp → Hp → Prop} {kp : Hp → Prop} (hi : EvI E K wi σ I C kp m R) (hkp : ∀ C3, Ex C C3 → kp C3) (hg : Tg K g R (wipe σ vs) P)
    (hw : ∀ x σ2 I' C', P x σ2 I' C' → wipe σ2 vs = wipe σ vs)
    (hp : ∀ x σ2 I' C', Ex I I' → Ex C C' → P x σ2 I' C' → EvT EZ K tt σ2 I' C' (p x))
    (hf : ∀ x σ2 I' C', Ex I I' → Ex C C' → P x σ2 I' C' → EvX EZ K te σ2 I' C' (f x) S)
    (hm : ∀ x σ2 I' I2 C', Ex I' I2 → P x σ2 I' C' → P x σ2 I2 C') : EvN E K (tLc wi g tt te vs) σ I C (m.bind (filR p f)) S := fun I1 C1 H1 e e' s Q q =>
  hi I1 C1 H1 e e' s _ ((Post.bind q).mono (fun xs q2 J G Y I2 H2 e2 s2 hz w hG hY D hD => by
    have cD : C1 D = none := s2.c.free hD
    refine lc_it w (fun i H => Lc S I2 C1 D (filR p f (xs.drop i)) (PN S I1 C1 Q) i H) ⟨[], [], I2, Ex.refl _, s2.newC hD, Nat.le_refl _, .nil, ?_⟩ (fun i H hi ⟨_, vs', I', e3, s3, _⟩ => hG I' _ H e3 (hkp _ (e'.trans (Ex.new cD))) s3) (fun i x H H' hi ⟨ys, us, I', e3, s3, hn, r3, po⟩ y => ?_) (fun H ⟨ys, us, I', e3, s3, hn, r3, po⟩ => ?_)
    · cases hfil : filR p f xs with
      | ok zs =>
        rw [hfil] at q2
        show Post (filR p f (xs.drop 0)) _ _
        rw [List.drop_zero, hfil]
        exact q2
      | exc c i =>
        exfalso
        revert hfil
        clear q2 hG hY w hz
        induction xs with
        | nil =>
          intro z
          cases z
        | cons x xs ih =>
          unfold filR
          cases p x with
          | ok b =>
            cases b with
            | true =>
              cases f x with
              | ok y =>
                intro z
                cases hh : filR p f xs with
                | ok zs =>
                  simp only [hh] at z
                  cases z
                | exc c' i' =>
                  simp only [hh] at z
                  have z2 : (Res.exc c' i' : Res (List β)) = .exc c i := z
                  cases z2
                  exact ih hh
                | bad =>
                  simp only [hh] at z
                  cases z
              | exc _ _ => intro z; cases z
              | bad => intro z; cases z
            | false => exact ih
          | exc _ _ => intro z; cases z
          | bad => intro z; cases z
      | bad =>
        rw [hfil] at q2
        exact q2.elim
    · obtain ⟨a, ha⟩ : ∃ a, xs[i]? = some a := ⟨xs[i], by simp [hi]⟩
      rw [drop_cons ha] at po
      obtain ⟨I4, e4, s4, ra⟩ := hY i a x I' _ H H' ha e3 (hkp _ (e'.trans (Ex.new cD))) s3 y
      refine hg a x I4 _ H' _ s4 ra fun σ2 pa => ⟨hw _ _ _ _ pa, ?_⟩
      have eI : Ex I I4 := e.trans (e2.trans (e3.trans e4))
      have eC : Ex C (upd C1 D (.lst us)) := e'.trans (Ex.new cD)
      unfold filR at po
      refine hp a σ2 I4 _ eI eC pa I4 _ H' (Ex.refl _) (Ex.refl _) s4 _ ?_
      cases hpa : p a with
      | ok b =>
        rw [hpa] at po
        cases b with
        | true =>
          show ∀ I5 H5, Ex I4 I5 → St I5 (upd C1 D (.lst us)) H5 → te σ2 H5 _
          intro I5 H5 e5 s5
          refine hf a σ2 I5 _ (eI.trans e5) eC (hm _ _ _ _ _ e5 pa) I5 _ H5 (Ex.refl _) (Ex.refl _) s5 _ ?_
          cases hfa : f a with
          | ok b =>
            have po2 : Post ((filR p f (xs.drop (i + 1))).bind fun ys => .ok (b :: ys)) (fun zs => PN S I1 C1 Q (ys ++ zs)) (fun _ _ => False) := by
              have z := po
              simp only [hfa] at z
              exact z
            intro v I6 H6 e6 s6 rv
            have hsz : us.length < sizeLine := Nat.lt_of_le_of_lt hn (Nat.lt_of_lt_of_le hi hz)
            refine ⟨us, s6.c D _ upd_same, hsz, ⟨ys ++ [b], us ++ [v], I6, e3.trans (e4.trans (e5.trans e6)), ?_, by rw [List.length_append]; exact Nat.succ_le_succ hn, ?_, ?_⟩⟩
            · have z := s6.set (o := .lst (us ++ [v])) (p := D) upd_same
              rw [upd_upd] at z
              exact z
            · exact (r3.imp fun _ _ => S.mono (e4.trans (e5.trans e6)) (Ex.refl _)).append (.one (Im.im rv))
            · refine (Post.bind po2).mono (fun zs z => ?_) fun _ _ z => z
              rw [List.append_assoc]
              exact z
          | exc c j =>
            have z := po
            simp only [hfa] at z
            exact z.elim
          | bad =>
            have z := po
            simp only [hfa] at z
            exact z.elim
        | false =>
          show ∀ I5 H5, Ex I4 I5 → St I5 (upd C1 D (.lst us)) H5 → Lc S I2 C1 D (filR p f (xs.drop (i + 1))) (PN S I1 C1 Q) (i + 1) H5
          intro I5 H5 e5 s5
          exact ⟨ys, us, I5, e3.trans (e4.trans e5), s5, Nat.le_succ_of_le hn, r3.imp fun _ _ => S.mono (e4.trans e5) (Ex.refl _), po⟩
      | exc c j =>
        rw [hpa] at po
        exact po.elim
      | bad =>
        rw [hpa] at po
        exact po.elim
    · rw [List.drop_length] at po
      have po2 : PN S I1 C1 Q (ys ++ []) := po
      rw [List.append_nil] at po2
      exact po2 D us I' H (e2.trans e3) cD s3 (Nat.le_trans hn hz) r3) fun _ _ z => z)

theorem n_lcg [Im S] {wi : TI} {g : TG} {tt : TT} {vs : List Nat} {p : α → Res Bool} {f : α → Res β} {P : α → L2.St → Hp → Hp → Prop} (hi : EvI E K wi σ I C kpT m R) (hg : Tg K g R (wipe σ vs) P)
    (hw : ∀ x σ2 I' C', P x σ2 I' C' → wipe σ2 vs = wipe σ vs)
    (hp : ∀ x σ2 I' C', Ex I I' → Ex C C' → P x σ2 I' C' → EvT EZ K tt σ2 I' C' (p x))
    (hf : ∀ x σ2 I' C', Ex I I' → Ex C C' → P x σ2 I' C' → EvX EZ K te σ2 I' C' (f x) S)
    (hm : ∀ x σ2 I' I2 C', Ex I' I2 → P x σ2 I' C' → P x σ2 I2 C') : EvN E K (tLc wi g tt te vs) σ I C (m.bind (filR p f)) S := n_lcgK hi (fun _ _ => trivial) hg hw hp hf hm
theorem n_lc [Im S] {wi : TI} {g : TG} {vs : List Nat} {m : Res (List α)} {f : α → Res β} {P : α → L2.St → Hp → Hp → Prop} (hi : EvI E K wi σ I C kpT m R) (hg : Tg K g R (wipe σ vs) P)
    (hw : ∀ x σ2 I' C', P x σ2 I' C' → wipe σ2 vs = wipe σ vs)
    (hf : ∀ x σ2 I' C', Ex I I' → Ex C C' → P x σ2 I' C' → EvX EZ K te σ2 I' C' (f x) S)
    (hm : ∀ x σ2 I' I2 C', Ex I' I2 → P x σ2 I' C' → P x σ2 I2 C') : EvN E K (tLc wi g tYes te vs) σ I C (m.bind (mapR f)) S := by
  have z := n_lcg (p := fun _ => .ok true) hi hg hw (fun x σ2 I' C' _ _ _ => t_yes) hf hm
  have e : filR (fun _ => Res.ok true) f = mapR f := funext (filR_yes f)
  rw [e] at z
  exact z
theorem n_lcK [Im S] {wi : TI} {g : TG} {vs : List Nat} {m : Res (List α)} {f : α → Res β} {P : α → L2.St → Hp → Hp → Prop} {kp : Hp → Prop} (hi : EvI E K wi σ I C kp m R) (hkp : ∀ C3, Ex C C3 → kp C3) (hg : Tg K g R (wipe σ vs) P)
    (hw : ∀ x σ2 I' C', P x σ2 I' C' → wipe σ2 vs = wipe σ vs)
    (hf : ∀ x σ2 I' C', Ex I I' → Ex C C' → P x σ2 I' C' → EvX EZ K te σ2 I' C' (f x) S)
    (hm : ∀ x σ2 I' I2 C', Ex I' I2 → P x σ2 I' C' → P x σ2 I2 C') : EvN E K (tLc wi g tYes te vs) σ I C (m.bind (mapR f)) S := by
  have z := n_lcgK (p := fun _ => .ok true) hi hkp hg hw (fun x σ2 I' C' _ _ _ => t_yes) hf hm
  have e : filR (fun _ => Res.ok true) f = mapR f := funext (filR_yes f)
  rw [e] at z
  exact z
/-- sorted(pairs of ints) -/
def leP (a b : Int × Int) : Bool := decide (a.1 < b.1) || (decide (a.1 = b.1) && decide (a.2 ≤ b.2))
def insP (x : Int × Int) : List (Int × Int) → List (Int × Int)
  | [] => [x]
  | y :: ys => if leP x y = true then x :: y :: ys else y :: insP x ys
def isortP : List (Int × Int) → List (Int × Int)
  | [] => []
  | x :: xs => insP x (isortP xs)
def sortP (xs : List (Int × Int)) : Res (List (Int × Int)) := .ok (isortP xs)
@[simp] theorem sortP_eq (xs : List (Int × Int)) : sortP xs = .ok (isortP xs) := rfl
theorem leP_iff {a b : Int × Int} : leP a b = true ↔ a.1 < b.1 ∨ (a.1 = b.1 ∧ a.2 ≤ b.2) := by
  unfold leP
  simp only [Bool.or_eq_true, Bool.and_eq_true, decide_eq_true_eq]
theorem insP_perm (x : Int × Int) : ∀ ys, (insP x ys).Perm (x :: ys)
  | [] => .refl _
  | y :: ys => by
    unfold insP
    split
    · exact .refl _
    · exact ((insP_perm x ys).cons y).trans (.swap x y ys)
theorem isortP_perm : ∀ xs, (isortP xs).Perm xs
  | [] => .refl _
  | x :: xs => (insP_perm x _).trans ((isortP_perm xs).cons x)
theorem leP_total (a b : Int × Int) : leP a b = true ∨ leP b a = true := by
  rw [leP_iff, leP_iff]
  omega
theorem leP_trans {a b c : Int × Int} (h : leP a b = true) (h' : leP b c = true) : leP a c = true := by
  rw [leP_iff] at *
  omega
theorem leP_anti {a b : Int × Int} (h : leP a b = true) (h' : leP b a = true) : a = b := by
  rw [leP_iff] at *
  exact Prod.ext (by omega) (by omega)
theorem insP_sorted (x : Int × Int) : ∀ {ys : List (Int × Int)}, ys.Pairwise (fun a b => leP a b = true) → (insP x ys).Pairwise (fun a b => leP a b = true)
  | [], _ => List.pairwise_singleton _ _
  | y :: ys, h => by
    obtain ⟨h1, h2⟩ := List.pairwise_cons.mp h
    unfold insP
    split
    · rename_i hx
      exact List.pairwise_cons.mpr ⟨fun z hz => by
        rcases List.mem_cons.mp hz with e | hz
        · rw [e]
          exact hx
        · exact leP_trans hx (h1 z hz), h⟩
    · rename_i hx
      refine List.pairwise_cons.mpr ⟨fun z hz => ?_, insP_sorted x h2⟩
      rcases List.mem_cons.mp ((insP_perm x ys).mem_iff.mp hz) with e | hz
      · rw [e]
        exact (leP_total y x).resolve_right hx
      · exact h1 z hz
theorem isortP_sorted : ∀ xs, (isortP xs).Pairwise (fun a b => leP a b = true)
  | [] => .nil
  | x :: xs => insP_sorted x (isortP_sorted xs)
theorem sorted_unique : ∀ {xs ys : List (Int × Int)}, xs.Perm ys → xs.Pairwise (fun a b => leP a b = true) → ys.Pairwise (fun a b => leP a b = true) → xs = ys
  | [], ys, p, _, _ => by rw [List.nil_perm.mp p]
  | x :: xs, [], p, _, _ => by cases List.perm_nil.mp p
  | x :: xs, y :: ys, p, h, h' => by
    obtain ⟨h1, h2⟩ := List.pairwise_cons.mp h
    obtain ⟨h1', h2'⟩ := List.pairwise_cons.mp h'
    have e : x = y := by
      by_cases e : x = y
      · exact e
      · have hy : y ∈ xs := (List.mem_cons.mp (p.mem_iff.mpr List.mem_cons_self)).resolve_left fun z => e z.symm
        have hx : x ∈ ys := (List.mem_cons.mp (p.mem_iff.mp List.mem_cons_self)).resolve_left e
        exact leP_anti (h1 y hy) (h1' x hx)
    subst e
    rw [sorted_unique (List.Perm.cons_inv p) h2 h2']
end
end Sd

namespace Sd
open PySem L2
section
variable {E : XK} {K : PySem.W.Frag} {σ : L2.St} {I I' C C' H : Hp} {α β γ μ ω S ρ : Type} {R : Rp α} {S1 : Rp β} {te ta tb : TE} {tt : TT} {tz tu tw : TS} {D : Ends} {Q : ω → Prop} {X : Ec → Int → Prop}
/-! ### sorted -/
def kP (H : Hp) (v : V) : Int × Int := match v with
  | .ref t => (match H t with
    | some (.tup [.int i, .int j]) => (i, j)
    | _ => (0, 0))
  | _ => (0, 0)
theorem kP_of {a : Int × Int} {v : V} (s : St I C H) (h : (pT (tc pI (t1 pI))).r a v I C) : (∃ t, v = .ref t ∧ H t = some (.tup [.int a.1, .int a.2])) ∧ kP H v = a := by
  obtain ⟨t, vs, rfl, h2, u, us, rfl, h3, w, rfl, h4⟩ := h
  have e1 : u = .int a.1 := h3
  have e2 : w = .int a.2 := h4
  subst e1 e2
  have ht := s.i _ _ h2
  refine ⟨⟨t, rfl, ht⟩, ?_⟩
  show (match H t with
    | some (.tup [.int i, .int j]) => (i, j)
    | _ => (0, 0)) = a
  rw [ht]
theorem kP_map (s : St I C H) : ∀ {xs : List (Int × Int)} {vs : List V}, A2 (fun x u => (pT (tc pI (t1 pI))).r x u I C) xs vs → vs.map (kP H) = xs
  | _, _, .nil => rfl
  | _, _, .cons r t => by rw [List.map_cons, (kP_of s r).2, kP_map s t]
theorem a2_mem {f : α → V → Prop} : ∀ {xs : List α} {vs : List V} {v : V}, A2 f xs vs → v ∈ vs → ∃ x, x ∈ xs ∧ f x v
  | _, _, _, .nil, h => by cases h
  | _, _, _, .cons r t, h => by
    rcases List.mem_cons.mp h with e | h
    · exact ⟨_, List.mem_cons_self, by rw [e]; exact r⟩
    · obtain ⟨x, hx, r⟩ := a2_mem t h
      exact ⟨x, List.mem_cons_of_mem _ hx, r⟩
theorem a2_of_k {f : β → V → Prop} {k : V → β} : ∀ {ys : List V}, (∀ v, v ∈ ys → f (k v) v) → A2 f (ys.map k) ys
  | [], _ => .nil
  | y :: ys, h => .cons (h y List.mem_cons_self) (a2_of_k fun v hv => h v (List.mem_cons_of_mem _ hv))
theorem n_sortP : OpLN E K (rSortedPO K) sortP (t1 (pV (pT (tc pI (t1 pI))))) (pT (tc pI (t1 pI))) := fun I C H a vs s hv Q q => by
  obtain ⟨v, rfl, h⟩ := hv
  obtain ⟨p, us, rfl, h2, h3, h4⟩ := pV.at s h
  refine ⟨p, us, kP H, rfl, .inl (.inl h2), fun x hx => ?_, fun ys l hs hb hl => ?_⟩
  · obtain ⟨z, _, r⟩ := a2_mem h4 hx
    obtain ⟨⟨t, e, ht⟩, ek⟩ := kP_of s r
    exact ⟨t, e, by rw [ek]; exact ht⟩
  · have ep : (ys.map (kP H)).Perm a := by
      have z := hb.perm.map (kP H)
      rw [kP_map s h4] at z
      exact z
    have es : (ys.map (kP H)).Pairwise (fun a b => leP a b = true) := by
      refine List.pairwise_map.mpr (hs.imp fun {x y} z => ?_)
      rw [leP_iff]
      have z2 : ¬ SrtO.lexB (kP H y) (kP H x) = true := by
        intro z3
        have z4 : SrtO.lexB (kP H y) (kP H x) = false := z
        rw [z3] at z4
        cases z4
      rw [SrtO.lexB_iff] at z2
      omega
    have e := sorted_unique (ep.trans (isortP_perm a).symm) es (isortP_sorted a)
    have q2 : PN (pT (tc pI (t1 pI))) I C Q (isortP a) := q
    rw [← e] at q2
    refine PN.new q2 s (a2_of_k fun v hv => ?_) (by rw [hb.perm.length_eq]; exact h3) l hl
    obtain ⟨z, _, r⟩ := a2_mem h4 (hb.perm.mem_iff.mp hv)
    rw [(kP_of s r).2]
    exact r
def insI (x : Int) : List Int → List Int
  | [] => [x]
  | y :: ys => if x ≤ y then x :: y :: ys else y :: insI x ys
def isortI : List Int → List Int
  | [] => []
  | x :: xs => insI x (isortI xs)
def sortI (xs : List Int) : Res (List Int) := .ok (isortI xs)
@[simp] theorem sortI_eq (xs : List Int) : sortI xs = .ok (isortI xs) := rfl
theorem insI_perm (x : Int) : ∀ ys, (insI x ys).Perm (x :: ys)
  | [] => .refl _
  | y :: ys => by
    unfold insI
    split
    · exact .refl _
    · exact ((insI_perm x ys).cons y).trans (.swap x y ys)
theorem isortI_perm : ∀ xs, (isortI xs).Perm xs
  | [] => .refl _
  | x :: xs => (insI_perm x _).trans ((isortI_perm xs).cons x)
theorem insI_sorted (x : Int) : ∀ {ys : List Int}, ys.Pairwise (· ≤ ·) → (insI x ys).Pairwise (· ≤ ·)
  | [], _ => List.pairwise_singleton _ _
  | y :: ys, h => by
    obtain ⟨h1, h2⟩ := List.pairwise_cons.mp h
    unfold insI
    split
    · rename_i hx
      exact List.pairwise_cons.mpr ⟨fun z hz => by
        rcases List.mem_cons.mp hz with e | hz
        · rw [e]
          exact hx
        · exact Int.le_trans hx (h1 z hz), h⟩
    · rename_i hx
      refine List.pairwise_cons.mpr ⟨fun z hz => ?_, insI_sorted x h2⟩
      rcases List.mem_cons.mp ((insI_perm x ys).mem_iff.mp hz) with e | hz
      · rw [e]
        omega
      · exact h1 z hz
theorem isortI_sorted : ∀ xs, (isortI xs).Pairwise (· ≤ ·)
  | [] => .nil
  | x :: xs => insI_sorted x (isortI_sorted xs)
theorem sortedI_unique : ∀ {xs ys : List Int}, xs.Perm ys → xs.Pairwise (· ≤ ·) → ys.Pairwise (· ≤ ·) → xs = ys
  | [], ys, p, _, _ => by rw [List.nil_perm.mp p]
  | x :: xs, [], p, _, _ => by cases List.perm_nil.mp p
  | x :: xs, y :: ys, p, h, h' => by
    obtain ⟨h1, h2⟩ := List.pairwise_cons.mp h
    obtain ⟨h1', h2'⟩ := List.pairwise_cons.mp h'
    have e : x = y := by
      by_cases e : x = y
      · exact e
      · have hy : y ∈ xs := (List.mem_cons.mp (p.mem_iff.mpr List.mem_cons_self)).resolve_left fun z => e z.symm
        have hx : x ∈ ys := (List.mem_cons.mp (p.mem_iff.mp List.mem_cons_self)).resolve_left e
        exact Int.le_antisymm (h1 y hy) (h1' x hx)
    subst e
    rw [sortedI_unique (List.Perm.cons_inv p) h2 h2']
theorem n_sortI : OpLN E K (rSortedI K) sortI (t1 (pV pI)) pI := fun I C H a vs s hv Q q => by
  obtain ⟨v, rfl, h⟩ := hv
  obtain ⟨p, us, rfl, h2, h3, h4⟩ := pV.at s h
  have eu := A2.map_iff (h := V.int) (fun _ _ h => h) h4
  subst eu
  refine ⟨p, a, rfl, .inl (.inl h2), fun ns l hp hs hl => ?_⟩
  have e := sortedI_unique (hp.trans (isortI_perm a).symm) hs (isortI_sorted a)
  have q2 : PN pI I C Q (isortI a) := q
  rw [← e] at q2
  refine PN.new q2 s (A2.of_map (f := fun x u => pI.r x u I C) (h := V.int) (fun _ => rfl) ns) (by rw [List.length_map, hp.length_eq, ← List.length_map (f := V.int)]; exact h3) l hl
/-! ### chains, is of bools -/
theorem x_chain {r r' : R2} {f : α → β → Res Bool} {g : β → γ → Res Bool} {T : Rp γ} {tc : TE} {m : Res α} {n : Res β} {l : Res γ} (hr : Op2 E K r f R S1 pB) (hr' : Op2 E K r' g S1 T pB) (h1 : EvX E K ta σ I C m R) (h2 : EvX E K tb σ I C n S1) (h3 : EvX E K tc σ I C l T) :
    EvX E K (tChain r r' ta tb tc) σ I C (m.bind fun a => n.bind fun b => (f a b).bind fun k => if k = true then l.bind fun c => g b c else .ok false) pB := fun I1 C1 H1 e e' s Q q =>
  h1 I1 C1 H1 e e' s _ ((Post.bind q).mono (fun a p x I2 H2 e2 s2 rx =>
    h2 I2 C1 H2 (e.trans e2) e' s2 _ ((Post.bind p).mono (fun b p2 y I3 H3 e3 s3 ry =>
      hr I3 C1 H3 a b x y s3 (R.mono e3 (Ex.refl _) rx) ry _ ((Post.bind p2).mono (fun k p3 z I4 H4 e4 s4 rz => ⟨k, rz, by
        cases k with
        | true =>
          exact h3 I4 C1 H4 (e.trans (e2.trans (e3.trans e4))) e' s4 _ ((Post.bind p3).mono (fun c p4 w I5 H5 e5 s5 rw => hr' I5 C1 H5 b c y w s5 (S1.mono (e4.trans e5) (Ex.refl _) ry) rw Q
            (p4.mono (fun d z v I6 H6 e6 s6 rv => z v I6 H6 (e2.trans (e3.trans (e4.trans (e5.trans e6)))) s6 rv) fun c i z => z.mono (e2.trans (e3.trans (e4.trans e5))) (Ex.refl _))) fun c i z => z.mono (e2.trans (e3.trans e4)) (Ex.refl _))
        | false => exact p3 (.bl false) I4 H4 (e2.trans (e3.trans e4)) s4 rfl⟩) fun c i z => z.mono (e2.trans e3) (Ex.refl _))) fun c i z => z.mono e2 (Ex.refl _)))
    fun _ _ z => z)
theorem o_isB : Op2 E K rIsB eqR pB pB pB := fun I C H a b x y s hx hy Q q => ⟨a, b, hx, hy, PQ.now q s rfl⟩
theorem o_notB : Op2 E K rNotB neR pB pB pB := fun I C H a b x y s hx hy Q q => ⟨a, b, hx, hy, PQ.now q s rfl⟩
/-! ### a cell as a list that is read -/
theorem x_cell [Im R] {i : Nat} {a : Addr} {xs : List α} {vs : List V} (h : σ[i]? = some (some (.ref a))) (hc : C a = some (.lst vs)) (hl : vs.length ≤ sizeLine) (hr : A2 (fun x u => R.r x u I Z) xs vs) : EvX E K (tVar i) σ I C (.ok xs) (pV R) :=
  x_var h ⟨a, vs, rfl, .inr hc, hl, hr.imp fun _ _ h => Im.im h⟩
/-! ### keeping -/
theorem fr_keep {B C C2 : Hp} {p : Addr} (h : Ex B C) (hp : B p = none) (k : ∀ q, q ≠ p → C2 q = C q) : Ex B C2 := fun a o e => by
  rw [k a (ne_of_none e hp)]
  exact h a o e
theorem fr_pool {C0 C C2 : Hp} {p : Addr} (h : Ex (off C0 p) C) (k : ∀ q, q ≠ p → C2 q = C q) : Ex (off C0 p) C2 := fr_keep h off_same k
theorem ex_pool {C0 C : Hp} {p : Addr} {o : HO} (h : Ex (off C0 p) C) (hc : C p = some o) : Ex (upd C0 p o) C := fun a u e => by
  by_cases q : a = p
  · rw [q, upd_same] at e
    rw [q, hc]
    exact e
  · rw [upd_ne q] at e
    exact h a u ((off_ne q).trans e)
theorem freeze {a : Addr} {o : HO} (s : St I C H) (hc : C a = some o) : ∃ I2 C2, Ex I I2 ∧ St I2 C2 H ∧ I2 a = some o ∧ ∀ q, q ≠ a → C2 q = C q :=
  ⟨_, _, Ex.new (s.freeI hc), s.frz hc, upd_same, fun q h => if_neg h⟩
theorem frz_list [Im R] {I2 : Hp} {a : Addr} {xs : List α} {vs : List V} (e : Ex I I2) (h : I2 a = some (.lst vs)) (hl : vs.length ≤ sizeLine) (hr : A2 (fun x u => R.r x u I Z) xs vs) : (pL R).r xs (.ref a) I2 Z := ⟨a, vs, rfl, h, hl, hr.imp fun _ _ => R.mono e (Ex.refl _)⟩
theorem ne_new {p q : Addr} {o : HO} (h : C p = some o) (h' : C q = none) : p ≠ q := ne_of_none h h'
/-! ### statements, as they are printed -/
theorem q_asg [Im R] {i : Nat} {m : Res α} {k : α → Res ω} (h : EvX E K te σ I C m R) (s : St I C H) (hX : XH X E K I C) (hm : Post (m.bind k) Q X)
    (next : ∀ a v I2 H2, Ex I I2 → St I2 C H2 → R.r a v I2 Z → Post (k a) Q X → tz D (σ.set i (some v)) H2) : tSeq (tAsg te (gName i)) tz D σ H :=
  s_asg h s hX hm fun a v I2 H2 e2 s2 rv hm => next a v I2 H2 e2 s2 (Im.im rv) hm
theorem q_ret [Im R] {m : Res α} {k : α → Res ω} (h : EvX E K te σ I C m R) (s : St I C H) (hX : XH X E K I C) (hm : Post (m.bind k) Q X)
    (next : ∀ a v I2 H2, Ex I I2 → St I2 C H2 → R.r a v I2 Z → Post (k a) Q X → D.rt v H2) : tSeq (tRet te) tz D σ H :=
  s_ret h s hX hm fun a v I2 H2 e2 s2 rv hm => next a v I2 H2 e2 s2 (Im.im rv) hm
theorem q_retN {m : Res (List α)} {k : List α → Res ω} (h : EvN E K te σ I C m R) (s : St I C H) (hX : XH X E K I C) (hm : Post (m.bind k) Q X)
    (next : ∀ xs p vs I2 H2, Ex I I2 → C p = none → St I2 (upd C p (.lst vs)) H2 → vs.length ≤ sizeLine → A2 (fun x u => R.r x u I2 C) xs vs → Post (k xs) Q X → D.rt (.ref p) H2) : tSeq (tRet te) tz D σ H :=
  h I C H (Ex.refl _) (Ex.refl _) s _ ((Post.bind hm).mono (fun a z p vs I2 H2 e2 hp s2 hl hr => next a p vs I2 H2 e2 hp s2 hl hr z) hX)
/-- xs = e, a new list that will change -/
theorem q_asgN [Im R] {i : Nat} {m : Res (List α)} {k : List α → Res ω} (h : EvN E K te σ I C m R) (s : St I C H) (hX : XH X E K I C) (hm : Post (m.bind k) Q X)
    (next : ∀ xs p vs I2 C2 H2, Ex I I2 → C p = none → St I2 C2 H2 → C2 p = some (.lst vs) → (∀ q, q ≠ p → C2 q = C q) → vs.length ≤ sizeLine → A2 (fun x u => R.r x u I2 Z) xs vs → Post (k xs) Q X → tz D (σ.set i (some (.ref p))) H2) : tSeq (tAsg te (gName i)) tz D σ H :=
  h I C H (Ex.refl _) (Ex.refl _) s _ ((Post.bind hm).mono (fun a z p vs I2 H2 e2 hp s2 hl hr => next a p vs I2 _ H2 e2 hp s2 upd_same (fun q h => upd_ne h) hl (hr.imp fun _ _ h => Im.im h) z) hX)
theorem q_nil {i : Nat} (s : St I C H) (next : ∀ p C2 H2, C p = none → St I C2 H2 → C2 p = some (.lst []) → (∀ q, q ≠ p → C2 q = C q) → tz D (σ.set i (some (.ref p))) H2) : tSeq (tAsg (tLst tNil) (gName i)) tz D σ H :=
  s_newL s fun p H2 hp _ s2 => next p _ H2 hp s2 upd_same fun q h => upd_ne h
theorem q_app [Im R] {i : Nat} {p : Addr} {xs : List α} {vs : List V} {k : List α → Res ω} {m : Res α} (hv : σ[i]? = some (some (.ref p))) (hc : C p = some (.lst vs)) (hr : A2 (fun x u => R.r x u I Z) xs vs) (h : EvX E K te σ I C m R) (s : St I C H) (hX : XH X E K I C)
    (hm : Post ((m.bind fun x => push xs x).bind k) Q X)
    (next : ∀ ys vs' I2 C2 H2, Ex I I2 → St I2 C2 H2 → C2 p = some (.lst vs') → (∀ q, q ≠ p → C2 q = C q) → vs'.length ≤ sizeLine → A2 (fun x u => R.r x u I2 Z) ys vs' → Post (k ys) Q X → tz D σ H2) :
    tSeq (tDrop (tBM K "list" rAppend (tVar i) (tCons te tNil))) tz D σ H :=
  s_app hv hc (hr.imp fun _ _ h => Im.im h) h s hX hm fun ys vs' I2 H2 e2 s2 hl hr hm => next ys vs' I2 _ H2 e2 s2 upd_same (fun q h => upd_ne h) hl (hr.imp fun _ _ h => Im.im h) hm
theorem q_setL [Im R] {i : Nat} {p : Addr} {xs : List α} {vs : List V} {k : List α → Res ω} {ti : TE} {m : Res α} {mi : Res Int} (hv : σ[i]? = some (some (.ref p))) (hc : C p = some (.lst vs)) (hl : vs.length ≤ sizeLine) (hr : A2 (fun x u => R.r x u I Z) xs vs)
    (h : EvX E K te σ I C m R) (hi : EvX E K ti σ I C mi pI) (s : St I C H) (hX : XH X E K I C) (hm : Post ((m.bind fun x => mi.bind fun j => setR xs j x).bind k) Q X)
    (next : ∀ ys vs' I2 C2 H2, Ex I I2 → St I2 C2 H2 → C2 p = some (.lst vs') → (∀ q, q ≠ p → C2 q = C q) → vs'.length ≤ sizeLine → A2 (fun x u => R.r x u I2 Z) ys vs' → Post (k ys) Q X → tz D σ H2) :
    tSeq (tAsg te (gSub (tVar i) ti rSetL)) tz D σ H :=
  s_setL hv hc hl (hr.imp fun _ _ h => Im.im h) h hi s hX hm fun ys vs' I2 H2 e2 s2 hl hr hm => next ys vs' I2 _ H2 e2 s2 upd_same (fun q h => upd_ne h) hl (hr.imp fun _ _ h => Im.im h) hm
/-- xs.extend(e) -/
theorem q_ext [Im R] {i : Nat} {p : Addr} {xs : List α} {vs : List V} {k : List α → Res ω} {m : Res (List α)} (hv : σ[i]? = some (some (.ref p))) (hc : C p = some (.lst vs)) (hr : A2 (fun x u => R.r x u I Z) xs vs) (h : EvX E K te σ I C m (pL R)) (s : St I C H) (hX : XH X E K I C)
    (hm : Post ((m.bind fun x => rCatR xs x).bind k) Q X)
    (next : ∀ ys vs' I2 C2 H2, Ex I I2 → St I2 C2 H2 → C2 p = some (.lst vs') → (∀ q, q ≠ p → C2 q = C q) → vs'.length ≤ sizeLine → A2 (fun x u => R.r x u I2 Z) ys vs' → Post (k ys) Q X → tz D σ H2) :
    tSeq (tDrop (tBM K "list" rExtend (tVar i) (tCons te tNil))) tz D σ H :=
  ⟨.ref p, hv, .inl ⟨rfl, vs, .inl (.inl (s.c p _ hc))⟩, h I C H (Ex.refl _) (Ex.refl _) s _ ((Post.bind (Post.bind hm)).mono (fun a po v I2 H2 e2 s2 rv => by
    obtain ⟨b, us, rfl, h2, h3, h4⟩ := rv
    unfold rCatR at po
    split at po
    · rename_i hl
      have hn := hr.len
      have hl2 : vs.length + us.length ≤ sizeLine := by
        rw [hn, h4.len]
        exact Nat.le_trans hl (by decide)
      exact ⟨p, b, vs, us, rfl, rfl, s2.c p _ hc, s2.i b _ h2, hl2, next (xs ++ a) (vs ++ us) I2 _ _ e2 (s2.set hc) upd_same (fun q h => upd_ne h) (by rw [List.length_append]; exact hl2) ((hr.imp fun _ _ h => R.to e2 h).append (h4.imp fun _ _ h => Im.im h)) po⟩
    · exact po.elim) hX)⟩
/-- xs.pop(): the last item and the rest -/
def popR (xs : List α) : Res (α × List α) := match xs.getLast? with
  | some x => .ok (x, xs.dropLast)
  | none => .bad
theorem e_pop [Im R] {i : Nat} {p : Addr} {xs : List α} {vs : List V} {k : α × List α → Res ω} {Q2 : VK} (hv : σ[i]? = some (some (.ref p))) (hc : C p = some (.lst vs)) (hl : vs.length ≤ sizeLine) (hr : A2 (fun x u => R.r x u I Z) xs vs) (s : St I C H) (hm : Post ((popR xs).bind k) Q X)
    (next : ∀ a v C2 H2, St I C2 H2 → C2 p = some (.lst vs.dropLast) → (∀ q, q ≠ p → C2 q = C q) → vs.dropLast.length ≤ sizeLine → A2 (fun x u => R.r x u I Z) a.2 vs.dropLast → R.r a.1 v I Z → Post (k a) Q X → Q2 v H2) : tBM0 K "list" rPop (tVar i) σ H Q2 := by
  have po := Post.bind hm
  unfold popR at po
  cases hx : xs.getLast? with
  | none =>
    rw [hx] at po
    exact po.elim
  | some x =>
    rw [hx] at po
    have hn := hr.len
    have hx2 : xs[xs.length - 1]? = some x := by
      rw [← List.getLast?_eq_getElem?]
      exact hx
    obtain ⟨v, hv2, r⟩ := hr.get' hx2
    rw [← hn] at hv2
    exact ⟨.ref p, hv, .inl ⟨rfl, vs, .inl (.inl (s.c p _ hc))⟩, p, vs, v, rfl, rfl, s.c p _ hc, hv2, next (x, xs.dropLast) v _ _ (s.set hc) upd_same (fun q h => upd_ne h) (by rw [List.length_dropLast]; omega) hr.dropLast r po⟩
/-! the pool -/
variable {p : Addr} {M : Rt μ} {x : μ} {ws : List V}
theorem qm_asg [It M] [Im R] {i : Nat} {m : μ → Res (α × μ)} {k : α × μ → Res ω} (h : EvM E K p M te σ I (off C p) m R) (s : St I C H) (hc : C p = some (.lst ws)) (hx : M.r x ws I Z) (hm : Post ((m x).bind k) Q XF)
    (next : ∀ b v ws' I2 C2 H2, Ex I I2 → St I2 C2 H2 → C2 p = some (.lst ws') → (∀ q, q ≠ p → C2 q = C q) → M.r b.2 ws' I2 Z → R.r b.1 v I2 Z → Post (k b) Q XF → tz D (σ.set i (some v)) H2) : tSeq (tAsg te (gName i)) tz D σ H :=
  sm_asg h s hc (It.im hx) hm fun b v ws' I2 H2 e2 s2 hx2 rv hm => next b v ws' I2 _ H2 e2 s2 upd_same (fun q h => upd_ne h) (It.im hx2) (Im.im rv) hm
theorem qm_ret [It M] [Im R] {m : μ → Res (α × μ)} {k : α × μ → Res ω} (h : EvM E K p M te σ I (off C p) m R) (s : St I C H) (hc : C p = some (.lst ws)) (hx : M.r x ws I Z) (hm : Post ((m x).bind k) Q XF)
    (next : ∀ b v ws' I2 C2 H2, Ex I I2 → St I2 C2 H2 → C2 p = some (.lst ws') → (∀ q, q ≠ p → C2 q = C q) → M.r b.2 ws' I2 Z → R.r b.1 v I2 Z → Post (k b) Q XF → D.rt v H2) : tSeq (tRet te) tz D σ H :=
  sm_ret h s hc (It.im hx) hm fun b v ws' I2 H2 e2 s2 hx2 rv hm => next b v ws' I2 _ H2 e2 s2 upd_same (fun q h => upd_ne h) (It.im hx2) (Im.im rv) hm
theorem qm_expr [It M] [Im R] {m : μ → Res (α × μ)} {k : α × μ → Res ω} (h : EvM E K p M te σ I (off C p) m R) (s : St I C H) (hc : C p = some (.lst ws)) (hx : M.r x ws I Z) (hm : Post ((m x).bind k) Q XF)
    (next : ∀ b ws' I2 C2 H2, Ex I I2 → St I2 C2 H2 → C2 p = some (.lst ws') → (∀ q, q ≠ p → C2 q = C q) → M.r b.2 ws' I2 Z → Post (k b) Q XF → tz D σ H2) : tSeq (tDrop te) tz D σ H :=
  sm_expr h s hc (It.im hx) hm fun b ws' I2 H2 e2 s2 hx2 hm => next b ws' I2 _ H2 e2 s2 upd_same (fun q h => upd_ne h) (It.im hx2) hm
theorem qm_if [It M] {c : μ → Res (Bool × μ)} {m1 m2 : μ → Res ω} (h : EvTM E K p M tt σ I (off C p) c) (s : St I C H) (hc : C p = some (.lst ws)) (hx : M.r x ws I Z) (hm : Post (ifMR c x m1 m2) Q XF)
    (h1 : ∀ y ws' I2 C2 H2, Ex I I2 → St I2 C2 H2 → C2 p = some (.lst ws') → (∀ q, q ≠ p → C2 q = C q) → M.r y ws' I2 Z → Post (m1 y) Q XF → tu { D with nx := tz D } σ H2)
    (h2 : ∀ y ws' I2 C2 H2, Ex I I2 → St I2 C2 H2 → C2 p = some (.lst ws') → (∀ q, q ≠ p → C2 q = C q) → M.r y ws' I2 Z → Post (m2 y) Q XF → tw { D with nx := tz D } σ H2) : tSeq (tIfS tt tu tw) tz D σ H :=
  sm_if h s hc (It.im hx) hm (fun y ws' I2 H2 e2 s2 hx2 hm => h1 y ws' I2 _ H2 e2 s2 upd_same (fun q h => upd_ne h) (It.im hx2) hm) (fun y ws' I2 H2 e2 s2 hx2 hm => h2 y ws' I2 _ H2 e2 s2 upd_same (fun q h => upd_ne h) (It.im hx2) hm)
theorem qm_ifj [It M] (P : S → L2.St → Hp → Hp → Prop) {c : μ → Res (Bool × μ)} {m1 m2 : μ → Res S} {k : S → Res ω} (h : EvTM E K p M tt σ I (off C p) c) (s : St I C H) (hc : C p = some (.lst ws)) (hx : M.r x ws I Z) (hm : Post ((ifMR c x m1 m2).bind k) Q XF)
    (h1 : ∀ (N : L2.St → Hp → Prop) y ws' I2 C2 H2, Ex I I2 → St I2 C2 H2 → C2 p = some (.lst ws') → (∀ q, q ≠ p → C2 q = C q) → M.r y ws' I2 Z → Post (m1 y) (fun s' => ∀ σ2 I3 C3 H3, Ex I I3 → St I3 C3 H3 → P s' σ2 I3 C3 → N σ2 H3) XF → tu { D with nx := N } σ H2)
    (h2 : ∀ (N : L2.St → Hp → Prop) y ws' I2 C2 H2, Ex I I2 → St I2 C2 H2 → C2 p = some (.lst ws') → (∀ q, q ≠ p → C2 q = C q) → M.r y ws' I2 Z → Post (m2 y) (fun s' => ∀ σ2 I3 C3 H3, Ex I I3 → St I3 C3 H3 → P s' σ2 I3 C3 → N σ2 H3) XF → tw { D with nx := N } σ H2)
    (next : ∀ s' σ2 I3 C3 H3, Ex I I3 → St I3 C3 H3 → P s' σ2 I3 C3 → Post (k s') Q XF → tz D σ2 H3) : Evl.tCut (tIfS tt tu tw) tz D σ H :=
  sm_ifj P h s hc (It.im hx) hm (fun N y ws' I2 H2 e2 s2 hx2 hm => h1 N y ws' I2 _ H2 e2 s2 upd_same (fun q h => upd_ne h) (It.im hx2) hm) (fun N y ws' I2 H2 e2 s2 hx2 hm => h2 N y ws' I2 _ H2 e2 s2 upd_same (fun q h => upd_ne h) (It.im hx2) hm) next
theorem qm_forN [It M] (P : S → L2.St → Hp → Hp → Prop) {wi : TI} {g : TG} {m : μ → Res (List α × μ)} {f : α → S → Res S} {s0 : μ → S} {k : S → Res ω} (hi : EvIM E K p M wi σ I (off C p) m R) (s : St I C H) (hc : C p = some (.lst ws)) (hx : M.r x ws I Z) (hm : Post (((m x).bind fun b => loopN f b.1 (s0 b.2)).bind k) Q XF)
    (h0 : ∀ y ws' I2 C2, Ex I I2 → C2 p = some (.lst ws') → (∀ q, q ≠ p → C2 q = C q) → M.r y ws' I2 Z → P (s0 y) σ I2 C2) (hP : ∀ s' σ' I' I2 C', Ex I' I2 → P s' σ' I' C' → P s' σ' I2 C')
    (body : ∀ (N : L2.St → Hp → Prop) x v s' σ' I' C' H', Ex I I' → St I' C' H' → P s' σ' I' C' → R.r x v I' C' → Post (f x s') (fun s2 => ∀ σ2 I3 C3 H3, Ex I' I3 → St I3 C3 H3 → P s2 σ2 I3 C3 → N σ2 H3) XF →
      g v σ' H' fun σ2 H2 => tu { D with nx := N, ct := N, bk := tz D } σ2 H2)
    (next : ∀ s' σ' I' C' H', Ex I I' → St I' C' H' → P s' σ' I' C' → Post (k s') Q XF → tz D σ' H') : tSeq (tFor wi g tu) tz D σ H :=
  sm_forN P hi s hc (It.im hx) hm (fun y ws' I2 e2 hx2 => h0 y ws' I2 _ e2 upd_same (fun q h => upd_ne h) (It.im hx2)) hP body next
theorem q_set [It M] [Im S1] {i k : Nat} {g : μ → β → μ} {kk : μ → Res ω} {m : Res β} (hv : σ[i]? = some (some (.ref p))) (h : EvX E K te σ I C m S1) (j : Pk M k g S1) (s : St I C H) (hc : C p = some (.lst ws)) (hx : M.r x ws I Z) (hm : Post (m.bind fun a => kk (g x a)) Q XF)
    (next : ∀ y ws' I2 C2 H2, Ex I I2 → St I2 C2 H2 → C2 p = some (.lst ws') → (∀ q, q ≠ p → C2 q = C q) → M.r y ws' I2 Z → Post (kk y) Q XF → tz D σ H2) : tSeq (tAsg te (gSub (tVar i) (tC (.int (k : Int))) rSetL)) tz D σ H :=
  sm_set hv h j s hc (It.im hx) hm fun y ws' I2 H2 e2 s2 hx2 hm => next y ws' I2 _ H2 e2 s2 upd_same (fun q h => upd_ne h) (It.im hx2) hm
theorem q_pool {i k : Nat} {f : μ → β} [It M] (hv : σ[i]? = some (some (.ref p))) (hc : C p = some (.lst ws)) (hx : M.r x ws I Z) (j : Pj M k f S1) : EvX E K (tOp (rIxL K) (tVar i) (tC (.int (k : Int)))) σ I C (.ok (f x)) S1 := x_pool hv hc (It.im hx) j
/-! targets -/
theorem g1 [Im R] {i : Nat} : Tg K (gName i) R σ (fun x σ2 I _ => ∃ v, σ2 = σ.set i (some v) ∧ R.r x v I Z) := fun x v I C H Q s r k => k _ ⟨v, rfl, Im.im r⟩
theorem g2 [Im R] [Im S1] {i j : Nat} : Tg K (gTup K 2 (gCons (gName i) (gCons (gName j) gNil))) (pT (tc R (t1 S1))) σ (fun x σ2 I _ => ∃ u w, σ2 = (σ.set i (some u)).set j (some w) ∧ R.r x.1 u I Z ∧ S1.r x.2 w I Z) := fun x v I C H Q s r k =>
  g_two x v I C H Q s r fun σ2 ⟨u, w, e, h1, h2⟩ => k σ2 ⟨u, w, e, Im.im h1, Im.im h2⟩
theorem g3 {T : Rp γ} [Im R] [Im S1] [Im T] {i j l : Nat} : Tg K (gTup K 3 (gCons (gName i) (gCons (gName j) (gCons (gName l) gNil)))) (pT (tc R (tc S1 (t1 T)))) σ
    (fun x σ2 I _ => ∃ u w z, σ2 = ((σ.set i (some u)).set j (some w)).set l (some z) ∧ R.r x.1 u I Z ∧ S1.r x.2.1 w I Z ∧ T.r x.2.2 z I Z) := fun x v I C H Q s r k =>
  g_three x v I C H Q s r fun σ2 ⟨u, w, z, e, h1, h2, h3⟩ => k σ2 ⟨u, w, z, e, Im.im h1, Im.im h2, Im.im h3⟩
end
end Sd

namespace Sd
open PySem L2
/-- no places -/
def t0 : Rt Unit := ⟨fun _ vs _ _ => vs = [], fun _ _ h => h, 0, fun h => by rw [h]; rfl⟩
instance : It t0 := ⟨fun h => h⟩
abbrev Pl := Int × Int × Int × List Int
/-- the pool's places -/
abbrev pM : Rt Pl := tc pI (tc pI (tc pI (t1 (pL pI))))
theorem a2up {α : Type} {R : Rp α} {I I' : Hp} {xs : List α} {vs : List V} (e : Ex I I') (h : A2 (fun x u => R.r x u I Z) xs vs) : A2 (fun x u => R.r x u I' Z) xs vs := h.imp fun _ _ => R.mono e (Ex.refl _)
section
variable {E : XK} {K : PySem.W.Frag} {σ : L2.St} {I I' C C' H B : Hp} {α β γ μ ω S ρ : Type} {R : Rp α} {S1 : Rp β} {te ta tb : TE} {tt : TT} {tz tu tw : TS} {D : Ends} {Q : ω → Prop} {X : Ec → Int → Prop}
/-- a cell that is returned, known for good from then on -/
theorem q_retC [Im R] {i : Nat} {p : Addr} {xs : List α} {vs : List V} (hv : σ[i]? = some (some (.ref p))) (s : St I C H) (fr : Ex B C) (hB : B p = none) (hc : C p = some (.lst vs)) (hl : vs.length ≤ sizeLine) (hr : A2 (fun x u => R.r x u I Z) xs vs)
    (next : ∀ I2, Ex I I2 → St I2 B H → (pL R).r xs (.ref p) I2 Z → D.rt (.ref p) H) : tSeq (tRet (tVar i)) tz D σ H := by
  obtain ⟨I2, C2, e, s2, h, k⟩ := freeze s hc
  exact ⟨.ref p, hv, next I2 e (s2.less (fr_keep fr hB k)) (frz_list e h hl hr)⟩
/-- a cell that is returned as a new list of one's own -/
theorem q_retO [Im R] {i : Nat} {p : Addr} {xs : List α} {vs : List V} (hv : σ[i]? = some (some (.ref p))) (s : St I C H) (fr : Ex B C) (hB : B p = none) (hc : C p = some (.lst vs)) (hl : vs.length ≤ sizeLine) (hr : A2 (fun x u => R.r x u I Z) xs vs)
    (next : St I (upd B p (.lst vs)) H → A2 (fun x u => R.r x u I B) xs vs → D.rt (.ref p) H) : tSeq (tRet (tVar i)) tz D σ H :=
  ⟨.ref p, hv, next (s.less fun a u e => by
    by_cases q : a = p
    · rw [q, upd_same] at e
      rw [q, hc]
      exact e
    · rw [upd_ne q] at e
      exact fr a u e) (hr.imp fun _ _ h => Im.im h)⟩
/-- x += e, x -= e -/
theorem q_aug {i : Nat} {f : Int → Int → Int} {v : V} {a : Int} {m : Res Int} {k : Int → Res ω} (hv : σ[i]? = some (some v)) (r : pI.r a v I Z) (h : EvX E K te σ I C m pI) (s : St I C H) (hX : XH X E K I C) (hm : Post ((m.bind fun b => .ok (f a b)).bind k) Q X)
    (next : ∀ a v I2 H2, Ex I I2 → St I2 C H2 → pI.r a v I2 Z → Post (k a) Q X → tz D (σ.set i (some v)) H2) : tSeq (tAug i te (ipI f)) tz D σ H :=
  ⟨v, hv, h I C H (Ex.refl _) (Ex.refl _) s _ ((Post.bind (Post.bind hm)).mono (fun b p w I2 H2 e2 s2 rv => ⟨a, b, r, rv, next _ _ I2 H2 e2 s2 rfl p⟩) hX)⟩
/-- xs.append(e), e draws -/
theorem qm_app {M : Rt μ} [It M] [Im R] {i : Nat} {p q : Addr} {x : μ} {ws vs : List V} {xs : List α} {k : List α × μ → Res ω} {m : μ → Res (α × μ)} (hv : σ[i]? = some (some (.ref q))) (hq : C q = some (.lst vs)) (hqp : q ≠ p) (hr : A2 (fun x u => R.r x u I Z) xs vs) (h : EvM E K p M te σ I (off C p) m R)
    (s : St I C H) (hc : C p = some (.lst ws)) (hx : M.r x ws I Z) (hm : Post (((m x).bind fun b => (push xs b.1).bind fun ys => .ok (ys, b.2)).bind k) Q XF)
    (next : ∀ (b : List α × μ) vs' ws' I2 C2 H2, Ex I I2 → St I2 C2 H2 → C2 q = some (.lst vs') → C2 p = some (.lst ws') → (∀ r, r ≠ p → r ≠ q → C2 r = C r) → vs'.length ≤ sizeLine → A2 (fun x u => R.r x u I2 Z) b.1 vs' → M.r b.2 ws' I2 Z → Post (k b) Q XF → tz D σ H2) :
    tSeq (tDrop (tBM K "list" rAppend (tVar i) (tCons te tNil))) tz D σ H := by
  refine ⟨.ref q, hv, .inl ⟨rfl, vs, .inl (.inl (s.c q _ hq))⟩, ?_⟩
  refine h x ws I C H (Ex.refl _) off_ex s hc (It.im hx) _ ((Post.bind (Post.bind hm)).mono (fun b po v ws' I2 H2 e2 s2 hx2 rv => ?_) fun _ _ z => z)
  unfold push at po
  split at po
  · rename_i hl
    have hn := hr.len
    have hl2 : vs.length < sizeLine := by
      rw [hn]
      exact Nat.lt_of_lt_of_le hl (by decide)
    have hq2 : upd C p (.lst ws') q = some (.lst vs) := by
      rw [upd_ne hqp]
      exact hq
    refine ⟨q, vs, v, rfl, rfl, s2.c q _ hq2, hl2, next (xs ++ [b.1], b.2) (vs ++ [v]) ws' I2 _ _ e2 (s2.set hq2) upd_same ?_ (fun r h1 h2 => ?_) (by rw [List.length_append]; exact hl2) ?_ (It.im hx2) po⟩
    · rw [upd_ne (Ne.symm hqp), upd_same]
    · rw [upd_ne h2, upd_ne h1]
    · exact (hr.imp fun _ _ h => R.mono e2 (Ex.refl _) h).append (.one (Im.im rv))
  · exact po.elim
/-- pool[k] = e -/
def thenR (m : Res α) (g : α → β) (k : β → Res γ) : Res γ := m.bind fun a => k (g a)
@[simp] theorem thenR_eq (m : Res α) (g : α → β) (k : β → Res γ) : thenR m g k = m.bind fun a => k (g a) := rfl
theorem q_setT {p : Addr} {M : Rt μ} {x : μ} {ws : List V} [It M] [Im S1] {i k : Nat} {g : μ → β → μ} {kk : μ → Res ω} {m : Res β} (hv : σ[i]? = some (some (.ref p))) (h : EvX E K te σ I C m S1) (j : Pk M k g S1) (s : St I C H) (hc : C p = some (.lst ws)) (hx : M.r x ws I Z) (hm : Post (thenR m (fun a => g x a) kk) Q XF)
    (next : ∀ y ws' I2 C2 H2, Ex I I2 → St I2 C2 H2 → C2 p = some (.lst ws') → (∀ q, q ≠ p → C2 q = C q) → M.r y ws' I2 Z → Post (kk y) Q XF → tz D σ H2) : tSeq (tAsg te (gSub (tVar i) (tC (.int (k : Int))) rSetL)) tz D σ H := q_set hv h j s hc hx hm next
/-! None, or a thing -/
class NN {α : Type} (R : Rp α) : Prop where
  nn : ∀ {a : α} {v : V} {I C : Hp}, R.r a v I C → v ≠ .non
instance : NN pI := ⟨fun h z => by rw [show _ = V.int _ from h] at z; cases z⟩
instance : NN pB := ⟨fun h z => by rw [show _ = V.bl _ from h] at z; cases z⟩
instance : NN pS := ⟨fun h z => by rw [show _ = V.str _ from h.1] at z; cases z⟩
instance {T : Rt α} : NN (pT T) := ⟨fun ⟨a, vs, h, _⟩ z => by rw [h] at z; cases z⟩
instance {T : Rt α} : NN (pD T) := ⟨fun ⟨a, vs, h, _⟩ z => by rw [h] at z; cases z⟩
instance {T : Rt α} : NN (pU K T) := ⟨fun ⟨a, vs, h, _⟩ z => by rw [h] at z; cases z⟩
instance : NN (pL R) := ⟨fun ⟨a, vs, h, _⟩ z => by rw [h] at z; cases z⟩
instance : NN (pQ K R) := ⟨fun ⟨a, vs, h, _⟩ z => by rw [h] at z; cases z⟩
def someR' (a : α) : Res (Option α) := .ok (some a)
@[simp] theorem someR'_eq (a : α) : someR' a = .ok (some a) := rfl
theorem x_some [NN R] {m : Res α} (h : EvX E K te σ I C m R) : EvX E K te σ I C (un someR' m) (pO R) := fun I1 C1 H1 e e' s Q q =>
  h I1 C1 H1 e e' s Q ((Post.bind q).mono (fun a p v I2 H2 e2 s2 rv => p v I2 H2 e2 s2 ⟨rv, NN.nn rv⟩) fun _ _ z => z)
theorem x_none : EvX E K (tC .non) σ I C (.ok none) (pO R) := x_c fun _ _ => rfl
/-- it is there -/
def getO : Option α → Res α
  | some a => .ok a
  | none => .bad
@[simp] theorem getO_some (a : α) : getO (some a) = .ok a := rfl
theorem x_get {m : Res (Option α)} (h : EvX E K te σ I C m (pO R)) : EvX E K te σ I C (un getO m) R := fun I1 C1 H1 e e' s Q q =>
  h I1 C1 H1 e e' s Q ((Post.bind q).mono (fun a p v I2 H2 e2 s2 rv => by
    cases a with
    | none => exact p.elim
    | some a => exact p v I2 H2 e2 s2 rv.1) fun _ _ z => z)
/-! one of two -/
def pX (R : Rp α) (S : Rp β) : Rp (α ⊕ β) := ⟨fun x v I C => match x with
  | .inl a => R.r a v I C
  | .inr b => S.r b v I C, fun {a v I I' C C'} e e' h => by
  cases a with
  | inl a => exact R.mono e e' h
  | inr a => exact S.mono e e' h⟩
instance [Im R] [Im S1] : Im (pX R S1) := ⟨fun {a v I C C'} h => by
  cases a with
  | inl a => exact Im.im (R := R) h
  | inr a => exact Im.im (R := S1) h⟩
def getL : α ⊕ β → Res α
  | .inl a => .ok a
  | .inr _ => .bad
def getR : α ⊕ β → Res β
  | .inl _ => .bad
  | .inr a => .ok a
def inlR (a : α) : Res (α ⊕ β) := .ok (.inl a)
def inrR (a : β) : Res (α ⊕ β) := .ok (.inr a)
@[simp] theorem getL_eq (a : α) : getL (.inl a : α ⊕ β) = .ok a := rfl
@[simp] theorem getR_eq (a : β) : getR (.inr a : α ⊕ β) = .ok a := rfl
@[simp] theorem inlR_eq (a : α) : (inlR a : Res (α ⊕ β)) = .ok (.inl a) := rfl
@[simp] theorem inrR_eq (a : β) : (inrR a : Res (α ⊕ β)) = .ok (.inr a) := rfl
theorem x_getL {m : Res (α ⊕ β)} (h : EvX E K te σ I C m (pX R S1)) : EvX E K te σ I C (un getL m) R := fun I1 C1 H1 e e' s Q q =>
  h I1 C1 H1 e e' s Q ((Post.bind q).mono (fun a p v I2 H2 e2 s2 rv => by
    cases a with
    | inl a => exact p v I2 H2 e2 s2 rv
    | inr a => exact p.elim) fun _ _ z => z)
theorem x_getR {m : Res (α ⊕ β)} (h : EvX E K te σ I C m (pX R S1)) : EvX E K te σ I C (un getR m) S1 := fun I1 C1 H1 e e' s Q q =>
  h I1 C1 H1 e e' s Q ((Post.bind q).mono (fun a p v I2 H2 e2 s2 rv => by
    cases a with
    | inl a => exact p.elim
    | inr a => exact p v I2 H2 e2 s2 rv) fun _ _ z => z)
theorem x_inl {m : Res α} (h : EvX E K te σ I C m R) : EvX E K te σ I C (un inlR m) (pX R S1) := fun I1 C1 H1 e e' s Q q =>
  h I1 C1 H1 e e' s Q ((Post.bind q).mono (fun a p v I2 H2 e2 s2 rv => p v I2 H2 e2 s2 rv) fun _ _ z => z)
theorem x_inr {m : Res β} (h : EvX E K te σ I C m S1) : EvX E K te σ I C (un inrR m) (pX R S1) := fun I1 C1 H1 e e' s Q q =>
  h I1 C1 H1 e e' s Q ((Post.bind q).mono (fun a p v I2 H2 e2 s2 rv => p v I2 H2 e2 s2 rv) fun _ _ z => z)
/-! the kinds, for isinstance -/
class TyR (K : PySem.W.Frag) {α : Type} (R : Rp α) (n : String) : Prop where
  ty : ∀ {a : α} {v : V} {I C H : Hp}, St I C H → R.r a v I C → TyX K H v (.type n)
instance : TyR K pI "int" := ⟨fun s h => by rw [show _ = V.int _ from h]; exact .base (.int _)⟩
instance : TyR K pB "bool" := ⟨fun s h => by rw [show _ = V.bl _ from h]; exact .base (.bl _)⟩
instance : TyR K pS "str" := ⟨fun s h => by rw [show _ = V.str _ from h.1]; exact .base (.str _)⟩
instance {T : Rt α} : TyR K (pT T) "tuple" := ⟨fun s ⟨a, vs, e, h, _⟩ => by rw [e]; exact .base (.tup (s.i _ _ h))⟩
instance {T : Rt α} : TyR K (pD T) "list" := ⟨fun s ⟨a, vs, e, h, _⟩ => by rw [e]; exact .base (.lst (s.i _ _ h))⟩
instance : TyR K (pL R) "list" := ⟨fun s ⟨a, vs, e, h, _⟩ => by rw [e]; exact .base (.lst (s.i _ _ h))⟩
instance : TyR K (pV R) "list" := ⟨fun s h => by
  obtain ⟨a, vs, rfl, h, _⟩ := pV.at s h
  exact .base (.lst h)⟩
theorem o_isi {n c : String} {b : Bool} [TyR K R n] (hk : kitB n c = some b) : OpL E K (rIsi K) (fun _ => .ok b) (tc R (t1 (pY c))) pB := fun I C H a vs s hv Q q => by
  obtain ⟨v, us, rfl, r, w, rfl, rw⟩ := hv
  have hw : w = .ty c := rw
  subst hw
  exact ⟨v, .ty c, _, _, b, rfl, .ty c, TyR.ty s r, kit_ty hk, PQ.now q s rfl⟩
theorem o_lenT {T : Rt α} : OpL E K (fun xs H Q => ∃ p ys, xs = [.ref p] ∧ (SqL K H p ys ∨ SqT K H p ys) ∧ Q (.int ys.length) H) (fun _ => .ok (T.n : Int)) (t1 (pT T)) pI := fun I C H a vs s hv Q q => by
  obtain ⟨v, rfl, p, us, rfl, h, r⟩ := hv
  exact ⟨p, us, rfl, .inr (.inl (.inl (s.i _ _ h))), by rw [T.len r]; exact PQ.now q s rfl⟩
end
end Sd

namespace Sd
open PySem L2
theorem passE {P : Program} {w : World} {K : PySem.W.Frag} {mg : Str → Option Value} {base : Heap} {N : List Str} {qual : Str} {scope : Scope} {f : Addr} {cdv : Value} {A : Around} {outer : List Env} {s : Shared} {H : Hp} {E : XK} :
    Passes (L2.CX P w) (cxOf (L2.CX P w) P w K mg base N qual scope f cdv A outer s H E) E := passes_call (takes_of rfl rfl rfl rfl) fun _ _ _ _ h => h
/-! the built-ins -/
theorem bt_len : bootBuiltins "len" = some (.builtin "len") := by decide +kernel
theorem bt_max : bootBuiltins "max" = some (.builtin "max") := by decide +kernel
theorem bt_min : bootBuiltins "min" = some (.builtin "min") := by decide +kernel
theorem bt_sum : bootBuiltins "sum" = some (.builtin "sum") := by decide +kernel
theorem bt_sorted : bootBuiltins "sorted" = some (.builtin "sorted") := by decide +kernel
theorem bt_isinstance : bootBuiltins "isinstance" = some (.builtin "isinstance") := by decide +kernel
theorem bt_int : bootBuiltins "int" = some (.type "int") := by decide +kernel
theorem bt_str : bootBuiltins "str" = some (.type "str") := by decide +kernel
theorem bt_bool : bootBuiltins "bool" = some (.type "bool") := by decide +kernel
theorem bt_list : bootBuiltins "list" = some (.type "list") := by decide +kernel
theorem bt_tuple : bootBuiltins "tuple" = some (.type "tuple") := by decide +kernel
theorem bt_ValueError : bootBuiltins "ValueError" = some (.type "ValueError") := by decide +kernel
theorem bt_range : bootBuiltins "range" = some (.type "range") := by decide +kernel
section
variable {E : XK} {K : PySem.W.Frag} {σ : L2.St} {I I' C C' H B C0 : Hp} {α β γ μ ω S ρ : Type} {R : Rp α} {S1 : Rp β} {te ta tb : TE} {tt : TT} {tz tu tw : TS} {D : Ends} {Q : ω → Prop} {X : Ec → Int → Prop} {p q : Addr}
abbrev rLen1 (K : PySem.W.Frag) : List V → Hp → VK → Prop := fun xs H Q => ∃ p ys, xs = [.ref p] ∧ (SqL K H p ys ∨ SqT K H p ys) ∧ Q (.int ys.length) H
abbrev rList1 (K : PySem.W.Frag) : List V → Hp → VK → Prop := fun xs H Q => ∃ p ys, xs = [.ref p] ∧ (SqL K H p ys ∨ SqT K H p ys) ∧ ∀ l, H l = none → Q (.ref l) (upd H l (.lst ys))
abbrev rTuple1 (K : PySem.W.Frag) : List V → Hp → VK → Prop := fun xs H Q => ∃ p ys, xs = [.ref p] ∧ ((SqL K H p ys ∧ ∀ l, H l = none → Q (.ref l) (upd H l (.tup ys))) ∨ (SqT K H p ys ∧ Q (.ref p) H))
theorem Op2.ofL {r : R2} {f : List α → β → Res γ} {T : Rp γ} (h : Op2 E K r f (pV R) S1 T) : Op2 E K r f (pL R) S1 T := fun I C H a b x y s ⟨p, vs, h1, h2, h3, h4⟩ hy Q q => h I C H a b x y s ⟨p, vs, h1, .inl h2, h3, h4⟩ hy Q q
def b2iR (b : Bool) : Res Int := .ok (if b = true then 1 else 0)
@[simp] theorem b2iR_eq (b : Bool) : b2iR b = .ok (if b = true then 1 else 0) := rfl
theorem o_intB : OpL E K (fun xs H Q => (∃ i, xs = [.int i] ∧ Q (.int i) H) ∨ ∃ k, xs = [.bl k] ∧ Q (.int (if k then 1 else 0)) H) b2iR (t1 pB) pI := fun I C H a vs s hv Q q => by
  obtain ⟨v, rfl, h⟩ := hv
  have hv : v = .bl a := h
  subst hv
  exact .inr ⟨a, rfl, PQ.now q s rfl⟩
/-! the end of a def -/
abbrev PM {α μ : Type} (p : Addr) (M : Rt μ) (R : Rp α) (I C : Hp) (Q : VK) (b : α × μ) : Prop := ∀ v ws' I2 H2, Ex I I2 → St I2 (upd C p (.lst ws')) H2 → M.r b.2 ws' I2 (upd C p (.lst ws')) → R.r b.1 v I2 (upd C p (.lst ws')) → Q v H2
theorem ret_pool [Im R] {M : Rt μ} [It M] {I0 : Hp} {Q : VK} {b : α × μ} {ws : List V} {v : V} (hm : PM p M R I0 C0 Q b) (e : Ex I0 I) (fr : Ex (off C0 p) C) (s : St I C H) (hc : C p = some (.lst ws)) (hx : M.r b.2 ws I Z) (r : R.r b.1 v I Z) : Q v H :=
  hm v ws I H e (s.less (ex_pool fr hc)) (It.im hx) (Im.im r)
theorem ret_poolN {M : Rt μ} [It M] {I0 : Hp} {Q : VK} {b : Unit × μ} {ws : List V} (hm : PM p M pN I0 C0 Q b) (e : Ex I0 I) (fr : Ex (off C0 p) C) (s : St I C H) (hc : C p = some (.lst ws)) (hx : M.r b.2 ws I Z) : Q .non H :=
  hm .non ws I H e (s.less (ex_pool fr hc)) (It.im hx) rfl
theorem ret_own [Im R] {I0 : Hp} {Q : VK} {xs : List α} {vs : List V} (hm : PN R I0 C0 Q xs) (e : Ex I0 I) (fr : Ex C0 C) (hp : C p = none) (s : St I (upd C p (.lst vs)) H) (hl : vs.length ≤ sizeLine) (hr : A2 (fun x u => R.r x u I C) xs vs) : Q (.ref p) H :=
  hm p vs I H e (Ex.free fr hp) (s.less fun a u h => by
    by_cases z : a = p
    · rw [z, upd_same] at h
      rw [z, upd_same]
      exact h
    · rw [upd_ne z] at h ⊢
      exact fr a u h) hl (hr.imp fun _ _ h => Im.im h)
theorem fr_pool2 {C2 : Hp} (h : Ex (off C0 p) C) (hq : off C0 p q = none) (k : ∀ r, r ≠ p → r ≠ q → C2 r = C r) : Ex (off C0 p) C2 := fun a o e => by
  have h1 : a ≠ p := fun z => by rw [z, off_same] at e; cases e
  rw [k a h1 (ne_of_none e hq)]
  exact h a o e
theorem i_cellZ [Im R] {i : Nat} {a : Addr} {vs : List V} {xs : List α} (h : σ[i]? = some (some (.ref a))) (hc : C a = some (.lst vs)) (hl : vs.length ≤ sizeLine) (hr : A2 (fun x u => R.r x u I Z) xs vs) :
    EvI E K (iList K (tVar i)) σ I C (fun C3 => C3 a = some (.lst vs)) (.ok xs) R := i_cell h hc hl (hr.imp fun _ _ h => Im.im h)
theorem im_rng2 {M : Rt μ} [It M] {Cp : Hp} {tr : TA} {m : μ → Res ((Int × Int) × μ)} (h : EvAM E K p M tr σ I Cp m (tc pI (t1 pI))) : EvIM E K p M (iRng2 tr) σ I Cp (unM rng2 m) pI := fun x ws I1 C1 H1 e e' s hc hx Kt q =>
  h x ws I1 C1 H1 e e' s hc hx _ ((Post.bind q).mono (fun b z vs ws' I2 H2 e2 s2 hx2 ⟨v, us, hv, rv, w, hw, rw⟩ => by
    have z := Post.bind z
    unfold rng2 at z
    split at z
    · rename_i hn
      have hv1 : v = .int b.1.1 := rv
      have hw1 : w = .int b.1.2 := rw
      subst hv hw hv1 hw1
      refine ⟨b.1.1, b.1.2, rfl, by omega, z ws' (Itr b.1.1 (b.1.2 - b.1.1).toNat) (fun _ => True) (YFn fun i => .int (b.1.1 + i)) I2 H2 e2 s2 hx2 (by rw [rangeL_length]; exact Nat.le_trans (show (b.1.2 - b.1.1).toNat ≤ 2000000 by omega) (by decide)) (by rw [rangeL_length]; exact walk_range) (fun _ _ _ _ _ => trivial) (fun i x v' I3 C3 H3 H4 hx e3 s3 y => ?_)⟩
      obtain ⟨rfl, rfl⟩ := y
      rw [rangeL_get hx]
      exact ⟨I3, Ex.refl _, s3, rfl⟩
    · exact z.elim) fun _ _ z => z)
theorem im_list {M : Rt μ} [It M] [Im R] {Cp : Hp} {m : μ → Res (List α × μ)} (h : EvM E K p M te σ I Cp m (pL R)) : EvIM E K p M (iList K te) σ I Cp m R := fun x ws I1 C1 H1 e e' s hc hx Kt q =>
  h x ws I1 C1 H1 e e' s hc hx _ (q.mono (fun b z v ws' I2 H2 e2 s2 hx2 ⟨a, us, h1, h2, h3, h4⟩ => ⟨a, h1, ⟨us, .inl (.inl (s2.i a _ h2))⟩, by
    have hn := h4.len
    refine z ws' (Itl K a) (fun H => SqL K H a us) (YAt us) I2 H2 e2 s2 hx2 (by omega) (by rw [← hn]; exact walk_list) (fun I3 C3 H3 e3 s3 => .inl (.inl (s3.i a _ (e3 a _ h2)))) (fun i x v' I3 C3 H3 H4 hx e3 s3 y => ?_)
    obtain ⟨rfl, y⟩ := y
    obtain ⟨w, hw, r⟩ := h4.get' hx
    rw [hw] at y
    cases y
    exact ⟨I3, Ex.refl _, s3, R.to e3 r⟩⟩) fun _ _ z => z)
theorem m_v {M : Rt μ} {Cp : Hp} {m : μ → Res (List α × μ)} (h : EvM E K p M te σ I Cp m (pL R)) : EvM E K p M te σ I Cp m (pV R) := fun x ws I1 C1 H1 e e' s hc hx Q q =>
  h x ws I1 C1 H1 e e' s hc hx Q (q.mono (fun b z v ws' I2 H2 e2 s2 hx2 ⟨a, vs, h1, h2, h3, h4⟩ => z v ws' I2 H2 e2 s2 hx2 ⟨a, vs, h1, .inl h2, h3, h4⟩) fun _ _ z => z)
/-! slices whose ends draw -/
def EvOM (E : XK) (K : PySem.W.Frag) (p : Addr) {μ : Type} (M : Rt μ) (to : TO) (σ : L2.St) (I Cp : Hp) (m : μ → Res (Option Int × μ)) : Prop :=
  ∀ x ws I1 C1 H1, Ex I I1 → Ex Cp C1 → St I1 C1 H1 → C1 p = some (.lst ws) → M.r x ws I1 C1 → ∀ Q : Option Int → Hp → Prop, Post (m x) (fun b => ∀ ws' I2 H2, Ex I1 I2 → St I2 (upd C1 p (.lst ws')) H2 → M.r b.2 ws' I2 (upd C1 p (.lst ws')) → Q b.1 H2) (fun _ _ => False) → to σ H1 Q
theorem pm_pure {M : Rt μ} {Cp : Hp} {to : TO} {m : Res (Option Int)} (h : EvO E K to σ I Cp m) : EvOM E K p M to σ I Cp (liftM m) := fun x ws I1 C1 H1 e e' s hc hx Q q =>
  h I1 C1 H1 e e' s Q ((Post.bind q).mono (fun a z I2 H2 e2 s2 => by
    have e3 : upd C1 p (.lst ws) = C1 := upd_id hc
    exact z ws I2 H2 e2 (by rw [e3]; exact s2) (by rw [e3]; exact M.mono e2 (Ex.refl _) hx)) fun _ _ z => z.elim)
theorem pm_some {M : Rt μ} {Cp : Hp} {m : μ → Res (Int × μ)} (h : EvM E K p M te σ I Cp m pI) : EvOM E K p M (tPart te) σ I Cp (unM (fun i => .ok (some i)) m) := fun x ws I1 C1 H1 e e' s hc hx Q q =>
  h x ws I1 C1 H1 e e' s hc hx _ ((Post.bind q).mono (fun b z v ws' I2 H2 e2 s2 hx2 rv => ⟨b.1, rv, z ws' I2 H2 e2 s2 hx2⟩) fun _ _ z => z)
def slM (m : Res (List α)) (lo hi : μ → Res (Option Int × μ)) : μ → Res (List α × μ) := fun x => m.bind fun xs => (lo x).bind fun a => (hi a.2).bind fun b => .ok (cut xs a.1 b.1, b.2)
theorem m_sl {M : Rt μ} [It M] [Im R] {Cp : Hp} {tl th : TO} {m : Res (List α)} {lo hi : μ → Res (Option Int × μ)} (hp : Cp p = none) (h : EvX E K te σ I Cp m (pL R)) (hl : EvOM E K p M tl σ I Cp lo) (hh : EvOM E K p M th σ I Cp hi) :
    EvM E K p M (tSl (rSlL K) te tl th) σ I Cp (slM m lo hi) (pL R) := fun x ws I1 C1 H1 e e' s hc hx Q q =>
  h I1 C1 H1 e e' s _ ((Post.bind q).mono (fun xs z v I2 H2 e2 s2 ⟨a, vs, h1, h2, h3, h4⟩ =>
    hl x ws I2 C1 H2 (e.trans e2) e' s2 hc (M.mono e2 (Ex.refl _) hx) _ ((Post.bind z).mono (fun b z2 ws' I3 H3 e3 s3 hx3 =>
      hh b.2 ws' I3 _ H3 (e.trans (e2.trans e3)) (e'.over hp) s3 upd_same hx3 _ ((Post.bind z2).mono (fun c z3 ws2 I4 H4 e4 s4 hx4 => by
        refine ⟨a, vs, h1, .inl (.inl (s4.i a _ (e4 a _ (e3 a _ h2)))), fun t ht => ?_⟩
        have eu : upd (upd C1 p (.lst ws')) p (.lst ws2) = upd C1 p (.lst ws2) := by
          funext r
          by_cases hr : r = p
          · rw [hr, upd_same, upd_same]
          · rw [upd_ne hr, upd_ne hr, upd_ne hr]
        rw [eu] at s4 hx4
        have ex := Ex.new (o := HO.lst (cutV vs b.1 c.1)) (s4.i.free ht)
        refine z3 (.ref t) ws2 (upd I4 t (.lst (cutV vs b.1 c.1))) _ (e2.trans (e3.trans (e4.trans ex))) (s4.newI ht) (M.mono ex (Ex.refl _) hx4) ⟨t, _, rfl, upd_same, ?_, ?_⟩
        · unfold cutV
          rw [List.length_take, List.length_drop]
          omega
        · exact (A2.cut (h4.imp fun _ _ r => R.to (e3.trans (e4.trans ex)) r) b.1 c.1)) fun _ _ z => z)) fun _ _ z => z)) fun _ _ z => z.elim)
theorem m_notV {M : Rt μ} {Cp : Hp} {m : μ → Res (Bool × μ)} (h : EvM E K p M te σ I Cp m pB) : EvM E K p M (tNotV te) σ I Cp (unM notR m) pB := fun x ws I1 C1 H1 e e' s hc hx Q q =>
  h x ws I1 C1 H1 e e' s hc hx _ ((Post.bind q).mono (fun b z v ws' I2 H2 e2 s2 hx2 rv => ⟨b.1, rv, z _ ws' I2 H2 e2 s2 hx2 rfl⟩) fun _ _ z => z)
theorem m_andV {M : Rt μ} {Cp : Hp} {m n : μ → Res (Bool × μ)} (hp : Cp p = none) (h1 : EvM E K p M ta σ I Cp m pB) (h2 : EvM E K p M tb σ I Cp n pB) : EvM E K p M (tAndV ta tb) σ I Cp (andM m n) pB := fun x ws I1 C1 H1 e e' s hc hx Q q =>
  h1 x ws I1 C1 H1 e e' s hc hx _ ((Post.bind q).mono (fun b z v ws' I2 H2 e2 s2 hx2 rv => by
    obtain ⟨c, y⟩ := b
    refine ⟨c, rv, ?_⟩
    cases c with
    | true =>
      rw [if_pos rfl]
      refine h2 y ws' I2 _ H2 (e.trans e2) (e'.over hp) s2 upd_same hx2 Q (Post.mono (m := n y) z (fun d z2 v ws2 I3 H3 e3 s3 hx3 rw => ?_) fun _ _ z => z)
      have eu : upd (upd C1 p (.lst ws')) p (.lst ws2) = upd C1 p (.lst ws2) := by
        funext r
        by_cases hr : r = p
        · rw [hr, upd_same, upd_same]
        · rw [upd_ne hr, upd_ne hr, upd_ne hr]
      rw [eu] at s3 hx3
      exact z2 v ws2 I3 H3 (e2.trans e3) s3 hx3 rw
    | false => exact z (.bl false) ws' I2 H2 e2 s2 hx2 rfl) fun _ _ z => z)
theorem m_orV {M : Rt μ} {Cp : Hp} {m n : μ → Res (Bool × μ)} (hp : Cp p = none) (h1 : EvM E K p M ta σ I Cp m pB) (h2 : EvM E K p M tb σ I Cp n pB) : EvM E K p M (tOrV ta tb) σ I Cp (orM m n) pB := fun x ws I1 C1 H1 e e' s hc hx Q q =>
  h1 x ws I1 C1 H1 e e' s hc hx _ ((Post.bind q).mono (fun b z v ws' I2 H2 e2 s2 hx2 rv => by
    obtain ⟨c, y⟩ := b
    refine ⟨c, rv, ?_⟩
    cases c with
    | false =>
      rw [if_neg (by decide)]
      refine h2 y ws' I2 _ H2 (e.trans e2) (e'.over hp) s2 upd_same hx2 Q (Post.mono (m := n y) z (fun d z2 v ws2 I3 H3 e3 s3 hx3 rw => ?_) fun _ _ z => z)
      have eu : upd (upd C1 p (.lst ws')) p (.lst ws2) = upd C1 p (.lst ws2) := by
        funext r
        by_cases hr : r = p
        · rw [hr, upd_same, upd_same]
        · rw [upd_ne hr, upd_ne hr, upd_ne hr]
      rw [eu] at s3 hx3
      exact z2 v ws2 I3 H3 (e2.trans e3) s3 hx3 rw
    | true => exact z (.bl true) ws' I2 H2 e2 s2 hx2 rfl) fun _ _ z => z)
/-- a for whose source draws, a turn of it may break or return -/
theorem qm_forR {M : Rt μ} {x : μ} {ws : List V} [It M] (P : S → L2.St → Hp → Hp → Prop) {wi : TI} {g : TG} {m : μ → Res (List α × μ)} {f : α → S → Res (Out S ρ)} {s0 : μ → S} {k : Out S ρ → Res ω} (hi : EvIM E K p M wi σ I (off C p) m R) (s : St I C H) (hc : C p = some (.lst ws)) (hx : M.r x ws I Z) (hm : Post (((m x).bind fun b => loopR f b.1 (s0 b.2)).bind k) Q XF)
    (h0 : ∀ y ws' I2 C2, Ex I I2 → C2 p = some (.lst ws') → (∀ q, q ≠ p → C2 q = C q) → M.r y ws' I2 Z → P (s0 y) σ I2 C2) (hP : ∀ s' σ' I' I2 C', Ex I' I2 → P s' σ' I' C' → P s' σ' I2 C')
    (body : ∀ (N : L2.St → Hp → Prop) x v s' σ' I' C' H', Ex I I' → St I' C' H' → P s' σ' I' C' → R.r x v I' C' → Post (f x s') (fun o => match o with
        | .nx s2 => ∀ σ2 I3 C3 H3, Ex I' I3 → St I3 C3 H3 → P s2 σ2 I3 C3 → N σ2 H3
        | .br s2 => ∀ σ2 I3 C3 H3, Ex I' I3 → St I3 C3 H3 → P s2 σ2 I3 C3 → tz D σ2 H3
        | .rt r => Post (k (.rt r)) Q XF) XF →
      g v σ' H' fun σ2 H2 => tu { D with nx := N, ct := N, bk := tz D } σ2 H2)
    (next : ∀ s' σ' I' C' H', Ex I I' → St I' C' H' → P s' σ' I' C' → Post (k (.nx s')) Q XF → tz D σ' H') : tSeq (tFor wi g tu) tz D σ H :=
  hi x ws I C H (Ex.refl _) off_ex s hc (It.im hx) _ ((Post.bind (Post.bind hm)).mono (fun b q2 ws2 J G Y I2 H2 e2 s2 hx2 hz w hG hY => by
    refine for_it w (fun i σ' H' => ∃ s' I' C', Ex I2 I' ∧ St I' C' H' ∧ P s' σ' I' C' ∧ Post ((loopR f (b.1.drop i) s').bind k) Q XF) ⟨s0 b.2, I2, _, Ex.refl _, s2, h0 _ _ I2 _ e2 upd_same (fun q h => upd_ne h) (It.im hx2), by rw [List.drop_zero]; exact Post.of_bind q2⟩
      (fun i σ' H' hi ⟨s', I', C', e3, s3, p, _⟩ => hG I' C' H' e3 s3) (fun i x σ' H1 H' hi ⟨s', I', C', e3, s3, p, po⟩ y => ?_) (fun σ' H' ⟨s', I', C', e3, s3, p, po⟩ => ?_)
    · obtain ⟨a, ha⟩ : ∃ a, b.1[i]? = some a := ⟨b.1[i], by simp [hi]⟩
      rw [drop_cons ha] at po
      obtain ⟨I4, e4, s4, ra⟩ := hY i a x I' C' H1 H' ha e3 s3 y
      refine body _ a x s' σ' I4 C' H' (e2.trans (e3.trans e4)) s4 (hP _ _ _ _ _ e4 p) ra ((Post.bind (Post.bind po)).mono (fun o z => ?_) fun _ _ z => z)
      cases o with
      | nx s3 => exact fun σ2 I5 C5 H5 e5 s5 p5 => ⟨s3, I5, C5, e3.trans (e4.trans e5), s5, p5, Post.of_bind z⟩
      | br s3 => exact fun σ2 I5 C5 H5 e5 s5 p5 => next s3 σ2 I5 C5 H5 (e2.trans (e3.trans (e4.trans e5))) s5 p5 z
      | rt r => exact z
    · rw [List.drop_length] at po
      exact next s' σ' I' C' H' (e2.trans e3) s3 p po) fun _ _ z => z)
end
end Sd

namespace PySem.W
open PySem PySem.Spec PySem.Calls PyProof.Rows
section
variable {prog : Program} {w : World} {A : Around} {E : Value → Shared → Prop} {s : Shared} {K : Frag} {y D0 : Addr} {oy dct : Obj}
/-- what a caught error with a dict of its own answers to __class__ -/
theorem sd_class {G : Option Value → Shared → Prop} (T : L2.ExcC K D0) (hK : K.In s.heap) (J : InstAt s.heap y oy D0 (some dct)) (hG : G (some (.ref D0)) { s with toks := s.toks + 1 }) :
    wpAny (model prog w) A (getAttr? (.ref y) "__class__") G E s := by
  have hfind : findObj K D0 (some dct) "__class__" = some (.bind (.builtin "getset_descriptor.__get__") (.builtin "object.__class__")) := by
    obtain ⟨cd, hcd, _⟩ := any_some T.hd
    unfold findObj
    rw [hcd, Option.bind_some, T.ha, Option.bind_some]
    simp [T.hn, T.ht]
  obtain ⟨heap, gens, drw, tk, osx⟩ := s
  have kT := J.type (M := model prog w)
  have kA := looks_findIn (M := model prog w) hK T.hg
  have kB := looks_findIn (M := model prog w) hK T.hk
  have kF := looks_find (M := model prog w) hK J hfind
  have kS : Looks (model prog w) heap (isInstance (.ref y) (.type "BaseException")) true := kT.andThen (looks_subIn hK T.hs)
  have n0 : (false && onTheHeap (Value.builtin "BaseException.__getattribute__")) = false := rfl
  have n1 : (Value.builtin "BaseException.__getattribute__" == Value.builtin "object.__getattribute__") = false := by decide +kernel
  have n2 : (onTheHeap (Value.ref D0) && Value.builtin "BaseException.__getattribute__" == Value.builtin "object.__getattribute__") = false := by
    rw [n1]
    rfl
  unfold getAttr? getAttrBy? getAttrBy
  refine wpAny_bind (wpAny_mkText (wpAny_bind (wpAny_attempt (wpAny_holding (wpAny_bind (kT.at (wpAny_bind (kA.at ?_))))))))
  show wpAny _ _ (if (onTheHeap (Value.ref D0) && Value.builtin "BaseException.__getattribute__" == Value.builtin "object.__getattribute__") = true then _ else _) _ _ _
  rw [n2, if_neg Bool.false_ne_true]
  unfold getAttrByItsOwn hookBefore
  refine wpAny_bind ?_
  rw [if_pos (show onTheHeap (Value.ref D0) = true from rfl)]
  refine kB.at ?_
  refine wpAny_bind (wpAny_attempt (wpAny_holding ?_))
  unfold callGetattribute
  rw [n0, if_neg Bool.false_ne_true]
  unfold boundAndCalled
  rw [PySem.F.excAttr_ValueError.ga.bind (.ref y)]
  refine wpAny_bind (wpAny_pure ?_)
  show wpAny _ _ (call (.builtin "BaseException.__getattribute__") [.ref y, .str "__class__" tk]) _ _ _
  refine wpAny_call (codeAny_call_builtin PySem.F.excAttr_ValueError.ga.plain PySem.F.entry_bexc_ga ?_)
  refine @check_slot (model prog w) _ _ ⟨heap, gens, drw, tk + 1, osx⟩ "BaseException.__getattribute__" "BaseException" "__getattribute__" (.ref y) [.str "__class__" tk] [] _ (by decide +kernel) (by decide +kernel) kS (PySem.F.args_bexc_ga (.ref y) (.str "__class__" tk)) ?_
  unfold Builtin.«object.__getattribute__»
  refine wpAny_bind (wpAny_of_eq (a := ((Value.ref y : Value), [Value.str "__class__" tk])) (by first | rfl | (simp only [slotArgs]; rfl)) ?_)
  refine wpAny_bind (wpAny_pure (wpAny_bind (kT.at (wpAny_bind (kF.at ?_)))))
  show wpAny _ _ (holding [Value.builtin "object.__class__"] (call (.builtin "getset_descriptor.__get__") [.builtin "object.__class__", .ref y, .ref D0]) >>= ret) _ _ _
  refine wpAny_bind (wpAny_holding (wpAny_call (class_get (s := ⟨heap, gens, drw, tk + 1, osx⟩) (ox := oy) (od := some dct) hK J T.hm ?_)))
  refine wpAny_pure ?_
  show wpAny _ _ (handedOut (.ref D0)) _ _ _
  rw [handedOut_of (v := .ref D0) rfl]
  first
    | exact wpAny_pure (wpAny_pure hG)
    | exact wpAny_pure hG
    | exact wpAny_pure (wpAny_bind (wpAny_pure (wpAny_pure hG)))
theorem sd_kit (T : L2.ExcC K D0) : KitX K (.ref y) (.ref D0) (fun h => InstAt h y oy D0 (some dct)) where
  ty := fun _ _ _ J => J.type
  it := fun _ _ hK _ => by
    obtain ⟨cd, hcd, _⟩ := any_some T.hd
    unfold clsIn at hcd
    split at hcd
    · rename_i c1 d1 cd1 sl1 ho1
      intro A1 Q1 E1 s1 k1 q1
      unfold isType loadHead
      exact wpAny_bind (wpAny_loadPart (k1 _ _ (hK _ _ ho1)) (wpAny_pure q1))
    · cases hcd
  ne := fun h tp dd its n sl hK htp => by
    obtain ⟨cd, hcd, _⟩ := any_some T.hd
    refine Bool.eq_false_iff.mpr fun z => ?_
    have e : D0 = tp := Value.ref.inj (beq_iff_eq.mp z)
    subst e
    unfold clsIn at hcd
    split at hcd
    · rename_i c1 d1 cd1 sl1 ho1
      cases (hK _ _ ho1).symm.trans htp
    · cases hcd
  ca := fun hK J k => sd_class T hK J k
end
end PySem.W
namespace Sd
open PySem L2
/-! ### own errors -/
def mth : Stmt → Stmt
  | .ClassDef _ _ _ body _ _ _ _ _ _ _ => body.getD 0 (.Pass ⟨0, 0, 0, 0⟩)
  | s => s
def isaE (c b : Ec) : Bool := decide (c = b) || decide (b = .DeskError)
/-- what the written part says of an own error -/
structure ErrC (K : PySem.W.Frag) (mg : Str → Option Value) (fI : Addr) (c : Ec) : Prop where
  o : OexC K (He.ga K c.name)
  ic : PySem.W.findIn K (.ref (He.ga K c.name)) "__init__" = some (some (.ref fI))
  ti : PySem.W.typeIn K (.ref fI) = some (.type "function")
  g : mg c.name = some (.ref (He.ga K c.name))
  na : PySem.W.findIn K (.ref (He.ga K c.name)) "at" = some none
  xf : XfC K (He.ga K c.name)
  is : ExcC K (He.ga K c.name)
  ve : PySem.W.kitOne K (.ref (He.ga K c.name)) (.type "ValueError") = some true
/-- self.at = at -/
def spInit (K : PySem.W.Frag) : Sp := fun vs H Q _ => ∃ (a C : Addr) (i : Int), vs = [.ref a, .int i] ∧ OexC K C ∧ PySem.W.findIn K (.ref C) "at" = some none ∧ H a = some (exo a C none) ∧
  ∀ dx, H dx = none → dx ≠ a → Q .non (upd (upd H dx (exd dx [(("at" : Str), .int i)])) a (exo a C (some dx)))
section
variable {P : Program} {w : World} {K : PySem.W.Frag} {mg : Str → Option Value} {base : Heap}
abbrev ErrF (K : PySem.W.Frag) (st : Stmt) (f : Addr) (fd : FuncData) : Prop := FunD K "__init__" "DeskError.__init__" (defArgs st) (defBody st) (defScope st) [.int 0] [] f fd
end
section
variable {E : XK} {K : PySem.W.Frag} {mg : Str → Option Value} {fI : Addr} {σ : L2.St} {I C H : Hp} {α β ω S ρ : Type} {ta : TA} {te : TE} {tz : TS} {D : Ends} {Q : ω → Prop} {X : Ec → Int → Prop}
theorem s_raise {c : Ec} {m : Res Int} (x : ErrC K mg fI c) (h : EvA E K ta σ I C m (t1 pI)) (s : St I C H) (hX : XH X E K I C) (hm : Post (m.bind fun i => Res.exc c i : Res ω) Q X) :
    tSeq (fun _ σ H => tMkO (He.ga K c.name) (spInit K) [] ta σ H fun cls d H' => E cls d H') tz D σ H :=
  h I C H (Ex.refl _) (Ex.refl _) s _ ((Post.bind hm).mono (fun i q vs I2 H2 e2 s2 ⟨v, hv, rv⟩ => by
    have hv1 : v = .int i := rv
    subst hv hv1
    have po : PX E K I2 C c i := (hX c i q).mono e2 (Ex.refl _)
    refine ⟨Nat.le_of_ble_eq_true rfl, fun a ha => ⟨a, He.ga K c.name, i, rfl, x.o, x.na, upd_same, fun dx hdx hne => ⟨rfl, dx, [(("at" : Str), .int i)], upd_same, ?_, ?_, ?_⟩⟩⟩
    · rw [upd_ne hne, upd_same]
    · rw [upd_ne hne] at hdx
      exact hdx
    · rw [upd_ne hne] at hdx
      have eh : upd (del (upd (upd (upd H2 a (exo a (He.ga K c.name) none)) dx (exd dx [(("at" : Str), .int i)])) a (exo a (He.ga K c.name) (some dx))) a) dx (.xd [(("at" : Str), .int i)]) = upd H2 dx (.xd [(("at" : Str), .int i)]) := by
        funext b
        by_cases h1 : b = dx
        · rw [h1, upd_same, upd_same]
        · rw [upd_ne h1, upd_ne h1]
          by_cases h2 : b = a
          · rw [h2, del_same, ha]
          · rw [del_ne h2, upd_ne h2, upd_ne h1, upd_ne h2]
      rw [eh]
      exact po dx (upd I2 dx (.xd [(("at" : Str), .int i)])) _ (Ex.new (s2.i.free hdx)) (s2.newI hdx) upd_same) hX)
/-! in an except suite -/
def tXfX (K : PySem.W.Frag) (a : Addr) (cls : Value) (d : Option Addr) (f : Str) (te : TE) : TE := fun σ H Q => ∃ C, (XfC K C ∧ PySem.W.findIn K (.ref C) f = some none) ∧ tXf a cls d C f te σ H Q
theorem pe_xfX {X : Cx} {a : Addr} {oe : Obj} {cls : Value} {d : Option Addr} {pn : List (Addr × Obj)} {e : Expr} {te : TE} {pos : Pos} {n : Str}
    (hz : Zc cls d oe) (hf : ∃ vs, oe.data = .fields vs) (he : PE (X.suite a ((a, oe) :: pn)) e te) (hb : attributeBase e n X.env (eval e X.env) = eval e X.env := by rfl) :
    PE (X.suite a ((a, oe) :: pn)) (.Attribute e n pos) (tXfX X.K a cls d n te) :=
  ⟨fun pins s σ H Q I ⟨C, ⟨T, hno⟩, h⟩ => (pe_xf (C := C) T hno hz hf he hb).run pins s σ H Q I h⟩
def rIsX (K : PySem.W.Frag) (a : Addr) (cls : Value) (d : Option Addr) : List V → Hp → VK → Prop := fun xs H Q => ∃ (D dd : Addr) (fs : List (Str × V)) (c : V) (cv : Value) (b : Bool), ExcC K D ∧ cls = .ref D ∧ d = some dd ∧ H dd = some (.xd fs) ∧ xs = [.ref a, c] ∧
  (∀ u, RelV c u → u = cv) ∧ PySem.W.kitOne K (.ref D) cv = some b ∧ Q (.bl b) H
theorem call_isX {Y : Cx} {a : Addr} {cls : Value} {d : Option Addr} {oe : Obj} {pn : List (Addr × Obj)} (hz : Zc cls d oe) (hf : ∃ vs, oe.data = .fields vs) : CallR (Y.suite a ((a, oe) :: pn)) (.builtin "isinstance") (rIsX Y.K a cls d) := by
  intro pins s σ H xs us Q I r h
  obtain ⟨D, dd, fs, c, cv, b, T, rfl, rfl, hd, rfl, hcv, e, q⟩ := h
  cases r with
  | cons r1 rr =>
    cases rr with
    | cons r2 rr =>
      cases rr
      cases r1
      have ec := hcv _ r2
      subst ec
      obtain ⟨hget, _⟩ := I.pin (a, oe) (List.mem_append.mpr (.inl List.mem_cons_self))
      obtain ⟨vs, hv⟩ := hf
      have hx : ObjOk Y.prog Y.w H s.heap dd (.xd fs) := I.hok dd _ hd
      obtain ⟨mA, hns, _⟩ := hx
      obtain ⟨od, ho, _⟩ := lookIn_ns hns
      have J : PySem.W.InstAt s.heap a oe D (some od) := ⟨hget, hz.1, by unfold PySem.W.notCls; rw [hv] <;> rfl, by rw [hz.2]; exact ho⟩
      exact PySem.W.kia_one (PySem.W.sd_kit T) I.kIn J e (fun z => nomatch z) fun tk => ⟨.bl b, H, I.kept (t' := tk) fun _ _ z => z, rfl, q⟩
/-- the caught error: its class, its number, where it stands -/
structure Cg (K : PySem.W.Frag) (mg : Str → Option Value) (fI : Addr) (I : Hp) (cls : Value) (d : Option Addr) (c : Ec) (i : Int) : Prop where
  x : ErrC K mg fI c
  cl : cls = .ref (He.ga K c.name)
  dd : ∃ dd, d = some dd ∧ I dd = some (.xd [(("at" : Str), .int i)])
theorem Cg.up {I2 : Hp} {cls : Value} {d : Option Addr} {c : Ec} {i : Int} (e : Ex I I2) (g : Cg K mg fI I cls d c i) : Cg K mg fI I2 cls d c i := ⟨g.x, g.cl, by
  obtain ⟨dd, h1, h2⟩ := g.dd
  exact ⟨dd, h1, e _ _ h2⟩⟩
theorem x_at {a : Addr} {j : Nat} {cls : Value} {d : Option Addr} {c : Ec} {i : Int} (g : Cg K mg fI I cls d c i) (hv : σ[j]? = some (some (.ref a))) : EvX E K (tXfX K a cls d "at" (tVar j)) σ I C (.ok i) pI := fun I1 C1 H1 e e' s Q q => by
  obtain ⟨dd, h1, h2⟩ := g.dd
  exact ⟨_, ⟨g.x.xf, g.x.na⟩, _, hv, rfl, g.cl, dd, _, .int i, h1, s.i _ _ (e _ _ h2), by simp [List.lookup], PQ.now (R := pI) (a := i) q s rfl⟩
theorem x_isE {a : Addr} {j : Nat} {cls : Value} {d : Option Addr} {c c2 : Ec} {i : Int} (g : Cg K mg fI I cls d c i) (hk : PySem.W.kitOne K (.ref (He.ga K c.name)) (.ref (He.ga K c2.name)) = some (isaE c c2)) (hv : σ[j]? = some (some (.ref a))) :
    EvX E K (tCB (rIsX K a cls d) (tCons (tVar j) (tCons (tC (.ref (He.ga K c2.name))) tNil))) σ I C (.ok (isaE c c2)) pB := fun I1 C1 H1 e e' s Q q => by
  obtain ⟨dd, h1, h2⟩ := g.dd
  exact ⟨_, hv, _, dd, _, _, _, _, g.x.is, g.cl, h1, s.i _ _ (e _ _ h2), rfl, fun u r => r, hk, PQ.now (R := pB) (a := isaE c c2) q s rfl⟩
theorem x_isVE {a : Addr} {j : Nat} {cls : Value} {d : Option Addr} {c : Ec} {i : Int} (g : Cg K mg fI I cls d c i) (hv : σ[j]? = some (some (.ref a))) :
    EvX E K (tCB (rIsX K a cls d) (tCons (tVar j) (tCons (tC (.ty "ValueError")) tNil))) σ I C (.ok true) pB := fun I1 C1 H1 e e' s Q q => by
  obtain ⟨dd, h1, h2⟩ := g.dd
  exact ⟨_, hv, _, dd, _, _, _, _, g.x.is, g.cl, h1, s.i _ _ (e _ _ h2), rfl, fun u r => r, g.x.ve, PQ.now (R := pB) (a := true) q s rfl⟩
/-! a call in the body of a try -/
theorem x_callS {W : WX} {T : Rt α} {f : α → Res β} {R : Rp β} {m : Res α} (h : EvA (WE W σ) K ta σ I C m T) : EvX (WE W σ) K (tCallS (spP K T f R) (WE W) ta) σ I C (un f m) R := fun I1 C1 H1 e e' s Q q =>
  h I1 C1 H1 e e' s _ ((Post.bind q).mono (fun a p vs I2 H2 e2 s2 rv => ⟨I2, C1, a, s2, rv, Post.mono (m := f a) p (fun b z v I3 H3 e3 s3 rw => z v I3 H3 (e2.trans e3) s3 rw) fun c i z => z.mono e2 (Ex.refl _)⟩) fun _ _ z => z)
theorem n_callS {W : WX} {T : Rt α} {f : α → Res (List β)} {R : Rp β} {m : Res α} (h : EvA (WE W σ) K ta σ I C m T) : EvN (WE W σ) K (tCallS (spO K T f R) (WE W) ta) σ I C (un f m) R := fun I1 C1 H1 e e' s Q q =>
  h I1 C1 H1 e e' s _ ((Post.bind q).mono (fun a p vs I2 H2 e2 s2 rv => ⟨I2, C1, a, s2, rv, Post.mono (m := f a) p (fun b z => z.up e2) fun c i z => z.mono e2 (Ex.refl _)⟩) fun _ _ z => z)
/-! try: body, except the errors in L as e: suite -/
def tryR {α : Type} (Kn L : Ec → Bool) (m : Res α) (f : Ec → Int → Res α) : Res α := match m with
  | .ok a => .ok a
  | .exc c i => if Kn c = true then (if L c = true then f c i else .exc c i) else .bad
  | .bad => .bad
@[simp] theorem tryR_ok {α : Type} (Kn L : Ec → Bool) (a : α) (f : Ec → Int → Res α) : tryR Kn L (.ok a) f = .ok a := rfl
theorem tryR_exc {α : Type} {Kn L : Ec → Bool} {c : Ec} {i : Int} (h : Kn c = true) (h2 : L c = true) (f : Ec → Int → Res α) : tryR Kn L (.exc c i) f = f c i := by
  show (if Kn c = true then (if L c = true then f c i else .exc c i) else .bad) = f c i
  rw [if_pos h, if_pos h2]
abbrev Xb {σ' ρ' ω' : Type} (Kn L : Ec → Bool) (ms : Ec → Int → Res (Out σ' ρ')) (k : Out σ' ρ' → Res ω') (Q : ω' → Prop) (X : Ec → Int → Prop) (c : Ec) (j : Int) : Prop := Kn c = true ∧ (if L c = true then Post ((ms c j).bind k) Q X else X c j)
/-- try: .. except c as e: .. -/
def tTry (K : PySem.W.Frag) (c : Value) (i : Nat) (tb : WX → TS) (ts : Addr → Value → Option Addr → TS) (Wout : WX) : TS := fun D σ H => tb (wAs K c i ts Wout D) D σ H
theorem ps_tryS {X : Cx} {x n : Str} {c : Value} {i : Nat} {body suite : List Stmt} {b₀ : Stmt} {np pos pos' : Pos} {tb : WX → TS} {ts : Addr → Value → Option Addr → TS} {Wout : WX} (hs : X.stack = X.env :: X.outer) (hf : X.env.frame = some X.env.locals) (hN : X.N.Nodup) (hi : X.N[i]? = some n) (hln : X.env.kindOf n = some .local) (hc : Names X x c) (tk : Takes X Wout)
    (hb : ∀ (W : WX) (pn : List (Addr × Obj)) (xe : Value → Shared → Prop), Takes (X.tr pn xe) W → PassesOwn (model X.prog X.w) X.A X.env xe → PSs (X.tr pn xe) body (tb W))
    (hsu : ∀ (a : Addr) (oe : Obj) (cls : Value) (d : Option Addr) (pn : List (Addr × Obj)), Zc cls d oe → (∃ vs, oe.data = .fields vs) → PSs (X.suite a ((a, oe) :: pn)) (b₀ :: suite) (ts a cls d)) :
    PS X (.Try body [.ExceptHandler (some (.Name x np)) (some n) (b₀ :: suite) pos'] [] [] pos) (tTry X.K c i tb ts Wout) := ps_try_as hs hf hN hi hln hc tk hb hsu
/-- the word P of what stands behind it (slot i of e is empty then), Pe of where the body may break off -/
theorem s_try (P : S → L2.St → Hp → Hp → Prop) (Pe : L2.St → Hp → Hp → Prop) {i : Nat} {tb : WX → TS} {ts : Addr → Value → Option Addr → TS} {cv : Value} {Kn L : Ec → Bool} {mb : Res (Out S ρ)} {ms : Ec → Int → Res (Out S ρ)} {k : Out S ρ → Res ω}
    (hexm : ∀ c, Kn c = true → PySem.W.exmOne K (.ref (He.ga K c.name)) cv = some (L c) ∧ ErrC K mg fI c)
    (hX : ∀ σ' I' C', Ex I I' → Pe σ' I' C' → XH X E K I' C')
    (hP : ∀ σ' I' I2 C', Ex I' I2 → Pe σ' I' C' → Pe σ' I2 C')
    (hm : Post ((tryR Kn L mb ms).bind k) Q X)
    (body : ∀ (N : L2.St → Hp → Prop) (W : WX), (∀ σ' I' C', Ex I I' → Pe σ' I' C' → XH (Xb Kn L ms k Q X) (WE W σ') K I' C') →
      Post mb (fun o => match o with
        | .nx s' => ∀ σ2 I3 C3 H3, Ex I I3 → St I3 C3 H3 → P s' σ2 I3 C3 → N σ2 H3
        | o => Post (k o) Q X) (Xb Kn L ms k Q X) → tb W { D with nx := N } σ H)
    (suite : ∀ (N : L2.St → Hp → Prop) c j a cls d σ' I' C' H', Kn c = true → Cg K mg fI I' cls d c j → Ex I I' → St I' C' H' → Pe σ' I' C' → Post (ms c j) (fun o => match o with
        | .nx s' => ∀ (σ2 : L2.St) I3 C3 H3, Ex I' I3 → St I3 C3 H3 → P s' (σ2.set i none) I3 C3 → N (σ2.set i none) H3
        | o => Post (k o) Q X) X → ts a cls d { nx := fun σ1 H1 => N (σ1.set i none) H1, rt := D.rt, bk := fun σ1 H1 => D.bk (σ1.set i none) H1, ct := fun σ1 H1 => D.ct (σ1.set i none) H1 } (σ'.set i (some (.ref a))) H')
    (next : ∀ s' σ2 I3 C3 H3, Ex I I3 → St I3 C3 H3 → P s' σ2 I3 C3 → Post (k (.nx s')) Q X → tz D σ2 H3) :
    Evl.tCut (tTry K cv i tb ts (fun cls d _ H => E cls d H)) tz D σ H := by
  refine ⟨fun σ2 H3 => ∃ s' I3 C3, Ex I I3 ∧ St I3 C3 H3 ∧ P s' σ2 I3 C3 ∧ Post (k (.nx s')) Q X, ?_, fun σ2 H3 ⟨s', I3, C3, e3, s3, p, q⟩ => next s' σ2 I3 C3 H3 e3 s3 p q⟩
  refine body _ _ (fun σ' I' C' e p c j hx d I2 H2 e2 s2 hd => ?_) ?_
  · obtain ⟨kn, hx⟩ := hx
    obtain ⟨he, x⟩ := hexm c kn
    refine ⟨L c, he, fun hl a ha => ?_, fun hl => ?_⟩
    · rw [if_pos hl] at hx
      refine suite _ c j a _ (some d) σ' I2 C' H2 kn ⟨x, rfl, d, rfl, hd⟩ (e.trans e2) s2 (hP _ _ _ _ e2 p) ((Post.bind hx).mono (fun o z => ?_) fun _ _ z => z)
      cases o with
      | nx s' => exact fun (σ2 : L2.St) I3 C3 H3 e3 s3 pp => ⟨s', I3, C3, e.trans (e2.trans e3), s3, pp, z⟩
      | br s' => exact z
      | rt r => exact z
    · rw [if_neg (by rw [hl]; decide)] at hx
      exact hX σ' I' C' e p c j hx d I2 H2 e2 s2 hd
  · cases mb with
    | ok o =>
      have z : Post (k o) Q X := hm
      cases o with
      | nx s' => exact fun σ2 I3 C3 H3 e3 s3 pp => ⟨s', I3, C3, e3, s3, pp, z⟩
      | br s' => exact z
      | rt r => exact z
    | exc c j =>
      show Xb Kn L ms k Q X c j
      by_cases kn : Kn c = true
      · refine ⟨kn, ?_⟩
        have z : Post ((if Kn c = true then (if L c = true then ms c j else Res.exc c j) else .bad).bind k) Q X := hm
        rw [if_pos kn] at z
        by_cases hl : L c = true
        · rw [if_pos hl] at z
          rw [if_pos hl]
          exact z
        · rw [if_neg hl] at z
          rw [if_neg hl]
          exact z
      · have z : Post ((if Kn c = true then (if L c = true then ms c j else Res.exc c j) else .bad).bind k) Q X := hm
        rw [if_neg kn] at z
        exact z.elim
    | bad => exact hm
/-! the law -/
def spLaw (K : PySem.W.Frag) (m : List Int → Res Bool) : Sp := fun vs H Q _ => ∃ (a : Addr) (ns : List Int), vs = [.ref a] ∧ SqL K H a (ns.map V.int) ∧ ns.length ≤ 1000 ∧ Post (m ns) (fun b => ∀ v H', v = V.bl b → Q v H') XF
theorem law_start {a : Addr} {ns : List Int} (hS : SqL K H a (ns.map V.int)) (hz : ns.length ≤ 1000) : ∃ I0, St I0 Z H ∧ (pW K pI).r ns (.ref a) I0 Z := by
  refine ⟨fun b => if b = a then H a else none, ⟨fun b o h => ?_, exz, fun _ => .inr rfl⟩, a, ns.map V.int, rfl, ?_, ?_, A2.of_map (f := fun x u => pI.r x u _ Z) (h := V.int) (fun _ => rfl) ns⟩
  · by_cases q : b = a
    · rw [if_pos q] at h
      rw [q]
      exact h
    · rw [if_neg q] at h
      cases h
  · rcases hS with (h | ⟨o, h⟩) | h
    · exact .inl (.inl (by show (if a = a then H a else none) = _; rw [if_pos rfl]; exact h))
    · exact .inl (.inr ⟨o, by show (if a = a then H a else none) = _; rw [if_pos rfl]; exact h⟩)
    · exact .inr h
  · rw [List.length_map]
    exact Nat.le_trans hz (by decide)
def poolR (ns : List Int) : Res Pl := .ok (0, 0, 0, cut ns none (some 63))
@[simp] theorem poolR_eq (ns : List Int) : poolR ns = .ok (0, 0, 0, cut ns none (some 63)) := rfl
def spPool (K : PySem.W.Frag) : Sp := fun vs H Q _ => ∃ (I C : Hp) (ns : List Int) (v : V), vs = [v] ∧ St I C H ∧ (pW K pI).r ns v I Z ∧
  ∀ p ws I2 H2, Ex I I2 → C p = none → St I2 (upd C p (.lst ws)) H2 → pM.r (0, 0, 0, cut ns none (some 63)) ws I2 Z → Q (.ref p) H2
theorem n_lstP {A : Rt α} [It A] {tr : TA} {m : Res α} (h : EvA E K tr σ I C m A) (hn : A.n ≤ 100) (s : St I C H) {Q : VK} (q : Post m (fun a => ∀ p ws I2 H2, Ex I I2 → C p = none → St I2 (upd C p (.lst ws)) H2 → A.r a ws I2 Z → Q (.ref p) H2) (PX E K I C)) : tLst tr σ H Q :=
  h I C H (Ex.refl _) (Ex.refl _) s _ (q.mono (fun a p vs I2 H2 e2 s2 rv => ⟨by rw [A.len rv]; exact Nat.le_trans hn (by decide), fun t ht => p t vs I2 _ e2 (s2.c.free ht) (s2.newC ht) (It.im rv)⟩) fun _ _ z => z)
theorem q_mkpool {i j : Nat} {v : V} {ns : List Int} {k : Pl → Res ω} (hv : σ[j]? = some (some v)) (hr : (pW K pI).r ns v I Z) (s : St I C H) (hm : Post ((poolR ns).bind k) Q XF)
    (next : ∀ y p ws I2 C2 H2, Ex I I2 → St I2 C2 H2 → C2 p = some (.lst ws) → pM.r y ws I2 Z → Post (k y) Q XF → tz D (σ.set i (some (.ref p))) H2) : tSeq (tAsg (tCall (spPool K) [] E (tCons (tVar j) tNil)) (gName i)) tz D σ H :=
  ⟨v, hv, I, C, ns, v, rfl, s, hr, fun p ws I2 H2 e hp s2 hx => next _ p ws I2 _ H2 e s2 upd_same hx hm⟩
/-! a list that was not there at B -/
def pLn (B : Hp) (R : Rp α) : Rp (List α) := ⟨fun xs v I C => (pL R).r xs v I C ∧ ∀ a, v = .ref a → B a = none, fun e e' h => ⟨(pL R).mono e e' h.1, h.2⟩⟩
instance {B : Hp} {R : Rp α} [Im R] : Im (pLn B R) := ⟨fun h => ⟨Im.im h.1, h.2⟩⟩
instance {B : Hp} {R : Rp α} : NN (pLn B R) := ⟨fun h => NN.nn h.1⟩
instance {B : Hp} {R : Rp α} : TyR K (pLn B R) "list" := ⟨fun s h => TyR.ty s h.1⟩
theorem x_n2l {B : Hp} {R : Rp α} {m : Res (List α)} (h : EvX E K te σ I C m (pLn B R)) : EvX E K te σ I C m (pL R) := fun I1 C1 H1 e e' s Q q =>
  h I1 C1 H1 e e' s Q (q.mono (fun a p v I2 H2 e2 s2 rv => p v I2 H2 e2 s2 rv.1) fun _ _ z => z)
/-- f(a ..) hands back a thing of R, which looks at what was known before -/
def spPd (K : PySem.W.Frag) {α β : Type} (T : Rt α) (m : α → Res β) (R : Hp → Rp β) : Sp := fun vs H Q E => ∃ (I C : Hp) (a : α), St I C H ∧ T.r a vs I C ∧ Post (m a) (PQ (R I) I C Q) (PX E K I C)
theorem x_callD {T : Rt α} {f : α → Res β} {R : Hp → Rp β} {m : Res α} (hR : ∀ {I I2 a v I3 C3}, Ex I I2 → (R I2).r a v I3 C3 → (R I).r a v I3 C3) (h : EvA E K ta σ I C m T) : EvX E K (tCall (spPd K T f R) [] E ta) σ I C (un f m) (R I) := fun I1 C1 H1 e e' s Q q =>
  h I1 C1 H1 e e' s _ ((Post.bind q).mono (fun a p vs I2 H2 e2 s2 rv => by
    refine ⟨I2, C1, a, s2, by rw [List.append_nil]; exact rv, Post.mono (m := f a) p (fun b z v I3 H3 e3 s3 rw => z v I3 H3 (e2.trans e3) s3 (hR (e.trans e2) rw)) fun c i z => z.mono e2 (Ex.refl _)⟩) fun _ _ z => z)
theorem x_callDS {W : WX} {T : Rt α} {f : α → Res β} {R : Hp → Rp β} {m : Res α} (hR : ∀ {I I2 a v I3 C3}, Ex I I2 → (R I2).r a v I3 C3 → (R I).r a v I3 C3) (h : EvA (WE W σ) K ta σ I C m T) : EvX (WE W σ) K (tCallS (spPd K T f R) (WE W) ta) σ I C (un f m) (R I) := fun I1 C1 H1 e e' s Q q =>
  h I1 C1 H1 e e' s _ ((Post.bind q).mono (fun a p vs I2 H2 e2 s2 rv => ⟨I2, C1, a, s2, rv, Post.mono (m := f a) p (fun b z v I3 H3 e3 s3 rw => z v I3 H3 (e2.trans e3) s3 (hR (e.trans e2) rw)) fun c i z => z.mono e2 (Ex.refl _)⟩) fun _ _ z => z)
theorem paper_up {R : Rp α} {S1 : Rp β} {B B2 : Hp} {x : Str × (List α ⊕ β)} {v : V} {I C : Hp} (e : Ex B B2) (h : (pT (tc pS (t1 (pX (pLn B2 R) S1)))).r x v I C) : (pT (tc pS (t1 (pX (pLn B R) S1)))).r x v I C := by
  obtain ⟨a, vs, h1, h2, u, us, h3, h4, w, h5, h6⟩ := h
  refine ⟨a, vs, h1, h2, u, us, h3, h4, w, h5, ?_⟩
  obtain ⟨x1, x2⟩ := x
  cases x2 with
  | inl xs => exact ⟨h6.1, fun a z => e.free (h6.2 a z)⟩
  | inr b => exact h6
/-- told[1].append(0): the list of the told thing changes, none of what was known before it does -/
theorem q_appN {R : Rp Int} {S1 : Rp β} {B It : Hp} {i : Nat} {told : Str × (List Int ⊕ β)} {v : V} {b : Addr} {us : List V} {k : List Int → Res ω} (hv : σ[i]? = some (some v)) (r : (pT (tc pS (t1 (pX (pLn B R) S1)))).r told v It Z) (et : Ex It I) (eB : Ex B I) (hb : I b = some (.lst us)) (hbt : It b = none)
    (s : St I C H) (hm : Post (((getL told.2).bind fun xs => push xs 0).bind k) Q XF) (next : ∀ xs I3 H3, Ex B I3 → St I3 C H3 → I3 b = some (.lst us) → Post (k xs) Q XF → tz D σ H3) :
    tSeq (tDrop (tBM K "list" rAppend (tOp (rIxT K) (tVar i) (tC (.int ((1 : Nat) : Int)))) (tCons (tC (.int 0)) tNil))) tz D σ H := by
  obtain ⟨a, vs, rfl, h2, u, us2, rfl, h4, w, rfl, h6⟩ := r
  obtain ⟨x1, x2⟩ := told
  cases x2 with
  | inr y => exact hm.elim
  | inl xs =>
    obtain ⟨⟨p, ws, rfl, h7, h8, h9⟩, h10⟩ := h6
    have hp : I p = some (.lst ws) := et _ _ h7
    have hne : b ≠ p := fun z => by
      rw [z, h7] at hbt
      cases hbt
    have hm2 : Post ((push xs 0).bind k) Q XF := hm
    unfold push at hm2
    split at hm2
    · rename_i hlen
      have hl : ws.length < sizeLine := by
        rw [h9.len]
        exact Nat.lt_of_lt_of_le hlen (by decide)
      refine ⟨.ref a, hv, a, [u, .ref p], 1, .ref p, rfl, rfl, .inl (.inl (s.i _ _ (et _ _ h2))), rfl, .inl ⟨rfl, ws, .inl (.inl (s.i _ _ hp))⟩, p, ws, .int 0, rfl, rfl, s.i _ _ hp, hl, ?_⟩
      refine next (xs ++ [0]) (fun c => if c = p then none else I c) _ (fun c o h => ?_) ⟨fun c o h => ?_, fun c o h => ?_, fun c => ?_⟩ ?_ hm2
      · have hc : c ≠ p := fun z => by
          rw [z, h10 p rfl] at h
          cases h
        show (if c = p then none else I c) = some o
        rw [if_neg hc]
        exact eB c o h
      · by_cases hc : c = p
        · rw [if_pos hc] at h
          cases h
        · rw [if_neg hc] at h
          rw [upd_ne hc]
          exact s.i c o h
      · have hc : c ≠ p := fun z => by
          rw [z] at h
          have z2 := s.freeI h
          rw [hp] at z2
          cases z2
        rw [upd_ne hc]
        exact s.c c o h
      · by_cases hc : c = p
        · exact .inl (if_pos hc)
        · rcases s.s c with h | h
          · exact .inl (by show (if c = p then none else I c) = none; rw [if_neg hc]; exact h)
          · exact .inr h
      · show (if b = p then none else I b) = some (.lst us)
        rw [if_neg hne]
        exact hb
    · exact hm2.elim
/-- s_ifr where only what was known at J is kept -/
theorem s_ifrB (P : S → L2.St → Hp → Hp → Prop) {J : Hp} (eJ : Ex J I) {tt : TT} {tu tw : TS} {c : Res Bool} {m1 m2 : Res (Out S ρ)} {k : Out S ρ → Res ω} (h : EvT E K tt σ I C c) (s : St I C H) (hX : XH X E K I C) (hm : Post ((ifR c m1 m2).bind k) Q X)
    (h1 : ∀ (N : L2.St → Hp → Prop) I2 H2, Ex I I2 → St I2 C H2 → Post m1 (fun o => match o with
      | .nx s' => ∀ σ2 I3 C3 H3, Ex J I3 → St I3 C3 H3 → P s' σ2 I3 C3 → N σ2 H3
      | o => Post (k o) Q X) X → tu { D with nx := N } σ H2)
    (h2 : ∀ (N : L2.St → Hp → Prop) I2 H2, Ex I I2 → St I2 C H2 → Post m2 (fun o => match o with
      | .nx s' => ∀ σ2 I3 C3 H3, Ex J I3 → St I3 C3 H3 → P s' σ2 I3 C3 → N σ2 H3
      | o => Post (k o) Q X) X → tw { D with nx := N } σ H2)
    (next : ∀ s' σ2 I3 C3 H3, Ex J I3 → St I3 C3 H3 → P s' σ2 I3 C3 → Post (k (.nx s')) Q X → tz D σ2 H3) : Evl.tCut (tIfS tt tu tw) tz D σ H := by
  refine ⟨fun σ2 H3 => ∃ s' I3 C3, Ex J I3 ∧ St I3 C3 H3 ∧ P s' σ2 I3 C3 ∧ Post (k (.nx s')) Q X, ?_, fun σ2 H3 ⟨s', I3, C3, e3, s3, p, q⟩ => next s' σ2 I3 C3 H3 e3 s3 p q⟩
  refine h I C H (Ex.refl _) (Ex.refl _) s _ ((Post.bind (Post.bind hm)).mono (fun b p I2 H2 e2 s2 => ?_) hX)
  cases b with
  | true => exact h1 _ I2 H2 e2 s2 (Post.mono (m := m1) p (fun o z => by
      cases o with
      | nx s' => exact fun σ2 I3 C3 H3 e3 s3 pp => ⟨s', I3, C3, e3, s3, pp, z⟩
      | br s' => exact z
      | rt r => exact z) fun _ _ z => z)
  | false => exact h2 _ I2 H2 e2 s2 (Post.mono (m := m2) p (fun o z => by
      cases o with
      | nx s' => exact fun σ2 I3 C3 H3 e3 s3 pp => ⟨s', I3, C3, e3, s3, pp, z⟩
      | br s' => exact z
      | rt r => exact z) fun _ _ z => z)
/-! data: new lists, one of two -/
theorem de_new {B : Hp} {R : Rp α} {enc : α → PyData} {n : Nat} (d : De K R enc n) : De K (pLn B R) (fun xs => PyData.list (xs.map enc)) (n + 1) :=
  ⟨fun s h => (de_lst d).dp s h.1, fun h => (de_lst d).ly h.1, fun h => (de_lst d).de h.1, (de_lst d).eq⟩
def sEnc (f : α → PyData) (g : β → PyData) : α ⊕ β → PyData
  | .inl a => f a
  | .inr b => g b
theorem de_sum {R : Rp α} {S1 : Rp β} {f : α → PyData} {g : β → PyData} {n m : Nat} (d : De K R f n) (d' : De K S1 g m) (hd : ∀ a b, PyData.eqv (f a) (g b) = false ∧ PyData.eqv (g b) (f a) = false) : De K (pX R S1) (sEnc f g) (max n m) :=
  ⟨fun {a v I C H} s h => by
    cases a with
    | inl a => exact d.dp s h
    | inr a => exact d'.dp s h,
  fun {a v I C} h => by
    cases a with
    | inl a => exact d.ly h
    | inr a => exact d'.ly h,
  fun {a v I C} h => by
    cases a with
    | inl a => exact Nat.le_trans (d.de h) (Nat.le_max_left _ _)
    | inr a => exact Nat.le_trans (d'.de h) (Nat.le_max_right _ _),
  fun a b => by
    cases a with
    | inl a =>
      cases b with
      | inl b =>
        simp only [sEnc, Sum.inl.injEq]
        exact d.eq a b
      | inr b =>
        simp only [sEnc, (hd a b).1]
        exact ⟨fun q => (nomatch q), fun q => (nomatch q)⟩
    | inr a =>
      cases b with
      | inl b =>
        simp only [sEnc, (hd b a).2]
        exact ⟨fun q => (nomatch q), fun q => (nomatch q)⟩
      | inr b =>
        simp only [sEnc, Sum.inr.injEq]
        exact d'.eq a b⟩
theorem oEnc_no {f : α → PyData} {x : PyData} (h : ∀ a, PyData.eqv x (f a) = false ∧ PyData.eqv (f a) x = false) (h0 : PyData.eqv x .none = false ∧ PyData.eqv .none x = false) (o : Option α) : PyData.eqv x (oEnc f o) = false ∧ PyData.eqv (oEnc f o) x = false := by
  cases o with
  | none => exact h0
  | some a => exact h a
/-! isinstance of what may be None, of one of two -/
def isO {α : Type} (b : Bool) : Option α → Bool
  | some _ => b
  | none => false
def isX {α β : Type} (b : Bool) (f : β → Bool) : α ⊕ β → Bool
  | .inl _ => b
  | .inr y => f y
@[simp] theorem isO_some (b : Bool) (a : α) : isO b (some a) = b := rfl
@[simp] theorem isO_none (b : Bool) : isO b (none : Option α) = false := rfl
@[simp] theorem isX_inl (b : Bool) (f : β → Bool) (a : α) : isX b f (.inl a) = b := rfl
@[simp] theorem isX_inr (b : Bool) (f : β → Bool) (y : β) : isX b f (.inr y : α ⊕ β) = f y := rfl
theorem ty_opt {R : Rp α} {n c : String} {b : Bool} [TyR K R n] (hk : kitB n c = some b) (hn : kitB "NoneType" c = some false) {o : Option α} {v : V} {I C H : Hp} (s : St I C H) (r : (pO R).r o v I C) : ∃ t, TyX K H v t ∧ PySem.W.kitOne K t (.type c) = some (isO b o) := by
  cases o with
  | none =>
    have h : v = .non := r
    subst h
    exact ⟨_, .base .non, kit_ty hn⟩
  | some a => exact ⟨_, TyR.ty s r.1, kit_ty hk⟩
theorem o_isiO {R : Rp α} {n c : String} {b : Bool} [TyR K R n] (hk : kitB n c = some b) (hn : kitB "NoneType" c = some false) : OpL E K (rIsi K) (fun p => .ok (isO b p.1)) (tc (pO R) (t1 (pY c))) pB := fun I C H a vs s hv Q q => by
  obtain ⟨v, us, rfl, r, w, rfl, rw⟩ := hv
  have hw : w = .ty c := rw
  subst hw
  obtain ⟨t, h1, h2⟩ := ty_opt (K := K) hk hn s r
  exact ⟨v, .ty c, _, _, _, rfl, .ty c, h1, h2, PQ.now q s rfl⟩
theorem o_isiXO {R : Rp α} {S1 : Rp β} {n n2 c : String} {b b2 : Bool} [TyR K R n] [TyR K S1 n2] (hk : kitB n c = some b) (hk2 : kitB n2 c = some b2) (hn : kitB "NoneType" c = some false) : OpL E K (rIsi K) (fun p => .ok (isX b (isO b2) p.1)) (tc (pX R (pO S1)) (t1 (pY c))) pB := fun I C H a vs s hv Q q => by
  obtain ⟨v, us, rfl, r, w, rfl, rw⟩ := hv
  have hw : w = .ty c := rw
  subst hw
  obtain ⟨x, y⟩ := a
  cases x with
  | inl x => exact ⟨v, .ty c, _, _, b, rfl, .ty c, TyR.ty (R := R) s r, kit_ty hk, PQ.now q s rfl⟩
  | inr x =>
    obtain ⟨t, h1, h2⟩ := ty_opt (K := K) (R := S1) hk2 hn s r
    exact ⟨v, .ty c, _, _, _, rfl, .ty c, h1, h2, PQ.now q s rfl⟩
theorem o_isiX {R : Rp α} {S1 : Rp β} {n n2 c : String} {b b2 : Bool} [TyR K R n] [TyR K S1 n2] (hk : kitB n c = some b) (hk2 : kitB n2 c = some b2) : OpL E K (rIsi K) (fun p => .ok (isX b (fun _ => b2) p.1)) (tc (pX R S1) (t1 (pY c))) pB := fun I C H a vs s hv Q q => by
  obtain ⟨v, us, rfl, r, w, rfl, rw⟩ := hv
  have hw : w = .ty c := rw
  subst hw
  obtain ⟨x, y⟩ := a
  cases x with
  | inl x => exact ⟨v, .ty c, _, _, b, rfl, .ty c, TyR.ty (R := R) s r, kit_ty hk, PQ.now q s rfl⟩
  | inr x => exact ⟨v, .ty c, _, _, b2, rfl, .ty c, TyR.ty (R := S1) s r, kit_ty hk2, PQ.now q s rfl⟩
end
end Sd

namespace Sd
open PySem PySem.Spec PyProof.Rows L2
/-! ### the head: own errors, read by a Bool -/
def oexB (K : PySem.W.Frag) (C : Addr) : Bool := match K.lookup C with
  | some ⟨.type "type", _, .cls cd, sl⟩ => (match cd.mro, sl.toList with
    | .ref C1 :: bm, [_, _, _, _, some (.builtin n), _] => decide (C1 = C) && (decide (n = "ValueError.__new__") && (!cd.hasDel && (cd.hasDict && PySem.HandSPX.refsVE bm)))
    | _, _ => false)
  | _ => false
theorem oexB_ok {K : PySem.W.Frag} {C : Addr} (h : oexB K C = true) : ∃ nm q N bs bm sn sub ab col dd k0 k1 k2 k3 k5, K.lookup C = some (excClassObj nm q C N bs bm true sn sub ab col dd k0 k1 k2 k3 k5 "ValueError.__new__") ∧ PySem.HandSPX.refsVE bm = true := by
  unfold oexB at h
  split at h
  · rename_i dd cd sl ho
    split at h
    · rename_i C1 bm k0 k1 k2 k3 n k5 e1 e2
      obtain ⟨h1, h⟩ := Bool.and_eq_true_iff.mp h
      obtain ⟨h2, h⟩ := Bool.and_eq_true_iff.mp h
      obtain ⟨h3, h⟩ := Bool.and_eq_true_iff.mp h
      obtain ⟨h4, h5⟩ := Bool.and_eq_true_iff.mp h
      have h1 := of_decide_eq_true h1
      have h2 := of_decide_eq_true h2
      subst h1 h2
      obtain ⟨nm, bs, mro, ns, qn, hd, sn, sub, ab, col, del⟩ := cd
      simp only [Bool.not_eq_true'] at e1 e2 h3 h4
      subst e1 h3 h4
      obtain ⟨l⟩ := sl
      simp only at e2
      subst e2
      exact ⟨_, _, _, _, _, _, _, _, _, _, _, _, _, _, _, ho, h5⟩
    · cases h
  · cases h
def errB (K : PySem.W.Frag) (fI : Addr) (c : Ec) : Bool :=
  oexB K (He.ga K c.name) && (decide (PySem.W.findIn K (.ref (He.ga K c.name)) "__setattr__" = some (some (.builtin "object.__setattr__"))) && (decide (PySem.W.typeIn K (.ref (He.ga K c.name)) = some (.type "type")) && (PySem.W.keepIn K (.ref (He.ga K c.name)) &&
    (decide (PySem.W.findIn K (.ref (He.ga K c.name)) "__init__" = some (some (.ref fI))) && (decide (PySem.W.typeIn K (.ref fI) = some (.type "function")) && (decide (PySem.W.findIn K (.ref (He.ga K c.name)) "at" = some none) && (xfB K (He.ga K c.name) &&
      (decide (PySem.W.findIn K (.ref (He.ga K c.name)) "__class__" = some (some (.builtin "object.__class__"))) && (decide (PySem.W.specialIn K (.builtin "object.__class__") "__get__" = some (some (.builtin "getset_descriptor.__get__"))) && (decide (PySem.W.takesIn K (.builtin "object.__class__") = some true) &&
        (decide (PySem.W.mroIn K (He.ga K c.name) (.type "object") = some true) && (decide (PySem.W.kitOne K (.ref (He.ga K c.name)) (.type "ValueError") = some true) && He.eqO (PySem.W.nsIn K mainGlobals c.name) (some (some (.ref (He.ga K c.name))))))))))))))))
theorem errB_ok {K : PySem.W.Frag} {h : Heap} {mg : Str → Option Value} {fI : Addr} {c : Ec} (X : K.In h) (G : h.Ns mainGlobals mg) (e : errB K fI c = true) : ErrC K mg fI c := by
  unfold errB at e
  obtain ⟨h1, e⟩ := Bool.and_eq_true_iff.mp e
  obtain ⟨h2, e⟩ := Bool.and_eq_true_iff.mp e
  obtain ⟨h3, e⟩ := Bool.and_eq_true_iff.mp e
  obtain ⟨h4, e⟩ := Bool.and_eq_true_iff.mp e
  obtain ⟨h5, e⟩ := Bool.and_eq_true_iff.mp e
  obtain ⟨h6, e⟩ := Bool.and_eq_true_iff.mp e
  obtain ⟨h7, e⟩ := Bool.and_eq_true_iff.mp e
  obtain ⟨h8, e⟩ := Bool.and_eq_true_iff.mp e
  obtain ⟨h9, e⟩ := Bool.and_eq_true_iff.mp e
  obtain ⟨ha, e⟩ := Bool.and_eq_true_iff.mp e
  obtain ⟨hb, e⟩ := Bool.and_eq_true_iff.mp e
  obtain ⟨hc, e⟩ := Bool.and_eq_true_iff.mp e
  obtain ⟨hd, he⟩ := Bool.and_eq_true_iff.mp e
  have xf := xfB_ok h8
  exact ⟨⟨oexB_ok h1, of_decide_eq_true h2, xf.exC, of_decide_eq_true h3, h4⟩, of_decide_eq_true h5, of_decide_eq_true h6, PySem.W.mg_of X G (He.eqO_ok he), of_decide_eq_true h7, xf,
    ⟨xf.ga, xf.gg, xf.exC, xf.hdC, of_decide_eq_true h9, of_decide_eq_true ha, of_decide_eq_true hb, of_decide_eq_true hc⟩, of_decide_eq_true hd⟩
def errsB (cs : List Ec) (K : PySem.W.Frag) : Bool := cs.all (fun c => errB K (He.fAd K ("DeskError", some "__init__")) c) &&
  cs.all fun c => cs.all fun b => decide (PySem.W.kitOne K (.ref (He.ga K c.name)) (.ref (He.ga K b.name)) = some (isaE c b)) && decide (PySem.W.exmOne K (.ref (He.ga K c.name)) (.ref (He.ga K b.name)) = some (isaE c b))
theorem errsB_ok {cs : List Ec} {K : PySem.W.Frag} {h : Heap} {mg : Str → Option Value} (X : K.In h) (G : h.Ns mainGlobals mg) (e : errsB cs K = true) :
    (∀ c, c ∈ cs → ErrC K mg (He.fAd K ("DeskError", some "__init__")) c) ∧ (∀ c b, c ∈ cs → b ∈ cs → PySem.W.kitOne K (.ref (He.ga K c.name)) (.ref (He.ga K b.name)) = some (isaE c b)) ∧ ∀ c b, c ∈ cs → b ∈ cs → PySem.W.exmOne K (.ref (He.ga K c.name)) (.ref (He.ga K b.name)) = some (isaE c b) := by
  obtain ⟨h1, h2⟩ := Bool.and_eq_true_iff.mp e
  have h1 := List.all_eq_true.mp h1
  have h2 := List.all_eq_true.mp h2
  refine ⟨fun c hc => errB_ok X G (h1 c hc), fun c b hc hb => ?_, fun c b hc hb => ?_⟩
  · exact of_decide_eq_true (Bool.and_eq_true_iff.mp (List.all_eq_true.mp (h2 c hc) b hb)).1
  · exact of_decide_eq_true (Bool.and_eq_true_iff.mp (List.all_eq_true.mp (h2 c hc) b hb)).2
end Sd

namespace Sd
open PySem L2
/-- turns enough for any while here (not to be reckoned with) -/
noncomputable def fuel : Nat := Classical.choose (⟨1000000, rfl⟩ : ∃ n : Nat, n = 1000000)
theorem fuel_eq : fuel = 1000000 := Classical.choose_spec (⟨1000000, rfl⟩ : ∃ n : Nat, n = 1000000)
section
variable {E : XK} {K : PySem.W.Frag} {σ : L2.St} {I I' C C' H B C0 : Hp} {α β γ μ ω S ρ : Type} {R : Rp α} {S1 : Rp β} {te ta tb : TE} {tt : TT} {tz tu tw : TS} {D : Ends} {Q : ω → Prop} {X : Ec → Int → Prop} {p q : Addr}
/-! great ints -/
def rMulW (a b : Int) : Res Int := if a.natAbs.log2 + b.natAbs.log2 < 1000000 then .ok (a * b) else .bad
def rDivW (a b : Int) : Res Int := if 0 < b ∧ b.natAbs.log2 < 9000 then .ok (a / b) else .bad
def rModN (a b : Int) : Res Int := if b ≠ 0 then .ok (a.fmod b) else .bad
theorem rMulW_ok {a b : Int} (h : a.natAbs.log2 + b.natAbs.log2 < 1000000) : rMulW a b = .ok (a * b) := if_pos h
theorem rDivW_ok {a b : Int} (h : 0 < b ∧ b.natAbs.log2 < 9000) : rDivW a b = .ok (a / b) := if_pos h
theorem rModN_ok {a b : Int} (h : b ≠ 0) : rModN a b = .ok (a.fmod b) := if_pos h
theorem o_mulW : Op2 E K (rI CMulW fun i j => .int (i * j)) rMulW pI pI pI := fun I C H a b x y s hx hy Q q => by
  unfold rMulW at q
  split at q
  · rename_i h
    exact ⟨a, b, hx, hy, h, PQ.now q s rfl⟩
  · exact q.elim
theorem o_fdivW : Op2 E K (rI CDivW fun i j => .int (i / j)) rDivW pI pI pI := fun I C H a b x y s hx hy Q q => by
  unfold rDivW at q
  split at q
  · rename_i h
    exact ⟨a, b, hx, hy, h, PQ.now q s rfl⟩
  · exact q.elim
theorem o_modN : Op2 E K (rI (fun _ j => j ≠ 0) fun i j => .int (i.fmod j)) rModN pI pI pI := fun I C H a b x y s hx hy Q q => by
  unfold rModN at q
  split at q
  · rename_i h
    exact ⟨a, b, hx, hy, h, PQ.now q s rfl⟩
  · exact q.elim
theorem o_isNU : Op2 E K (fun x y H Q => y = .non ∧ Q (.bl (decide (x = .non))) H) (fun _ _ => .ok true) pN pN pB := fun I C H a b x y s hx hy Q q => by
  have hx : x = .non := hx
  subst hx
  exact ⟨hy, PQ.now q s rfl⟩
theorem o_notNU : Op2 E K (fun x y H Q => y = .non ∧ Q (.bl (!decide (x = .non))) H) (fun _ _ => .ok false) pN pN pB := fun I C H a b x y s hx hy Q q => by
  have hx : x = .non := hx
  subst hx
  exact ⟨hy, PQ.now q s rfl⟩
/-! xs[::-1] -/
def revR (xs : List α) : Res (List α) := .ok xs.reverse
@[simp] theorem revR_eq (xs : List α) : revR xs = .ok xs.reverse := rfl
theorem A2.reverse {f : α → V → Prop} : ∀ {xs : List α} {vs : List V}, A2 f xs vs → A2 f xs.reverse vs.reverse
  | _, _, .nil => .nil
  | _, _, .cons r t => by
    rw [List.reverse_cons, List.reverse_cons]
    exact (A2.reverse t).append (.one r)
theorem n_rev {m : Res (List α)} (h : EvX E K te σ I C m (pV R)) : EvN E K (tRevL K te) σ I C (un revR m) R := fun I1 C1 H1 e e' s Q q =>
  h I1 C1 H1 e e' s _ ((Post.bind q).mono (fun a p x I2 H2 e2 s2 rx => by
    obtain ⟨b, us, rfl, h2, h3, h4⟩ := pV.at s2 rx
    exact ⟨b, us, rfl, .inl (.inl h2), PN.new (PN.up e2 p) s2 h4.reverse (by rw [List.length_reverse]; exact h3)⟩) fun _ _ z => z)
theorem x_rev [Im R] {m : Res (List α)} (h : EvX E K te σ I C m (pV R)) : EvX E K (tRevL K te) σ I C (un revR m) (pL R) := x_own (n_rev h)
/-! n = xs.pop(), n = xs.pop()[k] -/
theorem q_pop [Im R] {i j : Nat} {xs : List α} {vs : List V} {k : α × List α → Res ω} (hv : σ[i]? = some (some (.ref p))) (hc : C p = some (.lst vs)) (hl : vs.length ≤ sizeLine) (hr : A2 (fun x u => R.r x u I Z) xs vs) (s : St I C H) (hm : Post ((popR xs).bind k) Q X)
    (next : ∀ a v vs' I2 C2 H2, Ex I I2 → St I2 C2 H2 → C2 p = some (.lst vs') → (∀ q, q ≠ p → C2 q = C q) → vs'.length ≤ sizeLine → A2 (fun x u => R.r x u I2 Z) a.2 vs' → R.r a.1 v I2 Z → Post (k a) Q X → tz D (σ.set j (some v)) H2) :
    tSeq (tAsg (tBM0 K "list" rPop (tVar i)) (gName j)) tz D σ H :=
  e_pop hv hc hl hr s hm fun a v C2 H2 s2 hc2 k2 hl2 hr2 rv hm2 => next a v _ I C2 H2 (Ex.refl _) s2 hc2 k2 hl2 hr2 rv hm2
theorem q_popk {T : Rt α} [It T] [Im S1] {i j l : Nat} {f : α → β} {xs : List α} {vs : List V} {k : α × List α → Res ω} (jj : Pj T l f S1) (hv : σ[i]? = some (some (.ref p))) (hc : C p = some (.lst vs)) (hl : vs.length ≤ sizeLine) (hr : A2 (fun x u => (pT T).r x u I Z) xs vs) (s : St I C H) (hm : Post ((popR xs).bind k) Q X)
    (next : ∀ a v vs' I2 C2 H2, Ex I I2 → St I2 C2 H2 → C2 p = some (.lst vs') → (∀ q, q ≠ p → C2 q = C q) → vs'.length ≤ sizeLine → A2 (fun x u => (pT T).r x u I2 Z) a.2 vs' → S1.r (f a.1) v I2 Z → Post (k a) Q X → tz D (σ.set j (some v)) H2) :
    tSeq (tAsg (tOp (rIxT K) (tBM0 K "list" rPop (tVar i)) (tC (.int (l : Int)))) (gName j)) tz D σ H :=
  e_pop hv hc hl hr s hm fun a v C2 H2 s2 hc2 k2 hl2 hr2 rv hm2 => o_pj (E := EZ) (K := K) jj I C2 H2 a.1 v s2 (Im.im rv) _ fun w I3 H3 e3 s3 rw =>
    next a w _ I3 C2 H3 e3 s3 hc2 k2 hl2 (hr2.imp fun _ _ h => (pT T).mono e3 (Ex.refl _) h) (Im.im rw) hm2
/-! a list that is read, walked -/
theorem i_view [Im R] {i : Nat} {v : V} {xs : List α} (hv : σ[i]? = some (some v)) (h : (pV R).r xs v I B) (hB : Ex B C) :
    EvI E K (iList K (tVar i)) σ I C (fun C3 => Ex B C3) (.ok xs) R := fun I1 C1 H1 e e' s Kt q => by
  obtain ⟨a, vs, rfl, h2, h3, h4⟩ := h
  refine ⟨.ref a, hv, a, rfl, ⟨vs, .inl (.inl (h2.elim (fun z => s.i a _ (e a _ z)) fun z => s.c a _ (e' a _ (hB a _ z))))⟩, ?_⟩
  have hn := h4.len
  refine q (Itl K a) (fun H => SqL K H a vs) (YAt vs) I1 H1 (Ex.refl _) s (by omega) (by rw [← hn]; exact walk_list) (fun I3 C3 H3 e3 k3 s3 => .inl (.inl (h2.elim (fun z => s3.i a _ (e3 a _ (e a _ z))) fun z => s3.c a _ (k3 a _ z)))) (fun i x v' I3 C3 H3 H4 hx e3 _ s3 y => ?_)
  obtain ⟨rfl, y⟩ := y
  obtain ⟨w, hw, r⟩ := h4.get' hx
  rw [hw] at y
  cases y
  exact ⟨I3, Ex.refl _, s3, R.to (e.trans e3) r⟩
end
end Sd

namespace Sd
open PySem L2
/-! ### plain laws of the mirrors -/
/-- m comes to an answer that is so -/
abbrev Is {α : Type} (m : Res α) (Q : α → Prop) : Prop := Post m Q XF
theorem is_iff {α : Type} {m : Res α} {Q : α → Prop} : Is m Q ↔ ∃ a, m = .ok a ∧ Q a := by
  cases m with
  | ok a => exact ⟨fun h => ⟨a, rfl, h⟩, fun ⟨b, e, h⟩ => by cases e; exact h⟩
  | exc c i => exact ⟨fun h => h.elim, fun ⟨b, e, h⟩ => by cases e⟩
  | bad => exact ⟨fun h => h.elim, fun ⟨b, e, h⟩ => by cases e⟩
theorem Is.ok {α : Type} {a : α} {Q : α → Prop} (h : Q a) : Is (.ok a) Q := h
theorem Is.eq {α : Type} {m : Res α} {a : α} (h : Is m (· = a)) : m = .ok a := by
  obtain ⟨b, e, h⟩ := is_iff.mp h
  rw [e, h]
theorem Is.of {α : Type} {m : Res α} {a : α} {Q : α → Prop} (e : m = .ok a) (h : Q a) : Is m Q := by
  rw [e]
  exact h
theorem Is.get {α : Type} {m : Res α} {Q : α → Prop} (h : Is m Q) : ∃ a, m = .ok a ∧ Q a := is_iff.mp h
theorem Is.bind {α β : Type} {m : Res α} {k : α → Res β} {Q : α → Prop} {R : β → Prop} (h : Is m Q) (hk : ∀ a, Q a → Is (k a) R) : Is (m.bind k) R := by
  obtain ⟨a, e, h⟩ := h.get
  rw [e]
  exact hk a h
theorem Is.imp {α : Type} {m : Res α} {Q R : α → Prop} (h : Is m Q) (hk : ∀ a, Q a → R a) : Is m R := Post.mono h hk fun _ _ z => z
section
variable {α β γ S ρ : Type}
/-- a loop keeps a word -/
theorem loopN_inv {f : α → S → Res S} (J : Nat → S → Prop) {xs : List α} {s : S} (h0 : J 0 s) (h : ∀ i x s, xs[i]? = some x → J i s → Is (f x s) (J (i + 1))) : Is (loopN f xs s) (J xs.length) := by
  induction xs generalizing J s with
  | nil => exact h0
  | cons x xs ih =>
    rw [loopN_cons]
    refine Is.bind (h 0 x s rfl h0) fun s' h1 => ?_
    exact ih (fun i => J (i + 1)) h1 fun i y s hy hj => h (i + 1) y s hy hj
theorem loopN_pure {f : α → S → Res S} {g : S → α → S} {xs : List α} {s : S} (h : ∀ x s, f x s = .ok (g s x)) : loopN f xs s = .ok (xs.foldl g s) := loopN_ok fun x _ s => h x s
/-- a loop that may return: the first turn that does -/
theorem loopR_find {f : α → Unit → Res (Out Unit ρ)} {g : α → Option ρ} : ∀ {xs : List α}, (∀ x, x ∈ xs → f x () = .ok (match g x with | some r => .rt r | none => .nx ())) → loopR f xs () = .ok (match xs.findSome? g with | some r => .rt r | none => .nx ())
  | [], _ => rfl
  | x :: xs, h => by
    rw [loopR_cons, h x List.mem_cons_self, List.findSome?_cons]
    cases q : g x with
    | some r => rfl
    | none => exact loopR_find fun y hy => h y (List.mem_cons_of_mem _ hy)
theorem loopR_any {f : α → Unit → Res (Out Unit ρ)} {p : α → Bool} {r : ρ} : ∀ {xs : List α}, (∀ x, x ∈ xs → f x () = .ok (if p x = true then .rt r else .nx ())) → loopR f xs () = .ok (if xs.any p = true then .rt r else .nx ())
  | [], _ => rfl
  | x :: xs, h => by
    rw [loopR_cons, h x List.mem_cons_self, List.any_cons]
    cases q : p x with
    | true => rfl
    | false => exact loopR_any fun y hy => h y (List.mem_cons_of_mem _ hy)
theorem filR_id {p : α → Res Bool} {q : α → Bool} {xs : List α} (h : ∀ x, x ∈ xs → p x = .ok (q x)) : filR p (fun x => .ok x) xs = .ok (xs.filter q) := by
  rw [filR_ok (g := fun x => x) h fun _ _ _ => rfl, List.map_id']
theorem findSome_none {g : α → Option β} {xs : List α} (h : xs.findSome? g = none) : ∀ x, x ∈ xs → g x = none := List.findSome?_eq_none_iff.mp h
theorem findSome_some {g : α → Option β} {b : β} : ∀ {xs : List α}, xs.findSome? g = some b → ∃ x, x ∈ xs ∧ g x = some b
  | [], h => by cases h
  | x :: xs, h => by
    rw [List.findSome?_cons] at h
    cases q : g x with
    | some c =>
      rw [q] at h
      exact ⟨x, List.mem_cons_self, q.trans h⟩
    | none =>
      rw [q] at h
      obtain ⟨y, hy, e⟩ := findSome_some h
      exact ⟨y, List.mem_cons_of_mem _ hy, e⟩
/-- a loop that appends -/
theorem loopN_app {f : α → List β → Res (List β)} {q : α → Bool} {g : α → β} : ∀ {xs : List α} {acc : List β}, (∀ x a, x ∈ xs → a.length < 1000000 → f x a = .ok (if q x = true then a ++ [g x] else a)) → acc.length + xs.length < 1000000 → loopN f xs acc = .ok (acc ++ (xs.filter q).map g)
  | [], acc, _, _ => by rw [List.filter_nil, List.map_nil, List.append_nil]; rfl
  | x :: xs, acc, h, hl => by
    rw [List.length_cons] at hl
    rw [loopN_cons, h x acc List.mem_cons_self (by omega)]
    cases q1 : q x with
    | true =>
      rw [if_pos rfl, Res.bind_ok, loopN_app (fun y a hy => h y a (List.mem_cons_of_mem _ hy)) (by rw [List.length_append, List.length_singleton]; omega), List.filter_cons, if_pos q1, List.map_cons, List.append_assoc]
      rfl
    | false =>
      rw [if_neg (by decide), Res.bind_ok, loopN_app (fun y a hy => h y a (List.mem_cons_of_mem _ hy)) (by omega), List.filter_cons, if_neg (by rw [q1]; decide)]
theorem mem_enumF {xs : List α} {y : Int × α} : y ∈ enumF 0 xs ↔ ∃ i : Nat, xs[i]? = some y.2 ∧ y.1 = (i : Int) := by
  rw [List.mem_iff_getElem?]
  constructor
  · rintro ⟨i, h⟩
    rw [enumF_get] at h
    cases q : xs[i]? with
    | none =>
      rw [q] at h
      cases h
    | some x =>
      rw [q] at h
      cases h
      exact ⟨i, q, by simp⟩
  · rintro ⟨i, h1, h2⟩
    refine ⟨i, ?_⟩
    rw [enumF_get, h1]
    obtain ⟨a, b⟩ := y
    simp only at h2
    subst h2
    simp
theorem enumF_lt : ∀ (xs : List α) (k : Int), (enumF k xs).Pairwise fun a b => a.1 < b.1
  | [], _ => .nil
  | x :: xs, k => by
    rw [enumF, List.pairwise_cons]
    refine ⟨fun y hy => ?_, enumF_lt xs (k + 1)⟩
    obtain ⟨i, h⟩ := List.mem_iff_getElem?.mp hy
    rw [enumF_get] at h
    cases q : xs[i]? with
    | none =>
      rw [q] at h
      cases h
    | some z =>
      rw [q] at h
      cases h
      dsimp only
      omega
/-- a loop that might return, but does not -/
theorem loopR_inv {f : α → S → Res (Out S ρ)} {J : S → Prop} : ∀ {xs : List α} {s : S}, J s → (∀ x s, x ∈ xs → J s → Is (f x s) fun o => ∃ s', o = .nx s' ∧ J s') → Is (loopR f xs s) fun o => ∃ s', o = .nx s' ∧ J s'
  | [], s, h0, _ => ⟨s, rfl, h0⟩
  | x :: xs, s, h0, h => by
    rw [loopR_cons]
    refine Is.bind (h x s List.mem_cons_self h0) fun o ⟨s', e, h1⟩ => ?_
    subst e
    exact loopR_inv h1 fun y s hy => h y s (List.mem_cons_of_mem _ hy)
theorem ix_nat {xs : List α} {i : Nat} {x : α} (h : xs[i]? = some x) : ix xs (i : Int) = .ok x := by
  unfold ix
  rw [if_pos (by omega), Int.toNat_natCast, h]
theorem ix_get {xs : List α} {i : Int} (h0 : 0 ≤ i) (h1 : i < xs.length) : ∃ x, ix xs i = .ok x ∧ xs[i.toNat]? = some x := by
  obtain ⟨n, rfl⟩ := Int.eq_ofNat_of_zero_le h0
  have hn : n < xs.length := by omega
  exact ⟨xs[n], ix_nat (by simp [hn]), by simp [hn]⟩
theorem ix_getD {xs : List α} {i : Int} {d : α} (h0 : 0 ≤ i) (h1 : i < xs.length) : ix xs i = .ok (xs.getD i.toNat d) := by
  obtain ⟨x, e, h⟩ := ix_get h0 h1
  rw [e, List.getD_eq_getElem?_getD, h]
  rfl
theorem setR_nat {xs : List α} {i : Int} {x : α} (h0 : 0 ≤ i) (h1 : i < xs.length) : setR xs i x = .ok (xs.set i.toNat x) := by
  unfold setR ixN
  rw [if_pos h0, if_pos h1]
theorem cut_lo {xs : List α} {k : Int} (h : 0 ≤ k) : cut xs none (some k) = xs.take k.toNat := by
  unfold cut
  rw [HT.sIx_none]
  show (xs.drop 0).take ((if k < 0 then (k + (xs.length : Int)).toNat else min k.toNat xs.length) - 0) = _
  rw [if_neg (by omega), List.drop_zero, Nat.sub_zero, ← List.take_eq_take_min]
theorem cut_hi {xs : List α} {k : Int} (h : 0 ≤ k) : cut xs (some k) none = xs.drop k.toNat := by
  unfold cut
  rw [HT.sIx_none]
  show (xs.drop (if k < 0 then (k + (xs.length : Int)).toNat else min k.toNat xs.length)).take (xs.length - (if k < 0 then (k + (xs.length : Int)).toNat else min k.toNat xs.length)) = _
  rw [if_neg (by omega), List.take_of_length_le (by rw [List.length_drop]; exact Nat.le_refl _)]
  by_cases hk : k.toNat ≤ xs.length
  · rw [Nat.min_eq_left hk]
  · rw [Nat.min_eq_right (by omega), List.drop_length, List.drop_eq_nil_of_le (by omega)]
theorem cut_last {xs : List α} : cut xs none (some (-1)) = xs.dropLast := by
  unfold cut
  rw [HT.sIx_none]
  show (xs.drop 0).take ((if (-1 : Int) < 0 then ((-1 : Int) + (xs.length : Int)).toNat else min (-1 : Int).toNat xs.length) - 0) = _
  rw [if_pos (by decide), List.drop_zero, Nat.sub_zero, List.dropLast_eq_take]
  congr 1
  omega
theorem rangeL_nat (n : Int) : rangeL 0 n = (List.range n.toNat).map fun i : Nat => (i : Int) := by
  unfold rangeL
  rw [Int.sub_zero]
  exact List.map_congr_left fun i _ => by omega
theorem loopN_inv' {f : α → S → Res S} (J : S → Prop) {xs : List α} {s : S} (h0 : J s) (h : ∀ x s, x ∈ xs → J s → Is (f x s) J) : Is (loopN f xs s) J :=
  loopN_inv (fun _ => J) h0 fun i x s hx hj => h x s (List.mem_of_getElem? hx) hj
theorem mapM_is {μ : Type} {f : α → μ → Res (β × μ)} {J : μ → Prop} {B : β → Prop} : ∀ {xs : List α} {y : μ}, J y → (∀ x y, x ∈ xs → J y → Is (f x y) fun b => B b.1 ∧ J b.2) → Is (mapM f xs y) fun c => c.1.length = xs.length ∧ (∀ b ∈ c.1, B b) ∧ J c.2
  | [], y, h0, _ => ⟨rfl, fun _ h => (nomatch h), h0⟩
  | x :: xs, y, h0, h => by
    refine Is.bind (h x y List.mem_cons_self h0) fun b hb => ?_
    refine Is.bind (mapM_is (xs := xs) hb.2 fun z w hz hw => h z w (List.mem_cons_of_mem _ hz) hw) fun c hc => ?_
    exact ⟨by simp [hc.1], fun d hd => by
      rcases List.mem_cons.mp hd with rfl | hd
      · exact hb.1
      · exact hc.2.1 d hd, hc.2.2⟩
variable {μ : Type}
@[simp] theorem callM_ok (f : α → μ → Res (β × μ)) (a : α) (x : μ) : callM f (liftM (.ok a)) x = f a x := rfl
theorem callM_eq (f : α → μ → Res (β × μ)) (m : μ → Res (α × μ)) (x : μ) : callM f m x = (m x).bind fun b => f b.1 b.2 := rfl
theorem unM_eq (f : α → Res γ) (m : μ → Res (α × μ)) (x : μ) : unM f m x = (m x).bind fun b => (f b.1).bind fun c => .ok (c, b.2) := rfl
theorem binM_eq (f : α → β → Res γ) (m : μ → Res (α × μ)) (n : μ → Res (β × μ)) (x : μ) : binM f m n x = (m x).bind fun b => (n b.2).bind fun d => (f b.1 d.1).bind fun c => .ok (c, d.2) := rfl
theorem pairM_eq (m : μ → Res (α × μ)) (n : μ → Res (β × μ)) (x : μ) : pairM m n x = (m x).bind fun b => (n b.2).bind fun d => .ok ((b.1, d.1), d.2) := rfl
theorem consM_eq (m : μ → Res (α × μ)) (n : μ → Res (List α × μ)) (x : μ) : consM m n x = (m x).bind fun b => (n b.2).bind fun d => .ok (b.1 :: d.1, d.2) := rfl
theorem ifMR_eq (c : μ → Res (Bool × μ)) (x : μ) (m n : μ → Res α) : ifMR c x m n = (c x).bind fun b => if b.1 = true then m b.2 else n b.2 := rfl
theorem andM_eq (m n : μ → Res (Bool × μ)) (x : μ) : andM m n x = (m x).bind fun b => if b.1 = true then n b.2 else .ok (false, b.2) := rfl
theorem slM_eq (m : Res (List α)) (lo hi : μ → Res (Option Int × μ)) (x : μ) : slM m lo hi x = m.bind fun xs => (lo x).bind fun a => (hi a.2).bind fun b => .ok (cut xs a.1 b.1, b.2) := rfl
@[simp] theorem consR_ok (a : α) (xs : List α) : consR (.ok a) (.ok xs) = .ok (a :: xs) := rfl
theorem Is.if_ {α : Type} {c : Bool} {m n : Res α} {Q : α → Prop} (h1 : c = true → Is m Q) (h2 : c = false → Is n Q) : Is (if c = true then m else n) Q := by
  cases c with
  | true => exact h1 rfl
  | false => exact h2 rfl
end
end Sd

namespace K84
open PySem L2 Sd
def top (i : Nat) : Stmt := PySem.Challenge.pw_stormdesk_k84_whole_rising_division.main.body.getD i (.Pass ⟨0, 0, 0, 0⟩)

abbrev s_ratio : Stmt := top 7
abbrev s_compare : Stmt := top 8
abbrev s_are_counts : Stmt := top 11
abbrev s_check_groups : Stmt := top 14
abbrev s_stretch_share : Stmt := top 15
abbrev s_blocks_of : Stmt := top 16
abbrev s_rising_blocks : Stmt := top 17
abbrev s_is_level_stretch : Stmt := top 18
abbrev s_is_rising : Stmt := top 19
abbrev s_rising_chances : Stmt := top 20
abbrev s_greater : Stmt := top 21
abbrev s_lesser : Stmt := top 22
abbrev s_max_min : Stmt := top 23
abbrev s_min_max : Stmt := top 24
abbrev s__law_mix : Stmt := top 26
abbrev s__law_pool : Stmt := top 27
abbrev s__law_fill : Stmt := top 28
abbrev s__law_take : Stmt := top 29
abbrev s__law_from : Stmt := top 30
abbrev s__law_groups : Stmt := top 31
abbrev s__law_share : Stmt := top 32
abbrev s__law_less : Stmt := top 33
abbrev s__law_chance : Stmt := top 34
abbrev s__law_is_int : Stmt := top 35
abbrev s__law_gcd : Stmt := top 36
abbrev s__law_is_ratio : Stmt := top 37
abbrev s__law_is_division : Stmt := top 38
abbrev s__law_are_pairs : Stmt := top 39
abbrev s__law_divisions : Stmt := top 40
abbrev s__law_refused : Stmt := top 41
abbrev s__law_refused_right : Stmt := top 42
abbrev s_law : Stmt := top 43
abbrev s_err : Stmt := mth (top 2)
def knE (c : Ec) : Bool := decide (c ∈ ([.DeskError, .TooMany, .BadRatio, .BadSignals] : List Ec))
structure Tx (K : PySem.W.Frag) (mg : Str → Option Value) where
  f_ratio : Addr
  d_ratio : FuncData
  f_compare : Addr
  d_compare : FuncData
  f_are_counts : Addr
  d_are_counts : FuncData
  f_check_groups : Addr
  d_check_groups : FuncData
  f_stretch_share : Addr
  d_stretch_share : FuncData
  f_blocks_of : Addr
  d_blocks_of : FuncData
  f_rising_blocks : Addr
  d_rising_blocks : FuncData
  f_is_level_stretch : Addr
  d_is_level_stretch : FuncData
  f_is_rising : Addr
  d_is_rising : FuncData
  f_rising_chances : Addr
  d_rising_chances : FuncData
  f_greater : Addr
  d_greater : FuncData
  f_lesser : Addr
  d_lesser : FuncData
  f_max_min : Addr
  d_max_min : FuncData
  f_min_max : Addr
  d_min_max : FuncData
  f__law_mix : Addr
  d__law_mix : FuncData
  f__law_pool : Addr
  d__law_pool : FuncData
  f__law_fill : Addr
  d__law_fill : FuncData
  f__law_take : Addr
  d__law_take : FuncData
  f__law_from : Addr
  d__law_from : FuncData
  f__law_groups : Addr
  d__law_groups : FuncData
  f__law_share : Addr
  d__law_share : FuncData
  f__law_less : Addr
  d__law_less : FuncData
  f__law_chance : Addr
  d__law_chance : FuncData
  f__law_is_int : Addr
  d__law_is_int : FuncData
  f__law_gcd : Addr
  d__law_gcd : FuncData
  f__law_is_ratio : Addr
  d__law_is_ratio : FuncData
  f__law_is_division : Addr
  d__law_is_division : FuncData
  f__law_are_pairs : Addr
  d__law_are_pairs : FuncData
  f__law_divisions : Addr
  d__law_divisions : FuncData
  f__law_refused : Addr
  d__law_refused : FuncData
  f__law_refused_right : Addr
  d__law_refused_right : FuncData
  f_law : Addr
  d_law : FuncData
  F_ratio : FunD K "ratio" "ratio" (defArgs s_ratio) (defBody s_ratio) (defScope s_ratio) [] [] f_ratio d_ratio
  g_ratio : mg "ratio" = some (.ref f_ratio)
  F_compare : FunD K "compare" "compare" (defArgs s_compare) (defBody s_compare) (defScope s_compare) [] [] f_compare d_compare
  g_compare : mg "compare" = some (.ref f_compare)
  F_are_counts : FunD K "are_counts" "are_counts" (defArgs s_are_counts) (defBody s_are_counts) (defScope s_are_counts) [] [] f_are_counts d_are_counts
  g_are_counts : mg "are_counts" = some (.ref f_are_counts)
  F_check_groups : FunD K "check_groups" "check_groups" (defArgs s_check_groups) (defBody s_check_groups) (defScope s_check_groups) [] [] f_check_groups d_check_groups
  g_check_groups : mg "check_groups" = some (.ref f_check_groups)
  F_stretch_share : FunD K "stretch_share" "stretch_share" (defArgs s_stretch_share) (defBody s_stretch_share) (defScope s_stretch_share) [] [] f_stretch_share d_stretch_share
  g_stretch_share : mg "stretch_share" = some (.ref f_stretch_share)
  F_blocks_of : FunD K "blocks_of" "blocks_of" (defArgs s_blocks_of) (defBody s_blocks_of) (defScope s_blocks_of) [] [] f_blocks_of d_blocks_of
  g_blocks_of : mg "blocks_of" = some (.ref f_blocks_of)
  F_rising_blocks : FunD K "rising_blocks" "rising_blocks" (defArgs s_rising_blocks) (defBody s_rising_blocks) (defScope s_rising_blocks) [] [] f_rising_blocks d_rising_blocks
  g_rising_blocks : mg "rising_blocks" = some (.ref f_rising_blocks)
  F_is_level_stretch : FunD K "is_level_stretch" "is_level_stretch" (defArgs s_is_level_stretch) (defBody s_is_level_stretch) (defScope s_is_level_stretch) [] [] f_is_level_stretch d_is_level_stretch
  g_is_level_stretch : mg "is_level_stretch" = some (.ref f_is_level_stretch)
  F_is_rising : FunD K "is_rising" "is_rising" (defArgs s_is_rising) (defBody s_is_rising) (defScope s_is_rising) [] [] f_is_rising d_is_rising
  g_is_rising : mg "is_rising" = some (.ref f_is_rising)
  F_rising_chances : FunD K "rising_chances" "rising_chances" (defArgs s_rising_chances) (defBody s_rising_chances) (defScope s_rising_chances) [] [] f_rising_chances d_rising_chances
  g_rising_chances : mg "rising_chances" = some (.ref f_rising_chances)
  F_greater : FunD K "greater" "greater" (defArgs s_greater) (defBody s_greater) (defScope s_greater) [] [] f_greater d_greater
  g_greater : mg "greater" = some (.ref f_greater)
  F_lesser : FunD K "lesser" "lesser" (defArgs s_lesser) (defBody s_lesser) (defScope s_lesser) [] [] f_lesser d_lesser
  g_lesser : mg "lesser" = some (.ref f_lesser)
  F_max_min : FunD K "max_min" "max_min" (defArgs s_max_min) (defBody s_max_min) (defScope s_max_min) [] [] f_max_min d_max_min
  g_max_min : mg "max_min" = some (.ref f_max_min)
  F_min_max : FunD K "min_max" "min_max" (defArgs s_min_max) (defBody s_min_max) (defScope s_min_max) [] [] f_min_max d_min_max
  g_min_max : mg "min_max" = some (.ref f_min_max)
  F__law_mix : FunD K "_law_mix" "_law_mix" (defArgs s__law_mix) (defBody s__law_mix) (defScope s__law_mix) [] [] f__law_mix d__law_mix
  g__law_mix : mg "_law_mix" = some (.ref f__law_mix)
  F__law_pool : FunD K "_law_pool" "_law_pool" (defArgs s__law_pool) (defBody s__law_pool) (defScope s__law_pool) [] [] f__law_pool d__law_pool
  g__law_pool : mg "_law_pool" = some (.ref f__law_pool)
  F__law_fill : FunD K "_law_fill" "_law_fill" (defArgs s__law_fill) (defBody s__law_fill) (defScope s__law_fill) [] [] f__law_fill d__law_fill
  g__law_fill : mg "_law_fill" = some (.ref f__law_fill)
  F__law_take : FunD K "_law_take" "_law_take" (defArgs s__law_take) (defBody s__law_take) (defScope s__law_take) [] [] f__law_take d__law_take
  g__law_take : mg "_law_take" = some (.ref f__law_take)
  F__law_from : FunD K "_law_from" "_law_from" (defArgs s__law_from) (defBody s__law_from) (defScope s__law_from) [] [] f__law_from d__law_from
  g__law_from : mg "_law_from" = some (.ref f__law_from)
  F__law_groups : FunD K "_law_groups" "_law_groups" (defArgs s__law_groups) (defBody s__law_groups) (defScope s__law_groups) [] [] f__law_groups d__law_groups
  g__law_groups : mg "_law_groups" = some (.ref f__law_groups)
  F__law_share : FunD K "_law_share" "_law_share" (defArgs s__law_share) (defBody s__law_share) (defScope s__law_share) [] [] f__law_share d__law_share
  g__law_share : mg "_law_share" = some (.ref f__law_share)
  F__law_less : FunD K "_law_less" "_law_less" (defArgs s__law_less) (defBody s__law_less) (defScope s__law_less) [] [] f__law_less d__law_less
  g__law_less : mg "_law_less" = some (.ref f__law_less)
  F__law_chance : FunD K "_law_chance" "_law_chance" (defArgs s__law_chance) (defBody s__law_chance) (defScope s__law_chance) [] [] f__law_chance d__law_chance
  g__law_chance : mg "_law_chance" = some (.ref f__law_chance)
  F__law_is_int : FunD K "_law_is_int" "_law_is_int" (defArgs s__law_is_int) (defBody s__law_is_int) (defScope s__law_is_int) [] [] f__law_is_int d__law_is_int
  g__law_is_int : mg "_law_is_int" = some (.ref f__law_is_int)
  F__law_gcd : FunD K "_law_gcd" "_law_gcd" (defArgs s__law_gcd) (defBody s__law_gcd) (defScope s__law_gcd) [] [] f__law_gcd d__law_gcd
  g__law_gcd : mg "_law_gcd" = some (.ref f__law_gcd)
  F__law_is_ratio : FunD K "_law_is_ratio" "_law_is_ratio" (defArgs s__law_is_ratio) (defBody s__law_is_ratio) (defScope s__law_is_ratio) [] [] f__law_is_ratio d__law_is_ratio
  g__law_is_ratio : mg "_law_is_ratio" = some (.ref f__law_is_ratio)
  F__law_is_division : FunD K "_law_is_division" "_law_is_division" (defArgs s__law_is_division) (defBody s__law_is_division) (defScope s__law_is_division) [] [] f__law_is_division d__law_is_division
  g__law_is_division : mg "_law_is_division" = some (.ref f__law_is_division)
  F__law_are_pairs : FunD K "_law_are_pairs" "_law_are_pairs" (defArgs s__law_are_pairs) (defBody s__law_are_pairs) (defScope s__law_are_pairs) [] [] f__law_are_pairs d__law_are_pairs
  g__law_are_pairs : mg "_law_are_pairs" = some (.ref f__law_are_pairs)
  F__law_divisions : FunD K "_law_divisions" "_law_divisions" (defArgs s__law_divisions) (defBody s__law_divisions) (defScope s__law_divisions) [] [] f__law_divisions d__law_divisions
  g__law_divisions : mg "_law_divisions" = some (.ref f__law_divisions)
  F__law_refused : FunD K "_law_refused" "_law_refused" (defArgs s__law_refused) (defBody s__law_refused) (defScope s__law_refused) [] [] f__law_refused d__law_refused
  g__law_refused : mg "_law_refused" = some (.ref f__law_refused)
  F__law_refused_right : FunD K "_law_refused_right" "_law_refused_right" (defArgs s__law_refused_right) (defBody s__law_refused_right) (defScope s__law_refused_right) [] [] f__law_refused_right d__law_refused_right
  g__law_refused_right : mg "_law_refused_right" = some (.ref f__law_refused_right)
  F_law : FunD K "law" "law" (defArgs s_law) (defBody s_law) (defScope s_law) [] [] f_law d_law
  g_law : mg "law" = some (.ref f_law)
  gb_bool : mg "bool" = none
  gb_enumerate : mg "enumerate" = none
  gb_int : mg "int" = none
  gb_isinstance : mg "isinstance" = none
  gb_len : mg "len" = none
  gb_list : mg "list" = none
  gb_range : mg "range" = none
  gb_sorted : mg "sorted" = none
  gb_sum : mg "sum" = none
  gb_tuple : mg "tuple" = none
  gm_gcd : mg "gcd" = some (.builtin "math.gcd")
  gi_MOST_CASES : ∃ t, mg "MOST_CASES" = some (.int (100000) t)
  gi_MOST_GROUPS : ∃ t, mg "MOST_GROUPS" = some (.int (24) t)
  f_err : Addr
  d_err : FuncData
  F_err : ErrF K s_err f_err d_err
  xs : ∀ c, knE c = true → ErrC K mg f_err c
  ki : ∀ c b, knE c = true → knE b = true → PySem.W.kitOne K (.ref (He.ga K c.name)) (.ref (He.ga K b.name)) = some (isaE c b)
  ex : ∀ c b, knE c = true → knE b = true → PySem.W.exmOne K (.ref (He.ga K c.name)) (.ref (He.ga K b.name)) = some (isaE c b)
noncomputable section
variable {P : Program} {w : World} {K : PySem.W.Frag} {mg : Str → Option Value} {base : Heap}
theorem sc_err : FnScope ["self", "at"] ["self", "at"] (defScope s_err) := ⟨rfl, rfl, rfl, by decide +kernel, rfl, by decide +kernel, by decide +kernel⟩
theorem bind_err {K : PySem.W.Frag} {mg : Str → Option Value} {T : Tx K mg} : Binds K T.d_err ["self", "at"] [] := by
  obtain ⟨ds, h1, h2⟩ := FunD.binds1 T.F_err (ps := ["self", "at"]) 2 1 (by decide) rfl fun _ _ _ _ _ _ _ us its hu hi => match us, its, hu, hi with | [_, _], [_], _, _ => ⟨_, rfl, rfl⟩
  cases h1
  exact h2
theorem ok_err (T : Tx K mg) : FnOk P w K mg base (L2.CX P w) 1 T.f_err T.d_err ["self", "at"] (spInit K) := by
  refine T.F_err.ok sc_err (fun vs H Q E h => ?_) (fun cdv A outer s H vs Q E hr h => ?_)
  · obtain ⟨a, C, i, rfl, _⟩ := h
    rfl
  · obtain ⟨a, C, i, rfl, ho, hn, ha, hq⟩ := h
    exact ⟨_, pss_cons (ps_ost (pv 0) (pv 1)) pss_nil, _, rfl, _, rfl, a, C, rfl, ho, hn, .inl ⟨ha, fun dx h1 h2 => hq dx h1 h2⟩⟩
def m_ratio (ar_n : Int) (ar_d : Int) : Res (Int × Int) :=
  (ifR (bin eqR (Res.ok ar_d) (Res.ok (0 : Int))) ((Res.ok (0 : Int)).bind fun i => Res.exc .BadRatio i) ((ifR (bin rLt (Res.ok ar_d) (Res.ok (0 : Int))) ((un rNeg (Res.ok ar_n)).bind fun (n_26 : Int) => ((un rNeg (Res.ok ar_d)).bind fun (d_33 : Int) => (Res.ok (n_26, d_33)))) (Res.ok (ar_n, ar_d))).bind fun (z_17 : (Int × Int)) => ((un gcdR (pair (Res.ok z_17.1) (Res.ok z_17.2))).bind fun (common_45 : Int) => ((pair (bin rDiv (Res.ok z_17.1) (Res.ok common_45)) (bin rDiv (Res.ok z_17.2) (Res.ok common_45))).bind fun a_52 => Res.ok a_52))))
abbrev N_ratio : List Str := ["n", "d", "common"]
theorem sc_ratio : FnScope N_ratio ["n", "d"] (defScope s_ratio) := ⟨rfl, rfl, rfl, by decide +kernel, rfl, by decide +kernel, by decide +kernel⟩
theorem bind_ratio {K : PySem.W.Frag} {mg : Str → Option Value} {T : Tx K mg} : Binds K T.d_ratio ["n", "d"] [] := FunD.bindsN T.F_ratio fun _ _ _ _ _ _ us hl => match us, hl with | [_, _], _ => rfl
abbrev sp_ratio (K : PySem.W.Frag) : Sp := spP K (tc pI (t1 pI)) (fun (p : (Int × Int)) => m_ratio p.1 p.2) (pT (tc pI (t1 pI)))
theorem ok_ratio (T : Tx K mg) : FnOk P w K mg base (L2.CX P w) 3 T.f_ratio T.d_ratio ["n", "d"] (sp_ratio K) := by
  refine T.F_ratio.ok sc_ratio (fun vs H Q E h => ?_) (fun cdv A outer s H vs Q E hr h => ?_)
  · obtain ⟨I, C, a, _, hr, _⟩ := h
    exact Rt.len _ hr
  · obtain ⟨I0, C0, ⟨ar_n, ar_d⟩, hs, ⟨v_n, us0, rfl, r_n, v_d, rfl, r_d⟩, hm⟩ := h
    have hm : Post (m_ratio ar_n ar_d) (PQ (pT (tc pI (t1 pI))) I0 C0 Q) (PX E K I0 C0) := hm
    replace r_n : Rp.r pI ar_n v_n I0 Z := Im.im r_n
    replace r_d : Rp.r pI ar_d v_d I0 Z := Im.im r_d
    unfold m_ratio at hm
    refine ⟨_, (pss_cons (ps_if (pt_cmpR op_eq (pv 1) pe_int (nomark _)) (pss_cons (ps_raise rfl (takes_of rfl rfl rfl rfl) (pmk_oex (T.xs .BadRatio (by decide)).o (T.xs .BadRatio (by decide)).ic (T.xs .BadRatio (by decide)).ti (ok_err T) (hr.mono (by decide)) bind_err .nil passL rfl (T.xs .BadRatio (by decide)).g (pa_cons pe_int pa_nil))) pss_nil) pss_nil) (Evl.pss_cut (ps_if (pt_cmpR op_lt (pv 1) pe_int (nomark _)) (pss_cons (ps_set (i := 0) sc_ratio.nd rfl (Or.inl rfl) (pe_un un_neg (pv 0))) (pss_cons (ps_set (i := 1) sc_ratio.nd rfl (Or.inl rfl) (pe_un un_neg (pv 1))) pss_nil)) pss_nil) (pss_cons (ps_set (i := 2) sc_ratio.nd rfl (Or.inl rfl) (pe_callBfun cr_gcd (by rfl) T.gm_gcd (pa_cons (pv 0) (pa_cons (pv 1) pa_nil)))) (pss_cons (ps_ret (pe_tup (pa_cons (pe_op op_fdiv (pv 0) (pv 2)) (pa_cons (pe_op op_fdiv (pv 1) (pv 2)) pa_nil)))) pss_nil)))), ?_⟩
    refine s_if (E := E) (K := K) (σ := [some v_n, some v_d, none]) (t_test (x_op o_eqI (x_var (i := 1) rfl (Rp.mono _ (Ex.refl _) exz r_d)) (x_int (i := 0)))) hs (fun _ _ h => PX.mono (Ex.refl _) (Ex.refl _) h) hm (fun I_1 H_2 e_3 s_4 hm => ?_) (fun I_5 H_6 e_7 s_8 hm => ?_)
    · exact s_raise (E := E) (K := K) (σ := [some v_n, some v_d, none]) (T.xs .BadRatio (by decide)) (a_one (x_int (i := 0))) s_4 (fun _ _ h => PX.mono e_3 (Ex.refl _) h) hm
    · refine s_ifj (E := E) (K := K) (σ := [some v_n, some v_d, none]) (fun (z_17 : (Int × Int)) σ2 I_19 C_20 => ∃ v_21 : V, ∃ v_23 : V, σ2 = [some v_21, some v_23, none] ∧ Rp.r pI z_17.1 v_21 I_19 Z ∧ Rp.r pI z_17.2 v_23 I_19 Z ∧ Ex C0 C_20) (t_test (x_op o_lt (x_var (i := 1) rfl (Rp.mono _ e_7 exz r_d)) (x_int (i := 0)))) s_8 (fun _ _ h => PX.mono e_7 (Ex.refl _) h) hm (fun N I_9 H_10 e_11 s_12 hm => ?_) (fun N I_13 H_14 e_15 s_16 hm => ?_) (fun z_17 σ2 I_40 C_41 H_42 e_43 s_44 ⟨v_21, v_23, hs_18, r_22, r_24, fr_25⟩ hm => ?_)
      · refine q_asg (E := E) (K := K) (σ := [some v_n, some v_d, none]) (i := 0) (x_un o_neg (x_var (i := 0) rfl (Rp.mono _ (e_7.trans e_11) exz r_n))) s_12 (fun _ _ h => PX.mono (e_7.trans e_11) (Ex.refl _) h) hm fun n_26 v_27 I_28 H_29 e_30 s_31 r_32 hm => ?_
        refine q_asg (E := E) (K := K) (σ := [some v_27, some v_d, none]) (i := 1) (x_un o_neg (x_var (i := 1) rfl (Rp.mono _ (e_7.trans (e_11.trans e_30)) exz r_d))) s_31 (fun _ _ h => PX.mono (e_7.trans (e_11.trans e_30)) (Ex.refl _) h) hm fun d_33 v_34 I_35 H_36 e_37 s_38 r_39 hm => ?_
        exact hm _ _ _ _ (e_11.trans (e_30.trans e_37)) s_38 ⟨v_27, v_34, rfl, Rp.mono _ e_37 exz r_32, Rp.mono _ (Ex.refl _) exz r_39, (Ex.refl _)⟩
      · exact hm _ _ _ _ e_15 s_16 ⟨v_n, v_d, rfl, Rp.mono _ (e_7.trans e_15) exz r_n, Rp.mono _ (e_7.trans e_15) exz r_d, (Ex.refl _)⟩
      subst hs_18
      refine q_asg (E := E) (K := K) (σ := [some v_21, some v_23, none]) (i := 2) (x_cb o_gcd (a_cons (x_var (i := 0) rfl (Rp.mono _ (Ex.refl _) exz r_22)) (a_one (x_var (i := 1) rfl (Rp.mono _ (Ex.refl _) exz r_24))))) s_44 (fun _ _ h => PX.mono (e_7.trans e_43) fr_25 h) hm fun common_45 v_46 I_47 H_48 e_49 s_50 r_51 hm => ?_
      refine q_ret (tz := tNext) (E := E) (K := K) (σ := [some v_21, some v_23, some v_46]) (x_tup (a_cons (x_op o_fdiv (x_var (i := 0) rfl (Rp.mono _ e_49 exz r_22)) (x_var (i := 2) rfl (Rp.mono _ (Ex.refl _) exz r_51))) (a_one (x_op o_fdiv (x_var (i := 1) rfl (Rp.mono _ e_49 exz r_24)) (x_var (i := 2) rfl (Rp.mono _ (Ex.refl _) exz r_51))))) (Nat.le_of_ble_eq_true rfl)) s_50 (fun _ _ h => PX.mono (e_7.trans (e_43.trans e_49)) fr_25 h) hm fun a_52 v_53 I_54 H_55 e_56 s_57 r_58 hm => ?_
      exact hm v_53 I_54 H_55 (e_7.trans (e_43.trans (e_49.trans e_56))) (St.less s_57 fr_25) (Im.im r_58)
def m_compare (ar_one : (Int × Int)) (ar_two : (Int × Int)) : Res Int :=
  ((bin rMul (un (fun p => Res.ok p.1) (Res.ok ar_one)) (un (fun p => Res.ok p.2) (Res.ok ar_two))).bind fun (left_1 : Int) => ((bin rMul (un (fun p => Res.ok p.1) (Res.ok ar_two)) (un (fun p => Res.ok p.2) (Res.ok ar_one))).bind fun (right_8 : Int) => (ifR (bin rLt (Res.ok left_1) (Res.ok right_8)) ((un rNeg (Res.ok (1 : Int))).bind fun a_23 => Res.ok a_23) (ifR (bin rGt (Res.ok left_1) (Res.ok right_8)) ((Res.ok (1 : Int)).bind fun a_38 => Res.ok a_38) ((Res.ok (0 : Int)).bind fun a_45 => Res.ok a_45)))))
abbrev N_compare : List Str := ["one", "two", "left", "right"]
theorem sc_compare : FnScope N_compare ["one", "two"] (defScope s_compare) := ⟨rfl, rfl, rfl, by decide +kernel, rfl, by decide +kernel, by decide +kernel⟩
theorem bind_compare {K : PySem.W.Frag} {mg : Str → Option Value} {T : Tx K mg} : Binds K T.d_compare ["one", "two"] [] := FunD.bindsN T.F_compare fun _ _ _ _ _ _ us hl => match us, hl with | [_, _], _ => rfl
abbrev sp_compare (K : PySem.W.Frag) : Sp := spP K (tc (pT (tc pI (t1 pI))) (t1 (pT (tc pI (t1 pI))))) (fun (p : ((Int × Int) × (Int × Int))) => m_compare p.1 p.2) pI
theorem ok_compare (T : Tx K mg) : FnOk P w K mg base (L2.CX P w) 1 T.f_compare T.d_compare ["one", "two"] (sp_compare K) := by
  refine T.F_compare.ok sc_compare (fun vs H Q E h => ?_) (fun cdv A outer s H vs Q E hr h => ?_)
  · obtain ⟨I, C, a, _, hr, _⟩ := h
    exact Rt.len _ hr
  · obtain ⟨I0, C0, ⟨ar_one, ar_two⟩, hs, ⟨v_one, us0, rfl, r_one, v_two, rfl, r_two⟩, hm⟩ := h
    have hm : Post (m_compare ar_one ar_two) (PQ pI I0 C0 Q) (PX E K I0 C0) := hm
    replace r_one : Rp.r (pT (tc pI (t1 pI))) ar_one v_one I0 Z := Im.im r_one
    replace r_two : Rp.r (pT (tc pI (t1 pI))) ar_two v_two I0 Z := Im.im r_two
    unfold m_compare at hm
    refine ⟨_, (pss_cons (ps_set (i := 2) sc_compare.nd rfl (Or.inl rfl) (pe_op op_mul (pe_ix (r := rIxT K) ix_tup (pv 0) pe_int (fun _ _ => rfl)) (pe_ix (r := rIxT K) ix_tup (pv 1) pe_int (fun _ _ => rfl)))) (pss_cons (ps_set (i := 3) sc_compare.nd rfl (Or.inl rfl) (pe_op op_mul (pe_ix (r := rIxT K) ix_tup (pv 1) pe_int (fun _ _ => rfl)) (pe_ix (r := rIxT K) ix_tup (pv 0) pe_int (fun _ _ => rfl)))) (pss_cons (ps_if (pt_cmpR op_lt (pv 2) (pv 3) (nomark _)) (pss_cons (ps_ret (pe_un un_neg pe_int)) pss_nil) pss_nil) (pss_cons (ps_if (pt_cmpR op_gt (pv 2) (pv 3) (nomark _)) (pss_cons (ps_ret pe_int) pss_nil) pss_nil) (pss_cons (ps_ret pe_int) pss_nil))))), ?_⟩
    refine q_asg (E := E) (K := K) (σ := [some v_one, some v_two, none, none]) (i := 2) (x_op o_mul (x_k (k := ((0 : Nat) : Int)) (o_pj pj0) (x_var (i := 0) rfl (Rp.mono _ (Ex.refl _) exz r_one))) (x_k (k := ((1 : Nat) : Int)) (o_pj (pjs pj1)) (x_var (i := 1) rfl (Rp.mono _ (Ex.refl _) exz r_two)))) hs (fun _ _ h => PX.mono (Ex.refl _) (Ex.refl _) h) hm fun left_1 v_2 I_3 H_4 e_5 s_6 r_7 hm => ?_
    refine q_asg (E := E) (K := K) (σ := [some v_one, some v_two, some v_2, none]) (i := 3) (x_op o_mul (x_k (k := ((0 : Nat) : Int)) (o_pj pj0) (x_var (i := 1) rfl (Rp.mono _ e_5 exz r_two))) (x_k (k := ((1 : Nat) : Int)) (o_pj (pjs pj1)) (x_var (i := 0) rfl (Rp.mono _ e_5 exz r_one)))) s_6 (fun _ _ h => PX.mono e_5 (Ex.refl _) h) hm fun right_8 v_9 I_10 H_11 e_12 s_13 r_14 hm => ?_
    refine s_if (E := E) (K := K) (σ := [some v_one, some v_two, some v_2, some v_9]) (t_test (x_op o_lt (x_var (i := 2) rfl (Rp.mono _ e_12 exz r_7)) (x_var (i := 3) rfl (Rp.mono _ (Ex.refl _) exz r_14)))) s_13 (fun _ _ h => PX.mono (e_5.trans e_12) (Ex.refl _) h) hm (fun I_15 H_16 e_17 s_18 hm => ?_) (fun I_19 H_20 e_21 s_22 hm => ?_)
    · refine q_ret (tz := tNext) (E := E) (K := K) (σ := [some v_one, some v_two, some v_2, some v_9]) (x_un o_neg (x_int (i := 1))) s_18 (fun _ _ h => PX.mono (e_5.trans (e_12.trans e_17)) (Ex.refl _) h) hm fun a_23 v_24 I_25 H_26 e_27 s_28 r_29 hm => ?_
      exact hm v_24 I_25 H_26 (e_5.trans (e_12.trans (e_17.trans e_27))) (St.less s_28 (Ex.refl _)) (Im.im r_29)
    · refine s_if (E := E) (K := K) (σ := [some v_one, some v_two, some v_2, some v_9]) (t_test (x_op o_gt (x_var (i := 2) rfl (Rp.mono _ (e_12.trans e_21) exz r_7)) (x_var (i := 3) rfl (Rp.mono _ e_21 exz r_14)))) s_22 (fun _ _ h => PX.mono (e_5.trans (e_12.trans e_21)) (Ex.refl _) h) hm (fun I_30 H_31 e_32 s_33 hm => ?_) (fun I_34 H_35 e_36 s_37 hm => ?_)
      · refine q_ret (tz := tNext) (E := E) (K := K) (σ := [some v_one, some v_two, some v_2, some v_9]) (x_int (i := 1)) s_33 (fun _ _ h => PX.mono (e_5.trans (e_12.trans (e_21.trans e_32))) (Ex.refl _) h) hm fun a_38 v_39 I_40 H_41 e_42 s_43 r_44 hm => ?_
        exact hm v_39 I_40 H_41 (e_5.trans (e_12.trans (e_21.trans (e_32.trans e_42)))) (St.less s_43 (Ex.refl _)) (Im.im r_44)
      · refine q_ret (tz := tNext) (E := E) (K := K) (σ := [some v_one, some v_two, some v_2, some v_9]) (x_int (i := 0)) s_37 (fun _ _ h => PX.mono (e_5.trans (e_12.trans (e_21.trans e_36))) (Ex.refl _) h) hm fun a_45 v_46 I_47 H_48 e_49 s_50 r_51 hm => ?_
        exact hm v_46 I_47 H_48 (e_5.trans (e_12.trans (e_21.trans (e_36.trans e_49)))) (St.less s_50 (Ex.refl _)) (Im.im r_51)
def m_are_counts (ar_yes : Int) (ar_no : Int) : Res Bool :=
  (ifR (orR (bin rLt (Res.ok ar_yes) (Res.ok (0 : Int))) (orR (bin rGt (Res.ok ar_yes) (Res.ok (100000 : Int))) (orR (bin rLt (Res.ok ar_no) (Res.ok (0 : Int))) (bin rGt (Res.ok ar_no) (Res.ok (100000 : Int)))))) ((Res.ok false).bind fun a_9 => Res.ok a_9) ((bin rGt (bin rAdd (Res.ok ar_yes) (Res.ok ar_no)) (Res.ok (0 : Int))).bind fun a_16 => Res.ok a_16))
abbrev N_are_counts : List Str := ["yes", "no"]
theorem sc_are_counts : FnScope N_are_counts ["yes", "no"] (defScope s_are_counts) := ⟨rfl, rfl, rfl, by decide +kernel, rfl, by decide +kernel, by decide +kernel⟩
theorem bind_are_counts {K : PySem.W.Frag} {mg : Str → Option Value} {T : Tx K mg} : Binds K T.d_are_counts ["yes", "no"] [] := FunD.bindsN T.F_are_counts fun _ _ _ _ _ _ us hl => match us, hl with | [_, _], _ => rfl
abbrev sp_are_counts (K : PySem.W.Frag) : Sp := spP K (tc pI (t1 pI)) (fun (p : (Int × Int)) => m_are_counts p.1 p.2) pB
theorem ok_are_counts (T : Tx K mg) : FnOk P w K mg base (L2.CX P w) 1 T.f_are_counts T.d_are_counts ["yes", "no"] (sp_are_counts K) := by
  refine T.F_are_counts.ok sc_are_counts (fun vs H Q E h => ?_) (fun cdv A outer s H vs Q E hr h => ?_)
  · obtain ⟨I, C, a, _, hr, _⟩ := h
    exact Rt.len _ hr
  · obtain ⟨I0, C0, ⟨ar_yes, ar_no⟩, hs, ⟨v_yes, us0, rfl, r_yes, v_no, rfl, r_no⟩, hm⟩ := h
    have hm : Post (m_are_counts ar_yes ar_no) (PQ pB I0 C0 Q) (PX E K I0 C0) := hm
    replace r_yes : Rp.r pI ar_yes v_yes I0 Z := Im.im r_yes
    replace r_no : Rp.r pI ar_no v_no I0 Z := Im.im r_no
    unfold m_are_counts at hm
    refine ⟨_, (pss_cons (ps_if (PW.pt (pw_or (pt_cmpR op_lt (pv 0) pe_int (nomark _)) (pw_or (pt_cmpR op_gt (pv 0) (pe_glob (v := .int (100000)) rfl T.gi_MOST_CASES.choose_spec ⟨_, rfl⟩) (nomark _)) (pw_or (pt_cmpR op_lt (pv 1) pe_int (nomark _)) (pw_or1 (pt_cmpR op_gt (pv 1) (pe_glob (v := .int (100000)) rfl T.gi_MOST_CASES.choose_spec ⟨_, rfl⟩) (nomark _))))))) (pss_cons (ps_ret pe_bl) pss_nil) pss_nil) (pss_cons (ps_ret (pe_cmpR op_gt (pe_op op_add (pv 0) (pv 1)) pe_int (nomark _))) pss_nil)), ?_⟩
    refine s_if (E := E) (K := K) (σ := [some v_yes, some v_no]) (t_or (t_test (x_op o_lt (x_var (i := 0) rfl (Rp.mono _ (Ex.refl _) exz r_yes)) (x_int (i := 0)))) (t_or (t_test (x_op o_gt (x_var (i := 0) rfl (Rp.mono _ (Ex.refl _) exz r_yes)) (x_int (i := 100000)))) (t_or (t_test (x_op o_lt (x_var (i := 1) rfl (Rp.mono _ (Ex.refl _) exz r_no)) (x_int (i := 0)))) (t_test (x_op o_gt (x_var (i := 1) rfl (Rp.mono _ (Ex.refl _) exz r_no)) (x_int (i := 100000))))))) hs (fun _ _ h => PX.mono (Ex.refl _) (Ex.refl _) h) hm (fun I_1 H_2 e_3 s_4 hm => ?_) (fun I_5 H_6 e_7 s_8 hm => ?_)
    · refine q_ret (tz := tNext) (E := E) (K := K) (σ := [some v_yes, some v_no]) x_bl s_4 (fun _ _ h => PX.mono e_3 (Ex.refl _) h) hm fun a_9 v_10 I_11 H_12 e_13 s_14 r_15 hm => ?_
      exact hm v_10 I_11 H_12 (e_3.trans e_13) (St.less s_14 (Ex.refl _)) (Im.im r_15)
    · refine q_ret (tz := tNext) (E := E) (K := K) (σ := [some v_yes, some v_no]) (x_op o_gt (x_op o_add (x_var (i := 0) rfl (Rp.mono _ e_7 exz r_yes)) (x_var (i := 1) rfl (Rp.mono _ e_7 exz r_no))) (x_int (i := 0))) s_8 (fun _ _ h => PX.mono e_7 (Ex.refl _) h) hm fun a_16 v_17 I_18 H_19 e_20 s_21 r_22 hm => ?_
      exact hm v_17 I_18 H_19 (e_7.trans e_20) (St.less s_21 (Ex.refl _)) (Im.im r_22)
def m_check_groups (ar_rows : (List (Int × Int))) : Res Unit :=
  (ifR (bin rGt (un rLen (Res.ok ar_rows)) (Res.ok (24 : Int))) ((Res.ok (24 : Int)).bind fun i => Res.exc .TooMany i) (ifR (bin eqR (un rLen (Res.ok ar_rows)) (Res.ok (0 : Int))) ((Res.ok (0 : Int)).bind fun i => Res.exc .BadSignals i) (((un enumR (Res.ok ar_rows)).bind fun xs => loopN (fun (x_24 : (Int × (Int × Int))) (z_17 : Unit) => (ifR (un notR (un (fun (p : (Int × Int)) => m_are_counts p.1 p.2) (pair (un (fun p => Res.ok p.1) (Res.ok x_24.2)) (un (fun p => Res.ok p.2) (Res.ok x_24.2))))) ((Res.ok x_24.1).bind fun i => Res.exc .BadSignals i) (Res.ok ()))) xs ()).bind fun (z_51 : Unit) => (Res.ok ()))))
abbrev N_check_groups : List Str := ["rows", "k", "pair"]
theorem sc_check_groups : FnScope N_check_groups ["rows"] (defScope s_check_groups) := ⟨rfl, rfl, rfl, by decide +kernel, rfl, by decide +kernel, by decide +kernel⟩
theorem bind_check_groups {K : PySem.W.Frag} {mg : Str → Option Value} {T : Tx K mg} : Binds K T.d_check_groups ["rows"] [] := FunD.bindsN T.F_check_groups fun _ _ _ _ _ _ us hl => match us, hl with | [_], _ => rfl
abbrev sp_check_groups (K : PySem.W.Frag) : Sp := spP K (t1 (pL (pT (tc pI (t1 pI))))) m_check_groups pN
theorem ok_check_groups (T : Tx K mg) : FnOk P w K mg base (L2.CX P w) 3 T.f_check_groups T.d_check_groups ["rows"] (sp_check_groups K) := by
  refine T.F_check_groups.ok sc_check_groups (fun vs H Q E h => ?_) (fun cdv A outer s H vs Q E hr h => ?_)
  · obtain ⟨I, C, a, _, hr, _⟩ := h
    exact Rt.len _ hr
  · obtain ⟨I0, C0, ar_rows, hs, ⟨v_rows, rfl, r_rows⟩, hm⟩ := h
    have hm : Post (m_check_groups ar_rows) (PQ pN I0 C0 Q) (PX E K I0 C0) := hm
    replace r_rows : Rp.r (pL (pT (tc pI (t1 pI)))) ar_rows v_rows I0 Z := Im.im r_rows
    unfold m_check_groups at hm
    refine ⟨_, (pss_cons (ps_if (pt_cmpR op_gt (pe_callB (r := rLen1 K) call_len_seq (by rfl) T.gb_len bt_len (pa_cons (pv 0) pa_nil)) (pe_glob (v := .int (24)) rfl T.gi_MOST_GROUPS.choose_spec ⟨_, rfl⟩) (nomark _)) (pss_cons (ps_raise rfl (takes_of rfl rfl rfl rfl) (pmk_oex (T.xs .TooMany (by decide)).o (T.xs .TooMany (by decide)).ic (T.xs .TooMany (by decide)).ti (ok_err T) (hr.mono (by decide)) bind_err .nil passL rfl (T.xs .TooMany (by decide)).g (pa_cons (pe_glob (v := .int (24)) rfl T.gi_MOST_GROUPS.choose_spec ⟨_, rfl⟩) pa_nil))) pss_nil) pss_nil) (pss_cons (ps_if (pt_cmpR op_eq (pe_callB (r := rLen1 K) call_len_seq (by rfl) T.gb_len bt_len (pa_cons (pv 0) pa_nil)) pe_int (nomark _)) (pss_cons (ps_raise rfl (takes_of rfl rfl rfl rfl) (pmk_oex (T.xs .BadSignals (by decide)).o (T.xs .BadSignals (by decide)).ic (T.xs .BadSignals (by decide)).ti (ok_err T) (hr.mono (by decide)) bind_err .nil passL rfl (T.xs .BadSignals (by decide)).g (pa_cons pe_int pa_nil))) pss_nil) pss_nil) (pss_cons (ps_for (passes_of rfl) rfl (show PI _ _ _ (iEnum K _) from pi_enum (by rfl) T.gb_enumerate (pa_cons (pv 0) pa_nil)) (show PG _ _ (gTup K 2 _) from pg_tup rfl (pgs_cons (pg_name (i := 1) sc_check_groups.nd rfl (Or.inl rfl)) (pgs_cons (pg_name (i := 2) sc_check_groups.nd rfl (Or.inl rfl)) pgs_nil))) (pss_cons (ps_if (pt_not (pt_val (pe_call (ok_are_counts T) (hr.mono (by decide)) rfl T.g_are_counts T.F_are_counts.kp bind_are_counts .nil passE (pa_cons (pe_ix (r := rIxT K) ix_tup (pv 2) pe_int (fun _ _ => rfl)) (pa_cons (pe_ix (r := rIxT K) ix_tup (pv 2) pe_int (fun _ _ => rfl)) pa_nil))))) (pss_cons (ps_raise rfl (takes_of rfl rfl rfl rfl) (pmk_oex (T.xs .BadSignals (by decide)).o (T.xs .BadSignals (by decide)).ic (T.xs .BadSignals (by decide)).ti (ok_err T) (hr.mono (by decide)) bind_err .nil passL rfl (T.xs .BadSignals (by decide)).g (pa_cons (pv 1) pa_nil))) pss_nil) pss_nil) pss_nil)) pss_nil))), ?_⟩
    refine s_if (E := E) (K := K) (σ := [some v_rows, none, none]) (t_test (x_op o_gt (x_cb o_len (a_one (x_v (x_var (i := 0) rfl (Rp.mono _ (Ex.refl _) exz r_rows))))) (x_int (i := 24)))) hs (fun _ _ h => PX.mono (Ex.refl _) (Ex.refl _) h) hm (fun I_1 H_2 e_3 s_4 hm => ?_) (fun I_5 H_6 e_7 s_8 hm => ?_)
    · exact s_raise (E := E) (K := K) (σ := [some v_rows, none, none]) (T.xs .TooMany (by decide)) (a_one (x_int (i := 24))) s_4 (fun _ _ h => PX.mono e_3 (Ex.refl _) h) hm
    · refine s_if (E := E) (K := K) (σ := [some v_rows, none, none]) (t_test (x_op o_eqI (x_cb o_len (a_one (x_v (x_var (i := 0) rfl (Rp.mono _ e_7 exz r_rows))))) (x_int (i := 0)))) s_8 (fun _ _ h => PX.mono e_7 (Ex.refl _) h) hm (fun I_9 H_10 e_11 s_12 hm => ?_) (fun I_13 H_14 e_15 s_16 hm => ?_)
      · exact s_raise (E := E) (K := K) (σ := [some v_rows, none, none]) (T.xs .BadSignals (by decide)) (a_one (x_int (i := 0))) s_12 (fun _ _ h => PX.mono (e_7.trans e_11) (Ex.refl _) h) hm
      · refine s_forN (E := E) (K := K) (σ := [some v_rows, none, none]) (fun (z_17 : Unit) σ2 I_21 C_22 => ∃ w_19 : Option V, ∃ w_20 : Option V, σ2 = [some v_rows, w_19, w_20] ∧ Ex C0 C_22) (i_enum (a_one (x_var (i := 0) rfl (Rp.mono _ (e_7.trans e_15) exz r_rows)))) s_16 (fun _ _ h => PX.mono (e_7.trans e_15) (Ex.refl _) h) hm (fun _ e_32 => ⟨none, none, rfl, (Ex.refl _)⟩) (fun _ _ _ _ _ => trivial) (fun _ _ _ _ _ e ⟨w_19, w_20, hs_18, fr_23⟩ => ⟨w_19, w_20, hs_18, fr_23⟩) (fun N x_24 v_25 z_17 σ2 I_26 C_27 H_28 e_29 s_30 ⟨w_19, w_20, hs_18, fr_23⟩ r_31 hm => ?_) (fun z_51 σ2 I_46 C_47 H_48 e_49 s_50 ⟨w_53, w_54, hs_52, fr_57⟩ hm => ?_)
        · subst hs_18
          refine g2 (K := K) x_24 v_25 I_26 C_27 H_28 _ s_30 r_31 fun σ2 ⟨v_33, v_34, hs_37, r_35, r_36⟩ => ?_
          subst hs_37
          refine s_if (E := E) (K := K) (σ := [some v_rows, some v_33, some v_34]) (t_not (t_B (x_call (a_cons (x_k (k := ((0 : Nat) : Int)) (o_pj pj0) (x_var (i := 2) rfl (Rp.mono _ (Ex.refl _) exz r_36))) (a_one (x_k (k := ((1 : Nat) : Int)) (o_pj (pjs pj1)) (x_var (i := 2) rfl (Rp.mono _ (Ex.refl _) exz r_36)))))))) s_30 (fun _ _ h => PX.mono (e_7.trans (e_15.trans e_29)) fr_23 h) hm (fun I_38 H_39 e_40 s_41 hm => ?_) (fun I_42 H_43 e_44 s_45 hm => ?_)
          · exact s_raise (E := E) (K := K) (σ := [some v_rows, some v_33, some v_34]) (T.xs .BadSignals (by decide)) (a_one (x_var (i := 1) rfl (Rp.mono _ e_40 exz r_35))) s_41 (fun _ _ h => PX.mono (e_7.trans (e_15.trans (e_29.trans e_40))) fr_23 h) hm
          · exact hm _ _ _ _ e_44 s_45 ⟨some v_33, some v_34, rfl, fr_23⟩
        subst hs_52
        exact hm .non _ _ (e_7.trans (e_15.trans e_49)) (St.less s_50 fr_57) rfl
def m_stretch_share (ar_rows : (List (Int × Int))) (ar_start : Int) (ar_end : Int) : Res (Int × Int) :=
  ((un sumR ((slR (Res.ok ar_rows) (someR (Res.ok ar_start)) (someR (Res.ok ar_end))).bind (mapR (fun (x_1 : (Int × Int)) => (un (fun p => Res.ok p.1) (Res.ok x_1)))))).bind fun (yes_8 : Int) => ((un (fun (p : (Int × Int)) => m_ratio p.1 p.2) (pair (Res.ok yes_8) (bin rAdd (Res.ok yes_8) (un sumR ((slR (Res.ok ar_rows) (someR (Res.ok ar_start)) (someR (Res.ok ar_end))).bind (mapR (fun (x_15 : (Int × Int)) => (un (fun p => Res.ok p.2) (Res.ok x_15))))))))).bind fun a_22 => Res.ok a_22))
abbrev N_stretch_share : List Str := ["rows", "start", "end", "yes", "pair"]
theorem sc_stretch_share : FnScope N_stretch_share ["rows", "start", "end"] (defScope s_stretch_share) := ⟨rfl, rfl, rfl, by decide +kernel, rfl, by decide +kernel, by decide +kernel⟩
theorem bind_stretch_share {K : PySem.W.Frag} {mg : Str → Option Value} {T : Tx K mg} : Binds K T.d_stretch_share ["rows", "start", "end"] [] := FunD.bindsN T.F_stretch_share fun _ _ _ _ _ _ us hl => match us, hl with | [_, _, _], _ => rfl
abbrev sp_stretch_share (K : PySem.W.Frag) : Sp := spP K (tc (pL (pT (tc pI (t1 pI)))) (tc pI (t1 pI))) (fun (p : ((List (Int × Int)) × Int × Int)) => m_stretch_share p.1 p.2.1 p.2.2) (pT (tc pI (t1 pI)))
theorem ok_stretch_share (T : Tx K mg) : FnOk P w K mg base (L2.CX P w) 4 T.f_stretch_share T.d_stretch_share ["rows", "start", "end"] (sp_stretch_share K) := by
  refine T.F_stretch_share.ok sc_stretch_share (fun vs H Q E h => ?_) (fun cdv A outer s H vs Q E hr h => ?_)
  · obtain ⟨I, C, a, _, hr, _⟩ := h
    exact Rt.len _ hr
  · obtain ⟨I0, C0, ⟨ar_rows, ar_start, ar_end⟩, hs, ⟨v_rows, us0, rfl, r_rows, v_start, us1, rfl, r_start, v_end, rfl, r_end⟩, hm⟩ := h
    have hm : Post (m_stretch_share ar_rows ar_start ar_end) (PQ (pT (tc pI (t1 pI))) I0 C0 Q) (PX E K I0 C0) := hm
    replace r_rows : Rp.r (pL (pT (tc pI (t1 pI)))) ar_rows v_rows I0 Z := Im.im r_rows
    replace r_start : Rp.r pI ar_start v_start I0 Z := Im.im r_start
    replace r_end : Rp.r pI ar_end v_end I0 Z := Im.im r_end
    unfold m_stretch_share at hm
    refine ⟨_, (pss_cons (ps_set (i := 3) sc_stretch_share.nd rfl (Or.inl rfl) (pe_callB (r := rSum K) (cr_sum rfl) (by rfl) T.gb_sum bt_sum (pa_cons (pe_lc (own := [("pair", 4)]) rfl sc_stretch_share.nd (show PI _ _ _ (iList K _) from pi_list (pe_slice (r := rSlL K) sl_list (pv 0) (po_some (pv 1)) (po_some (pv 2)))) (blkOk_by (own := [("pair", 4)]) (N := N_stretch_share) (sc := defScope s_stretch_share) (by decide +kernel)) (fun _ _ _ _ _ => (pg_name (i := 4) sc_stretch_share.nd rfl (Or.inl rfl))) (fun _ _ _ _ _ => pts_nil) (fun _ _ _ _ _ => (pe_ix (r := rIxT K) ix_tup (pv 4) pe_int (fun _ _ => rfl)))) pa_nil))) (pss_cons (ps_ret (pe_call (ok_ratio T) (hr.mono (by decide)) rfl T.g_ratio T.F_ratio.kp bind_ratio .nil passE (pa_cons (pv 3) (pa_cons (pe_op op_add (pv 3) (pe_callB (r := rSum K) (cr_sum rfl) (by rfl) T.gb_sum bt_sum (pa_cons (pe_lc (own := [("pair", 4)]) rfl sc_stretch_share.nd (show PI _ _ _ (iList K _) from pi_list (pe_slice (r := rSlL K) sl_list (pv 0) (po_some (pv 1)) (po_some (pv 2)))) (blkOk_by (own := [("pair", 4)]) (N := N_stretch_share) (sc := defScope s_stretch_share) (by decide +kernel)) (fun _ _ _ _ _ => (pg_name (i := 4) sc_stretch_share.nd rfl (Or.inl rfl))) (fun _ _ _ _ _ => pts_nil) (fun _ _ _ _ _ => (pe_ix (r := rIxT K) ix_tup (pv 4) pe_int (fun _ _ => rfl)))) pa_nil))) pa_nil)))) pss_nil)), ?_⟩
    refine q_asg (E := E) (K := K) (σ := [some v_rows, some v_start, some v_end, none, none]) (i := 3) (x_cb o_sum (a_one (x_v (x_lc (i_list (x_sl (x_v (x_var (i := 0) rfl (Rp.mono _ (Ex.refl _) exz r_rows))) (p_some (x_var (i := 1) rfl (Rp.mono _ (Ex.refl _) exz r_start))) (p_some (x_var (i := 2) rfl (Rp.mono _ (Ex.refl _) exz r_end))))) g1 (fun _ _ _ _ ⟨_, h, _⟩ => by rw [h]; rfl) (fun x_1 σ2 I_2 C_3 e_4 c_5 ⟨v_6, h, r_7⟩ => by subst h; exact (x_k (k := ((0 : Nat) : Int)) (o_pj pj0) (x_var (i := 4) rfl (Rp.mono _ (Ex.refl _) exz r_7)))) (fun _ _ _ _ _ e ⟨v_6, h, r_7⟩ => ⟨v_6, h, Rp.mono _ e exz r_7⟩))))) hs (fun _ _ h => PX.mono (Ex.refl _) (Ex.refl _) h) hm fun yes_8 v_9 I_10 H_11 e_12 s_13 r_14 hm => ?_
    refine q_ret (tz := tNext) (E := E) (K := K) (σ := [some v_rows, some v_start, some v_end, some v_9, none]) (x_call (a_cons (x_var (i := 3) rfl (Rp.mono _ (Ex.refl _) exz r_14)) (a_one (x_op o_add (x_var (i := 3) rfl (Rp.mono _ (Ex.refl _) exz r_14)) (x_cb o_sum (a_one (x_v (x_lc (i_list (x_sl (x_v (x_var (i := 0) rfl (Rp.mono _ e_12 exz r_rows))) (p_some (x_var (i := 1) rfl (Rp.mono _ e_12 exz r_start))) (p_some (x_var (i := 2) rfl (Rp.mono _ e_12 exz r_end))))) g1 (fun _ _ _ _ ⟨_, h, _⟩ => by rw [h]; rfl) (fun x_15 σ2 I_16 C_17 e_18 c_19 ⟨v_20, h, r_21⟩ => by subst h; exact (x_k (k := ((1 : Nat) : Int)) (o_pj (pjs pj1)) (x_var (i := 4) rfl (Rp.mono _ (Ex.refl _) exz r_21)))) (fun _ _ _ _ _ e ⟨v_20, h, r_21⟩ => ⟨v_20, h, Rp.mono _ e exz r_21⟩))))))))) s_13 (fun _ _ h => PX.mono e_12 (Ex.refl _) h) hm fun a_22 v_23 I_24 H_25 e_26 s_27 r_28 hm => ?_
    exact hm v_23 I_24 H_25 (e_12.trans e_26) (St.less s_27 (Ex.refl _)) (Im.im r_28)
def m_blocks_of (ar_rows : (List (Int × Int))) : Res (List (Int × Int)) :=
  ((Res.ok ([] : List (Int × Int))).bind fun (result_1 : (List (Int × Int))) => (((un rng1 (un rLen (Res.ok ar_rows))).bind fun xs => loopN (fun (x_27 : Int) (z_16 : (List (Int × Int))) => ((Res.ok x_27).bind fun (start_39 : Int) => ((whileF (fun (z_46 : ((List (Int × Int)) × Int)) => (andR (un neR' (Res.ok z_46.1)) (bin rGe (un (fun (p : ((Int × Int) × (Int × Int))) => m_compare p.1 p.2) (pair (un (fun (p : ((List (Int × Int)) × Int × Int)) => m_stretch_share p.1 p.2.1 p.2.2) (pair (Res.ok ar_rows) (pair (un (fun p => Res.ok p.1) (bin ix (Res.ok z_46.1) (un rNeg (Res.ok (1 : Int))))) (Res.ok z_46.2)))) (un (fun (p : ((List (Int × Int)) × Int × Int)) => m_stretch_share p.1 p.2.1 p.2.2) (pair (Res.ok ar_rows) (pair (Res.ok z_46.2) (bin rAdd (Res.ok x_27) (Res.ok (1 : Int)))))))) (Res.ok (0 : Int))))) (fun (z_46 : ((List (Int × Int)) × Int)) => ((popR z_46.1).bind fun (a_62 : (Int × Int) × (List (Int × Int))) => (Res.ok (Out.nx (a_62.2, a_62.1.1))))) fuel (z_16, start_39)).bind fun (o : Out ((List (Int × Int)) × Int) (List (Int × Int))) => match o with | .nx z_81 => (((pair (Res.ok z_81.2) (bin rAdd (Res.ok x_27) (Res.ok (1 : Int)))).bind fun x => push z_81.1 x).bind fun (result_92 : (List (Int × Int))) => (Res.ok result_92)) | .br _ => Res.bad | .rt r => Res.ok r))) xs result_1).bind fun (z_109 : (List (Int × Int))) => (Res.ok z_109)))
abbrev N_blocks_of : List Str := ["rows", "result", "k", "start"]
theorem sc_blocks_of : FnScope N_blocks_of ["rows"] (defScope s_blocks_of) := ⟨rfl, rfl, rfl, by decide +kernel, rfl, by decide +kernel, by decide +kernel⟩
theorem bind_blocks_of {K : PySem.W.Frag} {mg : Str → Option Value} {T : Tx K mg} : Binds K T.d_blocks_of ["rows"] [] := FunD.bindsN T.F_blocks_of fun _ _ _ _ _ _ us hl => match us, hl with | [_], _ => rfl
abbrev sp_blocks_of (K : PySem.W.Frag) : Sp := spO K (t1 (pL (pT (tc pI (t1 pI))))) m_blocks_of (pT (tc pI (t1 pI)))
theorem ok_blocks_of (T : Tx K mg) : FnOk P w K mg base (L2.CX P w) 5 T.f_blocks_of T.d_blocks_of ["rows"] (sp_blocks_of K) := by
  refine T.F_blocks_of.ok sc_blocks_of (fun vs H Q E h => ?_) (fun cdv A outer s H vs Q E hr h => ?_)
  · obtain ⟨I, C, a, _, hr, _⟩ := h
    exact Rt.len _ hr
  · obtain ⟨I0, C0, ar_rows, hs, ⟨v_rows, rfl, r_rows⟩, hm⟩ := h
    have hm : Post (m_blocks_of ar_rows) (PN (pT (tc pI (t1 pI))) I0 C0 Q) (PX E K I0 C0) := hm
    replace r_rows : Rp.r (pL (pT (tc pI (t1 pI)))) ar_rows v_rows I0 Z := Im.im r_rows
    unfold m_blocks_of at hm
    refine ⟨_, (pss_cons (ps_set (i := 1) sc_blocks_of.nd rfl (Or.inl rfl) (pe_lst pa_nil)) (pss_cons (ps_for (passes_of rfl) rfl (pi_range1 (by rfl) T.gb_range (pa_cons (pe_callB (r := rLen1 K) call_len_seq (by rfl) T.gb_len bt_len (pa_cons (pv 0) pa_nil)) pa_nil)) (pg_name (i := 2) sc_blocks_of.nd rfl (Or.inl rfl)) (pss_cons (ps_set (i := 3) sc_blocks_of.nd rfl (Or.inl rfl) (pv 2)) (pss_cons (ps_while (passes_of rfl) (PW.pt (pw_and (pt_truth (pv 1) (fun _ => rfl)) (pw_and1 (pt_cmpR op_ge (pe_call (ok_compare T) (hr.mono (by decide)) rfl T.g_compare T.F_compare.kp bind_compare .nil passE (pa_cons (pe_call (ok_stretch_share T) (hr.mono (by decide)) rfl T.g_stretch_share T.F_stretch_share.kp bind_stretch_share .nil passE (pa_cons (pv 0) (pa_cons (pe_ix (r := rIxT K) ix_tup (pe_ix (r := rIxL K) ix_list (pv 1) (pe_un un_neg pe_int) (fun _ _ => rfl)) pe_int (fun _ _ => rfl)) (pa_cons (pv 3) pa_nil)))) (pa_cons (pe_call (ok_stretch_share T) (hr.mono (by decide)) rfl T.g_stretch_share T.F_stretch_share.kp bind_stretch_share .nil passE (pa_cons (pv 0) (pa_cons (pv 3) (pa_cons (pe_op op_add (pv 2) pe_int) pa_nil)))) pa_nil))) pe_int (nomark _))))) (pss_cons (ps_set (i := 3) sc_blocks_of.nd rfl (Or.inl rfl) (pe_ix (r := rIxT K) ix_tup (show PE _ _ (tBM0 K "list" rPop _) from pe_bm0 PySem.F.plainAttrs_list PySem.F.slot_list_pop PySem.F.type_list_pop mt_pop (pv 1)) pe_int (fun _ _ => rfl))) pss_nil)) (pss_cons (ps_expr (show PE _ _ (tBM K "list" rAppend _ _) from pe_bm PySem.F.plainAttrs_list PySem.F.slot_list_append PySem.F.type_list_append mt_append (pv 1) (pa_cons (pe_tup (pa_cons (pv 3) (pa_cons (pe_op op_add (pv 2) pe_int) pa_nil))) pa_nil))) pss_nil)))) (pss_cons (ps_ret (pv 1)) pss_nil))), ?_⟩
    refine q_asgN (E := E) (K := K) (σ := [some v_rows, none, none, none]) (i := 1) (n_lst (R := (pT (tc pI (t1 pI)))) al_nil (by decide)) hs (fun _ _ h => PX.mono (Ex.refl _) (Ex.refl _) h) hm fun result_1 p_2 vs_3 I_4 C_5 H_6 e_7 hp_8 s_9 hc_10 k_11 hl_12 hr_13 hm => ?_
    have hB_14 := Ex.free (Ex.refl _) hp_8
    have fr_15 := fr_keep (Ex.refl _) hB_14 k_11
    refine s_forN (E := E) (K := K) (σ := [some v_rows, some (.ref p_2), none, none]) (fun (z_16 : (List (Int × Int))) σ2 I_20 C_21 => ∃ w_18 : Option V, ∃ w_19 : Option V, σ2 = [some v_rows, some (.ref p_2), w_18, w_19] ∧ (∃ vs_22 : List V, C_21 p_2 = some (.lst vs_22) ∧ vs_22.length ≤ sizeLine ∧ A2 (fun x u => Rp.r (pT (tc pI (t1 pI))) x u I_20 Z) z_16 vs_22) ∧ Ex C0 C_21) (i_rng1 (a_one (x_cb o_len (a_one (x_v (x_var (i := 0) rfl (Rp.mono _ e_7 exz r_rows))))))) s_9 (fun _ _ h => PX.mono e_7 fr_15 h) hm (fun _ e_35 => ⟨none, none, rfl, ⟨_, hc_10, hl_12, a2up (Ex.trans (Ex.refl _) e_35) hr_13⟩, fr_15⟩) (fun _ _ _ _ _ => trivial) (fun _ _ _ _ _ e ⟨w_18, w_19, hs_17, ⟨vs_22, hc_23, hl_24, hr_25⟩, fr_26⟩ => ⟨w_18, w_19, hs_17, ⟨vs_22, hc_23, hl_24, a2up e hr_25⟩, fr_26⟩) (fun N x_27 v_28 z_16 σ2 I_29 C_30 H_31 e_32 s_33 ⟨w_18, w_19, hs_17, ⟨vs_22, hc_23, hl_24, hr_25⟩, fr_26⟩ r_34 hm => ?_) (fun z_109 σ2 I_104 C_105 H_106 e_107 s_108 ⟨w_111, w_112, hs_110, ⟨vs_115, hc_116, hl_117, hr_118⟩, fr_119⟩ hm => ?_)
    · subst hs_17
      refine g1 (K := K) x_27 v_28 I_29 C_30 H_31 _ s_33 r_34 fun σ2 ⟨v_36, hs_38, r_37⟩ => ?_
      subst hs_38
      refine q_asg (E := E) (K := K) (σ := [some v_rows, some (.ref p_2), some v_36, w_19]) (i := 3) (x_var (i := 2) rfl (Rp.mono _ (Ex.refl _) exz r_37)) s_33 (fun _ _ h => PX.mono (e_7.trans e_32) fr_26 h) hm fun start_39 v_40 I_41 H_42 e_43 s_44 r_45 hm => ?_
      refine s_while (E := E) (K := K) (σ := [some v_rows, some (.ref p_2), some v_36, some v_40]) (fun (z_46 : ((List (Int × Int)) × Int)) σ2 I_48 C_49 => ∃ v_54 : V, σ2 = [some v_rows, some (.ref p_2), some v_36, some v_54] ∧ (∃ vs_50 : List V, C_49 p_2 = some (.lst vs_50) ∧ vs_50.length ≤ sizeLine ∧ A2 (fun x u => Rp.r (pT (tc pI (t1 pI))) x u I_48 Z) z_46.1 vs_50) ∧ Rp.r pI z_46.2 v_54 I_48 Z ∧ Ex C0 C_49) s_44 hm ⟨v_40, rfl, ⟨_, hc_23, hl_24, a2up e_43 hr_25⟩, Rp.mono _ (Ex.refl _) exz r_45, fr_26⟩ (fun z_46 σ2 I_57 C_58 e_60 ⟨v_54, hs_47, ⟨vs_50, hc_51, hl_52, hr_53⟩, r_55, fr_56⟩ => by subst hs_47; exact ⟨(t_and (t_lst (x_cell (i := 1) rfl hc_51 hl_52 (a2up (Ex.refl _) hr_53))) (t_test (x_op o_ge (x_call (a_cons (x_call (a_cons (x_var (i := 0) rfl (Rp.mono _ (e_7.trans (e_32.trans (e_43.trans e_60))) exz r_rows)) (a_cons (x_k (k := ((0 : Nat) : Int)) (o_pj pj0) (x_op o_ix (x_cell (i := 1) rfl hc_51 hl_52 (a2up (Ex.refl _) hr_53)) (x_un o_neg (x_int (i := 1))))) (a_one (x_var (i := 3) rfl (Rp.mono _ (Ex.refl _) exz r_55)))))) (a_one (x_call (a_cons (x_var (i := 0) rfl (Rp.mono _ (e_7.trans (e_32.trans (e_43.trans e_60))) exz r_rows)) (a_cons (x_var (i := 3) rfl (Rp.mono _ (Ex.refl _) exz r_55)) (a_one (x_op o_add (x_var (i := 2) rfl (Rp.mono _ (e_43.trans e_60) exz r_37)) (x_int (i := 1)))))))))) (x_int (i := 0))))), (fun _ _ h => PX.mono (e_7.trans (e_32.trans (e_43.trans e_60))) fr_56 h)⟩) (fun _ _ _ _ _ e ⟨v_54, hs_47, ⟨vs_50, hc_51, hl_52, hr_53⟩, r_55, fr_56⟩ => ⟨v_54, hs_47, ⟨vs_50, hc_51, hl_52, a2up e hr_53⟩, Rp.mono _ e exz r_55, fr_56⟩) (fun N z_46 σ2 I_57 C_58 H_59 e_60 s_61 ⟨v_54, hs_47, ⟨vs_50, hc_51, hl_52, hr_53⟩, r_55, fr_56⟩ hm => ?_) (fun z_81 σ2 I_76 C_77 H_78 e_79 s_80 ⟨v_89, hs_82, ⟨vs_85, hc_86, hl_87, hr_88⟩, r_90, fr_91⟩ hm => ?_)
      · subst hs_47
        refine q_popk (K := K) (σ := [some v_rows, some (.ref p_2), some v_36, some v_54]) (i := 1) (j := 3) (l := 0) pj0 rfl hc_51 hl_52 (a2up (Ex.refl _) hr_53) s_61 hm fun a_62 v_63 vs_64 I_65 C_66 H_67 e_68 s_69 hc_70 k_71 hl_72 hr_73 r_74 hm => ?_
        have fr_75 := fr_keep fr_56 hB_14 k_71
        exact hm _ _ _ _ e_68 s_69 ⟨v_63, rfl, ⟨_, hc_70, hl_72, a2up (Ex.refl _) hr_73⟩, Rp.mono _ (Ex.refl _) exz r_74, fr_75⟩
      subst hs_82
      refine q_app (E := E) (K := K) (σ := [some v_rows, some (.ref p_2), some v_36, some v_89]) (i := 1) rfl hc_86 (a2up (Ex.refl _) hr_88) (x_tup (a_cons (x_var (i := 3) rfl (Rp.mono _ (Ex.refl _) exz r_90)) (a_one (x_op o_add (x_var (i := 2) rfl (Rp.mono _ (e_43.trans e_79) exz r_37)) (x_int (i := 1))))) (Nat.le_of_ble_eq_true rfl)) s_80 (fun _ _ h => PX.mono (e_7.trans (e_32.trans (e_43.trans e_79))) fr_91 h) hm fun result_92 vs_93 I_94 C_95 H_96 e_97 s_98 hc_99 k_100 hl_101 hr_102 hm => ?_
      have fr_103 := fr_keep fr_91 hB_14 k_100
      exact hm _ _ _ _ (e_43.trans (e_79.trans e_97)) s_98 ⟨some v_36, some v_89, rfl, ⟨_, hc_99, hl_101, a2up (Ex.refl _) hr_102⟩, fr_103⟩
    subst hs_110
    refine q_retO (i := 1) rfl s_108 fr_119 hB_14 hc_116 hl_117 (a2up (Ex.refl _) hr_118) fun s hr => ?_
    exact hm _ _ _ _ (e_7.trans e_107) hB_14 s hl_117 hr
def m_rising_blocks (ar_rows : (List (Int × Int))) : Res (List (Int × Int)) :=
  ((un m_check_groups (Res.ok ar_rows)).bind fun (b_1 : Unit) => ((un m_blocks_of (Res.ok ar_rows)).bind fun a_6 => Res.ok a_6))
abbrev N_rising_blocks : List Str := ["rows"]
theorem sc_rising_blocks : FnScope N_rising_blocks ["rows"] (defScope s_rising_blocks) := ⟨rfl, rfl, rfl, by decide +kernel, rfl, by decide +kernel, by decide +kernel⟩
theorem bind_rising_blocks {K : PySem.W.Frag} {mg : Str → Option Value} {T : Tx K mg} : Binds K T.d_rising_blocks ["rows"] [] := FunD.bindsN T.F_rising_blocks fun _ _ _ _ _ _ us hl => match us, hl with | [_], _ => rfl
abbrev sp_rising_blocks (K : PySem.W.Frag) : Sp := spO K (t1 (pL (pT (tc pI (t1 pI))))) m_rising_blocks (pT (tc pI (t1 pI)))
theorem ok_rising_blocks (T : Tx K mg) : FnOk P w K mg base (L2.CX P w) 6 T.f_rising_blocks T.d_rising_blocks ["rows"] (sp_rising_blocks K) := by
  refine T.F_rising_blocks.ok sc_rising_blocks (fun vs H Q E h => ?_) (fun cdv A outer s H vs Q E hr h => ?_)
  · obtain ⟨I, C, a, _, hr, _⟩ := h
    exact Rt.len _ hr
  · obtain ⟨I0, C0, ar_rows, hs, ⟨v_rows, rfl, r_rows⟩, hm⟩ := h
    have hm : Post (m_rising_blocks ar_rows) (PN (pT (tc pI (t1 pI))) I0 C0 Q) (PX E K I0 C0) := hm
    replace r_rows : Rp.r (pL (pT (tc pI (t1 pI)))) ar_rows v_rows I0 Z := Im.im r_rows
    unfold m_rising_blocks at hm
    refine ⟨_, (pss_cons (ps_expr (pe_call (ok_check_groups T) (hr.mono (by decide)) rfl T.g_check_groups T.F_check_groups.kp bind_check_groups .nil passE (pa_cons (pv 0) pa_nil))) (pss_cons (ps_ret (pe_call (ok_blocks_of T) (hr.mono (by decide)) rfl T.g_blocks_of T.F_blocks_of.kp bind_blocks_of .nil passE (pa_cons (pv 0) pa_nil))) pss_nil)), ?_⟩
    refine s_expr (E := E) (K := K) (σ := [some v_rows]) (x_call (a_one (x_var (i := 0) rfl (Rp.mono _ (Ex.refl _) exz r_rows)))) hs (fun _ _ h => PX.mono (Ex.refl _) (Ex.refl _) h) hm fun b_1 I_2 H_3 e_4 s_5 hm => ?_
    refine q_retN (E := E) (K := K) (σ := [some v_rows]) (n_call (a_one (x_var (i := 0) rfl (Rp.mono _ e_4 exz r_rows)))) s_5 (fun _ _ h => PX.mono e_4 (Ex.refl _) h) hm fun a_6 p_7 vs_8 I_9 H_10 e_11 hp_12 s_13 hl_14 hr_15 hm => ?_
    exact ret_own hm (e_4.trans e_11) (Ex.refl _) hp_12 s_13 hl_14 hr_15
def m_is_level_stretch (ar_rows : (List (Int × Int))) (ar_start : Int) (ar_end : Int) : Res Bool :=
  ((un (fun (p : ((List (Int × Int)) × Int × Int)) => m_stretch_share p.1 p.2.1 p.2.2) (pair (Res.ok ar_rows) (pair (Res.ok ar_start) (Res.ok ar_end)))).bind fun (whole_1 : (Int × Int)) => (((un rng2 (pair (bin rAdd (Res.ok ar_start) (Res.ok (1 : Int))) (Res.ok ar_end))).bind fun xs => loopR (fun (x_14 : Int) (z_8 : Unit) => (ifR (bin rLt (un (fun (p : ((Int × Int) × (Int × Int))) => m_compare p.1 p.2) (pair (un (fun (p : ((List (Int × Int)) × Int × Int)) => m_stretch_share p.1 p.2.1 p.2.2) (pair (Res.ok ar_rows) (pair (Res.ok ar_start) (Res.ok x_14)))) (Res.ok whole_1))) (Res.ok (0 : Int))) ((Res.ok false).bind fun a_34 => Res.ok (Out.rt a_34)) (Res.ok (Out.nx ())))) xs ()).bind fun (o : Out Unit Bool) => match o with | .nx z_46 => ((Res.ok true).bind fun a_52 => Res.ok a_52) | .br _ => Res.bad | .rt r => Res.ok r))
abbrev N_is_level_stretch : List Str := ["rows", "start", "end", "whole", "stop"]
theorem sc_is_level_stretch : FnScope N_is_level_stretch ["rows", "start", "end"] (defScope s_is_level_stretch) := ⟨rfl, rfl, rfl, by decide +kernel, rfl, by decide +kernel, by decide +kernel⟩
theorem bind_is_level_stretch {K : PySem.W.Frag} {mg : Str → Option Value} {T : Tx K mg} : Binds K T.d_is_level_stretch ["rows", "start", "end"] [] := FunD.bindsN T.F_is_level_stretch fun _ _ _ _ _ _ us hl => match us, hl with | [_, _, _], _ => rfl
abbrev sp_is_level_stretch (K : PySem.W.Frag) : Sp := spP K (tc (pL (pT (tc pI (t1 pI)))) (tc pI (t1 pI))) (fun (p : ((List (Int × Int)) × Int × Int)) => m_is_level_stretch p.1 p.2.1 p.2.2) pB
theorem ok_is_level_stretch (T : Tx K mg) : FnOk P w K mg base (L2.CX P w) 5 T.f_is_level_stretch T.d_is_level_stretch ["rows", "start", "end"] (sp_is_level_stretch K) := by
  refine T.F_is_level_stretch.ok sc_is_level_stretch (fun vs H Q E h => ?_) (fun cdv A outer s H vs Q E hr h => ?_)
  · obtain ⟨I, C, a, _, hr, _⟩ := h
    exact Rt.len _ hr
  · obtain ⟨I0, C0, ⟨ar_rows, ar_start, ar_end⟩, hs, ⟨v_rows, us0, rfl, r_rows, v_start, us1, rfl, r_start, v_end, rfl, r_end⟩, hm⟩ := h
    have hm : Post (m_is_level_stretch ar_rows ar_start ar_end) (PQ pB I0 C0 Q) (PX E K I0 C0) := hm
    replace r_rows : Rp.r (pL (pT (tc pI (t1 pI)))) ar_rows v_rows I0 Z := Im.im r_rows
    replace r_start : Rp.r pI ar_start v_start I0 Z := Im.im r_start
    replace r_end : Rp.r pI ar_end v_end I0 Z := Im.im r_end
    unfold m_is_level_stretch at hm
    refine ⟨_, (pss_cons (ps_set (i := 3) sc_is_level_stretch.nd rfl (Or.inl rfl) (pe_call (ok_stretch_share T) (hr.mono (by decide)) rfl T.g_stretch_share T.F_stretch_share.kp bind_stretch_share .nil passE (pa_cons (pv 0) (pa_cons (pv 1) (pa_cons (pv 2) pa_nil))))) (pss_cons (ps_for (passes_of rfl) rfl (pi_range2 (by rfl) T.gb_range (pa_cons (pe_op op_add (pv 1) pe_int) (pa_cons (pv 2) pa_nil))) (pg_name (i := 4) sc_is_level_stretch.nd rfl (Or.inl rfl)) (pss_cons (ps_if (pt_cmpR op_lt (pe_call (ok_compare T) (hr.mono (by decide)) rfl T.g_compare T.F_compare.kp bind_compare .nil passE (pa_cons (pe_call (ok_stretch_share T) (hr.mono (by decide)) rfl T.g_stretch_share T.F_stretch_share.kp bind_stretch_share .nil passE (pa_cons (pv 0) (pa_cons (pv 1) (pa_cons (pv 4) pa_nil)))) (pa_cons (pv 3) pa_nil))) pe_int (nomark _)) (pss_cons (ps_ret pe_bl) pss_nil) pss_nil) pss_nil)) (pss_cons (ps_ret pe_bl) pss_nil))), ?_⟩
    refine q_asg (E := E) (K := K) (σ := [some v_rows, some v_start, some v_end, none, none]) (i := 3) (x_call (a_cons (x_var (i := 0) rfl (Rp.mono _ (Ex.refl _) exz r_rows)) (a_cons (x_var (i := 1) rfl (Rp.mono _ (Ex.refl _) exz r_start)) (a_one (x_var (i := 2) rfl (Rp.mono _ (Ex.refl _) exz r_end)))))) hs (fun _ _ h => PX.mono (Ex.refl _) (Ex.refl _) h) hm fun whole_1 v_2 I_3 H_4 e_5 s_6 r_7 hm => ?_
    refine s_forR (E := E) (K := K) (σ := [some v_rows, some v_start, some v_end, some v_2, none]) (fun (z_8 : Unit) σ2 I_11 C_12 => ∃ w_10 : Option V, σ2 = [some v_rows, some v_start, some v_end, some v_2, w_10] ∧ Ex C0 C_12) (i_rng2 (a_cons (x_op o_add (x_var (i := 1) rfl (Rp.mono _ e_5 exz r_start)) (x_int (i := 1))) (a_one (x_var (i := 2) rfl (Rp.mono _ e_5 exz r_end))))) s_6 (fun _ _ h => PX.mono e_5 (Ex.refl _) h) hm (fun _ e_22 => ⟨none, rfl, (Ex.refl _)⟩) (fun _ _ _ _ _ => trivial) (fun _ _ _ _ _ e ⟨w_10, hs_9, fr_13⟩ => ⟨w_10, hs_9, fr_13⟩) (fun N x_14 v_15 z_8 σ2 I_16 C_17 H_18 e_19 s_20 ⟨w_10, hs_9, fr_13⟩ r_21 hm => ?_) (fun z_46 σ2 I_41 C_42 H_43 e_44 s_45 ⟨w_48, hs_47, fr_51⟩ hm => ?_)
    · subst hs_9
      refine g1 (K := K) x_14 v_15 I_16 C_17 H_18 _ s_20 r_21 fun σ2 ⟨v_23, hs_25, r_24⟩ => ?_
      subst hs_25
      refine s_if (E := E) (K := K) (σ := [some v_rows, some v_start, some v_end, some v_2, some v_23]) (t_test (x_op o_lt (x_call (a_cons (x_call (a_cons (x_var (i := 0) rfl (Rp.mono _ (e_5.trans e_19) exz r_rows)) (a_cons (x_var (i := 1) rfl (Rp.mono _ (e_5.trans e_19) exz r_start)) (a_one (x_var (i := 4) rfl (Rp.mono _ (Ex.refl _) exz r_24)))))) (a_one (x_var (i := 3) rfl (Rp.mono _ e_19 exz r_7))))) (x_int (i := 0)))) s_20 (fun _ _ h => PX.mono (e_5.trans e_19) fr_13 h) hm (fun I_26 H_27 e_28 s_29 hm => ?_) (fun I_30 H_31 e_32 s_33 hm => ?_)
      · refine q_ret (tz := tNext) (E := E) (K := K) (σ := [some v_rows, some v_start, some v_end, some v_2, some v_23]) x_bl s_29 (fun _ _ h => PX.mono (e_5.trans (e_19.trans e_28)) fr_13 h) hm fun a_34 v_35 I_36 H_37 e_38 s_39 r_40 hm => ?_
        exact hm v_35 I_36 H_37 (e_5.trans (e_19.trans (e_28.trans e_38))) (St.less s_39 fr_13) (Im.im r_40)
      · exact hm _ _ _ _ e_32 s_33 ⟨some v_23, rfl, fr_13⟩
    subst hs_47
    refine q_ret (tz := tNext) (E := E) (K := K) (σ := [some v_rows, some v_start, some v_end, some v_2, w_48]) x_bl s_45 (fun _ _ h => PX.mono (e_5.trans e_44) fr_51 h) hm fun a_52 v_53 I_54 H_55 e_56 s_57 r_58 hm => ?_
    exact hm v_53 I_54 H_55 (e_5.trans (e_44.trans e_56)) (St.less s_57 fr_51) (Im.im r_58)
def m_is_rising (ar_rows : (List (Int × Int))) (ar_stretches : (List (Int × Int))) : Res Bool :=
  ((un m_check_groups (Res.ok ar_rows)).bind fun (b_1 : Unit) => ((Res.ok (0 : Int)).bind fun (place_6 : Int) => ((pair (un rNeg (Res.ok (1 : Int))) (Res.ok (1 : Int))).bind fun (last_13 : (Int × Int)) => (((Res.ok ar_stretches).bind fun xs => loopR (fun (x_32 : (Int × Int)) (z_20 : (Int × (Int × Int))) => (ifR (orR (bin neR (Res.ok x_32.1) (Res.ok z_20.1)) (orR (bin rLe (Res.ok x_32.2) (Res.ok x_32.1)) (bin rGt (Res.ok x_32.2) (un rLen (Res.ok ar_rows))))) ((Res.ok false).bind fun a_54 => Res.ok (Out.rt a_54)) ((un (fun (p : ((List (Int × Int)) × Int × Int)) => m_stretch_share p.1 p.2.1 p.2.2) (pair (Res.ok ar_rows) (pair (Res.ok x_32.1) (Res.ok x_32.2)))).bind fun (share_61 : (Int × Int)) => (ifR (orR (bin rGe (un (fun (p : ((Int × Int) × (Int × Int))) => m_compare p.1 p.2) (pair (Res.ok z_20.2) (Res.ok share_61))) (Res.ok (0 : Int))) (un notR (un (fun (p : ((List (Int × Int)) × Int × Int)) => m_is_level_stretch p.1 p.2.1 p.2.2) (pair (Res.ok ar_rows) (pair (Res.ok x_32.1) (Res.ok x_32.2)))))) ((Res.ok false).bind fun a_76 => Res.ok (Out.rt a_76)) ((Res.ok x_32.2).bind fun (place_83 : Int) => ((Res.ok share_61).bind fun (last_90 : (Int × Int)) => (Res.ok (Out.nx (place_83, last_90))))))))) xs (place_6, last_13)).bind fun (o : Out (Int × (Int × Int)) Bool) => match o with | .nx z_102 => ((bin eqR (Res.ok z_102.1) (un rLen (Res.ok ar_rows))).bind fun a_114 => Res.ok a_114) | .br _ => Res.bad | .rt r => Res.ok r))))
abbrev N_is_rising : List Str := ["rows", "stretches", "place", "last", "start", "end", "share"]
theorem sc_is_rising : FnScope N_is_rising ["rows", "stretches"] (defScope s_is_rising) := ⟨rfl, rfl, rfl, by decide +kernel, rfl, by decide +kernel, by decide +kernel⟩
theorem bind_is_rising {K : PySem.W.Frag} {mg : Str → Option Value} {T : Tx K mg} : Binds K T.d_is_rising ["rows", "stretches"] [] := FunD.bindsN T.F_is_rising fun _ _ _ _ _ _ us hl => match us, hl with | [_, _], _ => rfl
abbrev sp_is_rising (K : PySem.W.Frag) : Sp := spP K (tc (pL (pT (tc pI (t1 pI)))) (t1 (pV (pT (tc pI (t1 pI)))))) (fun (p : ((List (Int × Int)) × (List (Int × Int)))) => m_is_rising p.1 p.2) pB
theorem ok_is_rising (T : Tx K mg) : FnOk P w K mg base (L2.CX P w) 6 T.f_is_rising T.d_is_rising ["rows", "stretches"] (sp_is_rising K) := by
  refine T.F_is_rising.ok sc_is_rising (fun vs H Q E h => ?_) (fun cdv A outer s H vs Q E hr h => ?_)
  · obtain ⟨I, C, a, _, hr, _⟩ := h
    exact Rt.len _ hr
  · obtain ⟨I0, C0, ⟨ar_rows, ar_stretches⟩, hs, ⟨v_rows, us0, rfl, r_rows, v_stretches, rfl, r_stretches⟩, hm⟩ := h
    have hm : Post (m_is_rising ar_rows ar_stretches) (PQ pB I0 C0 Q) (PX E K I0 C0) := hm
    replace r_rows : Rp.r (pL (pT (tc pI (t1 pI)))) ar_rows v_rows I0 Z := Im.im r_rows
    unfold m_is_rising at hm
    refine ⟨_, (pss_cons (ps_expr (pe_call (ok_check_groups T) (hr.mono (by decide)) rfl T.g_check_groups T.F_check_groups.kp bind_check_groups .nil passE (pa_cons (pv 0) pa_nil))) (pss_cons (ps_set (i := 2) sc_is_rising.nd rfl (Or.inl rfl) pe_int) (pss_cons (ps_set (i := 3) sc_is_rising.nd rfl (Or.inl rfl) (pe_tup (pa_cons (pe_un un_neg pe_int) (pa_cons pe_int pa_nil)))) (pss_cons (ps_for (passes_of rfl) rfl (show PI _ _ _ (iList K _) from pi_list (pv 1)) (show PG _ _ (gTup K 2 _) from pg_tup rfl (pgs_cons (pg_name (i := 4) sc_is_rising.nd rfl (Or.inl rfl)) (pgs_cons (pg_name (i := 5) sc_is_rising.nd rfl (Or.inl rfl)) pgs_nil))) (pss_cons (ps_if (PW.pt (pw_or (pt_cmpR op_ne (pv 4) (pv 2) (nomark _)) (pw_or (pt_cmpR op_le (pv 5) (pv 4) (nomark _)) (pw_or1 (pt_cmpR op_gt (pv 5) (pe_callB (r := rLen1 K) call_len_seq (by rfl) T.gb_len bt_len (pa_cons (pv 0) pa_nil)) (nomark _)))))) (pss_cons (ps_ret pe_bl) pss_nil) pss_nil) (pss_cons (ps_set (i := 6) sc_is_rising.nd rfl (Or.inl rfl) (pe_call (ok_stretch_share T) (hr.mono (by decide)) rfl T.g_stretch_share T.F_stretch_share.kp bind_stretch_share .nil passE (pa_cons (pv 0) (pa_cons (pv 4) (pa_cons (pv 5) pa_nil))))) (pss_cons (ps_if (PW.pt (pw_or (pt_cmpR op_ge (pe_call (ok_compare T) (hr.mono (by decide)) rfl T.g_compare T.F_compare.kp bind_compare .nil passE (pa_cons (pv 3) (pa_cons (pv 6) pa_nil))) pe_int (nomark _)) (pw_or1 (pt_not (pt_val (pe_call (ok_is_level_stretch T) (hr.mono (by decide)) rfl T.g_is_level_stretch T.F_is_level_stretch.kp bind_is_level_stretch .nil passE (pa_cons (pv 0) (pa_cons (pv 4) (pa_cons (pv 5) pa_nil))))))))) (pss_cons (ps_ret pe_bl) pss_nil) pss_nil) (pss_cons (ps_set (i := 2) sc_is_rising.nd rfl (Or.inl rfl) (pv 5)) (pss_cons (ps_set (i := 3) sc_is_rising.nd rfl (Or.inl rfl) (pv 6)) pss_nil)))))) (pss_cons (ps_ret (pe_cmpR op_eq (pv 2) (pe_callB (r := rLen1 K) call_len_seq (by rfl) T.gb_len bt_len (pa_cons (pv 0) pa_nil)) (nomark _))) pss_nil))))), ?_⟩
    refine s_expr (E := E) (K := K) (σ := [some v_rows, some v_stretches, none, none, none, none, none]) (x_call (a_one (x_var (i := 0) rfl (Rp.mono _ (Ex.refl _) exz r_rows)))) hs (fun _ _ h => PX.mono (Ex.refl _) (Ex.refl _) h) hm fun b_1 I_2 H_3 e_4 s_5 hm => ?_
    refine q_asg (E := E) (K := K) (σ := [some v_rows, some v_stretches, none, none, none, none, none]) (i := 2) (x_int (i := 0)) s_5 (fun _ _ h => PX.mono e_4 (Ex.refl _) h) hm fun place_6 v_7 I_8 H_9 e_10 s_11 r_12 hm => ?_
    refine q_asg (E := E) (K := K) (σ := [some v_rows, some v_stretches, some v_7, none, none, none, none]) (i := 3) (x_tup (a_cons (x_un o_neg (x_int (i := 1))) (a_one (x_int (i := 1)))) (Nat.le_of_ble_eq_true rfl)) s_11 (fun _ _ h => PX.mono (e_4.trans e_10) (Ex.refl _) h) hm fun last_13 v_14 I_15 H_16 e_17 s_18 r_19 hm => ?_
    refine s_forR (E := E) (K := K) (σ := [some v_rows, some v_stretches, some v_7, some v_14, none, none, none]) (fun (z_20 : (Int × (Int × Int))) σ2 I_25 C_26 => ∃ w_22 : Option V, ∃ w_23 : Option V, ∃ w_24 : Option V, ∃ v_27 : V, ∃ v_29 : V, σ2 = [some v_rows, some v_stretches, some v_27, some v_29, w_22, w_23, w_24] ∧ Rp.r pI z_20.1 v_27 I_25 Z ∧ Rp.r (pT (tc pI (t1 pI))) z_20.2 v_29 I_25 Z ∧ Ex C0 C_26) (i_view (i := 1) (B := C0) rfl (Rp.mono _ (e_4.trans (e_10.trans e_17)) (Ex.refl _) r_stretches) (Ex.refl _)) s_18 (fun _ _ h => PX.mono (e_4.trans (e_10.trans e_17)) (Ex.refl _) h) hm (fun _ e_40 => ⟨none, none, none, v_7, v_14, rfl, Rp.mono _ (Ex.trans e_17 e_40) exz r_12, Rp.mono _ (Ex.trans (Ex.refl _) e_40) exz r_19, (Ex.refl _)⟩) (fun _ _ _ _ ⟨w_22, w_23, w_24, v_27, v_29, hs_21, r_28, r_30, fr_31⟩ => fr_31) (fun _ _ _ _ _ e ⟨w_22, w_23, w_24, v_27, v_29, hs_21, r_28, r_30, fr_31⟩ => ⟨w_22, w_23, w_24, v_27, v_29, hs_21, Rp.mono _ e exz r_28, Rp.mono _ e exz r_30, fr_31⟩) (fun N x_32 v_33 z_20 σ2 I_34 C_35 H_36 e_37 s_38 ⟨w_22, w_23, w_24, v_27, v_29, hs_21, r_28, r_30, fr_31⟩ r_39 hm => ?_) (fun z_102 σ2 I_97 C_98 H_99 e_100 s_101 ⟨w_104, w_105, w_106, v_109, v_111, hs_103, r_110, r_112, fr_113⟩ hm => ?_)
    · subst hs_21
      refine g2 (K := K) x_32 v_33 I_34 C_35 H_36 _ s_38 r_39 fun σ2 ⟨v_41, v_42, hs_45, r_43, r_44⟩ => ?_
      subst hs_45
      refine s_if (E := E) (K := K) (σ := [some v_rows, some v_stretches, some v_27, some v_29, some v_41, some v_42, w_24]) (t_or (t_test (x_op o_neI (x_var (i := 4) rfl (Rp.mono _ (Ex.refl _) exz r_43)) (x_var (i := 2) rfl (Rp.mono _ (Ex.refl _) exz r_28)))) (t_or (t_test (x_op o_le (x_var (i := 5) rfl (Rp.mono _ (Ex.refl _) exz r_44)) (x_var (i := 4) rfl (Rp.mono _ (Ex.refl _) exz r_43)))) (t_test (x_op o_gt (x_var (i := 5) rfl (Rp.mono _ (Ex.refl _) exz r_44)) (x_cb o_len (a_one (x_v (x_var (i := 0) rfl (Rp.mono _ (e_4.trans (e_10.trans (e_17.trans e_37))) exz r_rows))))))))) s_38 (fun _ _ h => PX.mono (e_4.trans (e_10.trans (e_17.trans e_37))) fr_31 h) hm (fun I_46 H_47 e_48 s_49 hm => ?_) (fun I_50 H_51 e_52 s_53 hm => ?_)
      · refine q_ret (tz := tNext) (E := E) (K := K) (σ := [some v_rows, some v_stretches, some v_27, some v_29, some v_41, some v_42, w_24]) x_bl s_49 (fun _ _ h => PX.mono (e_4.trans (e_10.trans (e_17.trans (e_37.trans e_48)))) fr_31 h) hm fun a_54 v_55 I_56 H_57 e_58 s_59 r_60 hm => ?_
        exact hm v_55 I_56 H_57 (e_4.trans (e_10.trans (e_17.trans (e_37.trans (e_48.trans e_58))))) (St.less s_59 fr_31) (Im.im r_60)
      · refine q_asg (E := E) (K := K) (σ := [some v_rows, some v_stretches, some v_27, some v_29, some v_41, some v_42, w_24]) (i := 6) (x_call (a_cons (x_var (i := 0) rfl (Rp.mono _ (e_4.trans (e_10.trans (e_17.trans (e_37.trans e_52)))) exz r_rows)) (a_cons (x_var (i := 4) rfl (Rp.mono _ e_52 exz r_43)) (a_one (x_var (i := 5) rfl (Rp.mono _ e_52 exz r_44)))))) s_53 (fun _ _ h => PX.mono (e_4.trans (e_10.trans (e_17.trans (e_37.trans e_52)))) fr_31 h) hm fun share_61 v_62 I_63 H_64 e_65 s_66 r_67 hm => ?_
        refine s_if (E := E) (K := K) (σ := [some v_rows, some v_stretches, some v_27, some v_29, some v_41, some v_42, some v_62]) (t_or (t_test (x_op o_ge (x_call (a_cons (x_var (i := 3) rfl (Rp.mono _ (e_52.trans e_65) exz r_30)) (a_one (x_var (i := 6) rfl (Rp.mono _ (Ex.refl _) exz r_67))))) (x_int (i := 0)))) (t_not (t_B (x_call (a_cons (x_var (i := 0) rfl (Rp.mono _ (e_4.trans (e_10.trans (e_17.trans (e_37.trans (e_52.trans e_65))))) exz r_rows)) (a_cons (x_var (i := 4) rfl (Rp.mono _ (e_52.trans e_65) exz r_43)) (a_one (x_var (i := 5) rfl (Rp.mono _ (e_52.trans e_65) exz r_44))))))))) s_66 (fun _ _ h => PX.mono (e_4.trans (e_10.trans (e_17.trans (e_37.trans (e_52.trans e_65))))) fr_31 h) hm (fun I_68 H_69 e_70 s_71 hm => ?_) (fun I_72 H_73 e_74 s_75 hm => ?_)
        · refine q_ret (tz := tNext) (E := E) (K := K) (σ := [some v_rows, some v_stretches, some v_27, some v_29, some v_41, some v_42, some v_62]) x_bl s_71 (fun _ _ h => PX.mono (e_4.trans (e_10.trans (e_17.trans (e_37.trans (e_52.trans (e_65.trans e_70)))))) fr_31 h) hm fun a_76 v_77 I_78 H_79 e_80 s_81 r_82 hm => ?_
          exact hm v_77 I_78 H_79 (e_4.trans (e_10.trans (e_17.trans (e_37.trans (e_52.trans (e_65.trans (e_70.trans e_80))))))) (St.less s_81 fr_31) (Im.im r_82)
        · refine q_asg (E := E) (K := K) (σ := [some v_rows, some v_stretches, some v_27, some v_29, some v_41, some v_42, some v_62]) (i := 2) (x_var (i := 5) rfl (Rp.mono _ (e_52.trans (e_65.trans e_74)) exz r_44)) s_75 (fun _ _ h => PX.mono (e_4.trans (e_10.trans (e_17.trans (e_37.trans (e_52.trans (e_65.trans e_74)))))) fr_31 h) hm fun place_83 v_84 I_85 H_86 e_87 s_88 r_89 hm => ?_
          refine q_asg (E := E) (K := K) (σ := [some v_rows, some v_stretches, some v_84, some v_29, some v_41, some v_42, some v_62]) (i := 3) (x_var (i := 6) rfl (Rp.mono _ (e_74.trans e_87) exz r_67)) s_88 (fun _ _ h => PX.mono (e_4.trans (e_10.trans (e_17.trans (e_37.trans (e_52.trans (e_65.trans (e_74.trans e_87))))))) fr_31 h) hm fun last_90 v_91 I_92 H_93 e_94 s_95 r_96 hm => ?_
          exact hm _ _ _ _ (e_52.trans (e_65.trans (e_74.trans (e_87.trans e_94)))) s_95 ⟨some v_41, some v_42, some v_62, v_84, v_91, rfl, Rp.mono _ e_94 exz r_89, Rp.mono _ (Ex.refl _) exz r_96, fr_31⟩
    subst hs_103
    refine q_ret (tz := tNext) (E := E) (K := K) (σ := [some v_rows, some v_stretches, some v_109, some v_111, w_104, w_105, w_106]) (x_op o_eqI (x_var (i := 2) rfl (Rp.mono _ (Ex.refl _) exz r_110)) (x_cb o_len (a_one (x_v (x_var (i := 0) rfl (Rp.mono _ (e_4.trans (e_10.trans (e_17.trans e_100))) exz r_rows)))))) s_101 (fun _ _ h => PX.mono (e_4.trans (e_10.trans (e_17.trans e_100))) fr_113 h) hm fun a_114 v_115 I_116 H_117 e_118 s_119 r_120 hm => ?_
    exact hm v_115 I_116 H_117 (e_4.trans (e_10.trans (e_17.trans (e_100.trans e_118)))) (St.less s_119 fr_113) (Im.im r_120)
def m_rising_chances (ar_rows : (List (Int × Int))) : Res (List (Int × Int)) :=
  ((un m_check_groups (Res.ok ar_rows)).bind fun (b_1 : Unit) => ((Res.ok ([] : List (Int × Int))).bind fun (chances_6 : (List (Int × Int))) => (((un m_blocks_of (Res.ok ar_rows)).bind fun xs => loopN (fun (x_33 : (Int × Int)) (z_21 : (List (Int × Int))) => ((un (fun (p : ((List (Int × Int)) × Int × Int)) => m_stretch_share p.1 p.2.1 p.2.2) (pair (Res.ok ar_rows) (pair (Res.ok x_33.1) (Res.ok x_33.2)))).bind fun (share_47 : (Int × Int)) => ((((un rng2 (pair (Res.ok x_33.1) (Res.ok x_33.2))).bind (mapR (fun (x_54 : Int) => (Res.ok share_47)))).bind fun x => rCatR z_21 x).bind fun (chances_61 : (List (Int × Int))) => (Res.ok chances_61)))) xs chances_6).bind fun (z_78 : (List (Int × Int))) => (Res.ok z_78))))
abbrev N_rising_chances : List Str := ["rows", "chances", "start", "end", "share", "_"]
theorem sc_rising_chances : FnScope N_rising_chances ["rows"] (defScope s_rising_chances) := ⟨rfl, rfl, rfl, by decide +kernel, rfl, by decide +kernel, by decide +kernel⟩
theorem bind_rising_chances {K : PySem.W.Frag} {mg : Str → Option Value} {T : Tx K mg} : Binds K T.d_rising_chances ["rows"] [] := FunD.bindsN T.F_rising_chances fun _ _ _ _ _ _ us hl => match us, hl with | [_], _ => rfl
abbrev sp_rising_chances (K : PySem.W.Frag) : Sp := spO K (t1 (pL (pT (tc pI (t1 pI))))) m_rising_chances (pT (tc pI (t1 pI)))
theorem ok_rising_chances (T : Tx K mg) : FnOk P w K mg base (L2.CX P w) 6 T.f_rising_chances T.d_rising_chances ["rows"] (sp_rising_chances K) := by
  refine T.F_rising_chances.ok sc_rising_chances (fun vs H Q E h => ?_) (fun cdv A outer s H vs Q E hr h => ?_)
  · obtain ⟨I, C, a, _, hr, _⟩ := h
    exact Rt.len _ hr
  · obtain ⟨I0, C0, ar_rows, hs, ⟨v_rows, rfl, r_rows⟩, hm⟩ := h
    have hm : Post (m_rising_chances ar_rows) (PN (pT (tc pI (t1 pI))) I0 C0 Q) (PX E K I0 C0) := hm
    replace r_rows : Rp.r (pL (pT (tc pI (t1 pI)))) ar_rows v_rows I0 Z := Im.im r_rows
    unfold m_rising_chances at hm
    refine ⟨_, (pss_cons (ps_expr (pe_call (ok_check_groups T) (hr.mono (by decide)) rfl T.g_check_groups T.F_check_groups.kp bind_check_groups .nil passE (pa_cons (pv 0) pa_nil))) (pss_cons (ps_set (i := 1) sc_rising_chances.nd rfl (Or.inl rfl) (pe_lst pa_nil)) (pss_cons (ps_for (passes_of rfl) rfl (show PI _ _ _ (iList K _) from pi_list (pe_call (ok_blocks_of T) (hr.mono (by decide)) rfl T.g_blocks_of T.F_blocks_of.kp bind_blocks_of .nil passE (pa_cons (pv 0) pa_nil))) (show PG _ _ (gTup K 2 _) from pg_tup rfl (pgs_cons (pg_name (i := 2) sc_rising_chances.nd rfl (Or.inl rfl)) (pgs_cons (pg_name (i := 3) sc_rising_chances.nd rfl (Or.inl rfl)) pgs_nil))) (pss_cons (ps_set (i := 4) sc_rising_chances.nd rfl (Or.inr rfl) (pe_call (ok_stretch_share T) (hr.mono (by decide)) rfl T.g_stretch_share T.F_stretch_share.kp bind_stretch_share .nil passE (pa_cons (pv 0) (pa_cons (pv 2) (pa_cons (pv 3) pa_nil))))) (pss_cons (ps_expr (show PE _ _ (tBM K "list" rExtend _ _) from pe_bm PySem.F.plainAttrs_list PySem.F.slot_list_extend PySem.F.type_list_extend mt_extend (pv 1) (pa_cons (pe_lc (own := [("_", 5)]) rfl sc_rising_chances.nd (pi_range2 (by rfl) T.gb_range (pa_cons (pv 2) (pa_cons (pv 3) pa_nil))) (blkOk_by (own := [("_", 5)]) (N := N_rising_chances) (sc := defScope s_rising_chances) (by decide +kernel)) (fun _ _ _ _ _ => (pg_name (i := 5) sc_rising_chances.nd rfl (Or.inl rfl))) (fun _ _ _ _ _ => pts_nil) (fun _ _ _ _ _ => (pv 4))) pa_nil))) pss_nil))) (pss_cons (ps_ret (pv 1)) pss_nil)))), ?_⟩
    refine s_expr (E := E) (K := K) (σ := [some v_rows, none, none, none, none, none]) (x_call (a_one (x_var (i := 0) rfl (Rp.mono _ (Ex.refl _) exz r_rows)))) hs (fun _ _ h => PX.mono (Ex.refl _) (Ex.refl _) h) hm fun b_1 I_2 H_3 e_4 s_5 hm => ?_
    refine q_asgN (E := E) (K := K) (σ := [some v_rows, none, none, none, none, none]) (i := 1) (n_lst (R := (pT (tc pI (t1 pI)))) al_nil (by decide)) s_5 (fun _ _ h => PX.mono e_4 (Ex.refl _) h) hm fun chances_6 p_7 vs_8 I_9 C_10 H_11 e_12 hp_13 s_14 hc_15 k_16 hl_17 hr_18 hm => ?_
    have hB_19 := Ex.free (Ex.refl _) hp_13
    have fr_20 := fr_keep (Ex.refl _) hB_19 k_16
    refine s_forN (E := E) (K := K) (σ := [some v_rows, some (.ref p_7), none, none, none, none]) (fun (z_21 : (List (Int × Int))) σ2 I_26 C_27 => ∃ w_23 : Option V, ∃ w_24 : Option V, ∃ w_25 : Option V, σ2 = [some v_rows, some (.ref p_7), w_23, w_24, w_25, none] ∧ (∃ vs_28 : List V, C_27 p_7 = some (.lst vs_28) ∧ vs_28.length ≤ sizeLine ∧ A2 (fun x u => Rp.r (pT (tc pI (t1 pI))) x u I_26 Z) z_21 vs_28) ∧ Ex C0 C_27) (i_list (x_own (n_call (a_one (x_var (i := 0) rfl (Rp.mono _ (e_4.trans e_12) exz r_rows)))))) s_14 (fun _ _ h => PX.mono (e_4.trans e_12) fr_20 h) hm (fun _ e_41 => ⟨none, none, none, rfl, ⟨_, hc_15, hl_17, a2up (Ex.trans (Ex.refl _) e_41) hr_18⟩, fr_20⟩) (fun _ _ _ _ _ => trivial) (fun _ _ _ _ _ e ⟨w_23, w_24, w_25, hs_22, ⟨vs_28, hc_29, hl_30, hr_31⟩, fr_32⟩ => ⟨w_23, w_24, w_25, hs_22, ⟨vs_28, hc_29, hl_30, a2up e hr_31⟩, fr_32⟩) (fun N x_33 v_34 z_21 σ2 I_35 C_36 H_37 e_38 s_39 ⟨w_23, w_24, w_25, hs_22, ⟨vs_28, hc_29, hl_30, hr_31⟩, fr_32⟩ r_40 hm => ?_) (fun z_78 σ2 I_73 C_74 H_75 e_76 s_77 ⟨w_80, w_81, w_82, hs_79, ⟨vs_85, hc_86, hl_87, hr_88⟩, fr_89⟩ hm => ?_)
    · subst hs_22
      refine g2 (K := K) x_33 v_34 I_35 C_36 H_37 _ s_39 r_40 fun σ2 ⟨v_42, v_43, hs_46, r_44, r_45⟩ => ?_
      subst hs_46
      refine q_asg (E := E) (K := K) (σ := [some v_rows, some (.ref p_7), some v_42, some v_43, w_25, none]) (i := 4) (x_call (a_cons (x_var (i := 0) rfl (Rp.mono _ (e_4.trans (e_12.trans e_38)) exz r_rows)) (a_cons (x_var (i := 2) rfl (Rp.mono _ (Ex.refl _) exz r_44)) (a_one (x_var (i := 3) rfl (Rp.mono _ (Ex.refl _) exz r_45)))))) s_39 (fun _ _ h => PX.mono (e_4.trans (e_12.trans e_38)) fr_32 h) hm fun share_47 v_48 I_49 H_50 e_51 s_52 r_53 hm => ?_
      refine q_ext (E := E) (K := K) (σ := [some v_rows, some (.ref p_7), some v_42, some v_43, some v_48, none]) (i := 1) rfl hc_29 (a2up e_51 hr_31) (x_lc (i_rng2 (a_cons (x_var (i := 2) rfl (Rp.mono _ e_51 exz r_44)) (a_one (x_var (i := 3) rfl (Rp.mono _ e_51 exz r_45))))) g1 (fun _ _ _ _ ⟨_, h, _⟩ => by rw [h]; rfl) (fun x_54 σ2 I_55 C_56 e_57 c_58 ⟨v_59, h, r_60⟩ => by subst h; exact (x_var (i := 4) rfl (Rp.mono _ e_57 exz r_53))) (fun _ _ _ _ _ e ⟨v_59, h, r_60⟩ => ⟨v_59, h, Rp.mono _ e exz r_60⟩)) s_52 (fun _ _ h => PX.mono (e_4.trans (e_12.trans (e_38.trans e_51))) fr_32 h) hm fun chances_61 vs_62 I_63 C_64 H_65 e_66 s_67 hc_68 k_69 hl_70 hr_71 hm => ?_
      have fr_72 := fr_keep fr_32 hB_19 k_69
      exact hm _ _ _ _ (e_51.trans e_66) s_67 ⟨some v_42, some v_43, some v_48, rfl, ⟨_, hc_68, hl_70, a2up (Ex.refl _) hr_71⟩, fr_72⟩
    subst hs_79
    refine q_retO (i := 1) rfl s_77 fr_89 hB_19 hc_86 hl_87 (a2up (Ex.refl _) hr_88) fun s hr => ?_
    exact hm _ _ _ _ (e_4.trans (e_12.trans e_76)) hB_19 s hl_87 hr
def m_greater (ar_one : (Int × Int)) (ar_two : (Int × Int)) : Res (Int × Int) :=
  (ifR (bin rGe (un (fun (p : ((Int × Int) × (Int × Int))) => m_compare p.1 p.2) (pair (Res.ok ar_one) (Res.ok ar_two))) (Res.ok (0 : Int))) ((Res.ok ar_one).bind fun a_9 => Res.ok a_9) ((Res.ok ar_two).bind fun a_16 => Res.ok a_16))
abbrev N_greater : List Str := ["one", "two"]
theorem sc_greater : FnScope N_greater ["one", "two"] (defScope s_greater) := ⟨rfl, rfl, rfl, by decide +kernel, rfl, by decide +kernel, by decide +kernel⟩
theorem bind_greater {K : PySem.W.Frag} {mg : Str → Option Value} {T : Tx K mg} : Binds K T.d_greater ["one", "two"] [] := FunD.bindsN T.F_greater fun _ _ _ _ _ _ us hl => match us, hl with | [_, _], _ => rfl
abbrev sp_greater (K : PySem.W.Frag) : Sp := spP K (tc (pT (tc pI (t1 pI))) (t1 (pT (tc pI (t1 pI))))) (fun (p : ((Int × Int) × (Int × Int))) => m_greater p.1 p.2) (pT (tc pI (t1 pI)))
theorem ok_greater (T : Tx K mg) : FnOk P w K mg base (L2.CX P w) 2 T.f_greater T.d_greater ["one", "two"] (sp_greater K) := by
  refine T.F_greater.ok sc_greater (fun vs H Q E h => ?_) (fun cdv A outer s H vs Q E hr h => ?_)
  · obtain ⟨I, C, a, _, hr, _⟩ := h
    exact Rt.len _ hr
  · obtain ⟨I0, C0, ⟨ar_one, ar_two⟩, hs, ⟨v_one, us0, rfl, r_one, v_two, rfl, r_two⟩, hm⟩ := h
    have hm : Post (m_greater ar_one ar_two) (PQ (pT (tc pI (t1 pI))) I0 C0 Q) (PX E K I0 C0) := hm
    replace r_one : Rp.r (pT (tc pI (t1 pI))) ar_one v_one I0 Z := Im.im r_one
    replace r_two : Rp.r (pT (tc pI (t1 pI))) ar_two v_two I0 Z := Im.im r_two
    unfold m_greater at hm
    refine ⟨_, (pss_cons (ps_if (pt_cmpR op_ge (pe_call (ok_compare T) (hr.mono (by decide)) rfl T.g_compare T.F_compare.kp bind_compare .nil passE (pa_cons (pv 0) (pa_cons (pv 1) pa_nil))) pe_int (nomark _)) (pss_cons (ps_ret (pv 0)) pss_nil) pss_nil) (pss_cons (ps_ret (pv 1)) pss_nil)), ?_⟩
    refine s_if (E := E) (K := K) (σ := [some v_one, some v_two]) (t_test (x_op o_ge (x_call (a_cons (x_var (i := 0) rfl (Rp.mono _ (Ex.refl _) exz r_one)) (a_one (x_var (i := 1) rfl (Rp.mono _ (Ex.refl _) exz r_two))))) (x_int (i := 0)))) hs (fun _ _ h => PX.mono (Ex.refl _) (Ex.refl _) h) hm (fun I_1 H_2 e_3 s_4 hm => ?_) (fun I_5 H_6 e_7 s_8 hm => ?_)
    · refine q_ret (tz := tNext) (E := E) (K := K) (σ := [some v_one, some v_two]) (x_var (i := 0) rfl (Rp.mono _ e_3 exz r_one)) s_4 (fun _ _ h => PX.mono e_3 (Ex.refl _) h) hm fun a_9 v_10 I_11 H_12 e_13 s_14 r_15 hm => ?_
      exact hm v_10 I_11 H_12 (e_3.trans e_13) (St.less s_14 (Ex.refl _)) (Im.im r_15)
    · refine q_ret (tz := tNext) (E := E) (K := K) (σ := [some v_one, some v_two]) (x_var (i := 1) rfl (Rp.mono _ e_7 exz r_two)) s_8 (fun _ _ h => PX.mono e_7 (Ex.refl _) h) hm fun a_16 v_17 I_18 H_19 e_20 s_21 r_22 hm => ?_
      exact hm v_17 I_18 H_19 (e_7.trans e_20) (St.less s_21 (Ex.refl _)) (Im.im r_22)
def m_lesser (ar_one : (Int × Int)) (ar_two : (Int × Int)) : Res (Int × Int) :=
  (ifR (bin rLe (un (fun (p : ((Int × Int) × (Int × Int))) => m_compare p.1 p.2) (pair (Res.ok ar_one) (Res.ok ar_two))) (Res.ok (0 : Int))) ((Res.ok ar_one).bind fun a_9 => Res.ok a_9) ((Res.ok ar_two).bind fun a_16 => Res.ok a_16))
abbrev N_lesser : List Str := ["one", "two"]
theorem sc_lesser : FnScope N_lesser ["one", "two"] (defScope s_lesser) := ⟨rfl, rfl, rfl, by decide +kernel, rfl, by decide +kernel, by decide +kernel⟩
theorem bind_lesser {K : PySem.W.Frag} {mg : Str → Option Value} {T : Tx K mg} : Binds K T.d_lesser ["one", "two"] [] := FunD.bindsN T.F_lesser fun _ _ _ _ _ _ us hl => match us, hl with | [_, _], _ => rfl
abbrev sp_lesser (K : PySem.W.Frag) : Sp := spP K (tc (pT (tc pI (t1 pI))) (t1 (pT (tc pI (t1 pI))))) (fun (p : ((Int × Int) × (Int × Int))) => m_lesser p.1 p.2) (pT (tc pI (t1 pI)))
theorem ok_lesser (T : Tx K mg) : FnOk P w K mg base (L2.CX P w) 2 T.f_lesser T.d_lesser ["one", "two"] (sp_lesser K) := by
  refine T.F_lesser.ok sc_lesser (fun vs H Q E h => ?_) (fun cdv A outer s H vs Q E hr h => ?_)
  · obtain ⟨I, C, a, _, hr, _⟩ := h
    exact Rt.len _ hr
  · obtain ⟨I0, C0, ⟨ar_one, ar_two⟩, hs, ⟨v_one, us0, rfl, r_one, v_two, rfl, r_two⟩, hm⟩ := h
    have hm : Post (m_lesser ar_one ar_two) (PQ (pT (tc pI (t1 pI))) I0 C0 Q) (PX E K I0 C0) := hm
    replace r_one : Rp.r (pT (tc pI (t1 pI))) ar_one v_one I0 Z := Im.im r_one
    replace r_two : Rp.r (pT (tc pI (t1 pI))) ar_two v_two I0 Z := Im.im r_two
    unfold m_lesser at hm
    refine ⟨_, (pss_cons (ps_if (pt_cmpR op_le (pe_call (ok_compare T) (hr.mono (by decide)) rfl T.g_compare T.F_compare.kp bind_compare .nil passE (pa_cons (pv 0) (pa_cons (pv 1) pa_nil))) pe_int (nomark _)) (pss_cons (ps_ret (pv 0)) pss_nil) pss_nil) (pss_cons (ps_ret (pv 1)) pss_nil)), ?_⟩
    refine s_if (E := E) (K := K) (σ := [some v_one, some v_two]) (t_test (x_op o_le (x_call (a_cons (x_var (i := 0) rfl (Rp.mono _ (Ex.refl _) exz r_one)) (a_one (x_var (i := 1) rfl (Rp.mono _ (Ex.refl _) exz r_two))))) (x_int (i := 0)))) hs (fun _ _ h => PX.mono (Ex.refl _) (Ex.refl _) h) hm (fun I_1 H_2 e_3 s_4 hm => ?_) (fun I_5 H_6 e_7 s_8 hm => ?_)
    · refine q_ret (tz := tNext) (E := E) (K := K) (σ := [some v_one, some v_two]) (x_var (i := 0) rfl (Rp.mono _ e_3 exz r_one)) s_4 (fun _ _ h => PX.mono e_3 (Ex.refl _) h) hm fun a_9 v_10 I_11 H_12 e_13 s_14 r_15 hm => ?_
      exact hm v_10 I_11 H_12 (e_3.trans e_13) (St.less s_14 (Ex.refl _)) (Im.im r_15)
    · refine q_ret (tz := tNext) (E := E) (K := K) (σ := [some v_one, some v_two]) (x_var (i := 1) rfl (Rp.mono _ e_7 exz r_two)) s_8 (fun _ _ h => PX.mono e_7 (Ex.refl _) h) hm fun a_16 v_17 I_18 H_19 e_20 s_21 r_22 hm => ?_
      exact hm v_17 I_18 H_19 (e_7.trans e_20) (St.less s_21 (Ex.refl _)) (Im.im r_22)
def m_max_min (ar_rows : (List (Int × Int))) (ar_k : Int) : Res (Int × Int) :=
  ((un m_check_groups (Res.ok ar_rows)).bind fun (b_1 : Unit) => ((pair (Res.ok (0 : Int)) (Res.ok (1 : Int))).bind fun (best_6 : (Int × Int)) => (((un rng1 (bin rAdd (Res.ok ar_k) (Res.ok (1 : Int)))).bind fun xs => loopN (fun (x_23 : Int) (z_13 : (Int × Int)) => ((pair (Res.ok (1 : Int)) (Res.ok (1 : Int))).bind fun (least_35 : (Int × Int)) => (((un rng2 (pair (bin rAdd (Res.ok ar_k) (Res.ok (1 : Int))) (bin rAdd (un rLen (Res.ok ar_rows)) (Res.ok (1 : Int))))).bind fun xs => loopN (fun (x_50 : Int) (z_42 : (Int × Int)) => ((un (fun (p : ((Int × Int) × (Int × Int))) => m_lesser p.1 p.2) (pair (Res.ok z_42) (un (fun (p : ((List (Int × Int)) × Int × Int)) => m_stretch_share p.1 p.2.1 p.2.2) (pair (Res.ok ar_rows) (pair (Res.ok x_23) (Res.ok x_50)))))).bind fun (least_62 : (Int × Int)) => (Res.ok least_62))) xs least_35).bind fun (z_74 : (Int × Int)) => ((un (fun (p : ((Int × Int) × (Int × Int))) => m_greater p.1 p.2) (pair (Res.ok z_13) (Res.ok z_74))).bind fun (best_82 : (Int × Int)) => (Res.ok best_82))))) xs best_6).bind fun (z_94 : (Int × Int)) => ((Res.ok z_94).bind fun a_104 => Res.ok a_104))))
abbrev N_max_min : List Str := ["rows", "k", "best", "start", "least", "end"]
theorem sc_max_min : FnScope N_max_min ["rows", "k"] (defScope s_max_min) := ⟨rfl, rfl, rfl, by decide +kernel, rfl, by decide +kernel, by decide +kernel⟩
theorem bind_max_min {K : PySem.W.Frag} {mg : Str → Option Value} {T : Tx K mg} : Binds K T.d_max_min ["rows", "k"] [] := FunD.bindsN T.F_max_min fun _ _ _ _ _ _ us hl => match us, hl with | [_, _], _ => rfl
abbrev sp_max_min (K : PySem.W.Frag) : Sp := spP K (tc (pL (pT (tc pI (t1 pI)))) (t1 pI)) (fun (p : ((List (Int × Int)) × Int)) => m_max_min p.1 p.2) (pT (tc pI (t1 pI)))
theorem ok_max_min (T : Tx K mg) : FnOk P w K mg base (L2.CX P w) 5 T.f_max_min T.d_max_min ["rows", "k"] (sp_max_min K) := by
  refine T.F_max_min.ok sc_max_min (fun vs H Q E h => ?_) (fun cdv A outer s H vs Q E hr h => ?_)
  · obtain ⟨I, C, a, _, hr, _⟩ := h
    exact Rt.len _ hr
  · obtain ⟨I0, C0, ⟨ar_rows, ar_k⟩, hs, ⟨v_rows, us0, rfl, r_rows, v_k, rfl, r_k⟩, hm⟩ := h
    have hm : Post (m_max_min ar_rows ar_k) (PQ (pT (tc pI (t1 pI))) I0 C0 Q) (PX E K I0 C0) := hm
    replace r_rows : Rp.r (pL (pT (tc pI (t1 pI)))) ar_rows v_rows I0 Z := Im.im r_rows
    replace r_k : Rp.r pI ar_k v_k I0 Z := Im.im r_k
    unfold m_max_min at hm
    refine ⟨_, (pss_cons (ps_expr (pe_call (ok_check_groups T) (hr.mono (by decide)) rfl T.g_check_groups T.F_check_groups.kp bind_check_groups .nil passE (pa_cons (pv 0) pa_nil))) (pss_cons (ps_set (i := 2) sc_max_min.nd rfl (Or.inl rfl) (pe_tup (pa_cons pe_int (pa_cons pe_int pa_nil)))) (pss_cons (ps_for (passes_of rfl) rfl (pi_range1 (by rfl) T.gb_range (pa_cons (pe_op op_add (pv 1) pe_int) pa_nil)) (pg_name (i := 3) sc_max_min.nd rfl (Or.inl rfl)) (pss_cons (ps_set (i := 4) sc_max_min.nd rfl (Or.inl rfl) (pe_tup (pa_cons pe_int (pa_cons pe_int pa_nil)))) (pss_cons (ps_for (passes_of rfl) rfl (pi_range2 (by rfl) T.gb_range (pa_cons (pe_op op_add (pv 1) pe_int) (pa_cons (pe_op op_add (pe_callB (r := rLen1 K) call_len_seq (by rfl) T.gb_len bt_len (pa_cons (pv 0) pa_nil)) pe_int) pa_nil))) (pg_name (i := 5) sc_max_min.nd rfl (Or.inl rfl)) (pss_cons (ps_set (i := 4) sc_max_min.nd rfl (Or.inl rfl) (pe_call (ok_lesser T) (hr.mono (by decide)) rfl T.g_lesser T.F_lesser.kp bind_lesser .nil passE (pa_cons (pv 4) (pa_cons (pe_call (ok_stretch_share T) (hr.mono (by decide)) rfl T.g_stretch_share T.F_stretch_share.kp bind_stretch_share .nil passE (pa_cons (pv 0) (pa_cons (pv 3) (pa_cons (pv 5) pa_nil)))) pa_nil)))) pss_nil)) (pss_cons (ps_set (i := 2) sc_max_min.nd rfl (Or.inl rfl) (pe_call (ok_greater T) (hr.mono (by decide)) rfl T.g_greater T.F_greater.kp bind_greater .nil passE (pa_cons (pv 2) (pa_cons (pv 4) pa_nil)))) pss_nil)))) (pss_cons (ps_ret (pv 2)) pss_nil)))), ?_⟩
    refine s_expr (E := E) (K := K) (σ := [some v_rows, some v_k, none, none, none, none]) (x_call (a_one (x_var (i := 0) rfl (Rp.mono _ (Ex.refl _) exz r_rows)))) hs (fun _ _ h => PX.mono (Ex.refl _) (Ex.refl _) h) hm fun b_1 I_2 H_3 e_4 s_5 hm => ?_
    refine q_asg (E := E) (K := K) (σ := [some v_rows, some v_k, none, none, none, none]) (i := 2) (x_tup (a_cons (x_int (i := 0)) (a_one (x_int (i := 1)))) (Nat.le_of_ble_eq_true rfl)) s_5 (fun _ _ h => PX.mono e_4 (Ex.refl _) h) hm fun best_6 v_7 I_8 H_9 e_10 s_11 r_12 hm => ?_
    refine s_forN (E := E) (K := K) (σ := [some v_rows, some v_k, some v_7, none, none, none]) (fun (z_13 : (Int × Int)) σ2 I_18 C_19 => ∃ w_15 : Option V, ∃ w_16 : Option V, ∃ w_17 : Option V, ∃ v_20 : V, σ2 = [some v_rows, some v_k, some v_20, w_15, w_16, w_17] ∧ Rp.r (pT (tc pI (t1 pI))) z_13 v_20 I_18 Z ∧ Ex C0 C_19) (i_rng1 (a_one (x_op o_add (x_var (i := 1) rfl (Rp.mono _ (e_4.trans e_10) exz r_k)) (x_int (i := 1))))) s_11 (fun _ _ h => PX.mono (e_4.trans e_10) (Ex.refl _) h) hm (fun _ e_31 => ⟨none, none, none, v_7, rfl, Rp.mono _ (Ex.trans (Ex.refl _) e_31) exz r_12, (Ex.refl _)⟩) (fun _ _ _ _ _ => trivial) (fun _ _ _ _ _ e ⟨w_15, w_16, w_17, v_20, hs_14, r_21, fr_22⟩ => ⟨w_15, w_16, w_17, v_20, hs_14, Rp.mono _ e exz r_21, fr_22⟩) (fun N x_23 v_24 z_13 σ2 I_25 C_26 H_27 e_28 s_29 ⟨w_15, w_16, w_17, v_20, hs_14, r_21, fr_22⟩ r_30 hm => ?_) (fun z_94 σ2 I_89 C_90 H_91 e_92 s_93 ⟨w_96, w_97, w_98, v_101, hs_95, r_102, fr_103⟩ hm => ?_)
    · subst hs_14
      refine g1 (K := K) x_23 v_24 I_25 C_26 H_27 _ s_29 r_30 fun σ2 ⟨v_32, hs_34, r_33⟩ => ?_
      subst hs_34
      refine q_asg (E := E) (K := K) (σ := [some v_rows, some v_k, some v_20, some v_32, w_16, w_17]) (i := 4) (x_tup (a_cons (x_int (i := 1)) (a_one (x_int (i := 1)))) (Nat.le_of_ble_eq_true rfl)) s_29 (fun _ _ h => PX.mono (e_4.trans (e_10.trans e_28)) fr_22 h) hm fun least_35 v_36 I_37 H_38 e_39 s_40 r_41 hm => ?_
      refine s_forN (E := E) (K := K) (σ := [some v_rows, some v_k, some v_20, some v_32, some v_36, w_17]) (fun (z_42 : (Int × Int)) σ2 I_45 C_46 => ∃ w_44 : Option V, ∃ v_47 : V, σ2 = [some v_rows, some v_k, some v_20, some v_32, some v_47, w_44] ∧ Rp.r (pT (tc pI (t1 pI))) z_42 v_47 I_45 Z ∧ Ex C0 C_46) (i_rng2 (a_cons (x_op o_add (x_var (i := 1) rfl (Rp.mono _ (e_4.trans (e_10.trans (e_28.trans e_39))) exz r_k)) (x_int (i := 1))) (a_one (x_op o_add (x_cb o_len (a_one (x_v (x_var (i := 0) rfl (Rp.mono _ (e_4.trans (e_10.trans (e_28.trans e_39))) exz r_rows))))) (x_int (i := 1)))))) s_40 (fun _ _ h => PX.mono (e_4.trans (e_10.trans (e_28.trans e_39))) fr_22 h) hm (fun _ e_58 => ⟨w_17, v_36, rfl, Rp.mono _ (Ex.trans (Ex.refl _) e_58) exz r_41, fr_22⟩) (fun _ _ _ _ _ => trivial) (fun _ _ _ _ _ e ⟨w_44, v_47, hs_43, r_48, fr_49⟩ => ⟨w_44, v_47, hs_43, Rp.mono _ e exz r_48, fr_49⟩) (fun N x_50 v_51 z_42 σ2 I_52 C_53 H_54 e_55 s_56 ⟨w_44, v_47, hs_43, r_48, fr_49⟩ r_57 hm => ?_) (fun z_74 σ2 I_69 C_70 H_71 e_72 s_73 ⟨w_76, v_79, hs_75, r_80, fr_81⟩ hm => ?_)
      · subst hs_43
        refine g1 (K := K) x_50 v_51 I_52 C_53 H_54 _ s_56 r_57 fun σ2 ⟨v_59, hs_61, r_60⟩ => ?_
        subst hs_61
        refine q_asg (E := E) (K := K) (σ := [some v_rows, some v_k, some v_20, some v_32, some v_47, some v_59]) (i := 4) (x_call (a_cons (x_var (i := 4) rfl (Rp.mono _ (Ex.refl _) exz r_48)) (a_one (x_call (a_cons (x_var (i := 0) rfl (Rp.mono _ (e_4.trans (e_10.trans (e_28.trans (e_39.trans e_55)))) exz r_rows)) (a_cons (x_var (i := 3) rfl (Rp.mono _ (e_39.trans e_55) exz r_33)) (a_one (x_var (i := 5) rfl (Rp.mono _ (Ex.refl _) exz r_60))))))))) s_56 (fun _ _ h => PX.mono (e_4.trans (e_10.trans (e_28.trans (e_39.trans e_55)))) fr_49 h) hm fun least_62 v_63 I_64 H_65 e_66 s_67 r_68 hm => ?_
        exact hm _ _ _ _ e_66 s_67 ⟨some v_59, v_63, rfl, Rp.mono _ (Ex.refl _) exz r_68, fr_49⟩
      subst hs_75
      refine q_asg (E := E) (K := K) (σ := [some v_rows, some v_k, some v_20, some v_32, some v_79, w_76]) (i := 2) (x_call (a_cons (x_var (i := 2) rfl (Rp.mono _ (e_39.trans e_72) exz r_21)) (a_one (x_var (i := 4) rfl (Rp.mono _ (Ex.refl _) exz r_80))))) s_73 (fun _ _ h => PX.mono (e_4.trans (e_10.trans (e_28.trans (e_39.trans e_72)))) fr_81 h) hm fun best_82 v_83 I_84 H_85 e_86 s_87 r_88 hm => ?_
      exact hm _ _ _ _ (e_39.trans (e_72.trans e_86)) s_87 ⟨some v_32, some v_79, w_76, v_83, rfl, Rp.mono _ (Ex.refl _) exz r_88, fr_81⟩
    subst hs_95
    refine q_ret (tz := tNext) (E := E) (K := K) (σ := [some v_rows, some v_k, some v_101, w_96, w_97, w_98]) (x_var (i := 2) rfl (Rp.mono _ (Ex.refl _) exz r_102)) s_93 (fun _ _ h => PX.mono (e_4.trans (e_10.trans e_92)) fr_103 h) hm fun a_104 v_105 I_106 H_107 e_108 s_109 r_110 hm => ?_
    exact hm v_105 I_106 H_107 (e_4.trans (e_10.trans (e_92.trans e_108))) (St.less s_109 fr_103) (Im.im r_110)
def m_min_max (ar_rows : (List (Int × Int))) (ar_k : Int) : Res (Int × Int) :=
  ((un m_check_groups (Res.ok ar_rows)).bind fun (b_1 : Unit) => ((pair (Res.ok (1 : Int)) (Res.ok (1 : Int))).bind fun (best_6 : (Int × Int)) => (((un rng2 (pair (bin rAdd (Res.ok ar_k) (Res.ok (1 : Int))) (bin rAdd (un rLen (Res.ok ar_rows)) (Res.ok (1 : Int))))).bind fun xs => loopN (fun (x_23 : Int) (z_13 : (Int × Int)) => ((pair (Res.ok (0 : Int)) (Res.ok (1 : Int))).bind fun (most_35 : (Int × Int)) => (((un rng1 (bin rAdd (Res.ok ar_k) (Res.ok (1 : Int)))).bind fun xs => loopN (fun (x_50 : Int) (z_42 : (Int × Int)) => ((un (fun (p : ((Int × Int) × (Int × Int))) => m_greater p.1 p.2) (pair (Res.ok z_42) (un (fun (p : ((List (Int × Int)) × Int × Int)) => m_stretch_share p.1 p.2.1 p.2.2) (pair (Res.ok ar_rows) (pair (Res.ok x_50) (Res.ok x_23)))))).bind fun (most_62 : (Int × Int)) => (Res.ok most_62))) xs most_35).bind fun (z_74 : (Int × Int)) => ((un (fun (p : ((Int × Int) × (Int × Int))) => m_lesser p.1 p.2) (pair (Res.ok z_13) (Res.ok z_74))).bind fun (best_82 : (Int × Int)) => (Res.ok best_82))))) xs best_6).bind fun (z_94 : (Int × Int)) => ((Res.ok z_94).bind fun a_104 => Res.ok a_104))))
abbrev N_min_max : List Str := ["rows", "k", "best", "end", "most", "start"]
theorem sc_min_max : FnScope N_min_max ["rows", "k"] (defScope s_min_max) := ⟨rfl, rfl, rfl, by decide +kernel, rfl, by decide +kernel, by decide +kernel⟩
theorem bind_min_max {K : PySem.W.Frag} {mg : Str → Option Value} {T : Tx K mg} : Binds K T.d_min_max ["rows", "k"] [] := FunD.bindsN T.F_min_max fun _ _ _ _ _ _ us hl => match us, hl with | [_, _], _ => rfl
abbrev sp_min_max (K : PySem.W.Frag) : Sp := spP K (tc (pL (pT (tc pI (t1 pI)))) (t1 pI)) (fun (p : ((List (Int × Int)) × Int)) => m_min_max p.1 p.2) (pT (tc pI (t1 pI)))
theorem ok_min_max (T : Tx K mg) : FnOk P w K mg base (L2.CX P w) 5 T.f_min_max T.d_min_max ["rows", "k"] (sp_min_max K) := by
  refine T.F_min_max.ok sc_min_max (fun vs H Q E h => ?_) (fun cdv A outer s H vs Q E hr h => ?_)
  · obtain ⟨I, C, a, _, hr, _⟩ := h
    exact Rt.len _ hr
  · obtain ⟨I0, C0, ⟨ar_rows, ar_k⟩, hs, ⟨v_rows, us0, rfl, r_rows, v_k, rfl, r_k⟩, hm⟩ := h
    have hm : Post (m_min_max ar_rows ar_k) (PQ (pT (tc pI (t1 pI))) I0 C0 Q) (PX E K I0 C0) := hm
    replace r_rows : Rp.r (pL (pT (tc pI (t1 pI)))) ar_rows v_rows I0 Z := Im.im r_rows
    replace r_k : Rp.r pI ar_k v_k I0 Z := Im.im r_k
    unfold m_min_max at hm
    refine ⟨_, (pss_cons (ps_expr (pe_call (ok_check_groups T) (hr.mono (by decide)) rfl T.g_check_groups T.F_check_groups.kp bind_check_groups .nil passE (pa_cons (pv 0) pa_nil))) (pss_cons (ps_set (i := 2) sc_min_max.nd rfl (Or.inl rfl) (pe_tup (pa_cons pe_int (pa_cons pe_int pa_nil)))) (pss_cons (ps_for (passes_of rfl) rfl (pi_range2 (by rfl) T.gb_range (pa_cons (pe_op op_add (pv 1) pe_int) (pa_cons (pe_op op_add (pe_callB (r := rLen1 K) call_len_seq (by rfl) T.gb_len bt_len (pa_cons (pv 0) pa_nil)) pe_int) pa_nil))) (pg_name (i := 3) sc_min_max.nd rfl (Or.inl rfl)) (pss_cons (ps_set (i := 4) sc_min_max.nd rfl (Or.inl rfl) (pe_tup (pa_cons pe_int (pa_cons pe_int pa_nil)))) (pss_cons (ps_for (passes_of rfl) rfl (pi_range1 (by rfl) T.gb_range (pa_cons (pe_op op_add (pv 1) pe_int) pa_nil)) (pg_name (i := 5) sc_min_max.nd rfl (Or.inl rfl)) (pss_cons (ps_set (i := 4) sc_min_max.nd rfl (Or.inl rfl) (pe_call (ok_greater T) (hr.mono (by decide)) rfl T.g_greater T.F_greater.kp bind_greater .nil passE (pa_cons (pv 4) (pa_cons (pe_call (ok_stretch_share T) (hr.mono (by decide)) rfl T.g_stretch_share T.F_stretch_share.kp bind_stretch_share .nil passE (pa_cons (pv 0) (pa_cons (pv 5) (pa_cons (pv 3) pa_nil)))) pa_nil)))) pss_nil)) (pss_cons (ps_set (i := 2) sc_min_max.nd rfl (Or.inl rfl) (pe_call (ok_lesser T) (hr.mono (by decide)) rfl T.g_lesser T.F_lesser.kp bind_lesser .nil passE (pa_cons (pv 2) (pa_cons (pv 4) pa_nil)))) pss_nil)))) (pss_cons (ps_ret (pv 2)) pss_nil)))), ?_⟩
    refine s_expr (E := E) (K := K) (σ := [some v_rows, some v_k, none, none, none, none]) (x_call (a_one (x_var (i := 0) rfl (Rp.mono _ (Ex.refl _) exz r_rows)))) hs (fun _ _ h => PX.mono (Ex.refl _) (Ex.refl _) h) hm fun b_1 I_2 H_3 e_4 s_5 hm => ?_
    refine q_asg (E := E) (K := K) (σ := [some v_rows, some v_k, none, none, none, none]) (i := 2) (x_tup (a_cons (x_int (i := 1)) (a_one (x_int (i := 1)))) (Nat.le_of_ble_eq_true rfl)) s_5 (fun _ _ h => PX.mono e_4 (Ex.refl _) h) hm fun best_6 v_7 I_8 H_9 e_10 s_11 r_12 hm => ?_
    refine s_forN (E := E) (K := K) (σ := [some v_rows, some v_k, some v_7, none, none, none]) (fun (z_13 : (Int × Int)) σ2 I_18 C_19 => ∃ w_15 : Option V, ∃ w_16 : Option V, ∃ w_17 : Option V, ∃ v_20 : V, σ2 = [some v_rows, some v_k, some v_20, w_15, w_16, w_17] ∧ Rp.r (pT (tc pI (t1 pI))) z_13 v_20 I_18 Z ∧ Ex C0 C_19) (i_rng2 (a_cons (x_op o_add (x_var (i := 1) rfl (Rp.mono _ (e_4.trans e_10) exz r_k)) (x_int (i := 1))) (a_one (x_op o_add (x_cb o_len (a_one (x_v (x_var (i := 0) rfl (Rp.mono _ (e_4.trans e_10) exz r_rows))))) (x_int (i := 1)))))) s_11 (fun _ _ h => PX.mono (e_4.trans e_10) (Ex.refl _) h) hm (fun _ e_31 => ⟨none, none, none, v_7, rfl, Rp.mono _ (Ex.trans (Ex.refl _) e_31) exz r_12, (Ex.refl _)⟩) (fun _ _ _ _ _ => trivial) (fun _ _ _ _ _ e ⟨w_15, w_16, w_17, v_20, hs_14, r_21, fr_22⟩ => ⟨w_15, w_16, w_17, v_20, hs_14, Rp.mono _ e exz r_21, fr_22⟩) (fun N x_23 v_24 z_13 σ2 I_25 C_26 H_27 e_28 s_29 ⟨w_15, w_16, w_17, v_20, hs_14, r_21, fr_22⟩ r_30 hm => ?_) (fun z_94 σ2 I_89 C_90 H_91 e_92 s_93 ⟨w_96, w_97, w_98, v_101, hs_95, r_102, fr_103⟩ hm => ?_)
    · subst hs_14
      refine g1 (K := K) x_23 v_24 I_25 C_26 H_27 _ s_29 r_30 fun σ2 ⟨v_32, hs_34, r_33⟩ => ?_
      subst hs_34
      refine q_asg (E := E) (K := K) (σ := [some v_rows, some v_k, some v_20, some v_32, w_16, w_17]) (i := 4) (x_tup (a_cons (x_int (i := 0)) (a_one (x_int (i := 1)))) (Nat.le_of_ble_eq_true rfl)) s_29 (fun _ _ h => PX.mono (e_4.trans (e_10.trans e_28)) fr_22 h) hm fun most_35 v_36 I_37 H_38 e_39 s_40 r_41 hm => ?_
      refine s_forN (E := E) (K := K) (σ := [some v_rows, some v_k, some v_20, some v_32, some v_36, w_17]) (fun (z_42 : (Int × Int)) σ2 I_45 C_46 => ∃ w_44 : Option V, ∃ v_47 : V, σ2 = [some v_rows, some v_k, some v_20, some v_32, some v_47, w_44] ∧ Rp.r (pT (tc pI (t1 pI))) z_42 v_47 I_45 Z ∧ Ex C0 C_46) (i_rng1 (a_one (x_op o_add (x_var (i := 1) rfl (Rp.mono _ (e_4.trans (e_10.trans (e_28.trans e_39))) exz r_k)) (x_int (i := 1))))) s_40 (fun _ _ h => PX.mono (e_4.trans (e_10.trans (e_28.trans e_39))) fr_22 h) hm (fun _ e_58 => ⟨w_17, v_36, rfl, Rp.mono _ (Ex.trans (Ex.refl _) e_58) exz r_41, fr_22⟩) (fun _ _ _ _ _ => trivial) (fun _ _ _ _ _ e ⟨w_44, v_47, hs_43, r_48, fr_49⟩ => ⟨w_44, v_47, hs_43, Rp.mono _ e exz r_48, fr_49⟩) (fun N x_50 v_51 z_42 σ2 I_52 C_53 H_54 e_55 s_56 ⟨w_44, v_47, hs_43, r_48, fr_49⟩ r_57 hm => ?_) (fun z_74 σ2 I_69 C_70 H_71 e_72 s_73 ⟨w_76, v_79, hs_75, r_80, fr_81⟩ hm => ?_)
      · subst hs_43
        refine g1 (K := K) x_50 v_51 I_52 C_53 H_54 _ s_56 r_57 fun σ2 ⟨v_59, hs_61, r_60⟩ => ?_
        subst hs_61
        refine q_asg (E := E) (K := K) (σ := [some v_rows, some v_k, some v_20, some v_32, some v_47, some v_59]) (i := 4) (x_call (a_cons (x_var (i := 4) rfl (Rp.mono _ (Ex.refl _) exz r_48)) (a_one (x_call (a_cons (x_var (i := 0) rfl (Rp.mono _ (e_4.trans (e_10.trans (e_28.trans (e_39.trans e_55)))) exz r_rows)) (a_cons (x_var (i := 5) rfl (Rp.mono _ (Ex.refl _) exz r_60)) (a_one (x_var (i := 3) rfl (Rp.mono _ (e_39.trans e_55) exz r_33))))))))) s_56 (fun _ _ h => PX.mono (e_4.trans (e_10.trans (e_28.trans (e_39.trans e_55)))) fr_49 h) hm fun most_62 v_63 I_64 H_65 e_66 s_67 r_68 hm => ?_
        exact hm _ _ _ _ e_66 s_67 ⟨some v_59, v_63, rfl, Rp.mono _ (Ex.refl _) exz r_68, fr_49⟩
      subst hs_75
      refine q_asg (E := E) (K := K) (σ := [some v_rows, some v_k, some v_20, some v_32, some v_79, w_76]) (i := 2) (x_call (a_cons (x_var (i := 2) rfl (Rp.mono _ (e_39.trans e_72) exz r_21)) (a_one (x_var (i := 4) rfl (Rp.mono _ (Ex.refl _) exz r_80))))) s_73 (fun _ _ h => PX.mono (e_4.trans (e_10.trans (e_28.trans (e_39.trans e_72)))) fr_81 h) hm fun best_82 v_83 I_84 H_85 e_86 s_87 r_88 hm => ?_
      exact hm _ _ _ _ (e_39.trans (e_72.trans e_86)) s_87 ⟨some v_32, some v_79, w_76, v_83, rfl, Rp.mono _ (Ex.refl _) exz r_88, fr_81⟩
    subst hs_95
    refine q_ret (tz := tNext) (E := E) (K := K) (σ := [some v_rows, some v_k, some v_101, w_96, w_97, w_98]) (x_var (i := 2) rfl (Rp.mono _ (Ex.refl _) exz r_102)) s_93 (fun _ _ h => PX.mono (e_4.trans (e_10.trans e_92)) fr_103 h) hm fun a_104 v_105 I_106 H_107 e_108 s_109 r_110 hm => ?_
    exact hm v_105 I_106 H_107 (e_4.trans (e_10.trans (e_92.trans e_108))) (St.less s_109 fr_103) (Im.im r_110)
def m__law_mix (ar_cell : Int) (ar_turn : Int) : Res Int :=
  ((bin rMod (un idR (bin rAdd (bin rAdd (bin rMul (Res.ok ar_cell) (Res.ok (69621 : Int))) (bin rMul (Res.ok ar_turn) (Res.ok (48271 : Int)))) (Res.ok (12345 : Int)))) (Res.ok (2147483647 : Int))).bind fun (x_1 : Int) => ((bin rMod (un idR (bin rAdd (bin rMul (Res.ok x_1) (Res.ok (16807 : Int))) (Res.ok (97 : Int)))) (Res.ok (2147483629 : Int))).bind fun (x_8 : Int) => ((bin rMod (un idR (bin rAdd (bin rAdd (bin rMul (Res.ok x_8) (Res.ok (69069 : Int))) (Res.ok ar_cell)) (bin rMul (Res.ok ar_turn) (Res.ok (7 : Int))))) (Res.ok (2147483587 : Int))).bind fun (y_15 : Int) => ((bin rMod (un idR (bin rAdd (bin rMul (Res.ok y_15) (Res.ok (39373 : Int))) (Res.ok (7 : Int)))) (Res.ok (2147483579 : Int))).bind fun (y_22 : Int) => ((bin rAdd (bin rMul (Res.ok x_8) (Res.ok (2147483647 : Int))) (Res.ok y_22)).bind fun a_29 => Res.ok a_29)))))
abbrev N__law_mix : List Str := ["cell", "turn", "x", "y"]
theorem sc__law_mix : FnScope N__law_mix ["cell", "turn"] (defScope s__law_mix) := ⟨rfl, rfl, rfl, by decide +kernel, rfl, by decide +kernel, by decide +kernel⟩
theorem bind__law_mix {K : PySem.W.Frag} {mg : Str → Option Value} {T : Tx K mg} : Binds K T.d__law_mix ["cell", "turn"] [] := FunD.bindsN T.F__law_mix fun _ _ _ _ _ _ us hl => match us, hl with | [_, _], _ => rfl
abbrev sp__law_mix (K : PySem.W.Frag) : Sp := spP K (tc pI (t1 pI)) (fun (p : (Int × Int)) => m__law_mix p.1 p.2) pI
theorem ok__law_mix (T : Tx K mg) : FnOk P w K mg base (L2.CX P w) 1 T.f__law_mix T.d__law_mix ["cell", "turn"] (sp__law_mix K) := by
  refine T.F__law_mix.ok sc__law_mix (fun vs H Q E h => ?_) (fun cdv A outer s H vs Q E hr h => ?_)
  · obtain ⟨I, C, a, _, hr, _⟩ := h
    exact Rt.len _ hr
  · obtain ⟨I0, C0, ⟨ar_cell, ar_turn⟩, hs, ⟨v_cell, us0, rfl, r_cell, v_turn, rfl, r_turn⟩, hm⟩ := h
    have hm : Post (m__law_mix ar_cell ar_turn) (PQ pI I0 C0 Q) (PX E K I0 C0) := hm
    replace r_cell : Rp.r pI ar_cell v_cell I0 Z := Im.im r_cell
    replace r_turn : Rp.r pI ar_turn v_turn I0 Z := Im.im r_turn
    unfold m__law_mix at hm
    refine ⟨_, (pss_cons (ps_set (i := 2) sc__law_mix.nd rfl (Or.inl rfl) (pe_op op_mod (pe_callTy call_int1 (by rfl) T.gb_int bt_int (pa_cons (pe_op op_add (pe_op op_add (pe_op op_mul (pv 0) pe_int) (pe_op op_mul (pv 1) pe_int)) pe_int) pa_nil)) pe_int)) (pss_cons (ps_set (i := 2) sc__law_mix.nd rfl (Or.inl rfl) (pe_op op_mod (pe_callTy call_int1 (by rfl) T.gb_int bt_int (pa_cons (pe_op op_add (pe_op op_mul (pv 2) pe_int) pe_int) pa_nil)) pe_int)) (pss_cons (ps_set (i := 3) sc__law_mix.nd rfl (Or.inl rfl) (pe_op op_mod (pe_callTy call_int1 (by rfl) T.gb_int bt_int (pa_cons (pe_op op_add (pe_op op_add (pe_op op_mul (pv 2) pe_int) (pv 0)) (pe_op op_mul (pv 1) pe_int)) pa_nil)) pe_int)) (pss_cons (ps_set (i := 3) sc__law_mix.nd rfl (Or.inl rfl) (pe_op op_mod (pe_callTy call_int1 (by rfl) T.gb_int bt_int (pa_cons (pe_op op_add (pe_op op_mul (pv 3) pe_int) pe_int) pa_nil)) pe_int)) (pss_cons (ps_ret (pe_op op_add (pe_op op_mul (pv 2) pe_int) (pv 3))) pss_nil))))), ?_⟩
    refine q_asg (E := E) (K := K) (σ := [some v_cell, some v_turn, none, none]) (i := 2) (x_op o_mod (x_cb o_int (a_one (x_op o_add (x_op o_add (x_op o_mul (x_var (i := 0) rfl (Rp.mono _ (Ex.refl _) exz r_cell)) (x_int (i := 69621))) (x_op o_mul (x_var (i := 1) rfl (Rp.mono _ (Ex.refl _) exz r_turn)) (x_int (i := 48271)))) (x_int (i := 12345))))) (x_int (i := 2147483647))) hs (fun _ _ h => PX.mono (Ex.refl _) (Ex.refl _) h) hm fun x_1 v_2 I_3 H_4 e_5 s_6 r_7 hm => ?_
    refine q_asg (E := E) (K := K) (σ := [some v_cell, some v_turn, some v_2, none]) (i := 2) (x_op o_mod (x_cb o_int (a_one (x_op o_add (x_op o_mul (x_var (i := 2) rfl (Rp.mono _ (Ex.refl _) exz r_7)) (x_int (i := 16807))) (x_int (i := 97))))) (x_int (i := 2147483629))) s_6 (fun _ _ h => PX.mono e_5 (Ex.refl _) h) hm fun x_8 v_9 I_10 H_11 e_12 s_13 r_14 hm => ?_
    refine q_asg (E := E) (K := K) (σ := [some v_cell, some v_turn, some v_9, none]) (i := 3) (x_op o_mod (x_cb o_int (a_one (x_op o_add (x_op o_add (x_op o_mul (x_var (i := 2) rfl (Rp.mono _ (Ex.refl _) exz r_14)) (x_int (i := 69069))) (x_var (i := 0) rfl (Rp.mono _ (e_5.trans e_12) exz r_cell))) (x_op o_mul (x_var (i := 1) rfl (Rp.mono _ (e_5.trans e_12) exz r_turn)) (x_int (i := 7)))))) (x_int (i := 2147483587))) s_13 (fun _ _ h => PX.mono (e_5.trans e_12) (Ex.refl _) h) hm fun y_15 v_16 I_17 H_18 e_19 s_20 r_21 hm => ?_
    refine q_asg (E := E) (K := K) (σ := [some v_cell, some v_turn, some v_9, some v_16]) (i := 3) (x_op o_mod (x_cb o_int (a_one (x_op o_add (x_op o_mul (x_var (i := 3) rfl (Rp.mono _ (Ex.refl _) exz r_21)) (x_int (i := 39373))) (x_int (i := 7))))) (x_int (i := 2147483579))) s_20 (fun _ _ h => PX.mono (e_5.trans (e_12.trans e_19)) (Ex.refl _) h) hm fun y_22 v_23 I_24 H_25 e_26 s_27 r_28 hm => ?_
    refine q_ret (tz := tNext) (E := E) (K := K) (σ := [some v_cell, some v_turn, some v_9, some v_23]) (x_op o_add (x_op o_mul (x_var (i := 2) rfl (Rp.mono _ (e_19.trans e_26) exz r_14)) (x_int (i := 2147483647))) (x_var (i := 3) rfl (Rp.mono _ (Ex.refl _) exz r_28))) s_27 (fun _ _ h => PX.mono (e_5.trans (e_12.trans (e_19.trans e_26))) (Ex.refl _) h) hm fun a_29 v_30 I_31 H_32 e_33 s_34 r_35 hm => ?_
    exact hm v_30 I_31 H_32 (e_5.trans (e_12.trans (e_19.trans (e_26.trans e_33)))) (St.less s_34 (Ex.refl _)) (Im.im r_35)
abbrev N__law_pool : List Str := ["script"]
theorem sc__law_pool : FnScope N__law_pool ["script"] (defScope s__law_pool) := ⟨rfl, rfl, rfl, by decide +kernel, rfl, by decide +kernel, by decide +kernel⟩
theorem bind__law_pool {K : PySem.W.Frag} {mg : Str → Option Value} {T : Tx K mg} : Binds K T.d__law_pool ["script"] [] := FunD.bindsN T.F__law_pool fun _ _ _ _ _ _ us hl => match us, hl with | [_], _ => rfl
theorem ok__law_pool (T : Tx K mg) : FnOk P w K mg base (L2.CX P w) 1 T.f__law_pool T.d__law_pool ["script"] (spPool K) := by
  refine T.F__law_pool.ok sc__law_pool (fun vs H Q E h => ?_) (fun cdv A outer s H vs Q E hr h => ?_)
  · obtain ⟨I, C, ns, v, rfl, _⟩ := h
    rfl
  · obtain ⟨I0, C0, ns, v, rfl, hs, r, hm⟩ := h
    refine ⟨_, pss_cons (ps_ret (pe_lst (pa_cons pe_int (pa_cons pe_int (pa_cons pe_int (pa_cons (pe_callTy (r := rList1 K) call_list_of (by rfl) T.gb_list bt_list (pa_cons (pe_slice (r := rSlL K) sl_list (pv 0) po_none (po_some pe_int)) pa_nil)) pa_nil)))))) pss_nil, ?_⟩
    exact n_lstP (E := E) (A := pM) (m := .ok (0, 0, 0, cut ns none (some 63))) (x_is' (a_cons x_int (a_cons x_int (a_cons x_int (a_one (x_cb o_list (a_one (x_v (x_slS (x_var (i := 0) rfl (Im.im r)) p_none (p_some x_int))))))))) rfl) (by decide) hs fun p ws I2 H2 e hp s2 hx => hm p ws I2 H2 e hp s2 hx
def m__law_fill (_ : Unit) (a_pool : Pl) : Res (Unit × Pl) :=
  ((Res.ok a_pool.2.2.2).bind fun (numbers_1 : (List Int)) => ((Res.ok (0 : Int)).bind fun (cell_8 : Int) => ((ifR (bin rLt (Res.ok a_pool.2.1) (un rLen (Res.ok numbers_1))) ((bin ix (Res.ok numbers_1) (Res.ok a_pool.2.1)).bind fun (cell_33 : Int) => (Res.ok (a_pool, cell_33))) (ifR (bin rGt (un rLen (Res.ok numbers_1)) (Res.ok (0 : Int))) ((bin ix (Res.ok numbers_1) (bin rMod (un idR (Res.ok a_pool.2.2.1)) (un rLen (Res.ok numbers_1)))).bind fun (cell_48 : Int) => (Res.ok (a_pool, cell_48))) (Res.ok (a_pool, cell_8)))).bind fun (z_23 : (Pl × Int)) => ((ifR (bin rLt (Res.ok z_23.2) (Res.ok (0 : Int))) ((bin rSub (Res.ok (1 : Int)) (bin rMul (Res.ok (2 : Int)) (Res.ok z_23.2))).bind fun (cell_76 : Int) => (Res.ok cell_76)) (Res.ok z_23.2)).bind fun (z_68 : Int) => (thenR (bin rAdd (Res.ok z_23.1.2.1) (Res.ok (1 : Int))) (fun (a_98 : Int) => (z_23.1.1, (a_98, z_23.1.2.2))) (fun (y_88 : Pl) => (thenR (bin rAdd (Res.ok y_88.2.2.1) (Res.ok (1 : Int))) (fun (a_110 : Int) => (y_88.1, (y_88.2.1, (a_110, y_88.2.2.2)))) (fun (y_100 : Pl) => (ifR (andR (bin rGe (Res.ok z_68) (bin rPow (Res.ok (10 : Int)) (Res.ok (18 : Int)))) (bin rLe (Res.ok y_100.2.1) (un rLen (Res.ok numbers_1)))) (thenR (Res.ok z_68) (fun (a_130 : Int) => (a_130, y_100.2)) (fun (y_120 : Pl) => (Res.ok ((), y_120)))) (thenR (un (fun (p : (Int × Int)) => m__law_mix p.1 p.2) (pair (Res.ok z_68) (Res.ok y_100.2.2.1))) (fun (a_142 : Int) => (a_142, y_100.2)) (fun (y_132 : Pl) => (Res.ok ((), y_132)))))))))))))
abbrev N__law_fill : List Str := ["pool", "numbers", "cell"]
theorem sc__law_fill : FnScope N__law_fill ["pool"] (defScope s__law_fill) := ⟨rfl, rfl, rfl, by decide +kernel, rfl, by decide +kernel, by decide +kernel⟩
theorem bind__law_fill {K : PySem.W.Frag} {mg : Str → Option Value} {T : Tx K mg} : Binds K T.d__law_fill ["pool"] [] := FunD.bindsN T.F__law_fill fun _ _ _ _ _ _ us hl => match us, hl with | [_], _ => rfl
abbrev sp__law_fill (K : PySem.W.Frag) : Sp := spM pM t0 m__law_fill pN
theorem ok__law_fill (T : Tx K mg) : FnOk P w K mg base (L2.CX P w) 2 T.f__law_fill T.d__law_fill ["pool"] (sp__law_fill K) := by
  refine T.F__law_fill.ok sc__law_fill (fun vs H Q E h => ?_) (fun cdv A outer s H vs Q E hr h => ?_)
  · obtain ⟨I, C, p, ws, us, x, a, rfl, _, _, _, hr, _⟩ := h
    exact congrArg (· + 1) (Rt.len _ hr)
  · obtain ⟨I0, C0, p0, ws0, us, a_pool, ⟨⟩, rfl, hs, hc0, hx1, rfl, hm⟩ := h
    have hx0 := It.im (C' := Z) hx1
    have hm : Post (m__law_fill () a_pool) (PM p0 pM pN I0 C0 Q) XF := hm
    unfold m__law_fill at hm
    refine ⟨_, (pss_cons (ps_set (i := 1) sc__law_fill.nd rfl (Or.inl rfl) (pe_ix (r := rIxL K) ix_list (pv 0) pe_int (fun _ _ => rfl))) (pss_cons (ps_set (i := 2) sc__law_fill.nd rfl (Or.inl rfl) pe_int) (Evl.pss_cut (ps_if (pt_cmpR op_lt (pe_ix (r := rIxL K) ix_list (pv 0) pe_int (fun _ _ => rfl)) (pe_callB (r := rLen1 K) call_len_seq (by rfl) T.gb_len bt_len (pa_cons (pv 1) pa_nil)) (nomark _)) (pss_cons (ps_set (i := 2) sc__law_fill.nd rfl (Or.inl rfl) (pe_ix (r := rIxL K) ix_list (pv 1) (pe_ix (r := rIxL K) ix_list (pv 0) pe_int (fun _ _ => rfl)) (fun _ _ => rfl))) pss_nil) (pss_cons (ps_if (pt_cmpR op_gt (pe_callB (r := rLen1 K) call_len_seq (by rfl) T.gb_len bt_len (pa_cons (pv 1) pa_nil)) pe_int (nomark _)) (pss_cons (ps_set (i := 2) sc__law_fill.nd rfl (Or.inl rfl) (pe_ix (r := rIxL K) ix_list (pv 1) (pe_op op_mod (pe_callTy call_int1 (by rfl) T.gb_int bt_int (pa_cons (pe_ix (r := rIxL K) ix_list (pv 0) pe_int (fun _ _ => rfl)) pa_nil)) (pe_callB (r := rLen1 K) call_len_seq (by rfl) T.gb_len bt_len (pa_cons (pv 1) pa_nil))) (fun _ _ => rfl))) pss_nil) pss_nil) pss_nil)) (Evl.pss_cut (ps_if (pt_cmpR op_lt (pv 2) pe_int (nomark _)) (pss_cons (ps_set (i := 2) sc__law_fill.nd rfl (Or.inl rfl) (pe_op op_sub pe_int (pe_op op_mul pe_int (pv 2)))) pss_nil) pss_nil) (pss_cons (ps_asg (pe_op op_add (pe_ix (r := rIxL K) ix_list (pv 0) pe_int (fun _ _ => rfl)) pe_int) (pg_sub (pv 0) pe_int set_list)) (pss_cons (ps_asg (pe_op op_add (pe_ix (r := rIxL K) ix_list (pv 0) pe_int (fun _ _ => rfl)) pe_int) (pg_sub (pv 0) pe_int set_list)) (pss_cons (ps_if (PW.pt (pw_and (pt_cmpR op_ge (pv 2) (pe_op op_pow pe_int pe_int) (nomark _)) (pw_and1 (pt_cmpR op_le (pe_ix (r := rIxL K) ix_list (pv 0) pe_int (fun _ _ => rfl)) (pe_callB (r := rLen1 K) call_len_seq (by rfl) T.gb_len bt_len (pa_cons (pv 1) pa_nil)) (nomark _))))) (pss_cons (ps_asg (pv 2) (pg_sub (pv 0) pe_int set_list)) pss_nil) (pss_cons (ps_asg (pe_call (ok__law_mix T) (hr.mono (by decide)) rfl T.g__law_mix T.F__law_mix.kp bind__law_mix .nil passE (pa_cons (pv 2) (pa_cons (pe_ix (r := rIxL K) ix_list (pv 0) pe_int (fun _ _ => rfl)) pa_nil))) (pg_sub (pv 0) pe_int set_list)) pss_nil)) pss_nil))))))), ?_⟩
    refine q_asg (E := E) (K := K) (σ := [some (.ref p0), none, none]) (i := 1) (q_pool (i := 0) (k := 3) rfl hc0 (Rt.mono _ (Ex.refl _) exz hx0) (pjs (pjs (pjs pj1)))) hs (fun _ _ h => h.elim) hm fun numbers_1 v_2 I_3 H_4 e_5 s_6 r_7 hm => ?_
    refine q_asg (E := E) (K := K) (σ := [some (.ref p0), some v_2, none]) (i := 2) (x_int (i := 0)) s_6 (fun _ _ h => h.elim) hm fun cell_8 v_9 I_10 H_11 e_12 s_13 r_14 hm => ?_
    refine s_ifj (E := E) (K := K) (σ := [some (.ref p0), some v_2, some v_9]) (fun (z_23 : (Pl × Int)) σ2 I_25 C_26 => ∃ v_30 : V, σ2 = [some (.ref p0), some v_2, some v_30] ∧ (∃ ws_27 : List V, C_26 p0 = some (.lst ws_27) ∧ Rt.r pM z_23.1 ws_27 I_25 Z) ∧ Rp.r pI z_23.2 v_30 I_25 Z ∧ Ex (off C0 p0) C_26) (t_test (x_op o_lt (q_pool (i := 0) (k := 1) rfl hc0 (Rt.mono _ (e_5.trans e_12) exz hx0) (pjs pj0)) (x_cb o_len (a_one (x_v (x_var (i := 1) rfl (Rp.mono _ e_12 exz r_7))))))) s_13 (fun _ _ h => h.elim) hm (fun N I_15 H_16 e_17 s_18 hm => ?_) (fun N I_19 H_20 e_21 s_22 hm => ?_) (fun z_23 σ2 I_55 C_56 H_57 e_58 s_59 ⟨v_30, hs_24, ⟨ws_27, hc_28, hx_29⟩, r_31, fr_32⟩ hm => ?_)
    · refine q_asg (E := E) (K := K) (σ := [some (.ref p0), some v_2, some v_9]) (i := 2) (x_op o_ix (x_v (x_var (i := 1) rfl (Rp.mono _ (e_12.trans e_17) exz r_7))) (q_pool (i := 0) (k := 1) rfl hc0 (Rt.mono _ (e_5.trans (e_12.trans e_17)) exz hx0) (pjs pj0))) s_18 (fun _ _ h => h.elim) hm fun cell_33 v_34 I_35 H_36 e_37 s_38 r_39 hm => ?_
      exact hm _ _ _ _ (e_17.trans e_37) s_38 ⟨v_34, rfl, ⟨_, hc0, Rt.mono _ (e_5.trans (e_12.trans (e_17.trans e_37))) exz hx0⟩, Rp.mono _ (Ex.refl _) exz r_39, (off_ex (C := C0) (p := p0))⟩
    · refine s_if (E := E) (K := K) (σ := [some (.ref p0), some v_2, some v_9]) (t_test (x_op o_gt (x_cb o_len (a_one (x_v (x_var (i := 1) rfl (Rp.mono _ (e_12.trans e_21) exz r_7))))) (x_int (i := 0)))) s_22 (fun _ _ h => h.elim) hm (fun I_40 H_41 e_42 s_43 hm => ?_) (fun I_44 H_45 e_46 s_47 hm => ?_)
      · refine q_asg (E := E) (K := K) (σ := [some (.ref p0), some v_2, some v_9]) (i := 2) (x_op o_ix (x_v (x_var (i := 1) rfl (Rp.mono _ (e_12.trans (e_21.trans e_42)) exz r_7))) (x_op o_mod (x_cb o_int (a_one (q_pool (i := 0) (k := 2) rfl hc0 (Rt.mono _ (e_5.trans (e_12.trans (e_21.trans e_42))) exz hx0) (pjs (pjs pj0))))) (x_cb o_len (a_one (x_v (x_var (i := 1) rfl (Rp.mono _ (e_12.trans (e_21.trans e_42)) exz r_7))))))) s_43 (fun _ _ h => h.elim) hm fun cell_48 v_49 I_50 H_51 e_52 s_53 r_54 hm => ?_
        exact hm _ _ _ _ (e_21.trans (e_42.trans e_52)) s_53 ⟨v_49, rfl, ⟨_, hc0, Rt.mono _ (e_5.trans (e_12.trans (e_21.trans (e_42.trans e_52)))) exz hx0⟩, Rp.mono _ (Ex.refl _) exz r_54, (off_ex (C := C0) (p := p0))⟩
      · exact hm _ _ _ _ (e_21.trans e_46) s_47 ⟨v_9, rfl, ⟨_, hc0, Rt.mono _ (e_5.trans (e_12.trans (e_21.trans e_46))) exz hx0⟩, Rp.mono _ (e_21.trans e_46) exz r_14, (off_ex (C := C0) (p := p0))⟩
    subst hs_24
    refine s_ifj (E := E) (K := K) (σ := [some (.ref p0), some v_2, some v_30]) (fun (z_68 : Int) σ2 I_70 C_71 => ∃ v_72 : V, σ2 = [some (.ref p0), some v_2, some v_72] ∧ Rp.r pI z_68 v_72 I_70 Z ∧ C_71 p0 = some (.lst ws_27) ∧ Ex (off C0 p0) C_71) (t_test (x_op o_lt (x_var (i := 2) rfl (Rp.mono _ (Ex.refl _) exz r_31)) (x_int (i := 0)))) s_59 (fun _ _ h => h.elim) hm (fun N I_60 H_61 e_62 s_63 hm => ?_) (fun N I_64 H_65 e_66 s_67 hm => ?_) (fun z_68 σ2 I_83 C_84 H_85 e_86 s_87 ⟨v_72, hs_69, r_73, hc_74, fr_75⟩ hm => ?_)
    · refine q_asg (E := E) (K := K) (σ := [some (.ref p0), some v_2, some v_30]) (i := 2) (x_op o_sub (x_int (i := 1)) (x_op o_mul (x_int (i := 2)) (x_var (i := 2) rfl (Rp.mono _ e_62 exz r_31)))) s_63 (fun _ _ h => h.elim) hm fun cell_76 v_77 I_78 H_79 e_80 s_81 r_82 hm => ?_
      exact hm _ _ _ _ (e_62.trans e_80) s_81 ⟨v_77, rfl, Rp.mono _ (Ex.refl _) exz r_82, hc_28, fr_32⟩
    · exact hm _ _ _ _ e_66 s_67 ⟨v_30, rfl, Rp.mono _ e_66 exz r_31, hc_28, fr_32⟩
    subst hs_69
    refine q_setT (E := E) (K := K) (σ := [some (.ref p0), some v_2, some v_72]) (i := 0) (k := 1) rfl (x_op o_add (q_pool (i := 0) (k := 1) rfl hc_74 (Rt.mono _ e_86 exz hx_29) (pjs pj0)) (x_int (i := 1))) (pks pk0) s_87 hc_74 (Rt.mono _ e_86 exz hx_29) hm fun y_88 ws_89 I_90 C_91 H_92 e_93 s_94 hc_95 k_96 hx_97 hm => ?_
    have fr_99 := fr_pool fr_75 k_96
    refine q_setT (E := E) (K := K) (σ := [some (.ref p0), some v_2, some v_72]) (i := 0) (k := 2) rfl (x_op o_add (q_pool (i := 0) (k := 2) rfl hc_95 (Rt.mono _ (Ex.refl _) exz hx_97) (pjs (pjs pj0))) (x_int (i := 1))) (pks (pks pk0)) s_94 hc_95 (Rt.mono _ (Ex.refl _) exz hx_97) hm fun y_100 ws_101 I_102 C_103 H_104 e_105 s_106 hc_107 k_108 hx_109 hm => ?_
    have fr_111 := fr_pool fr_99 k_108
    refine s_if (E := E) (K := K) (σ := [some (.ref p0), some v_2, some v_72]) (t_and (t_test (x_op o_ge (x_var (i := 2) rfl (Rp.mono _ (e_93.trans e_105) exz r_73)) (x_op o_pow (x_int (i := 10)) (x_int (i := 18))))) (t_test (x_op o_le (q_pool (i := 0) (k := 1) rfl hc_107 (Rt.mono _ (Ex.refl _) exz hx_109) (pjs pj0)) (x_cb o_len (a_one (x_v (x_var (i := 1) rfl (Rp.mono _ (e_12.trans (e_58.trans (e_86.trans (e_93.trans e_105)))) exz r_7)))))))) s_106 (fun _ _ h => h.elim) hm (fun I_112 H_113 e_114 s_115 hm => ?_) (fun I_116 H_117 e_118 s_119 hm => ?_)
    · refine q_setT (E := E) (K := K) (σ := [some (.ref p0), some v_2, some v_72]) (i := 0) (k := 0) rfl (x_var (i := 2) rfl (Rp.mono _ (e_93.trans (e_105.trans e_114)) exz r_73)) pk0 s_115 hc_107 (Rt.mono _ e_114 exz hx_109) hm fun y_120 ws_121 I_122 C_123 H_124 e_125 s_126 hc_127 k_128 hx_129 hm => ?_
      have fr_131 := fr_pool fr_111 k_128
      exact ret_poolN hm (e_5.trans (e_12.trans (e_58.trans (e_86.trans (e_93.trans (e_105.trans (e_114.trans e_125))))))) fr_131 s_126 hc_127 (Rt.mono _ (Ex.refl _) exz hx_129)
    · refine q_setT (E := E) (K := K) (σ := [some (.ref p0), some v_2, some v_72]) (i := 0) (k := 0) rfl (x_call (a_cons (x_var (i := 2) rfl (Rp.mono _ (e_93.trans (e_105.trans e_118)) exz r_73)) (a_one (q_pool (i := 0) (k := 2) rfl hc_107 (Rt.mono _ e_118 exz hx_109) (pjs (pjs pj0)))))) pk0 s_119 hc_107 (Rt.mono _ e_118 exz hx_109) hm fun y_132 ws_133 I_134 C_135 H_136 e_137 s_138 hc_139 k_140 hx_141 hm => ?_
      have fr_143 := fr_pool fr_111 k_140
      exact ret_poolN hm (e_5.trans (e_12.trans (e_58.trans (e_86.trans (e_93.trans (e_105.trans (e_118.trans e_137))))))) fr_143 s_138 hc_139 (Rt.mono _ (Ex.refl _) exz hx_141)
def m__law_take (ar_many : Int) (a_pool : Pl) : Res (Int × Pl) :=
  ((ifR (bin rLt (Res.ok a_pool.1) (Res.ok ar_many)) (((m__law_fill ()) a_pool).bind fun (b_17 : Unit × Pl) => (Res.ok b_17.2)) (Res.ok a_pool)).bind fun (z_9 : Pl) => ((bin rMod (un idR (Res.ok z_9.1)) (Res.ok ar_many)).bind fun (value_33 : Int) => (thenR (bin rDiv (Res.ok z_9.1) (Res.ok ar_many)) (fun (a_50 : Int) => (a_50, z_9.2)) (fun (y_40 : Pl) => ((Res.ok value_33).bind fun a_52 => Res.ok (a_52, y_40))))))
abbrev N__law_take : List Str := ["pool", "many", "value"]
theorem sc__law_take : FnScope N__law_take ["pool", "many"] (defScope s__law_take) := ⟨rfl, rfl, rfl, by decide +kernel, rfl, by decide +kernel, by decide +kernel⟩
theorem bind__law_take {K : PySem.W.Frag} {mg : Str → Option Value} {T : Tx K mg} : Binds K T.d__law_take ["pool", "many"] [] := FunD.bindsN T.F__law_take fun _ _ _ _ _ _ us hl => match us, hl with | [_, _], _ => rfl
abbrev sp__law_take (K : PySem.W.Frag) : Sp := spM pM (t1 pI) m__law_take pI
theorem ok__law_take (T : Tx K mg) : FnOk P w K mg base (L2.CX P w) 3 T.f__law_take T.d__law_take ["pool", "many"] (sp__law_take K) := by
  refine T.F__law_take.ok sc__law_take (fun vs H Q E h => ?_) (fun cdv A outer s H vs Q E hr h => ?_)
  · obtain ⟨I, C, p, ws, us, x, a, rfl, _, _, _, hr, _⟩ := h
    exact congrArg (· + 1) (Rt.len _ hr)
  · obtain ⟨I0, C0, p0, ws0, us, a_pool, ar_many, rfl, hs, hc0, hx1, ⟨v_many, rfl, r_many⟩, hm⟩ := h
    have hx0 := It.im (C' := Z) hx1
    have hm : Post (m__law_take ar_many a_pool) (PM p0 pM pI I0 C0 Q) XF := hm
    replace r_many : Rp.r pI ar_many v_many I0 Z := Im.im r_many
    unfold m__law_take at hm
    refine ⟨_, (Evl.pss_cut (ps_if (pt_cmpR op_lt (pe_ix (r := rIxL K) ix_list (pv 0) pe_int (fun _ _ => rfl)) (pv 1) (nomark _)) (pss_cons (ps_expr (pe_call (ok__law_fill T) (hr.mono (by decide)) rfl T.g__law_fill T.F__law_fill.kp bind__law_fill .nil passE (pa_cons (pv 0) pa_nil))) pss_nil) pss_nil) (pss_cons (ps_set (i := 2) sc__law_take.nd rfl (Or.inl rfl) (pe_op op_mod (pe_callTy call_int1 (by rfl) T.gb_int bt_int (pa_cons (pe_ix (r := rIxL K) ix_list (pv 0) pe_int (fun _ _ => rfl)) pa_nil)) (pv 1))) (pss_cons (ps_asg (pe_op op_fdiv (pe_ix (r := rIxL K) ix_list (pv 0) pe_int (fun _ _ => rfl)) (pv 1)) (pg_sub (pv 0) pe_int set_list)) (pss_cons (ps_ret (pv 2)) pss_nil)))), ?_⟩
    refine s_ifj (E := E) (K := K) (σ := [some (.ref p0), some v_many, none]) (fun (z_9 : Pl) σ2 I_11 C_12 => σ2 = [some (.ref p0), some v_many, none] ∧ (∃ ws_13 : List V, C_12 p0 = some (.lst ws_13) ∧ Rt.r pM z_9 ws_13 I_11 Z) ∧ Ex (off C0 p0) C_12) (t_test (x_op o_lt (q_pool (i := 0) (k := 0) rfl hc0 (Rt.mono _ (Ex.refl _) exz hx0) pj0) (x_var (i := 1) rfl (Rp.mono _ (Ex.refl _) exz r_many)))) hs (fun _ _ h => h.elim) hm (fun N I_1 H_2 e_3 s_4 hm => ?_) (fun N I_5 H_6 e_7 s_8 hm => ?_) (fun z_9 σ2 I_28 C_29 H_30 e_31 s_32 ⟨hs_10, ⟨ws_13, hc_14, hx_15⟩, fr_16⟩ hm => ?_)
    · refine qm_expr (E := E) (K := K) (σ := [some (.ref p0), some v_many, none]) (m_callM0 (i := 0) rfl) s_4 hc0 (Rt.mono _ e_3 exz hx0) hm fun b_17 ws_18 I_19 C_20 H_21 e_22 s_23 hc_24 k_25 hx_26 hm => ?_
      have fr_27 := fr_pool (off_ex (C := C0) (p := p0)) k_25
      exact hm _ _ _ _ (e_3.trans e_22) s_23 ⟨rfl, ⟨_, hc_24, Rt.mono _ (Ex.refl _) exz hx_26⟩, fr_27⟩
    · exact hm _ _ _ _ e_7 s_8 ⟨rfl, ⟨_, hc0, Rt.mono _ e_7 exz hx0⟩, (off_ex (C := C0) (p := p0))⟩
    subst hs_10
    refine q_asg (E := E) (K := K) (σ := [some (.ref p0), some v_many, none]) (i := 2) (x_op o_mod (x_cb o_int (a_one (q_pool (i := 0) (k := 0) rfl hc_14 (Rt.mono _ (Ex.refl _) exz hx_15) pj0))) (x_var (i := 1) rfl (Rp.mono _ e_31 exz r_many))) s_32 (fun _ _ h => h.elim) hm fun value_33 v_34 I_35 H_36 e_37 s_38 r_39 hm => ?_
    refine q_setT (E := E) (K := K) (σ := [some (.ref p0), some v_many, some v_34]) (i := 0) (k := 0) rfl (x_op o_fdiv (q_pool (i := 0) (k := 0) rfl hc_14 (Rt.mono _ e_37 exz hx_15) pj0) (x_var (i := 1) rfl (Rp.mono _ (e_31.trans e_37) exz r_many))) pk0 s_38 hc_14 (Rt.mono _ e_37 exz hx_15) hm fun y_40 ws_41 I_42 C_43 H_44 e_45 s_46 hc_47 k_48 hx_49 hm => ?_
    have fr_51 := fr_pool fr_16 k_48
    refine q_ret (tz := tNext) (E := E) (K := K) (σ := [some (.ref p0), some v_many, some v_34]) (x_var (i := 2) rfl (Rp.mono _ e_45 exz r_39)) s_46 (fun _ _ h => h.elim) hm fun a_52 v_53 I_54 H_55 e_56 s_57 r_58 hm => ?_
    exact ret_pool hm (e_31.trans (e_37.trans (e_45.trans e_56))) fr_51 s_57 hc_47 (Rt.mono _ e_56 exz hx_49) r_58
def m__law_from (ar_low : Int) (ar_high : Int) (a_pool : Pl) : Res (Int × Pl) :=
  (((binM rAdd (liftM (Res.ok ar_low)) (callM m__law_take (liftM (bin rAdd (bin rSub (Res.ok ar_high) (Res.ok ar_low)) (Res.ok (1 : Int)))))) a_pool).bind fun a_1 => Res.ok (a_1.1, a_1.2))
abbrev N__law_from : List Str := ["pool", "low", "high"]
theorem sc__law_from : FnScope N__law_from ["pool", "low", "high"] (defScope s__law_from) := ⟨rfl, rfl, rfl, by decide +kernel, rfl, by decide +kernel, by decide +kernel⟩
theorem bind__law_from {K : PySem.W.Frag} {mg : Str → Option Value} {T : Tx K mg} : Binds K T.d__law_from ["pool", "low", "high"] [] := FunD.bindsN T.F__law_from fun _ _ _ _ _ _ us hl => match us, hl with | [_, _, _], _ => rfl
abbrev sp__law_from (K : PySem.W.Frag) : Sp := spM pM (tc pI (t1 pI)) (fun (p : (Int × Int)) => m__law_from p.1 p.2) pI
theorem ok__law_from (T : Tx K mg) : FnOk P w K mg base (L2.CX P w) 4 T.f__law_from T.d__law_from ["pool", "low", "high"] (sp__law_from K) := by
  refine T.F__law_from.ok sc__law_from (fun vs H Q E h => ?_) (fun cdv A outer s H vs Q E hr h => ?_)
  · obtain ⟨I, C, p, ws, us, x, a, rfl, _, _, _, hr, _⟩ := h
    exact congrArg (· + 1) (Rt.len _ hr)
  · obtain ⟨I0, C0, p0, ws0, us, a_pool, ⟨ar_low, ar_high⟩, rfl, hs, hc0, hx1, ⟨v_low, us0, rfl, r_low, v_high, rfl, r_high⟩, hm⟩ := h
    have hx0 := It.im (C' := Z) hx1
    have hm : Post (m__law_from ar_low ar_high a_pool) (PM p0 pM pI I0 C0 Q) XF := hm
    replace r_low : Rp.r pI ar_low v_low I0 Z := Im.im r_low
    replace r_high : Rp.r pI ar_high v_high I0 Z := Im.im r_high
    unfold m__law_from at hm
    refine ⟨_, (pss_cons (ps_ret (pe_op op_add (pv 1) (pe_call (ok__law_take T) (hr.mono (by decide)) rfl T.g__law_take T.F__law_take.kp bind__law_take .nil passE (pa_cons (pv 0) (pa_cons (pe_op op_add (pe_op op_sub (pv 2) (pv 1)) pe_int) pa_nil))))) pss_nil), ?_⟩
    refine qm_ret (E := E) (K := K) (σ := [some (.ref p0), some v_low, some v_high]) (m_op (fun _ => o_add) off_same (m_pure (x_var (i := 1) rfl (Rp.mono _ (Ex.refl _) exz r_low))) (m_callM (i := 0) rfl (am_pure (a_one (x_op o_add (x_op o_sub (x_var (i := 2) rfl (Rp.mono _ (Ex.refl _) exz r_high)) (x_var (i := 1) rfl (Rp.mono _ (Ex.refl _) exz r_low))) (x_int (i := 1))))))) hs hc0 (Rt.mono _ (Ex.refl _) exz hx0) hm fun a_1 v_2 ws_8 I_3 C_9 H_4 e_5 s_6 hc_10 k_11 hx_12 r_7 hm => ?_
    have fr_13 := fr_pool (off_ex (C := C0) (p := p0)) k_11
    exact ret_pool hm e_5 fr_13 s_6 hc_10 hx_12 r_7
def m__law_groups (_ : Unit) (a_pool : Pl) : Res ((List (Int × Int)) × Pl) :=
  (((callM (fun (p : (Int × Int)) => m__law_from p.1 p.2) (liftM (pair (Res.ok (1 : Int)) (Res.ok (24 : Int))))) a_pool).bind fun (many_1 : Int × Pl) => ((ifMR (binM eqR (callM m__law_take (liftM (Res.ok (2 : Int)))) (liftM (Res.ok (0 : Int)))) many_1.2 (fun (y_22 : Pl) => (((callM (fun (p : (Int × Int)) => m__law_from p.1 p.2) (liftM (pair (Res.ok (1 : Int)) (Res.ok (6 : Int))))) y_22).bind fun (many_45 : Int × Pl) => (Res.ok (many_45.2, many_45.1)))) (fun (y_28 : Pl) => (Res.ok (y_28, many_1.1)))).bind fun (z_34 : (Pl × Int)) => (((binM ix (liftM (consR (Res.ok (100000 : Int)) (consR (Res.ok (5 : Int)) (consR (Res.ok (1 : Int)) (consR (Res.ok (1000 : Int)) (Res.ok [])))))) (callM m__law_take (liftM (Res.ok (4 : Int))))) z_34.1).bind fun (most_64 : Int × Pl) => ((Res.ok ([] : List (Int × Int))).bind fun (rows_77 : (List (Int × Int))) => (((un rng1 (Res.ok z_34.2)).bind fun xs => loopN (fun (x_109 : Int) (z_94 : ((List (Int × Int)) × Pl)) => (((callM m__law_take (liftM (bin rAdd (Res.ok most_64.1) (Res.ok (1 : Int))))) z_94.2).bind fun (yes_121 : Int × Pl) => (((callM m__law_take (liftM (bin rAdd (Res.ok most_64.1) (Res.ok (1 : Int))))) yes_121.2).bind fun (no_135 : Int × Pl) => ((ifR (bin eqR (bin rAdd (Res.ok yes_121.1) (Res.ok no_135.1)) (Res.ok (0 : Int))) (((callM m__law_take (liftM (Res.ok (2 : Int)))) no_135.2).bind fun (yes_170 : Int × Pl) => ((bin rSub (Res.ok (1 : Int)) (Res.ok yes_170.1)).bind fun (no_184 : Int) => (Res.ok (yes_170.2, yes_170.1, no_184)))) (Res.ok (no_135.2, yes_121.1, no_135.1))).bind fun (z_157 : (Pl × Int × Int)) => (((pair (Res.ok z_157.2.1) (Res.ok z_157.2.2)).bind fun x => push z_94.1 x).bind fun (rows_196 : (List (Int × Int))) => (Res.ok (rows_196, z_157.1))))))) xs (rows_77, most_64.2)).bind fun (z_214 : ((List (Int × Int)) × Pl)) => (((callM m__law_take (liftM (Res.ok (4 : Int)))) z_214.2).bind fun (turn_229 : Int × Pl) => ((un sortP ((un rng1 (Res.ok z_34.2)).bind (mapR (fun (x_253 : Int) => (pair (bin rDiv (bin rMul (un (fun p => Res.ok p.1) (bin ix (Res.ok z_214.1) (Res.ok x_253))) (Res.ok (1000000 : Int))) (bin rAdd (un (fun p => Res.ok p.1) (bin ix (Res.ok z_214.1) (Res.ok x_253))) (un (fun p => Res.ok p.2) (bin ix (Res.ok z_214.1) (Res.ok x_253))))) (Res.ok x_253)))))).bind fun (order_260 : (List (Int × Int))) => (ifR (bin eqR (Res.ok turn_229.1) (Res.ok (2 : Int))) (((Res.ok order_260).bind (mapR (fun (x_275 : (Int × Int)) => (bin ix (Res.ok z_214.1) (un (fun p => Res.ok p.2) (Res.ok x_275)))))).bind fun a_282 => Res.ok (a_282, turn_229.2)) (ifR (bin eqR (Res.ok turn_229.1) (Res.ok (3 : Int))) (((un revR (Res.ok order_260)).bind (mapR (fun (x_297 : (Int × Int)) => (bin ix (Res.ok z_214.1) (un (fun p => Res.ok p.2) (Res.ok x_297)))))).bind fun a_304 => Res.ok (a_304, turn_229.2)) ((Res.ok z_214.1).bind fun a_311 => Res.ok (a_311, turn_229.2)))))))))))
abbrev N__law_groups : List Str := ["pool", "many", "most", "rows", "k", "yes", "no", "turn", "order", "pair"]
theorem sc__law_groups : FnScope N__law_groups ["pool"] (defScope s__law_groups) := ⟨rfl, rfl, rfl, by decide +kernel, rfl, by decide +kernel, by decide +kernel⟩
theorem bind__law_groups {K : PySem.W.Frag} {mg : Str → Option Value} {T : Tx K mg} : Binds K T.d__law_groups ["pool"] [] := FunD.bindsN T.F__law_groups fun _ _ _ _ _ _ us hl => match us, hl with | [_], _ => rfl
abbrev sp__law_groups (K : PySem.W.Frag) : Sp := spM pM t0 m__law_groups (pL (pT (tc pI (t1 pI))))
theorem ok__law_groups (T : Tx K mg) : FnOk P w K mg base (L2.CX P w) 5 T.f__law_groups T.d__law_groups ["pool"] (sp__law_groups K) := by
  refine T.F__law_groups.ok sc__law_groups (fun vs H Q E h => ?_) (fun cdv A outer s H vs Q E hr h => ?_)
  · obtain ⟨I, C, p, ws, us, x, a, rfl, _, _, _, hr, _⟩ := h
    exact congrArg (· + 1) (Rt.len _ hr)
  · obtain ⟨I0, C0, p0, ws0, us, a_pool, ⟨⟩, rfl, hs, hc0, hx1, rfl, hm⟩ := h
    have hx0 := It.im (C' := Z) hx1
    have hm : Post (m__law_groups () a_pool) (PM p0 pM (pL (pT (tc pI (t1 pI)))) I0 C0 Q) XF := hm
    unfold m__law_groups at hm
    refine ⟨_, (pss_cons (ps_set (i := 1) sc__law_groups.nd rfl (Or.inl rfl) (pe_call (ok__law_from T) (hr.mono (by decide)) rfl T.g__law_from T.F__law_from.kp bind__law_from .nil passE (pa_cons (pv 0) (pa_cons pe_int (pa_cons pe_int pa_nil))))) (Evl.pss_cut (ps_if (pt_cmpR op_eq (pe_call (ok__law_take T) (hr.mono (by decide)) rfl T.g__law_take T.F__law_take.kp bind__law_take .nil passE (pa_cons (pv 0) (pa_cons pe_int pa_nil))) pe_int (nomark _)) (pss_cons (ps_set (i := 1) sc__law_groups.nd rfl (Or.inl rfl) (pe_call (ok__law_from T) (hr.mono (by decide)) rfl T.g__law_from T.F__law_from.kp bind__law_from .nil passE (pa_cons (pv 0) (pa_cons pe_int (pa_cons pe_int pa_nil))))) pss_nil) pss_nil) (pss_cons (ps_set (i := 2) sc__law_groups.nd rfl (Or.inl rfl) (pe_ix (r := rIxL K) ix_list (pe_lst (pa_cons pe_int (pa_cons pe_int (pa_cons pe_int (pa_cons pe_int pa_nil))))) (pe_call (ok__law_take T) (hr.mono (by decide)) rfl T.g__law_take T.F__law_take.kp bind__law_take .nil passE (pa_cons (pv 0) (pa_cons pe_int pa_nil))) (fun _ _ => rfl))) (pss_cons (ps_set (i := 3) sc__law_groups.nd rfl (Or.inr rfl) (pe_lst pa_nil)) (pss_cons (ps_for (passes_of rfl) rfl (pi_range1 (by rfl) T.gb_range (pa_cons (pv 1) pa_nil)) (pg_name (i := 4) sc__law_groups.nd rfl (Or.inl rfl)) (pss_cons (ps_set (i := 5) sc__law_groups.nd rfl (Or.inl rfl) (pe_call (ok__law_take T) (hr.mono (by decide)) rfl T.g__law_take T.F__law_take.kp bind__law_take .nil passE (pa_cons (pv 0) (pa_cons (pe_op op_add (pv 2) pe_int) pa_nil)))) (pss_cons (ps_set (i := 6) sc__law_groups.nd rfl (Or.inl rfl) (pe_call (ok__law_take T) (hr.mono (by decide)) rfl T.g__law_take T.F__law_take.kp bind__law_take .nil passE (pa_cons (pv 0) (pa_cons (pe_op op_add (pv 2) pe_int) pa_nil)))) (Evl.pss_cut (ps_if (pt_cmpR op_eq (pe_op op_add (pv 5) (pv 6)) pe_int (nomark _)) (pss_cons (ps_set (i := 5) sc__law_groups.nd rfl (Or.inl rfl) (pe_call (ok__law_take T) (hr.mono (by decide)) rfl T.g__law_take T.F__law_take.kp bind__law_take .nil passE (pa_cons (pv 0) (pa_cons pe_int pa_nil)))) (pss_cons (ps_set (i := 6) sc__law_groups.nd rfl (Or.inl rfl) (pe_op op_sub pe_int (pv 5))) pss_nil)) pss_nil) (pss_cons (ps_expr (show PE _ _ (tBM K "list" rAppend _ _) from pe_bm PySem.F.plainAttrs_list PySem.F.slot_list_append PySem.F.type_list_append mt_append (pv 3) (pa_cons (pe_tup (pa_cons (pv 5) (pa_cons (pv 6) pa_nil))) pa_nil))) pss_nil))))) (pss_cons (ps_set (i := 7) sc__law_groups.nd rfl (Or.inl rfl) (pe_call (ok__law_take T) (hr.mono (by decide)) rfl T.g__law_take T.F__law_take.kp bind__law_take .nil passE (pa_cons (pv 0) (pa_cons pe_int pa_nil)))) (pss_cons (ps_set (i := 8) sc__law_groups.nd rfl (Or.inl rfl) (pe_callB (r := rSortedPO K) cr_sortedPO (by rfl) T.gb_sorted bt_sorted (pa_cons (pe_lc (own := [("k", 4)]) rfl sc__law_groups.nd (pi_range1 (by rfl) T.gb_range (pa_cons (pv 1) pa_nil)) (blkOk_by (own := [("k", 4)]) (N := N__law_groups) (sc := defScope s__law_groups) (by decide +kernel)) (fun _ _ _ _ _ => (pg_name (i := 4) sc__law_groups.nd rfl (Or.inl rfl))) (fun _ _ _ _ _ => pts_nil) (fun _ _ _ _ _ => (pe_tup (pa_cons (pe_op op_fdiv (pe_op op_mul (pe_ix (r := rIxT K) ix_tup (pe_ix (r := rIxL K) ix_list (pv 3) (pv 4) (fun _ _ => rfl)) pe_int (fun _ _ => rfl)) pe_int) (pe_op op_add (pe_ix (r := rIxT K) ix_tup (pe_ix (r := rIxL K) ix_list (pv 3) (pv 4) (fun _ _ => rfl)) pe_int (fun _ _ => rfl)) (pe_ix (r := rIxT K) ix_tup (pe_ix (r := rIxL K) ix_list (pv 3) (pv 4) (fun _ _ => rfl)) pe_int (fun _ _ => rfl)))) (pa_cons (pv 4) pa_nil))))) pa_nil))) (pss_cons (ps_if (pt_cmpR op_eq (pv 7) pe_int (nomark _)) (pss_cons (ps_ret (pe_lc (own := [("pair", 9)]) rfl sc__law_groups.nd (show PI _ _ _ (iList K _) from pi_list (pv 8)) (blkOk_by (own := [("pair", 9)]) (N := N__law_groups) (sc := defScope s__law_groups) (by decide +kernel)) (fun _ _ _ _ _ => (pg_name (i := 9) sc__law_groups.nd rfl (Or.inl rfl))) (fun _ _ _ _ _ => pts_nil) (fun _ _ _ _ _ => (pe_ix (r := rIxL K) ix_list (pv 3) (pe_ix (r := rIxT K) ix_tup (pv 9) pe_int (fun _ _ => rfl)) (fun _ _ => rfl))))) pss_nil) pss_nil) (pss_cons (ps_if (pt_cmpR op_eq (pv 7) pe_int (nomark _)) (pss_cons (ps_ret (pe_lc (own := [("pair", 9)]) rfl sc__law_groups.nd (show PI _ _ _ (iList K _) from pi_list (show PE _ _ (tRevL K _) from pe_revL (pv 8))) (blkOk_by (own := [("pair", 9)]) (N := N__law_groups) (sc := defScope s__law_groups) (by decide +kernel)) (fun _ _ _ _ _ => (pg_name (i := 9) sc__law_groups.nd rfl (Or.inl rfl))) (fun _ _ _ _ _ => pts_nil) (fun _ _ _ _ _ => (pe_ix (r := rIxL K) ix_list (pv 3) (pe_ix (r := rIxT K) ix_tup (pv 9) pe_int (fun _ _ => rfl)) (fun _ _ => rfl))))) pss_nil) pss_nil) (pss_cons (ps_ret (pv 3)) pss_nil)))))))))), ?_⟩
    refine qm_asg (E := E) (K := K) (σ := [some (.ref p0), none, none, none, none, none, none, none, none, none]) (i := 1) (m_callM (i := 0) rfl (am_pure (a_cons (x_int (i := 1)) (a_one (x_int (i := 24)))))) hs hc0 (Rt.mono _ (Ex.refl _) exz hx0) hm fun many_1 v_2 ws_8 I_3 C_9 H_4 e_5 s_6 hc_10 k_11 hx_12 r_7 hm => ?_
    have fr_13 := fr_pool (off_ex (C := C0) (p := p0)) k_11
    refine qm_ifj (E := E) (K := K) (σ := [some (.ref p0), some v_2, none, none, none, none, none, none, none, none]) (fun (z_34 : (Pl × Int)) σ2 I_36 C_37 => ∃ v_41 : V, σ2 = [some (.ref p0), some v_41, none, none, none, none, none, none, none, none] ∧ (∃ ws_38 : List V, C_37 p0 = some (.lst ws_38) ∧ Rt.r pM z_34.1 ws_38 I_36 Z) ∧ Rp.r pI z_34.2 v_41 I_36 Z ∧ Ex (off C0 p0) C_37) (tm_test (m_op (fun _ => o_eqI) off_same (m_callM (i := 0) rfl (am_pure (a_one (x_int (i := 2))))) (m_pure (x_int (i := 0))))) s_6 hc_10 (Rt.mono _ (Ex.refl _) exz hx_12) hm (fun N y_22 ws_23 I_14 C_24 H_15 e_16 s_17 hc_25 k_26 hx_27 hm => ?_) (fun N y_28 ws_29 I_18 C_30 H_19 e_20 s_21 hc_31 k_32 hx_33 hm => ?_) (fun z_34 σ2 I_59 C_60 H_61 e_62 s_63 ⟨v_41, hs_35, ⟨ws_38, hc_39, hx_40⟩, r_42, fr_43⟩ hm => ?_)
    · have fr_44 := fr_pool fr_13 k_26
      refine qm_asg (E := E) (K := K) (σ := [some (.ref p0), some v_2, none, none, none, none, none, none, none, none]) (i := 1) (m_callM (i := 0) rfl (am_pure (a_cons (x_int (i := 1)) (a_one (x_int (i := 6)))))) s_17 hc_25 (Rt.mono _ (Ex.refl _) exz hx_27) hm fun many_45 v_46 ws_52 I_47 C_53 H_48 e_49 s_50 hc_54 k_55 hx_56 r_51 hm => ?_
      have fr_57 := fr_pool fr_44 k_55
      exact hm _ _ _ _ (e_16.trans e_49) s_50 ⟨v_46, rfl, ⟨_, hc_54, Rt.mono _ (Ex.refl _) exz hx_56⟩, Rp.mono _ (Ex.refl _) exz r_51, fr_57⟩
    · have fr_58 := fr_pool fr_13 k_32
      exact hm _ _ _ _ e_20 s_21 ⟨v_2, rfl, ⟨_, hc_31, Rt.mono _ (Ex.refl _) exz hx_33⟩, Rp.mono _ e_20 exz r_7, fr_58⟩
    subst hs_35
    refine qm_asg (E := E) (K := K) (σ := [some (.ref p0), some v_41, none, none, none, none, none, none, none, none]) (i := 2) (m_op (fun _ => (Op2.ofL o_ix)) off_same (m_pure (x_lst (al_cons (x_int (i := 100000)) (al_cons (x_int (i := 5)) (al_cons (x_int (i := 1)) (al_cons (x_int (i := 1000)) al_nil)))) (Nat.le_of_ble_eq_true rfl))) (m_callM (i := 0) rfl (am_pure (a_one (x_int (i := 4)))))) s_63 hc_39 (Rt.mono _ (Ex.refl _) exz hx_40) hm fun most_64 v_65 ws_71 I_66 C_72 H_67 e_68 s_69 hc_73 k_74 hx_75 r_70 hm => ?_
    have fr_76 := fr_pool fr_43 k_74
    refine q_asgN (E := E) (K := K) (σ := [some (.ref p0), some v_41, some v_65, none, none, none, none, none, none, none]) (i := 3) (n_lst (R := (pT (tc pI (t1 pI)))) al_nil (by decide)) s_69 (fun _ _ h => h.elim) hm fun rows_77 p_78 vs_79 I_80 C_81 H_82 e_83 hp_84 s_85 hc_86 k_87 hl_88 hr_89 hm => ?_
    have ne_90 := ne_new hc_73 hp_84
    have hB_91 := Ex.free fr_76 hp_84
    have hc_92 := (k_87 _ ne_90).trans hc_73
    have fr_93 := fr_keep fr_76 hB_91 k_87
    refine s_forN (E := E) (K := K) (σ := [some (.ref p0), some v_41, some v_65, some (.ref p_78), none, none, none, none, none, none]) (fun (z_94 : ((List (Int × Int)) × Pl)) σ2 I_99 C_100 => ∃ w_96 : Option V, ∃ w_97 : Option V, ∃ w_98 : Option V, σ2 = [some (.ref p0), some v_41, some v_65, some (.ref p_78), w_96, w_97, w_98, none, none, none] ∧ (∃ vs_101 : List V, C_100 p_78 = some (.lst vs_101) ∧ vs_101.length ≤ sizeLine ∧ A2 (fun x u => Rp.r (pT (tc pI (t1 pI))) x u I_99 Z) z_94.1 vs_101) ∧ (∃ ws_105 : List V, C_100 p0 = some (.lst ws_105) ∧ Rt.r pM z_94.2 ws_105 I_99 Z) ∧ Ex (off C0 p0) C_100) (i_rng1 (a_one (x_var (i := 1) rfl (Rp.mono _ (e_68.trans e_83) exz r_42)))) s_85 (fun _ _ h => h.elim) hm (fun _ e_117 => ⟨none, none, none, rfl, ⟨_, hc_86, hl_88, a2up (Ex.trans (Ex.refl _) e_117) hr_89⟩, ⟨_, hc_92, Rt.mono _ (Ex.trans e_83 e_117) exz hx_75⟩, fr_93⟩) (fun _ _ _ _ _ => trivial) (fun _ _ _ _ _ e ⟨w_96, w_97, w_98, hs_95, ⟨vs_101, hc_102, hl_103, hr_104⟩, ⟨ws_105, hc_106, hx_107⟩, fr_108⟩ => ⟨w_96, w_97, w_98, hs_95, ⟨vs_101, hc_102, hl_103, a2up e hr_104⟩, ⟨ws_105, hc_106, Rt.mono _ e exz hx_107⟩, fr_108⟩) (fun N x_109 v_110 z_94 σ2 I_111 C_112 H_113 e_114 s_115 ⟨w_96, w_97, w_98, hs_95, ⟨vs_101, hc_102, hl_103, hr_104⟩, ⟨ws_105, hc_106, hx_107⟩, fr_108⟩ r_116 hm => ?_) (fun z_214 σ2 I_209 C_210 H_211 e_212 s_213 ⟨w_216, w_217, w_218, hs_215, ⟨vs_221, hc_222, hl_223, hr_224⟩, ⟨ws_225, hc_226, hx_227⟩, fr_228⟩ hm => ?_)
    · subst hs_95
      refine g1 (K := K) x_109 v_110 I_111 C_112 H_113 _ s_115 r_116 fun σ2 ⟨v_118, hs_120, r_119⟩ => ?_
      subst hs_120
      refine qm_asg (E := E) (K := K) (σ := [some (.ref p0), some v_41, some v_65, some (.ref p_78), some v_118, w_97, w_98, none, none, none]) (i := 5) (m_callM (i := 0) rfl (am_pure (a_one (x_op o_add (x_var (i := 2) rfl (Rp.mono _ (e_83.trans e_114) exz r_70)) (x_int (i := 1)))))) s_115 hc_106 (Rt.mono _ (Ex.refl _) exz hx_107) hm fun yes_121 v_122 ws_128 I_123 C_129 H_124 e_125 s_126 hc_130 k_131 hx_132 r_127 hm => ?_
      have hc_133 := (k_131 _ (Ne.symm ne_90)).trans hc_102
      have fr_134 := fr_pool fr_108 k_131
      refine qm_asg (E := E) (K := K) (σ := [some (.ref p0), some v_41, some v_65, some (.ref p_78), some v_118, some v_122, w_98, none, none, none]) (i := 6) (m_callM (i := 0) rfl (am_pure (a_one (x_op o_add (x_var (i := 2) rfl (Rp.mono _ (e_83.trans (e_114.trans e_125)) exz r_70)) (x_int (i := 1)))))) s_126 hc_130 (Rt.mono _ (Ex.refl _) exz hx_132) hm fun no_135 v_136 ws_142 I_137 C_143 H_138 e_139 s_140 hc_144 k_145 hx_146 r_141 hm => ?_
      have hc_147 := (k_145 _ (Ne.symm ne_90)).trans hc_133
      have fr_148 := fr_pool fr_134 k_145
      refine s_ifj (E := E) (K := K) (σ := [some (.ref p0), some v_41, some v_65, some (.ref p_78), some v_118, some v_122, some v_136, none, none, none]) (fun (z_157 : (Pl × Int × Int)) σ2 I_159 C_160 => ∃ v_164 : V, ∃ v_166 : V, σ2 = [some (.ref p0), some v_41, some v_65, some (.ref p_78), some v_118, some v_164, some v_166, none, none, none] ∧ (∃ ws_161 : List V, C_160 p0 = some (.lst ws_161) ∧ Rt.r pM z_157.1 ws_161 I_159 Z) ∧ Rp.r pI z_157.2.1 v_164 I_159 Z ∧ Rp.r pI z_157.2.2 v_166 I_159 Z ∧ C_160 p_78 = some (.lst vs_101) ∧ Ex (off C0 p0) C_160) (t_test (x_op o_eqI (x_op o_add (x_var (i := 5) rfl (Rp.mono _ e_139 exz r_127)) (x_var (i := 6) rfl (Rp.mono _ (Ex.refl _) exz r_141))) (x_int (i := 0)))) s_140 (fun _ _ h => h.elim) hm (fun N I_149 H_150 e_151 s_152 hm => ?_) (fun N I_153 H_154 e_155 s_156 hm => ?_) (fun z_157 σ2 I_191 C_192 H_193 e_194 s_195 ⟨v_164, v_166, hs_158, ⟨ws_161, hc_162, hx_163⟩, r_165, r_167, hc_168, fr_169⟩ hm => ?_)
      · refine qm_asg (E := E) (K := K) (σ := [some (.ref p0), some v_41, some v_65, some (.ref p_78), some v_118, some v_122, some v_136, none, none, none]) (i := 5) (m_callM (i := 0) rfl (am_pure (a_one (x_int (i := 2))))) s_152 hc_144 (Rt.mono _ e_151 exz hx_146) hm fun yes_170 v_171 ws_177 I_172 C_178 H_173 e_174 s_175 hc_179 k_180 hx_181 r_176 hm => ?_
        have hc_182 := (k_180 _ (Ne.symm ne_90)).trans hc_147
        have fr_183 := fr_pool fr_148 k_180
        refine q_asg (E := E) (K := K) (σ := [some (.ref p0), some v_41, some v_65, some (.ref p_78), some v_118, some v_171, some v_136, none, none, none]) (i := 6) (x_op o_sub (x_int (i := 1)) (x_var (i := 5) rfl (Rp.mono _ (Ex.refl _) exz r_176))) s_175 (fun _ _ h => h.elim) hm fun no_184 v_185 I_186 H_187 e_188 s_189 r_190 hm => ?_
        exact hm _ _ _ _ (e_151.trans (e_174.trans e_188)) s_189 ⟨v_171, v_185, rfl, ⟨_, hc_179, Rt.mono _ e_188 exz hx_181⟩, Rp.mono _ e_188 exz r_176, Rp.mono _ (Ex.refl _) exz r_190, hc_182, fr_183⟩
      · exact hm _ _ _ _ e_155 s_156 ⟨v_122, v_136, rfl, ⟨_, hc_144, Rt.mono _ e_155 exz hx_146⟩, Rp.mono _ (e_139.trans e_155) exz r_127, Rp.mono _ e_155 exz r_141, hc_147, fr_148⟩
      subst hs_158
      refine q_app (E := E) (K := K) (σ := [some (.ref p0), some v_41, some v_65, some (.ref p_78), some v_118, some v_164, some v_166, none, none, none]) (i := 3) rfl hc_168 (a2up (e_125.trans (e_139.trans e_194)) hr_104) (x_tup (a_cons (x_var (i := 5) rfl (Rp.mono _ (Ex.refl _) exz r_165)) (a_one (x_var (i := 6) rfl (Rp.mono _ (Ex.refl _) exz r_167)))) (Nat.le_of_ble_eq_true rfl)) s_195 (fun _ _ h => h.elim) hm fun rows_196 vs_197 I_198 C_199 H_200 e_201 s_202 hc_203 k_204 hl_205 hr_206 hm => ?_
      have hc_207 := (k_204 _ ne_90).trans hc_162
      have fr_208 := fr_keep fr_169 hB_91 k_204
      exact hm _ _ _ _ (e_125.trans (e_139.trans (e_194.trans e_201))) s_202 ⟨some v_118, some v_164, some v_166, rfl, ⟨_, hc_203, hl_205, a2up (Ex.refl _) hr_206⟩, ⟨_, hc_207, Rt.mono _ e_201 exz hx_163⟩, fr_208⟩
    subst hs_215
    refine qm_asg (E := E) (K := K) (σ := [some (.ref p0), some v_41, some v_65, some (.ref p_78), w_216, w_217, w_218, none, none, none]) (i := 7) (m_callM (i := 0) rfl (am_pure (a_one (x_int (i := 4))))) s_213 hc_226 (Rt.mono _ (Ex.refl _) exz hx_227) hm fun turn_229 v_230 ws_236 I_231 C_237 H_232 e_233 s_234 hc_238 k_239 hx_240 r_235 hm => ?_
    have hc_241 := (k_239 _ (Ne.symm ne_90)).trans hc_222
    have fr_242 := fr_pool fr_228 k_239
    obtain ⟨I_243, C_244, e_245, s_246, h_247, k_248⟩ := freeze s_234 hc_241
    have r_250 := frz_list (e_233.trans e_245) h_247 hl_223 hr_224
    have hc_251 := (k_248 _ ne_90).trans hc_238
    have fr_252 := fr_keep fr_242 hB_91 k_248
    refine q_asg (E := E) (K := K) (σ := [some (.ref p0), some v_41, some v_65, some (.ref p_78), w_216, w_217, w_218, some v_230, none, none]) (i := 8) (x_own (n_cb n_sortP (a_one (x_v (x_lc (i_rng1 (a_one (x_var (i := 1) rfl (Rp.mono _ (e_68.trans (e_83.trans (e_212.trans (e_233.trans e_245)))) exz r_42)))) g1 (fun _ _ _ _ ⟨_, h, _⟩ => by rw [h]; rfl) (fun x_253 σ2 I_254 C_255 e_256 c_257 ⟨v_258, h, r_259⟩ => by subst h; exact (x_tup (a_cons (x_op o_fdiv (x_op o_mul (x_k (k := ((0 : Nat) : Int)) (o_pj pj0) (x_op o_ix (x_v (x_var (i := 3) rfl (Rp.mono _ e_256 exz r_250))) (x_var (i := 4) rfl (Rp.mono _ (Ex.refl _) exz r_259)))) (x_int (i := 1000000))) (x_op o_add (x_k (k := ((0 : Nat) : Int)) (o_pj pj0) (x_op o_ix (x_v (x_var (i := 3) rfl (Rp.mono _ e_256 exz r_250))) (x_var (i := 4) rfl (Rp.mono _ (Ex.refl _) exz r_259)))) (x_k (k := ((1 : Nat) : Int)) (o_pj (pjs pj1)) (x_op o_ix (x_v (x_var (i := 3) rfl (Rp.mono _ e_256 exz r_250))) (x_var (i := 4) rfl (Rp.mono _ (Ex.refl _) exz r_259)))))) (a_one (x_var (i := 4) rfl (Rp.mono _ (Ex.refl _) exz r_259)))) (Nat.le_of_ble_eq_true rfl))) (fun _ _ _ _ _ e ⟨v_258, h, r_259⟩ => ⟨v_258, h, Rp.mono _ e exz r_259⟩)))))) s_246 (fun _ _ h => h.elim) hm fun order_260 v_261 I_262 H_263 e_264 s_265 r_266 hm => ?_
    refine s_if (E := E) (K := K) (σ := [some (.ref p0), some v_41, some v_65, some (.ref p_78), w_216, w_217, w_218, some v_230, some v_261, none]) (t_test (x_op o_eqI (x_var (i := 7) rfl (Rp.mono _ (e_245.trans e_264) exz r_235)) (x_int (i := 2)))) s_265 (fun _ _ h => h.elim) hm (fun I_267 H_268 e_269 s_270 hm => ?_) (fun I_271 H_272 e_273 s_274 hm => ?_)
    · refine q_ret (tz := tNext) (E := E) (K := K) (σ := [some (.ref p0), some v_41, some v_65, some (.ref p_78), w_216, w_217, w_218, some v_230, some v_261, none]) (x_lc (i_list (x_var (i := 8) rfl (Rp.mono _ e_269 exz r_266))) g1 (fun _ _ _ _ ⟨_, h, _⟩ => by rw [h]; rfl) (fun x_275 σ2 I_276 C_277 e_278 c_279 ⟨v_280, h, r_281⟩ => by subst h; exact (x_op o_ix (x_v (x_var (i := 3) rfl (Rp.mono _ (e_264.trans (e_269.trans e_278)) exz r_250))) (x_k (k := ((1 : Nat) : Int)) (o_pj (pjs pj1)) (x_var (i := 9) rfl (Rp.mono _ (Ex.refl _) exz r_281))))) (fun _ _ _ _ _ e ⟨v_280, h, r_281⟩ => ⟨v_280, h, Rp.mono _ e exz r_281⟩)) s_270 (fun _ _ h => h.elim) hm fun a_282 v_283 I_284 H_285 e_286 s_287 r_288 hm => ?_
      exact ret_pool hm (e_5.trans (e_62.trans (e_68.trans (e_83.trans (e_212.trans (e_233.trans (e_245.trans (e_264.trans (e_269.trans e_286))))))))) fr_252 s_287 hc_251 (Rt.mono _ (e_245.trans (e_264.trans (e_269.trans e_286))) exz hx_240) r_288
    · refine s_if (E := E) (K := K) (σ := [some (.ref p0), some v_41, some v_65, some (.ref p_78), w_216, w_217, w_218, some v_230, some v_261, none]) (t_test (x_op o_eqI (x_var (i := 7) rfl (Rp.mono _ (e_245.trans (e_264.trans e_273)) exz r_235)) (x_int (i := 3)))) s_274 (fun _ _ h => h.elim) hm (fun I_289 H_290 e_291 s_292 hm => ?_) (fun I_293 H_294 e_295 s_296 hm => ?_)
      · refine q_ret (tz := tNext) (E := E) (K := K) (σ := [some (.ref p0), some v_41, some v_65, some (.ref p_78), w_216, w_217, w_218, some v_230, some v_261, none]) (x_lc (i_list (x_rev (x_v (x_var (i := 8) rfl (Rp.mono _ (e_273.trans e_291) exz r_266))))) g1 (fun _ _ _ _ ⟨_, h, _⟩ => by rw [h]; rfl) (fun x_297 σ2 I_298 C_299 e_300 c_301 ⟨v_302, h, r_303⟩ => by subst h; exact (x_op o_ix (x_v (x_var (i := 3) rfl (Rp.mono _ (e_264.trans (e_273.trans (e_291.trans e_300))) exz r_250))) (x_k (k := ((1 : Nat) : Int)) (o_pj (pjs pj1)) (x_var (i := 9) rfl (Rp.mono _ (Ex.refl _) exz r_303))))) (fun _ _ _ _ _ e ⟨v_302, h, r_303⟩ => ⟨v_302, h, Rp.mono _ e exz r_303⟩)) s_292 (fun _ _ h => h.elim) hm fun a_304 v_305 I_306 H_307 e_308 s_309 r_310 hm => ?_
        exact ret_pool hm (e_5.trans (e_62.trans (e_68.trans (e_83.trans (e_212.trans (e_233.trans (e_245.trans (e_264.trans (e_273.trans (e_291.trans e_308)))))))))) fr_252 s_309 hc_251 (Rt.mono _ (e_245.trans (e_264.trans (e_273.trans (e_291.trans e_308)))) exz hx_240) r_310
      · refine q_ret (tz := tNext) (E := E) (K := K) (σ := [some (.ref p0), some v_41, some v_65, some (.ref p_78), w_216, w_217, w_218, some v_230, some v_261, none]) (x_var (i := 3) rfl (Rp.mono _ (e_264.trans (e_273.trans e_295)) exz r_250)) s_296 (fun _ _ h => h.elim) hm fun a_311 v_312 I_313 H_314 e_315 s_316 r_317 hm => ?_
        exact ret_pool hm (e_5.trans (e_62.trans (e_68.trans (e_83.trans (e_212.trans (e_233.trans (e_245.trans (e_264.trans (e_273.trans (e_295.trans e_315)))))))))) fr_252 s_316 hc_251 (Rt.mono _ (e_245.trans (e_264.trans (e_273.trans (e_295.trans e_315)))) exz hx_240) r_317
def m__law_share (ar_rows : (List (Int × Int))) (ar_start : Int) (ar_end : Int) : Res (Int × Int) :=
  ((un sumR ((slR (Res.ok ar_rows) (someR (Res.ok ar_start)) (someR (Res.ok ar_end))).bind (mapR (fun (x_1 : (Int × Int)) => (un (fun p => Res.ok p.1) (Res.ok x_1)))))).bind fun (yes_8 : Int) => ((pair (Res.ok yes_8) (bin rAdd (Res.ok yes_8) (un sumR ((slR (Res.ok ar_rows) (someR (Res.ok ar_start)) (someR (Res.ok ar_end))).bind (mapR (fun (x_15 : (Int × Int)) => (un (fun p => Res.ok p.2) (Res.ok x_15)))))))).bind fun a_22 => Res.ok a_22))
abbrev N__law_share : List Str := ["rows", "start", "end", "yes", "pair"]
theorem sc__law_share : FnScope N__law_share ["rows", "start", "end"] (defScope s__law_share) := ⟨rfl, rfl, rfl, by decide +kernel, rfl, by decide +kernel, by decide +kernel⟩
theorem bind__law_share {K : PySem.W.Frag} {mg : Str → Option Value} {T : Tx K mg} : Binds K T.d__law_share ["rows", "start", "end"] [] := FunD.bindsN T.F__law_share fun _ _ _ _ _ _ us hl => match us, hl with | [_, _, _], _ => rfl
abbrev sp__law_share (K : PySem.W.Frag) : Sp := spP K (tc (pL (pT (tc pI (t1 pI)))) (tc pI (t1 pI))) (fun (p : ((List (Int × Int)) × Int × Int)) => m__law_share p.1 p.2.1 p.2.2) (pT (tc pI (t1 pI)))
theorem ok__law_share (T : Tx K mg) : FnOk P w K mg base (L2.CX P w) 1 T.f__law_share T.d__law_share ["rows", "start", "end"] (sp__law_share K) := by
  refine T.F__law_share.ok sc__law_share (fun vs H Q E h => ?_) (fun cdv A outer s H vs Q E hr h => ?_)
  · obtain ⟨I, C, a, _, hr, _⟩ := h
    exact Rt.len _ hr
  · obtain ⟨I0, C0, ⟨ar_rows, ar_start, ar_end⟩, hs, ⟨v_rows, us0, rfl, r_rows, v_start, us1, rfl, r_start, v_end, rfl, r_end⟩, hm⟩ := h
    have hm : Post (m__law_share ar_rows ar_start ar_end) (PQ (pT (tc pI (t1 pI))) I0 C0 Q) (PX E K I0 C0) := hm
    replace r_rows : Rp.r (pL (pT (tc pI (t1 pI)))) ar_rows v_rows I0 Z := Im.im r_rows
    replace r_start : Rp.r pI ar_start v_start I0 Z := Im.im r_start
    replace r_end : Rp.r pI ar_end v_end I0 Z := Im.im r_end
    unfold m__law_share at hm
    refine ⟨_, (pss_cons (ps_set (i := 3) sc__law_share.nd rfl (Or.inl rfl) (pe_callB (r := rSum K) (cr_sum rfl) (by rfl) T.gb_sum bt_sum (pa_cons (pe_lc (own := [("pair", 4)]) rfl sc__law_share.nd (show PI _ _ _ (iList K _) from pi_list (pe_slice (r := rSlL K) sl_list (pv 0) (po_some (pv 1)) (po_some (pv 2)))) (blkOk_by (own := [("pair", 4)]) (N := N__law_share) (sc := defScope s__law_share) (by decide +kernel)) (fun _ _ _ _ _ => (pg_name (i := 4) sc__law_share.nd rfl (Or.inl rfl))) (fun _ _ _ _ _ => pts_nil) (fun _ _ _ _ _ => (pe_ix (r := rIxT K) ix_tup (pv 4) pe_int (fun _ _ => rfl)))) pa_nil))) (pss_cons (ps_ret (pe_tup (pa_cons (pv 3) (pa_cons (pe_op op_add (pv 3) (pe_callB (r := rSum K) (cr_sum rfl) (by rfl) T.gb_sum bt_sum (pa_cons (pe_lc (own := [("pair", 4)]) rfl sc__law_share.nd (show PI _ _ _ (iList K _) from pi_list (pe_slice (r := rSlL K) sl_list (pv 0) (po_some (pv 1)) (po_some (pv 2)))) (blkOk_by (own := [("pair", 4)]) (N := N__law_share) (sc := defScope s__law_share) (by decide +kernel)) (fun _ _ _ _ _ => (pg_name (i := 4) sc__law_share.nd rfl (Or.inl rfl))) (fun _ _ _ _ _ => pts_nil) (fun _ _ _ _ _ => (pe_ix (r := rIxT K) ix_tup (pv 4) pe_int (fun _ _ => rfl)))) pa_nil))) pa_nil)))) pss_nil)), ?_⟩
    refine q_asg (E := E) (K := K) (σ := [some v_rows, some v_start, some v_end, none, none]) (i := 3) (x_cb o_sum (a_one (x_v (x_lc (i_list (x_sl (x_v (x_var (i := 0) rfl (Rp.mono _ (Ex.refl _) exz r_rows))) (p_some (x_var (i := 1) rfl (Rp.mono _ (Ex.refl _) exz r_start))) (p_some (x_var (i := 2) rfl (Rp.mono _ (Ex.refl _) exz r_end))))) g1 (fun _ _ _ _ ⟨_, h, _⟩ => by rw [h]; rfl) (fun x_1 σ2 I_2 C_3 e_4 c_5 ⟨v_6, h, r_7⟩ => by subst h; exact (x_k (k := ((0 : Nat) : Int)) (o_pj pj0) (x_var (i := 4) rfl (Rp.mono _ (Ex.refl _) exz r_7)))) (fun _ _ _ _ _ e ⟨v_6, h, r_7⟩ => ⟨v_6, h, Rp.mono _ e exz r_7⟩))))) hs (fun _ _ h => PX.mono (Ex.refl _) (Ex.refl _) h) hm fun yes_8 v_9 I_10 H_11 e_12 s_13 r_14 hm => ?_
    refine q_ret (tz := tNext) (E := E) (K := K) (σ := [some v_rows, some v_start, some v_end, some v_9, none]) (x_tup (a_cons (x_var (i := 3) rfl (Rp.mono _ (Ex.refl _) exz r_14)) (a_one (x_op o_add (x_var (i := 3) rfl (Rp.mono _ (Ex.refl _) exz r_14)) (x_cb o_sum (a_one (x_v (x_lc (i_list (x_sl (x_v (x_var (i := 0) rfl (Rp.mono _ e_12 exz r_rows))) (p_some (x_var (i := 1) rfl (Rp.mono _ e_12 exz r_start))) (p_some (x_var (i := 2) rfl (Rp.mono _ e_12 exz r_end))))) g1 (fun _ _ _ _ ⟨_, h, _⟩ => by rw [h]; rfl) (fun x_15 σ2 I_16 C_17 e_18 c_19 ⟨v_20, h, r_21⟩ => by subst h; exact (x_k (k := ((1 : Nat) : Int)) (o_pj (pjs pj1)) (x_var (i := 4) rfl (Rp.mono _ (Ex.refl _) exz r_21)))) (fun _ _ _ _ _ e ⟨v_20, h, r_21⟩ => ⟨v_20, h, Rp.mono _ e exz r_21⟩)))))))) (Nat.le_of_ble_eq_true rfl)) s_13 (fun _ _ h => PX.mono e_12 (Ex.refl _) h) hm fun a_22 v_23 I_24 H_25 e_26 s_27 r_28 hm => ?_
    exact hm v_23 I_24 H_25 (e_12.trans e_26) (St.less s_27 (Ex.refl _)) (Im.im r_28)
def m__law_less (ar_one : (Int × Int)) (ar_two : (Int × Int)) : Res Bool :=
  ((bin rLt (bin rMul (un (fun p => Res.ok p.1) (Res.ok ar_one)) (un (fun p => Res.ok p.2) (Res.ok ar_two))) (bin rMul (un (fun p => Res.ok p.1) (Res.ok ar_two)) (un (fun p => Res.ok p.2) (Res.ok ar_one)))).bind fun a_1 => Res.ok a_1)
abbrev N__law_less : List Str := ["one", "two"]
theorem sc__law_less : FnScope N__law_less ["one", "two"] (defScope s__law_less) := ⟨rfl, rfl, rfl, by decide +kernel, rfl, by decide +kernel, by decide +kernel⟩
theorem bind__law_less {K : PySem.W.Frag} {mg : Str → Option Value} {T : Tx K mg} : Binds K T.d__law_less ["one", "two"] [] := FunD.bindsN T.F__law_less fun _ _ _ _ _ _ us hl => match us, hl with | [_, _], _ => rfl
abbrev sp__law_less (K : PySem.W.Frag) : Sp := spP K (tc (pT (tc pI (t1 pI))) (t1 (pT (tc pI (t1 pI))))) (fun (p : ((Int × Int) × (Int × Int))) => m__law_less p.1 p.2) pB
theorem ok__law_less (T : Tx K mg) : FnOk P w K mg base (L2.CX P w) 1 T.f__law_less T.d__law_less ["one", "two"] (sp__law_less K) := by
  refine T.F__law_less.ok sc__law_less (fun vs H Q E h => ?_) (fun cdv A outer s H vs Q E hr h => ?_)
  · obtain ⟨I, C, a, _, hr, _⟩ := h
    exact Rt.len _ hr
  · obtain ⟨I0, C0, ⟨ar_one, ar_two⟩, hs, ⟨v_one, us0, rfl, r_one, v_two, rfl, r_two⟩, hm⟩ := h
    have hm : Post (m__law_less ar_one ar_two) (PQ pB I0 C0 Q) (PX E K I0 C0) := hm
    replace r_one : Rp.r (pT (tc pI (t1 pI))) ar_one v_one I0 Z := Im.im r_one
    replace r_two : Rp.r (pT (tc pI (t1 pI))) ar_two v_two I0 Z := Im.im r_two
    unfold m__law_less at hm
    refine ⟨_, (pss_cons (ps_ret (pe_cmpR op_lt (pe_op op_mul (pe_ix (r := rIxT K) ix_tup (pv 0) pe_int (fun _ _ => rfl)) (pe_ix (r := rIxT K) ix_tup (pv 1) pe_int (fun _ _ => rfl))) (pe_op op_mul (pe_ix (r := rIxT K) ix_tup (pv 1) pe_int (fun _ _ => rfl)) (pe_ix (r := rIxT K) ix_tup (pv 0) pe_int (fun _ _ => rfl))) (nomark _))) pss_nil), ?_⟩
    refine q_ret (tz := tNext) (E := E) (K := K) (σ := [some v_one, some v_two]) (x_op o_lt (x_op o_mul (x_k (k := ((0 : Nat) : Int)) (o_pj pj0) (x_var (i := 0) rfl (Rp.mono _ (Ex.refl _) exz r_one))) (x_k (k := ((1 : Nat) : Int)) (o_pj (pjs pj1)) (x_var (i := 1) rfl (Rp.mono _ (Ex.refl _) exz r_two)))) (x_op o_mul (x_k (k := ((0 : Nat) : Int)) (o_pj pj0) (x_var (i := 1) rfl (Rp.mono _ (Ex.refl _) exz r_two))) (x_k (k := ((1 : Nat) : Int)) (o_pj (pjs pj1)) (x_var (i := 0) rfl (Rp.mono _ (Ex.refl _) exz r_one))))) hs (fun _ _ h => PX.mono (Ex.refl _) (Ex.refl _) h) hm fun a_1 v_2 I_3 H_4 e_5 s_6 r_7 hm => ?_
    exact hm v_2 I_3 H_4 e_5 (St.less s_6 (Ex.refl _)) (Im.im r_7)
def m__law_chance (ar_rows : (List (Int × Int))) (ar_k : Int) : Res (Int × Int) :=
  ((pair (un rNeg (Res.ok (1 : Int))) (Res.ok (1 : Int))).bind fun (best_1 : (Int × Int)) => (((un rng1 (bin rAdd (Res.ok ar_k) (Res.ok (1 : Int)))).bind fun xs => loopN (fun (x_19 : Int) (z_8 : (Int × Int)) => ((pair (Res.ok (2 : Int)) (Res.ok (1 : Int))).bind fun (least_31 : (Int × Int)) => (((un rng2 (pair (bin rAdd (Res.ok ar_k) (Res.ok (1 : Int))) (bin rAdd (un rLen (Res.ok ar_rows)) (Res.ok (1 : Int))))).bind fun xs => loopN (fun (x_47 : Int) (z_38 : (Int × Int)) => ((un (fun (p : ((List (Int × Int)) × Int × Int)) => m__law_share p.1 p.2.1 p.2.2) (pair (Res.ok ar_rows) (pair (Res.ok x_19) (Res.ok x_47)))).bind fun (share_59 : (Int × Int)) => (ifR (un (fun (p : ((Int × Int) × (Int × Int))) => m__law_less p.1 p.2) (pair (Res.ok share_59) (Res.ok z_38))) ((Res.ok share_59).bind fun (least_74 : (Int × Int)) => (Res.ok least_74)) (Res.ok z_38)))) xs least_31).bind fun (z_86 : (Int × Int)) => (ifR (un (fun (p : ((Int × Int) × (Int × Int))) => m__law_less p.1 p.2) (pair (Res.ok z_8) (Res.ok z_86))) ((Res.ok z_86).bind fun (best_103 : (Int × Int)) => (Res.ok best_103)) (Res.ok z_8))))) xs best_1).bind fun (z_115 : (Int × Int)) => ((Res.ok z_115).bind fun a_126 => Res.ok a_126)))
abbrev N__law_chance : List Str := ["rows", "k", "best", "start", "least", "end", "share"]
theorem sc__law_chance : FnScope N__law_chance ["rows", "k"] (defScope s__law_chance) := ⟨rfl, rfl, rfl, by decide +kernel, rfl, by decide +kernel, by decide +kernel⟩
theorem bind__law_chance {K : PySem.W.Frag} {mg : Str → Option Value} {T : Tx K mg} : Binds K T.d__law_chance ["rows", "k"] [] := FunD.bindsN T.F__law_chance fun _ _ _ _ _ _ us hl => match us, hl with | [_, _], _ => rfl
abbrev sp__law_chance (K : PySem.W.Frag) : Sp := spP K (tc (pL (pT (tc pI (t1 pI)))) (t1 pI)) (fun (p : ((List (Int × Int)) × Int)) => m__law_chance p.1 p.2) (pT (tc pI (t1 pI)))
theorem ok__law_chance (T : Tx K mg) : FnOk P w K mg base (L2.CX P w) 2 T.f__law_chance T.d__law_chance ["rows", "k"] (sp__law_chance K) := by
  refine T.F__law_chance.ok sc__law_chance (fun vs H Q E h => ?_) (fun cdv A outer s H vs Q E hr h => ?_)
  · obtain ⟨I, C, a, _, hr, _⟩ := h
    exact Rt.len _ hr
  · obtain ⟨I0, C0, ⟨ar_rows, ar_k⟩, hs, ⟨v_rows, us0, rfl, r_rows, v_k, rfl, r_k⟩, hm⟩ := h
    have hm : Post (m__law_chance ar_rows ar_k) (PQ (pT (tc pI (t1 pI))) I0 C0 Q) (PX E K I0 C0) := hm
    replace r_rows : Rp.r (pL (pT (tc pI (t1 pI)))) ar_rows v_rows I0 Z := Im.im r_rows
    replace r_k : Rp.r pI ar_k v_k I0 Z := Im.im r_k
    unfold m__law_chance at hm
    refine ⟨_, (pss_cons (ps_set (i := 2) sc__law_chance.nd rfl (Or.inl rfl) (pe_tup (pa_cons (pe_un un_neg pe_int) (pa_cons pe_int pa_nil)))) (pss_cons (ps_for (passes_of rfl) rfl (pi_range1 (by rfl) T.gb_range (pa_cons (pe_op op_add (pv 1) pe_int) pa_nil)) (pg_name (i := 3) sc__law_chance.nd rfl (Or.inl rfl)) (pss_cons (ps_set (i := 4) sc__law_chance.nd rfl (Or.inl rfl) (pe_tup (pa_cons pe_int (pa_cons pe_int pa_nil)))) (pss_cons (ps_for (passes_of rfl) rfl (pi_range2 (by rfl) T.gb_range (pa_cons (pe_op op_add (pv 1) pe_int) (pa_cons (pe_op op_add (pe_callB (r := rLen1 K) call_len_seq (by rfl) T.gb_len bt_len (pa_cons (pv 0) pa_nil)) pe_int) pa_nil))) (pg_name (i := 5) sc__law_chance.nd rfl (Or.inl rfl)) (pss_cons (ps_set (i := 6) sc__law_chance.nd rfl (Or.inl rfl) (pe_call (ok__law_share T) (hr.mono (by decide)) rfl T.g__law_share T.F__law_share.kp bind__law_share .nil passE (pa_cons (pv 0) (pa_cons (pv 3) (pa_cons (pv 5) pa_nil))))) (pss_cons (ps_if (pt_val (pe_call (ok__law_less T) (hr.mono (by decide)) rfl T.g__law_less T.F__law_less.kp bind__law_less .nil passE (pa_cons (pv 6) (pa_cons (pv 4) pa_nil)))) (pss_cons (ps_set (i := 4) sc__law_chance.nd rfl (Or.inl rfl) (pv 6)) pss_nil) pss_nil) pss_nil))) (pss_cons (ps_if (pt_val (pe_call (ok__law_less T) (hr.mono (by decide)) rfl T.g__law_less T.F__law_less.kp bind__law_less .nil passE (pa_cons (pv 2) (pa_cons (pv 4) pa_nil)))) (pss_cons (ps_set (i := 2) sc__law_chance.nd rfl (Or.inl rfl) (pv 4)) pss_nil) pss_nil) pss_nil)))) (pss_cons (ps_ret (pv 2)) pss_nil))), ?_⟩
    refine q_asg (E := E) (K := K) (σ := [some v_rows, some v_k, none, none, none, none, none]) (i := 2) (x_tup (a_cons (x_un o_neg (x_int (i := 1))) (a_one (x_int (i := 1)))) (Nat.le_of_ble_eq_true rfl)) hs (fun _ _ h => PX.mono (Ex.refl _) (Ex.refl _) h) hm fun best_1 v_2 I_3 H_4 e_5 s_6 r_7 hm => ?_
    refine s_forN (E := E) (K := K) (σ := [some v_rows, some v_k, some v_2, none, none, none, none]) (fun (z_8 : (Int × Int)) σ2 I_14 C_15 => ∃ w_10 : Option V, ∃ w_11 : Option V, ∃ w_12 : Option V, ∃ w_13 : Option V, ∃ v_16 : V, σ2 = [some v_rows, some v_k, some v_16, w_10, w_11, w_12, w_13] ∧ Rp.r (pT (tc pI (t1 pI))) z_8 v_16 I_14 Z ∧ Ex C0 C_15) (i_rng1 (a_one (x_op o_add (x_var (i := 1) rfl (Rp.mono _ e_5 exz r_k)) (x_int (i := 1))))) s_6 (fun _ _ h => PX.mono e_5 (Ex.refl _) h) hm (fun _ e_27 => ⟨none, none, none, none, v_2, rfl, Rp.mono _ (Ex.trans (Ex.refl _) e_27) exz r_7, (Ex.refl _)⟩) (fun _ _ _ _ _ => trivial) (fun _ _ _ _ _ e ⟨w_10, w_11, w_12, w_13, v_16, hs_9, r_17, fr_18⟩ => ⟨w_10, w_11, w_12, w_13, v_16, hs_9, Rp.mono _ e exz r_17, fr_18⟩) (fun N x_19 v_20 z_8 σ2 I_21 C_22 H_23 e_24 s_25 ⟨w_10, w_11, w_12, w_13, v_16, hs_9, r_17, fr_18⟩ r_26 hm => ?_) (fun z_115 σ2 I_110 C_111 H_112 e_113 s_114 ⟨w_117, w_118, w_119, w_120, v_123, hs_116, r_124, fr_125⟩ hm => ?_)
    · subst hs_9
      refine g1 (K := K) x_19 v_20 I_21 C_22 H_23 _ s_25 r_26 fun σ2 ⟨v_28, hs_30, r_29⟩ => ?_
      subst hs_30
      refine q_asg (E := E) (K := K) (σ := [some v_rows, some v_k, some v_16, some v_28, w_11, w_12, w_13]) (i := 4) (x_tup (a_cons (x_int (i := 2)) (a_one (x_int (i := 1)))) (Nat.le_of_ble_eq_true rfl)) s_25 (fun _ _ h => PX.mono (e_5.trans e_24) fr_18 h) hm fun least_31 v_32 I_33 H_34 e_35 s_36 r_37 hm => ?_
      refine s_forN (E := E) (K := K) (σ := [some v_rows, some v_k, some v_16, some v_28, some v_32, w_12, w_13]) (fun (z_38 : (Int × Int)) σ2 I_42 C_43 => ∃ w_40 : Option V, ∃ w_41 : Option V, ∃ v_44 : V, σ2 = [some v_rows, some v_k, some v_16, some v_28, some v_44, w_40, w_41] ∧ Rp.r (pT (tc pI (t1 pI))) z_38 v_44 I_42 Z ∧ Ex C0 C_43) (i_rng2 (a_cons (x_op o_add (x_var (i := 1) rfl (Rp.mono _ (e_5.trans (e_24.trans e_35)) exz r_k)) (x_int (i := 1))) (a_one (x_op o_add (x_cb o_len (a_one (x_v (x_var (i := 0) rfl (Rp.mono _ (e_5.trans (e_24.trans e_35)) exz r_rows))))) (x_int (i := 1)))))) s_36 (fun _ _ h => PX.mono (e_5.trans (e_24.trans e_35)) fr_18 h) hm (fun _ e_55 => ⟨w_12, w_13, v_32, rfl, Rp.mono _ (Ex.trans (Ex.refl _) e_55) exz r_37, fr_18⟩) (fun _ _ _ _ _ => trivial) (fun _ _ _ _ _ e ⟨w_40, w_41, v_44, hs_39, r_45, fr_46⟩ => ⟨w_40, w_41, v_44, hs_39, Rp.mono _ e exz r_45, fr_46⟩) (fun N x_47 v_48 z_38 σ2 I_49 C_50 H_51 e_52 s_53 ⟨w_40, w_41, v_44, hs_39, r_45, fr_46⟩ r_54 hm => ?_) (fun z_86 σ2 I_81 C_82 H_83 e_84 s_85 ⟨w_88, w_89, v_92, hs_87, r_93, fr_94⟩ hm => ?_)
      · subst hs_39
        refine g1 (K := K) x_47 v_48 I_49 C_50 H_51 _ s_53 r_54 fun σ2 ⟨v_56, hs_58, r_57⟩ => ?_
        subst hs_58
        refine q_asg (E := E) (K := K) (σ := [some v_rows, some v_k, some v_16, some v_28, some v_44, some v_56, w_41]) (i := 6) (x_call (a_cons (x_var (i := 0) rfl (Rp.mono _ (e_5.trans (e_24.trans (e_35.trans e_52))) exz r_rows)) (a_cons (x_var (i := 3) rfl (Rp.mono _ (e_35.trans e_52) exz r_29)) (a_one (x_var (i := 5) rfl (Rp.mono _ (Ex.refl _) exz r_57)))))) s_53 (fun _ _ h => PX.mono (e_5.trans (e_24.trans (e_35.trans e_52))) fr_46 h) hm fun share_59 v_60 I_61 H_62 e_63 s_64 r_65 hm => ?_
        refine s_if (E := E) (K := K) (σ := [some v_rows, some v_k, some v_16, some v_28, some v_44, some v_56, some v_60]) (t_B (x_call (a_cons (x_var (i := 6) rfl (Rp.mono _ (Ex.refl _) exz r_65)) (a_one (x_var (i := 4) rfl (Rp.mono _ e_63 exz r_45)))))) s_64 (fun _ _ h => PX.mono (e_5.trans (e_24.trans (e_35.trans (e_52.trans e_63)))) fr_46 h) hm (fun I_66 H_67 e_68 s_69 hm => ?_) (fun I_70 H_71 e_72 s_73 hm => ?_)
        · refine q_asg (E := E) (K := K) (σ := [some v_rows, some v_k, some v_16, some v_28, some v_44, some v_56, some v_60]) (i := 4) (x_var (i := 6) rfl (Rp.mono _ e_68 exz r_65)) s_69 (fun _ _ h => PX.mono (e_5.trans (e_24.trans (e_35.trans (e_52.trans (e_63.trans e_68))))) fr_46 h) hm fun least_74 v_75 I_76 H_77 e_78 s_79 r_80 hm => ?_
          exact hm _ _ _ _ (e_63.trans (e_68.trans e_78)) s_79 ⟨some v_56, some v_60, v_75, rfl, Rp.mono _ (Ex.refl _) exz r_80, fr_46⟩
        · exact hm _ _ _ _ (e_63.trans e_72) s_73 ⟨some v_56, some v_60, v_44, rfl, Rp.mono _ (e_63.trans e_72) exz r_45, fr_46⟩
      subst hs_87
      refine s_if (E := E) (K := K) (σ := [some v_rows, some v_k, some v_16, some v_28, some v_92, w_88, w_89]) (t_B (x_call (a_cons (x_var (i := 2) rfl (Rp.mono _ (e_35.trans e_84) exz r_17)) (a_one (x_var (i := 4) rfl (Rp.mono _ (Ex.refl _) exz r_93)))))) s_85 (fun _ _ h => PX.mono (e_5.trans (e_24.trans (e_35.trans e_84))) fr_94 h) hm (fun I_95 H_96 e_97 s_98 hm => ?_) (fun I_99 H_100 e_101 s_102 hm => ?_)
      · refine q_asg (E := E) (K := K) (σ := [some v_rows, some v_k, some v_16, some v_28, some v_92, w_88, w_89]) (i := 2) (x_var (i := 4) rfl (Rp.mono _ e_97 exz r_93)) s_98 (fun _ _ h => PX.mono (e_5.trans (e_24.trans (e_35.trans (e_84.trans e_97)))) fr_94 h) hm fun best_103 v_104 I_105 H_106 e_107 s_108 r_109 hm => ?_
        exact hm _ _ _ _ (e_35.trans (e_84.trans (e_97.trans e_107))) s_108 ⟨some v_28, some v_92, w_88, w_89, v_104, rfl, Rp.mono _ (Ex.refl _) exz r_109, fr_94⟩
      · exact hm _ _ _ _ (e_35.trans (e_84.trans e_101)) s_102 ⟨some v_28, some v_92, w_88, w_89, v_16, rfl, Rp.mono _ (e_35.trans (e_84.trans e_101)) exz r_17, fr_94⟩
    subst hs_116
    refine q_ret (tz := tNext) (E := E) (K := K) (σ := [some v_rows, some v_k, some v_123, w_117, w_118, w_119, w_120]) (x_var (i := 2) rfl (Rp.mono _ (Ex.refl _) exz r_124)) s_114 (fun _ _ h => PX.mono (e_5.trans e_113) fr_125 h) hm fun a_126 v_127 I_128 H_129 e_130 s_131 r_132 hm => ?_
    exact hm v_127 I_128 H_129 (e_5.trans (e_113.trans e_130)) (St.less s_131 fr_125) (Im.im r_132)
def m__law_is_int (ar_value : Int) : Res Bool :=
  ((andR (un (fun _ => Res.ok true) (pair (Res.ok ar_value) (Res.ok ()))) (un notR (un (fun _ => Res.ok false) (pair (Res.ok ar_value) (Res.ok ()))))).bind fun a_1 => Res.ok a_1)
abbrev N__law_is_int : List Str := ["value"]
theorem sc__law_is_int : FnScope N__law_is_int ["value"] (defScope s__law_is_int) := ⟨rfl, rfl, rfl, by decide +kernel, rfl, by decide +kernel, by decide +kernel⟩
theorem bind__law_is_int {K : PySem.W.Frag} {mg : Str → Option Value} {T : Tx K mg} : Binds K T.d__law_is_int ["value"] [] := FunD.bindsN T.F__law_is_int fun _ _ _ _ _ _ us hl => match us, hl with | [_], _ => rfl
abbrev sp__law_is_int (K : PySem.W.Frag) : Sp := spP K (t1 pI) m__law_is_int pB
theorem ok__law_is_int (T : Tx K mg) : FnOk P w K mg base (L2.CX P w) 1 T.f__law_is_int T.d__law_is_int ["value"] (sp__law_is_int K) := by
  refine T.F__law_is_int.ok sc__law_is_int (fun vs H Q E h => ?_) (fun cdv A outer s H vs Q E hr h => ?_)
  · obtain ⟨I, C, a, _, hr, _⟩ := h
    exact Rt.len _ hr
  · obtain ⟨I0, C0, ar_value, hs, ⟨v_value, rfl, r_value⟩, hm⟩ := h
    have hm : Post (m__law_is_int ar_value) (PQ pB I0 C0 Q) (PX E K I0 C0) := hm
    replace r_value : Rp.r pI ar_value v_value I0 Z := Im.im r_value
    unfold m__law_is_int at hm
    refine ⟨_, (pss_cons (ps_ret (pe_and (pe_callB (r := rIsi K) call_isi (by rfl) T.gb_isinstance bt_isinstance (pa_cons (pv 0) (pa_cons (pe_bltn (v := .ty "int") rfl T.gb_int bt_int rfl) pa_nil))) (pe_one (pe_not (pe_callB (r := rIsi K) call_isi (by rfl) T.gb_isinstance bt_isinstance (pa_cons (pv 0) (pa_cons (pe_bltn (v := .ty "bool") rfl T.gb_bool bt_bool rfl) pa_nil))))))) pss_nil), ?_⟩
    refine q_ret (tz := tNext) (E := E) (K := K) (σ := [some v_value]) (x_andV (x_cb (o_isi (n := "int") (by decide +kernel)) (a_cons (x_var (i := 0) rfl (Rp.mono _ (Ex.refl _) exz r_value)) (a_one (x_c (R := pY "int") (a := ()) fun _ _ => rfl)))) (x_notV (x_cb (o_isi (n := "int") (by decide +kernel)) (a_cons (x_var (i := 0) rfl (Rp.mono _ (Ex.refl _) exz r_value)) (a_one (x_c (R := pY "bool") (a := ()) fun _ _ => rfl)))))) hs (fun _ _ h => PX.mono (Ex.refl _) (Ex.refl _) h) hm fun a_1 v_2 I_3 H_4 e_5 s_6 r_7 hm => ?_
    exact hm v_2 I_3 H_4 e_5 (St.less s_6 (Ex.refl _)) (Im.im r_7)
def m__law_gcd (ar_one : Int) (ar_two : Int) : Res Int :=
  (((un rng1 (Res.ok (2000 : Int))).bind fun xs => loopR (fun (x_12 : Int) (z_1 : (Int × Int)) => (ifR (bin eqR (Res.ok z_1.2) (Res.ok (0 : Int))) ((Res.ok z_1.1).bind fun a_32 => Res.ok (Out.rt a_32)) ((bin rMod (un idR (Res.ok z_1.1)) (Res.ok z_1.2)).bind fun (rest_39 : Int) => ((Res.ok z_1.2).bind fun (one_46 : Int) => ((Res.ok rest_39).bind fun (two_53 : Int) => (Res.ok (Out.nx (one_46, two_53)))))))) xs (ar_one, ar_two)).bind fun (o : Out (Int × Int) Int) => match o with | .nx z_65 => ((Res.ok (0 : Int)).bind fun a_76 => Res.ok a_76) | .br _ => Res.bad | .rt r => Res.ok r)
abbrev N__law_gcd : List Str := ["one", "two", "turn", "rest"]
theorem sc__law_gcd : FnScope N__law_gcd ["one", "two"] (defScope s__law_gcd) := ⟨rfl, rfl, rfl, by decide +kernel, rfl, by decide +kernel, by decide +kernel⟩
theorem bind__law_gcd {K : PySem.W.Frag} {mg : Str → Option Value} {T : Tx K mg} : Binds K T.d__law_gcd ["one", "two"] [] := FunD.bindsN T.F__law_gcd fun _ _ _ _ _ _ us hl => match us, hl with | [_, _], _ => rfl
abbrev sp__law_gcd (K : PySem.W.Frag) : Sp := spP K (tc pI (t1 pI)) (fun (p : (Int × Int)) => m__law_gcd p.1 p.2) pI
theorem ok__law_gcd (T : Tx K mg) : FnOk P w K mg base (L2.CX P w) 1 T.f__law_gcd T.d__law_gcd ["one", "two"] (sp__law_gcd K) := by
  refine T.F__law_gcd.ok sc__law_gcd (fun vs H Q E h => ?_) (fun cdv A outer s H vs Q E hr h => ?_)
  · obtain ⟨I, C, a, _, hr, _⟩ := h
    exact Rt.len _ hr
  · obtain ⟨I0, C0, ⟨ar_one, ar_two⟩, hs, ⟨v_one, us0, rfl, r_one, v_two, rfl, r_two⟩, hm⟩ := h
    have hm : Post (m__law_gcd ar_one ar_two) (PQ pI I0 C0 Q) (PX E K I0 C0) := hm
    replace r_one : Rp.r pI ar_one v_one I0 Z := Im.im r_one
    replace r_two : Rp.r pI ar_two v_two I0 Z := Im.im r_two
    unfold m__law_gcd at hm
    refine ⟨_, (pss_cons (ps_for (passes_of rfl) rfl (pi_range1 (by rfl) T.gb_range (pa_cons pe_int pa_nil)) (pg_name (i := 2) sc__law_gcd.nd rfl (Or.inl rfl)) (pss_cons (ps_if (pt_cmpR op_eq (pv 1) pe_int (nomark _)) (pss_cons (ps_ret (pv 0)) pss_nil) pss_nil) (pss_cons (ps_set (i := 3) sc__law_gcd.nd rfl (Or.inl rfl) (pe_op op_mod (pe_callTy call_int1 (by rfl) T.gb_int bt_int (pa_cons (pv 0) pa_nil)) (pv 1))) (pss_cons (ps_set (i := 0) sc__law_gcd.nd rfl (Or.inl rfl) (pv 1)) (pss_cons (ps_set (i := 1) sc__law_gcd.nd rfl (Or.inl rfl) (pv 3)) pss_nil))))) (pss_cons (ps_ret pe_int) pss_nil)), ?_⟩
    refine s_forR (E := E) (K := K) (σ := [some v_one, some v_two, none, none]) (fun (z_1 : (Int × Int)) σ2 I_5 C_6 => ∃ w_3 : Option V, ∃ w_4 : Option V, ∃ v_7 : V, ∃ v_9 : V, σ2 = [some v_7, some v_9, w_3, w_4] ∧ Rp.r pI z_1.1 v_7 I_5 Z ∧ Rp.r pI z_1.2 v_9 I_5 Z ∧ Ex C0 C_6) (i_rng1 (a_one (x_int (i := 2000)))) hs (fun _ _ h => PX.mono (Ex.refl _) (Ex.refl _) h) hm (fun _ e_20 => ⟨none, none, v_one, v_two, rfl, Rp.mono _ (Ex.trans (Ex.refl _) e_20) exz r_one, Rp.mono _ (Ex.trans (Ex.refl _) e_20) exz r_two, (Ex.refl _)⟩) (fun _ _ _ _ _ => trivial) (fun _ _ _ _ _ e ⟨w_3, w_4, v_7, v_9, hs_2, r_8, r_10, fr_11⟩ => ⟨w_3, w_4, v_7, v_9, hs_2, Rp.mono _ e exz r_8, Rp.mono _ e exz r_10, fr_11⟩) (fun N x_12 v_13 z_1 σ2 I_14 C_15 H_16 e_17 s_18 ⟨w_3, w_4, v_7, v_9, hs_2, r_8, r_10, fr_11⟩ r_19 hm => ?_) (fun z_65 σ2 I_60 C_61 H_62 e_63 s_64 ⟨w_67, w_68, v_71, v_73, hs_66, r_72, r_74, fr_75⟩ hm => ?_)
    · subst hs_2
      refine g1 (K := K) x_12 v_13 I_14 C_15 H_16 _ s_18 r_19 fun σ2 ⟨v_21, hs_23, r_22⟩ => ?_
      subst hs_23
      refine s_if (E := E) (K := K) (σ := [some v_7, some v_9, some v_21, w_4]) (t_test (x_op o_eqI (x_var (i := 1) rfl (Rp.mono _ (Ex.refl _) exz r_10)) (x_int (i := 0)))) s_18 (fun _ _ h => PX.mono e_17 fr_11 h) hm (fun I_24 H_25 e_26 s_27 hm => ?_) (fun I_28 H_29 e_30 s_31 hm => ?_)
      · refine q_ret (tz := tNext) (E := E) (K := K) (σ := [some v_7, some v_9, some v_21, w_4]) (x_var (i := 0) rfl (Rp.mono _ e_26 exz r_8)) s_27 (fun _ _ h => PX.mono (e_17.trans e_26) fr_11 h) hm fun a_32 v_33 I_34 H_35 e_36 s_37 r_38 hm => ?_
        exact hm v_33 I_34 H_35 (e_17.trans (e_26.trans e_36)) (St.less s_37 fr_11) (Im.im r_38)
      · refine q_asg (E := E) (K := K) (σ := [some v_7, some v_9, some v_21, w_4]) (i := 3) (x_op o_mod (x_cb o_int (a_one (x_var (i := 0) rfl (Rp.mono _ e_30 exz r_8)))) (x_var (i := 1) rfl (Rp.mono _ e_30 exz r_10))) s_31 (fun _ _ h => PX.mono (e_17.trans e_30) fr_11 h) hm fun rest_39 v_40 I_41 H_42 e_43 s_44 r_45 hm => ?_
        refine q_asg (E := E) (K := K) (σ := [some v_7, some v_9, some v_21, some v_40]) (i := 0) (x_var (i := 1) rfl (Rp.mono _ (e_30.trans e_43) exz r_10)) s_44 (fun _ _ h => PX.mono (e_17.trans (e_30.trans e_43)) fr_11 h) hm fun one_46 v_47 I_48 H_49 e_50 s_51 r_52 hm => ?_
        refine q_asg (E := E) (K := K) (σ := [some v_47, some v_9, some v_21, some v_40]) (i := 1) (x_var (i := 3) rfl (Rp.mono _ e_50 exz r_45)) s_51 (fun _ _ h => PX.mono (e_17.trans (e_30.trans (e_43.trans e_50))) fr_11 h) hm fun two_53 v_54 I_55 H_56 e_57 s_58 r_59 hm => ?_
        exact hm _ _ _ _ (e_30.trans (e_43.trans (e_50.trans e_57))) s_58 ⟨some v_21, some v_40, v_47, v_54, rfl, Rp.mono _ e_57 exz r_52, Rp.mono _ (Ex.refl _) exz r_59, fr_11⟩
    subst hs_66
    refine q_ret (tz := tNext) (E := E) (K := K) (σ := [some v_71, some v_73, w_67, w_68]) (x_int (i := 0)) s_64 (fun _ _ h => PX.mono e_63 fr_75 h) hm fun a_76 v_77 I_78 H_79 e_80 s_81 r_82 hm => ?_
    exact hm v_77 I_78 H_79 (e_63.trans e_80) (St.less s_81 fr_75) (Im.im r_82)
def m__law_is_ratio (ar_told : (Int × Int)) (ar_due : (Int × Int)) : Res Bool :=
  (ifR (orR (un notR (un (fun _ => Res.ok true) (pair (Res.ok ar_told) (Res.ok ())))) (orR (bin neR (un (fun _ => Res.ok (2 : Int)) (Res.ok ar_told)) (Res.ok (2 : Int))) (orR (un notR (un m__law_is_int (un (fun p => Res.ok p.1) (Res.ok ar_told)))) (un notR (un m__law_is_int (un (fun p => Res.ok p.2) (Res.ok ar_told))))))) ((Res.ok false).bind fun a_9 => Res.ok a_9) (ifR (orR (bin rLt (un (fun p => Res.ok p.2) (Res.ok ar_told)) (Res.ok (1 : Int))) (bin neR (bin rMul (un (fun p => Res.ok p.1) (Res.ok ar_told)) (un (fun p => Res.ok p.2) (Res.ok ar_due))) (bin rMul (un (fun p => Res.ok p.1) (Res.ok ar_due)) (un (fun p => Res.ok p.2) (Res.ok ar_told))))) ((Res.ok false).bind fun a_24 => Res.ok a_24) ((bin inR (un (fun (p : (Int × Int)) => m__law_gcd p.1 p.2) (pair (un (fun p => Res.ok p.2) (Res.ok ar_told)) (un (fun p => Res.ok p.1) (Res.ok ar_told)))) (consR (Res.ok (1 : Int)) (consR (un rNeg (Res.ok (1 : Int))) (Res.ok [])))).bind fun a_31 => Res.ok a_31)))
abbrev N__law_is_ratio : List Str := ["told", "due"]
theorem sc__law_is_ratio : FnScope N__law_is_ratio ["told", "due"] (defScope s__law_is_ratio) := ⟨rfl, rfl, rfl, by decide +kernel, rfl, by decide +kernel, by decide +kernel⟩
theorem bind__law_is_ratio {K : PySem.W.Frag} {mg : Str → Option Value} {T : Tx K mg} : Binds K T.d__law_is_ratio ["told", "due"] [] := FunD.bindsN T.F__law_is_ratio fun _ _ _ _ _ _ us hl => match us, hl with | [_, _], _ => rfl
abbrev sp__law_is_ratio (K : PySem.W.Frag) : Sp := spP K (tc (pT (tc pI (t1 pI))) (t1 (pT (tc pI (t1 pI))))) (fun (p : ((Int × Int) × (Int × Int))) => m__law_is_ratio p.1 p.2) pB
theorem ok__law_is_ratio (T : Tx K mg) : FnOk P w K mg base (L2.CX P w) 2 T.f__law_is_ratio T.d__law_is_ratio ["told", "due"] (sp__law_is_ratio K) := by
  refine T.F__law_is_ratio.ok sc__law_is_ratio (fun vs H Q E h => ?_) (fun cdv A outer s H vs Q E hr h => ?_)
  · obtain ⟨I, C, a, _, hr, _⟩ := h
    exact Rt.len _ hr
  · obtain ⟨I0, C0, ⟨ar_told, ar_due⟩, hs, ⟨v_told, us0, rfl, r_told, v_due, rfl, r_due⟩, hm⟩ := h
    have hm : Post (m__law_is_ratio ar_told ar_due) (PQ pB I0 C0 Q) (PX E K I0 C0) := hm
    replace r_told : Rp.r (pT (tc pI (t1 pI))) ar_told v_told I0 Z := Im.im r_told
    replace r_due : Rp.r (pT (tc pI (t1 pI))) ar_due v_due I0 Z := Im.im r_due
    unfold m__law_is_ratio at hm
    refine ⟨_, (pss_cons (ps_if (PW.pt (pw_or (pt_not (pt_val (pe_callB (r := rIsi K) call_isi (by rfl) T.gb_isinstance bt_isinstance (pa_cons (pv 0) (pa_cons (pe_bltn (v := .ty "tuple") rfl T.gb_tuple bt_tuple rfl) pa_nil))))) (pw_or (pt_cmpR op_ne (pe_callB (r := rLen1 K) call_len_seq (by rfl) T.gb_len bt_len (pa_cons (pv 0) pa_nil)) pe_int (nomark _)) (pw_or (pt_not (pt_val (pe_call (ok__law_is_int T) (hr.mono (by decide)) rfl T.g__law_is_int T.F__law_is_int.kp bind__law_is_int .nil passE (pa_cons (pe_ix (r := rIxT K) ix_tup (pv 0) pe_int (fun _ _ => rfl)) pa_nil)))) (pw_or1 (pt_not (pt_val (pe_call (ok__law_is_int T) (hr.mono (by decide)) rfl T.g__law_is_int T.F__law_is_int.kp bind__law_is_int .nil passE (pa_cons (pe_ix (r := rIxT K) ix_tup (pv 0) pe_int (fun _ _ => rfl)) pa_nil))))))))) (pss_cons (ps_ret pe_bl) pss_nil) pss_nil) (pss_cons (ps_if (PW.pt (pw_or (pt_cmpR op_lt (pe_ix (r := rIxT K) ix_tup (pv 0) pe_int (fun _ _ => rfl)) pe_int (nomark _)) (pw_or1 (pt_cmpR op_ne (pe_op op_mul (pe_ix (r := rIxT K) ix_tup (pv 0) pe_int (fun _ _ => rfl)) (pe_ix (r := rIxT K) ix_tup (pv 1) pe_int (fun _ _ => rfl))) (pe_op op_mul (pe_ix (r := rIxT K) ix_tup (pv 1) pe_int (fun _ _ => rfl)) (pe_ix (r := rIxT K) ix_tup (pv 0) pe_int (fun _ _ => rfl))) (nomark _))))) (pss_cons (ps_ret pe_bl) pss_nil) pss_nil) (pss_cons (ps_ret (pe_cmpR (r := rIn K false) op_in_seq (pe_call (ok__law_gcd T) (hr.mono (by decide)) rfl T.g__law_gcd T.F__law_gcd.kp bind__law_gcd .nil passE (pa_cons (pe_ix (r := rIxT K) ix_tup (pv 0) pe_int (fun _ _ => rfl)) (pa_cons (pe_ix (r := rIxT K) ix_tup (pv 0) pe_int (fun _ _ => rfl)) pa_nil))) (pe_lst (pa_cons pe_int (pa_cons (pe_un un_neg pe_int) pa_nil))) rfl)) pss_nil))), ?_⟩
    refine s_if (E := E) (K := K) (σ := [some v_told, some v_due]) (t_or (t_not (t_B (x_cb (o_isi (n := "tuple") (by decide +kernel)) (a_cons (x_var (i := 0) rfl (Rp.mono _ (Ex.refl _) exz r_told)) (a_one (x_c (R := pY "tuple") (a := ()) fun _ _ => rfl)))))) (t_or (t_test (x_op o_neI (x_cb o_lenT (a_one (x_var (i := 0) rfl (Rp.mono _ (Ex.refl _) exz r_told)))) (x_int (i := 2)))) (t_or (t_not (t_B (x_call (a_one (x_k (k := ((0 : Nat) : Int)) (o_pj pj0) (x_var (i := 0) rfl (Rp.mono _ (Ex.refl _) exz r_told))))))) (t_not (t_B (x_call (a_one (x_k (k := ((1 : Nat) : Int)) (o_pj (pjs pj1)) (x_var (i := 0) rfl (Rp.mono _ (Ex.refl _) exz r_told)))))))))) hs (fun _ _ h => PX.mono (Ex.refl _) (Ex.refl _) h) hm (fun I_1 H_2 e_3 s_4 hm => ?_) (fun I_5 H_6 e_7 s_8 hm => ?_)
    · refine q_ret (tz := tNext) (E := E) (K := K) (σ := [some v_told, some v_due]) x_bl s_4 (fun _ _ h => PX.mono e_3 (Ex.refl _) h) hm fun a_9 v_10 I_11 H_12 e_13 s_14 r_15 hm => ?_
      exact hm v_10 I_11 H_12 (e_3.trans e_13) (St.less s_14 (Ex.refl _)) (Im.im r_15)
    · refine s_if (E := E) (K := K) (σ := [some v_told, some v_due]) (t_or (t_test (x_op o_lt (x_k (k := ((1 : Nat) : Int)) (o_pj (pjs pj1)) (x_var (i := 0) rfl (Rp.mono _ e_7 exz r_told))) (x_int (i := 1)))) (t_test (x_op o_neI (x_op o_mul (x_k (k := ((0 : Nat) : Int)) (o_pj pj0) (x_var (i := 0) rfl (Rp.mono _ e_7 exz r_told))) (x_k (k := ((1 : Nat) : Int)) (o_pj (pjs pj1)) (x_var (i := 1) rfl (Rp.mono _ e_7 exz r_due)))) (x_op o_mul (x_k (k := ((0 : Nat) : Int)) (o_pj pj0) (x_var (i := 1) rfl (Rp.mono _ e_7 exz r_due))) (x_k (k := ((1 : Nat) : Int)) (o_pj (pjs pj1)) (x_var (i := 0) rfl (Rp.mono _ e_7 exz r_told))))))) s_8 (fun _ _ h => PX.mono e_7 (Ex.refl _) h) hm (fun I_16 H_17 e_18 s_19 hm => ?_) (fun I_20 H_21 e_22 s_23 hm => ?_)
      · refine q_ret (tz := tNext) (E := E) (K := K) (σ := [some v_told, some v_due]) x_bl s_19 (fun _ _ h => PX.mono (e_7.trans e_18) (Ex.refl _) h) hm fun a_24 v_25 I_26 H_27 e_28 s_29 r_30 hm => ?_
        exact hm v_25 I_26 H_27 (e_7.trans (e_18.trans e_28)) (St.less s_29 (Ex.refl _)) (Im.im r_30)
      · refine q_ret (tz := tNext) (E := E) (K := K) (σ := [some v_told, some v_due]) (x_op (o_in fl_int) (x_call (a_cons (x_k (k := ((1 : Nat) : Int)) (o_pj (pjs pj1)) (x_var (i := 0) rfl (Rp.mono _ (e_7.trans e_22) exz r_told))) (a_one (x_k (k := ((0 : Nat) : Int)) (o_pj pj0) (x_var (i := 0) rfl (Rp.mono _ (e_7.trans e_22) exz r_told)))))) (x_v (x_lst (al_cons (x_int (i := 1)) (al_cons (x_un o_neg (x_int (i := 1))) al_nil)) (Nat.le_of_ble_eq_true rfl)))) s_23 (fun _ _ h => PX.mono (e_7.trans e_22) (Ex.refl _) h) hm fun a_31 v_32 I_33 H_34 e_35 s_36 r_37 hm => ?_
        exact hm v_32 I_33 H_34 (e_7.trans (e_22.trans e_35)) (St.less s_36 (Ex.refl _)) (Im.im r_37)
def m__law_is_division (ar_rows : (List (Int × Int))) (ar_stretches : (List (Int × Int))) : Res Bool :=
  ((Res.ok (0 : Int)).bind fun (place_1 : Int) => ((pair (un rNeg (Res.ok (1 : Int))) (Res.ok (1 : Int))).bind fun (last_8 : (Int × Int)) => (((Res.ok ar_stretches).bind fun xs => loopR (fun (x_27 : (Int × Int)) (z_15 : (Int × (Int × Int))) => (ifR (orR (bin neR (un (fun p => Res.ok p.1) (Res.ok x_27)) (Res.ok z_15.1)) (orR (bin rLe (un (fun p => Res.ok p.2) (Res.ok x_27)) (Res.ok z_15.1)) (bin rGt (un (fun p => Res.ok p.2) (Res.ok x_27)) (un rLen (Res.ok ar_rows))))) ((Res.ok false).bind fun a_47 => Res.ok (Out.rt a_47)) ((un (fun (p : ((List (Int × Int)) × Int × Int)) => m__law_share p.1 p.2.1 p.2.2) (pair (Res.ok ar_rows) (pair (un (fun p => Res.ok p.1) (Res.ok x_27)) (un (fun p => Res.ok p.2) (Res.ok x_27))))).bind fun (whole_54 : (Int × Int)) => (ifR (un notR (un (fun (p : ((Int × Int) × (Int × Int))) => m__law_less p.1 p.2) (pair (Res.ok z_15.2) (Res.ok whole_54)))) ((Res.ok false).bind fun a_69 => Res.ok (Out.rt a_69)) (((un rng2 (pair (bin rAdd (un (fun p => Res.ok p.1) (Res.ok x_27)) (Res.ok (1 : Int))) (un (fun p => Res.ok p.2) (Res.ok x_27)))).bind fun xs => loopR (fun (x_82 : Int) (z_76 : Unit) => (ifR (un (fun (p : ((Int × Int) × (Int × Int))) => m__law_less p.1 p.2) (pair (un (fun (p : ((List (Int × Int)) × Int × Int)) => m__law_share p.1 p.2.1 p.2.2) (pair (Res.ok ar_rows) (pair (un (fun p => Res.ok p.1) (Res.ok x_27)) (Res.ok x_82)))) (Res.ok whole_54))) ((Res.ok false).bind fun a_102 => Res.ok (Out.rt a_102)) (Res.ok (Out.nx ())))) xs ()).bind fun (o : Out Unit Bool) => match o with | .nx z_114 => ((un (fun p => Res.ok p.2) (Res.ok x_27)).bind fun (place_120 : Int) => ((Res.ok whole_54).bind fun (last_127 : (Int × Int)) => (Res.ok (Out.nx (place_120, last_127))))) | .br _ => Res.bad | .rt r => Res.ok (Out.rt r)))))) xs (place_1, last_8)).bind fun (o : Out (Int × (Int × Int)) Bool) => match o with | .nx z_139 => ((bin eqR (Res.ok z_139.1) (un rLen (Res.ok ar_rows))).bind fun a_151 => Res.ok a_151) | .br _ => Res.bad | .rt r => Res.ok r)))
abbrev N__law_is_division : List Str := ["rows", "stretches", "place", "last", "pair", "whole", "stop"]
theorem sc__law_is_division : FnScope N__law_is_division ["rows", "stretches"] (defScope s__law_is_division) := ⟨rfl, rfl, rfl, by decide +kernel, rfl, by decide +kernel, by decide +kernel⟩
theorem bind__law_is_division {K : PySem.W.Frag} {mg : Str → Option Value} {T : Tx K mg} : Binds K T.d__law_is_division ["rows", "stretches"] [] := FunD.bindsN T.F__law_is_division fun _ _ _ _ _ _ us hl => match us, hl with | [_, _], _ => rfl
abbrev sp__law_is_division (K : PySem.W.Frag) : Sp := spP K (tc (pL (pT (tc pI (t1 pI)))) (t1 (pV (pT (tc pI (t1 pI)))))) (fun (p : ((List (Int × Int)) × (List (Int × Int)))) => m__law_is_division p.1 p.2) pB
theorem ok__law_is_division (T : Tx K mg) : FnOk P w K mg base (L2.CX P w) 2 T.f__law_is_division T.d__law_is_division ["rows", "stretches"] (sp__law_is_division K) := by
  refine T.F__law_is_division.ok sc__law_is_division (fun vs H Q E h => ?_) (fun cdv A outer s H vs Q E hr h => ?_)
  · obtain ⟨I, C, a, _, hr, _⟩ := h
    exact Rt.len _ hr
  · obtain ⟨I0, C0, ⟨ar_rows, ar_stretches⟩, hs, ⟨v_rows, us0, rfl, r_rows, v_stretches, rfl, r_stretches⟩, hm⟩ := h
    have hm : Post (m__law_is_division ar_rows ar_stretches) (PQ pB I0 C0 Q) (PX E K I0 C0) := hm
    replace r_rows : Rp.r (pL (pT (tc pI (t1 pI)))) ar_rows v_rows I0 Z := Im.im r_rows
    unfold m__law_is_division at hm
    refine ⟨_, (pss_cons (ps_set (i := 2) sc__law_is_division.nd rfl (Or.inl rfl) pe_int) (pss_cons (ps_set (i := 3) sc__law_is_division.nd rfl (Or.inl rfl) (pe_tup (pa_cons (pe_un un_neg pe_int) (pa_cons pe_int pa_nil)))) (pss_cons (ps_for (passes_of rfl) rfl (show PI _ _ _ (iList K _) from pi_list (pv 1)) (pg_name (i := 4) sc__law_is_division.nd rfl (Or.inl rfl)) (pss_cons (ps_if (PW.pt (pw_or (pt_cmpR op_ne (pe_ix (r := rIxT K) ix_tup (pv 4) pe_int (fun _ _ => rfl)) (pv 2) (nomark _)) (pw_or (pt_cmpR op_le (pe_ix (r := rIxT K) ix_tup (pv 4) pe_int (fun _ _ => rfl)) (pv 2) (nomark _)) (pw_or1 (pt_cmpR op_gt (pe_ix (r := rIxT K) ix_tup (pv 4) pe_int (fun _ _ => rfl)) (pe_callB (r := rLen1 K) call_len_seq (by rfl) T.gb_len bt_len (pa_cons (pv 0) pa_nil)) (nomark _)))))) (pss_cons (ps_ret pe_bl) pss_nil) pss_nil) (pss_cons (ps_set (i := 5) sc__law_is_division.nd rfl (Or.inl rfl) (pe_call (ok__law_share T) (hr.mono (by decide)) rfl T.g__law_share T.F__law_share.kp bind__law_share .nil passE (pa_cons (pv 0) (pa_cons (pe_ix (r := rIxT K) ix_tup (pv 4) pe_int (fun _ _ => rfl)) (pa_cons (pe_ix (r := rIxT K) ix_tup (pv 4) pe_int (fun _ _ => rfl)) pa_nil))))) (pss_cons (ps_if (pt_not (pt_val (pe_call (ok__law_less T) (hr.mono (by decide)) rfl T.g__law_less T.F__law_less.kp bind__law_less .nil passE (pa_cons (pv 3) (pa_cons (pv 5) pa_nil))))) (pss_cons (ps_ret pe_bl) pss_nil) pss_nil) (pss_cons (ps_for (passes_of rfl) rfl (pi_range2 (by rfl) T.gb_range (pa_cons (pe_op op_add (pe_ix (r := rIxT K) ix_tup (pv 4) pe_int (fun _ _ => rfl)) pe_int) (pa_cons (pe_ix (r := rIxT K) ix_tup (pv 4) pe_int (fun _ _ => rfl)) pa_nil))) (pg_name (i := 6) sc__law_is_division.nd rfl (Or.inl rfl)) (pss_cons (ps_if (pt_val (pe_call (ok__law_less T) (hr.mono (by decide)) rfl T.g__law_less T.F__law_less.kp bind__law_less .nil passE (pa_cons (pe_call (ok__law_share T) (hr.mono (by decide)) rfl T.g__law_share T.F__law_share.kp bind__law_share .nil passE (pa_cons (pv 0) (pa_cons (pe_ix (r := rIxT K) ix_tup (pv 4) pe_int (fun _ _ => rfl)) (pa_cons (pv 6) pa_nil)))) (pa_cons (pv 5) pa_nil)))) (pss_cons (ps_ret pe_bl) pss_nil) pss_nil) pss_nil)) (pss_cons (ps_set (i := 2) sc__law_is_division.nd rfl (Or.inl rfl) (pe_ix (r := rIxT K) ix_tup (pv 4) pe_int (fun _ _ => rfl))) (pss_cons (ps_set (i := 3) sc__law_is_division.nd rfl (Or.inl rfl) (pv 5)) pss_nil))))))) (pss_cons (ps_ret (pe_cmpR op_eq (pv 2) (pe_callB (r := rLen1 K) call_len_seq (by rfl) T.gb_len bt_len (pa_cons (pv 0) pa_nil)) (nomark _))) pss_nil)))), ?_⟩
    refine q_asg (E := E) (K := K) (σ := [some v_rows, some v_stretches, none, none, none, none, none]) (i := 2) (x_int (i := 0)) hs (fun _ _ h => PX.mono (Ex.refl _) (Ex.refl _) h) hm fun place_1 v_2 I_3 H_4 e_5 s_6 r_7 hm => ?_
    refine q_asg (E := E) (K := K) (σ := [some v_rows, some v_stretches, some v_2, none, none, none, none]) (i := 3) (x_tup (a_cons (x_un o_neg (x_int (i := 1))) (a_one (x_int (i := 1)))) (Nat.le_of_ble_eq_true rfl)) s_6 (fun _ _ h => PX.mono e_5 (Ex.refl _) h) hm fun last_8 v_9 I_10 H_11 e_12 s_13 r_14 hm => ?_
    refine s_forR (E := E) (K := K) (σ := [some v_rows, some v_stretches, some v_2, some v_9, none, none, none]) (fun (z_15 : (Int × (Int × Int))) σ2 I_20 C_21 => ∃ w_17 : Option V, ∃ w_18 : Option V, ∃ w_19 : Option V, ∃ v_22 : V, ∃ v_24 : V, σ2 = [some v_rows, some v_stretches, some v_22, some v_24, w_17, w_18, w_19] ∧ Rp.r pI z_15.1 v_22 I_20 Z ∧ Rp.r (pT (tc pI (t1 pI))) z_15.2 v_24 I_20 Z ∧ Ex C0 C_21) (i_view (i := 1) (B := C0) rfl (Rp.mono _ (e_5.trans e_12) (Ex.refl _) r_stretches) (Ex.refl _)) s_13 (fun _ _ h => PX.mono (e_5.trans e_12) (Ex.refl _) h) hm (fun _ e_35 => ⟨none, none, none, v_2, v_9, rfl, Rp.mono _ (Ex.trans e_12 e_35) exz r_7, Rp.mono _ (Ex.trans (Ex.refl _) e_35) exz r_14, (Ex.refl _)⟩) (fun _ _ _ _ ⟨w_17, w_18, w_19, v_22, v_24, hs_16, r_23, r_25, fr_26⟩ => fr_26) (fun _ _ _ _ _ e ⟨w_17, w_18, w_19, v_22, v_24, hs_16, r_23, r_25, fr_26⟩ => ⟨w_17, w_18, w_19, v_22, v_24, hs_16, Rp.mono _ e exz r_23, Rp.mono _ e exz r_25, fr_26⟩) (fun N x_27 v_28 z_15 σ2 I_29 C_30 H_31 e_32 s_33 ⟨w_17, w_18, w_19, v_22, v_24, hs_16, r_23, r_25, fr_26⟩ r_34 hm => ?_) (fun z_139 σ2 I_134 C_135 H_136 e_137 s_138 ⟨w_141, w_142, w_143, v_146, v_148, hs_140, r_147, r_149, fr_150⟩ hm => ?_)
    · subst hs_16
      refine g1 (K := K) x_27 v_28 I_29 C_30 H_31 _ s_33 r_34 fun σ2 ⟨v_36, hs_38, r_37⟩ => ?_
      subst hs_38
      refine s_if (E := E) (K := K) (σ := [some v_rows, some v_stretches, some v_22, some v_24, some v_36, w_18, w_19]) (t_or (t_test (x_op o_neI (x_k (k := ((0 : Nat) : Int)) (o_pj pj0) (x_var (i := 4) rfl (Rp.mono _ (Ex.refl _) exz r_37))) (x_var (i := 2) rfl (Rp.mono _ (Ex.refl _) exz r_23)))) (t_or (t_test (x_op o_le (x_k (k := ((1 : Nat) : Int)) (o_pj (pjs pj1)) (x_var (i := 4) rfl (Rp.mono _ (Ex.refl _) exz r_37))) (x_var (i := 2) rfl (Rp.mono _ (Ex.refl _) exz r_23)))) (t_test (x_op o_gt (x_k (k := ((1 : Nat) : Int)) (o_pj (pjs pj1)) (x_var (i := 4) rfl (Rp.mono _ (Ex.refl _) exz r_37))) (x_cb o_len (a_one (x_v (x_var (i := 0) rfl (Rp.mono _ (e_5.trans (e_12.trans e_32)) exz r_rows))))))))) s_33 (fun _ _ h => PX.mono (e_5.trans (e_12.trans e_32)) fr_26 h) hm (fun I_39 H_40 e_41 s_42 hm => ?_) (fun I_43 H_44 e_45 s_46 hm => ?_)
      · refine q_ret (tz := tNext) (E := E) (K := K) (σ := [some v_rows, some v_stretches, some v_22, some v_24, some v_36, w_18, w_19]) x_bl s_42 (fun _ _ h => PX.mono (e_5.trans (e_12.trans (e_32.trans e_41))) fr_26 h) hm fun a_47 v_48 I_49 H_50 e_51 s_52 r_53 hm => ?_
        exact hm v_48 I_49 H_50 (e_5.trans (e_12.trans (e_32.trans (e_41.trans e_51)))) (St.less s_52 fr_26) (Im.im r_53)
      · refine q_asg (E := E) (K := K) (σ := [some v_rows, some v_stretches, some v_22, some v_24, some v_36, w_18, w_19]) (i := 5) (x_call (a_cons (x_var (i := 0) rfl (Rp.mono _ (e_5.trans (e_12.trans (e_32.trans e_45))) exz r_rows)) (a_cons (x_k (k := ((0 : Nat) : Int)) (o_pj pj0) (x_var (i := 4) rfl (Rp.mono _ e_45 exz r_37))) (a_one (x_k (k := ((1 : Nat) : Int)) (o_pj (pjs pj1)) (x_var (i := 4) rfl (Rp.mono _ e_45 exz r_37))))))) s_46 (fun _ _ h => PX.mono (e_5.trans (e_12.trans (e_32.trans e_45))) fr_26 h) hm fun whole_54 v_55 I_56 H_57 e_58 s_59 r_60 hm => ?_
        refine s_if (E := E) (K := K) (σ := [some v_rows, some v_stretches, some v_22, some v_24, some v_36, some v_55, w_19]) (t_not (t_B (x_call (a_cons (x_var (i := 3) rfl (Rp.mono _ (e_45.trans e_58) exz r_25)) (a_one (x_var (i := 5) rfl (Rp.mono _ (Ex.refl _) exz r_60))))))) s_59 (fun _ _ h => PX.mono (e_5.trans (e_12.trans (e_32.trans (e_45.trans e_58)))) fr_26 h) hm (fun I_61 H_62 e_63 s_64 hm => ?_) (fun I_65 H_66 e_67 s_68 hm => ?_)
        · refine q_ret (tz := tNext) (E := E) (K := K) (σ := [some v_rows, some v_stretches, some v_22, some v_24, some v_36, some v_55, w_19]) x_bl s_64 (fun _ _ h => PX.mono (e_5.trans (e_12.trans (e_32.trans (e_45.trans (e_58.trans e_63))))) fr_26 h) hm fun a_69 v_70 I_71 H_72 e_73 s_74 r_75 hm => ?_
          exact hm v_70 I_71 H_72 (e_5.trans (e_12.trans (e_32.trans (e_45.trans (e_58.trans (e_63.trans e_73)))))) (St.less s_74 fr_26) (Im.im r_75)
        · refine s_forR (E := E) (K := K) (σ := [some v_rows, some v_stretches, some v_22, some v_24, some v_36, some v_55, w_19]) (fun (z_76 : Unit) σ2 I_79 C_80 => ∃ w_78 : Option V, σ2 = [some v_rows, some v_stretches, some v_22, some v_24, some v_36, some v_55, w_78] ∧ Ex C0 C_80) (i_rng2 (a_cons (x_op o_add (x_k (k := ((0 : Nat) : Int)) (o_pj pj0) (x_var (i := 4) rfl (Rp.mono _ (e_45.trans (e_58.trans e_67)) exz r_37))) (x_int (i := 1))) (a_one (x_k (k := ((1 : Nat) : Int)) (o_pj (pjs pj1)) (x_var (i := 4) rfl (Rp.mono _ (e_45.trans (e_58.trans e_67)) exz r_37)))))) s_68 (fun _ _ h => PX.mono (e_5.trans (e_12.trans (e_32.trans (e_45.trans (e_58.trans e_67))))) fr_26 h) hm (fun _ e_90 => ⟨w_19, rfl, fr_26⟩) (fun _ _ _ _ _ => trivial) (fun _ _ _ _ _ e ⟨w_78, hs_77, fr_81⟩ => ⟨w_78, hs_77, fr_81⟩) (fun N x_82 v_83 z_76 σ2 I_84 C_85 H_86 e_87 s_88 ⟨w_78, hs_77, fr_81⟩ r_89 hm => ?_) (fun z_114 σ2 I_109 C_110 H_111 e_112 s_113 ⟨w_116, hs_115, fr_119⟩ hm => ?_)
          · subst hs_77
            refine g1 (K := K) x_82 v_83 I_84 C_85 H_86 _ s_88 r_89 fun σ2 ⟨v_91, hs_93, r_92⟩ => ?_
            subst hs_93
            refine s_if (E := E) (K := K) (σ := [some v_rows, some v_stretches, some v_22, some v_24, some v_36, some v_55, some v_91]) (t_B (x_call (a_cons (x_call (a_cons (x_var (i := 0) rfl (Rp.mono _ (e_5.trans (e_12.trans (e_32.trans (e_45.trans (e_58.trans (e_67.trans e_87)))))) exz r_rows)) (a_cons (x_k (k := ((0 : Nat) : Int)) (o_pj pj0) (x_var (i := 4) rfl (Rp.mono _ (e_45.trans (e_58.trans (e_67.trans e_87))) exz r_37))) (a_one (x_var (i := 6) rfl (Rp.mono _ (Ex.refl _) exz r_92)))))) (a_one (x_var (i := 5) rfl (Rp.mono _ (e_67.trans e_87) exz r_60)))))) s_88 (fun _ _ h => PX.mono (e_5.trans (e_12.trans (e_32.trans (e_45.trans (e_58.trans (e_67.trans e_87)))))) fr_81 h) hm (fun I_94 H_95 e_96 s_97 hm => ?_) (fun I_98 H_99 e_100 s_101 hm => ?_)
            · refine q_ret (tz := tNext) (E := E) (K := K) (σ := [some v_rows, some v_stretches, some v_22, some v_24, some v_36, some v_55, some v_91]) x_bl s_97 (fun _ _ h => PX.mono (e_5.trans (e_12.trans (e_32.trans (e_45.trans (e_58.trans (e_67.trans (e_87.trans e_96))))))) fr_81 h) hm fun a_102 v_103 I_104 H_105 e_106 s_107 r_108 hm => ?_
              exact hm v_103 I_104 H_105 (e_5.trans (e_12.trans (e_32.trans (e_45.trans (e_58.trans (e_67.trans (e_87.trans (e_96.trans e_106)))))))) (St.less s_107 fr_81) (Im.im r_108)
            · exact hm _ _ _ _ e_100 s_101 ⟨some v_91, rfl, fr_81⟩
          subst hs_115
          refine q_asg (E := E) (K := K) (σ := [some v_rows, some v_stretches, some v_22, some v_24, some v_36, some v_55, w_116]) (i := 2) (x_k (k := ((1 : Nat) : Int)) (o_pj (pjs pj1)) (x_var (i := 4) rfl (Rp.mono _ (e_45.trans (e_58.trans (e_67.trans e_112))) exz r_37))) s_113 (fun _ _ h => PX.mono (e_5.trans (e_12.trans (e_32.trans (e_45.trans (e_58.trans (e_67.trans e_112)))))) fr_119 h) hm fun place_120 v_121 I_122 H_123 e_124 s_125 r_126 hm => ?_
          refine q_asg (E := E) (K := K) (σ := [some v_rows, some v_stretches, some v_121, some v_24, some v_36, some v_55, w_116]) (i := 3) (x_var (i := 5) rfl (Rp.mono _ (e_67.trans (e_112.trans e_124)) exz r_60)) s_125 (fun _ _ h => PX.mono (e_5.trans (e_12.trans (e_32.trans (e_45.trans (e_58.trans (e_67.trans (e_112.trans e_124))))))) fr_119 h) hm fun last_127 v_128 I_129 H_130 e_131 s_132 r_133 hm => ?_
          exact hm _ _ _ _ (e_45.trans (e_58.trans (e_67.trans (e_112.trans (e_124.trans e_131))))) s_132 ⟨some v_36, some v_55, w_116, v_121, v_128, rfl, Rp.mono _ e_131 exz r_126, Rp.mono _ (Ex.refl _) exz r_133, fr_119⟩
    subst hs_140
    refine q_ret (tz := tNext) (E := E) (K := K) (σ := [some v_rows, some v_stretches, some v_146, some v_148, w_141, w_142, w_143]) (x_op o_eqI (x_var (i := 2) rfl (Rp.mono _ (Ex.refl _) exz r_147)) (x_cb o_len (a_one (x_v (x_var (i := 0) rfl (Rp.mono _ (e_5.trans (e_12.trans e_137)) exz r_rows)))))) s_138 (fun _ _ h => PX.mono (e_5.trans (e_12.trans e_137)) fr_150 h) hm fun a_151 v_152 I_153 H_154 e_155 s_156 r_157 hm => ?_
    exact hm v_152 I_153 H_154 (e_5.trans (e_12.trans (e_137.trans e_155))) (St.less s_156 fr_150) (Im.im r_157)
def m__law_are_pairs (ar_told : (List (Int × Int))) : Res Bool :=
  (ifR (un notR (un (fun _ => Res.ok true) (pair (Res.ok ar_told) (Res.ok ())))) ((Res.ok false).bind fun a_9 => Res.ok a_9) (((Res.ok ar_told).bind fun xs => loopR (fun (x_22 : (Int × Int)) (z_16 : Unit) => (ifR (orR (un notR (un (fun _ => Res.ok true) (pair (Res.ok x_22) (Res.ok ())))) (orR (bin neR (un (fun _ => Res.ok (2 : Int)) (Res.ok x_22)) (Res.ok (2 : Int))) (orR (un notR (un m__law_is_int (un (fun p => Res.ok p.1) (Res.ok x_22)))) (un notR (un m__law_is_int (un (fun p => Res.ok p.2) (Res.ok x_22))))))) ((Res.ok false).bind fun a_42 => Res.ok (Out.rt a_42)) (Res.ok (Out.nx ())))) xs ()).bind fun (o : Out Unit Bool) => match o with | .nx z_54 => ((Res.ok true).bind fun a_60 => Res.ok a_60) | .br _ => Res.bad | .rt r => Res.ok r))
abbrev N__law_are_pairs : List Str := ["told", "pair"]
theorem sc__law_are_pairs : FnScope N__law_are_pairs ["told"] (defScope s__law_are_pairs) := ⟨rfl, rfl, rfl, by decide +kernel, rfl, by decide +kernel, by decide +kernel⟩
theorem bind__law_are_pairs {K : PySem.W.Frag} {mg : Str → Option Value} {T : Tx K mg} : Binds K T.d__law_are_pairs ["told"] [] := FunD.bindsN T.F__law_are_pairs fun _ _ _ _ _ _ us hl => match us, hl with | [_], _ => rfl
abbrev sp__law_are_pairs (K : PySem.W.Frag) : Sp := spP K (t1 (pV (pT (tc pI (t1 pI))))) m__law_are_pairs pB
theorem ok__law_are_pairs (T : Tx K mg) : FnOk P w K mg base (L2.CX P w) 2 T.f__law_are_pairs T.d__law_are_pairs ["told"] (sp__law_are_pairs K) := by
  refine T.F__law_are_pairs.ok sc__law_are_pairs (fun vs H Q E h => ?_) (fun cdv A outer s H vs Q E hr h => ?_)
  · obtain ⟨I, C, a, _, hr, _⟩ := h
    exact Rt.len _ hr
  · obtain ⟨I0, C0, ar_told, hs, ⟨v_told, rfl, r_told⟩, hm⟩ := h
    have hm : Post (m__law_are_pairs ar_told) (PQ pB I0 C0 Q) (PX E K I0 C0) := hm
    unfold m__law_are_pairs at hm
    refine ⟨_, (pss_cons (ps_if (pt_not (pt_val (pe_callB (r := rIsi K) call_isi (by rfl) T.gb_isinstance bt_isinstance (pa_cons (pv 0) (pa_cons (pe_bltn (v := .ty "list") rfl T.gb_list bt_list rfl) pa_nil))))) (pss_cons (ps_ret pe_bl) pss_nil) pss_nil) (pss_cons (ps_for (passes_of rfl) rfl (show PI _ _ _ (iList K _) from pi_list (pv 0)) (pg_name (i := 1) sc__law_are_pairs.nd rfl (Or.inl rfl)) (pss_cons (ps_if (PW.pt (pw_or (pt_not (pt_val (pe_callB (r := rIsi K) call_isi (by rfl) T.gb_isinstance bt_isinstance (pa_cons (pv 1) (pa_cons (pe_bltn (v := .ty "tuple") rfl T.gb_tuple bt_tuple rfl) pa_nil))))) (pw_or (pt_cmpR op_ne (pe_callB (r := rLen1 K) call_len_seq (by rfl) T.gb_len bt_len (pa_cons (pv 1) pa_nil)) pe_int (nomark _)) (pw_or (pt_not (pt_val (pe_call (ok__law_is_int T) (hr.mono (by decide)) rfl T.g__law_is_int T.F__law_is_int.kp bind__law_is_int .nil passE (pa_cons (pe_ix (r := rIxT K) ix_tup (pv 1) pe_int (fun _ _ => rfl)) pa_nil)))) (pw_or1 (pt_not (pt_val (pe_call (ok__law_is_int T) (hr.mono (by decide)) rfl T.g__law_is_int T.F__law_is_int.kp bind__law_is_int .nil passE (pa_cons (pe_ix (r := rIxT K) ix_tup (pv 1) pe_int (fun _ _ => rfl)) pa_nil))))))))) (pss_cons (ps_ret pe_bl) pss_nil) pss_nil) pss_nil)) (pss_cons (ps_ret pe_bl) pss_nil))), ?_⟩
    refine s_if (E := E) (K := K) (σ := [some v_told, none]) (t_not (t_B (x_cb (o_isi (n := "list") (by decide +kernel)) (a_cons (x_var (i := 0) rfl (Rp.mono _ (Ex.refl _) (Ex.refl _) r_told)) (a_one (x_c (R := pY "list") (a := ()) fun _ _ => rfl)))))) hs (fun _ _ h => PX.mono (Ex.refl _) (Ex.refl _) h) hm (fun I_1 H_2 e_3 s_4 hm => ?_) (fun I_5 H_6 e_7 s_8 hm => ?_)
    · refine q_ret (tz := tNext) (E := E) (K := K) (σ := [some v_told, none]) x_bl s_4 (fun _ _ h => PX.mono e_3 (Ex.refl _) h) hm fun a_9 v_10 I_11 H_12 e_13 s_14 r_15 hm => ?_
      exact hm v_10 I_11 H_12 (e_3.trans e_13) (St.less s_14 (Ex.refl _)) (Im.im r_15)
    · refine s_forR (E := E) (K := K) (σ := [some v_told, none]) (fun (z_16 : Unit) σ2 I_19 C_20 => ∃ w_18 : Option V, σ2 = [some v_told, w_18] ∧ Ex C0 C_20) (i_view (i := 0) (B := C0) rfl (Rp.mono _ e_7 (Ex.refl _) r_told) (Ex.refl _)) s_8 (fun _ _ h => PX.mono e_7 (Ex.refl _) h) hm (fun _ e_30 => ⟨none, rfl, (Ex.refl _)⟩) (fun _ _ _ _ ⟨w_18, hs_17, fr_21⟩ => fr_21) (fun _ _ _ _ _ e ⟨w_18, hs_17, fr_21⟩ => ⟨w_18, hs_17, fr_21⟩) (fun N x_22 v_23 z_16 σ2 I_24 C_25 H_26 e_27 s_28 ⟨w_18, hs_17, fr_21⟩ r_29 hm => ?_) (fun z_54 σ2 I_49 C_50 H_51 e_52 s_53 ⟨w_56, hs_55, fr_59⟩ hm => ?_)
      · subst hs_17
        refine g1 (K := K) x_22 v_23 I_24 C_25 H_26 _ s_28 r_29 fun σ2 ⟨v_31, hs_33, r_32⟩ => ?_
        subst hs_33
        refine s_if (E := E) (K := K) (σ := [some v_told, some v_31]) (t_or (t_not (t_B (x_cb (o_isi (n := "tuple") (by decide +kernel)) (a_cons (x_var (i := 1) rfl (Rp.mono _ (Ex.refl _) exz r_32)) (a_one (x_c (R := pY "tuple") (a := ()) fun _ _ => rfl)))))) (t_or (t_test (x_op o_neI (x_cb o_lenT (a_one (x_var (i := 1) rfl (Rp.mono _ (Ex.refl _) exz r_32)))) (x_int (i := 2)))) (t_or (t_not (t_B (x_call (a_one (x_k (k := ((0 : Nat) : Int)) (o_pj pj0) (x_var (i := 1) rfl (Rp.mono _ (Ex.refl _) exz r_32))))))) (t_not (t_B (x_call (a_one (x_k (k := ((1 : Nat) : Int)) (o_pj (pjs pj1)) (x_var (i := 1) rfl (Rp.mono _ (Ex.refl _) exz r_32)))))))))) s_28 (fun _ _ h => PX.mono (e_7.trans e_27) fr_21 h) hm (fun I_34 H_35 e_36 s_37 hm => ?_) (fun I_38 H_39 e_40 s_41 hm => ?_)
        · refine q_ret (tz := tNext) (E := E) (K := K) (σ := [some v_told, some v_31]) x_bl s_37 (fun _ _ h => PX.mono (e_7.trans (e_27.trans e_36)) fr_21 h) hm fun a_42 v_43 I_44 H_45 e_46 s_47 r_48 hm => ?_
          exact hm v_43 I_44 H_45 (e_7.trans (e_27.trans (e_36.trans e_46))) (St.less s_47 fr_21) (Im.im r_48)
        · exact hm _ _ _ _ e_40 s_41 ⟨some v_31, rfl, fr_21⟩
      subst hs_55
      refine q_ret (tz := tNext) (E := E) (K := K) (σ := [some v_told, w_56]) x_bl s_53 (fun _ _ h => PX.mono (e_7.trans e_52) fr_59 h) hm fun a_60 v_61 I_62 H_63 e_64 s_65 r_66 hm => ?_
      exact hm v_61 I_62 H_63 (e_7.trans (e_52.trans e_64)) (St.less s_65 fr_59) (Im.im r_66)
def m__law_divisions (ar_many : Int) (ar_right : (List (Int × Int))) (a_pool : Pl) : Res ((List (List (Int × Int))) × Pl) :=
  ((consR (Res.ok ([] : List (Int × Int))) (consR (slR (Res.ok ar_right) (Res.ok none) (someR (un rNeg (Res.ok (1 : Int))))) (consR (slR (Res.ok ar_right) (someR (Res.ok (1 : Int))) (Res.ok none)) (consR (consR (pair (Res.ok (0 : Int)) (Res.ok ar_many)) (Res.ok [])) (consR ((un rng1 (Res.ok ar_many)).bind (mapR (fun (x_1 : Int) => (pair (Res.ok x_1) (bin rAdd (Res.ok x_1) (Res.ok (1 : Int))))))) (consR (un revR (Res.ok ar_right)) (Res.ok []))))))).bind fun (found_8 : (List (List (Int × Int)))) => (((bin rCatR (Res.ok ar_right) (consR (pair (Res.ok ar_many) (bin rAdd (Res.ok ar_many) (Res.ok (1 : Int)))) (Res.ok []))).bind fun x => push found_8 x).bind fun (found_25 : (List (List (Int × Int)))) => (((bin rCatR (slR (Res.ok ar_right) (Res.ok none) (someR (un rNeg (Res.ok (1 : Int))))) (consR (pair (un (fun p => Res.ok p.1) (bin ix (Res.ok ar_right) (un rNeg (Res.ok (1 : Int))))) (bin rAdd (Res.ok ar_many) (Res.ok (1 : Int)))) (Res.ok []))).bind fun x => push found_25 x).bind fun (found_38 : (List (List (Int × Int)))) => (((bin rCatR (Res.ok ar_right) (slR (Res.ok ar_right) (someR (un rNeg (Res.ok (1 : Int)))) (Res.ok none))).bind fun x => push found_38 x).bind fun (found_51 : (List (List (Int × Int)))) => (((un rng1 (Res.ok (4 : Int))).bind fun xs => loopN (fun (x_81 : Int) (z_64 : ((List (List (Int × Int))) × Pl)) => (((callM m__law_take (liftM (un rLen (Res.ok ar_right)))) z_64.2).bind fun (k_93 : Int × Pl) => ((bin ix (Res.ok ar_right) (Res.ok k_93.1)).bind fun (pair_107 : (Int × Int)) => ((ifR (bin rLt (bin rAdd (Res.ok k_93.1) (Res.ok (1 : Int))) (un rLen (Res.ok ar_right))) ((bin ix (Res.ok ar_right) (bin rAdd (Res.ok k_93.1) (Res.ok (1 : Int)))).bind fun (behind_136 : (Int × Int)) => (((bin rCatR (bin rCatR (slR (Res.ok ar_right) (Res.ok none) (someR (Res.ok k_93.1))) (consR (pair (un (fun p => Res.ok p.1) (Res.ok pair_107)) (un (fun p => Res.ok p.2) (Res.ok behind_136))) (Res.ok []))) (slR (Res.ok ar_right) (someR (bin rAdd (Res.ok k_93.1) (Res.ok (2 : Int)))) (Res.ok none))).bind fun x => push z_64.1 x).bind fun (found_143 : (List (List (Int × Int)))) => (((callM (fun (p : (Int × Int)) => m__law_from p.1 p.2) (liftM (pair (un (fun p => Res.ok p.1) (Res.ok pair_107)) (un (fun p => Res.ok p.2) (Res.ok behind_136))))) k_93.2).bind fun (cut_156 : Int × Pl) => (((bin rCatR (bin rCatR (slR (Res.ok ar_right) (Res.ok none) (someR (Res.ok k_93.1))) (consR (pair (un (fun p => Res.ok p.1) (Res.ok pair_107)) (Res.ok cut_156.1)) (consR (pair (Res.ok cut_156.1) (un (fun p => Res.ok p.2) (Res.ok behind_136))) (Res.ok [])))) (slR (Res.ok ar_right) (someR (bin rAdd (Res.ok k_93.1) (Res.ok (2 : Int)))) (Res.ok none))).bind fun x => push found_143 x).bind fun (found_170 : (List (List (Int × Int)))) => (Res.ok (cut_156.2, found_170)))))) (Res.ok (k_93.2, z_64.1))).bind fun (z_122 : (Pl × (List (List (Int × Int))))) => (ifR (bin rGt (bin rSub (un (fun p => Res.ok p.2) (Res.ok pair_107)) (un (fun p => Res.ok p.1) (Res.ok pair_107))) (Res.ok (1 : Int))) (((callM (fun (p : (Int × Int)) => m__law_from p.1 p.2) (liftM (pair (bin rAdd (un (fun p => Res.ok p.1) (Res.ok pair_107)) (Res.ok (1 : Int))) (bin rSub (un (fun p => Res.ok p.2) (Res.ok pair_107)) (Res.ok (1 : Int)))))) z_122.1).bind fun (cut_196 : Int × Pl) => (((bin rCatR (bin rCatR (slR (Res.ok ar_right) (Res.ok none) (someR (Res.ok k_93.1))) (consR (pair (un (fun p => Res.ok p.1) (Res.ok pair_107)) (Res.ok cut_196.1)) (consR (pair (Res.ok cut_196.1) (un (fun p => Res.ok p.2) (Res.ok pair_107))) (Res.ok [])))) (slR (Res.ok ar_right) (someR (bin rAdd (Res.ok k_93.1) (Res.ok (1 : Int)))) (Res.ok none))).bind fun x => push z_122.2 x).bind fun (found_210 : (List (List (Int × Int)))) => (Res.ok (found_210, cut_196.2)))) (Res.ok (z_122.2, z_122.1))))))) xs (found_51, a_pool)).bind fun (z_228 : ((List (List (Int × Int))) × Pl)) => ((Res.ok z_228.1).bind fun a_255 => Res.ok (a_255, z_228.2)))))))
abbrev N__law_divisions : List Str := ["pool", "many", "right", "found", "turn", "k", "pair", "behind", "cut"]
theorem sc__law_divisions : FnScope N__law_divisions ["pool", "many", "right"] (defScope s__law_divisions) := ⟨rfl, rfl, rfl, by decide +kernel, rfl, by decide +kernel, by decide +kernel⟩
theorem bind__law_divisions {K : PySem.W.Frag} {mg : Str → Option Value} {T : Tx K mg} : Binds K T.d__law_divisions ["pool", "many", "right"] [] := FunD.bindsN T.F__law_divisions fun _ _ _ _ _ _ us hl => match us, hl with | [_, _, _], _ => rfl
abbrev sp__law_divisions (K : PySem.W.Frag) : Sp := spM pM (tc pI (t1 (pL (pT (tc pI (t1 pI)))))) (fun (p : (Int × (List (Int × Int)))) => m__law_divisions p.1 p.2) (pL (pL (pT (tc pI (t1 pI)))))
theorem ok__law_divisions (T : Tx K mg) : FnOk P w K mg base (L2.CX P w) 5 T.f__law_divisions T.d__law_divisions ["pool", "many", "right"] (sp__law_divisions K) := by
  refine T.F__law_divisions.ok sc__law_divisions (fun vs H Q E h => ?_) (fun cdv A outer s H vs Q E hr h => ?_)
  · obtain ⟨I, C, p, ws, us, x, a, rfl, _, _, _, hr, _⟩ := h
    exact congrArg (· + 1) (Rt.len _ hr)
  · obtain ⟨I0, C0, p0, ws0, us, a_pool, ⟨ar_many, ar_right⟩, rfl, hs, hc0, hx1, ⟨v_many, us0, rfl, r_many, v_right, rfl, r_right⟩, hm⟩ := h
    have hx0 := It.im (C' := Z) hx1
    have hm : Post (m__law_divisions ar_many ar_right a_pool) (PM p0 pM (pL (pL (pT (tc pI (t1 pI))))) I0 C0 Q) XF := hm
    replace r_many : Rp.r pI ar_many v_many I0 Z := Im.im r_many
    replace r_right : Rp.r (pL (pT (tc pI (t1 pI)))) ar_right v_right I0 Z := Im.im r_right
    unfold m__law_divisions at hm
    refine ⟨_, (pss_cons (ps_set (i := 3) sc__law_divisions.nd rfl (Or.inl rfl) (pe_lst (pa_cons (pe_lst pa_nil) (pa_cons (pe_slice (r := rSlL K) sl_list (pv 2) po_none (po_some (pe_un un_neg pe_int))) (pa_cons (pe_slice (r := rSlL K) sl_list (pv 2) (po_some pe_int) po_none) (pa_cons (pe_lst (pa_cons (pe_tup (pa_cons pe_int (pa_cons (pv 1) pa_nil))) pa_nil)) (pa_cons (pe_lc (own := [("k", 5)]) rfl sc__law_divisions.nd (pi_range1 (by rfl) T.gb_range (pa_cons (pv 1) pa_nil)) (blkOk_by (own := [("k", 5)]) (N := N__law_divisions) (sc := defScope s__law_divisions) (by decide +kernel)) (fun _ _ _ _ _ => (pg_name (i := 5) sc__law_divisions.nd rfl (Or.inl rfl))) (fun _ _ _ _ _ => pts_nil) (fun _ _ _ _ _ => (pe_tup (pa_cons (pv 5) (pa_cons (pe_op op_add (pv 5) pe_int) pa_nil))))) (pa_cons (show PE _ _ (tRevL K _) from pe_revL (pv 2)) pa_nil)))))))) (pss_cons (ps_expr (show PE _ _ (tBM K "list" rAppend _ _) from pe_bm PySem.F.plainAttrs_list PySem.F.slot_list_append PySem.F.type_list_append mt_append (pv 3) (pa_cons (pe_op op_cat (pv 2) (pe_lst (pa_cons (pe_tup (pa_cons (pv 1) (pa_cons (pe_op op_add (pv 1) pe_int) pa_nil))) pa_nil))) pa_nil))) (pss_cons (ps_expr (show PE _ _ (tBM K "list" rAppend _ _) from pe_bm PySem.F.plainAttrs_list PySem.F.slot_list_append PySem.F.type_list_append mt_append (pv 3) (pa_cons (pe_op op_cat (pe_slice (r := rSlL K) sl_list (pv 2) po_none (po_some (pe_un un_neg pe_int))) (pe_lst (pa_cons (pe_tup (pa_cons (pe_ix (r := rIxT K) ix_tup (pe_ix (r := rIxL K) ix_list (pv 2) (pe_un un_neg pe_int) (fun _ _ => rfl)) pe_int (fun _ _ => rfl)) (pa_cons (pe_op op_add (pv 1) pe_int) pa_nil))) pa_nil))) pa_nil))) (pss_cons (ps_expr (show PE _ _ (tBM K "list" rAppend _ _) from pe_bm PySem.F.plainAttrs_list PySem.F.slot_list_append PySem.F.type_list_append mt_append (pv 3) (pa_cons (pe_op op_cat (pv 2) (pe_slice (r := rSlL K) sl_list (pv 2) (po_some (pe_un un_neg pe_int)) po_none)) pa_nil))) (pss_cons (ps_for (passes_of rfl) rfl (pi_range1 (by rfl) T.gb_range (pa_cons pe_int pa_nil)) (pg_name (i := 4) sc__law_divisions.nd rfl (Or.inl rfl)) (pss_cons (ps_set (i := 5) sc__law_divisions.nd rfl (Or.inl rfl) (pe_call (ok__law_take T) (hr.mono (by decide)) rfl T.g__law_take T.F__law_take.kp bind__law_take .nil passE (pa_cons (pv 0) (pa_cons (pe_callB (r := rLen1 K) call_len_seq (by rfl) T.gb_len bt_len (pa_cons (pv 2) pa_nil)) pa_nil)))) (pss_cons (ps_set (i := 6) sc__law_divisions.nd rfl (Or.inl rfl) (pe_ix (r := rIxL K) ix_list (pv 2) (pv 5) (fun _ _ => rfl))) (Evl.pss_cut (ps_if (pt_cmpR op_lt (pe_op op_add (pv 5) pe_int) (pe_callB (r := rLen1 K) call_len_seq (by rfl) T.gb_len bt_len (pa_cons (pv 2) pa_nil)) (nomark _)) (pss_cons (ps_set (i := 7) sc__law_divisions.nd rfl (Or.inl rfl) (pe_ix (r := rIxL K) ix_list (pv 2) (pe_op op_add (pv 5) pe_int) (fun _ _ => rfl))) (pss_cons (ps_expr (show PE _ _ (tBM K "list" rAppend _ _) from pe_bm PySem.F.plainAttrs_list PySem.F.slot_list_append PySem.F.type_list_append mt_append (pv 3) (pa_cons (pe_op op_cat (pe_op op_cat (pe_slice (r := rSlL K) sl_list (pv 2) po_none (po_some (pv 5))) (pe_lst (pa_cons (pe_tup (pa_cons (pe_ix (r := rIxT K) ix_tup (pv 6) pe_int (fun _ _ => rfl)) (pa_cons (pe_ix (r := rIxT K) ix_tup (pv 7) pe_int (fun _ _ => rfl)) pa_nil))) pa_nil))) (pe_slice (r := rSlL K) sl_list (pv 2) (po_some (pe_op op_add (pv 5) pe_int)) po_none)) pa_nil))) (pss_cons (ps_set (i := 8) sc__law_divisions.nd rfl (Or.inl rfl) (pe_call (ok__law_from T) (hr.mono (by decide)) rfl T.g__law_from T.F__law_from.kp bind__law_from .nil passE (pa_cons (pv 0) (pa_cons (pe_ix (r := rIxT K) ix_tup (pv 6) pe_int (fun _ _ => rfl)) (pa_cons (pe_ix (r := rIxT K) ix_tup (pv 7) pe_int (fun _ _ => rfl)) pa_nil))))) (pss_cons (ps_expr (show PE _ _ (tBM K "list" rAppend _ _) from pe_bm PySem.F.plainAttrs_list PySem.F.slot_list_append PySem.F.type_list_append mt_append (pv 3) (pa_cons (pe_op op_cat (pe_op op_cat (pe_slice (r := rSlL K) sl_list (pv 2) po_none (po_some (pv 5))) (pe_lst (pa_cons (pe_tup (pa_cons (pe_ix (r := rIxT K) ix_tup (pv 6) pe_int (fun _ _ => rfl)) (pa_cons (pv 8) pa_nil))) (pa_cons (pe_tup (pa_cons (pv 8) (pa_cons (pe_ix (r := rIxT K) ix_tup (pv 7) pe_int (fun _ _ => rfl)) pa_nil))) pa_nil)))) (pe_slice (r := rSlL K) sl_list (pv 2) (po_some (pe_op op_add (pv 5) pe_int)) po_none)) pa_nil))) pss_nil)))) pss_nil) (pss_cons (ps_if (pt_cmpR op_gt (pe_op op_sub (pe_ix (r := rIxT K) ix_tup (pv 6) pe_int (fun _ _ => rfl)) (pe_ix (r := rIxT K) ix_tup (pv 6) pe_int (fun _ _ => rfl))) pe_int (nomark _)) (pss_cons (ps_set (i := 8) sc__law_divisions.nd rfl (Or.inl rfl) (pe_call (ok__law_from T) (hr.mono (by decide)) rfl T.g__law_from T.F__law_from.kp bind__law_from .nil passE (pa_cons (pv 0) (pa_cons (pe_op op_add (pe_ix (r := rIxT K) ix_tup (pv 6) pe_int (fun _ _ => rfl)) pe_int) (pa_cons (pe_op op_sub (pe_ix (r := rIxT K) ix_tup (pv 6) pe_int (fun _ _ => rfl)) pe_int) pa_nil))))) (pss_cons (ps_expr (show PE _ _ (tBM K "list" rAppend _ _) from pe_bm PySem.F.plainAttrs_list PySem.F.slot_list_append PySem.F.type_list_append mt_append (pv 3) (pa_cons (pe_op op_cat (pe_op op_cat (pe_slice (r := rSlL K) sl_list (pv 2) po_none (po_some (pv 5))) (pe_lst (pa_cons (pe_tup (pa_cons (pe_ix (r := rIxT K) ix_tup (pv 6) pe_int (fun _ _ => rfl)) (pa_cons (pv 8) pa_nil))) (pa_cons (pe_tup (pa_cons (pv 8) (pa_cons (pe_ix (r := rIxT K) ix_tup (pv 6) pe_int (fun _ _ => rfl)) pa_nil))) pa_nil)))) (pe_slice (r := rSlL K) sl_list (pv 2) (po_some (pe_op op_add (pv 5) pe_int)) po_none)) pa_nil))) pss_nil)) pss_nil) pss_nil))))) (pss_cons (ps_ret (pv 3)) pss_nil)))))), ?_⟩
    refine q_asgN (E := E) (K := K) (σ := [some (.ref p0), some v_many, some v_right, none, none, none, none, none, none]) (i := 3) (n_lst (al_cons (x_lst (R := (pT (tc pI (t1 pI)))) al_nil (by decide)) (al_cons (x_sl (x_v (x_var (i := 2) rfl (Rp.mono _ (Ex.refl _) exz r_right))) p_none (p_some (x_un o_neg (x_int (i := 1))))) (al_cons (x_sl (x_v (x_var (i := 2) rfl (Rp.mono _ (Ex.refl _) exz r_right))) (p_some (x_int (i := 1))) p_none) (al_cons (x_lst (al_cons (x_tup (a_cons (x_int (i := 0)) (a_one (x_var (i := 1) rfl (Rp.mono _ (Ex.refl _) exz r_many)))) (Nat.le_of_ble_eq_true rfl)) al_nil) (Nat.le_of_ble_eq_true rfl)) (al_cons (x_lc (i_rng1 (a_one (x_var (i := 1) rfl (Rp.mono _ (Ex.refl _) exz r_many)))) g1 (fun _ _ _ _ ⟨_, h, _⟩ => by rw [h]; rfl) (fun x_1 σ2 I_2 C_3 e_4 c_5 ⟨v_6, h, r_7⟩ => by subst h; exact (x_tup (a_cons (x_var (i := 5) rfl (Rp.mono _ (Ex.refl _) exz r_7)) (a_one (x_op o_add (x_var (i := 5) rfl (Rp.mono _ (Ex.refl _) exz r_7)) (x_int (i := 1))))) (Nat.le_of_ble_eq_true rfl))) (fun _ _ _ _ _ e ⟨v_6, h, r_7⟩ => ⟨v_6, h, Rp.mono _ e exz r_7⟩)) (al_cons (x_rev (x_v (x_var (i := 2) rfl (Rp.mono _ (Ex.refl _) exz r_right)))) al_nil)))))) (Nat.le_of_ble_eq_true rfl)) hs (fun _ _ h => h.elim) hm fun found_8 p_9 vs_10 I_11 C_12 H_13 e_14 hp_15 s_16 hc_17 k_18 hl_19 hr_20 hm => ?_
    have ne_21 := ne_new hc0 hp_15
    have hB_22 := Ex.free (off_ex (C := C0) (p := p0)) hp_15
    have hc_23 := (k_18 _ ne_21).trans hc0
    have fr_24 := fr_keep (off_ex (C := C0) (p := p0)) hB_22 k_18
    refine q_app (E := E) (K := K) (σ := [some (.ref p0), some v_many, some v_right, some (.ref p_9), none, none, none, none, none]) (i := 3) rfl hc_17 (a2up (Ex.refl _) hr_20) (x_op o_cat (x_v (x_var (i := 2) rfl (Rp.mono _ e_14 exz r_right))) (x_v (x_lst (al_cons (x_tup (a_cons (x_var (i := 1) rfl (Rp.mono _ e_14 exz r_many)) (a_one (x_op o_add (x_var (i := 1) rfl (Rp.mono _ e_14 exz r_many)) (x_int (i := 1))))) (Nat.le_of_ble_eq_true rfl)) al_nil) (Nat.le_of_ble_eq_true rfl)))) s_16 (fun _ _ h => h.elim) hm fun found_25 vs_26 I_27 C_28 H_29 e_30 s_31 hc_32 k_33 hl_34 hr_35 hm => ?_
    have hc_36 := (k_33 _ ne_21).trans hc_23
    have fr_37 := fr_keep fr_24 hB_22 k_33
    refine q_app (E := E) (K := K) (σ := [some (.ref p0), some v_many, some v_right, some (.ref p_9), none, none, none, none, none]) (i := 3) rfl hc_32 (a2up (Ex.refl _) hr_35) (x_op o_cat (x_v (x_sl (x_v (x_var (i := 2) rfl (Rp.mono _ (e_14.trans e_30) exz r_right))) p_none (p_some (x_un o_neg (x_int (i := 1)))))) (x_v (x_lst (al_cons (x_tup (a_cons (x_k (k := ((0 : Nat) : Int)) (o_pj pj0) (x_op o_ix (x_v (x_var (i := 2) rfl (Rp.mono _ (e_14.trans e_30) exz r_right))) (x_un o_neg (x_int (i := 1))))) (a_one (x_op o_add (x_var (i := 1) rfl (Rp.mono _ (e_14.trans e_30) exz r_many)) (x_int (i := 1))))) (Nat.le_of_ble_eq_true rfl)) al_nil) (Nat.le_of_ble_eq_true rfl)))) s_31 (fun _ _ h => h.elim) hm fun found_38 vs_39 I_40 C_41 H_42 e_43 s_44 hc_45 k_46 hl_47 hr_48 hm => ?_
    have hc_49 := (k_46 _ ne_21).trans hc_36
    have fr_50 := fr_keep fr_37 hB_22 k_46
    refine q_app (E := E) (K := K) (σ := [some (.ref p0), some v_many, some v_right, some (.ref p_9), none, none, none, none, none]) (i := 3) rfl hc_45 (a2up (Ex.refl _) hr_48) (x_op o_cat (x_v (x_var (i := 2) rfl (Rp.mono _ (e_14.trans (e_30.trans e_43)) exz r_right))) (x_v (x_sl (x_v (x_var (i := 2) rfl (Rp.mono _ (e_14.trans (e_30.trans e_43)) exz r_right))) (p_some (x_un o_neg (x_int (i := 1)))) p_none))) s_44 (fun _ _ h => h.elim) hm fun found_51 vs_52 I_53 C_54 H_55 e_56 s_57 hc_58 k_59 hl_60 hr_61 hm => ?_
    have hc_62 := (k_59 _ ne_21).trans hc_49
    have fr_63 := fr_keep fr_50 hB_22 k_59
    refine s_forN (E := E) (K := K) (σ := [some (.ref p0), some v_many, some v_right, some (.ref p_9), none, none, none, none, none]) (fun (z_64 : ((List (List (Int × Int))) × Pl)) σ2 I_71 C_72 => ∃ w_66 : Option V, ∃ w_67 : Option V, ∃ w_68 : Option V, ∃ w_69 : Option V, ∃ w_70 : Option V, σ2 = [some (.ref p0), some v_many, some v_right, some (.ref p_9), w_66, w_67, w_68, w_69, w_70] ∧ (∃ vs_73 : List V, C_72 p_9 = some (.lst vs_73) ∧ vs_73.length ≤ sizeLine ∧ A2 (fun x u => Rp.r (pL (pT (tc pI (t1 pI)))) x u I_71 Z) z_64.1 vs_73) ∧ (∃ ws_77 : List V, C_72 p0 = some (.lst ws_77) ∧ Rt.r pM z_64.2 ws_77 I_71 Z) ∧ Ex (off C0 p0) C_72) (i_rng1 (a_one (x_int (i := 4)))) s_57 (fun _ _ h => h.elim) hm (fun _ e_89 => ⟨none, none, none, none, none, rfl, ⟨_, hc_58, hl_60, a2up (Ex.trans (Ex.refl _) e_89) hr_61⟩, ⟨_, hc_62, Rt.mono _ (Ex.trans (e_14.trans (e_30.trans (e_43.trans e_56))) e_89) exz hx0⟩, fr_63⟩) (fun _ _ _ _ _ => trivial) (fun _ _ _ _ _ e ⟨w_66, w_67, w_68, w_69, w_70, hs_65, ⟨vs_73, hc_74, hl_75, hr_76⟩, ⟨ws_77, hc_78, hx_79⟩, fr_80⟩ => ⟨w_66, w_67, w_68, w_69, w_70, hs_65, ⟨vs_73, hc_74, hl_75, a2up e hr_76⟩, ⟨ws_77, hc_78, Rt.mono _ e exz hx_79⟩, fr_80⟩) (fun N x_81 v_82 z_64 σ2 I_83 C_84 H_85 e_86 s_87 ⟨w_66, w_67, w_68, w_69, w_70, hs_65, ⟨vs_73, hc_74, hl_75, hr_76⟩, ⟨ws_77, hc_78, hx_79⟩, fr_80⟩ r_88 hm => ?_) (fun z_228 σ2 I_223 C_224 H_225 e_226 s_227 ⟨w_230, w_231, w_232, w_233, w_234, hs_229, ⟨vs_237, hc_238, hl_239, hr_240⟩, ⟨ws_241, hc_242, hx_243⟩, fr_244⟩ hm => ?_)
    · subst hs_65
      refine g1 (K := K) x_81 v_82 I_83 C_84 H_85 _ s_87 r_88 fun σ2 ⟨v_90, hs_92, r_91⟩ => ?_
      subst hs_92
      refine qm_asg (E := E) (K := K) (σ := [some (.ref p0), some v_many, some v_right, some (.ref p_9), some v_90, w_67, w_68, w_69, w_70]) (i := 5) (m_callM (i := 0) rfl (am_pure (a_one (x_cb o_len (a_one (x_v (x_var (i := 2) rfl (Rp.mono _ (e_14.trans (e_30.trans (e_43.trans (e_56.trans e_86)))) exz r_right)))))))) s_87 hc_78 (Rt.mono _ (Ex.refl _) exz hx_79) hm fun k_93 v_94 ws_100 I_95 C_101 H_96 e_97 s_98 hc_102 k_103 hx_104 r_99 hm => ?_
      have hc_105 := (k_103 _ (Ne.symm ne_21)).trans hc_74
      have fr_106 := fr_pool fr_80 k_103
      refine q_asg (E := E) (K := K) (σ := [some (.ref p0), some v_many, some v_right, some (.ref p_9), some v_90, some v_94, w_68, w_69, w_70]) (i := 6) (x_op o_ix (x_v (x_var (i := 2) rfl (Rp.mono _ (e_14.trans (e_30.trans (e_43.trans (e_56.trans (e_86.trans e_97))))) exz r_right))) (x_var (i := 5) rfl (Rp.mono _ (Ex.refl _) exz r_99))) s_98 (fun _ _ h => h.elim) hm fun pair_107 v_108 I_109 H_110 e_111 s_112 r_113 hm => ?_
      refine s_ifj (E := E) (K := K) (σ := [some (.ref p0), some v_many, some v_right, some (.ref p_9), some v_90, some v_94, some v_108, w_69, w_70]) (fun (z_122 : (Pl × (List (List (Int × Int))))) σ2 I_126 C_127 => ∃ w_124 : Option V, ∃ w_125 : Option V, σ2 = [some (.ref p0), some v_many, some v_right, some (.ref p_9), some v_90, some v_94, some v_108, w_124, w_125] ∧ (∃ ws_128 : List V, C_127 p0 = some (.lst ws_128) ∧ Rt.r pM z_122.1 ws_128 I_126 Z) ∧ (∃ vs_131 : List V, C_127 p_9 = some (.lst vs_131) ∧ vs_131.length ≤ sizeLine ∧ A2 (fun x u => Rp.r (pL (pT (tc pI (t1 pI)))) x u I_126 Z) z_122.2 vs_131) ∧ Ex (off C0 p0) C_127) (t_test (x_op o_lt (x_op o_add (x_var (i := 5) rfl (Rp.mono _ e_111 exz r_99)) (x_int (i := 1))) (x_cb o_len (a_one (x_v (x_var (i := 2) rfl (Rp.mono _ (e_14.trans (e_30.trans (e_43.trans (e_56.trans (e_86.trans (e_97.trans e_111)))))) exz r_right))))))) s_112 (fun _ _ h => h.elim) hm (fun N I_114 H_115 e_116 s_117 hm => ?_) (fun N I_118 H_119 e_120 s_121 hm => ?_) (fun z_122 σ2 I_183 C_184 H_185 e_186 s_187 ⟨w_124, w_125, hs_123, ⟨ws_128, hc_129, hx_130⟩, ⟨vs_131, hc_132, hl_133, hr_134⟩, fr_135⟩ hm => ?_)
      · refine q_asg (E := E) (K := K) (σ := [some (.ref p0), some v_many, some v_right, some (.ref p_9), some v_90, some v_94, some v_108, w_69, w_70]) (i := 7) (x_op o_ix (x_v (x_var (i := 2) rfl (Rp.mono _ (e_14.trans (e_30.trans (e_43.trans (e_56.trans (e_86.trans (e_97.trans (e_111.trans e_116))))))) exz r_right))) (x_op o_add (x_var (i := 5) rfl (Rp.mono _ (e_111.trans e_116) exz r_99)) (x_int (i := 1)))) s_117 (fun _ _ h => h.elim) hm fun behind_136 v_137 I_138 H_139 e_140 s_141 r_142 hm => ?_
        refine q_app (E := E) (K := K) (σ := [some (.ref p0), some v_many, some v_right, some (.ref p_9), some v_90, some v_94, some v_108, some v_137, w_70]) (i := 3) rfl hc_105 (a2up (e_97.trans (e_111.trans (e_116.trans e_140))) hr_76) (x_op o_cat (x_v (x_op o_cat (x_v (x_sl (x_v (x_var (i := 2) rfl (Rp.mono _ (e_14.trans (e_30.trans (e_43.trans (e_56.trans (e_86.trans (e_97.trans (e_111.trans (e_116.trans e_140)))))))) exz r_right))) p_none (p_some (x_var (i := 5) rfl (Rp.mono _ (e_111.trans (e_116.trans e_140)) exz r_99))))) (x_v (x_lst (al_cons (x_tup (a_cons (x_k (k := ((0 : Nat) : Int)) (o_pj pj0) (x_var (i := 6) rfl (Rp.mono _ (e_116.trans e_140) exz r_113))) (a_one (x_k (k := ((1 : Nat) : Int)) (o_pj (pjs pj1)) (x_var (i := 7) rfl (Rp.mono _ (Ex.refl _) exz r_142))))) (Nat.le_of_ble_eq_true rfl)) al_nil) (Nat.le_of_ble_eq_true rfl))))) (x_v (x_sl (x_v (x_var (i := 2) rfl (Rp.mono _ (e_14.trans (e_30.trans (e_43.trans (e_56.trans (e_86.trans (e_97.trans (e_111.trans (e_116.trans e_140)))))))) exz r_right))) (p_some (x_op o_add (x_var (i := 5) rfl (Rp.mono _ (e_111.trans (e_116.trans e_140)) exz r_99)) (x_int (i := 2)))) p_none))) s_141 (fun _ _ h => h.elim) hm fun found_143 vs_144 I_145 C_146 H_147 e_148 s_149 hc_150 k_151 hl_152 hr_153 hm => ?_
        have hc_154 := (k_151 _ ne_21).trans hc_102
        have fr_155 := fr_keep fr_106 hB_22 k_151
        refine qm_asg (E := E) (K := K) (σ := [some (.ref p0), some v_many, some v_right, some (.ref p_9), some v_90, some v_94, some v_108, some v_137, w_70]) (i := 8) (m_callM (i := 0) rfl (am_pure (a_cons (x_k (k := ((0 : Nat) : Int)) (o_pj pj0) (x_var (i := 6) rfl (Rp.mono _ (e_116.trans (e_140.trans e_148)) exz r_113))) (a_one (x_k (k := ((1 : Nat) : Int)) (o_pj (pjs pj1)) (x_var (i := 7) rfl (Rp.mono _ e_148 exz r_142))))))) s_149 hc_154 (Rt.mono _ (e_111.trans (e_116.trans (e_140.trans e_148))) exz hx_104) hm fun cut_156 v_157 ws_163 I_158 C_164 H_159 e_160 s_161 hc_165 k_166 hx_167 r_162 hm => ?_
        have hc_168 := (k_166 _ (Ne.symm ne_21)).trans hc_150
        have fr_169 := fr_pool fr_155 k_166
        refine q_app (E := E) (K := K) (σ := [some (.ref p0), some v_many, some v_right, some (.ref p_9), some v_90, some v_94, some v_108, some v_137, some v_157]) (i := 3) rfl hc_168 (a2up e_160 hr_153) (x_op o_cat (x_v (x_op o_cat (x_v (x_sl (x_v (x_var (i := 2) rfl (Rp.mono _ (e_14.trans (e_30.trans (e_43.trans (e_56.trans (e_86.trans (e_97.trans (e_111.trans (e_116.trans (e_140.trans (e_148.trans e_160)))))))))) exz r_right))) p_none (p_some (x_var (i := 5) rfl (Rp.mono _ (e_111.trans (e_116.trans (e_140.trans (e_148.trans e_160)))) exz r_99))))) (x_v (x_lst (al_cons (x_tup (a_cons (x_k (k := ((0 : Nat) : Int)) (o_pj pj0) (x_var (i := 6) rfl (Rp.mono _ (e_116.trans (e_140.trans (e_148.trans e_160))) exz r_113))) (a_one (x_var (i := 8) rfl (Rp.mono _ (Ex.refl _) exz r_162)))) (Nat.le_of_ble_eq_true rfl)) (al_cons (x_tup (a_cons (x_var (i := 8) rfl (Rp.mono _ (Ex.refl _) exz r_162)) (a_one (x_k (k := ((1 : Nat) : Int)) (o_pj (pjs pj1)) (x_var (i := 7) rfl (Rp.mono _ (e_148.trans e_160) exz r_142))))) (Nat.le_of_ble_eq_true rfl)) al_nil)) (Nat.le_of_ble_eq_true rfl))))) (x_v (x_sl (x_v (x_var (i := 2) rfl (Rp.mono _ (e_14.trans (e_30.trans (e_43.trans (e_56.trans (e_86.trans (e_97.trans (e_111.trans (e_116.trans (e_140.trans (e_148.trans e_160)))))))))) exz r_right))) (p_some (x_op o_add (x_var (i := 5) rfl (Rp.mono _ (e_111.trans (e_116.trans (e_140.trans (e_148.trans e_160)))) exz r_99)) (x_int (i := 2)))) p_none))) s_161 (fun _ _ h => h.elim) hm fun found_170 vs_171 I_172 C_173 H_174 e_175 s_176 hc_177 k_178 hl_179 hr_180 hm => ?_
        have hc_181 := (k_178 _ ne_21).trans hc_165
        have fr_182 := fr_keep fr_169 hB_22 k_178
        exact hm _ _ _ _ (e_116.trans (e_140.trans (e_148.trans (e_160.trans e_175)))) s_176 ⟨some v_137, some v_157, rfl, ⟨_, hc_181, Rt.mono _ e_175 exz hx_167⟩, ⟨_, hc_177, hl_179, a2up (Ex.refl _) hr_180⟩, fr_182⟩
      · exact hm _ _ _ _ e_120 s_121 ⟨w_69, w_70, rfl, ⟨_, hc_102, Rt.mono _ (e_111.trans e_120) exz hx_104⟩, ⟨_, hc_105, hl_75, a2up (e_97.trans (e_111.trans e_120)) hr_76⟩, fr_106⟩
      subst hs_123
      refine s_if (E := E) (K := K) (σ := [some (.ref p0), some v_many, some v_right, some (.ref p_9), some v_90, some v_94, some v_108, w_124, w_125]) (t_test (x_op o_gt (x_op o_sub (x_k (k := ((1 : Nat) : Int)) (o_pj (pjs pj1)) (x_var (i := 6) rfl (Rp.mono _ e_186 exz r_113))) (x_k (k := ((0 : Nat) : Int)) (o_pj pj0) (x_var (i := 6) rfl (Rp.mono _ e_186 exz r_113)))) (x_int (i := 1)))) s_187 (fun _ _ h => h.elim) hm (fun I_188 H_189 e_190 s_191 hm => ?_) (fun I_192 H_193 e_194 s_195 hm => ?_)
      · refine qm_asg (E := E) (K := K) (σ := [some (.ref p0), some v_many, some v_right, some (.ref p_9), some v_90, some v_94, some v_108, w_124, w_125]) (i := 8) (m_callM (i := 0) rfl (am_pure (a_cons (x_op o_add (x_k (k := ((0 : Nat) : Int)) (o_pj pj0) (x_var (i := 6) rfl (Rp.mono _ (e_186.trans e_190) exz r_113))) (x_int (i := 1))) (a_one (x_op o_sub (x_k (k := ((1 : Nat) : Int)) (o_pj (pjs pj1)) (x_var (i := 6) rfl (Rp.mono _ (e_186.trans e_190) exz r_113))) (x_int (i := 1))))))) s_191 hc_129 (Rt.mono _ e_190 exz hx_130) hm fun cut_196 v_197 ws_203 I_198 C_204 H_199 e_200 s_201 hc_205 k_206 hx_207 r_202 hm => ?_
        have hc_208 := (k_206 _ (Ne.symm ne_21)).trans hc_132
        have fr_209 := fr_pool fr_135 k_206
        refine q_app (E := E) (K := K) (σ := [some (.ref p0), some v_many, some v_right, some (.ref p_9), some v_90, some v_94, some v_108, w_124, some v_197]) (i := 3) rfl hc_208 (a2up (e_190.trans e_200) hr_134) (x_op o_cat (x_v (x_op o_cat (x_v (x_sl (x_v (x_var (i := 2) rfl (Rp.mono _ (e_14.trans (e_30.trans (e_43.trans (e_56.trans (e_86.trans (e_97.trans (e_111.trans (e_186.trans (e_190.trans e_200))))))))) exz r_right))) p_none (p_some (x_var (i := 5) rfl (Rp.mono _ (e_111.trans (e_186.trans (e_190.trans e_200))) exz r_99))))) (x_v (x_lst (al_cons (x_tup (a_cons (x_k (k := ((0 : Nat) : Int)) (o_pj pj0) (x_var (i := 6) rfl (Rp.mono _ (e_186.trans (e_190.trans e_200)) exz r_113))) (a_one (x_var (i := 8) rfl (Rp.mono _ (Ex.refl _) exz r_202)))) (Nat.le_of_ble_eq_true rfl)) (al_cons (x_tup (a_cons (x_var (i := 8) rfl (Rp.mono _ (Ex.refl _) exz r_202)) (a_one (x_k (k := ((1 : Nat) : Int)) (o_pj (pjs pj1)) (x_var (i := 6) rfl (Rp.mono _ (e_186.trans (e_190.trans e_200)) exz r_113))))) (Nat.le_of_ble_eq_true rfl)) al_nil)) (Nat.le_of_ble_eq_true rfl))))) (x_v (x_sl (x_v (x_var (i := 2) rfl (Rp.mono _ (e_14.trans (e_30.trans (e_43.trans (e_56.trans (e_86.trans (e_97.trans (e_111.trans (e_186.trans (e_190.trans e_200))))))))) exz r_right))) (p_some (x_op o_add (x_var (i := 5) rfl (Rp.mono _ (e_111.trans (e_186.trans (e_190.trans e_200))) exz r_99)) (x_int (i := 1)))) p_none))) s_201 (fun _ _ h => h.elim) hm fun found_210 vs_211 I_212 C_213 H_214 e_215 s_216 hc_217 k_218 hl_219 hr_220 hm => ?_
        have hc_221 := (k_218 _ ne_21).trans hc_205
        have fr_222 := fr_keep fr_209 hB_22 k_218
        exact hm _ _ _ _ (e_97.trans (e_111.trans (e_186.trans (e_190.trans (e_200.trans e_215))))) s_216 ⟨some v_90, some v_94, some v_108, w_124, some v_197, rfl, ⟨_, hc_217, hl_219, a2up (Ex.refl _) hr_220⟩, ⟨_, hc_221, Rt.mono _ e_215 exz hx_207⟩, fr_222⟩
      · exact hm _ _ _ _ (e_97.trans (e_111.trans (e_186.trans e_194))) s_195 ⟨some v_90, some v_94, some v_108, w_124, w_125, rfl, ⟨_, hc_132, hl_133, a2up e_194 hr_134⟩, ⟨_, hc_129, Rt.mono _ e_194 exz hx_130⟩, fr_135⟩
    subst hs_229
    obtain ⟨I_245, C_246, e_247, s_248, h_249, k_250⟩ := freeze s_227 hc_238
    have r_252 := frz_list e_247 h_249 hl_239 hr_240
    have hc_253 := (k_250 _ ne_21).trans hc_242
    have fr_254 := fr_keep fr_244 hB_22 k_250
    refine q_ret (tz := tNext) (E := E) (K := K) (σ := [some (.ref p0), some v_many, some v_right, some (.ref p_9), w_230, w_231, w_232, w_233, w_234]) (x_var (i := 3) rfl (Rp.mono _ (Ex.refl _) exz r_252)) s_248 (fun _ _ h => h.elim) hm fun a_255 v_256 I_257 H_258 e_259 s_260 r_261 hm => ?_
    exact ret_pool hm (e_14.trans (e_30.trans (e_43.trans (e_56.trans (e_226.trans (e_247.trans e_259)))))) fr_254 s_260 hc_253 (Rt.mono _ (e_247.trans e_259) exz hx_243) r_261
def m__law_refused (ar_rows : (List (Int × Int))) (ar_which : Int) : Res (Str × Int) :=
  ((tryR knE (fun c => isaE c .DeskError) (ifR (bin eqR (Res.ok ar_which) (Res.ok (0 : Int))) ((un m_check_groups (Res.ok ar_rows)).bind fun (b_21 : Unit) => (Res.ok (Out.nx ()))) (ifR (bin eqR (Res.ok ar_which) (Res.ok (1 : Int))) ((un m_rising_blocks (Res.ok ar_rows)).bind fun (b_34 : (List (Int × Int))) => (Res.ok (Out.nx ()))) (ifR (bin eqR (Res.ok ar_which) (Res.ok (2 : Int))) ((un (fun (p : ((List (Int × Int)) × (List (Int × Int)))) => m_is_rising p.1 p.2) (pair (Res.ok ar_rows) (consR (pair (Res.ok (0 : Int)) (Res.ok (1 : Int))) (Res.ok [])))).bind fun (b_47 : Bool) => (Res.ok (Out.nx ()))) (ifR (bin eqR (Res.ok ar_which) (Res.ok (3 : Int))) ((un m_rising_chances (Res.ok ar_rows)).bind fun (b_60 : (List (Int × Int))) => (Res.ok (Out.nx ()))) (ifR (bin eqR (Res.ok ar_which) (Res.ok (4 : Int))) ((un (fun (p : ((List (Int × Int)) × Int)) => m_max_min p.1 p.2) (pair (Res.ok ar_rows) (Res.ok (0 : Int)))).bind fun (b_73 : (Int × Int)) => (Res.ok (Out.nx ()))) ((un (fun (p : ((List (Int × Int)) × Int)) => m_min_max p.1 p.2) (pair (Res.ok ar_rows) (Res.ok (0 : Int)))).bind fun (b_78 : (Int × Int)) => (Res.ok (Out.nx ())))))))) (fun c_90 j_91 => (ifR (andR (Res.ok (isaE c_90 .BadSignals)) (un notR (Res.ok (isaE c_90 .TooMany)))) ((pair (Res.ok ("signals" : Str)) (Res.ok j_91)).bind fun a_103 => Res.ok (Out.rt a_103)) (ifR (andR (Res.ok (isaE c_90 .TooMany)) (un notR (Res.ok (isaE c_90 .BadSignals)))) ((pair (Res.ok ("many" : Str)) (Res.ok j_91)).bind fun a_118 => Res.ok (Out.rt a_118)) ((pair (Res.ok ("other" : Str)) (Res.ok (0 : Int))).bind fun a_125 => Res.ok (Out.rt a_125)))))).bind fun (o : Out Unit (Str × Int)) => match o with | .nx z_2 => ((pair (Res.ok ("none" : Str)) (Res.ok (0 : Int))).bind fun a_137 => Res.ok a_137) | .br _ => Res.bad | .rt r => Res.ok r)
abbrev N__law_refused : List Str := ["rows", "which", "e"]
theorem sc__law_refused : FnScope N__law_refused ["rows", "which"] (defScope s__law_refused) := ⟨rfl, rfl, rfl, by decide +kernel, rfl, by decide +kernel, by decide +kernel⟩
theorem bind__law_refused {K : PySem.W.Frag} {mg : Str → Option Value} {T : Tx K mg} : Binds K T.d__law_refused ["rows", "which"] [] := FunD.bindsN T.F__law_refused fun _ _ _ _ _ _ us hl => match us, hl with | [_, _], _ => rfl
abbrev sp__law_refused (K : PySem.W.Frag) : Sp := spP K (tc (pL (pT (tc pI (t1 pI)))) (t1 pI)) (fun (p : ((List (Int × Int)) × Int)) => m__law_refused p.1 p.2) (pT (tc pS (t1 pI)))
theorem ok__law_refused (T : Tx K mg) : FnOk P w K mg base (L2.CX P w) 7 T.f__law_refused T.d__law_refused ["rows", "which"] (sp__law_refused K) := by
  refine T.F__law_refused.ok sc__law_refused (fun vs H Q E h => ?_) (fun cdv A outer s H vs Q E hr h => ?_)
  · obtain ⟨I, C, a, _, hr, _⟩ := h
    exact Rt.len _ hr
  · obtain ⟨I0, C0, ⟨ar_rows, ar_which⟩, hs, ⟨v_rows, us0, rfl, r_rows, v_which, rfl, r_which⟩, hm⟩ := h
    have hm : Post (m__law_refused ar_rows ar_which) (PQ (pT (tc pS (t1 pI))) I0 C0 Q) (PX E K I0 C0) := hm
    replace r_rows : Rp.r (pL (pT (tc pI (t1 pI)))) ar_rows v_rows I0 Z := Im.im r_rows
    replace r_which : Rp.r pI ar_which v_which I0 Z := Im.im r_which
    unfold m__law_refused at hm
    refine ⟨_, (Evl.pss_cut (ps_tryS (c := .ref (He.ga K "DeskError")) (i := 2) rfl rfl sc__law_refused.nd rfl rfl ⟨rfl, by decide, Or.inl (T.xs .DeskError (by decide)).g⟩ (takes_of rfl rfl rfl rfl) (fun W pn xe tk hp => (pss_cons (ps_if (pt_cmpR op_eq (pv 1) pe_int (nomark _)) (pss_cons (ps_expr (by exact (pe_callS (ok_check_groups T) (hr.mono (by decide)) rfl T.g_check_groups T.F_check_groups.kp bind_check_groups (fun σ => passAt tk σ) (by exact (pa_cons (pv 0) pa_nil))))) pss_nil) (pss_cons (ps_if (pt_cmpR op_eq (pv 1) pe_int (nomark _)) (pss_cons (ps_expr (by exact (pe_callS (ok_rising_blocks T) (hr.mono (by decide)) rfl T.g_rising_blocks T.F_rising_blocks.kp bind_rising_blocks (fun σ => passAt tk σ) (by exact (pa_cons (pv 0) pa_nil))))) pss_nil) (pss_cons (ps_if (pt_cmpR op_eq (pv 1) pe_int (nomark _)) (pss_cons (ps_expr (by exact (pe_callS (ok_is_rising T) (hr.mono (by decide)) rfl T.g_is_rising T.F_is_rising.kp bind_is_rising (fun σ => passAt tk σ) (by exact (pa_cons (pv 0) (pa_cons (pe_lst (pa_cons (pe_tup (pa_cons pe_int (pa_cons pe_int pa_nil))) pa_nil)) pa_nil)))))) pss_nil) (pss_cons (ps_if (pt_cmpR op_eq (pv 1) pe_int (nomark _)) (pss_cons (ps_expr (by exact (pe_callS (ok_rising_chances T) (hr.mono (by decide)) rfl T.g_rising_chances T.F_rising_chances.kp bind_rising_chances (fun σ => passAt tk σ) (by exact (pa_cons (pv 0) pa_nil))))) pss_nil) (pss_cons (ps_if (pt_cmpR op_eq (pv 1) pe_int (nomark _)) (pss_cons (ps_expr (by exact (pe_callS (ok_max_min T) (hr.mono (by decide)) rfl T.g_max_min T.F_max_min.kp bind_max_min (fun σ => passAt tk σ) (by exact (pa_cons (pv 0) (pa_cons pe_int pa_nil)))))) pss_nil) (pss_cons (ps_expr (by exact (pe_callS (ok_min_max T) (hr.mono (by decide)) rfl T.g_min_max T.F_min_max.kp bind_min_max (fun σ => passAt tk σ) (by exact (pa_cons (pv 0) (pa_cons pe_int pa_nil)))))) pss_nil)) pss_nil)) pss_nil)) pss_nil)) pss_nil)) pss_nil)) (fun a oe cls d pn hz hf => (pss_cons (ps_if (PW.pt (pw_and (pt_val (pe_callB (r := rIsX K a cls d) (call_isX hz hf) (by rfl) T.gb_isinstance bt_isinstance (pa_cons (pv 2) (pa_cons (pe_glob (v := .ref (He.ga K "BadSignals")) rfl (T.xs .BadSignals (by decide)).g rfl) pa_nil)))) (pw_and1 (pt_not (pt_val (pe_callB (r := rIsX K a cls d) (call_isX hz hf) (by rfl) T.gb_isinstance bt_isinstance (pa_cons (pv 2) (pa_cons (pe_glob (v := .ref (He.ga K "TooMany")) rfl (T.xs .TooMany (by decide)).g rfl) pa_nil)))))))) (pss_cons (ps_ret (pe_tup (pa_cons pe_str (pa_cons (pe_xfX hz hf (pv 2)) pa_nil)))) pss_nil) pss_nil) (pss_cons (ps_if (PW.pt (pw_and (pt_val (pe_callB (r := rIsX K a cls d) (call_isX hz hf) (by rfl) T.gb_isinstance bt_isinstance (pa_cons (pv 2) (pa_cons (pe_glob (v := .ref (He.ga K "TooMany")) rfl (T.xs .TooMany (by decide)).g rfl) pa_nil)))) (pw_and1 (pt_not (pt_val (pe_callB (r := rIsX K a cls d) (call_isX hz hf) (by rfl) T.gb_isinstance bt_isinstance (pa_cons (pv 2) (pa_cons (pe_glob (v := .ref (He.ga K "BadSignals")) rfl (T.xs .BadSignals (by decide)).g rfl) pa_nil)))))))) (pss_cons (ps_ret (pe_tup (pa_cons pe_str (pa_cons (pe_xfX hz hf (pv 2)) pa_nil)))) pss_nil) pss_nil) (pss_cons (ps_ret (pe_tup (pa_cons pe_str (pa_cons pe_int pa_nil)))) pss_nil))))) (pss_cons (ps_ret (pe_tup (pa_cons pe_str (pa_cons pe_int pa_nil)))) pss_nil)), ?_⟩
    refine s_try (E := E) (K := K) (σ := [some v_rows, some v_which, none]) (mg := mg) (fun (z_2 : Unit) σ2 I_9 C_10 => ∃ w_8 : Option V, σ2 = [some v_rows, some v_which, w_8] ∧ Ex C0 C_10) ((fun (z_1 : Unit) σ2 I_4 C_5 => σ2 = [some v_rows, some v_which, none] ∧ Ex C0 C_5) ()) (fun c h => ⟨T.ex c .DeskError h (by decide), T.xs c h⟩) (fun _ _ _ e ⟨hs_3, fr_6⟩ => fun _ _ h => PX.mono (Ex.trans (Ex.refl _) e) fr_6 h) (fun _ _ _ _ e ⟨hs_3, fr_6⟩ => ⟨hs_3, fr_6⟩) hm (fun N W hW_12 hm => ?_) (fun N c_90 j_91 a_92 cls_94 d_93 σ2 I_83 C_84 H_85 kn_89 cg_88 e_86 s_87 ⟨hs_3, fr_6⟩ hm => ?_) (fun z_2 σ2 I_132 C_133 H_134 e_135 s_136 ⟨w_8, hs_7, fr_11⟩ hm => ?_)
    · refine s_if (E := WE W _) (K := K) (σ := [some v_rows, some v_which, none]) (t_test (x_op o_eqI (x_var (i := 1) rfl (Rp.mono _ (Ex.refl _) exz r_which)) (x_int (i := 0)))) hs (hW_12 _ _ _ (Ex.refl _) ⟨rfl, (Ex.refl _)⟩) hm (fun I_13 H_14 e_15 s_16 hm => ?_) (fun I_17 H_18 e_19 s_20 hm => ?_)
      · refine s_expr (E := WE W _) (K := K) (σ := [some v_rows, some v_which, none]) (x_callS (a_one (x_var (i := 0) rfl (Rp.mono _ e_15 exz r_rows)))) s_16 (hW_12 _ _ _ e_15 ⟨rfl, (Ex.refl _)⟩) hm fun b_21 I_22 H_23 e_24 s_25 hm => ?_
        exact hm _ _ _ _ (e_15.trans e_24) s_25 ⟨none, rfl, (Ex.refl _)⟩
      · refine s_if (E := WE W _) (K := K) (σ := [some v_rows, some v_which, none]) (t_test (x_op o_eqI (x_var (i := 1) rfl (Rp.mono _ e_19 exz r_which)) (x_int (i := 1)))) s_20 (hW_12 _ _ _ e_19 ⟨rfl, (Ex.refl _)⟩) hm (fun I_26 H_27 e_28 s_29 hm => ?_) (fun I_30 H_31 e_32 s_33 hm => ?_)
        · refine s_expr (E := WE W _) (K := K) (σ := [some v_rows, some v_which, none]) (x_own (n_callS (a_one (x_var (i := 0) rfl (Rp.mono _ (e_19.trans e_28) exz r_rows))))) s_29 (hW_12 _ _ _ (e_19.trans e_28) ⟨rfl, (Ex.refl _)⟩) hm fun b_34 I_35 H_36 e_37 s_38 hm => ?_
          exact hm _ _ _ _ (e_19.trans (e_28.trans e_37)) s_38 ⟨none, rfl, (Ex.refl _)⟩
        · refine s_if (E := WE W _) (K := K) (σ := [some v_rows, some v_which, none]) (t_test (x_op o_eqI (x_var (i := 1) rfl (Rp.mono _ (e_19.trans e_32) exz r_which)) (x_int (i := 2)))) s_33 (hW_12 _ _ _ (e_19.trans e_32) ⟨rfl, (Ex.refl _)⟩) hm (fun I_39 H_40 e_41 s_42 hm => ?_) (fun I_43 H_44 e_45 s_46 hm => ?_)
          · refine s_expr (E := WE W _) (K := K) (σ := [some v_rows, some v_which, none]) (x_callS (a_cons (x_var (i := 0) rfl (Rp.mono _ (e_19.trans (e_32.trans e_41)) exz r_rows)) (a_one (x_v (x_lst (al_cons (x_tup (a_cons (x_int (i := 0)) (a_one (x_int (i := 1)))) (Nat.le_of_ble_eq_true rfl)) al_nil) (Nat.le_of_ble_eq_true rfl)))))) s_42 (hW_12 _ _ _ (e_19.trans (e_32.trans e_41)) ⟨rfl, (Ex.refl _)⟩) hm fun b_47 I_48 H_49 e_50 s_51 hm => ?_
            exact hm _ _ _ _ (e_19.trans (e_32.trans (e_41.trans e_50))) s_51 ⟨none, rfl, (Ex.refl _)⟩
          · refine s_if (E := WE W _) (K := K) (σ := [some v_rows, some v_which, none]) (t_test (x_op o_eqI (x_var (i := 1) rfl (Rp.mono _ (e_19.trans (e_32.trans e_45)) exz r_which)) (x_int (i := 3)))) s_46 (hW_12 _ _ _ (e_19.trans (e_32.trans e_45)) ⟨rfl, (Ex.refl _)⟩) hm (fun I_52 H_53 e_54 s_55 hm => ?_) (fun I_56 H_57 e_58 s_59 hm => ?_)
            · refine s_expr (E := WE W _) (K := K) (σ := [some v_rows, some v_which, none]) (x_own (n_callS (a_one (x_var (i := 0) rfl (Rp.mono _ (e_19.trans (e_32.trans (e_45.trans e_54))) exz r_rows))))) s_55 (hW_12 _ _ _ (e_19.trans (e_32.trans (e_45.trans e_54))) ⟨rfl, (Ex.refl _)⟩) hm fun b_60 I_61 H_62 e_63 s_64 hm => ?_
              exact hm _ _ _ _ (e_19.trans (e_32.trans (e_45.trans (e_54.trans e_63)))) s_64 ⟨none, rfl, (Ex.refl _)⟩
            · refine s_if (E := WE W _) (K := K) (σ := [some v_rows, some v_which, none]) (t_test (x_op o_eqI (x_var (i := 1) rfl (Rp.mono _ (e_19.trans (e_32.trans (e_45.trans e_58))) exz r_which)) (x_int (i := 4)))) s_59 (hW_12 _ _ _ (e_19.trans (e_32.trans (e_45.trans e_58))) ⟨rfl, (Ex.refl _)⟩) hm (fun I_65 H_66 e_67 s_68 hm => ?_) (fun I_69 H_70 e_71 s_72 hm => ?_)
              · refine s_expr (E := WE W _) (K := K) (σ := [some v_rows, some v_which, none]) (x_callS (a_cons (x_var (i := 0) rfl (Rp.mono _ (e_19.trans (e_32.trans (e_45.trans (e_58.trans e_67)))) exz r_rows)) (a_one (x_int (i := 0))))) s_68 (hW_12 _ _ _ (e_19.trans (e_32.trans (e_45.trans (e_58.trans e_67)))) ⟨rfl, (Ex.refl _)⟩) hm fun b_73 I_74 H_75 e_76 s_77 hm => ?_
                exact hm _ _ _ _ (e_19.trans (e_32.trans (e_45.trans (e_58.trans (e_67.trans e_76))))) s_77 ⟨none, rfl, (Ex.refl _)⟩
              · refine s_expr (E := WE W _) (K := K) (σ := [some v_rows, some v_which, none]) (x_callS (a_cons (x_var (i := 0) rfl (Rp.mono _ (e_19.trans (e_32.trans (e_45.trans (e_58.trans e_71)))) exz r_rows)) (a_one (x_int (i := 0))))) s_72 (hW_12 _ _ _ (e_19.trans (e_32.trans (e_45.trans (e_58.trans e_71)))) ⟨rfl, (Ex.refl _)⟩) hm fun b_78 I_79 H_80 e_81 s_82 hm => ?_
                exact hm _ _ _ _ (e_19.trans (e_32.trans (e_45.trans (e_58.trans (e_71.trans e_81))))) s_82 ⟨none, rfl, (Ex.refl _)⟩
    · subst hs_3
      refine s_if (E := E) (K := K) (σ := [some v_rows, some v_which, some (.ref a_92)]) (t_and (t_B (x_isE (Cg.up (Ex.refl _) cg_88) (T.ki _ .BadSignals kn_89 (by decide)) (by rfl))) (t_not (t_B (x_isE (Cg.up (Ex.refl _) cg_88) (T.ki _ .TooMany kn_89 (by decide)) (by rfl))))) s_87 (fun _ _ h => PX.mono e_86 fr_6 h) hm (fun I_95 H_96 e_97 s_98 hm => ?_) (fun I_99 H_100 e_101 s_102 hm => ?_)
      · refine q_ret (tz := tNext) (E := E) (K := K) (σ := [some v_rows, some v_which, some (.ref a_92)]) (x_tup (a_cons (x_str (by decide +kernel)) (a_one (x_at (Cg.up e_97 cg_88) (by rfl)))) (Nat.le_of_ble_eq_true rfl)) s_98 (fun _ _ h => PX.mono (e_86.trans e_97) fr_6 h) hm fun a_103 v_104 I_105 H_106 e_107 s_108 r_109 hm => ?_
        exact hm v_104 I_105 H_106 (e_86.trans (e_97.trans e_107)) (St.less s_108 fr_6) (Im.im r_109)
      · refine s_if (E := E) (K := K) (σ := [some v_rows, some v_which, some (.ref a_92)]) (t_and (t_B (x_isE (Cg.up e_101 cg_88) (T.ki _ .TooMany kn_89 (by decide)) (by rfl))) (t_not (t_B (x_isE (Cg.up e_101 cg_88) (T.ki _ .BadSignals kn_89 (by decide)) (by rfl))))) s_102 (fun _ _ h => PX.mono (e_86.trans e_101) fr_6 h) hm (fun I_110 H_111 e_112 s_113 hm => ?_) (fun I_114 H_115 e_116 s_117 hm => ?_)
        · refine q_ret (tz := tNext) (E := E) (K := K) (σ := [some v_rows, some v_which, some (.ref a_92)]) (x_tup (a_cons (x_str (by decide +kernel)) (a_one (x_at (Cg.up (e_101.trans e_112) cg_88) (by rfl)))) (Nat.le_of_ble_eq_true rfl)) s_113 (fun _ _ h => PX.mono (e_86.trans (e_101.trans e_112)) fr_6 h) hm fun a_118 v_119 I_120 H_121 e_122 s_123 r_124 hm => ?_
          exact hm v_119 I_120 H_121 (e_86.trans (e_101.trans (e_112.trans e_122))) (St.less s_123 fr_6) (Im.im r_124)
        · refine q_ret (tz := tNext) (E := E) (K := K) (σ := [some v_rows, some v_which, some (.ref a_92)]) (x_tup (a_cons (x_str (by decide +kernel)) (a_one (x_int (i := 0)))) (Nat.le_of_ble_eq_true rfl)) s_117 (fun _ _ h => PX.mono (e_86.trans (e_101.trans e_116)) fr_6 h) hm fun a_125 v_126 I_127 H_128 e_129 s_130 r_131 hm => ?_
          exact hm v_126 I_127 H_128 (e_86.trans (e_101.trans (e_116.trans e_129))) (St.less s_130 fr_6) (Im.im r_131)
    subst hs_7
    refine q_ret (tz := tNext) (E := E) (K := K) (σ := [some v_rows, some v_which, w_8]) (x_tup (a_cons (x_str (by decide +kernel)) (a_one (x_int (i := 0)))) (Nat.le_of_ble_eq_true rfl)) s_136 (fun _ _ h => PX.mono e_135 fr_11 h) hm fun a_137 v_138 I_139 H_140 e_141 s_142 r_143 hm => ?_
    exact hm v_138 I_139 H_140 (e_135.trans e_141) (St.less s_142 fr_11) (Im.im r_143)
def m__law_refused_right (ar_rows : (List (Int × Int))) (a_pool : Pl) : Res (Bool × Pl) :=
  ((bin rCatR (Res.ok ar_rows) ((un rng1 (bin rSub (Res.ok (24 : Int)) (un rLen (Res.ok ar_rows)))).bind (mapR (fun (x_1 : Int) => (pair (Res.ok x_1) (Res.ok (1 : Int))))))).bind fun (full_8 : (List (Int × Int))) => (((binM ix (liftM (consR (pair (Res.ok (0 : Int)) (Res.ok (0 : Int))) (consR (pair (un rNeg (Res.ok (1 : Int))) (Res.ok (5 : Int))) (consR (pair (Res.ok (5 : Int)) (un rNeg (Res.ok (1 : Int)))) (consR (pair (Res.ok (100001 : Int)) (Res.ok (0 : Int))) (consR (pair (Res.ok (0 : Int)) (Res.ok (100001 : Int))) (consR (pair (un rNeg (Res.ok (3 : Int))) (Res.ok (4 : Int))) (Res.ok [])))))))) (callM m__law_take (liftM (Res.ok (6 : Int))))) a_pool).bind fun (bad_15 : (Int × Int) × Pl) => (((callM m__law_take (liftM (Res.ok (24 : Int)))) bad_15.2).bind fun (at_28 : Int × Pl) => (((callM (fun (p : (Int × Int)) => m__law_from p.1 p.2) (liftM (pair (Res.ok at_28.1) (Res.ok (23 : Int))))) at_28.2).bind fun (later_41 : Int × Pl) => ((bin rCatR (bin rCatR (slR (Res.ok full_8) (Res.ok none) (someR (Res.ok at_28.1))) (consR (Res.ok bad_15.1) (Res.ok []))) (slR (Res.ok full_8) (someR (bin rAdd (Res.ok at_28.1) (Res.ok (1 : Int)))) (Res.ok none))).bind fun (spoilt_54 : (List (Int × Int))) => ((bin rCatR (bin rCatR (slR (Res.ok spoilt_54) (Res.ok none) (someR (Res.ok later_41.1))) (consR (pair (Res.ok (0 : Int)) (Res.ok (0 : Int))) (Res.ok []))) (slR (Res.ok spoilt_54) (someR (bin rAdd (Res.ok later_41.1) (Res.ok (1 : Int)))) (Res.ok none))).bind fun (both_61 : (List (Int × Int))) => (((un rng1 (Res.ok (6 : Int))).bind fun xs => loopR (fun (x_75 : Int) (z_68 : Unit) => (ifR (orR (bin neR (un (fun (p : ((List (Int × Int)) × Int)) => m__law_refused p.1 p.2) (pair (Res.ok full_8) (Res.ok x_75))) (pair (Res.ok ("none" : Str)) (Res.ok (0 : Int)))) (bin neR (un (fun (p : ((List (Int × Int)) × Int)) => m__law_refused p.1 p.2) (pair (Res.ok ([] : List (Int × Int))) (Res.ok x_75))) (pair (Res.ok ("signals" : Str)) (Res.ok (0 : Int))))) ((Res.ok false).bind fun a_95 => Res.ok (Out.rt (a_95, later_41.2))) (ifR (orR (bin neR (un (fun (p : ((List (Int × Int)) × Int)) => m__law_refused p.1 p.2) (pair (Res.ok spoilt_54) (Res.ok x_75))) (pair (Res.ok ("signals" : Str)) (Res.ok at_28.1))) (bin neR (un (fun (p : ((List (Int × Int)) × Int)) => m__law_refused p.1 p.2) (pair (Res.ok both_61) (Res.ok x_75))) (pair (Res.ok ("signals" : Str)) (Res.ok at_28.1)))) ((Res.ok false).bind fun a_110 => Res.ok (Out.rt (a_110, later_41.2))) (ifR (orR (bin neR (un (fun (p : ((List (Int × Int)) × Int)) => m__law_refused p.1 p.2) (pair (bin rCatR (Res.ok full_8) (consR (pair (Res.ok (1 : Int)) (Res.ok (1 : Int))) (Res.ok []))) (Res.ok x_75))) (pair (Res.ok ("many" : Str)) (Res.ok (24 : Int)))) (bin neR (un (fun (p : ((List (Int × Int)) × Int)) => m__law_refused p.1 p.2) (pair (bin rCatR (Res.ok both_61) (consR (pair (Res.ok (0 : Int)) (Res.ok (0 : Int))) (Res.ok []))) (Res.ok x_75))) (pair (Res.ok ("many" : Str)) (Res.ok (24 : Int))))) ((Res.ok false).bind fun a_125 => Res.ok (Out.rt (a_125, later_41.2))) (Res.ok (Out.nx ())))))) xs ()).bind fun (o : Out Unit (Bool × Pl)) => match o with | .nx z_137 => ((bin (fun _ _ => Res.ok true) (un m_check_groups (Res.ok full_8)) (Res.ok ())).bind fun a_144 => Res.ok (a_144, later_41.2)) | .br _ => Res.bad | .rt r => Res.ok r)))))))
abbrev N__law_refused_right : List Str := ["pool", "rows", "full", "bad", "at", "later", "spoilt", "both", "which", "k"]
theorem sc__law_refused_right : FnScope N__law_refused_right ["pool", "rows"] (defScope s__law_refused_right) := ⟨rfl, rfl, rfl, by decide +kernel, rfl, by decide +kernel, by decide +kernel⟩
theorem bind__law_refused_right {K : PySem.W.Frag} {mg : Str → Option Value} {T : Tx K mg} : Binds K T.d__law_refused_right ["pool", "rows"] [] := FunD.bindsN T.F__law_refused_right fun _ _ _ _ _ _ us hl => match us, hl with | [_, _], _ => rfl
abbrev sp__law_refused_right (K : PySem.W.Frag) : Sp := spM pM (t1 (pL (pT (tc pI (t1 pI))))) m__law_refused_right pB
theorem ok__law_refused_right (T : Tx K mg) : FnOk P w K mg base (L2.CX P w) 8 T.f__law_refused_right T.d__law_refused_right ["pool", "rows"] (sp__law_refused_right K) := by
  refine T.F__law_refused_right.ok sc__law_refused_right (fun vs H Q E h => ?_) (fun cdv A outer s H vs Q E hr h => ?_)
  · obtain ⟨I, C, p, ws, us, x, a, rfl, _, _, _, hr, _⟩ := h
    exact congrArg (· + 1) (Rt.len _ hr)
  · obtain ⟨I0, C0, p0, ws0, us, a_pool, ar_rows, rfl, hs, hc0, hx1, ⟨v_rows, rfl, r_rows⟩, hm⟩ := h
    have hx0 := It.im (C' := Z) hx1
    have hm : Post (m__law_refused_right ar_rows a_pool) (PM p0 pM pB I0 C0 Q) XF := hm
    replace r_rows : Rp.r (pL (pT (tc pI (t1 pI)))) ar_rows v_rows I0 Z := Im.im r_rows
    unfold m__law_refused_right at hm
    refine ⟨_, (pss_cons (ps_set (i := 2) sc__law_refused_right.nd rfl (Or.inl rfl) (pe_op op_cat (pv 1) (pe_lc (own := [("k", 9)]) rfl sc__law_refused_right.nd (pi_range1 (by rfl) T.gb_range (pa_cons (pe_op op_sub pe_int (pe_callB (r := rLen1 K) call_len_seq (by rfl) T.gb_len bt_len (pa_cons (pv 1) pa_nil))) pa_nil)) (blkOk_by (own := [("k", 9)]) (N := N__law_refused_right) (sc := defScope s__law_refused_right) (by decide +kernel)) (fun _ _ _ _ _ => (pg_name (i := 9) sc__law_refused_right.nd rfl (Or.inl rfl))) (fun _ _ _ _ _ => pts_nil) (fun _ _ _ _ _ => (pe_tup (pa_cons (pv 9) (pa_cons pe_int pa_nil))))))) (pss_cons (ps_set (i := 3) sc__law_refused_right.nd rfl (Or.inl rfl) (pe_ix (r := rIxL K) ix_list (pe_lst (pa_cons (pe_tup (pa_cons pe_int (pa_cons pe_int pa_nil))) (pa_cons (pe_tup (pa_cons (pe_un un_neg pe_int) (pa_cons pe_int pa_nil))) (pa_cons (pe_tup (pa_cons pe_int (pa_cons (pe_un un_neg pe_int) pa_nil))) (pa_cons (pe_tup (pa_cons pe_int (pa_cons pe_int pa_nil))) (pa_cons (pe_tup (pa_cons pe_int (pa_cons pe_int pa_nil))) (pa_cons (pe_tup (pa_cons (pe_un un_neg pe_int) (pa_cons pe_int pa_nil))) pa_nil))))))) (pe_call (ok__law_take T) (hr.mono (by decide)) rfl T.g__law_take T.F__law_take.kp bind__law_take .nil passE (pa_cons (pv 0) (pa_cons pe_int pa_nil))) (fun _ _ => rfl))) (pss_cons (ps_set (i := 4) sc__law_refused_right.nd rfl (Or.inl rfl) (pe_call (ok__law_take T) (hr.mono (by decide)) rfl T.g__law_take T.F__law_take.kp bind__law_take .nil passE (pa_cons (pv 0) (pa_cons pe_int pa_nil)))) (pss_cons (ps_set (i := 5) sc__law_refused_right.nd rfl (Or.inl rfl) (pe_call (ok__law_from T) (hr.mono (by decide)) rfl T.g__law_from T.F__law_from.kp bind__law_from .nil passE (pa_cons (pv 0) (pa_cons (pv 4) (pa_cons pe_int pa_nil))))) (pss_cons (ps_set (i := 6) sc__law_refused_right.nd rfl (Or.inl rfl) (pe_op op_cat (pe_op op_cat (pe_slice (r := rSlL K) sl_list (pv 2) po_none (po_some (pv 4))) (pe_lst (pa_cons (pv 3) pa_nil))) (pe_slice (r := rSlL K) sl_list (pv 2) (po_some (pe_op op_add (pv 4) pe_int)) po_none))) (pss_cons (ps_set (i := 7) sc__law_refused_right.nd rfl (Or.inl rfl) (pe_op op_cat (pe_op op_cat (pe_slice (r := rSlL K) sl_list (pv 6) po_none (po_some (pv 5))) (pe_lst (pa_cons (pe_tup (pa_cons pe_int (pa_cons pe_int pa_nil))) pa_nil))) (pe_slice (r := rSlL K) sl_list (pv 6) (po_some (pe_op op_add (pv 5) pe_int)) po_none))) (pss_cons (ps_for (passes_of rfl) rfl (pi_range1 (by rfl) T.gb_range (pa_cons pe_int pa_nil)) (pg_name (i := 8) sc__law_refused_right.nd rfl (Or.inl rfl)) (pss_cons (ps_if (PW.pt (pw_or (pt_cmpR (r := rNeD K) (op_neD hr.units) (pe_call (ok__law_refused T) (hr.mono (by decide)) rfl T.g__law_refused T.F__law_refused.kp bind__law_refused .nil passE (pa_cons (pv 2) (pa_cons (pv 8) pa_nil))) (pe_tup (pa_cons pe_str (pa_cons pe_int pa_nil))) (nomark _)) (pw_or1 (pt_cmpR (r := rNeD K) (op_neD hr.units) (pe_call (ok__law_refused T) (hr.mono (by decide)) rfl T.g__law_refused T.F__law_refused.kp bind__law_refused .nil passE (pa_cons (pe_lst pa_nil) (pa_cons (pv 8) pa_nil))) (pe_tup (pa_cons pe_str (pa_cons pe_int pa_nil))) (nomark _))))) (pss_cons (ps_ret pe_bl) pss_nil) pss_nil) (pss_cons (ps_if (PW.pt (pw_or (pt_cmpR (r := rNeD K) (op_neD hr.units) (pe_call (ok__law_refused T) (hr.mono (by decide)) rfl T.g__law_refused T.F__law_refused.kp bind__law_refused .nil passE (pa_cons (pv 6) (pa_cons (pv 8) pa_nil))) (pe_tup (pa_cons pe_str (pa_cons (pv 4) pa_nil))) (nomark _)) (pw_or1 (pt_cmpR (r := rNeD K) (op_neD hr.units) (pe_call (ok__law_refused T) (hr.mono (by decide)) rfl T.g__law_refused T.F__law_refused.kp bind__law_refused .nil passE (pa_cons (pv 7) (pa_cons (pv 8) pa_nil))) (pe_tup (pa_cons pe_str (pa_cons (pv 4) pa_nil))) (nomark _))))) (pss_cons (ps_ret pe_bl) pss_nil) pss_nil) (pss_cons (ps_if (PW.pt (pw_or (pt_cmpR (r := rNeD K) (op_neD hr.units) (pe_call (ok__law_refused T) (hr.mono (by decide)) rfl T.g__law_refused T.F__law_refused.kp bind__law_refused .nil passE (pa_cons (pe_op op_cat (pv 2) (pe_lst (pa_cons (pe_tup (pa_cons pe_int (pa_cons pe_int pa_nil))) pa_nil))) (pa_cons (pv 8) pa_nil))) (pe_tup (pa_cons pe_str (pa_cons pe_int pa_nil))) (nomark _)) (pw_or1 (pt_cmpR (r := rNeD K) (op_neD hr.units) (pe_call (ok__law_refused T) (hr.mono (by decide)) rfl T.g__law_refused T.F__law_refused.kp bind__law_refused .nil passE (pa_cons (pe_op op_cat (pv 7) (pe_lst (pa_cons (pe_tup (pa_cons pe_int (pa_cons pe_int pa_nil))) pa_nil))) (pa_cons (pv 8) pa_nil))) (pe_tup (pa_cons pe_str (pa_cons pe_int pa_nil))) (nomark _))))) (pss_cons (ps_ret pe_bl) pss_nil) pss_nil) pss_nil)))) (pss_cons (ps_ret (pe_cmpR op_isN (pe_call (ok_check_groups T) (hr.mono (by decide)) rfl T.g_check_groups T.F_check_groups.kp bind_check_groups .nil passE (pa_cons (pv 2) pa_nil)) pe_non (nomark _))) pss_nil)))))))), ?_⟩
    refine q_asg (E := E) (K := K) (σ := [some (.ref p0), some v_rows, none, none, none, none, none, none, none, none]) (i := 2) (x_op o_cat (x_v (x_var (i := 1) rfl (Rp.mono _ (Ex.refl _) exz r_rows))) (x_v (x_lc (i_rng1 (a_one (x_op o_sub (x_int (i := 24)) (x_cb o_len (a_one (x_v (x_var (i := 1) rfl (Rp.mono _ (Ex.refl _) exz r_rows)))))))) g1 (fun _ _ _ _ ⟨_, h, _⟩ => by rw [h]; rfl) (fun x_1 σ2 I_2 C_3 e_4 c_5 ⟨v_6, h, r_7⟩ => by subst h; exact (x_tup (a_cons (x_var (i := 9) rfl (Rp.mono _ (Ex.refl _) exz r_7)) (a_one (x_int (i := 1)))) (Nat.le_of_ble_eq_true rfl))) (fun _ _ _ _ _ e ⟨v_6, h, r_7⟩ => ⟨v_6, h, Rp.mono _ e exz r_7⟩)))) hs (fun _ _ h => h.elim) hm fun full_8 v_9 I_10 H_11 e_12 s_13 r_14 hm => ?_
    refine qm_asg (E := E) (K := K) (σ := [some (.ref p0), some v_rows, some v_9, none, none, none, none, none, none, none]) (i := 3) (m_op (fun _ => (Op2.ofL o_ix)) off_same (m_pure (x_lst (al_cons (x_tup (a_cons (x_int (i := 0)) (a_one (x_int (i := 0)))) (Nat.le_of_ble_eq_true rfl)) (al_cons (x_tup (a_cons (x_un o_neg (x_int (i := 1))) (a_one (x_int (i := 5)))) (Nat.le_of_ble_eq_true rfl)) (al_cons (x_tup (a_cons (x_int (i := 5)) (a_one (x_un o_neg (x_int (i := 1))))) (Nat.le_of_ble_eq_true rfl)) (al_cons (x_tup (a_cons (x_int (i := 100001)) (a_one (x_int (i := 0)))) (Nat.le_of_ble_eq_true rfl)) (al_cons (x_tup (a_cons (x_int (i := 0)) (a_one (x_int (i := 100001)))) (Nat.le_of_ble_eq_true rfl)) (al_cons (x_tup (a_cons (x_un o_neg (x_int (i := 3))) (a_one (x_int (i := 4)))) (Nat.le_of_ble_eq_true rfl)) al_nil)))))) (Nat.le_of_ble_eq_true rfl))) (m_callM (i := 0) rfl (am_pure (a_one (x_int (i := 6)))))) s_13 hc0 (Rt.mono _ e_12 exz hx0) hm fun bad_15 v_16 ws_22 I_17 C_23 H_18 e_19 s_20 hc_24 k_25 hx_26 r_21 hm => ?_
    have fr_27 := fr_pool (off_ex (C := C0) (p := p0)) k_25
    refine qm_asg (E := E) (K := K) (σ := [some (.ref p0), some v_rows, some v_9, some v_16, none, none, none, none, none, none]) (i := 4) (m_callM (i := 0) rfl (am_pure (a_one (x_int (i := 24))))) s_20 hc_24 (Rt.mono _ (Ex.refl _) exz hx_26) hm fun at_28 v_29 ws_35 I_30 C_36 H_31 e_32 s_33 hc_37 k_38 hx_39 r_34 hm => ?_
    have fr_40 := fr_pool fr_27 k_38
    refine qm_asg (E := E) (K := K) (σ := [some (.ref p0), some v_rows, some v_9, some v_16, some v_29, none, none, none, none, none]) (i := 5) (m_callM (i := 0) rfl (am_pure (a_cons (x_var (i := 4) rfl (Rp.mono _ (Ex.refl _) exz r_34)) (a_one (x_int (i := 23)))))) s_33 hc_37 (Rt.mono _ (Ex.refl _) exz hx_39) hm fun later_41 v_42 ws_48 I_43 C_49 H_44 e_45 s_46 hc_50 k_51 hx_52 r_47 hm => ?_
    have fr_53 := fr_pool fr_40 k_51
    refine q_asg (E := E) (K := K) (σ := [some (.ref p0), some v_rows, some v_9, some v_16, some v_29, some v_42, none, none, none, none]) (i := 6) (x_op o_cat (x_v (x_op o_cat (x_v (x_sl (x_v (x_var (i := 2) rfl (Rp.mono _ (e_19.trans (e_32.trans e_45)) exz r_14))) p_none (p_some (x_var (i := 4) rfl (Rp.mono _ e_45 exz r_34))))) (x_v (x_lst (al_cons (x_var (i := 3) rfl (Rp.mono _ (e_32.trans e_45) exz r_21)) al_nil) (Nat.le_of_ble_eq_true rfl))))) (x_v (x_sl (x_v (x_var (i := 2) rfl (Rp.mono _ (e_19.trans (e_32.trans e_45)) exz r_14))) (p_some (x_op o_add (x_var (i := 4) rfl (Rp.mono _ e_45 exz r_34)) (x_int (i := 1)))) p_none))) s_46 (fun _ _ h => h.elim) hm fun spoilt_54 v_55 I_56 H_57 e_58 s_59 r_60 hm => ?_
    refine q_asg (E := E) (K := K) (σ := [some (.ref p0), some v_rows, some v_9, some v_16, some v_29, some v_42, some v_55, none, none, none]) (i := 7) (x_op o_cat (x_v (x_op o_cat (x_v (x_sl (x_v (x_var (i := 6) rfl (Rp.mono _ (Ex.refl _) exz r_60))) p_none (p_some (x_var (i := 5) rfl (Rp.mono _ e_58 exz r_47))))) (x_v (x_lst (al_cons (x_tup (a_cons (x_int (i := 0)) (a_one (x_int (i := 0)))) (Nat.le_of_ble_eq_true rfl)) al_nil) (Nat.le_of_ble_eq_true rfl))))) (x_v (x_sl (x_v (x_var (i := 6) rfl (Rp.mono _ (Ex.refl _) exz r_60))) (p_some (x_op o_add (x_var (i := 5) rfl (Rp.mono _ e_58 exz r_47)) (x_int (i := 1)))) p_none))) s_59 (fun _ _ h => h.elim) hm fun both_61 v_62 I_63 H_64 e_65 s_66 r_67 hm => ?_
    refine s_forR (E := E) (K := K) (σ := [some (.ref p0), some v_rows, some v_9, some v_16, some v_29, some v_42, some v_55, some v_62, none, none]) (fun (z_68 : Unit) σ2 I_71 C_72 => ∃ w_70 : Option V, σ2 = [some (.ref p0), some v_rows, some v_9, some v_16, some v_29, some v_42, some v_55, some v_62, w_70, none] ∧ C_72 p0 = some (.lst ws_48) ∧ Ex (off C0 p0) C_72) (i_rng1 (a_one (x_int (i := 6)))) s_66 (fun _ _ h => h.elim) hm (fun _ e_83 => ⟨none, rfl, hc_50, fr_53⟩) (fun _ _ _ _ _ => trivial) (fun _ _ _ _ _ e ⟨w_70, hs_69, hc_73, fr_74⟩ => ⟨w_70, hs_69, hc_73, fr_74⟩) (fun N x_75 v_76 z_68 σ2 I_77 C_78 H_79 e_80 s_81 ⟨w_70, hs_69, hc_73, fr_74⟩ r_82 hm => ?_) (fun z_137 σ2 I_132 C_133 H_134 e_135 s_136 ⟨w_139, hs_138, hc_142, fr_143⟩ hm => ?_)
    · subst hs_69
      refine g1 (K := K) x_75 v_76 I_77 C_78 H_79 _ s_81 r_82 fun σ2 ⟨v_84, hs_86, r_85⟩ => ?_
      subst hs_86
      refine s_if (E := E) (K := K) (σ := [some (.ref p0), some v_rows, some v_9, some v_16, some v_29, some v_42, some v_55, some v_62, some v_84, none]) (t_or (t_test (x_op (o_neD (de_tup (dt_cons de_str (dt_one de_int))) (de_tup (dt_cons de_str (dt_one de_int))) (by decide)) (x_call (a_cons (x_var (i := 2) rfl (Rp.mono _ (e_19.trans (e_32.trans (e_45.trans (e_58.trans (e_65.trans e_80))))) exz r_14)) (a_one (x_var (i := 8) rfl (Rp.mono _ (Ex.refl _) exz r_85))))) (x_tup (a_cons (x_str (by decide +kernel)) (a_one (x_int (i := 0)))) (Nat.le_of_ble_eq_true rfl)))) (t_test (x_op (o_neD (de_tup (dt_cons de_str (dt_one de_int))) (de_tup (dt_cons de_str (dt_one de_int))) (by decide)) (x_call (a_cons (x_lst (R := (pT (tc pI (t1 pI)))) al_nil (by decide)) (a_one (x_var (i := 8) rfl (Rp.mono _ (Ex.refl _) exz r_85))))) (x_tup (a_cons (x_str (by decide +kernel)) (a_one (x_int (i := 0)))) (Nat.le_of_ble_eq_true rfl))))) s_81 (fun _ _ h => h.elim) hm (fun I_87 H_88 e_89 s_90 hm => ?_) (fun I_91 H_92 e_93 s_94 hm => ?_)
      · refine q_ret (tz := tNext) (E := E) (K := K) (σ := [some (.ref p0), some v_rows, some v_9, some v_16, some v_29, some v_42, some v_55, some v_62, some v_84, none]) x_bl s_90 (fun _ _ h => h.elim) hm fun a_95 v_96 I_97 H_98 e_99 s_100 r_101 hm => ?_
        exact ret_pool hm (e_12.trans (e_19.trans (e_32.trans (e_45.trans (e_58.trans (e_65.trans (e_80.trans (e_89.trans e_99)))))))) fr_74 s_100 hc_73 (Rt.mono _ (e_58.trans (e_65.trans (e_80.trans (e_89.trans e_99)))) exz hx_52) r_101
      · refine s_if (E := E) (K := K) (σ := [some (.ref p0), some v_rows, some v_9, some v_16, some v_29, some v_42, some v_55, some v_62, some v_84, none]) (t_or (t_test (x_op (o_neD (de_tup (dt_cons de_str (dt_one de_int))) (de_tup (dt_cons de_str (dt_one de_int))) (by decide)) (x_call (a_cons (x_var (i := 6) rfl (Rp.mono _ (e_65.trans (e_80.trans e_93)) exz r_60)) (a_one (x_var (i := 8) rfl (Rp.mono _ e_93 exz r_85))))) (x_tup (a_cons (x_str (by decide +kernel)) (a_one (x_var (i := 4) rfl (Rp.mono _ (e_45.trans (e_58.trans (e_65.trans (e_80.trans e_93)))) exz r_34)))) (Nat.le_of_ble_eq_true rfl)))) (t_test (x_op (o_neD (de_tup (dt_cons de_str (dt_one de_int))) (de_tup (dt_cons de_str (dt_one de_int))) (by decide)) (x_call (a_cons (x_var (i := 7) rfl (Rp.mono _ (e_80.trans e_93) exz r_67)) (a_one (x_var (i := 8) rfl (Rp.mono _ e_93 exz r_85))))) (x_tup (a_cons (x_str (by decide +kernel)) (a_one (x_var (i := 4) rfl (Rp.mono _ (e_45.trans (e_58.trans (e_65.trans (e_80.trans e_93)))) exz r_34)))) (Nat.le_of_ble_eq_true rfl))))) s_94 (fun _ _ h => h.elim) hm (fun I_102 H_103 e_104 s_105 hm => ?_) (fun I_106 H_107 e_108 s_109 hm => ?_)
        · refine q_ret (tz := tNext) (E := E) (K := K) (σ := [some (.ref p0), some v_rows, some v_9, some v_16, some v_29, some v_42, some v_55, some v_62, some v_84, none]) x_bl s_105 (fun _ _ h => h.elim) hm fun a_110 v_111 I_112 H_113 e_114 s_115 r_116 hm => ?_
          exact ret_pool hm (e_12.trans (e_19.trans (e_32.trans (e_45.trans (e_58.trans (e_65.trans (e_80.trans (e_93.trans (e_104.trans e_114))))))))) fr_74 s_115 hc_73 (Rt.mono _ (e_58.trans (e_65.trans (e_80.trans (e_93.trans (e_104.trans e_114))))) exz hx_52) r_116
        · refine s_if (E := E) (K := K) (σ := [some (.ref p0), some v_rows, some v_9, some v_16, some v_29, some v_42, some v_55, some v_62, some v_84, none]) (t_or (t_test (x_op (o_neD (de_tup (dt_cons de_str (dt_one de_int))) (de_tup (dt_cons de_str (dt_one de_int))) (by decide)) (x_call (a_cons (x_op o_cat (x_v (x_var (i := 2) rfl (Rp.mono _ (e_19.trans (e_32.trans (e_45.trans (e_58.trans (e_65.trans (e_80.trans (e_93.trans e_108))))))) exz r_14))) (x_v (x_lst (al_cons (x_tup (a_cons (x_int (i := 1)) (a_one (x_int (i := 1)))) (Nat.le_of_ble_eq_true rfl)) al_nil) (Nat.le_of_ble_eq_true rfl)))) (a_one (x_var (i := 8) rfl (Rp.mono _ (e_93.trans e_108) exz r_85))))) (x_tup (a_cons (x_str (by decide +kernel)) (a_one (x_int (i := 24)))) (Nat.le_of_ble_eq_true rfl)))) (t_test (x_op (o_neD (de_tup (dt_cons de_str (dt_one de_int))) (de_tup (dt_cons de_str (dt_one de_int))) (by decide)) (x_call (a_cons (x_op o_cat (x_v (x_var (i := 7) rfl (Rp.mono _ (e_80.trans (e_93.trans e_108)) exz r_67))) (x_v (x_lst (al_cons (x_tup (a_cons (x_int (i := 0)) (a_one (x_int (i := 0)))) (Nat.le_of_ble_eq_true rfl)) al_nil) (Nat.le_of_ble_eq_true rfl)))) (a_one (x_var (i := 8) rfl (Rp.mono _ (e_93.trans e_108) exz r_85))))) (x_tup (a_cons (x_str (by decide +kernel)) (a_one (x_int (i := 24)))) (Nat.le_of_ble_eq_true rfl))))) s_109 (fun _ _ h => h.elim) hm (fun I_117 H_118 e_119 s_120 hm => ?_) (fun I_121 H_122 e_123 s_124 hm => ?_)
          · refine q_ret (tz := tNext) (E := E) (K := K) (σ := [some (.ref p0), some v_rows, some v_9, some v_16, some v_29, some v_42, some v_55, some v_62, some v_84, none]) x_bl s_120 (fun _ _ h => h.elim) hm fun a_125 v_126 I_127 H_128 e_129 s_130 r_131 hm => ?_
            exact ret_pool hm (e_12.trans (e_19.trans (e_32.trans (e_45.trans (e_58.trans (e_65.trans (e_80.trans (e_93.trans (e_108.trans (e_119.trans e_129)))))))))) fr_74 s_130 hc_73 (Rt.mono _ (e_58.trans (e_65.trans (e_80.trans (e_93.trans (e_108.trans (e_119.trans e_129)))))) exz hx_52) r_131
          · exact hm _ _ _ _ (e_93.trans (e_108.trans e_123)) s_124 ⟨some v_84, rfl, hc_73, fr_74⟩
    subst hs_138
    refine q_ret (tz := tNext) (E := E) (K := K) (σ := [some (.ref p0), some v_rows, some v_9, some v_16, some v_29, some v_42, some v_55, some v_62, w_139, none]) (x_op o_isNU (x_call (a_one (x_var (i := 2) rfl (Rp.mono _ (e_19.trans (e_32.trans (e_45.trans (e_58.trans (e_65.trans e_135))))) exz r_14)))) x_non) s_136 (fun _ _ h => h.elim) hm fun a_144 v_145 I_146 H_147 e_148 s_149 r_150 hm => ?_
    exact ret_pool hm (e_12.trans (e_19.trans (e_32.trans (e_45.trans (e_58.trans (e_65.trans (e_135.trans e_148))))))) fr_143 s_149 hc_142 (Rt.mono _ (e_58.trans (e_65.trans (e_135.trans e_148))) exz hx_52) r_150
def m_law (a_script : List Int) : Res Bool :=
  ((poolR a_script).bind fun (pool_10 : Pl) => (((m__law_groups ()) pool_10).bind fun (rows_11 : (List (Int × Int)) × Pl) => ((un idR (Res.ok rows_11.1)).bind fun (passed_23 : (List (Int × Int))) => ((un m_rising_blocks (Res.ok passed_23)).bind fun (told_30 : (List (Int × Int))) => (ifR (orR (un notR (un m__law_are_pairs (Res.ok told_30))) (un notR (un (fun (p : ((List (Int × Int)) × (List (Int × Int)))) => m__law_is_division p.1 p.2) (pair (Res.ok rows_11.1) (Res.ok told_30))))) ((Res.ok false).bind fun a_54 => Res.ok a_54) ((un idR (Res.ok told_30)).bind fun (right_61 : (List (Int × Int))) => ((((binM rCatR (liftM (consR (Res.ok right_61) (Res.ok []))) (callM (fun (p : (Int × (List (Int × Int)))) => m__law_divisions p.1 p.2) (liftM (pair (un rLen (Res.ok rows_11.1)) (Res.ok right_61))))) rows_11.2).bind fun b => loopR (fun (x_80 : (List (Int × Int))) (z_68 : Pl) => ((un idR (Res.ok x_80)).bind fun (kept_100 : (List (Int × Int))) => ((un (fun (p : ((List (Int × Int)) × (List (Int × Int)))) => m_is_rising p.1 p.2) (pair (Res.ok passed_23) (Res.ok kept_100))).bind fun (answer_107 : Bool) => (ifR (orR (un notR (un (fun _ => Res.ok true) (pair (Res.ok answer_107) (Res.ok ())))) (orR (bin neR (Res.ok answer_107) (un (fun (p : ((List (Int × Int)) × (List (Int × Int)))) => m__law_is_division p.1 p.2) (pair (Res.ok rows_11.1) (Res.ok x_80)))) (bin neR (Res.ok kept_100) (Res.ok x_80)))) ((Res.ok false).bind fun a_122 => Res.ok (Out.rt a_122)) (Res.ok (Out.nx z_68)))))) b.1 ((fun (y_89 : Pl) => y_89) b.2)).bind fun (o : Out Pl Bool) => match o with | .nx z_134 => ((un m_rising_chances (Res.ok passed_23)).bind fun (chances_146 : (List (Int × Int))) => (ifR (orR (un notR (un (fun _ => Res.ok true) (pair (Res.ok chances_146) (Res.ok ())))) (bin neR (un rLen (Res.ok chances_146)) (un rLen (Res.ok rows_11.1)))) ((Res.ok false).bind fun a_172 => Res.ok a_172) (((un rng1 (un rLen (Res.ok rows_11.1))).bind fun xs => loopR (fun (x_188 : Int) (z_179 : Unit) => (ifR (un notR (un (fun (p : ((Int × Int) × (Int × Int))) => m__law_is_ratio p.1 p.2) (pair (bin ix (Res.ok chances_146) (Res.ok x_188)) (un (fun (p : ((List (Int × Int)) × Int)) => m__law_chance p.1 p.2) (pair (Res.ok rows_11.1) (Res.ok x_188)))))) ((Res.ok false).bind fun a_208 => Res.ok (Out.rt a_208)) (Res.ok (Out.nx ())))) xs ()).bind fun (o : Out Unit Bool) => match o with | .nx z_220 => (((Res.ok right_61).bind fun xs => loopR (fun (x_239 : (Int × Int)) (z_229 : Unit) => (((un rng2 (pair (un (fun p => Res.ok p.1) (Res.ok x_239)) (un (fun p => Res.ok p.2) (Res.ok x_239)))).bind fun xs => loopR (fun (x_260 : Int) (z_251 : Unit) => (ifR (un notR (un (fun (p : ((Int × Int) × (Int × Int))) => m__law_is_ratio p.1 p.2) (pair (bin ix (Res.ok chances_146) (Res.ok x_260)) (un (fun (p : ((List (Int × Int)) × Int × Int)) => m__law_share p.1 p.2.1 p.2.2) (pair (Res.ok rows_11.1) (pair (un (fun p => Res.ok p.1) (Res.ok x_239)) (un (fun p => Res.ok p.2) (Res.ok x_239)))))))) ((Res.ok false).bind fun a_280 => Res.ok (Out.rt a_280)) (Res.ok (Out.nx ())))) xs ()).bind fun (o : Out Unit Bool) => match o with | .nx z_292 => (Res.ok (Out.nx ())) | .br _ => Res.bad | .rt r => Res.ok (Out.rt r))) xs ()).bind fun (o : Out Unit Bool) => match o with | .nx z_306 => (((un rng1 (Res.ok (6 : Int))).bind fun xs => loopR (fun (x_328 : Int) (z_316 : Pl) => (((callM m__law_take (liftM (un rLen (Res.ok rows_11.1)))) z_316).bind fun (k_340 : Int × Pl) => (ifR (orR (un notR (un (fun (p : ((Int × Int) × (Int × Int))) => m__law_is_ratio p.1 p.2) (pair (un (fun (p : ((List (Int × Int)) × Int)) => m_max_min p.1 p.2) (pair (Res.ok passed_23) (Res.ok k_340.1))) (bin ix (Res.ok chances_146) (Res.ok k_340.1))))) (un notR (un (fun (p : ((Int × Int) × (Int × Int))) => m__law_is_ratio p.1 p.2) (pair (un (fun (p : ((List (Int × Int)) × Int)) => m_min_max p.1 p.2) (pair (Res.ok passed_23) (Res.ok k_340.1))) (bin ix (Res.ok chances_146) (Res.ok k_340.1)))))) ((Res.ok false).bind fun a_362 => Res.ok (Out.rt a_362)) (Res.ok (Out.nx k_340.2))))) xs z_134).bind fun (o : Out Pl Bool) => match o with | .nx z_374 => ((bin ix (Res.ok chances_146) (Res.ok (0 : Int))).bind fun (first_386 : (Int × Int)) => (((pair (Res.ok (0 : Int)) (Res.ok (0 : Int))).bind fun x => push told_30 x).bind fun (told_393 : (List (Int × Int))) => (((Res.ok first_386).bind fun x => push chances_146 x).bind fun (chances_406 : (List (Int × Int))) => (ifR (orR (bin neR (un m_rising_blocks (Res.ok passed_23)) (Res.ok right_61)) (orR (bin neR (un m_rising_chances (Res.ok passed_23)) (slR (Res.ok chances_406) (Res.ok none) (someR (un rNeg (Res.ok (1 : Int)))))) (bin neR (Res.ok passed_23) (Res.ok rows_11.1)))) ((Res.ok false).bind fun a_437 => Res.ok a_437) (((callM m__law_refused_right (liftM (Res.ok rows_11.1))) z_374).bind fun a_444 => Res.ok a_444.1))))) | .br _ => Res.bad | .rt r => Res.ok r) | .br _ => Res.bad | .rt r => Res.ok r) | .br _ => Res.bad | .rt r => Res.ok r))) | .br _ => Res.bad | .rt r => Res.ok r)))))))
abbrev N_law : List Str := ["script", "pool", "rows", "passed", "told", "right", "other", "kept", "answer", "chances", "k", "pair", "turn", "first"]
theorem sc_law : FnScope N_law ["script"] (defScope s_law) := ⟨rfl, rfl, rfl, by decide +kernel, rfl, by decide +kernel, by decide +kernel⟩
theorem ok_law (T : Tx K mg) : FnOk P w K mg base CX0 9 T.f_law T.d_law ["script"] (spLaw K m_law) := by
  refine T.F_law.ok sc_law (fun vs H Q E h => ?_) (fun cdv A outer s H vs Q E hr h => ?_)
  · obtain ⟨a, ns, rfl, _⟩ := h
    rfl
  · obtain ⟨a0, a_script, rfl, hS, hz, hm⟩ := h
    obtain ⟨I0, hs, r_script⟩ := law_start hS hz
    unfold m_law at hm
    refine ⟨_, (pss_cons (ps_set (i := 1) sc_law.nd rfl (Or.inl rfl) (pe_call (ok__law_pool T) (hr.mono (by decide)) rfl T.g__law_pool T.F__law_pool.kp bind__law_pool .nil passL (pa_cons (pv 0) pa_nil))) (pss_cons (ps_set (i := 2) sc_law.nd rfl (Or.inl rfl) (pe_call (ok__law_groups T) (hr.mono (by decide)) rfl T.g__law_groups T.F__law_groups.kp bind__law_groups .nil passL (pa_cons (pv 1) pa_nil))) (pss_cons (ps_set (i := 3) sc_law.nd rfl (Or.inl rfl) (pe_callTy (r := rList1 K) call_list_of (by rfl) T.gb_list bt_list (pa_cons (pv 2) pa_nil))) (pss_cons (ps_set (i := 4) sc_law.nd rfl (Or.inl rfl) (pe_call (ok_rising_blocks T) (hr.mono (by decide)) rfl T.g_rising_blocks T.F_rising_blocks.kp bind_rising_blocks .nil passL (pa_cons (pv 3) pa_nil))) (pss_cons (ps_if (PW.pt (pw_or (pt_not (pt_val (pe_call (ok__law_are_pairs T) (hr.mono (by decide)) rfl T.g__law_are_pairs T.F__law_are_pairs.kp bind__law_are_pairs .nil passL (pa_cons (pv 4) pa_nil)))) (pw_or1 (pt_not (pt_val (pe_call (ok__law_is_division T) (hr.mono (by decide)) rfl T.g__law_is_division T.F__law_is_division.kp bind__law_is_division .nil passL (pa_cons (pv 2) (pa_cons (pv 4) pa_nil)))))))) (pss_cons (ps_ret pe_bl) pss_nil) pss_nil) (pss_cons (ps_set (i := 5) sc_law.nd rfl (Or.inl rfl) (pe_callTy (r := rList1 K) call_list_of (by rfl) T.gb_list bt_list (pa_cons (pv 4) pa_nil))) (pss_cons (ps_for (passes_of rfl) rfl (show PI _ _ _ (iList K _) from pi_list (pe_op op_cat (pe_lst (pa_cons (pv 5) pa_nil)) (pe_call (ok__law_divisions T) (hr.mono (by decide)) rfl T.g__law_divisions T.F__law_divisions.kp bind__law_divisions .nil passL (pa_cons (pv 1) (pa_cons (pe_callB (r := rLen1 K) call_len_seq (by rfl) T.gb_len bt_len (pa_cons (pv 2) pa_nil)) (pa_cons (pv 5) pa_nil)))))) (pg_name (i := 6) sc_law.nd rfl (Or.inl rfl)) (pss_cons (ps_set (i := 7) sc_law.nd rfl (Or.inl rfl) (pe_callTy (r := rList1 K) call_list_of (by rfl) T.gb_list bt_list (pa_cons (pv 6) pa_nil))) (pss_cons (ps_set (i := 8) sc_law.nd rfl (Or.inl rfl) (pe_call (ok_is_rising T) (hr.mono (by decide)) rfl T.g_is_rising T.F_is_rising.kp bind_is_rising .nil passL (pa_cons (pv 3) (pa_cons (pv 7) pa_nil)))) (pss_cons (ps_if (PW.pt (pw_or (pt_not (pt_val (pe_callB (r := rIsi K) call_isi (by rfl) T.gb_isinstance bt_isinstance (pa_cons (pv 8) (pa_cons (pe_bltn (v := .ty "bool") rfl T.gb_bool bt_bool rfl) pa_nil))))) (pw_or (pt_cmpR op_ne (pv 8) (pe_call (ok__law_is_division T) (hr.mono (by decide)) rfl T.g__law_is_division T.F__law_is_division.kp bind__law_is_division .nil passL (pa_cons (pv 2) (pa_cons (pv 6) pa_nil))) (nomark _)) (pw_or1 (pt_cmpR (r := rNeD K) (op_neD hr.units) (pv 7) (pv 6) (nomark _)))))) (pss_cons (ps_ret pe_bl) pss_nil) pss_nil) pss_nil)))) (pss_cons (ps_set (i := 9) sc_law.nd rfl (Or.inl rfl) (pe_call (ok_rising_chances T) (hr.mono (by decide)) rfl T.g_rising_chances T.F_rising_chances.kp bind_rising_chances .nil passL (pa_cons (pv 3) pa_nil))) (pss_cons (ps_if (PW.pt (pw_or (pt_not (pt_val (pe_callB (r := rIsi K) call_isi (by rfl) T.gb_isinstance bt_isinstance (pa_cons (pv 9) (pa_cons (pe_bltn (v := .ty "list") rfl T.gb_list bt_list rfl) pa_nil))))) (pw_or1 (pt_cmpR op_ne (pe_callB (r := rLen1 K) call_len_seq (by rfl) T.gb_len bt_len (pa_cons (pv 9) pa_nil)) (pe_callB (r := rLen1 K) call_len_seq (by rfl) T.gb_len bt_len (pa_cons (pv 2) pa_nil)) (nomark _))))) (pss_cons (ps_ret pe_bl) pss_nil) pss_nil) (pss_cons (ps_for (passes_of rfl) rfl (pi_range1 (by rfl) T.gb_range (pa_cons (pe_callB (r := rLen1 K) call_len_seq (by rfl) T.gb_len bt_len (pa_cons (pv 2) pa_nil)) pa_nil)) (pg_name (i := 10) sc_law.nd rfl (Or.inl rfl)) (pss_cons (ps_if (pt_not (pt_val (pe_call (ok__law_is_ratio T) (hr.mono (by decide)) rfl T.g__law_is_ratio T.F__law_is_ratio.kp bind__law_is_ratio .nil passL (pa_cons (pe_ix (r := rIxL K) ix_list (pv 9) (pv 10) (fun _ _ => rfl)) (pa_cons (pe_call (ok__law_chance T) (hr.mono (by decide)) rfl T.g__law_chance T.F__law_chance.kp bind__law_chance .nil passL (pa_cons (pv 2) (pa_cons (pv 10) pa_nil))) pa_nil))))) (pss_cons (ps_ret pe_bl) pss_nil) pss_nil) pss_nil)) (pss_cons (ps_for (passes_of rfl) rfl (show PI _ _ _ (iList K _) from pi_list (pv 5)) (pg_name (i := 11) sc_law.nd rfl (Or.inl rfl)) (pss_cons (ps_for (passes_of rfl) rfl (pi_range2 (by rfl) T.gb_range (pa_cons (pe_ix (r := rIxT K) ix_tup (pv 11) pe_int (fun _ _ => rfl)) (pa_cons (pe_ix (r := rIxT K) ix_tup (pv 11) pe_int (fun _ _ => rfl)) pa_nil))) (pg_name (i := 10) sc_law.nd rfl (Or.inl rfl)) (pss_cons (ps_if (pt_not (pt_val (pe_call (ok__law_is_ratio T) (hr.mono (by decide)) rfl T.g__law_is_ratio T.F__law_is_ratio.kp bind__law_is_ratio .nil passL (pa_cons (pe_ix (r := rIxL K) ix_list (pv 9) (pv 10) (fun _ _ => rfl)) (pa_cons (pe_call (ok__law_share T) (hr.mono (by decide)) rfl T.g__law_share T.F__law_share.kp bind__law_share .nil passL (pa_cons (pv 2) (pa_cons (pe_ix (r := rIxT K) ix_tup (pv 11) pe_int (fun _ _ => rfl)) (pa_cons (pe_ix (r := rIxT K) ix_tup (pv 11) pe_int (fun _ _ => rfl)) pa_nil)))) pa_nil))))) (pss_cons (ps_ret pe_bl) pss_nil) pss_nil) pss_nil)) pss_nil)) (pss_cons (ps_for (passes_of rfl) rfl (pi_range1 (by rfl) T.gb_range (pa_cons pe_int pa_nil)) (pg_name (i := 12) sc_law.nd rfl (Or.inl rfl)) (pss_cons (ps_set (i := 10) sc_law.nd rfl (Or.inl rfl) (pe_call (ok__law_take T) (hr.mono (by decide)) rfl T.g__law_take T.F__law_take.kp bind__law_take .nil passL (pa_cons (pv 1) (pa_cons (pe_callB (r := rLen1 K) call_len_seq (by rfl) T.gb_len bt_len (pa_cons (pv 2) pa_nil)) pa_nil)))) (pss_cons (ps_if (PW.pt (pw_or (pt_not (pt_val (pe_call (ok__law_is_ratio T) (hr.mono (by decide)) rfl T.g__law_is_ratio T.F__law_is_ratio.kp bind__law_is_ratio .nil passL (pa_cons (pe_call (ok_max_min T) (hr.mono (by decide)) rfl T.g_max_min T.F_max_min.kp bind_max_min .nil passL (pa_cons (pv 3) (pa_cons (pv 10) pa_nil))) (pa_cons (pe_ix (r := rIxL K) ix_list (pv 9) (pv 10) (fun _ _ => rfl)) pa_nil))))) (pw_or1 (pt_not (pt_val (pe_call (ok__law_is_ratio T) (hr.mono (by decide)) rfl T.g__law_is_ratio T.F__law_is_ratio.kp bind__law_is_ratio .nil passL (pa_cons (pe_call (ok_min_max T) (hr.mono (by decide)) rfl T.g_min_max T.F_min_max.kp bind_min_max .nil passL (pa_cons (pv 3) (pa_cons (pv 10) pa_nil))) (pa_cons (pe_ix (r := rIxL K) ix_list (pv 9) (pv 10) (fun _ _ => rfl)) pa_nil)))))))) (pss_cons (ps_ret pe_bl) pss_nil) pss_nil) pss_nil))) (pss_cons (ps_set (i := 13) sc_law.nd rfl (Or.inl rfl) (pe_ix (r := rIxL K) ix_list (pv 9) pe_int (fun _ _ => rfl))) (pss_cons (ps_expr (show PE _ _ (tBM K "list" rAppend _ _) from pe_bm PySem.F.plainAttrs_list PySem.F.slot_list_append PySem.F.type_list_append mt_append (pv 4) (pa_cons (pe_tup (pa_cons pe_int (pa_cons pe_int pa_nil))) pa_nil))) (pss_cons (ps_expr (show PE _ _ (tBM K "list" rAppend _ _) from pe_bm PySem.F.plainAttrs_list PySem.F.slot_list_append PySem.F.type_list_append mt_append (pv 9) (pa_cons (pv 13) pa_nil))) (pss_cons (ps_if (PW.pt (pw_or (pt_cmpR (r := rNeD K) (op_neD hr.units) (pe_call (ok_rising_blocks T) (hr.mono (by decide)) rfl T.g_rising_blocks T.F_rising_blocks.kp bind_rising_blocks .nil passL (pa_cons (pv 3) pa_nil)) (pv 5) (nomark _)) (pw_or (pt_cmpR (r := rNeD K) (op_neD hr.units) (pe_call (ok_rising_chances T) (hr.mono (by decide)) rfl T.g_rising_chances T.F_rising_chances.kp bind_rising_chances .nil passL (pa_cons (pv 3) pa_nil)) (pe_slice (r := rSlL K) sl_list (pv 9) po_none (po_some (pe_un un_neg pe_int))) (nomark _)) (pw_or1 (pt_cmpR (r := rNeD K) (op_neD hr.units) (pv 3) (pv 2) (nomark _)))))) (pss_cons (ps_ret pe_bl) pss_nil) pss_nil) (pss_cons (ps_ret (pe_call (ok__law_refused_right T) (hr.mono (by decide)) rfl T.g__law_refused_right T.F__law_refused_right.kp bind__law_refused_right .nil passL (pa_cons (pv 1) (pa_cons (pv 2) pa_nil)))) pss_nil))))))))))))))))), ?_⟩
    refine q_mkpool (E := EZ) (K := K) (σ := [some (.ref a0), none, none, none, none, none, none, none, none, none, none, none, none, none]) (i := 1) (j := 0) rfl (Rp.mono _ (Ex.refl _) exz r_script) hs hm fun pool_10 p_1 ws_2 I_3 C_4 H_5 e_6 s_7 hc_8 hx_9 hm => ?_
    refine qm_asg (E := EZ) (K := K) (σ := [some (.ref a0), some (.ref p_1), none, none, none, none, none, none, none, none, none, none, none, none]) (i := 2) (m_callM0 (i := 1) rfl) s_7 hc_8 (Rt.mono _ (Ex.refl _) exz hx_9) hm fun rows_11 v_12 ws_18 I_13 C_19 H_14 e_15 s_16 hc_20 k_21 hx_22 r_17 hm => ?_
    refine q_asg (E := EZ) (K := K) (σ := [some (.ref a0), some (.ref p_1), some v_12, none, none, none, none, none, none, none, none, none, none, none]) (i := 3) (x_cb o_list (a_one (x_v (x_var (i := 2) rfl (Rp.mono _ (Ex.refl _) exz r_17))))) s_16 (fun _ _ h => h.elim) hm fun passed_23 v_24 I_25 H_26 e_27 s_28 r_29 hm => ?_
    refine q_asgN (E := EZ) (K := K) (σ := [some (.ref a0), some (.ref p_1), some v_12, some v_24, none, none, none, none, none, none, none, none, none, none]) (i := 4) (n_call (a_one (x_var (i := 3) rfl (Rp.mono _ (Ex.refl _) exz r_29)))) s_28 (fun _ _ h => h.elim) hm fun told_30 p_31 vs_32 I_33 C_34 H_35 e_36 hp_37 s_38 hc_39 k_40 hl_41 hr_42 hm => ?_
    have ne_43 := ne_new hc_20 hp_37
    have hB_44 : Z p_31 = none := rfl
    have hc_45 := (k_40 _ ne_43).trans hc_20
    refine s_if (E := EZ) (K := K) (σ := [some (.ref a0), some (.ref p_1), some v_12, some v_24, some (.ref p_31), none, none, none, none, none, none, none, none, none]) (t_or (t_not (t_B (x_call (a_one (x_cell (i := 4) rfl hc_39 hl_41 (a2up (Ex.refl _) hr_42)))))) (t_not (t_B (x_call (a_cons (x_var (i := 2) rfl (Rp.mono _ (e_27.trans e_36) exz r_17)) (a_one (x_cell (i := 4) rfl hc_39 hl_41 (a2up (Ex.refl _) hr_42)))))))) s_38 (fun _ _ h => h.elim) hm (fun I_46 H_47 e_48 s_49 hm => ?_) (fun I_50 H_51 e_52 s_53 hm => ?_)
    · refine q_ret (tz := tNext) (E := EZ) (K := K) (σ := [some (.ref a0), some (.ref p_1), some v_12, some v_24, some (.ref p_31), none, none, none, none, none, none, none, none, none]) x_bl s_49 (fun _ _ h => h.elim) hm fun a_54 v_55 I_56 H_57 e_58 s_59 r_60 hm => ?_
      exact hm v_55 H_57 r_60
    · refine q_asg (E := EZ) (K := K) (σ := [some (.ref a0), some (.ref p_1), some v_12, some v_24, some (.ref p_31), none, none, none, none, none, none, none, none, none]) (i := 5) (x_cb o_list (a_one (x_cell (i := 4) rfl hc_39 hl_41 (a2up e_52 hr_42)))) s_53 (fun _ _ h => h.elim) hm fun right_61 v_62 I_63 H_64 e_65 s_66 r_67 hm => ?_
      refine qm_forR (E := EZ) (K := K) (σ := [some (.ref a0), some (.ref p_1), some v_12, some v_24, some (.ref p_31), some v_62, none, none, none, none, none, none, none, none]) (s0 := fun (y_89 : Pl) => y_89) (fun (z_68 : Pl) σ2 I_73 C_74 => ∃ w_70 : Option V, ∃ w_71 : Option V, ∃ w_72 : Option V, σ2 = [some (.ref a0), some (.ref p_1), some v_12, some v_24, some (.ref p_31), some v_62, w_70, w_71, w_72, none, none, none, none, none] ∧ (∃ ws_75 : List V, C_74 p_1 = some (.lst ws_75) ∧ Rt.r pM z_68 ws_75 I_73 Z) ∧ C_74 p_31 = some (.lst vs_32)) (im_list (m_op (fun _ => (Op2.ofL o_cat)) off_same (m_pure (x_lst (al_cons (x_var (i := 5) rfl (Rp.mono _ (Ex.refl _) exz r_67)) al_nil) (Nat.le_of_ble_eq_true rfl))) (m_v (m_callM (i := 1) rfl (am_pure (a_cons (x_cb o_len (a_one (x_v (x_var (i := 2) rfl (Rp.mono _ (e_27.trans (e_36.trans (e_52.trans e_65))) exz r_17))))) (a_one (x_var (i := 5) rfl (Rp.mono _ (Ex.refl _) exz r_67))))))))) s_66 hc_45 (Rt.mono _ (e_27.trans (e_36.trans (e_52.trans e_65))) exz hx_22) hm (fun y_89 ws_90 I_91 C_92 e_88 hc_93 k_94 hx_95 => by
      have hc_96 := (k_94 _ (Ne.symm ne_43)).trans hc_39
      exact ⟨none, none, none, rfl, ⟨_, hc_93, Rt.mono _ (Ex.refl _) exz hx_95⟩, hc_96⟩) (fun _ _ _ _ _ e ⟨w_70, w_71, w_72, hs_69, ⟨ws_75, hc_76, hx_77⟩, hc_78⟩ => ⟨w_70, w_71, w_72, hs_69, ⟨ws_75, hc_76, Rt.mono _ e exz hx_77⟩, hc_78⟩) (fun N x_80 v_81 z_68 σ2 I_82 C_83 H_84 e_85 s_86 ⟨w_70, w_71, w_72, hs_69, ⟨ws_75, hc_76, hx_77⟩, hc_78⟩ r_87 hm => ?_) (fun z_134 σ2 I_129 C_130 H_131 e_132 s_133 ⟨w_136, w_137, w_138, hs_135, ⟨ws_141, hc_142, hx_143⟩, hc_144⟩ hm => ?_)
      · subst hs_69
        refine g1 (K := K) x_80 v_81 I_82 C_83 H_84 _ s_86 r_87 fun σ2 ⟨v_97, hs_99, r_98⟩ => ?_
        subst hs_99
        refine q_asg (E := EZ) (K := K) (σ := [some (.ref a0), some (.ref p_1), some v_12, some v_24, some (.ref p_31), some v_62, some v_97, w_71, w_72, none, none, none, none, none]) (i := 7) (x_cb o_list (a_one (x_v (x_var (i := 6) rfl (Rp.mono _ (Ex.refl _) exz r_98))))) s_86 (fun _ _ h => h.elim) hm fun kept_100 v_101 I_102 H_103 e_104 s_105 r_106 hm => ?_
        refine q_asg (E := EZ) (K := K) (σ := [some (.ref a0), some (.ref p_1), some v_12, some v_24, some (.ref p_31), some v_62, some v_97, some v_101, w_72, none, none, none, none, none]) (i := 8) (x_call (a_cons (x_var (i := 3) rfl (Rp.mono _ (e_36.trans (e_52.trans (e_65.trans (e_85.trans e_104)))) exz r_29)) (a_one (x_v (x_var (i := 7) rfl (Rp.mono _ (Ex.refl _) exz r_106)))))) s_105 (fun _ _ h => h.elim) hm fun answer_107 v_108 I_109 H_110 e_111 s_112 r_113 hm => ?_
        refine s_if (E := EZ) (K := K) (σ := [some (.ref a0), some (.ref p_1), some v_12, some v_24, some (.ref p_31), some v_62, some v_97, some v_101, some v_108, none, none, none, none, none]) (t_or (t_not (t_B (x_cb (o_isi (n := "bool") (by decide +kernel)) (a_cons (x_var (i := 8) rfl (Rp.mono _ (Ex.refl _) exz r_113)) (a_one (x_c (R := pY "bool") (a := ()) fun _ _ => rfl)))))) (t_or (t_test (x_op o_neB (x_var (i := 8) rfl (Rp.mono _ (Ex.refl _) exz r_113)) (x_call (a_cons (x_var (i := 2) rfl (Rp.mono _ (e_27.trans (e_36.trans (e_52.trans (e_65.trans (e_85.trans (e_104.trans e_111)))))) exz r_17)) (a_one (x_v (x_var (i := 6) rfl (Rp.mono _ (e_104.trans e_111) exz r_98)))))))) (t_test (x_op (o_neD (de_lst (de_tup (dt_cons de_int (dt_one de_int)))) (de_lst (de_tup (dt_cons de_int (dt_one de_int)))) (by decide)) (x_var (i := 7) rfl (Rp.mono _ e_111 exz r_106)) (x_var (i := 6) rfl (Rp.mono _ (e_104.trans e_111) exz r_98)))))) s_112 (fun _ _ h => h.elim) hm (fun I_114 H_115 e_116 s_117 hm => ?_) (fun I_118 H_119 e_120 s_121 hm => ?_)
        · refine q_ret (tz := tNext) (E := EZ) (K := K) (σ := [some (.ref a0), some (.ref p_1), some v_12, some v_24, some (.ref p_31), some v_62, some v_97, some v_101, some v_108, none, none, none, none, none]) x_bl s_117 (fun _ _ h => h.elim) hm fun a_122 v_123 I_124 H_125 e_126 s_127 r_128 hm => ?_
          exact hm v_123 H_125 r_128
        · exact hm _ _ _ _ (e_104.trans (e_111.trans e_120)) s_121 ⟨some v_97, some v_101, some v_108, rfl, ⟨_, hc_76, Rt.mono _ (e_104.trans (e_111.trans e_120)) exz hx_77⟩, hc_78⟩
      subst hs_135
      refine q_asgN (E := EZ) (K := K) (σ := [some (.ref a0), some (.ref p_1), some v_12, some v_24, some (.ref p_31), some v_62, w_136, w_137, w_138, none, none, none, none, none]) (i := 9) (n_call (a_one (x_var (i := 3) rfl (Rp.mono _ (e_36.trans (e_52.trans (e_65.trans e_132))) exz r_29)))) s_133 (fun _ _ h => h.elim) hm fun chances_146 p_147 vs_148 I_149 C_150 H_151 e_152 hp_153 s_154 hc_155 k_156 hl_157 hr_158 hm => ?_
      have ne_159 := ne_new hc_142 hp_153
      have ne_160 := ne_new hc_144 hp_153
      have hB_161 : Z p_147 = none := rfl
      have hc_162 := (k_156 _ ne_159).trans hc_142
      have hc_163 := (k_156 _ ne_160).trans hc_144
      refine s_if (E := EZ) (K := K) (σ := [some (.ref a0), some (.ref p_1), some v_12, some v_24, some (.ref p_31), some v_62, w_136, w_137, w_138, some (.ref p_147), none, none, none, none]) (t_or (t_not (t_B (x_cb (o_isi (n := "list") (by decide +kernel)) (a_cons (x_cell (i := 9) rfl hc_155 hl_157 (a2up (Ex.refl _) hr_158)) (a_one (x_c (R := pY "list") (a := ()) fun _ _ => rfl)))))) (t_test (x_op o_neI (x_cb o_len (a_one (x_cell (i := 9) rfl hc_155 hl_157 (a2up (Ex.refl _) hr_158)))) (x_cb o_len (a_one (x_v (x_var (i := 2) rfl (Rp.mono _ (e_27.trans (e_36.trans (e_52.trans (e_65.trans (e_132.trans e_152))))) exz r_17)))))))) s_154 (fun _ _ h => h.elim) hm (fun I_164 H_165 e_166 s_167 hm => ?_) (fun I_168 H_169 e_170 s_171 hm => ?_)
      · refine q_ret (tz := tNext) (E := EZ) (K := K) (σ := [some (.ref a0), some (.ref p_1), some v_12, some v_24, some (.ref p_31), some v_62, w_136, w_137, w_138, some (.ref p_147), none, none, none, none]) x_bl s_167 (fun _ _ h => h.elim) hm fun a_172 v_173 I_174 H_175 e_176 s_177 r_178 hm => ?_
        exact hm v_173 H_175 r_178
      · refine s_forR (E := EZ) (K := K) (σ := [some (.ref a0), some (.ref p_1), some v_12, some v_24, some (.ref p_31), some v_62, w_136, w_137, w_138, some (.ref p_147), none, none, none, none]) (fun (z_179 : Unit) σ2 I_182 C_183 => ∃ w_181 : Option V, σ2 = [some (.ref a0), some (.ref p_1), some v_12, some v_24, some (.ref p_31), some v_62, w_136, w_137, w_138, some (.ref p_147), w_181, none, none, none] ∧ C_183 p_1 = some (.lst ws_141) ∧ C_183 p_31 = some (.lst vs_32) ∧ C_183 p_147 = some (.lst vs_148)) (i_rng1 (a_one (x_cb o_len (a_one (x_v (x_var (i := 2) rfl (Rp.mono _ (e_27.trans (e_36.trans (e_52.trans (e_65.trans (e_132.trans (e_152.trans e_170)))))) exz r_17))))))) s_171 (fun _ _ h => h.elim) hm (fun _ e_196 => ⟨none, rfl, hc_162, hc_163, hc_155⟩) (fun _ _ _ _ _ => trivial) (fun _ _ _ _ _ e ⟨w_181, hs_180, hc_184, hc_185, hc_186⟩ => ⟨w_181, hs_180, hc_184, hc_185, hc_186⟩) (fun N x_188 v_189 z_179 σ2 I_190 C_191 H_192 e_193 s_194 ⟨w_181, hs_180, hc_184, hc_185, hc_186⟩ r_195 hm => ?_) (fun z_220 σ2 I_215 C_216 H_217 e_218 s_219 ⟨w_222, hs_221, hc_225, hc_226, hc_227⟩ hm => ?_)
        · subst hs_180
          refine g1 (K := K) x_188 v_189 I_190 C_191 H_192 _ s_194 r_195 fun σ2 ⟨v_197, hs_199, r_198⟩ => ?_
          subst hs_199
          refine s_if (E := EZ) (K := K) (σ := [some (.ref a0), some (.ref p_1), some v_12, some v_24, some (.ref p_31), some v_62, w_136, w_137, w_138, some (.ref p_147), some v_197, none, none, none]) (t_not (t_B (x_call (a_cons (x_op o_ix (x_cell (i := 9) rfl hc_186 hl_157 (a2up (e_170.trans e_193) hr_158)) (x_var (i := 10) rfl (Rp.mono _ (Ex.refl _) exz r_198))) (a_one (x_call (a_cons (x_var (i := 2) rfl (Rp.mono _ (e_27.trans (e_36.trans (e_52.trans (e_65.trans (e_132.trans (e_152.trans (e_170.trans e_193))))))) exz r_17)) (a_one (x_var (i := 10) rfl (Rp.mono _ (Ex.refl _) exz r_198)))))))))) s_194 (fun _ _ h => h.elim) hm (fun I_200 H_201 e_202 s_203 hm => ?_) (fun I_204 H_205 e_206 s_207 hm => ?_)
          · refine q_ret (tz := tNext) (E := EZ) (K := K) (σ := [some (.ref a0), some (.ref p_1), some v_12, some v_24, some (.ref p_31), some v_62, w_136, w_137, w_138, some (.ref p_147), some v_197, none, none, none]) x_bl s_203 (fun _ _ h => h.elim) hm fun a_208 v_209 I_210 H_211 e_212 s_213 r_214 hm => ?_
            exact hm v_209 H_211 r_214
          · exact hm _ _ _ _ e_206 s_207 ⟨some v_197, rfl, hc_184, hc_185, hc_186⟩
        subst hs_221
        refine s_forR (E := EZ) (K := K) (σ := [some (.ref a0), some (.ref p_1), some v_12, some v_24, some (.ref p_31), some v_62, w_136, w_137, w_138, some (.ref p_147), w_222, none, none, none]) (fun (z_229 : Unit) σ2 I_233 C_234 => ∃ w_231 : Option V, ∃ w_232 : Option V, σ2 = [some (.ref a0), some (.ref p_1), some v_12, some v_24, some (.ref p_31), some v_62, w_136, w_137, w_138, some (.ref p_147), w_231, w_232, none, none] ∧ C_234 p_1 = some (.lst ws_141) ∧ C_234 p_31 = some (.lst vs_32) ∧ C_234 p_147 = some (.lst vs_148)) (i_list (x_var (i := 5) rfl (Rp.mono _ (e_132.trans (e_152.trans (e_170.trans e_218))) exz r_67))) s_219 (fun _ _ h => h.elim) hm (fun _ e_247 => ⟨w_222, none, rfl, hc_225, hc_226, hc_227⟩) (fun _ _ _ _ _ => trivial) (fun _ _ _ _ _ e ⟨w_231, w_232, hs_230, hc_235, hc_236, hc_237⟩ => ⟨w_231, w_232, hs_230, hc_235, hc_236, hc_237⟩) (fun N x_239 v_240 z_229 σ2 I_241 C_242 H_243 e_244 s_245 ⟨w_231, w_232, hs_230, hc_235, hc_236, hc_237⟩ r_246 hm => ?_) (fun z_306 σ2 I_301 C_302 H_303 e_304 s_305 ⟨w_308, w_309, hs_307, hc_312, hc_313, hc_314⟩ hm => ?_)
        · subst hs_230
          refine g1 (K := K) x_239 v_240 I_241 C_242 H_243 _ s_245 r_246 fun σ2 ⟨v_248, hs_250, r_249⟩ => ?_
          subst hs_250
          refine s_forR (E := EZ) (K := K) (σ := [some (.ref a0), some (.ref p_1), some v_12, some v_24, some (.ref p_31), some v_62, w_136, w_137, w_138, some (.ref p_147), w_231, some v_248, none, none]) (fun (z_251 : Unit) σ2 I_254 C_255 => ∃ w_253 : Option V, σ2 = [some (.ref a0), some (.ref p_1), some v_12, some v_24, some (.ref p_31), some v_62, w_136, w_137, w_138, some (.ref p_147), w_253, some v_248, none, none] ∧ C_255 p_1 = some (.lst ws_141) ∧ C_255 p_31 = some (.lst vs_32) ∧ C_255 p_147 = some (.lst vs_148)) (i_rng2 (a_cons (x_k (k := ((0 : Nat) : Int)) (o_pj pj0) (x_var (i := 11) rfl (Rp.mono _ (Ex.refl _) exz r_249))) (a_one (x_k (k := ((1 : Nat) : Int)) (o_pj (pjs pj1)) (x_var (i := 11) rfl (Rp.mono _ (Ex.refl _) exz r_249)))))) s_245 (fun _ _ h => h.elim) hm (fun _ e_268 => ⟨w_231, rfl, hc_235, hc_236, hc_237⟩) (fun _ _ _ _ _ => trivial) (fun _ _ _ _ _ e ⟨w_253, hs_252, hc_256, hc_257, hc_258⟩ => ⟨w_253, hs_252, hc_256, hc_257, hc_258⟩) (fun N x_260 v_261 z_251 σ2 I_262 C_263 H_264 e_265 s_266 ⟨w_253, hs_252, hc_256, hc_257, hc_258⟩ r_267 hm => ?_) (fun z_292 σ2 I_287 C_288 H_289 e_290 s_291 ⟨w_294, hs_293, hc_297, hc_298, hc_299⟩ hm => ?_)
          · subst hs_252
            refine g1 (K := K) x_260 v_261 I_262 C_263 H_264 _ s_266 r_267 fun σ2 ⟨v_269, hs_271, r_270⟩ => ?_
            subst hs_271
            refine s_if (E := EZ) (K := K) (σ := [some (.ref a0), some (.ref p_1), some v_12, some v_24, some (.ref p_31), some v_62, w_136, w_137, w_138, some (.ref p_147), some v_269, some v_248, none, none]) (t_not (t_B (x_call (a_cons (x_op o_ix (x_cell (i := 9) rfl hc_258 hl_157 (a2up (e_170.trans (e_218.trans (e_244.trans e_265))) hr_158)) (x_var (i := 10) rfl (Rp.mono _ (Ex.refl _) exz r_270))) (a_one (x_call (a_cons (x_var (i := 2) rfl (Rp.mono _ (e_27.trans (e_36.trans (e_52.trans (e_65.trans (e_132.trans (e_152.trans (e_170.trans (e_218.trans (e_244.trans e_265))))))))) exz r_17)) (a_cons (x_k (k := ((0 : Nat) : Int)) (o_pj pj0) (x_var (i := 11) rfl (Rp.mono _ e_265 exz r_249))) (a_one (x_k (k := ((1 : Nat) : Int)) (o_pj (pjs pj1)) (x_var (i := 11) rfl (Rp.mono _ e_265 exz r_249)))))))))))) s_266 (fun _ _ h => h.elim) hm (fun I_272 H_273 e_274 s_275 hm => ?_) (fun I_276 H_277 e_278 s_279 hm => ?_)
            · refine q_ret (tz := tNext) (E := EZ) (K := K) (σ := [some (.ref a0), some (.ref p_1), some v_12, some v_24, some (.ref p_31), some v_62, w_136, w_137, w_138, some (.ref p_147), some v_269, some v_248, none, none]) x_bl s_275 (fun _ _ h => h.elim) hm fun a_280 v_281 I_282 H_283 e_284 s_285 r_286 hm => ?_
              exact hm v_281 H_283 r_286
            · exact hm _ _ _ _ e_278 s_279 ⟨some v_269, rfl, hc_256, hc_257, hc_258⟩
          subst hs_293
          exact hm _ _ _ _ e_290 s_291 ⟨w_294, some v_248, rfl, hc_297, hc_298, hc_299⟩
        subst hs_307
        refine s_forR (E := EZ) (K := K) (σ := [some (.ref a0), some (.ref p_1), some v_12, some v_24, some (.ref p_31), some v_62, w_136, w_137, w_138, some (.ref p_147), w_308, w_309, none, none]) (fun (z_316 : Pl) σ2 I_320 C_321 => ∃ w_318 : Option V, ∃ w_319 : Option V, σ2 = [some (.ref a0), some (.ref p_1), some v_12, some v_24, some (.ref p_31), some v_62, w_136, w_137, w_138, some (.ref p_147), w_318, w_309, w_319, none] ∧ (∃ ws_322 : List V, C_321 p_1 = some (.lst ws_322) ∧ Rt.r pM z_316 ws_322 I_320 Z) ∧ C_321 p_31 = some (.lst vs_32) ∧ C_321 p_147 = some (.lst vs_148)) (i_rng1 (a_one (x_int (i := 6)))) s_305 (fun _ _ h => h.elim) hm (fun _ e_336 => ⟨w_308, none, rfl, ⟨_, hc_312, Rt.mono _ (Ex.trans (e_152.trans (e_170.trans (e_218.trans e_304))) e_336) exz hx_143⟩, hc_313, hc_314⟩) (fun _ _ _ _ _ => trivial) (fun _ _ _ _ _ e ⟨w_318, w_319, hs_317, ⟨ws_322, hc_323, hx_324⟩, hc_325, hc_326⟩ => ⟨w_318, w_319, hs_317, ⟨ws_322, hc_323, Rt.mono _ e exz hx_324⟩, hc_325, hc_326⟩) (fun N x_328 v_329 z_316 σ2 I_330 C_331 H_332 e_333 s_334 ⟨w_318, w_319, hs_317, ⟨ws_322, hc_323, hx_324⟩, hc_325, hc_326⟩ r_335 hm => ?_) (fun z_374 σ2 I_369 C_370 H_371 e_372 s_373 ⟨w_376, w_377, hs_375, ⟨ws_380, hc_381, hx_382⟩, hc_383, hc_384⟩ hm => ?_)
        · subst hs_317
          refine g1 (K := K) x_328 v_329 I_330 C_331 H_332 _ s_334 r_335 fun σ2 ⟨v_337, hs_339, r_338⟩ => ?_
          subst hs_339
          refine qm_asg (E := EZ) (K := K) (σ := [some (.ref a0), some (.ref p_1), some v_12, some v_24, some (.ref p_31), some v_62, w_136, w_137, w_138, some (.ref p_147), w_318, w_309, some v_337, none]) (i := 10) (m_callM (i := 1) rfl (am_pure (a_one (x_cb o_len (a_one (x_v (x_var (i := 2) rfl (Rp.mono _ (e_27.trans (e_36.trans (e_52.trans (e_65.trans (e_132.trans (e_152.trans (e_170.trans (e_218.trans (e_304.trans e_333))))))))) exz r_17)))))))) s_334 hc_323 (Rt.mono _ (Ex.refl _) exz hx_324) hm fun k_340 v_341 ws_347 I_342 C_348 H_343 e_344 s_345 hc_349 k_350 hx_351 r_346 hm => ?_
          have hc_352 := (k_350 _ (Ne.symm ne_43)).trans hc_325
          have hc_353 := (k_350 _ (Ne.symm ne_159)).trans hc_326
          refine s_if (E := EZ) (K := K) (σ := [some (.ref a0), some (.ref p_1), some v_12, some v_24, some (.ref p_31), some v_62, w_136, w_137, w_138, some (.ref p_147), some v_341, w_309, some v_337, none]) (t_or (t_not (t_B (x_call (a_cons (x_call (a_cons (x_var (i := 3) rfl (Rp.mono _ (e_36.trans (e_52.trans (e_65.trans (e_132.trans (e_152.trans (e_170.trans (e_218.trans (e_304.trans (e_333.trans e_344))))))))) exz r_29)) (a_one (x_var (i := 10) rfl (Rp.mono _ (Ex.refl _) exz r_346))))) (a_one (x_op o_ix (x_cell (i := 9) rfl hc_353 hl_157 (a2up (e_170.trans (e_218.trans (e_304.trans (e_333.trans e_344)))) hr_158)) (x_var (i := 10) rfl (Rp.mono _ (Ex.refl _) exz r_346)))))))) (t_not (t_B (x_call (a_cons (x_call (a_cons (x_var (i := 3) rfl (Rp.mono _ (e_36.trans (e_52.trans (e_65.trans (e_132.trans (e_152.trans (e_170.trans (e_218.trans (e_304.trans (e_333.trans e_344))))))))) exz r_29)) (a_one (x_var (i := 10) rfl (Rp.mono _ (Ex.refl _) exz r_346))))) (a_one (x_op o_ix (x_cell (i := 9) rfl hc_353 hl_157 (a2up (e_170.trans (e_218.trans (e_304.trans (e_333.trans e_344)))) hr_158)) (x_var (i := 10) rfl (Rp.mono _ (Ex.refl _) exz r_346))))))))) s_345 (fun _ _ h => h.elim) hm (fun I_354 H_355 e_356 s_357 hm => ?_) (fun I_358 H_359 e_360 s_361 hm => ?_)
          · refine q_ret (tz := tNext) (E := EZ) (K := K) (σ := [some (.ref a0), some (.ref p_1), some v_12, some v_24, some (.ref p_31), some v_62, w_136, w_137, w_138, some (.ref p_147), some v_341, w_309, some v_337, none]) x_bl s_357 (fun _ _ h => h.elim) hm fun a_362 v_363 I_364 H_365 e_366 s_367 r_368 hm => ?_
            exact hm v_363 H_365 r_368
          · exact hm _ _ _ _ (e_344.trans e_360) s_361 ⟨some v_341, some v_337, rfl, ⟨_, hc_349, Rt.mono _ e_360 exz hx_351⟩, hc_352, hc_353⟩
        subst hs_375
        refine q_asg (E := EZ) (K := K) (σ := [some (.ref a0), some (.ref p_1), some v_12, some v_24, some (.ref p_31), some v_62, w_136, w_137, w_138, some (.ref p_147), w_376, w_309, w_377, none]) (i := 13) (x_op o_ix (x_cell (i := 9) rfl hc_384 hl_157 (a2up (e_170.trans (e_218.trans (e_304.trans e_372))) hr_158)) (x_int (i := 0))) s_373 (fun _ _ h => h.elim) hm fun first_386 v_387 I_388 H_389 e_390 s_391 r_392 hm => ?_
        refine q_app (E := EZ) (K := K) (σ := [some (.ref a0), some (.ref p_1), some v_12, some v_24, some (.ref p_31), some v_62, w_136, w_137, w_138, some (.ref p_147), w_376, w_309, w_377, some v_387]) (i := 4) rfl hc_383 (a2up (e_52.trans (e_65.trans (e_132.trans (e_152.trans (e_170.trans (e_218.trans (e_304.trans (e_372.trans e_390)))))))) hr_42) (x_tup (a_cons (x_int (i := 0)) (a_one (x_int (i := 0)))) (Nat.le_of_ble_eq_true rfl)) s_391 (fun _ _ h => h.elim) hm fun told_393 vs_394 I_395 C_396 H_397 e_398 s_399 hc_400 k_401 hl_402 hr_403 hm => ?_
        have hc_404 := (k_401 _ ne_43).trans hc_381
        have hc_405 := (k_401 _ (Ne.symm ne_160)).trans hc_384
        refine q_app (E := EZ) (K := K) (σ := [some (.ref a0), some (.ref p_1), some v_12, some v_24, some (.ref p_31), some v_62, w_136, w_137, w_138, some (.ref p_147), w_376, w_309, w_377, some v_387]) (i := 9) rfl hc_405 (a2up (e_170.trans (e_218.trans (e_304.trans (e_372.trans (e_390.trans e_398))))) hr_158) (x_var (i := 13) rfl (Rp.mono _ e_398 exz r_392)) s_399 (fun _ _ h => h.elim) hm fun chances_406 vs_407 I_408 C_409 H_410 e_411 s_412 hc_413 k_414 hl_415 hr_416 hm => ?_
        have hc_417 := (k_414 _ ne_159).trans hc_404
        have hc_418 := (k_414 _ ne_160).trans hc_400
        obtain ⟨I_419, C_420, e_421, s_422, h_423, k_424⟩ := freeze s_412 hc_413
        have r_426 := frz_list e_421 h_423 hl_415 hr_416
        have hc_427 := (k_424 _ ne_159).trans hc_417
        have hc_428 := (k_424 _ ne_160).trans hc_418
        refine s_if (E := EZ) (K := K) (σ := [some (.ref a0), some (.ref p_1), some v_12, some v_24, some (.ref p_31), some v_62, w_136, w_137, w_138, some (.ref p_147), w_376, w_309, w_377, some v_387]) (t_or (t_test (x_op (o_neD (de_lst (de_tup (dt_cons de_int (dt_one de_int)))) (de_lst (de_tup (dt_cons de_int (dt_one de_int)))) (by decide)) (x_own (n_call (a_one (x_var (i := 3) rfl (Rp.mono _ (e_36.trans (e_52.trans (e_65.trans (e_132.trans (e_152.trans (e_170.trans (e_218.trans (e_304.trans (e_372.trans (e_390.trans (e_398.trans (e_411.trans e_421)))))))))))) exz r_29))))) (x_var (i := 5) rfl (Rp.mono _ (e_132.trans (e_152.trans (e_170.trans (e_218.trans (e_304.trans (e_372.trans (e_390.trans (e_398.trans (e_411.trans e_421))))))))) exz r_67)))) (t_or (t_test (x_op (o_neD (de_lst (de_tup (dt_cons de_int (dt_one de_int)))) (de_lst (de_tup (dt_cons de_int (dt_one de_int)))) (by decide)) (x_own (n_call (a_one (x_var (i := 3) rfl (Rp.mono _ (e_36.trans (e_52.trans (e_65.trans (e_132.trans (e_152.trans (e_170.trans (e_218.trans (e_304.trans (e_372.trans (e_390.trans (e_398.trans (e_411.trans e_421)))))))))))) exz r_29))))) (x_sl (x_v (x_var (i := 9) rfl (Rp.mono _ (Ex.refl _) exz r_426))) p_none (p_some (x_un o_neg (x_int (i := 1))))))) (t_test (x_op (o_neD (de_lst (de_tup (dt_cons de_int (dt_one de_int)))) (de_lst (de_tup (dt_cons de_int (dt_one de_int)))) (by decide)) (x_var (i := 3) rfl (Rp.mono _ (e_36.trans (e_52.trans (e_65.trans (e_132.trans (e_152.trans (e_170.trans (e_218.trans (e_304.trans (e_372.trans (e_390.trans (e_398.trans (e_411.trans e_421)))))))))))) exz r_29)) (x_var (i := 2) rfl (Rp.mono _ (e_27.trans (e_36.trans (e_52.trans (e_65.trans (e_132.trans (e_152.trans (e_170.trans (e_218.trans (e_304.trans (e_372.trans (e_390.trans (e_398.trans (e_411.trans e_421))))))))))))) exz r_17)))))) s_422 (fun _ _ h => h.elim) hm (fun I_429 H_430 e_431 s_432 hm => ?_) (fun I_433 H_434 e_435 s_436 hm => ?_)
        · refine q_ret (tz := tNext) (E := EZ) (K := K) (σ := [some (.ref a0), some (.ref p_1), some v_12, some v_24, some (.ref p_31), some v_62, w_136, w_137, w_138, some (.ref p_147), w_376, w_309, w_377, some v_387]) x_bl s_432 (fun _ _ h => h.elim) hm fun a_437 v_438 I_439 H_440 e_441 s_442 r_443 hm => ?_
          exact hm v_438 H_440 r_443
        · refine qm_ret (E := EZ) (K := K) (σ := [some (.ref a0), some (.ref p_1), some v_12, some v_24, some (.ref p_31), some v_62, w_136, w_137, w_138, some (.ref p_147), w_376, w_309, w_377, some v_387]) (m_callM (i := 1) rfl (am_pure (a_one (x_var (i := 2) rfl (Rp.mono _ (e_27.trans (e_36.trans (e_52.trans (e_65.trans (e_132.trans (e_152.trans (e_170.trans (e_218.trans (e_304.trans (e_372.trans (e_390.trans (e_398.trans (e_411.trans (e_421.trans e_435)))))))))))))) exz r_17))))) s_436 hc_427 (Rt.mono _ (e_390.trans (e_398.trans (e_411.trans (e_421.trans e_435)))) exz hx_382) hm fun a_444 v_445 ws_451 I_446 C_452 H_447 e_448 s_449 hc_453 k_454 hx_455 r_450 hm => ?_
          exact hm v_445 H_447 r_450
end
end K84

namespace K84
open PySem Sd
/-! the pool -/
theorem mix_ok (c t : Int) : ∃ v, m__law_mix c t = .ok v := by
  unfold m__law_mix
  simp [rMul, rMod]
/-- the pool's counter does not run below 0 -/
abbrev PI_ (p : Pl) : Prop := 0 ≤ p.2.1 ∧ 0 ≤ p.2.2.1
theorem fill_is (p : Pl) (h : PI_ p) : Is (m__law_fill () p) fun b => PI_ b.2 := by
  unfold m__law_fill
  simp only [Res.bind_ok, rLen_eq, bin_ok, un_ok, rLt_eq, rGt_eq, ifR_ok, idR_eq]
  refine Is.bind (Q := fun z => z.1 = p) ?_ fun z hz => ?_
  · by_cases h1 : p.2.1 < (p.2.2.2.length : Int)
    · obtain ⟨x, e, _⟩ := ix_get h.1 h1
      simp only [decide_eq_true_eq, if_pos h1, e, Res.bind_ok]
      exact rfl
    · simp only [decide_eq_true_eq, if_neg h1]
      by_cases h2 : 0 < (p.2.2.2.length : Int)
      · obtain ⟨x, e, _⟩ := ix_get (xs := p.2.2.2) (Int.emod_nonneg p.2.2.1 (by omega)) (Int.emod_lt_of_pos p.2.2.1 h2)
        simp only [if_pos h2, rMod_ok h2, bin, Res.bind_ok, e]
        exact rfl
      · simp only [if_neg h2]
        exact rfl
  · obtain ⟨q, c⟩ := z
    have hz : q = p := hz
    subst hz
    refine Is.bind (Q := fun _ => True) ?_ fun c2 _ => ?_
    · dsimp only
      by_cases h3 : c < 0
      · simp only [decide_eq_true_eq, if_pos h3, bin, Res.bind_ok]
        rw [rMul_ok (.inl (by decide))]
        trivial
      · simp only [decide_eq_true_eq, if_neg h3]
        trivial
    · have hp : rPow 10 18 = .ok (10 ^ 18) := rPow_ok (by decide)
      simp only [thenR_eq, bin_ok, rAdd_eq, Res.bind_ok, hp, rGe_eq, rLe_eq, andR_ok, ifR_ok]
      split
      · exact ⟨by dsimp only; omega, by dsimp only; omega⟩
      · obtain ⟨v, hv⟩ := mix_ok c2 (q.2.2.1 + 1)
        simp only [pair_ok, un_ok, hv, Res.bind_ok]
        exact ⟨by dsimp only; omega, by dsimp only; omega⟩
theorem take_is {n : Int} {p : Pl} (h : PI_ p) (h0 : 0 < n) (h1 : n < 1073741824) : Is (m__law_take n p) fun b => (0 ≤ b.1 ∧ b.1 < n) ∧ PI_ b.2 := by
  unfold m__law_take
  simp only [bin_ok, rLt_eq, ifR_ok]
  refine Is.bind (Q := PI_) ?_ fun z hz => ?_
  · split
    · exact Is.bind (fill_is p h) fun b hb => hb
    · exact h
  · simp only [un_ok, idR_eq, bin_ok, rMod_ok h0, rDiv_ok ⟨h0, h1⟩, Res.bind_ok, thenR_eq]
    exact ⟨⟨Int.emod_nonneg _ (by omega), Int.emod_lt_of_pos _ h0⟩, hz⟩
theorem take_ok {n : Int} {p : Pl} (h : PI_ p) (h0 : 0 < n) (h1 : n < 1073741824) : ∃ b, m__law_take n p = .ok b ∧ (0 ≤ b.1 ∧ b.1 < n) ∧ PI_ b.2 := (take_is h h0 h1).get
theorem from_is {lo hi : Int} {p : Pl} (h : PI_ p) (h0 : lo ≤ hi) (h1 : hi - lo < 1073741823) : Is (m__law_from lo hi p) fun b => (lo ≤ b.1 ∧ b.1 ≤ hi) ∧ PI_ b.2 := by
  unfold m__law_from
  obtain ⟨b, e, hb, hp⟩ := take_ok (n := hi - lo + 1) h (by omega) (by omega)
  simp only [binM, callM, liftM_eq, bin_ok, rSub_eq, rAdd_eq, Res.bind_ok, e]
  exact ⟨⟨by dsimp only; omega, by dsimp only; omega⟩, hp⟩
theorem from_ok {lo hi : Int} {p : Pl} (h : PI_ p) (h0 : lo ≤ hi) (h1 : hi - lo < 1073741823) : ∃ b, m__law_from lo hi p = .ok b ∧ (lo ≤ b.1 ∧ b.1 ≤ hi) ∧ PI_ b.2 := (from_is h h0 h1).get

abbrev Ra := Int × Int
def Lt (x y : Ra) : Prop := x.1 * y.2 < y.1 * x.2
instance (x y : Ra) : Decidable (Lt x y) := inferInstanceAs (Decidable (_ < _))
def Eqv (x y : Ra) : Prop := x.1 * y.2 = y.1 * x.2
theorem mul_lt_iff {a b c : Int} (hc : 0 < c) : a * c < b * c ↔ a < b := by
  constructor
  · intro h
    exact Int.lt_of_mul_lt_mul_right h (by omega)
  · intro h
    exact Int.mul_lt_mul_of_pos_right h hc
theorem lt_congr {x x' y y' : Ra} (hx : 0 < x.2) (hx' : 0 < x'.2) (hy : 0 < y.2) (hy' : 0 < y'.2) (ex : Eqv x x') (ey : Eqv y y') : Lt x y ↔ Lt x' y' := by
  unfold Lt Eqv at *
  have h1 : 0 < x'.2 * y'.2 := Int.mul_pos hx' hy'
  have h2 : 0 < x.2 * y.2 := Int.mul_pos hx hy
  rw [← mul_lt_iff h1, ← mul_lt_iff (a := x'.1 * y'.2) h2]
  have e1 : x.1 * y.2 * (x'.2 * y'.2) = x'.1 * y'.2 * (x.2 * y.2) := by grind
  have e2 : y.1 * x.2 * (x'.2 * y'.2) = y'.1 * x'.2 * (x.2 * y.2) := by grind
  rw [e1, e2]
theorem lt_trans {x y z : Ra} (hx : 0 < x.2) (hy : 0 < y.2) (hz : 0 < z.2) (h : Lt x y) (h' : Lt y z) : Lt x z := by
  unfold Lt at *
  rw [← mul_lt_iff hy]
  have h1 := Int.mul_lt_mul_of_pos_right h hz
  have h2 := Int.mul_lt_mul_of_pos_right h' hx
  grind
theorem le_lt_trans {x y z : Ra} (hx : 0 < x.2) (hy : 0 < y.2) (hz : 0 < z.2) (h : ¬ Lt y x) (h' : Lt y z) : Lt x z := by
  unfold Lt at *
  rw [← mul_lt_iff hy]
  have h1 := Int.mul_le_mul_of_nonneg_right (Int.not_lt.mp h) (Int.le_of_lt hz)
  have h2 := Int.mul_lt_mul_of_pos_right h' hx
  grind
theorem lt_le_trans {x y z : Ra} (hx : 0 < x.2) (hy : 0 < y.2) (hz : 0 < z.2) (h : Lt x y) (h' : ¬ Lt z y) : Lt x z := by
  unfold Lt at *
  rw [← mul_lt_iff hy]
  have h1 := Int.mul_lt_mul_of_pos_right h hz
  have h2 := Int.mul_le_mul_of_nonneg_right (Int.not_lt.mp h') (Int.le_of_lt hx)
  grind
theorem le_trans {x y z : Ra} (hx : 0 < x.2) (hy : 0 < y.2) (hz : 0 < z.2) (h : ¬ Lt y x) (h' : ¬ Lt z y) : ¬ Lt z x := fun h2 => h' (lt_le_trans hz hx hy h2 h)
theorem eqv_of {x y : Ra} (h : ¬ Lt x y) (h' : ¬ Lt y x) : Eqv x y := by
  unfold Lt Eqv at *
  omega
theorem eqv_symm {x y : Ra} (h : Eqv x y) : Eqv y x := by
  unfold Eqv at *
  exact h.symm
theorem eqv_trans {x y z : Ra} (hy : 0 < y.2) (h : Eqv x y) (h' : Eqv y z) : Eqv x z := by
  unfold Eqv at *
  have : (x.1 * z.2) * y.2 = (z.1 * x.2) * y.2 := by grind
  exact Int.eq_of_mul_eq_mul_right (by omega) this
/-! the rising division of the points (T i, Y i) -/
structure Pts (Y T : Int → Int) (n : Int) : Prop where
  t : ∀ i j, 0 ≤ i → i < j → j ≤ n → T i < T j
  y : ∀ i j, 0 ≤ i → i ≤ j → j ≤ n → Y i ≤ Y j
section
variable {Y T : Int → Int} {n : Int}
def sh (Y T : Int → Int) (a b : Int) : Ra := (Y b - Y a, T b - T a)
def Gv (Y T : Int → Int) (v : Ra) (i : Int) : Int := Y i * v.2 - v.1 * T i
theorem lt_sh {v : Ra} {a b : Int} : Lt (sh Y T a b) v ↔ Gv Y T v b < Gv Y T v a := by
  unfold Lt sh Gv
  simp only [Int.sub_mul, Int.mul_sub]
  omega
theorem sh_lt {v : Ra} {a b : Int} : Lt v (sh Y T a b) ↔ Gv Y T v a < Gv Y T v b := by
  unfold Lt sh Gv
  simp only [Int.sub_mul, Int.mul_sub]
  omega
theorem g_self {a b : Int} : Gv Y T (sh Y T a b) a = Gv Y T (sh Y T a b) b := by
  unfold sh Gv
  grind
theorem Pts.pos (P : Pts Y T n) {a b : Int} (h0 : 0 ≤ a) (h : a < b) (h1 : b ≤ n) : 0 < (sh Y T a b).2 := by
  have := P.t a b h0 h h1
  show 0 < T b - T a
  omega
def lvl (Y T : Int → Int) (a b : Int) : Bool := !(rangeL (a + 1) b).any fun i => decide (Lt (sh Y T a i) (sh Y T a b))
theorem lvl_iff {a b : Int} : lvl Y T a b = true ↔ ∀ i, a < i → i < b → ¬ Lt (sh Y T a i) (sh Y T a b) := by
  unfold lvl
  rw [Bool.not_eq_true', List.any_eq_false]
  constructor
  · intro h i h1 h2
    have := h i (mem_rangeL.mpr ⟨by omega, h2⟩)
    simpa using this
  · intro h i hi
    have := mem_rangeL.mp hi
    simpa using h i (by omega) (by omega)
def okd (Y T : Int → Int) (n : Int) (s : Int × Ra) (x : Int × Int) : Bool := decide (x.1 = s.1) && (decide (s.1 < x.2) && (decide (x.2 ≤ n) && (decide (Lt s.2 (sh Y T x.1 x.2)) && lvl Y T x.1 x.2)))
def stp (Y T : Int → Int) (n : Int) (s : Option (Int × Ra)) (x : Int × Int) : Option (Int × Ra) := match s with
  | none => none
  | some s => if okd Y T n s x = true then some (x.2, sh Y T x.1 x.2) else none
def run (Y T : Int → Int) (n : Int) (l : List (Int × Int)) (s : Option (Int × Ra)) : Option (Int × Ra) := l.foldl (stp Y T n) s
@[simp] theorem run_nil (s : Option (Int × Ra)) : run Y T n [] s = s := rfl
@[simp] theorem run_cons (x : Int × Int) (l : List (Int × Int)) (s : Option (Int × Ra)) : run Y T n (x :: l) s = run Y T n l (stp Y T n s x) := rfl
theorem run_none : ∀ l : List (Int × Int), run Y T n l none = none
  | [] => rfl
  | x :: l => run_none l
theorem run_append (l m : List (Int × Int)) (s : Option (Int × Ra)) : run Y T n (l ++ m) s = run Y T n m (run Y T n l s) := List.foldl_append
structure Okd (Y T : Int → Int) (n : Int) (s : Int × Ra) (x : Int × Int) : Prop where
  st : x.1 = s.1
  lt : s.1 < x.2
  le : x.2 ≤ n
  up : Lt s.2 (sh Y T x.1 x.2)
  lv : ∀ i, x.1 < i → i < x.2 → ¬ Lt (sh Y T x.1 i) (sh Y T x.1 x.2)
theorem okd_iff {s : Int × Ra} {x : Int × Int} : okd Y T n s x = true ↔ Okd Y T n s x := by
  unfold okd
  simp only [Bool.and_eq_true, decide_eq_true_eq, lvl_iff]
  exact ⟨fun ⟨a, b, c, d, e⟩ => ⟨a, b, c, d, e⟩, fun ⟨a, b, c, d, e⟩ => ⟨a, b, c, d, e⟩⟩
theorem stp_some {s : Option (Int × Ra)} {x : Int × Int} {p : Int × Ra} (h : stp Y T n s x = some p) : ∃ s', s = some s' ∧ Okd Y T n s' x ∧ p = (x.2, sh Y T x.1 x.2) := by
  unfold stp at h
  cases s with
  | none => cases h
  | some s =>
    dsimp only at h
    split at h
    · rename_i hk
      cases h
      exact ⟨s, rfl, okd_iff.mp hk, rfl⟩
    · cases h
theorem stp_of {s : Int × Ra} {x : Int × Int} (h : Okd Y T n s x) : stp Y T n (some s) x = some (x.2, sh Y T x.1 x.2) := by
  unfold stp
  dsimp only
  rw [if_pos (okd_iff.mpr h)]
theorem run_cons_some {x : Int × Int} {l : List (Int × Int)} {s p : Int × Ra} (h : run Y T n (x :: l) (some s) = some p) : Okd Y T n s x ∧ run Y T n l (some (x.2, sh Y T x.1 x.2)) = some p := by
  rw [run_cons] at h
  cases q : stp Y T n (some s) x with
  | none =>
    rw [q, run_none] at h
    cases h
  | some s' =>
    obtain ⟨s1, e1, ok, e⟩ := stp_some q
    cases e1
    rw [q, e] at h
    exact ⟨ok, h⟩
theorem run_snoc_some {x : Int × Int} {l : List (Int × Int)} {s : Option (Int × Ra)} {p : Int × Ra} (h : run Y T n (l ++ [x]) s = some p) : ∃ s', run Y T n l s = some s' ∧ Okd Y T n s' x ∧ p = (x.2, sh Y T x.1 x.2) := by
  rw [run_append, run_cons, run_nil] at h
  exact stp_some h
/-- the places go up -/
theorem run_le : ∀ {l : List (Int × Int)} {s p : Int × Ra}, run Y T n l (some s) = some p → s.1 ≤ p.1 ∧ (l ≠ [] → p.1 ≤ n)
  | [], s, p, h => by
    cases h
    exact ⟨Int.le_refl _, fun z => absurd rfl z⟩
  | x :: l, s, p, h => by
    obtain ⟨ok, h2⟩ := run_cons_some h
    obtain ⟨h3, h4⟩ := run_le h2
    have := ok.lt
    refine ⟨by dsimp only at h3; omega, fun _ => ?_⟩
    cases l with
    | nil =>
      cases h2
      exact ok.le
    | cons y l => exact h4 (by simp)
/-- behind a stretch all points lie above its line -/
theorem supR (P : Pts Y T n) {v : Ra} (hv : 0 < v.2) : ∀ {l : List (Int × Int)} {s p : Int × Ra}, 0 ≤ s.1 → 0 < s.2.2 → run Y T n l (some s) = some p → ¬ Lt s.2 v → ∀ i, s.1 ≤ i → i ≤ p.1 → Gv Y T v s.1 ≤ Gv Y T v i
  | [], s, p, _, _, h, _, i, h1, h2 => by
    cases h
    have : i = s.1 := by omega
    rw [this]
    exact Int.le_refl _
  | x :: l, s, p, h0, hp, h, hl, i, h1, h2 => by
    obtain ⟨ok, h3⟩ := run_cons_some h
    have lt := ok.lt
    have hx : 0 < (sh Y T x.1 x.2).2 := P.pos (by rw [ok.st]; exact h0) (by rw [ok.st]; exact lt) ok.le
    have le : ¬ Lt (sh Y T x.1 x.2) v := fun z => hl (lt_trans hp hx hv ok.up z)
    have g1 : Gv Y T v x.1 ≤ Gv Y T v x.2 := by
      rw [lt_sh] at le
      omega
    rw [← ok.st] at h1 ⊢
    by_cases hi : i < x.2
    · by_cases hi0 : x.1 < i
      · have hxi : 0 < (sh Y T x.1 i).2 := P.pos (by rw [ok.st]; exact h0) hi0 (by have := ok.le; omega)
        have := le_trans hv hx hxi le (ok.lv i hi0 hi)
        rw [lt_sh] at this
        omega
      · have : i = x.1 := by omega
        rw [this]
        exact Int.le_refl _
    · have := supR P hv (s := (x.2, sh Y T x.1 x.2)) (by dsimp only; omega) hx h3 le i (by dsimp only; omega) h2
      dsimp only at this
      omega
/-- ahead of it, too -/
theorem supL (P : Pts Y T n) {v : Ra} (hv : 0 < v.2) : ∀ (k : Nat) {l : List (Int × Int)} {p : Int × Ra}, l.length = k → run Y T n l (some (0, (-1, 1))) = some p → Lt p.2 v → 0 ≤ p.1 ∧ 0 < p.2.2 ∧ ∀ i, 0 ≤ i → i ≤ p.1 → Gv Y T v p.1 ≤ Gv Y T v i
  | 0, l, p, hk, h, hl => by
    have : l = [] := List.length_eq_zero_iff.mp hk
    subst this
    cases h
    refine ⟨Int.le_refl _, by decide, fun i h1 h2 => ?_⟩
    have : i = 0 := by dsimp only at h2; omega
    rw [this]
    exact Int.le_refl _
  | k + 1, l, p, hk, h, hl => by
    rcases List.eq_nil_or_concat l with e | ⟨l', x, e⟩
    · rw [e] at hk
      cases hk
    · rw [e, List.concat_eq_append] at h hk
      rw [List.length_append] at hk
      obtain ⟨s, h1, ok, e2⟩ := run_snoc_some (s := some (0, (-1, 1))) h
      subst e2
      dsimp only at hl ⊢
      have lt := ok.lt
      have key : 0 ≤ s.1 ∧ 0 < s.2.2 := by
        rcases List.eq_nil_or_concat l' with e | ⟨l2, y, e⟩
        · rw [e] at h1
          cases h1
          exact ⟨Int.le_refl _, by decide⟩
        · rw [e, List.concat_eq_append] at h1
          have a := (run_le h1).1
          obtain ⟨s3, h3, ok3, e3⟩ := run_snoc_some (s := some (0, (-1, 1))) h1
          subst e3
          have b := (run_le h3).1
          refine ⟨a, P.pos (by rw [ok3.st]; exact b) (by rw [ok3.st]; exact ok3.lt) ok3.le⟩
      have hx0 : 0 ≤ x.1 := by rw [ok.st]; exact key.1
      have hx : 0 < (sh Y T x.1 x.2).2 := P.pos hx0 (by rw [ok.st]; exact lt) ok.le
      obtain ⟨_, _, ih⟩ := supL P hv k (by simpa using hk) h1 (lt_trans key.2 hx hv ok.up hl)
      refine ⟨by have := ok.st; omega, hx, fun i h1 h2 => ?_⟩
      by_cases hi : i < x.2
      · by_cases hi0 : x.1 < i
        · have a := ok.lv i hi0 hi
          rw [lt_sh, g_self] at a
          have b : ¬ Lt (sh Y T x.1 x.2) (sh Y T i x.2) := by
            rw [sh_lt]
            exact a
          have c : ¬ Lt v (sh Y T i x.2) := fun z => b (lt_trans hx hv (P.pos h1 hi ok.le) hl z)
          rw [sh_lt] at c
          omega
        · have a := ih i h1 (by have := ok.st; omega)
          rw [← ok.st] at a
          have b := lt_sh.mp hl
          omega
      · have : i = x.2 := by omega
        rw [this]
        exact Int.le_refl _
/-- the whole division -/
abbrev Div (Y T : Int → Int) (n : Int) (l : List (Int × Int)) : Prop := ∃ r, run Y T n l (some (0, (-1, 1))) = some (n, r)
theorem Div.at (P : Pts Y T n) {l : List (Int × Int)} (h : Div Y T n l) {x : Int × Int} (hx : x ∈ l) : 0 ≤ x.1 ∧ x.1 < x.2 ∧ x.2 ≤ n ∧ ∀ i, 0 ≤ i → i ≤ n → Gv Y T (sh Y T x.1 x.2) x.1 ≤ Gv Y T (sh Y T x.1 x.2) i := by
  obtain ⟨r, h⟩ := h
  obtain ⟨l1, l2, e⟩ := List.append_of_mem hx
  subst e
  rw [run_append] at h
  cases q : run Y T n l1 (some (0, (-1, 1))) with
  | none =>
    rw [q, run_none] at h
    cases h
  | some s =>
    rw [q] at h
    obtain ⟨ok, h2⟩ := run_cons_some h
    have a := (run_le q).1
    have st := ok.st
    have lt := ok.lt
    have hp : 0 < (sh Y T x.1 x.2).2 := P.pos (by rw [st]; exact a) (by rw [st]; exact lt) ok.le
    obtain ⟨b, c, d⟩ := supL P hp _ rfl q ok.up
    refine ⟨by dsimp only at a; omega, by omega, ok.le, fun i h0 h1 => ?_⟩
    by_cases hi : i ≤ s.1
    · rw [st]
      rw [st] at d
      exact d i h0 hi
    · have e := supR P hp (s := (x.2, sh Y T x.1 x.2)) (by dsimp only at a ⊢; omega) hp h2 (fun z => Int.lt_irrefl _ (show (sh Y T x.1 x.2).1 * (sh Y T x.1 x.2).2 < (sh Y T x.1 x.2).1 * (sh Y T x.1 x.2).2 from z))
      dsimp only at e
      by_cases hi2 : x.2 ≤ i
      · rw [g_self]
        exact e i hi2 h1
      · have := ok.lv i (by omega) (by omega)
        rw [lt_sh] at this
        omega
theorem run_cover : ∀ {l : List (Int × Int)} {s p : Int × Ra}, run Y T n l (some s) = some p → ∀ k, s.1 ≤ k → k < p.1 → ∃ x ∈ l, x.1 ≤ k ∧ k < x.2
  | [], s, p, h, k, h1, h2 => by
    cases h
    omega
  | x :: l, s, p, h, k, h1, h2 => by
    obtain ⟨ok, h3⟩ := run_cons_some h
    have st := ok.st
    by_cases hk : k < x.2
    · exact ⟨x, List.mem_cons_self, by omega, hk⟩
    · obtain ⟨y, hy, h4⟩ := run_cover h3 k (by dsimp only; omega) h2
      exact ⟨y, List.mem_cons_of_mem _ hy, h4⟩
theorem Div.cover {l : List (Int × Int)} (h : Div Y T n l) {k : Int} (h0 : 0 ≤ k) (h1 : k < n) : ∃ x ∈ l, x.1 ≤ k ∧ k < x.2 := by
  obtain ⟨r, h⟩ := h
  exact run_cover h k h0 h1
/-- two stretches join -/
theorem join_lv (P : Pts Y T n) {a b c : Int} (h0 : 0 ≤ a) (hab : a < b) (hbc : b < c) (hc : c ≤ n) (l1 : ∀ i, a < i → i < b → ¬ Lt (sh Y T a i) (sh Y T a b)) (l2 : ∀ i, b < i → i < c → ¬ Lt (sh Y T b i) (sh Y T b c))
    (h : ¬ Lt (sh Y T a b) (sh Y T b c)) : ∀ i, a < i → i < c → ¬ Lt (sh Y T a i) (sh Y T a c) := by
  have ta := P.t a b h0 hab (by omega)
  have tb := P.t b c (by omega) hbc hc
  have hac : 0 < (sh Y T a c).2 := P.pos h0 (by omega) hc
  have hab2 : 0 < (sh Y T a b).2 := P.pos h0 hab (by omega)
  have up : ¬ Lt (sh Y T a b) (sh Y T a c) := by
    unfold Lt sh at h ⊢
    dsimp only at h ⊢
    grind
  intro i h1 h2
  by_cases hi : i < b
  · exact le_trans hac hab2 (P.pos h0 h1 (by omega)) up (l1 i h1 hi)
  · by_cases hi2 : b < i
    · have ti := P.t b i (by omega) hi2 (by omega)
      have tj := P.t i c (by omega) h2 hc
      have q := l2 i hi2 h2
      unfold Lt sh at up q ⊢
      dsimp only at up q ⊢
      -- (Yb-Ya)(Tc-Ta) ≥ (Yc-Ya)(Tb-Ta); (Yi-Yb)(Tc-Tb) ≥ (Yc-Yb)(Ti-Tb)
      have A : 0 ≤ ((Y b - Y a) * (T c - T a) - (Y c - Y a) * (T b - T a)) * (T c - T i) := Int.mul_nonneg (by omega) (by omega)
      have B : 0 ≤ ((Y i - Y b) * (T c - T b) - (Y c - Y b) * (T i - T b)) * (T c - T a) := Int.mul_nonneg (by omega) (by omega)
      have e : ((Y i - Y a) * (T c - T a) - (Y c - Y a) * (T i - T a)) * (T c - T b) = ((Y b - Y a) * (T c - T a) - (Y c - Y a) * (T b - T a)) * (T c - T i) + ((Y i - Y b) * (T c - T b) - (Y c - Y b) * (T i - T b)) * (T c - T a) := by grind
      have D : 0 ≤ ((Y i - Y a) * (T c - T a) - (Y c - Y a) * (T i - T a)) * (T c - T b) := by omega
      have := Int.nonneg_of_mul_nonneg_left D (by omega)
      omega
    · have : i = b := by omega
      rw [this]
      exact up
end

/-! least and greatest -/
section
variable {α : Type}
def minF (g : α → Ra) (xs : List α) (z : Ra) : Ra := xs.foldl (fun z x => if Lt (g x) z then g x else z) z
def maxF (g : α → Ra) (xs : List α) (z : Ra) : Ra := xs.foldl (fun z x => if Lt z (g x) then g x else z) z
theorem lt_irr {x : Ra} : ¬ Lt x x := Int.lt_irrefl _
theorem lt_as {x y : Ra} (h : Lt x y) : ¬ Lt y x := by
  unfold Lt at *
  omega
theorem minF_spec {g : α → Ra} : ∀ {xs : List α} {z : Ra}, 0 < z.2 → (∀ x ∈ xs, 0 < (g x).2) → 0 < (minF g xs z).2 ∧ ¬ Lt z (minF g xs z) ∧ (∀ x ∈ xs, ¬ Lt (g x) (minF g xs z)) ∧ (minF g xs z = z ∨ ∃ x ∈ xs, minF g xs z = g x)
  | [], z, hz, _ => ⟨hz, lt_irr, fun x h => (nomatch h), .inl rfl⟩
  | x :: xs, z, hz, hg => by
    have hx := hg x List.mem_cons_self
    by_cases h : Lt (g x) z
    · have e : minF g (x :: xs) z = minF g xs (g x) := by
        show xs.foldl _ (if Lt (g x) z then g x else z) = _
        rw [if_pos h]
        rfl
      obtain ⟨a, b, c, d⟩ := minF_spec (g := g) (xs := xs) (z := g x) hx fun y hy => hg y (List.mem_cons_of_mem _ hy)
      rw [e]
      refine ⟨a, fun q => b (lt_trans hx hz a h q), fun y hy => ?_, .inr ?_⟩
      · rcases List.mem_cons.mp hy with rfl | hy
        · exact b
        · exact c y hy
      · rcases d with d | ⟨y, hy, d⟩
        · exact ⟨x, List.mem_cons_self, d⟩
        · exact ⟨y, List.mem_cons_of_mem _ hy, d⟩
    · have e : minF g (x :: xs) z = minF g xs z := by
        show xs.foldl _ (if Lt (g x) z then g x else z) = _
        rw [if_neg h]
        rfl
      obtain ⟨a, b, c, d⟩ := minF_spec (g := g) (xs := xs) (z := z) hz fun y hy => hg y (List.mem_cons_of_mem _ hy)
      rw [e]
      refine ⟨a, b, fun y hy => ?_, ?_⟩
      · rcases List.mem_cons.mp hy with rfl | hy
        · exact fun q => b (le_lt_trans hz hx a h q)
        · exact c y hy
      · exact d.imp id fun ⟨y, hy, d⟩ => ⟨y, List.mem_cons_of_mem _ hy, d⟩
theorem maxF_spec {g : α → Ra} : ∀ {xs : List α} {z : Ra}, 0 < z.2 → (∀ x ∈ xs, 0 < (g x).2) → 0 < (maxF g xs z).2 ∧ ¬ Lt (maxF g xs z) z ∧ (∀ x ∈ xs, ¬ Lt (maxF g xs z) (g x)) ∧ (maxF g xs z = z ∨ ∃ x ∈ xs, maxF g xs z = g x)
  | [], z, hz, _ => ⟨hz, lt_irr, fun x h => (nomatch h), .inl rfl⟩
  | x :: xs, z, hz, hg => by
    have hx := hg x List.mem_cons_self
    by_cases h : Lt z (g x)
    · have e : maxF g (x :: xs) z = maxF g xs (g x) := by
        show xs.foldl _ (if Lt z (g x) then g x else z) = _
        rw [if_pos h]
        rfl
      obtain ⟨a, b, c, d⟩ := maxF_spec (g := g) (xs := xs) (z := g x) hx fun y hy => hg y (List.mem_cons_of_mem _ hy)
      rw [e]
      refine ⟨a, fun q => b (lt_trans a hz hx q h), fun y hy => ?_, .inr ?_⟩
      · rcases List.mem_cons.mp hy with rfl | hy
        · exact b
        · exact c y hy
      · rcases d with d | ⟨y, hy, d⟩
        · exact ⟨x, List.mem_cons_self, d⟩
        · exact ⟨y, List.mem_cons_of_mem _ hy, d⟩
    · have e : maxF g (x :: xs) z = maxF g xs z := by
        show xs.foldl _ (if Lt z (g x) then g x else z) = _
        rw [if_neg h]
        rfl
      obtain ⟨a, b, c, d⟩ := maxF_spec (g := g) (xs := xs) (z := z) hz fun y hy => hg y (List.mem_cons_of_mem _ hy)
      rw [e]
      refine ⟨a, b, fun y hy => ?_, ?_⟩
      · rcases List.mem_cons.mp hy with rfl | hy
        · exact fun q => b (lt_le_trans a hx hz q h)
        · exact c y hy
      · exact d.imp id fun ⟨y, hy, d⟩ => ⟨y, List.mem_cons_of_mem _ hy, d⟩
theorem minF_pred {g : α → Ra} {q : Ra → Prop} {xs : List α} {z : Ra} (hz : q z) (hg : ∀ x ∈ xs, q (g x)) : q (minF g xs z) := by
  induction xs generalizing z with
  | nil => exact hz
  | cons x xs ih =>
    show q (minF g xs (if Lt (g x) z then g x else z))
    refine ih ?_ fun y hy => hg y (List.mem_cons_of_mem _ hy)
    split
    · exact hg x List.mem_cons_self
    · exact hz
theorem maxF_pred {g : α → Ra} {q : Ra → Prop} {xs : List α} {z : Ra} (hz : q z) (hg : ∀ x ∈ xs, q (g x)) : q (maxF g xs z) := by
  induction xs generalizing z with
  | nil => exact hz
  | cons x xs ih =>
    show q (maxF g xs (if Lt z (g x) then g x else z))
    refine ih ?_ fun y hy => hg y (List.mem_cons_of_mem _ hy)
    split
    · exact hg x List.mem_cons_self
    · exact hz
end
section
variable {Y T : Int → Int} {n : Int}
/-- the greatest of the least, the least of the greatest: the share of the stretch -/
structure Wt (Y T : Int → Int) (n : Int) (w : Int → Int → Ra) : Prop where
  p : ∀ a b, 0 ≤ a → a < b → b ≤ n → 0 < (w a b).2
  e : ∀ a b, 0 ≤ a → a < b → b ≤ n → Eqv (w a b) (sh Y T a b)
def mxn (n k : Int) (w : Int → Int → Ra) (z0 z1 : Ra) : Ra := maxF (fun s => minF (fun e => w s e) (rangeL (k + 1) (n + 1)) z1) (rangeL 0 (k + 1)) z0
def mnx (n k : Int) (w : Int → Int → Ra) (z0 z1 : Ra) : Ra := minF (fun e => maxF (fun s => w s e) (rangeL 0 (k + 1)) z0) (rangeL (k + 1) (n + 1)) z1
theorem not_lt_eqv {x x' y y' : Ra} (hx : 0 < x.2) (hx' : 0 < x'.2) (hy : 0 < y.2) (hy' : 0 < y'.2) (ex : Eqv x x') (ey : Eqv y y') (h : ¬ Lt x' y') : ¬ Lt x y := fun z => h ((lt_congr hx hx' hy hy' ex ey).mp z)
theorem eqv_refl {x : Ra} : Eqv x x := rfl
theorem mxn_eq (P : Pts Y T n) {l : List (Int × Int)} (h : Div Y T n l) {x : Int × Int} (hx : x ∈ l) {k : Int} (h0 : x.1 ≤ k) (h1 : k < x.2) {w : Int → Int → Ra} (W : Wt Y T n w) {z0 z1 : Ra} (p0 : 0 < z0.2) (p1 : 0 < z1.2)
    (u0 : ¬ Lt (sh Y T x.1 x.2) z0) (u1 : ¬ Lt z1 (sh Y T x.1 x.2)) : Eqv (mxn n k w z0 z1) (sh Y T x.1 x.2) ∧ 0 < (mxn n k w z0 z1).2 := by
  obtain ⟨a, b, c, d⟩ := h.at P hx
  have hv : 0 < (sh Y T x.1 x.2).2 := P.pos a b c
  have inn : ∀ s ∈ rangeL 0 (k + 1), 0 < (minF (fun e => w s e) (rangeL (k + 1) (n + 1)) z1).2 ∧ ¬ Lt (sh Y T x.1 x.2) (minF (fun e => w s e) (rangeL (k + 1) (n + 1)) z1) := fun s hs => by
    have hs := mem_rangeL.mp hs
    obtain ⟨m1, m2, m3, m4⟩ := minF_spec (g := fun e => w s e) (xs := rangeL (k + 1) (n + 1)) p1 fun e he => by
      have he := mem_rangeL.mp he
      exact W.p s e hs.1 (by omega) (by omega)
    refine ⟨m1, ?_⟩
    have q := m3 x.2 (mem_rangeL.mpr ⟨by omega, by omega⟩)
    have hw := W.p s x.2 hs.1 (by omega) c
    have hsh := P.pos hs.1 (show s < x.2 by omega) c
    have le : ¬ Lt (sh Y T x.1 x.2) (w s x.2) := not_lt_eqv hv hv hw hsh eqv_refl (W.e s x.2 hs.1 (by omega) c) fun z => by
      rw [sh_lt] at z
      have := d s hs.1 (by omega)
      rw [g_self] at this
      omega
    exact le_trans m1 hw hv q le
  obtain ⟨M1, M2, M3, M4⟩ := maxF_spec (g := fun s => minF (fun e => w s e) (rangeL (k + 1) (n + 1)) z1) (xs := rangeL 0 (k + 1)) p0 fun s hs => (inn s hs).1
  refine ⟨eqv_of ?_ ?_, M1⟩
  · have hs : x.1 ∈ rangeL 0 (k + 1) := mem_rangeL.mpr ⟨a, by omega⟩
    obtain ⟨m1, m2, m3, m4⟩ := minF_spec (g := fun e => w x.1 e) (xs := rangeL (k + 1) (n + 1)) p1 fun e he => by
      have he := mem_rangeL.mp he
      exact W.p x.1 e a (by omega) (by omega)
    have le : ¬ Lt (minF (fun e => w x.1 e) (rangeL (k + 1) (n + 1)) z1) (sh Y T x.1 x.2) := by
      rcases m4 with m4 | ⟨e, he, m4⟩
      · rw [m4]
        exact u1
      · rw [m4]
        have he := mem_rangeL.mp he
        refine not_lt_eqv (W.p x.1 e a (by omega) (by omega)) (P.pos a (show x.1 < e by omega) (by omega)) hv hv (W.e x.1 e a (by omega) (by omega)) eqv_refl fun z => ?_
        rw [lt_sh] at z
        have := d e (by omega) (by omega)
        omega
    exact le_trans hv m1 M1 le (M3 _ hs)
  · rcases M4 with M4 | ⟨s, hs, M4⟩
    · unfold mxn
      rw [M4]
      exact u0
    · unfold mxn
      rw [M4]
      exact (inn s hs).2
theorem mnx_eq (P : Pts Y T n) {l : List (Int × Int)} (h : Div Y T n l) {x : Int × Int} (hx : x ∈ l) {k : Int} (h0 : x.1 ≤ k) (h1 : k < x.2) {w : Int → Int → Ra} (W : Wt Y T n w) {z0 z1 : Ra} (p0 : 0 < z0.2) (p1 : 0 < z1.2)
    (u0 : ¬ Lt (sh Y T x.1 x.2) z0) (u1 : ¬ Lt z1 (sh Y T x.1 x.2)) : Eqv (mnx n k w z0 z1) (sh Y T x.1 x.2) ∧ 0 < (mnx n k w z0 z1).2 := by
  obtain ⟨a, b, c, d⟩ := h.at P hx
  have hv : 0 < (sh Y T x.1 x.2).2 := P.pos a b c
  have inn : ∀ e ∈ rangeL (k + 1) (n + 1), 0 < (maxF (fun s => w s e) (rangeL 0 (k + 1)) z0).2 ∧ ¬ Lt (maxF (fun s => w s e) (rangeL 0 (k + 1)) z0) (sh Y T x.1 x.2) := fun e he => by
    have he := mem_rangeL.mp he
    obtain ⟨m1, m2, m3, m4⟩ := maxF_spec (g := fun s => w s e) (xs := rangeL 0 (k + 1)) p0 fun s hs => by
      have hs := mem_rangeL.mp hs
      exact W.p s e hs.1 (by omega) (by omega)
    refine ⟨m1, ?_⟩
    have q := m3 x.1 (mem_rangeL.mpr ⟨a, by omega⟩)
    have hw := W.p x.1 e a (by omega) (by omega)
    have hsh := P.pos a (show x.1 < e by omega) (by omega)
    have le : ¬ Lt (w x.1 e) (sh Y T x.1 x.2) := not_lt_eqv hw hsh hv hv (W.e x.1 e a (by omega) (by omega)) eqv_refl fun z => by
      rw [lt_sh] at z
      have := d e (by omega) (by omega)
      omega
    exact le_trans hv hw m1 le q
  obtain ⟨M1, M2, M3, M4⟩ := minF_spec (g := fun e => maxF (fun s => w s e) (rangeL 0 (k + 1)) z0) (xs := rangeL (k + 1) (n + 1)) p1 fun s hs => (inn s hs).1
  refine ⟨eqv_of ?_ ?_, M1⟩
  · rcases M4 with M4 | ⟨s, hs, M4⟩
    · unfold mnx
      rw [M4]
      exact u1
    · unfold mnx
      rw [M4]
      exact (inn s hs).2
  · have hs : x.2 ∈ rangeL (k + 1) (n + 1) := mem_rangeL.mpr ⟨by omega, by omega⟩
    obtain ⟨m1, m2, m3, m4⟩ := maxF_spec (g := fun s => w s x.2) (xs := rangeL 0 (k + 1)) p0 fun s hs => by
      have hs := mem_rangeL.mp hs
      exact W.p s x.2 hs.1 (by omega) c
    have le : ¬ Lt (sh Y T x.1 x.2) (maxF (fun s => w s x.2) (rangeL 0 (k + 1)) z0) := by
      rcases m4 with m4 | ⟨s, hs, m4⟩
      · rw [m4]
        exact u0
      · rw [m4]
        have hs := mem_rangeL.mp hs
        refine not_lt_eqv hv hv (W.p s x.2 hs.1 (by omega) c) (P.pos hs.1 (show s < x.2 by omega) c) eqv_refl (W.e s x.2 hs.1 (by omega) c) fun z => ?_
        rw [sh_lt] at z
        have := d s hs.1 (by omega)
        rw [g_self] at this
        omega
    exact le_trans M1 m1 hv (M3 _ hs) le
end
/-! Euclid -/
def Fb : Nat → Nat
  | 0 => 1
  | 1 => 2
  | k + 2 => Fb (k + 1) + Fb k
def egcd : Nat → Nat → Nat → Option Nat
  | 0, _, _ => none
  | k + 1, a, b => if b = 0 then some a else egcd k b (a % b)
theorem egcd_ok : ∀ (m : Nat) {a b : Nat}, b < a → (a < Fb (m + 1) ∨ b < Fb m) → egcd (m + 1) a b = some (Nat.gcd a b)
  | 0, a, b, h, hb => by
    have : b = 0 := by
      rcases hb with hb | hb
      · have : Fb (0 + 1) = 2 := rfl
        omega
      · have : Fb 0 = 1 := rfl
        omega
    subst this
    unfold egcd
    rw [if_pos rfl, Nat.gcd_zero_right]
  | m + 1, a, b, h, hb => by
    unfold egcd
    by_cases h0 : b = 0
    · rw [if_pos h0, h0, Nat.gcd_zero_right]
    · rw [if_neg h0]
      have hm := Nat.mod_lt a (show 0 < b by omega)
      rw [egcd_ok m hm ?_, Nat.gcd_comm b, ← Nat.gcd_rec, Nat.gcd_comm]
      by_cases hb2 : b < Fb (m + 1)
      · exact .inl hb2
      · right
        have ha : a < Fb (m + 2) := hb.resolve_right hb2
        have e : Fb (m + 2) = Fb (m + 1) + Fb m := rfl
        have : a % b ≤ a - b := by
          rw [Nat.mod_eq_sub_mod (by omega)]
          exact Nat.mod_le _ _
        omega
theorem Fb_pos : ∀ m, 0 < Fb m
  | 0 => by decide
  | 1 => by decide
  | m + 2 => Nat.add_pos_left (Fb_pos (m + 1)) _
theorem Fb_le : ∀ m, Fb m ≤ Fb (m + 1)
  | 0 => by decide
  | m + 1 => Nat.le_add_right _ _
theorem Fb_mono {a b : Nat} (h : a ≤ b) : Fb a ≤ Fb b := by
  induction h with
  | refl => exact Nat.le_refl _
  | step _ ih => exact Nat.le_trans ih (Fb_le _)
/-- one more turn where they stand the other way about -/
theorem egcd_any {m a b : Nat} (h : b < Fb m) (h2 : a < Fb m) : egcd (m + 3) a b = some (Nat.gcd a b) := by
  by_cases hab : b < a
  · exact egcd_ok (m + 2) hab (.inr (Nat.lt_of_lt_of_le h (Fb_mono (by omega))))
  · unfold egcd
    by_cases h0 : b = 0
    · rw [if_pos h0, h0, Nat.gcd_zero_right]
    · rw [if_neg h0, egcd_ok (m + 1) (Nat.mod_lt a (by omega)) (.inr ?_), Nat.gcd_comm b, ← Nat.gcd_rec, Nat.gcd_comm]
      exact Nat.lt_of_le_of_lt (Nat.mod_le a b) (Nat.lt_of_lt_of_le h2 (Fb_mono (by omega)))

/-! the groups -/
abbrev Row := Int × Int
def VG (x : Row) : Prop := 0 ≤ x.1 ∧ x.1 ≤ 100000 ∧ 0 ≤ x.2 ∧ x.2 ≤ 100000 ∧ 0 < x.1 + x.2
structure Val (rows : List Row) : Prop where
  len : rows.length ≤ 24
  pos : 1 ≤ rows.length
  ok : ∀ x ∈ rows, VG x
def sf (f : Row → Int) (rows : List Row) (i : Int) : Int := ((rows.take i.toNat).map f).sum
def Yr (rows : List Row) (i : Int) : Int := sf (fun x => x.1) rows i
def Tr (rows : List Row) (i : Int) : Int := sf (fun x => x.1) rows i + sf (fun x => x.2) rows i
theorem cut_mid {α : Type} {xs : List α} {s e : Int} (h0 : 0 ≤ s) (h : s ≤ e) : cut xs (some s) (some e) = (xs.drop s.toNat).take (e.toNat - s.toNat) := by
  unfold cut
  show (xs.drop (if s < 0 then (s + (xs.length : Int)).toNat else min s.toNat xs.length)).take ((if e < 0 then (e + (xs.length : Int)).toNat else min e.toNat xs.length) - (if s < 0 then (s + (xs.length : Int)).toNat else min s.toNat xs.length)) = _
  rw [if_neg (by omega), if_neg (by omega)]
  by_cases h1 : s.toNat ≤ xs.length
  · rw [Nat.min_eq_left h1]
    by_cases h2 : e.toNat ≤ xs.length
    · rw [Nat.min_eq_left h2]
    · rw [Nat.min_eq_right (by omega), List.take_of_length_le (by rw [List.length_drop]; omega), List.take_of_length_le (by rw [List.length_drop]; omega)]
  · rw [show min s.toNat xs.length = xs.length from Nat.min_eq_right (by omega), List.drop_length, List.drop_eq_nil_of_le (by omega), List.take_nil, List.take_nil]
theorem sum_cut (f : Row → Int) {xs : List Row} {s e : Int} (h0 : 0 ≤ s) (h : s ≤ e) : ((cut xs (some s) (some e)).map f).sum = sf f xs e - sf f xs s := by
  rw [cut_mid h0 h]
  unfold sf
  have : xs.take e.toNat = xs.take s.toNat ++ (xs.drop s.toNat).take (e.toNat - s.toNat) := by
    rw [← List.take_add]
    congr 1
    omega
  rw [this, List.map_append, List.sum_append]
  omega
theorem sum_ge {f : Row → Int} {c : Int} : ∀ {xs : List Row}, (∀ x ∈ xs, c ≤ f x) → c * xs.length ≤ (xs.map f).sum
  | [], _ => by simp
  | x :: xs, h => by
    have a := h x List.mem_cons_self
    have b := sum_ge fun y hy => h y (List.mem_cons_of_mem _ hy)
    rw [List.map_cons, List.sum_cons, List.length_cons, Int.natCast_add, Int.mul_add]
    simp only [Int.cast_ofNat_Int, Int.mul_one]
    omega
theorem sum_le {f : Row → Int} {c : Int} : ∀ {xs : List Row}, (∀ x ∈ xs, f x ≤ c) → (xs.map f).sum ≤ c * xs.length
  | [], _ => by simp
  | x :: xs, h => by
    have a := h x List.mem_cons_self
    have b := sum_le fun y hy => h y (List.mem_cons_of_mem _ hy)
    rw [List.map_cons, List.sum_cons, List.length_cons, Int.natCast_add, Int.mul_add]
    simp only [Int.cast_ofNat_Int, Int.mul_one]
    omega
theorem mem_cut {α : Type} {xs : List α} {a b : Option Int} {x : α} (h : x ∈ cut xs a b) : x ∈ xs := by
  unfold cut at h
  exact List.mem_of_mem_drop (List.mem_of_mem_take h)
theorem cut_len {α : Type} {xs : List α} {s e : Int} (h0 : 0 ≤ s) (h : s ≤ e) (h1 : e ≤ xs.length) : ((cut xs (some s) (some e)).length : Int) = e - s := by
  rw [cut_mid h0 h, List.length_take, List.length_drop]
  omega
/-- what is so of the shares -/
structure Bd (x : Ra) : Prop where
  a : 0 ≤ x.1
  b : x.1 ≤ x.2
  c : 0 < x.2
  d : x.2 ≤ 4800000
theorem tr_sub {rows : List Row} {s e : Int} (h0 : 0 ≤ s) (h : s ≤ e) : Tr rows e - Tr rows s = ((cut rows (some s) (some e)).map fun x => x.1).sum + ((cut rows (some s) (some e)).map fun x => x.2).sum := by
  rw [sum_cut _ h0 h, sum_cut _ h0 h]
  unfold Tr
  omega
theorem Val.bd {rows : List Row} (V : Val rows) {s e : Int} (h0 : 0 ≤ s) (h : s < e) (h1 : e ≤ rows.length) : Bd (sh (Yr rows) (Tr rows) s e) := by
  have hl := cut_len h0 (Int.le_of_lt h) h1
  have y1 := sum_ge (f := fun x : Row => x.1) (c := 0) (xs := cut rows (some s) (some e)) fun x hx => (V.ok x (mem_cut hx)).1
  have y2 := sum_le (f := fun x : Row => x.1) (c := 100000) (xs := cut rows (some s) (some e)) fun x hx => (V.ok x (mem_cut hx)).2.1
  have n1 := sum_ge (f := fun x : Row => x.2) (c := 0) (xs := cut rows (some s) (some e)) fun x hx => (V.ok x (mem_cut hx)).2.2.1
  have n2 := sum_le (f := fun x : Row => x.2) (c := 100000) (xs := cut rows (some s) (some e)) fun x hx => (V.ok x (mem_cut hx)).2.2.2.1
  have t1 := sum_ge (f := fun x : Row => x.1 + x.2) (c := 1) (xs := cut rows (some s) (some e)) fun x hx => (V.ok x (mem_cut hx)).2.2.2.2
  have et : ∀ l : List Row, (l.map fun x : Row => x.1 + x.2).sum = (l.map fun x : Row => x.1).sum + (l.map fun x : Row => x.2).sum := by
    intro l
    induction l with
    | nil => rfl
    | cons x l ih =>
      simp only [List.map_cons, List.sum_cons, ih]
      omega
  rw [et] at t1
  rw [hl] at y1 y2 n1 n2 t1
  have hlen := V.len
  have ey : Yr rows e - Yr rows s = ((cut rows (some s) (some e)).map fun x => x.1).sum := (sum_cut _ h0 (Int.le_of_lt h)).symm
  have etr := tr_sub (rows := rows) h0 (Int.le_of_lt h)
  exact ⟨by show 0 ≤ Yr rows e - Yr rows s; omega, by show Yr rows e - Yr rows s ≤ Tr rows e - Tr rows s; omega, by show 0 < Tr rows e - Tr rows s; omega, by show Tr rows e - Tr rows s ≤ 4800000; omega⟩
theorem Val.pts {rows : List Row} (V : Val rows) : Pts (Yr rows) (Tr rows) rows.length where
  t := fun i j h0 h h1 => by
    have := (V.bd h0 h h1).c
    unfold sh at this
    dsimp only at this
    omega
  y := fun i j h0 h h1 => by
    by_cases e : i = j
    · rw [e]
      exact Int.le_refl _
    · have := (V.bd h0 (show i < j by omega) h1).a
      unfold sh at this
      dsimp only at this
      omega
theorem lshare_eq {rows : List Row} {s e : Int} (h0 : 0 ≤ s) (h : s ≤ e) : m__law_share rows s e = .ok (sh (Yr rows) (Tr rows) s e) := by
  unfold m__law_share
  simp only [someR_ok, slR_ok, Res.bind_ok, un_ok, mapR_okf, sumR_eq, bin_ok, rAdd_eq, pair_ok]
  rw [← tr_sub h0 h, sum_cut _ h0 h]
  rfl
/-- lowest terms -/
def gc (x : Ra) : Int := ((Nat.gcd x.1.natAbs x.2.natAbs : Nat) : Int)
def red (x : Ra) : Ra := (x.1 / gc x, x.2 / gc x)
theorem gc_pos {x : Ra} (h : x.2 ≠ 0) : 0 < gc x := by
  unfold gc
  have := Nat.gcd_pos_of_pos_right x.1.natAbs (show 0 < x.2.natAbs by omega)
  omega
theorem gc_le {x : Ra} (h : 0 < x.2) : gc x ≤ x.2 := by
  unfold gc
  have := Nat.gcd_le_right (n := x.2.natAbs) x.1.natAbs (by omega)
  omega
theorem gc_dvd1 {x : Ra} : gc x ∣ x.1 := by
  unfold gc
  exact Int.ofNat_dvd_left.mpr (Nat.gcd_dvd_left _ _)
theorem gc_dvd2 {x : Ra} : gc x ∣ x.2 := by
  unfold gc
  exact Int.ofNat_dvd_left.mpr (Nat.gcd_dvd_right _ _)
theorem red_mul {x : Ra} : (red x).1 * gc x = x.1 ∧ (red x).2 * gc x = x.2 := ⟨Int.ediv_mul_cancel gc_dvd1, Int.ediv_mul_cancel gc_dvd2⟩
theorem red_eqv {x : Ra} : Eqv (red x) x := by
  obtain ⟨a, b⟩ := red_mul (x := x)
  unfold Eqv
  generalize red x = r at a b ⊢
  rw [← a, ← b]
  grind
theorem red_bd {x : Ra} (h : Bd x) : Bd (red x) := by
  obtain ⟨a, b⟩ := red_mul (x := x)
  have g := gc_pos (x := x) (by have := h.c; omega)
  have ha := h.a
  have hb := h.b
  have hc := h.c
  have hd := h.d
  have e1 : 0 ≤ (red x).1 := Int.ediv_nonneg ha (Int.le_of_lt g)
  have e2 : (red x).1 ≤ (red x).2 := Int.ediv_le_ediv g hb
  have e3 : (red x).2 ≤ x.2 := Int.ediv_le_self _ (Int.le_of_lt hc)
  have e4 : 0 < (red x).2 := by
    by_cases z : 0 < (red x).2
    · exact z
    · have : (red x).2 * gc x ≤ 0 := Int.mul_nonpos_of_nonpos_of_nonneg (by omega) (Int.le_of_lt g)
      omega
  exact ⟨e1, e2, e4, by omega⟩
theorem red_gcd {x : Ra} (h : x.2 ≠ 0) : Nat.gcd (red x).1.natAbs (red x).2.natAbs = 1 := by
  have g := gc_pos h
  have e1 : (red x).1.natAbs = x.1.natAbs / Nat.gcd x.1.natAbs x.2.natAbs := by
    unfold red
    dsimp only
    rw [Int.natAbs_ediv_of_dvd gc_dvd1]
    rfl
  have e2 : (red x).2.natAbs = x.2.natAbs / Nat.gcd x.1.natAbs x.2.natAbs := by
    unfold red
    dsimp only
    rw [Int.natAbs_ediv_of_dvd gc_dvd2]
    rfl
  rw [e1, e2]
  exact Nat.gcd_div_gcd_div_gcd_of_pos_right (by omega)
theorem ratio_eq {x : Ra} (h : Bd x) : m_ratio x.1 x.2 = .ok (red x) := by
  unfold m_ratio
  have hc := h.c
  have hd := h.d
  have g1 := gc_pos (x := x) (by omega)
  have g2 := gc_le hc
  simp only [bin_ok, eqR_eq, ifR_ok, rLt_eq]
  rw [if_neg (by simp; omega), if_neg (by simp; omega)]
  simp only [Res.bind_ok, pair_ok, un_ok, gcdR_eq, bin_ok]
  show ((pair (rDiv x.1 (gc x)) (rDiv x.2 (gc x))).bind fun a => Res.ok a) = _
  rw [rDiv_ok ⟨g1, by omega⟩, rDiv_ok ⟨g1, by omega⟩]
  rfl
theorem share_eq {rows : List Row} (V : Val rows) {s e : Int} (h0 : 0 ≤ s) (h : s < e) (h1 : e ≤ rows.length) : m_stretch_share rows s e = .ok (red (sh (Yr rows) (Tr rows) s e)) := by
  unfold m_stretch_share
  simp only [someR_ok, slR_ok, Res.bind_ok, un_ok, mapR_okf, sumR_eq, bin_ok, rAdd_eq, pair_ok]
  rw [← tr_sub h0 (Int.le_of_lt h), sum_cut _ h0 (Int.le_of_lt h)]
  show (m_ratio (sh (Yr rows) (Tr rows) s e).1 (sh (Yr rows) (Tr rows) s e).2).bind _ = _
  rw [ratio_eq (V.bd h0 h h1)]
  rfl
/-- ratios that can be compared -/
structure Sm (x : Ra) : Prop where
  p : 0 < x.2
  a : x.2 ≤ 5000000
  b : -5000000 ≤ x.1
  c : x.1 ≤ 5000000
theorem Bd.sm {x : Ra} (h : Bd x) : Sm x := by
  obtain ⟨a, b, c, d⟩ := h
  exact ⟨c, by omega, by omega, by omega⟩
theorem mul_ok {x y : Ra} (h : Sm x) : rMul x.1 y.2 = .ok (x.1 * y.2) := by
  obtain ⟨a, b, c, d⟩ := h
  exact rMul_ok (.inl (by omega))
theorem less_eq {x y : Ra} (hx : Sm x) (hy : Sm y) : m__law_less x y = .ok (decide (Lt x y)) := by
  unfold m__law_less
  simp only [un_ok, bin_ok, mul_ok hx, mul_ok hy, rLt_eq, Res.bind_ok]
  rfl
theorem compare_eq {x y : Ra} (hx : Sm x) (hy : Sm y) : m_compare x y = .ok (if Lt x y then -1 else if Lt y x then 1 else 0) := by
  unfold m_compare
  simp only [un_ok, bin_ok, mul_ok hx, mul_ok hy, rLt_eq, rGt_eq, Res.bind_ok, ifR_ok, rNeg_eq, decide_eq_true_eq]
  by_cases h1 : x.1 * y.2 < y.1 * x.2
  · rw [if_pos h1, if_pos (show Lt x y from h1)]
  · rw [if_neg h1, if_neg (show ¬ Lt x y from h1)]
    by_cases h2 : y.1 * x.2 < x.1 * y.2
    · rw [if_pos h2, if_pos (show Lt y x from h2)]
    · rw [if_neg h2, if_neg (show ¬ Lt y x from h2)]
theorem cmp_ge {x y : Ra} : decide (0 ≤ (if Lt x y then (-1 : Int) else if Lt y x then 1 else 0)) = !decide (Lt x y) := by
  by_cases h : Lt x y
  · rw [if_pos h, decide_eq_true h]
    rfl
  · rw [if_neg h, decide_eq_false h]
    split <;> rfl
theorem cmp_lt {x y : Ra} : decide ((if Lt x y then (-1 : Int) else if Lt y x then 1 else 0) < 0) = decide (Lt x y) := by
  by_cases h : Lt x y
  · rw [if_pos h, decide_eq_true h]
    rfl
  · rw [if_neg h, decide_eq_false h]
    split <;> rfl
theorem cmp_le {x y : Ra} : decide ((if Lt x y then (-1 : Int) else if Lt y x then 1 else 0) ≤ 0) = !decide (Lt y x) := by
  by_cases h : Lt x y
  · rw [if_pos h, decide_eq_false (lt_as h)]
    rfl
  · rw [if_neg h]
    by_cases h2 : Lt y x
    · rw [if_pos h2, decide_eq_true h2]
      rfl
    · rw [if_neg h2, decide_eq_false h2]
      rfl
/-! the law's chance -/
theorem loop_min {α : Type} {f : α → Ra → Res Ra} {g : α → Ra} {q : Ra → Prop} : ∀ {xs : List α} {z : Ra}, (∀ x ∈ xs, q (g x)) → (∀ x z, x ∈ xs → q z → f x z = .ok (if Lt (g x) z then g x else z)) → q z → loopN f xs z = .ok (minF g xs z)
  | [], z, _, _, _ => rfl
  | x :: xs, z, hg, hf, hz => by
    rw [loopN_cons, hf x z List.mem_cons_self hz, Res.bind_ok]
    refine loop_min (fun y hy => hg y (List.mem_cons_of_mem _ hy)) (fun y z hy => hf y z (List.mem_cons_of_mem _ hy)) ?_
    split
    · exact hg x List.mem_cons_self
    · exact hz
theorem loop_max {α : Type} {f : α → Ra → Res Ra} {g : α → Ra} {q : Ra → Prop} : ∀ {xs : List α} {z : Ra}, (∀ x ∈ xs, q (g x)) → (∀ x z, x ∈ xs → q z → f x z = .ok (if Lt z (g x) then g x else z)) → q z → loopN f xs z = .ok (maxF g xs z)
  | [], z, _, _, _ => rfl
  | x :: xs, z, hg, hf, hz => by
    rw [loopN_cons, hf x z List.mem_cons_self hz, Res.bind_ok]
    refine loop_max (fun y hy => hg y (List.mem_cons_of_mem _ hy)) (fun y z hy => hf y z (List.mem_cons_of_mem _ hy)) ?_
    split
    · exact hg x List.mem_cons_self
    · exact hz
theorem sh_wt {rows : List Row} (V : Val rows) : Wt (Yr rows) (Tr rows) rows.length (sh (Yr rows) (Tr rows)) := ⟨fun a b h0 h h1 => (V.bd h0 h h1).c, fun _ _ _ _ _ => eqv_refl⟩
theorem red_wt {rows : List Row} (V : Val rows) : Wt (Yr rows) (Tr rows) rows.length (fun a b => red (sh (Yr rows) (Tr rows) a b)) := ⟨fun a b h0 h h1 => (red_bd (V.bd h0 h h1)).c, fun _ _ _ _ _ => red_eqv⟩
theorem inner_sm {rows : List Row} (V : Val rows) {k s : Int} (h0 : 0 ≤ s) (hk : s ≤ k) {w : Int → Int → Ra} {q : Ra → Prop} (hw : ∀ a b : Int, 0 ≤ a → a < b → b ≤ (rows.length : Int) → q (w a b)) {z : Ra} (hz : q z) : q (minF (fun e => w s e) (rangeL (k + 1) (rows.length + 1)) z) :=
  minF_pred hz fun e he => by
    have := mem_rangeL.mp he
    exact hw s e h0 (by omega) (by omega)
theorem chance_eq {rows : List Row} (V : Val rows) {k : Int} (h0 : 0 ≤ k) (h1 : k < rows.length) : m__law_chance rows k = .ok (mxn rows.length k (sh (Yr rows) (Tr rows)) (-1, 1) (2, 1)) := by
  unfold m__law_chance
  have hlen := V.len
  have sw : ∀ a b, 0 ≤ a → a < b → b ≤ (rows.length : Int) → Sm (sh (Yr rows) (Tr rows) a b) := fun a b h0 h h1 => (V.bd h0 h h1).sm
  have s1 : Sm (-1, 1) := ⟨by decide, by decide, by decide, by decide⟩
  have s2 : Sm (2, 1) := ⟨by decide, by decide, by decide, by decide⟩
  simp only [un_ok, rNeg_eq, pair_ok, Res.bind_ok, bin_ok, rAdd_eq, rLen_eq, rng1_ok (n := k + 1) (by omega), rng2_ok (a := k + 1) (b := (rows.length : Int) + 1) (by omega)]
  rw [loop_max (g := fun s => minF (fun e => sh (Yr rows) (Tr rows) s e) (rangeL (k + 1) (rows.length + 1)) (2, 1)) (q := Sm) (fun s hs => ?_) (fun s z hs hz => ?_) s1]
  · rfl
  · have := mem_rangeL.mp hs
    exact inner_sm V (by omega) (by omega) sw s2
  · have hs := mem_rangeL.mp hs
    rw [loop_min (g := fun e => sh (Yr rows) (Tr rows) s e) (q := Sm) (fun e he => ?_) (fun e y he hy => ?_) s2]
    · simp only [Res.bind_ok, less_eq hz (inner_sm V (k := k) hs.1 (by omega) sw s2), ifR_ok, decide_eq_true_eq]
      split <;> rfl
    · have he := mem_rangeL.mp he
      exact sw s e hs.1 (by omega) (by omega)
    · have he := mem_rangeL.mp he
      simp only [lshare_eq (rows := rows) (s := s) (e := e) hs.1 (by omega), Res.bind_ok, less_eq (sw s e hs.1 (by omega) (by omega)) hy, ifR_ok, decide_eq_true_eq]
      split <;> rfl

/-! the program's division -/
theorem ix_last {α : Type} {L : List α} {x : α} : ix (L ++ [x]) (-1) = .ok x := by
  unfold ix
  rw [if_neg (by decide), if_pos (by rw [List.length_append, List.length_singleton]; omega)]
  have : ((-1 : Int) + ((L ++ [x]).length : Int)).toNat = L.length := by
    rw [List.length_append, List.length_singleton]
    omega
  rw [this, List.getElem?_append_right (Nat.le_refl _), Nat.sub_self]
  rfl
theorem pop_last {α : Type} {L : List α} {x : α} : popR (L ++ [x]) = .ok (x, L) := by
  unfold popR
  rw [List.getLast?_append, List.dropLast_concat]
  rfl
section
variable {Y T : Int → Int} {n : Int}
theorem run_len : ∀ {l : List (Int × Int)} {s p : Int × Ra}, run Y T n l (some s) = some p → (l.length : Int) ≤ p.1 - s.1
  | [], s, p, h => by
    cases h
    simp
  | x :: l, s, p, h => by
    obtain ⟨ok, h2⟩ := run_cons_some h
    have := run_len h2
    have a := ok.lt
    rw [List.length_cons]
    dsimp only at this
    omega
/-- the stack while one more group is joined to it -/
structure Stk (Y T : Int → Int) (n k : Int) (st : List (Int × Int)) (a : Int) : Prop where
  r : ∃ v, run Y T n st (some (0, (-1, 1))) = some (a, v)
  lt : a < k
  lv : ∀ i, a < i → i < k → ¬ Lt (sh Y T a i) (sh Y T a k)
theorem Stk.last (P : Pts Y T n) {k a : Int} {L : List (Int × Int)} {x : Int × Int} (h : Stk Y T n k (L ++ [x]) a) : 0 ≤ x.1 ∧ x.1 < a ∧ x.2 = a ∧ a ≤ n ∧ (∃ v, run Y T n L (some (0, (-1, 1))) = some (x.1, v) ∧ 0 < v.2) ∧ (∀ i, x.1 < i → i < a → ¬ Lt (sh Y T x.1 i) (sh Y T x.1 a)) ∧ run Y T n (L ++ [x]) (some (0, (-1, 1))) = some (a, sh Y T x.1 a) := by
  obtain ⟨v, r⟩ := h.r
  obtain ⟨s, h1, ok, e⟩ := run_snoc_some r
  cases e
  have a := (run_le h1).1
  have b := ok.st
  have c := ok.lt
  have e1 : s = (x.1, s.2) := by rw [b]
  have ps : 0 < s.2.2 := by
    rcases List.eq_nil_or_concat L with e | ⟨l2, y, e⟩
    · rw [e] at h1
      cases h1
      decide
    · rw [e, List.concat_eq_append] at h1
      have a := (run_le h1).1
      obtain ⟨s3, h3, ok3, e3⟩ := run_snoc_some h1
      subst e3
      have b := (run_le h3).1
      exact P.pos (by rw [ok3.st]; exact b) (by rw [ok3.st]; exact ok3.lt) ok3.le
  dsimp only at a
  exact ⟨by omega, by omega, rfl, ok.le, ⟨s.2, e1 ▸ h1, ps⟩, ok.lv, r⟩
end
theorem while_is {rows : List Row} (V : Val rows) {k1 : Int} (hk : k1 ≤ rows.length) {c : (List Row × Int) → Res Bool} {f : (List Row × Int) → Res (Out (List Row × Int) (List Row))} (hc0 : ∀ a, c ([], a) = .ok false)
    (hc : ∀ L x a, 0 ≤ x.1 → x.1 < a → a < k1 → c (L ++ [x], a) = .ok (!decide (Lt (red (sh (Yr rows) (Tr rows) x.1 a)) (red (sh (Yr rows) (Tr rows) a k1))))) (hf : ∀ L x a, f (L ++ [x], a) = .ok (.nx (L, x.1))) : ∀ (N : Nat) {st : List Row} {a : Int}, st.length < N → Stk (Yr rows) (Tr rows) rows.length k1 st a →
    Is (whileF c f N (st, a))
      fun o => ∃ st' a', o = .nx (st', a') ∧ st'.length ≤ st.length ∧ run (Yr rows) (Tr rows) rows.length (st' ++ [(a', k1)]) (some (0, (-1, 1))) = some (k1, sh (Yr rows) (Tr rows) a' k1)
  | 0, st, a, h, _ => by omega
  | N + 1, st, a, h, S => by
    have P := V.pts
    have lt := S.lt
    unfold whileF
    rcases List.eq_nil_or_concat st with e | ⟨L, x, e⟩
    · subst e
      obtain ⟨v, r⟩ := S.r
      cases r
      rw [hc0, Res.bind_ok, if_neg Bool.false_ne_true]
      refine ⟨[], 0, rfl, Nat.le_refl _, ?_⟩
      rw [List.nil_append, run_cons, stp_of ⟨rfl, lt, hk, ?_, S.lv⟩]
      · rfl
      · have := V.bd (Int.le_refl 0) lt hk
        have h1 := this.a
        have h2 := this.c
        unfold Lt
        dsimp only
        omega
    · rw [List.concat_eq_append] at e
      subst e
      obtain ⟨x0, x1, x2, an, ⟨v, rv, pv⟩, xl, xr⟩ := S.last P
      have b1 := V.bd x0 x1 an
      have b2 := V.bd (s := a) (e := k1) (by omega) lt hk
      rw [hc L x a x0 x1 lt, Res.bind_ok]
      have lc : Lt (red (sh (Yr rows) (Tr rows) x.1 a)) (red (sh (Yr rows) (Tr rows) a k1)) ↔ Lt (sh (Yr rows) (Tr rows) x.1 a) (sh (Yr rows) (Tr rows) a k1) := lt_congr (red_bd b1).c b1.c (red_bd b2).c b2.c red_eqv red_eqv
      by_cases hl : Lt (sh (Yr rows) (Tr rows) x.1 a) (sh (Yr rows) (Tr rows) a k1)
      · rw [decide_eq_true (lc.mpr hl), Bool.not_true, if_neg Bool.false_ne_true]
        refine ⟨_, _, rfl, Nat.le_refl _, ?_⟩
        rw [run_append, xr, run_cons, stp_of ⟨rfl, lt, hk, hl, S.lv⟩]
        rfl
      · rw [decide_eq_false (fun z => hl (lc.mp z)), Bool.not_false, if_pos rfl, hf, Res.bind_ok]
        rw [List.length_append, List.length_singleton] at h ⊢
        exact (while_is V hk hc0 hc hf N (st := L) (a := x.1) (by omega) ⟨⟨v, rv⟩, by omega, join_lv P x0 x1 lt hk xl S.lv hl⟩).imp fun o ⟨st', a', h1, h2, h3⟩ => ⟨st', a', h1, by omega, h3⟩
theorem blocks_is {rows : List Row} (V : Val rows) : Is (m_blocks_of rows) fun l => Div (Yr rows) (Tr rows) rows.length l ∧ l.length ≤ rows.length ∧ 0 < l.length := by
  unfold m_blocks_of
  have hlen := V.len
  have hp := V.pos
  rw [Res.bind_ok, show (un rng1 (un rLen (Res.ok rows))) = Res.ok (rangeL 0 rows.length) from rng1_ok (by omega), Res.bind_ok]
  refine Is.bind (Q := fun l => Div (Yr rows) (Tr rows) rows.length l ∧ l.length ≤ rows.length ∧ 0 < l.length) ?_ fun l hl => hl
  refine (loopN_inv (fun i (st : List Row) => ∃ v, run (Yr rows) (Tr rows) rows.length st (some (0, (-1, 1))) = some ((i : Int), v)) ⟨_, rfl⟩ fun i x st hx ⟨v, r⟩ => ?_).imp fun l ⟨v, r⟩ => ?_
  · have hx2 := mem_rangeL.mp (List.mem_of_getElem? hx)
    have hx3 := rangeL_get hx
    have hx4 : x = (i : Int) := by omega
    subst hx4
    have hl := run_len r
    rw [Res.bind_ok]
    refine Is.bind (while_is V (k1 := (i : Int) + 1) (by omega) (fun a => rfl) (fun L x a h0 h1 h2 => ?_) (fun L x a => ?_) fuel (st := st) (a := (i : Int)) (by rw [fuel_eq]; dsimp only at hl; omega) ⟨⟨v, r⟩, by omega, fun j h1 h2 => by omega⟩) fun o ⟨st', a', h1, h2, h3⟩ => ?_
    · have b1 := V.bd h0 h1 (by omega)
      have b2 := V.bd (s := a) (e := (i : Int) + 1) (by omega) h2 (by omega)
      have ec := compare_eq (red_bd b1).sm (red_bd b2).sm
      have ene : (!(L ++ [x]).isEmpty) = true := by simp
      simp only [un_ok, neR'_eq, rNeg_eq, bin_ok, rAdd_eq, ix_last, pair_ok, share_eq V h0 h1 (by omega), share_eq V (s := a) (e := (i : Int) + 1) (by omega) h2 (by omega), ec, rGe_eq, cmp_ge, ene, andR_true]
    · rw [pop_last]
      rfl
    subst h1
    dsimp only
    rw [bin_ok, rAdd_eq, pair_ok, Res.bind_ok, push_ok (by dsimp only at hl; omega)]
    exact ⟨_, by rw [Int.natCast_add]; exact h3⟩
  · rw [rangeL_length] at r
    have e : (((rows.length : Int) - 0).toNat : Int) = rows.length := by omega
    rw [e] at r
    have := run_len r
    refine ⟨⟨v, r⟩, by dsimp only at this; omega, ?_⟩
    cases l with
    | nil =>
      have := congrArg (fun o => (o.getD (0, (0, 0))).1) r
      simp only [run_nil, Option.getD_some] at this
      omega
    | cons y l => simp
def fb {α : Type} (ok : α → Bool) : List α → Int → Option Int
  | [], _ => none
  | x :: xs, k => if ok x = true then fb ok xs (k + 1) else some k
theorem loop_first {α : Type} {f : Int × α → Unit → Res Unit} {ok : α → Bool} {c : Ec} (h : ∀ k x, f (k, x) () = if ok x = true then .ok () else .exc c k) : ∀ (l : List α) (k : Int), loopN f (enumF k l) () = match fb ok l k with
    | some k => .exc c k
    | none => .ok ()
  | [], k => rfl
  | x :: l, k => by
    rw [enumF, loopN_cons, h, fb]
    cases ok x with
    | true => exact loop_first h l (k + 1)
    | false => rfl
theorem fb_none {α : Type} {ok : α → Bool} : ∀ {l : List α} {k : Int}, (∀ x ∈ l, ok x = true) → fb ok l k = none
  | [], _, _ => rfl
  | x :: l, k, h => by
    rw [fb, if_pos (h x List.mem_cons_self)]
    exact fb_none fun y hy => h y (List.mem_cons_of_mem _ hy)
theorem fb_at {α : Type} {ok : α → Bool} : ∀ {l : List α} {k : Int} {j : Nat} {x : α}, (∀ i y, i < j → l[i]? = some y → ok y = true) → l[j]? = some x → ok x = false → fb ok l k = some (k + j)
  | [], k, j, x, _, h, _ => by cases h
  | y :: l, k, 0, x, _, h, hx => by
    cases h
    rw [fb, hx, if_neg Bool.false_ne_true]
    simp
  | y :: l, k, j + 1, x, hb, h, hx => by
    rw [fb, if_pos (hb 0 y (Nat.succ_pos _) rfl), fb_at (fun i z hi hz => hb (i + 1) z (Nat.succ_lt_succ hi) hz) h hx]
    congr 1
    omega
def okG (x : Row) : Bool := !(decide (x.1 < 0) || (decide (100000 < x.1) || (decide (x.2 < 0) || decide (100000 < x.2)))) && decide (0 < x.1 + x.2)
theorem okG_iff {x : Row} : okG x = true ↔ VG x := by
  unfold okG VG
  simp only [Bool.and_eq_true, Bool.not_eq_true', Bool.or_eq_false_iff, decide_eq_false_iff_not, decide_eq_true_eq]
  omega
theorem chk_any (rows : List Row) : m_check_groups rows = if 24 < rows.length then .exc .TooMany 24 else if rows.length = 0 then .exc .BadSignals 0 else match fb okG rows 0 with
    | some k => .exc .BadSignals k
    | none => .ok () := by
  unfold m_check_groups
  simp only [un_ok, rLen_eq, bin_ok, rGt_eq, ifR_ok, eqR_eq]
  by_cases h1 : 24 < rows.length
  · rw [if_pos h1, if_pos (by rw [decide_eq_true_eq]; omega)]
    rfl
  · rw [if_neg h1, if_neg (by rw [decide_eq_true_eq]; omega)]
    by_cases h2 : rows.length = 0
    · rw [if_pos h2, if_pos (by rw [decide_eq_true_eq]; omega)]
      rfl
    · rw [if_neg h2, if_neg (by rw [decide_eq_true_eq]; omega), enumR_eq, Res.bind_ok]
      rw [loop_first (ok := okG) (c := .BadSignals) fun k x => ?_]
      · cases fb okG rows 0 <;> rfl
      · simp only [un_ok, pair_ok, m_are_counts, bin_ok, rLt_eq, rGt_eq, orR_ok, ifR_ok, rAdd_eq, Res.bind_ok]
        unfold okG
        cases (decide (x.1 < 0) || (decide (100000 < x.1) || (decide (x.2 < 0) || decide (100000 < x.2)))) with
        | true => rfl
        | false =>
          rw [if_neg Bool.false_ne_true]
          cases decide (0 < x.1 + x.2) <;> rfl
theorem chk_eq {rows : List Row} (V : Val rows) : m_check_groups rows = .ok () := by
  have hlen := V.len
  have hp := V.pos
  rw [chk_any, if_neg (by omega), if_neg (by omega), fb_none fun x hx => okG_iff.mpr (V.ok x hx)]
/-! the rising chances -/
theorem rep_get {l : List Ra} {v : Ra} {m : Nat} {i : Nat} : (l ++ List.replicate m v)[i]? = if i < l.length then l[i]? else if i < l.length + m then some v else none := by
  rw [List.getElem?_append]
  split
  · rfl
  · rw [List.getElem?_replicate]
    by_cases h : i < l.length + m
    · rw [if_pos (by omega), if_pos h]
    · rw [if_neg (by omega), if_neg h]
theorem map_const {α β : Type} (v : β) (l : List α) : l.map (fun _ => v) = List.replicate l.length v := by
  induction l with
  | nil => rfl
  | cons x l ih => rw [List.map_cons, ih, List.length_cons, List.replicate_succ]
theorem chances_loop {rows : List Row} (V : Val rows) {f : Row → List Ra → Res (List Ra)} (hf : ∀ (x : Row) (acc : List Ra), 0 ≤ x.1 → x.1 < x.2 → x.2 ≤ (rows.length : Int) → acc.length ≤ 24 → f x acc = .ok (acc ++ List.replicate (x.2 - x.1).toNat (red (sh (Yr rows) (Tr rows) x.1 x.2)))) :
    ∀ {l : List Row} {acc : List Ra} {s p : Int × Ra}, 0 ≤ s.1 → run (Yr rows) (Tr rows) rows.length l (some s) = some p → p.1 ≤ (rows.length : Int) → (acc.length : Int) = s.1 →
      ∃ c, loopN f l acc = .ok c ∧ (c.length : Int) = p.1 ∧ (∀ i : Nat, (i : Int) < s.1 → c[i]? = acc[i]?) ∧ ∀ x ∈ l, ∀ k : Int, x.1 ≤ k → k < x.2 → c[k.toNat]? = some (red (sh (Yr rows) (Tr rows) x.1 x.2))
  | [], acc, s, p, h0, h, hp, ha => by
    cases h
    exact ⟨acc, rfl, ha, fun _ _ => rfl, fun x hx => (nomatch hx)⟩
  | x :: l, acc, s, p, h0, h, hp, ha => by
    obtain ⟨ok, h2⟩ := run_cons_some h
    have st := ok.st
    have lt := ok.lt
    have le := ok.le
    have hlen := V.len
    have ge := (run_le h2).1
    have e := hf x acc (by omega) (by omega) le (by omega)
    obtain ⟨c, e2, l2, i2, b2⟩ := chances_loop V hf (acc := acc ++ List.replicate (x.2 - x.1).toNat (red (sh (Yr rows) (Tr rows) x.1 x.2))) (s := (x.2, sh (Yr rows) (Tr rows) x.1 x.2)) (by dsimp only; omega) h2 hp (by rw [List.length_append, List.length_replicate]; dsimp only; omega)
    refine ⟨c, by rw [loopN_cons, e, Res.bind_ok]; exact e2, l2, fun i hi => ?_, fun y hy k h1 h3 => ?_⟩
    · rw [i2 i (by dsimp only; omega), rep_get, if_pos (by omega)]
    · rcases List.mem_cons.mp hy with rfl | hy
      · rw [i2 k.toNat (by dsimp only; omega), rep_get, if_neg (by omega), if_pos (by omega)]
      · exact b2 y hy k h1 h3
theorem chances_is {rows : List Row} (V : Val rows) {l : List Row} (hl : m_blocks_of rows = .ok l) (hd : Div (Yr rows) (Tr rows) rows.length l) : ∃ c, m_rising_chances rows = .ok c ∧ c.length = rows.length ∧ ∀ x ∈ l, ∀ k : Int, x.1 ≤ k → k < x.2 → c[k.toNat]? = some (red (sh (Yr rows) (Tr rows) x.1 x.2)) := by
  unfold m_rising_chances
  obtain ⟨r, hd⟩ := hd
  have hlen := V.len
  simp only [un_ok, chk_eq V, Res.bind_ok, hl]
  obtain ⟨c, e, l2, _, b2⟩ := chances_loop V (l := l) (acc := []) (f := fun (x_33 : (Int × Int)) (z_21 : (List (Int × Int))) => ((un (fun (p : ((List (Int × Int)) × Int × Int)) => m_stretch_share p.1 p.2.1 p.2.2) (pair (Res.ok rows) (pair (Res.ok x_33.1) (Res.ok x_33.2)))).bind fun (share_47 : (Int × Int)) => ((((un rng2 (pair (Res.ok x_33.1) (Res.ok x_33.2))).bind (mapR (fun (x_54 : Int) => (Res.ok share_47)))).bind fun x => rCatR z_21 x).bind fun (chances_61 : (List (Int × Int))) => (Res.ok chances_61))))
    (fun x acc h0 h1 h2 h3 => by
      simp only [pair_ok, un_ok, share_eq V h0 h1 h2, Res.bind_ok, rng2_ok (a := x.1) (b := x.2) (by omega), mapR_okf, map_const, rangeL_length]
      rw [rCatR_ok (by rw [List.length_replicate]; omega)]
      rfl) (Int.le_refl 0) hd (Int.le_refl _) rfl
  simp only [pair_ok, un_ok] at e ⊢
  refine ⟨c, by rw [e]; rfl, by dsimp only at l2; omega, b2⟩

/-! judging a division -/
def isD (rows : List Row) (l : List Row) : Bool := match run (Yr rows) (Tr rows) rows.length l (some (0, (-1, 1))) with
  | some p => decide (p.1 = rows.length)
  | none => false
theorem isD_of {rows l : List Row} (h : Div (Yr rows) (Tr rows) rows.length l) : isD rows l = true := by
  obtain ⟨r, h⟩ := h
  unfold isD
  rw [h]
  exact decide_eq_true rfl
theorem sm0 : Sm (-1, 1) := ⟨by decide, by decide, by decide, by decide⟩
theorem okd_facts {Y T : Int → Int} {n : Int} {s : Int × Ra} {x : Int × Int} (h : okd Y T n s x = true) (h0 : 0 ≤ s.1) : 0 ≤ x.1 ∧ x.1 < x.2 ∧ x.2 ≤ n := by
  have ok := okd_iff.mp h
  have a := ok.st
  have b := ok.lt
  exact ⟨by omega, by omega, ok.le⟩
theorem loop_run {rows : List Row} (V : Val rows) {f : Row → (Int × Ra) → Res (Out (Int × Ra) Bool)} (hf : ∀ x s, 0 ≤ s.1 → Sm s.2 → f x s = .ok (if okd (Yr rows) (Tr rows) rows.length s x = true then .nx (x.2, sh (Yr rows) (Tr rows) x.1 x.2) else .rt false)) :
    ∀ (l : List Row) (s : Int × Ra), 0 ≤ s.1 → Sm s.2 → loopR f l s = .ok (match run (Yr rows) (Tr rows) rows.length l (some s) with
      | some p => .nx p
      | none => .rt false)
  | [], s, _, _ => rfl
  | x :: l, s, h0, hs => by
    rw [loopR_cons, hf x s h0 hs, Res.bind_ok, run_cons]
    unfold stp
    dsimp only
    cases h : okd (Yr rows) (Tr rows) rows.length s x with
    | true =>
      rw [if_pos rfl, if_pos rfl]
      obtain ⟨a, b, c⟩ := okd_facts h h0
      exact loop_run V hf l _ (by dsimp only; omega) (V.bd a b c).sm
    | false =>
      rw [if_neg Bool.false_ne_true, if_neg Bool.false_ne_true, run_none]
theorem loop_run2 {rows : List Row} (V : Val rows) {f : Row → (Int × Ra) → Res (Out (Int × Ra) Bool)} (hf : ∀ x s v, 0 ≤ s.1 → Sm s.2 → Sm v → Eqv s.2 v → f x s = .ok (if okd (Yr rows) (Tr rows) rows.length (s.1, v) x = true then .nx (x.2, red (sh (Yr rows) (Tr rows) x.1 x.2)) else .rt false)) :
    ∀ (l : List Row) (s : Int × Ra) (v : Ra), 0 ≤ s.1 → Sm s.2 → Sm v → Eqv s.2 v → Is (loopR f l s) fun o => match run (Yr rows) (Tr rows) rows.length l (some (s.1, v)) with
      | some p => ∃ u, o = .nx (p.1, u)
      | none => o = .rt false
  | [], s, v, _, _, _, _ => ⟨s.2, rfl⟩
  | x :: l, s, v, h0, hs, hv, e => by
    rw [loopR_cons, hf x s v h0 hs hv e, Res.bind_ok, run_cons]
    unfold stp
    dsimp only
    cases h : okd (Yr rows) (Tr rows) rows.length (s.1, v) x with
    | true =>
      rw [if_pos rfl, if_pos rfl]
      obtain ⟨a, b, c⟩ := okd_facts h h0
      have bd := V.bd a b c
      exact loop_run2 V hf l _ _ (by dsimp only; omega) (red_bd bd).sm bd.sm red_eqv
    | false =>
      rw [if_neg Bool.false_ne_true, if_neg Bool.false_ne_true, run_none]
      rfl
theorem isD_eq {rows : List Row} (V : Val rows) (l : List Row) : m__law_is_division rows l = .ok (isD rows l) := by
  unfold m__law_is_division
  have hlen := V.len
  simp only [Res.bind_ok, un_ok, rNeg_eq, pair_ok]
  rw [loop_run V (fun x s h0 hs => ?_) l (0, (-1, 1)) (Int.le_refl _) sm0]
  · unfold isD
    cases run (Yr rows) (Tr rows) rows.length l (some (0, -1, 1)) with
    | none => rfl
    | some p => rfl
  · simp only [bin_ok, neR_eq, rLe_eq, rGt_eq, rLen_eq, orR_ok, ifR_ok]
    by_cases h1 : x.1 = s.1 ∧ s.1 < x.2 ∧ x.2 ≤ rows.length
    · obtain ⟨a, b, c⟩ := h1
      have bd := V.bd (s := x.1) (e := x.2) (by omega) (by omega) c
      rw [if_neg (by simp; omega), lshare_eq (by omega) (by omega)]
      simp only [Res.bind_ok, less_eq hs bd.sm, notR_eq, ifR_ok]
      unfold okd
      rw [decide_eq_true a, decide_eq_true b, decide_eq_true c, Bool.true_and, Bool.true_and, Bool.true_and]
      cases hl : decide (Lt s.2 (sh (Yr rows) (Tr rows) x.1 x.2)) with
      | false => rfl
      | true =>
        rw [un_ok, notR_eq, Bool.not_true, ifR_ok, if_neg Bool.false_ne_true, Bool.true_and]
        simp only [rAdd_eq, pair_ok, un_ok, rng2_ok (a := x.1 + 1) (b := x.2) (by omega), Res.bind_ok]
        rw [loopR_any (r := false) (p := fun i => decide (Lt (sh (Yr rows) (Tr rows) x.1 i) (sh (Yr rows) (Tr rows) x.1 x.2))) fun i hi => ?_]
        · unfold lvl
          cases (rangeL (x.1 + 1) x.2).any fun i => decide (Lt (sh (Yr rows) (Tr rows) x.1 i) (sh (Yr rows) (Tr rows) x.1 x.2)) <;> rfl
        · have hi := mem_rangeL.mp hi
          rw [lshare_eq (by omega) (by omega)]
          simp only [Res.bind_ok, un_ok, pair_ok, less_eq (V.bd (s := x.1) (e := i) (by omega) (by omega) (by omega)).sm bd.sm, ifR_ok]
          split <;> rfl
    · rw [if_pos (by simp; omega)]
      have : okd (Yr rows) (Tr rows) rows.length s x = false := by
        refine Bool.eq_false_iff.mpr fun z => h1 ?_
        have ok := okd_iff.mp z
        exact ⟨ok.st, ok.lt, ok.le⟩
      rw [this]
      rfl
theorem level_eq {rows : List Row} (V : Val rows) {a b : Int} (h0 : 0 ≤ a) (h : a < b) (h1 : b ≤ rows.length) : m_is_level_stretch rows a b = .ok (lvl (Yr rows) (Tr rows) a b) := by
  unfold m_is_level_stretch
  have hlen := V.len
  have bd := V.bd h0 h h1
  simp only [pair_ok, un_ok, share_eq V h0 h h1, Res.bind_ok, bin_ok, rAdd_eq, rng2_ok (a := a + 1) (b := b) (by omega)]
  rw [loopR_any (r := false) (p := fun i => decide (Lt (sh (Yr rows) (Tr rows) a i) (sh (Yr rows) (Tr rows) a b))) fun i hi => ?_]
  · unfold lvl
    cases (rangeL (a + 1) b).any fun i => decide (Lt (sh (Yr rows) (Tr rows) a i) (sh (Yr rows) (Tr rows) a b)) <;> rfl
  · have hi := mem_rangeL.mp hi
    have bi := V.bd (s := a) (e := i) h0 (by omega) (by omega)
    rw [share_eq V h0 (by omega) (by omega), pair_ok, un_ok, compare_eq (red_bd bi).sm (red_bd bd).sm, bin_ok, rLt_eq, cmp_lt, ifR_ok]
    have : decide (Lt (red (sh (Yr rows) (Tr rows) a i)) (red (sh (Yr rows) (Tr rows) a b))) = decide (Lt (sh (Yr rows) (Tr rows) a i) (sh (Yr rows) (Tr rows) a b)) := dec_congr (lt_congr (red_bd bi).c bi.c (red_bd bd).c bd.c red_eqv red_eqv)
    rw [this]
    split <;> rfl
theorem rising_eq {rows : List Row} (V : Val rows) (l : List Row) : m_is_rising rows l = .ok (isD rows l) := by
  unfold m_is_rising
  have hlen := V.len
  simp only [Res.bind_ok, un_ok, rNeg_eq, pair_ok, chk_eq V]
  refine Is.eq ?_
  refine Is.bind (loop_run2 V (fun x s v h0 hs hv e => ?_) l (0, (-1, 1)) (-1, 1) (Int.le_refl _) sm0 sm0 eqv_refl) fun o ho => ?_
  · simp only [bin_ok, neR_eq, rLe_eq, rGt_eq, rLen_eq, orR_ok, ifR_ok]
    by_cases h1 : x.1 = s.1 ∧ s.1 < x.2 ∧ x.2 ≤ rows.length
    · obtain ⟨a, b, c⟩ := h1
      have bd := V.bd (s := x.1) (e := x.2) (by omega) (by omega) c
      rw [if_neg (by simp; omega), share_eq V (by omega) (by omega) c]
      simp only [Res.bind_ok, compare_eq hs (red_bd bd).sm, bin_ok, rGe_eq, cmp_ge, level_eq V (a := x.1) (b := x.2) (by omega) (by omega) c, notR_eq, orR_ok, ifR_ok, un_ok]
      unfold okd
      dsimp only
      have : decide (Lt s.2 (red (sh (Yr rows) (Tr rows) x.1 x.2))) = decide (Lt v (sh (Yr rows) (Tr rows) x.1 x.2)) := dec_congr (lt_congr hs.p hv.p (red_bd bd).c bd.c e red_eqv)
      rw [decide_eq_true a, decide_eq_true b, decide_eq_true c, Bool.true_and, Bool.true_and, Bool.true_and, this]
      cases decide (Lt v (sh (Yr rows) (Tr rows) x.1 x.2)) with
      | false => rfl
      | true =>
        cases lvl (Yr rows) (Tr rows) x.1 x.2 <;> rfl
    · rw [if_pos (by simp; omega)]
      have : okd (Yr rows) (Tr rows) rows.length (s.1, v) x = false := by
        refine Bool.eq_false_iff.mpr fun z => h1 ?_
        have ok := okd_iff.mp z
        exact ⟨ok.st, ok.lt, ok.le⟩
      rw [this]
      rfl
  · unfold isD
    dsimp only at ho
    cases q : run (Yr rows) (Tr rows) rows.length l (some (0, (-1, 1))) with
    | none =>
      rw [q] at ho
      dsimp only at ho
      subst ho
      rfl
    | some p =>
      rw [q] at ho
      obtain ⟨u, hu⟩ := ho
      subst hu
      rfl
/-! greatest of the least -/
theorem greater_eq {x y : Ra} (hx : Sm x) (hy : Sm y) : m_greater x y = .ok (if Lt x y then y else x) := by
  unfold m_greater
  simp only [pair_ok, un_ok, compare_eq hx hy, bin_ok, rGe_eq, cmp_ge, ifR_ok, Res.bind_ok]
  by_cases h : Lt x y
  · rw [if_pos h, decide_eq_true h]
    rfl
  · rw [if_neg h, decide_eq_false h]
    rfl
theorem lesser_eq {x y : Ra} (hx : Sm x) (hy : Sm y) : m_lesser x y = .ok (if Lt y x then y else x) := by
  unfold m_lesser
  simp only [pair_ok, un_ok, compare_eq hx hy, bin_ok, rLe_eq, cmp_le, ifR_ok, Res.bind_ok]
  by_cases h : Lt y x
  · rw [if_pos h, decide_eq_true h]
    rfl
  · rw [if_neg h, decide_eq_false h]
    rfl
abbrev rw_ (rows : List Row) (a b : Int) : Ra := red (sh (Yr rows) (Tr rows) a b)
theorem sm00 : Sm (0, 1) := ⟨by decide, by decide, by decide, by decide⟩
theorem sm11 : Sm (1, 1) := ⟨by decide, by decide, by decide, by decide⟩
theorem red_sm {rows : List Row} (V : Val rows) : ∀ a b : Int, 0 ≤ a → a < b → b ≤ (rows.length : Int) → Sm (rw_ rows a b) := fun a b h0 h h1 => (red_bd (V.bd h0 h h1)).sm
theorem mxm_eq {rows : List Row} (V : Val rows) {k : Int} (h0 : 0 ≤ k) (h1 : k < rows.length) : m_max_min rows k = .ok (mxn rows.length k (rw_ rows) (0, 1) (1, 1)) := by
  unfold m_max_min
  have hlen := V.len
  simp only [un_ok, chk_eq V, pair_ok, Res.bind_ok, bin_ok, rAdd_eq, rLen_eq, rng1_ok (n := k + 1) (by omega), rng2_ok (a := k + 1) (b := (rows.length : Int) + 1) (by omega)]
  rw [loop_max (g := fun s => minF (fun e => rw_ rows s e) (rangeL (k + 1) (rows.length + 1)) (1, 1)) (q := Sm) (fun s hs => ?_) (fun s z hs hz => ?_) sm00]
  · rfl
  · have := mem_rangeL.mp hs
    exact inner_sm V (by omega) (by omega) (red_sm V) sm11
  · have hs := mem_rangeL.mp hs
    rw [loop_min (g := fun e => rw_ rows s e) (q := Sm) (fun e he => ?_) (fun e y he hy => ?_) sm11]
    · rw [Res.bind_ok, greater_eq hz (inner_sm V (k := k) hs.1 (by omega) (red_sm V) sm11)]
      rfl
    · have he := mem_rangeL.mp he
      exact red_sm V s e hs.1 (by omega) (by omega)
    · have he := mem_rangeL.mp he
      simp only [share_eq V (s := s) (e := e) hs.1 (by omega) (by omega), pair_ok, un_ok]
      rw [lesser_eq hy (red_sm V s e hs.1 (by omega) (by omega))]
      rfl
theorem mnm_eq {rows : List Row} (V : Val rows) {k : Int} (h0 : 0 ≤ k) (h1 : k < rows.length) : m_min_max rows k = .ok (mnx rows.length k (rw_ rows) (0, 1) (1, 1)) := by
  unfold m_min_max
  have hlen := V.len
  have inn : ∀ e, k < e → e ≤ (rows.length : Int) → Sm (maxF (fun s => rw_ rows s e) (rangeL 0 (k + 1)) (0, 1)) := fun e he he2 => maxF_pred sm00 fun s hs => by
    have := mem_rangeL.mp hs
    exact red_sm V s e (by omega) (by omega) (by omega)
  simp only [un_ok, chk_eq V, pair_ok, Res.bind_ok, bin_ok, rAdd_eq, rLen_eq, rng1_ok (n := k + 1) (by omega), rng2_ok (a := k + 1) (b := (rows.length : Int) + 1) (by omega)]
  rw [loop_min (g := fun e => maxF (fun s => rw_ rows s e) (rangeL 0 (k + 1)) (0, 1)) (q := Sm) (fun e he => ?_) (fun e z he hz => ?_) sm11]
  · rfl
  · have := mem_rangeL.mp he
    exact inn e (by omega) (by omega)
  · have he := mem_rangeL.mp he
    rw [loop_max (g := fun s => rw_ rows s e) (q := Sm) (fun s hs => ?_) (fun s y hs hy => ?_) sm00]
    · rw [Res.bind_ok, lesser_eq hz (inn e (by omega) (by omega))]
      rfl
    · have hs := mem_rangeL.mp hs
      exact red_sm V s e hs.1 (by omega) (by omega)
    · have hs := mem_rangeL.mp hs
      simp only [share_eq V (s := s) (e := e) hs.1 (by omega) (by omega), pair_ok, un_ok]
      rw [greater_eq hy (red_sm V s e hs.1 (by omega) (by omega))]
      rfl
/-! ratios in lowest terms -/
theorem Fb_two : ∀ k, 2 ^ k ≤ Fb (2 * k)
  | 0 => by decide
  | k + 1 => by
    have a := Fb_two k
    have b : Fb (2 * (k + 1)) = Fb (2 * k + 1) + Fb (2 * k) := rfl
    have c := Fb_le (2 * k)
    rw [Nat.pow_succ]
    omega
theorem gcd_loop {f : Int → (Int × Int) → Res (Out (Int × Int) Int)} (h0 : ∀ i (a : Int), f i (a, 0) = .ok (.rt a)) (h1 : ∀ i (a b : Int), 0 < b → f i (a, b) = .ok (.nx (b, a % b))) : ∀ (xs : List Int) (a b g : Nat), egcd xs.length a b = some g → loopR f xs ((a : Int), (b : Int)) = .ok (.rt (g : Int))
  | [], a, b, g, h => by cases h
  | x :: xs, a, b, g, h => by
    rw [List.length_cons] at h
    unfold egcd at h
    rw [loopR_cons]
    by_cases hb : b = 0
    · rw [if_pos hb] at h
      cases h
      subst hb
      have := h0 x (a : Int)
      rw [show ((0 : Nat) : Int) = 0 from rfl, this]
      rfl
    · rw [if_neg hb] at h
      rw [h1 x a b (by omega), Res.bind_ok]
      dsimp only
      rw [show (a : Int) % (b : Int) = ((a % b : Nat) : Int) from (Int.natCast_emod a b).symm]
      exact gcd_loop h0 h1 xs b (a % b) g h
theorem gcd_eq {a b : Nat} (ha : a ≤ 5000000) (hb : b ≤ 5000000) : m__law_gcd a b = .ok ((Nat.gcd a b : Nat) : Int) := by
  unfold m__law_gcd
  have hF : 5000000 < Fb 1997 := Nat.lt_of_lt_of_le (by decide) (Nat.le_trans (Fb_two 23) (Fb_mono (by decide)))
  have he := egcd_any (m := 1997) (a := a) (b := b) (by omega) (by omega)
  simp only [un_ok, rng1_ok (n := 2000) (by decide), Res.bind_ok]
  rw [gcd_loop (fun i a => ?_) (fun i a b hb => ?_) (rangeL 0 2000) a b _ (by rw [rangeL_length]; exact he)]
  · rfl
  · rfl
  · dsimp only
    rw [bin_ok, eqR_eq, ifR_ok, if_neg (by rw [decide_eq_true_eq]; omega), idR_eq, bin_ok, rMod_ok hb]
    rfl
theorem is_ratio_ok {x y : Ra} (hx : Sm x) (h0 : 0 ≤ x.1) (hg : Nat.gcd x.1.natAbs x.2.natAbs = 1) (hy : Sm y) (e : Eqv x y) : m__law_is_ratio x y = .ok true := by
  unfold m__law_is_ratio
  have a := hx.p
  have b := hx.a
  have c := hx.c
  simp only [pair_ok, un_ok, notR_eq, bin_ok, neR_eq, m__law_is_int, andR_ok, Bool.not_true, Bool.not_false, Bool.and_self, Res.bind_ok, decide_true, orR_ok, Bool.or_self, ifR_ok, if_neg Bool.false_ne_true, rLt_eq, mul_ok hx, mul_ok hy]
  have e2 : x.1 * y.2 = y.1 * x.2 := e
  rw [if_neg (by simp [e2]; omega)]
  obtain ⟨n1, hn1⟩ := Int.eq_ofNat_of_zero_le h0
  obtain ⟨n2, hn2⟩ := Int.eq_ofNat_of_zero_le (Int.le_of_lt a)
  rw [hn1, hn2, gcd_eq (by omega) (by omega)]
  rw [hn1, hn2, Int.natAbs_natCast, Int.natAbs_natCast, Nat.gcd_comm] at hg
  rw [hg, rNeg_eq]
  rfl

/-! the groups are drawn -/
theorem mem_revR {α : Type} {xs : List α} {x : α} (h : x ∈ xs.reverse) : x ∈ xs := List.mem_reverse.mp h
theorem groups_is {p : Pl} (hp : PI_ p) : Is (m__law_groups () p) fun b => Val b.1 ∧ PI_ b.2 := by
  unfold m__law_groups
  obtain ⟨m, em, hm, pm⟩ := from_ok (lo := 1) (hi := 24) hp (by decide) (by decide)
  obtain ⟨t, et, ht, pt⟩ := take_ok (n := 2) pm (by decide) (by decide)
  simp only [pair_ok, callM_ok, em, Res.bind_ok, ifMR_eq, binM_eq, et, eqR_eq, liftM_ok]
  refine Is.bind (Q := fun z : Pl × Int => PI_ z.1 ∧ 1 ≤ z.2 ∧ z.2 ≤ 24) ?_ fun z ⟨hz1, hz2, hz3⟩ => ?_
  · refine Is.if_ (fun _ => ?_) fun _ => ⟨pt, hm.1, hm.2⟩
    obtain ⟨u, eu, hu, pu⟩ := from_ok (lo := 1) (hi := 6) pt (by decide) (by decide)
    simp only [eu, Res.bind_ok]
    exact ⟨pu, hu.1, by dsimp only; omega⟩
  · obtain ⟨u, eu, hu, pu⟩ := take_ok (n := 4) hz1 (by decide) (by decide)
    obtain ⟨y, ey, hy⟩ := ix_get (xs := ([100000, 5, 1, 1000] : List Int)) hu.1 hu.2
    have hy2 : 1 ≤ y ∧ y ≤ 100000 := by
      have key : ∀ y ∈ ([100000, 5, 1, 1000] : List Int), 1 ≤ y ∧ y ≤ 100000 := by decide
      exact key y (List.mem_of_getElem? hy)
    simp only [consR_ok, liftM_ok, eu, Res.bind_ok, ey, un_ok, rng1_ok (n := z.2) (by omega), bin_ok, rAdd_eq, callM_ok]
    refine Is.bind (loopN_inv (fun i (z : List Row × Pl) => z.1.length = i ∧ (∀ x ∈ z.1, VG x) ∧ PI_ z.2) ⟨rfl, fun x hx => (nomatch hx), pu⟩ fun i x w hx ⟨hw1, hw2, hw3⟩ => ?_) fun w ⟨hw1, hw2, hw3⟩ => ?_
    · have hx0 := mem_rangeL.mp (List.mem_of_getElem? hx)
      have hi := rangeL_get hx
      obtain ⟨a, ea, ha, pa⟩ := take_ok (n := y + 1) hw3 (by omega) (by omega)
      obtain ⟨b, eb, hb, pb⟩ := take_ok (n := y + 1) pa (by omega) (by omega)
      obtain ⟨c, ec, hc, pc⟩ := take_ok (n := 2) pb (by decide) (by decide)
      simp only [ea, eb, Res.bind_ok, bin_ok, rAdd_eq, eqR_eq, ifR_ok, ec, rSub_eq]
      refine Is.bind (Q := fun z : Pl × Int × Int => PI_ z.1 ∧ VG z.2) ?_ fun z ⟨hz1, hz2⟩ => ?_
      · refine Is.if_ (fun h => ?_) fun h => ?_
        · exact ⟨pc, by dsimp only; omega, by dsimp only; omega, by dsimp only; omega, by dsimp only; omega, by dsimp only; omega⟩
        · have h := of_decide_eq_false h
          exact ⟨pb, by dsimp only; omega, by dsimp only; omega, by dsimp only; omega, by dsimp only; omega, by dsimp only; omega⟩
      · rw [push_ok (by omega), Res.bind_ok]
        refine ⟨by simp [hw1], fun v hv => ?_, hz1⟩
        rcases List.mem_append.mp hv with hv | hv
        · exact hw2 v hv
        · rw [List.mem_singleton.mp hv]
          exact hz2
    · rw [rangeL_length] at hw1
      have V : Val w.1 := ⟨by omega, by omega, hw2⟩
      obtain ⟨v, ev, hv, pv⟩ := take_ok (n := 4) hw3 (by decide) (by decide)
      rw [ev, Res.bind_ok]
      have at_ : ∀ k : Int, 0 ≤ k → k < z.2 → ix w.1 k = .ok (w.1.getD k.toNat (0, 0)) ∧ VG (w.1.getD k.toNat (0, 0)) := fun k h0 h1 => by
        obtain ⟨x, ex, hx⟩ := ix_get (xs := w.1) h0 (by omega)
        rw [List.getD_eq_getElem?_getD, hx]
        exact ⟨ex, hw2 x (List.mem_of_getElem? hx)⟩
      have e1 : mapR (fun (x_253 : Int) => (pair (bin rDiv (bin rMul (un (fun p => Res.ok p.1) (bin ix (Res.ok w.1) (Res.ok x_253))) (Res.ok (1000000 : Int))) (bin rAdd (un (fun p => Res.ok p.1) (bin ix (Res.ok w.1) (Res.ok x_253))) (un (fun p => Res.ok p.2) (bin ix (Res.ok w.1) (Res.ok x_253))))) (Res.ok x_253))) (rangeL 0 z.2) =
          .ok ((rangeL 0 z.2).map fun k => ((w.1.getD k.toNat (0, 0)).1 * 1000000 / ((w.1.getD k.toNat (0, 0)).1 + (w.1.getD k.toNat (0, 0)).2), k)) := mapR_ok fun k hk => by
        have hk := mem_rangeL.mp hk
        obtain ⟨ek, vk⟩ := at_ k hk.1 hk.2
        obtain ⟨v1, v2, v3, v4, v5⟩ := vk
        simp only [bin_ok, ek, un_ok, rAdd_eq, rMul_ok (.inr (by decide) : (-(2 ^ 64) < (w.1.getD k.toNat (0, 0)).1 ∧ (w.1.getD k.toNat (0, 0)).1 < 2 ^ 64) ∨ (-(2 ^ 64) < (1000000 : Int) ∧ (1000000 : Int) < 2 ^ 64))]
        rw [rDiv_ok ⟨v5, by omega⟩]
        rfl
      simp only [bin_ok, un_ok] at e1 ⊢
      rw [e1]
      simp only [un_ok, sortP_eq, Res.bind_ok, bin_ok, eqR_eq, ifR_ok, revR_eq]
      generalize hS : isortP ((rangeL 0 z.2).map fun k => ((w.1.getD k.toNat (0, 0)).1 * 1000000 / ((w.1.getD k.toNat (0, 0)).1 + (w.1.getD k.toNat (0, 0)).2), k)) = S
      have perm : S.Perm ((rangeL 0 z.2).map fun k => ((w.1.getD k.toNat (0, 0)).1 * 1000000 / ((w.1.getD k.toNat (0, 0)).1 + (w.1.getD k.toNat (0, 0)).2), k)) := by
        rw [← hS]
        exact isortP_perm _
      have hS2 : ∀ x ∈ S, 0 ≤ x.2 ∧ x.2 < z.2 := fun x hx => by
        obtain ⟨k, hk, e⟩ := List.mem_map.mp (perm.mem_iff.mp hx)
        have := mem_rangeL.mp hk
        rw [← e]
        exact this
      have lS : S.length = z.2.toNat := by
        rw [perm.length_eq, List.length_map, rangeL_length]
        omega
      have fin : ∀ S' : List (Int × Int), (∀ x ∈ S', x ∈ S) → S'.length = S.length → Val (S'.map fun x => w.1.getD x.2.toNat (0, 0)) := fun S' h1 h2 => by
        refine ⟨by rw [List.length_map]; omega, by rw [List.length_map]; omega, fun y hy => ?_⟩
        obtain ⟨x, hx, e⟩ := List.mem_map.mp hy
        have := hS2 x (h1 x hx)
        rw [← e]
        exact (at_ x.2 this.1 this.2).2
      have em2 : ∀ S' : List (Int × Int), (∀ x ∈ S', x ∈ S) → mapR (fun (x : Int × Int) => ix w.1 x.2) S' = .ok (S'.map fun x => w.1.getD x.2.toNat (0, 0)) := fun S' h1 => mapR_ok fun x hx => by
        have := hS2 x (h1 x hx)
        exact (at_ x.2 this.1 this.2).1
      refine Is.if_ (fun _ => ?_) fun _ => Is.if_ (fun _ => ?_) fun _ => ⟨V, pv⟩
      · rw [em2 S fun _ h => h]
        exact ⟨fin S (fun _ h => h) rfl, pv⟩
      · rw [em2 S.reverse fun _ h => List.mem_reverse.mp h]
        exact ⟨fin _ (fun _ h => List.mem_reverse.mp h) (List.length_reverse ..), pv⟩

/-! other divisions -/
theorem run_next {Y T : Int → Int} {n : Int} : ∀ {l : List Row} {s p : Int × Ra}, run Y T n l (some s) = some p → ∀ (i : Nat) x y, l[i]? = some x → l[i + 1]? = some y → x.2 = y.1
  | [], s, p, h, i, x, y, hx, _ => by cases hx
  | z :: l, s, p, h, 0, x, y, hx, hy => by
    obtain ⟨ok, h2⟩ := run_cons_some h
    cases hx
    cases l with
    | nil => cases hy
    | cons u l =>
      obtain ⟨ok2, _⟩ := run_cons_some h2
      cases hy
      exact ok2.st.symm
  | z :: l, s, p, h, i + 1, x, y, hx, hy => by
    obtain ⟨ok, h2⟩ := run_cons_some h
    exact run_next h2 i x y hx hy
theorem cat_ok {α : Type} {xs ys : List α} (h : xs.length ≤ 1000) (h' : ys.length ≤ 1000) : rCatR xs ys = .ok (xs ++ ys) := rCatR_ok (by omega)
theorem cut_le {α : Type} {xs : List α} {a b : Option Int} : (cut xs a b).length ≤ xs.length := by
  unfold cut
  rw [List.length_take, List.length_drop]
  omega
theorem divisions_is {rows : List Row} (V : Val rows) {l : List Row} (hd : Div (Yr rows) (Tr rows) rows.length l) (h0 : 0 < l.length) (h1 : l.length ≤ 24) {p : Pl} (hp : PI_ p) : Is (m__law_divisions rows.length l p) fun b => b.1.length ≤ 100 ∧ PI_ b.2 := by
  unfold m__law_divisions
  have hlen := V.len
  obtain ⟨x, hx⟩ : ∃ x, l.getLast? = some x := ⟨l.getLast (by intro e; rw [e] at h0; exact absurd h0 (by decide)), by rw [List.getLast?_eq_some_getLast]⟩
  have e0 : ix l (-1) = .ok x := by
    rcases List.eq_nil_or_concat l with e | ⟨L, y, e⟩
    · rw [e] at h0
      cases h0
    · rw [List.concat_eq_append] at e
      subst e
      rw [List.getLast?_append] at hx
      cases hx
      exact ix_last
  simp only [Res.bind_ok, un_ok, rNeg_eq, someR_ok, slR_ok, consR_ok, pair_ok, rng1_ok (n := (rows.length : Int)) (by omega), bin_ok, rAdd_eq, mapR_okf, revR_eq, rLen_eq, rng1_ok (n := 4) (by decide)]
  rw [cat_ok (by omega) (by simp)]
  simp only [Res.bind_ok, e0, un_ok, pair_ok, consR_ok, bin_ok]
  rw [push_ok (by simp), Res.bind_ok, cat_ok (by have := cut_le (xs := l) (a := none) (b := some (-1)); omega) (by simp), Res.bind_ok, push_ok (by simp), Res.bind_ok, cat_ok (by omega) (by have := cut_le (xs := l) (a := some (-1)) (b := none); omega), Res.bind_ok, push_ok (by simp), Res.bind_ok]
  refine Is.bind (loopN_inv (fun i (z : List (List Row) × Pl) => z.1.length ≤ 9 + 3 * i ∧ PI_ z.2) ⟨by simp, hp⟩ fun i t z ht ⟨hz1, hz2⟩ => ?_) fun z ⟨hz1, hz2⟩ => ?_
  · have ht0 := mem_rangeL.mp (List.mem_of_getElem? ht)
    have hi := rangeL_get ht
    obtain ⟨k, ek, hk, pk⟩ := take_ok (n := (l.length : Int)) hz2 (by omega) (by omega)
    obtain ⟨pr, epr, hpr⟩ := ix_get (xs := l) hk.1 hk.2
    obtain ⟨a, b, c, _⟩ := hd.at V.pts (List.mem_of_getElem? hpr)
    simp only [callM_ok, ek, Res.bind_ok, epr, ifR_ok, rLt_eq, rGt_eq, rSub_eq, rAdd_eq, bin_ok, un_ok, pair_ok, consR_ok, someR_ok, slR_ok]
    refine Is.bind (Q := fun z : Pl × List (List Row) => PI_ z.1 ∧ z.2.length ≤ 11 + 3 * i) ?_ fun y ⟨hy1, hy2⟩ => ?_
    · refine Is.if_ (fun h => ?_) fun _ => ⟨pk, by dsimp only; omega⟩
      have h := of_decide_eq_true h
      obtain ⟨bh, ebh, hbh⟩ := ix_get (xs := l) (i := k.1 + 1) (by omega) h
      obtain ⟨a2, b2, c2, _⟩ := hd.at V.pts (List.mem_of_getElem? hbh)
      obtain ⟨r, hr⟩ := hd
      have en := run_next hr k.1.toNat pr bh hpr (by rw [← hbh]; congr 1; omega)
      have q1 := cut_le (xs := l) (a := none) (b := some k.1)
      have q2 := cut_le (xs := l) (a := some (k.1 + 2)) (b := none)
      obtain ⟨w, ew, hw, pw⟩ := from_ok (lo := pr.1) (hi := bh.2) pk (by omega) (by omega)
      simp only [ebh, Res.bind_ok, un_ok, pair_ok, consR_ok, bin_ok]
      rw [cat_ok (by omega) (by simp), bin_ok, cat_ok (by rw [List.length_append]; simp; omega) (by omega), Res.bind_ok, push_ok (by omega), Res.bind_ok, ew, Res.bind_ok]
      rw [cat_ok (by omega) (by simp), bin_ok, cat_ok (by rw [List.length_append]; simp; omega) (by omega), Res.bind_ok, push_ok (by simp; omega), Res.bind_ok]
      exact ⟨pw, by simp; omega⟩
    · refine Is.if_ (fun h => ?_) fun _ => ⟨by dsimp only; omega, hy1⟩
      have h := of_decide_eq_true h
      have q1 := cut_le (xs := l) (a := none) (b := some k.1)
      have q2 := cut_le (xs := l) (a := some (k.1 + 1)) (b := none)
      obtain ⟨w, ew, hw, pw⟩ := from_ok (lo := pr.1 + 1) (hi := pr.2 - 1) hy1 (by omega) (by omega)
      rw [ew, Res.bind_ok]
      rw [cat_ok (by omega) (by simp), bin_ok, cat_ok (by rw [List.length_append]; simp; omega) (by omega), Res.bind_ok, push_ok (by omega), Res.bind_ok]
      exact ⟨by simp; omega, pw⟩
  · rw [rangeL_length] at hz1
    exact ⟨by dsimp only; omega, hz2⟩
/-! refusals -/
theorem refused_ok {rows : List Row} (V : Val rows) (k : Int) : m__law_refused rows k = .ok ("none", 0) := by
  unfold m__law_refused
  have hp := V.pos
  obtain ⟨l, el, hd, _, _⟩ := (blocks_is V).get
  obtain ⟨c, ec, _, _⟩ := chances_is V el hd
  have e1 : m_rising_blocks rows = .ok l := by
    unfold m_rising_blocks
    rw [un_ok, chk_eq V, Res.bind_ok, un_ok, el]
    rfl
  simp only [bin_ok, eqR_eq, ifR_ok, pair_ok, un_ok, consR_ok, chk_eq V, e1, rising_eq V, ec, mxm_eq V (Int.le_refl 0) (by omega), mnm_eq V (Int.le_refl 0) (by omega), Res.bind_ok]
  by_cases h0 : k = 0
  · simp [h0]
  · by_cases h1 : k = 1
    · simp [h1]
    · by_cases h2 : k = 2
      · simp [h2]
      · by_cases h3 : k = 3
        · simp [h3]
        · by_cases h4 : k = 4
          · simp [h4]
          · simp [h0, h1, h2, h3, h4]
theorem refused_at {rows : List Row} {c : Ec} {i : Int} (h : m_check_groups rows = .exc c i) (hk : knE c = true) (k : Int) : m__law_refused rows k = if isaE c .BadSignals && !isaE c .TooMany then .ok ("signals", i) else if isaE c .TooMany && !isaE c .BadSignals then .ok ("many", i) else .ok ("other", 0) := by
  have e1 : m_rising_blocks rows = .exc c i := by
    unfold m_rising_blocks
    rw [un_ok, h]
    rfl
  have e2 : ∀ l, m_is_rising rows l = .exc c i := fun l => by
    unfold m_is_rising
    rw [un_ok, h]
    rfl
  have e3 : m_rising_chances rows = .exc c i := by
    unfold m_rising_chances
    rw [un_ok, h]
    rfl
  have e4 : m_max_min rows 0 = .exc c i := by
    unfold m_max_min
    rw [un_ok, h]
    rfl
  have e5 : m_min_max rows 0 = .exc c i := by
    unfold m_min_max
    rw [un_ok, h]
    rfl
  unfold m__law_refused
  simp only [bin_ok, eqR_eq, ifR_ok, pair_ok, un_ok, consR_ok, h, e1, e2, e3, e4, e5, Res.bind_exc]
  have body : ∀ (α : Type) (b1 b2 b3 b4 b5 : Bool), (if b1 = true then Res.exc c i else if b2 = true then Res.exc c i else if b3 = true then Res.exc c i else if b4 = true then Res.exc c i else if b5 = true then Res.exc c i else Res.exc c i : Res α) = .exc c i := fun α b1 b2 b3 b4 b5 => by
    cases b1 <;> cases b2 <;> cases b3 <;> cases b4 <;> cases b5 <;> rfl
  rw [body, tryR_exc hk (by simp [isaE])]
  simp only [un_ok, notR_eq, andR_ok, ifR_ok, pair_ok, Res.bind_ok]
  split
  · rfl
  · split <;> rfl
theorem refused_many {rows : List Row} (h : 24 < rows.length) (k : Int) : m__law_refused rows k = .ok ("many", 24) := by
  rw [refused_at (c := .TooMany) (i := 24) (by rw [chk_any, if_pos h]) (by decide)]
  rfl
theorem refused_none (k : Int) : m__law_refused [] k = .ok ("signals", 0) := by
  rw [refused_at (c := .BadSignals) (i := 0) (by rw [chk_any]; rfl) (by decide)]
  rfl
theorem refused_bad {rows : List Row} {j : Nat} {x : Row} (h : rows.length ≤ 24) (h1 : ∀ i y, i < j → rows[i]? = some y → VG y) (h2 : rows[j]? = some x) (h3 : okG x = false) (k : Int) : m__law_refused rows k = .ok ("signals", (j : Int)) := by
  have hj := (List.getElem?_eq_some_iff.mp h2).1
  rw [refused_at (c := .BadSignals) (i := (j : Int)) (by
    rw [chk_any, if_neg (by omega), if_neg (by omega), fb_at (fun i y hi hy => okG_iff.mpr (h1 i y hi hy)) h2 h3]
    simp) (by decide)]
  rfl
theorem put_eq {α : Type} {xs : List α} {k : Nat} {x : α} (h : k < xs.length) : xs.take k ++ [x] ++ xs.drop (k + 1) = xs.set k x := by
  rw [List.set_eq_take_append_cons_drop, if_pos h, List.append_assoc]
  rfl
theorem bads_bad : ∀ x ∈ ([(0, 0), (-1, 5), (5, -1), (100001, 0), (0, 100001), (-3, 4)] : List Row), okG x = false := by decide
theorem refused_right_is {rows : List Row} (V : Val rows) {p : Pl} (hp : PI_ p) : Is (m__law_refused_right rows p) fun b => b.1 = true := by
  unfold m__law_refused_right
  have hl := V.len
  have hpos := V.pos
  simp only [un_ok, rLen_eq, bin_ok, rSub_eq, rng1_ok (n := 24 - (rows.length : Int)) (by omega), Res.bind_ok, pair_ok, mapR_okf]
  have lf : (rows ++ (rangeL 0 (24 - (rows.length : Int))).map fun k => (k, (1 : Int))).length = 24 := by
    rw [List.length_append, List.length_map, rangeL_length]
    omega
  have vf : ∀ x ∈ (rows ++ (rangeL 0 (24 - (rows.length : Int))).map fun k => (k, (1 : Int))), VG x := fun x hx => by
    rcases List.mem_append.mp hx with hx | hx
    · exact V.ok x hx
    · obtain ⟨k, hk, rfl⟩ := List.mem_map.mp hx
      have := mem_rangeL.mp hk
      exact ⟨this.1, by dsimp only; omega, by dsimp only; omega, by dsimp only; omega, by dsimp only; omega⟩
  rw [rCatR_ok (by rw [← List.length_append, lf]; decide)]
  generalize (rows ++ (rangeL 0 (24 - (rows.length : Int))).map fun k => (k, (1 : Int))) = full at lf vf
  have Vf : Val full := ⟨by omega, by omega, vf⟩
  obtain ⟨b, eb, hb, pb⟩ := take_ok (n := 6) hp (by decide) (by decide)
  obtain ⟨y, ey, hy⟩ := ix_get (xs := ([(0, 0), (-1, 5), (5, -1), (100001, 0), (0, 100001), (-3, 4)] : List Row)) hb.1 hb.2
  have yb := bads_bad y (List.mem_of_getElem? hy)
  obtain ⟨a, ea, ha, pa⟩ := take_ok (n := 24) pb (by decide) (by decide)
  obtain ⟨t, et, ht, pt⟩ := from_ok (lo := a.1) (hi := 23) pa (by omega) (by omega)
  simp only [Res.bind_ok, rNeg_eq, pair_ok, consR_ok, binM_eq, liftM_ok, callM_ok, ea, eb, ey, et, someR_ok, slR_ok, bin_ok, rAdd_eq, un_ok, cut_lo ha.1, cut_lo (show 0 ≤ t.1 by omega), cut_hi (show 0 ≤ a.1 + 1 by omega), cut_hi (show 0 ≤ t.1 + 1 by omega), rng1_ok (n := 6) (by decide)]
  have t1 : (a.1 + 1).toNat = a.1.toNat + 1 := by omega
  have t2 : (t.1 + 1).toNat = t.1.toNat + 1 := by omega
  have la : a.1.toNat < full.length := by omega
  rw [cat_ok (by rw [List.length_take]; omega) (by simp), bin_ok, cat_ok (by rw [List.length_append, List.length_take]; simp; omega) (by rw [List.length_drop]; omega), t1, put_eq la, Res.bind_ok]
  have lt : t.1.toNat < (full.set a.1.toNat y).length := by rw [List.length_set]; omega
  rw [cat_ok (by rw [List.length_take]; simp; omega) (by simp), bin_ok, cat_ok (by rw [List.length_append, List.length_take]; simp; omega) (by rw [List.length_drop]; simp; omega), t2, put_eq lt, Res.bind_ok]
  have r1 : ∀ k, m__law_refused (full.set a.1.toNat y) k = .ok ("signals", a.1) := fun k => by
    have := refused_bad (rows := full.set a.1.toNat y) (j := a.1.toNat) (x := y) (by rw [List.length_set]; omega) (fun i z hi hz => by
      rw [List.getElem?_set, if_neg (by omega)] at hz
      exact vf z (List.mem_of_getElem? hz)) (by rw [List.getElem?_set, if_pos rfl, if_pos la]) yb k
    rw [this, show ((a.1.toNat : Nat) : Int) = a.1 by omega]
  have r2 : ∀ k, m__law_refused ((full.set a.1.toNat y).set t.1.toNat (0, 0)) k = .ok ("signals", a.1) := fun k => by
    by_cases e : t.1.toNat = a.1.toNat
    · rw [e, List.set_set]
      have := refused_bad (rows := full.set a.1.toNat (0, 0)) (j := a.1.toNat) (x := (0, 0)) (by rw [List.length_set]; omega) (fun i z hi hz => by
        rw [List.getElem?_set, if_neg (by omega)] at hz
        exact vf z (List.mem_of_getElem? hz)) (by rw [List.getElem?_set, if_pos rfl, if_pos la]) (by decide) k
      rw [this, show ((a.1.toNat : Nat) : Int) = a.1 by omega]
    · have := refused_bad (rows := (full.set a.1.toNat y).set t.1.toNat (0, 0)) (j := a.1.toNat) (x := y) (by rw [List.length_set, List.length_set]; omega) (fun i z hi hz => by
        rw [List.getElem?_set, if_neg (by omega), List.getElem?_set, if_neg (by omega)] at hz
        exact vf z (List.mem_of_getElem? hz)) (by rw [List.getElem?_set, if_neg e, List.getElem?_set, if_pos rfl, if_pos la]) yb k
      rw [this, show ((a.1.toNat : Nat) : Int) = a.1 by omega]
  have r3 : ∀ k, m__law_refused (full ++ [(1, 1)]) k = .ok ("many", 24) := refused_many (by rw [List.length_append, lf]; decide)
  have r4 : ∀ k, m__law_refused ((full.set a.1.toNat y).set t.1.toNat (0, 0) ++ [(0, 0)]) k = .ok ("many", 24) := refused_many (by rw [List.length_append, List.length_set, List.length_set, lf]; decide)
  rw [loopR_any (r := (false, t.2)) (p := fun _ => false) (fun k _ => ?_)]
  · simp only [chk_eq Vf, bin_ok]
    simp only [List.any_eq_true, Bool.false_eq_true, and_false, exists_false, if_false, Res.bind_ok]
    rfl
  · rw [cat_ok (by omega) (by simp), cat_ok (by rw [List.length_set, List.length_set]; omega) (by simp)]
    simp only [refused_ok Vf, refused_none, r1, r2, r3, r4, bin_ok, pair_ok, neR_eq, decide_true, Bool.not_true, orR_ok, Bool.or_self, ifR_ok, if_neg Bool.false_ne_true, un_ok]
theorem pairs_ok (l : List Row) : m__law_are_pairs l = .ok true := by
  unfold m__law_are_pairs
  simp only [pair_ok, un_ok, notR_eq, Bool.not_true, ifR_ok, if_neg Bool.false_ne_true, Res.bind_ok]
  rw [loopR_any (r := false) (p := fun _ => false) (fun x _ => rfl)]
  simp
theorem mxn_small {rows : List Row} (V : Val rows) {k : Int} (h0 : 0 ≤ k) (h1 : k < rows.length) {w : Int → Int → Ra} {q : Ra → Prop} (hw : ∀ a b, 0 ≤ a → a < b → b ≤ (rows.length : Int) → q (w a b)) {z0 z1 : Ra} (q0 : q z0) (q1 : q z1) : q (mxn rows.length k w z0 z1) :=
  maxF_pred q0 fun s hs => by
    have := mem_rangeL.mp hs
    exact inner_sm V (by omega) (by omega) hw q1
theorem mnx_small {rows : List Row} (V : Val rows) {k : Int} (h0 : 0 ≤ k) (h1 : k < rows.length) {w : Int → Int → Ra} {q : Ra → Prop} (hw : ∀ a b, 0 ≤ a → a < b → b ≤ (rows.length : Int) → q (w a b)) {z0 z1 : Ra} (q0 : q z0) (q1 : q z1) : q (mnx rows.length k w z0 z1) :=
  minF_pred q1 fun e he => by
    have he := mem_rangeL.mp he
    refine maxF_pred q0 fun s hs => ?_
    have hs := mem_rangeL.mp hs
    exact hw s e (by omega) (by omega) (by omega)
/-- what the told ratios are -/
def Told (x : Ra) : Prop := Sm x ∧ 0 ≤ x.1 ∧ Nat.gcd x.1.natAbs x.2.natAbs = 1
theorem red_told {x : Ra} (h : Bd x) : Told (red x) := ⟨(red_bd h).sm, (red_bd h).a, red_gcd (by have := h.c; omega)⟩
theorem cut_app {α : Type} {xs : List α} {x : α} : cut (xs ++ [x]) none (some (-1)) = xs := by rw [cut_last, List.dropLast_concat]
theorem law_true (ns : List Int) (hns : ns.length ≤ 63) : m_law ns = .ok true := by
  refine Is.eq ?_
  unfold m_law
  have p0 : PI_ (0, 0, 0, cut ns none (some 63)) := ⟨Int.le_refl _, Int.le_refl _⟩
  obtain ⟨r, er, V, pr⟩ := (groups_is p0).get
  have hlen := V.len
  have hpos := V.pos
  have P := V.pts
  obtain ⟨l, el, hd, hl1, hl2⟩ := (blocks_is V).get
  obtain ⟨c, ec, hc1, hc2⟩ := chances_is V el hd
  have erb : m_rising_blocks r.1 = .ok l := by
    unfold m_rising_blocks
    rw [un_ok, chk_eq V, Res.bind_ok, un_ok, el]
    rfl
  obtain ⟨d, ed, hd1, pd⟩ := (divisions_is V hd hl2 (by omega) pr).get
  -- the chances
  have hck : ∀ k : Int, 0 ≤ k → k < r.1.length → ∃ x, x ∈ l ∧ x.1 ≤ k ∧ k < x.2 ∧ ix c k = .ok (red (sh (Yr r.1) (Tr r.1) x.1 x.2)) := fun k h0 h1 => by
    obtain ⟨x, hx, h2, h3⟩ := hd.cover h0 h1
    refine ⟨x, hx, h2, h3, ?_⟩
    have e := hc2 x hx k h2 h3
    have := ix_nat e
    rw [show ((k.toNat : Nat) : Int) = k by omega] at this
    exact this
  simp only [poolR_eq, Res.bind_ok, er, un_ok, idR_eq, erb, pairs_ok, pair_ok, isD_eq V, isD_of hd, notR_eq, Bool.not_true, orR_ok, Bool.or_self, ifR_ok, if_neg Bool.false_ne_true, consR_ok, rLen_eq, binM_eq, liftM_ok, callM_ok, ed]
  rw [cat_ok (by simp) (by omega), Res.bind_ok]
  refine Is.bind (loopR_inv (J := PI_) pd fun x y hx hy => ?_) ?_
  · simp only [rising_eq V, Res.bind_ok, bin_ok, neR_eq, decide_true, Bool.not_true, orR_ok, Bool.or_self, ifR_ok, if_neg Bool.false_ne_true]
    exact ⟨y, rfl, hy⟩
  rintro o ⟨y, rfl, hy⟩
  dsimp only
  simp only [ec, Res.bind_ok, hc1, bin_ok, neR_eq, decide_true, Bool.not_true, orR_ok, Bool.or_self, ifR_ok, if_neg Bool.false_ne_true, rng1_ok (n := (r.1.length : Int)) (by omega), un_ok]
  have lt1 : ∀ x ∈ l, Bd (sh (Yr r.1) (Tr r.1) x.1 x.2) := fun x hx => by
    obtain ⟨a, b, e, _⟩ := hd.at P hx
    exact V.bd a b e
  have sw : ∀ a b, 0 ≤ a → a < b → b ≤ (r.1.length : Int) → Sm (sh (Yr r.1) (Tr r.1) a b) := fun a b h0 h h1 => (V.bd h0 h h1).sm
  have tw : ∀ a b, 0 ≤ a → a < b → b ≤ (r.1.length : Int) → Told (rw_ r.1 a b) := fun a b h0 h h1 => red_told (V.bd h0 h h1)
  have s2 : Sm (2, 1) := ⟨by decide, by decide, by decide, by decide⟩
  have t0 : Told (0, 1) := ⟨sm00, by decide, by decide⟩
  have t1 : Told (1, 1) := ⟨sm11, by decide, by decide⟩
  rw [loopR_any (r := false) (p := fun _ => false) (fun k hk => ?_)]
  rotate_left
  · have hk := mem_rangeL.mp hk
    obtain ⟨x, hx, h2, h3, e⟩ := hck k hk.1 hk.2
    have bd := lt1 x hx
    obtain ⟨eq, _⟩ := mxn_eq P hd hx h2 h3 (sh_wt V) (z0 := (-1, 1)) (z1 := (2, 1)) (by decide) (by decide) (fun z => by
      have := bd.a
      have := bd.c
      unfold Lt at z
      dsimp only at z
      omega) (fun z => by
      have := bd.b
      have := bd.c
      unfold Lt at z
      dsimp only at z
      omega)
    have sm := mxn_small V hk.1 hk.2 sw sm0 s2
    rw [e, chance_eq V hk.1 hk.2, pair_ok, un_ok, is_ratio_ok (red_bd bd).sm (red_bd bd).a (red_told bd).2.2 sm (eqv_trans bd.c red_eqv (eqv_symm eq))]
    rfl
  simp only [List.any_eq_true, Bool.false_eq_true, and_false, exists_false, if_false, Res.bind_ok]
  rw [loopR_any (r := false) (p := fun _ => false) (fun x hx => ?_)]
  rotate_left
  · obtain ⟨a, b, e, _⟩ := hd.at P hx
    have bd := lt1 x hx
    rw [rng2_ok (a := x.1) (b := x.2) (by omega), Res.bind_ok, loopR_any (r := false) (p := fun _ => false) (fun k hk => ?_)]
    · simp
    · have hk := mem_rangeL.mp hk
      have e2 := ix_nat (hc2 x hx k hk.1 hk.2)
      rw [show ((k.toNat : Nat) : Int) = k by omega] at e2
      rw [e2, lshare_eq a (by omega), pair_ok, un_ok, is_ratio_ok (red_bd bd).sm (red_bd bd).a (red_told bd).2.2 bd.sm red_eqv]
      rfl
  simp only [List.any_eq_true, Bool.false_eq_true, and_false, exists_false, if_false, Res.bind_ok, rng1_ok (n := 6) (by decide)]
  refine Is.bind (loopR_inv (J := PI_) hy fun x y hx hy => ?_) ?_
  · obtain ⟨k, ek, hk, pk⟩ := take_ok (n := (r.1.length : Int)) hy (by omega) (by omega)
    obtain ⟨x, hx, h2, h3, e⟩ := hck k.1 hk.1 hk.2
    have bd := lt1 x hx
    have u0 : ¬ Lt (sh (Yr r.1) (Tr r.1) x.1 x.2) (0, 1) := fun z => by
      have := bd.a
      unfold Lt at z
      dsimp only at z
      omega
    have u1 : ¬ Lt (1, 1) (sh (Yr r.1) (Tr r.1) x.1 x.2) := fun z => by
      have := bd.b
      unfold Lt at z
      dsimp only at z
      omega
    obtain ⟨q1, _⟩ := mxn_eq P hd hx h2 h3 (red_wt V) (z0 := (0, 1)) (z1 := (1, 1)) (by decide) (by decide) u0 u1
    obtain ⟨q2, _⟩ := mnx_eq P hd hx h2 h3 (red_wt V) (z0 := (0, 1)) (z1 := (1, 1)) (by decide) (by decide) u0 u1
    have w1 := mxn_small V hk.1 hk.2 tw t0 t1
    have w2 := mnx_small V hk.1 hk.2 tw t0 t1
    rw [ek, Res.bind_ok, mxm_eq V hk.1 hk.2, mnm_eq V hk.1 hk.2, e, pair_ok, un_ok, pair_ok, un_ok, is_ratio_ok w1.1 w1.2.1 w1.2.2 (red_bd bd).sm (eqv_trans bd.c q1 (eqv_symm red_eqv)), is_ratio_ok w2.1 w2.2.1 w2.2.2 (red_bd bd).sm (eqv_trans bd.c q2 (eqv_symm red_eqv))]
    exact ⟨k.2, rfl, pk⟩
  rintro o ⟨y, rfl, hy⟩
  dsimp only
  obtain ⟨x, hx, h2, h3, e⟩ := hck 0 (Int.le_refl _) (by omega)
  rw [e, Res.bind_ok, push_ok (by omega), Res.bind_ok, push_ok (by omega), Res.bind_ok]
  simp only [rNeg_eq, someR_ok, slR_ok, cut_app, bin_ok, neR_eq, decide_true, Bool.not_true, orR_ok, Bool.or_self, ifR_ok, if_neg Bool.false_ne_true]
  obtain ⟨w, ew, hw⟩ := (refused_right_is V hy).get
  rw [ew]
  exact hw

end K84
set_option maxHeartbeats 0
namespace K84
open PySem PySem.Spec PyProof.Rows L2 Sd
def dd0 : He.DefD := ⟨("ratio", none), "ratio", "ratio", defArgs s_ratio, defBody s_ratio, defScope s_ratio, [], []⟩
def dd1 : He.DefD := ⟨("compare", none), "compare", "compare", defArgs s_compare, defBody s_compare, defScope s_compare, [], []⟩
def dd2 : He.DefD := ⟨("are_counts", none), "are_counts", "are_counts", defArgs s_are_counts, defBody s_are_counts, defScope s_are_counts, [], []⟩
def dd3 : He.DefD := ⟨("check_groups", none), "check_groups", "check_groups", defArgs s_check_groups, defBody s_check_groups, defScope s_check_groups, [], []⟩
def dd4 : He.DefD := ⟨("stretch_share", none), "stretch_share", "stretch_share", defArgs s_stretch_share, defBody s_stretch_share, defScope s_stretch_share, [], []⟩
def dd5 : He.DefD := ⟨("blocks_of", none), "blocks_of", "blocks_of", defArgs s_blocks_of, defBody s_blocks_of, defScope s_blocks_of, [], []⟩
def dd6 : He.DefD := ⟨("rising_blocks", none), "rising_blocks", "rising_blocks", defArgs s_rising_blocks, defBody s_rising_blocks, defScope s_rising_blocks, [], []⟩
def dd7 : He.DefD := ⟨("is_level_stretch", none), "is_level_stretch", "is_level_stretch", defArgs s_is_level_stretch, defBody s_is_level_stretch, defScope s_is_level_stretch, [], []⟩
def dd8 : He.DefD := ⟨("is_rising", none), "is_rising", "is_rising", defArgs s_is_rising, defBody s_is_rising, defScope s_is_rising, [], []⟩
def dd9 : He.DefD := ⟨("rising_chances", none), "rising_chances", "rising_chances", defArgs s_rising_chances, defBody s_rising_chances, defScope s_rising_chances, [], []⟩
def dd10 : He.DefD := ⟨("greater", none), "greater", "greater", defArgs s_greater, defBody s_greater, defScope s_greater, [], []⟩
def dd11 : He.DefD := ⟨("lesser", none), "lesser", "lesser", defArgs s_lesser, defBody s_lesser, defScope s_lesser, [], []⟩
def dd12 : He.DefD := ⟨("max_min", none), "max_min", "max_min", defArgs s_max_min, defBody s_max_min, defScope s_max_min, [], []⟩
def dd13 : He.DefD := ⟨("min_max", none), "min_max", "min_max", defArgs s_min_max, defBody s_min_max, defScope s_min_max, [], []⟩
def dd14 : He.DefD := ⟨("_law_mix", none), "_law_mix", "_law_mix", defArgs s__law_mix, defBody s__law_mix, defScope s__law_mix, [], []⟩
def dd15 : He.DefD := ⟨("_law_pool", none), "_law_pool", "_law_pool", defArgs s__law_pool, defBody s__law_pool, defScope s__law_pool, [], []⟩
def dd16 : He.DefD := ⟨("_law_fill", none), "_law_fill", "_law_fill", defArgs s__law_fill, defBody s__law_fill, defScope s__law_fill, [], []⟩
def dd17 : He.DefD := ⟨("_law_take", none), "_law_take", "_law_take", defArgs s__law_take, defBody s__law_take, defScope s__law_take, [], []⟩
def dd18 : He.DefD := ⟨("_law_from", none), "_law_from", "_law_from", defArgs s__law_from, defBody s__law_from, defScope s__law_from, [], []⟩
def dd19 : He.DefD := ⟨("_law_groups", none), "_law_groups", "_law_groups", defArgs s__law_groups, defBody s__law_groups, defScope s__law_groups, [], []⟩
def dd20 : He.DefD := ⟨("_law_share", none), "_law_share", "_law_share", defArgs s__law_share, defBody s__law_share, defScope s__law_share, [], []⟩
def dd21 : He.DefD := ⟨("_law_less", none), "_law_less", "_law_less", defArgs s__law_less, defBody s__law_less, defScope s__law_less, [], []⟩
def dd22 : He.DefD := ⟨("_law_chance", none), "_law_chance", "_law_chance", defArgs s__law_chance, defBody s__law_chance, defScope s__law_chance, [], []⟩
def dd23 : He.DefD := ⟨("_law_is_int", none), "_law_is_int", "_law_is_int", defArgs s__law_is_int, defBody s__law_is_int, defScope s__law_is_int, [], []⟩
def dd24 : He.DefD := ⟨("_law_gcd", none), "_law_gcd", "_law_gcd", defArgs s__law_gcd, defBody s__law_gcd, defScope s__law_gcd, [], []⟩
def dd25 : He.DefD := ⟨("_law_is_ratio", none), "_law_is_ratio", "_law_is_ratio", defArgs s__law_is_ratio, defBody s__law_is_ratio, defScope s__law_is_ratio, [], []⟩
def dd26 : He.DefD := ⟨("_law_is_division", none), "_law_is_division", "_law_is_division", defArgs s__law_is_division, defBody s__law_is_division, defScope s__law_is_division, [], []⟩
def dd27 : He.DefD := ⟨("_law_are_pairs", none), "_law_are_pairs", "_law_are_pairs", defArgs s__law_are_pairs, defBody s__law_are_pairs, defScope s__law_are_pairs, [], []⟩
def dd28 : He.DefD := ⟨("_law_divisions", none), "_law_divisions", "_law_divisions", defArgs s__law_divisions, defBody s__law_divisions, defScope s__law_divisions, [], []⟩
def dd29 : He.DefD := ⟨("_law_refused", none), "_law_refused", "_law_refused", defArgs s__law_refused, defBody s__law_refused, defScope s__law_refused, [], []⟩
def dd30 : He.DefD := ⟨("_law_refused_right", none), "_law_refused_right", "_law_refused_right", defArgs s__law_refused_right, defBody s__law_refused_right, defScope s__law_refused_right, [], []⟩
def dd31 : He.DefD := ⟨("law", none), "law", "law", defArgs s_law, defBody s_law, defScope s_law, [], []⟩
def dd32 : He.DefD := ⟨("DeskError", some "__init__"), "__init__", "DeskError.__init__", defArgs s_err, defBody s_err, defScope s_err, [.int 0], []⟩
def dfs : List He.DefD := [dd0, dd1, dd2, dd3, dd4, dd5, dd6, dd7, dd8, dd9, dd10, dd11, dd12, dd13, dd14, dd15, dd16, dd17, dd18, dd19, dd20, dd21, dd22, dd23, dd24, dd25, dd26, dd27, dd28, dd29, dd30, dd31, dd32]
def fas : List He.Fa := [.glo "ratio", .glo "compare", .glo "are_counts", .glo "check_groups", .glo "stretch_share", .glo "blocks_of", .glo "rising_blocks", .glo "is_level_stretch", .glo "is_rising", .glo "rising_chances", .glo "greater", .glo "lesser", .glo "max_min", .glo "min_max", .glo "_law_mix", .glo "_law_pool", .glo "_law_fill", .glo "_law_take", .glo "_law_from", .glo "_law_groups", .glo "_law_share", .glo "_law_less", .glo "_law_chance", .glo "_law_is_int", .glo "_law_gcd", .glo "_law_is_ratio", .glo "_law_is_division", .glo "_law_are_pairs", .glo "_law_divisions", .glo "_law_refused", .glo "_law_refused_right", .glo "law", .free "bool", .free "enumerate", .free "int", .free "isinstance", .free "len", .free "list", .free "range", .free "sorted", .free "sum", .free "tuple", .int "MOST_CASES" (100000), .int "MOST_GROUPS" (24)]
def exB (K : PySem.W.Frag) : Bool := errsB [.DeskError, .TooMany, .BadRatio, .BadSignals] K && He.eqO (PySem.W.nsIn K mainGlobals "gcd") (some (some (.builtin "math.gcd")))
abbrev R : PySem.W.OpenRow := PySem.W.OpenLaw.row PySem.Challenge.rw_stormdesk_k84_whole_rising_division
abbrev hk : PySem.W.Hook := He.hookX 6 fas dfs [] [] exB
def ob (s : PySem.W.SharedT) : He.AlX := He.obsX 6 fas dfs [] [] exB (HandSHeadRun.getT s)
theorem ob_eq (s : PySem.W.SharedT) : ob s = hk.obs s.abs := He.obsX_eq (HandSHeadRun.getT_eq s)
def lo0 : List PySem.Str := ["gcd", "DeskError", "TooMany", "BadRatio", "BadSignals", "ratio", "compare", "MOST_CASES", "are_counts", "MOST_GROUPS", "check_groups", "stretch_share", "blocks_of", "rising_blocks", "is_level_stretch", "is_rising", "rising_chances", "greater", "lesser", "max_min", "min_max", "_law_mix", "_law_pool", "_law_fill", "_law_take", "_law_from", "_law_groups", "_law_share", "_law_less", "_law_chance"]
def lo1 : List PySem.Str := ["_law_is_int", "_law_gcd", "_law_is_ratio", "_law_is_division", "_law_are_pairs", "_law_divisions", "_law_refused", "_law_refused_right"]
abbrev lo : List PySem.Str := lo0 ++ lo1
theorem hd_run (w : World) : HandSHeadRun.RunEqI R (PySem.W.view R.prog [0, 43]) hk ob 20000 lo w := by
  unfold HandSHeadRun.RunEqI
  kernel_rfl
theorem mk {K : PySem.W.Frag} {w : World} {h : Heap} {mg : Str → Option Value} (X : K.In h) (G : h.Ns mainGlobals mg) (c : He.SaysX fas dfs [] [] exB w h K) : ∃ T : Tx K mg, T.f_law = He.ga K "law" := by
  obtain ⟨d0, F0⟩ := c.t.d.def_ 0 (d := dd0) rfl
  obtain ⟨d1, F1⟩ := c.t.d.def_ 1 (d := dd1) rfl
  obtain ⟨d2, F2⟩ := c.t.d.def_ 2 (d := dd2) rfl
  obtain ⟨d3, F3⟩ := c.t.d.def_ 3 (d := dd3) rfl
  obtain ⟨d4, F4⟩ := c.t.d.def_ 4 (d := dd4) rfl
  obtain ⟨d5, F5⟩ := c.t.d.def_ 5 (d := dd5) rfl
  obtain ⟨d6, F6⟩ := c.t.d.def_ 6 (d := dd6) rfl
  obtain ⟨d7, F7⟩ := c.t.d.def_ 7 (d := dd7) rfl
  obtain ⟨d8, F8⟩ := c.t.d.def_ 8 (d := dd8) rfl
  obtain ⟨d9, F9⟩ := c.t.d.def_ 9 (d := dd9) rfl
  obtain ⟨d10, F10⟩ := c.t.d.def_ 10 (d := dd10) rfl
  obtain ⟨d11, F11⟩ := c.t.d.def_ 11 (d := dd11) rfl
  obtain ⟨d12, F12⟩ := c.t.d.def_ 12 (d := dd12) rfl
  obtain ⟨d13, F13⟩ := c.t.d.def_ 13 (d := dd13) rfl
  obtain ⟨d14, F14⟩ := c.t.d.def_ 14 (d := dd14) rfl
  obtain ⟨d15, F15⟩ := c.t.d.def_ 15 (d := dd15) rfl
  obtain ⟨d16, F16⟩ := c.t.d.def_ 16 (d := dd16) rfl
  obtain ⟨d17, F17⟩ := c.t.d.def_ 17 (d := dd17) rfl
  obtain ⟨d18, F18⟩ := c.t.d.def_ 18 (d := dd18) rfl
  obtain ⟨d19, F19⟩ := c.t.d.def_ 19 (d := dd19) rfl
  obtain ⟨d20, F20⟩ := c.t.d.def_ 20 (d := dd20) rfl
  obtain ⟨d21, F21⟩ := c.t.d.def_ 21 (d := dd21) rfl
  obtain ⟨d22, F22⟩ := c.t.d.def_ 22 (d := dd22) rfl
  obtain ⟨d23, F23⟩ := c.t.d.def_ 23 (d := dd23) rfl
  obtain ⟨d24, F24⟩ := c.t.d.def_ 24 (d := dd24) rfl
  obtain ⟨d25, F25⟩ := c.t.d.def_ 25 (d := dd25) rfl
  obtain ⟨d26, F26⟩ := c.t.d.def_ 26 (d := dd26) rfl
  obtain ⟨d27, F27⟩ := c.t.d.def_ 27 (d := dd27) rfl
  obtain ⟨d28, F28⟩ := c.t.d.def_ 28 (d := dd28) rfl
  obtain ⟨d29, F29⟩ := c.t.d.def_ 29 (d := dd29) rfl
  obtain ⟨d30, F30⟩ := c.t.d.def_ 30 (d := dd30) rfl
  obtain ⟨d31, F31⟩ := c.t.d.def_ 31 (d := dd31) rfl
  obtain ⟨d32, F32⟩ := c.t.d.def_ 32 (d := dd32) rfl
  obtain ⟨e1, e2, e3⟩ := errsB_ok X G (show errsB [.DeskError, .TooMany, .BadRatio, .BadSignals] K = true from (Bool.and_eq_true_iff.mp c.more).1)
  exact ⟨{ f_ratio := He.ga K "ratio", d_ratio := d0, F_ratio := F0, g_ratio := He.glo_ok X G (c.t.d.fact 0 (f := .glo "ratio") rfl), f_compare := He.ga K "compare", d_compare := d1, F_compare := F1, g_compare := He.glo_ok X G (c.t.d.fact 1 (f := .glo "compare") rfl), f_are_counts := He.ga K "are_counts", d_are_counts := d2, F_are_counts := F2, g_are_counts := He.glo_ok X G (c.t.d.fact 2 (f := .glo "are_counts") rfl), f_check_groups := He.ga K "check_groups", d_check_groups := d3, F_check_groups := F3, g_check_groups := He.glo_ok X G (c.t.d.fact 3 (f := .glo "check_groups") rfl), f_stretch_share := He.ga K "stretch_share", d_stretch_share := d4, F_stretch_share := F4, g_stretch_share := He.glo_ok X G (c.t.d.fact 4 (f := .glo "stretch_share") rfl), f_blocks_of := He.ga K "blocks_of", d_blocks_of := d5, F_blocks_of := F5, g_blocks_of := He.glo_ok X G (c.t.d.fact 5 (f := .glo "blocks_of") rfl), f_rising_blocks := He.ga K "rising_blocks", d_rising_blocks := d6, F_rising_blocks := F6, g_rising_blocks := He.glo_ok X G (c.t.d.fact 6 (f := .glo "rising_blocks") rfl), f_is_level_stretch := He.ga K "is_level_stretch", d_is_level_stretch := d7, F_is_level_stretch := F7, g_is_level_stretch := He.glo_ok X G (c.t.d.fact 7 (f := .glo "is_level_stretch") rfl), f_is_rising := He.ga K "is_rising", d_is_rising := d8, F_is_rising := F8, g_is_rising := He.glo_ok X G (c.t.d.fact 8 (f := .glo "is_rising") rfl), f_rising_chances := He.ga K "rising_chances", d_rising_chances := d9, F_rising_chances := F9, g_rising_chances := He.glo_ok X G (c.t.d.fact 9 (f := .glo "rising_chances") rfl), f_greater := He.ga K "greater", d_greater := d10, F_greater := F10, g_greater := He.glo_ok X G (c.t.d.fact 10 (f := .glo "greater") rfl), f_lesser := He.ga K "lesser", d_lesser := d11, F_lesser := F11, g_lesser := He.glo_ok X G (c.t.d.fact 11 (f := .glo "lesser") rfl), f_max_min := He.ga K "max_min", d_max_min := d12, F_max_min := F12, g_max_min := He.glo_ok X G (c.t.d.fact 12 (f := .glo "max_min") rfl), f_min_max := He.ga K "min_max", d_min_max := d13, F_min_max := F13, g_min_max := He.glo_ok X G (c.t.d.fact 13 (f := .glo "min_max") rfl), f__law_mix := He.ga K "_law_mix", d__law_mix := d14, F__law_mix := F14, g__law_mix := He.glo_ok X G (c.t.d.fact 14 (f := .glo "_law_mix") rfl), f__law_pool := He.ga K "_law_pool", d__law_pool := d15, F__law_pool := F15, g__law_pool := He.glo_ok X G (c.t.d.fact 15 (f := .glo "_law_pool") rfl), f__law_fill := He.ga K "_law_fill", d__law_fill := d16, F__law_fill := F16, g__law_fill := He.glo_ok X G (c.t.d.fact 16 (f := .glo "_law_fill") rfl), f__law_take := He.ga K "_law_take", d__law_take := d17, F__law_take := F17, g__law_take := He.glo_ok X G (c.t.d.fact 17 (f := .glo "_law_take") rfl), f__law_from := He.ga K "_law_from", d__law_from := d18, F__law_from := F18, g__law_from := He.glo_ok X G (c.t.d.fact 18 (f := .glo "_law_from") rfl), f__law_groups := He.ga K "_law_groups", d__law_groups := d19, F__law_groups := F19, g__law_groups := He.glo_ok X G (c.t.d.fact 19 (f := .glo "_law_groups") rfl), f__law_share := He.ga K "_law_share", d__law_share := d20, F__law_share := F20, g__law_share := He.glo_ok X G (c.t.d.fact 20 (f := .glo "_law_share") rfl), f__law_less := He.ga K "_law_less", d__law_less := d21, F__law_less := F21, g__law_less := He.glo_ok X G (c.t.d.fact 21 (f := .glo "_law_less") rfl), f__law_chance := He.ga K "_law_chance", d__law_chance := d22, F__law_chance := F22, g__law_chance := He.glo_ok X G (c.t.d.fact 22 (f := .glo "_law_chance") rfl), f__law_is_int := He.ga K "_law_is_int", d__law_is_int := d23, F__law_is_int := F23, g__law_is_int := He.glo_ok X G (c.t.d.fact 23 (f := .glo "_law_is_int") rfl), f__law_gcd := He.ga K "_law_gcd", d__law_gcd := d24, F__law_gcd := F24, g__law_gcd := He.glo_ok X G (c.t.d.fact 24 (f := .glo "_law_gcd") rfl), f__law_is_ratio := He.ga K "_law_is_ratio", d__law_is_ratio := d25, F__law_is_ratio := F25, g__law_is_ratio := He.glo_ok X G (c.t.d.fact 25 (f := .glo "_law_is_ratio") rfl), f__law_is_division := He.ga K "_law_is_division", d__law_is_division := d26, F__law_is_division := F26, g__law_is_division := He.glo_ok X G (c.t.d.fact 26 (f := .glo "_law_is_division") rfl), f__law_are_pairs := He.ga K "_law_are_pairs", d__law_are_pairs := d27, F__law_are_pairs := F27, g__law_are_pairs := He.glo_ok X G (c.t.d.fact 27 (f := .glo "_law_are_pairs") rfl), f__law_divisions := He.ga K "_law_divisions", d__law_divisions := d28, F__law_divisions := F28, g__law_divisions := He.glo_ok X G (c.t.d.fact 28 (f := .glo "_law_divisions") rfl), f__law_refused := He.ga K "_law_refused", d__law_refused := d29, F__law_refused := F29, g__law_refused := He.glo_ok X G (c.t.d.fact 29 (f := .glo "_law_refused") rfl), f__law_refused_right := He.ga K "_law_refused_right", d__law_refused_right := d30, F__law_refused_right := F30, g__law_refused_right := He.glo_ok X G (c.t.d.fact 30 (f := .glo "_law_refused_right") rfl), f_law := He.ga K "law", d_law := d31, F_law := F31, g_law := He.glo_ok X G (c.t.d.fact 31 (f := .glo "law") rfl), gb_bool := He.free_ok X G (c.t.d.fact 32 (f := .free "bool") rfl), gb_enumerate := He.free_ok X G (c.t.d.fact 33 (f := .free "enumerate") rfl), gb_int := He.free_ok X G (c.t.d.fact 34 (f := .free "int") rfl), gb_isinstance := He.free_ok X G (c.t.d.fact 35 (f := .free "isinstance") rfl), gb_len := He.free_ok X G (c.t.d.fact 36 (f := .free "len") rfl), gb_list := He.free_ok X G (c.t.d.fact 37 (f := .free "list") rfl), gb_range := He.free_ok X G (c.t.d.fact 38 (f := .free "range") rfl), gb_sorted := He.free_ok X G (c.t.d.fact 39 (f := .free "sorted") rfl), gb_sum := He.free_ok X G (c.t.d.fact 40 (f := .free "sum") rfl), gb_tuple := He.free_ok X G (c.t.d.fact 41 (f := .free "tuple") rfl), gi_MOST_CASES := He.int_ok X G (c.t.d.fact 42 (f := .int "MOST_CASES" (100000)) rfl), gi_MOST_GROUPS := He.int_ok X G (c.t.d.fact 43 (f := .int "MOST_GROUPS" (24)) rfl), gm_gcd := PySem.W.mg_of X G (He.eqO_ok (Bool.and_eq_true_iff.mp c.more).2), f_err := He.fAd K ("DeskError", some "__init__"), d_err := d32, F_err := F32, xs := fun c h => e1 c (of_decide_eq_true h), ki := fun c b h h2 => e2 c b (of_decide_eq_true h) (of_decide_eq_true h2), ex := fun c b h h2 => e3 c b (of_decide_eq_true h) (of_decide_eq_true h2) }, rfl⟩
end K84
open PySem PySem.W PySem.Calls PyProof.Rows
theorem PySem.Challenge.cw_stormdesk_k84_whole_rising_division_holds : PySem.Challenge.rw_stormdesk_k84_whole_rising_division.Holds := by
  w_on; o_law
  refine HandSHeadRun.head_imp (r := OpenLaw.row PySem.Challenge.rw_stormdesk_k84_whole_rising_division) (q := view (OpenLaw.row PySem.Challenge.rw_stormdesk_k84_whole_rising_division).prog [0, 43]) (H := K84.hk) (ob := K84.ob) (M := 20000) (loose := K84.lo) (d := HandSHeadRun.topDef (OpenLaw.row PySem.Challenge.rw_stormdesk_k84_whole_rising_division).prog 43) (kwd := []) K84.ob_eq
    K84.hd_run (by kernel_rfl) (by kernel_rfl) (by kernel_rfl) (by rfl) (by first | assumption | decide +kernel) (by decide +kernel) ⟨rfl, rfl, rfl, rfl, rfl, by decide +kernel⟩ ?hw ?hc
  case hw => w_witness2
  case hc =>
    refine L2.walk_ofE (l := PySem.Challenge.rw_stormdesk_k84_whole_rising_division) (n := 63) (k := 9) (x := "script") (CX := L2.CX0) rfl (by decide) (by kernel_rfl) ⟨rfl, by decide, by decide⟩ ?F (fun _ _ _ _ z => z)
    intro w mg fa h Y G hmg0
    obtain ⟨K, KX, c⟩ := Y
    have hmg : mg ("law" : PySem.Str) = some (.ref fa) := by
      have e : (HandSHeadRun.topDef (OpenLaw.row PySem.Challenge.rw_stormdesk_k84_whole_rising_division).prog 43).name = ("law" : PySem.Str) := by kernel_rfl
      rw [← e]
      exact hmg0
    obtain ⟨T, hT⟩ := K84.mk KX G c
    have e := hmg.symm.trans T.g_law
    have e2 : fa = T.f_law := by
      have e3 := Option.some.inj e
      injection e3
    subst e2
    have b := L2.FunD.bindsA (ps := ["script"]) T.F_law fun _ _ _ _ _ _ us hl => match us, hl with | [_], _ => rfl
    exact ⟨K, T.d_law, Sd.spLaw K K84.m_law, KX, fun s v => b s [v] rfl, fun H a ns hl _ hS => ⟨a, ns, rfl, hS, Nat.le_trans hl (by decide), by rw [K84.law_true ns hl]; exact fun v H' hv => hv⟩, fun base _ _ => K84.ok_law T⟩

