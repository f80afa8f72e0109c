import PyProof.Rows.All
import Wide.All
import OpenK.AllK
import Wide.FinOn
import HandS.ForMost
import HandS.ForExc
import HandS.Walk
import HandS.Sort
import HandS.SortRule
import HandS.SortInts
import HandS.Flow
import HandS.IsInst
import HandS.Gcd
import HandS.ExcInit
import HandS.ExcIs
import HandS.ExcField
import HandS.TryOnly
import HandS.Defaults
import HandS.TupAny
import HandS.Conv
import HandS.Style
import HandS.HeadHook4
import HandS.HeadEnd
import HandS.Head2
import HandS.Evl
import HandS.Wide
import HandS.Head3
import PySem.Challenge.RW_stormdesk_k85_losses_and_thresholds
set_option Elab.async false
set_option linter.all false
set_option maxRecDepth 100000
set_option maxHeartbeats 4000000
namespace Sd
open PySem L2
/-! ### results -/
inductive Ec where
  | DeskError | TooMany | BadName | BadRatio | BadSpan | BadLine | BadWorld | BadArea | BadGauge | BadRun | BadTable | BadSignals | Unlike
  | BadPerson | BadCall | BadTree | BadRule | BadDeed | NoBulletin | BadPair | Unplayable
  deriving DecidableEq, Repr
inductive Res (α : Type) where
  | ok (a : α)
  | exc (c : Ec) (i : Int)
  | bad
namespace Res
variable {α β γ : Type}
def bind (m : Res α) (k : α → Res β) : Res β := match m with
  | .ok a => k a
  | .exc c i => .exc c i
  | .bad => .bad
@[simp] theorem bind_ok (a : α) (k : α → Res β) : (Res.ok a).bind k = k a := rfl
@[simp] theorem bind_exc (c : Ec) (i : Int) (k : α → Res β) : (Res.exc c i).bind k = .exc c i := rfl
@[simp] theorem bind_bad (k : α → Res β) : (Res.bad).bind k = .bad := rfl
@[simp] theorem bind_assoc (m : Res α) (k : α → Res β) (l : β → Res γ) : (m.bind k).bind l = m.bind fun a => (k a).bind l := by cases m <;> rfl
@[simp] theorem bind_id (m : Res α) : m.bind .ok = m := by cases m <;> rfl
end Res
/-- what is wanted of a result -/
def Post {α : Type} (m : Res α) (Q : α → Prop) (X : Ec → Int → Prop) : Prop := match m with
  | .ok a => Q a
  | .exc c i => X c i
  | .bad => False
section
variable {α β : Type} {m : Res α} {k : α → Res β} {Q Q' : α → Prop} {R : β → Prop} {X X' : Ec → Int → Prop}
theorem Post.bind (h : Post (m.bind k) R X) : Post m (fun a => Post (k a) R X) X := by
  cases m with
  | ok a => exact h
  | exc c i => exact h
  | bad => exact h
theorem Post.of_bind (h : Post m (fun a => Post (k a) R X) X) : Post (m.bind k) R X := by
  cases m with
  | ok a => exact h
  | exc c i => exact h
  | bad => exact h
theorem Post.mono (h : Post m Q X) (q : ∀ a, Q a → Q' a) (x : ∀ c i, X c i → X' c i) : Post m Q' X' := by
  cases m with
  | ok a => exact q a h
  | exc c i => exact x c i h
  | bad => exact h
theorem Post.and (h : Post m Q X) (h' : Post m Q' X) : Post m (fun a => Q a ∧ Q' a) X := by
  cases m with
  | ok a => exact ⟨h, h'⟩
  | exc c i => exact h
  | bad => exact h
end
/-! ### the heap: what is known for good (I), what may change (C) -/
abbrev Ex (H H' : Hp) : Prop := ∀ a o, H a = some o → H' a = some o
theorem Ex.refl (H : Hp) : Ex H H := fun _ _ h => h
theorem Ex.trans {H H1 H2 : Hp} (a : Ex H H1) (b : Ex H1 H2) : Ex H H2 := fun x o h => b x o (a x o h)
theorem Ex.new {H : Hp} {p : Addr} {o : HO} (h : H p = none) : Ex H (upd H p o) := fun a u e => by
  rw [upd_ne (ne_of_none e h)]
  exact e
structure St (I C H : Hp) : Prop where
  i : Ex I H
  c : Ex C H
  s : ∀ a, I a = none ∨ C a = none
theorem Ex.free {H H' : Hp} {p : Addr} (e : Ex H H') (h : H' p = none) : H p = none := by
  cases q : H p with
  | none => rfl
  | some o =>
    rw [e p o q] at h
    cases h
section
variable {I I' C C' H H' : Hp} {p : Addr} {o u : HO}
/-- a new object, known for good -/
theorem St.newI (s : St I C H) (h : H p = none) : St (upd I p o) C (upd H p o) := by
  refine ⟨fun a v e => ?_, fun a v e => ?_, fun a => ?_⟩
  · by_cases q : a = p
    · subst q
      rw [upd_same] at e ⊢
      exact e
    · rw [upd_ne q] at e ⊢
      exact s.i a v e
  · rw [upd_ne (ne_of_none (s.c a v e) h)]
    exact s.c a v e
  · by_cases q : a = p
    · subst q
      exact .inr (s.c.free h)
    · rw [upd_ne q]
      exact s.s a
/-- a new object that may change -/
theorem St.newC (s : St I C H) (h : H p = none) : St I (upd C p o) (upd H p o) := by
  refine ⟨fun a v e => ?_, fun a v e => ?_, fun a => ?_⟩
  · rw [upd_ne (ne_of_none (s.i a v e) h)]
    exact s.i a v e
  · by_cases q : a = p
    · subst q
      rw [upd_same] at e ⊢
      exact e
    · rw [upd_ne q] at e ⊢
      exact s.c a v e
  · by_cases q : a = p
    · subst q
      exact .inl (s.i.free h)
    · rw [upd_ne q]
      exact s.s a
/-- a cell changes -/
theorem St.set (s : St I C H) (h : C p = some u) : St I (upd C p o) (upd H p o) := by
  have hi : I p = none := (s.s p).elim id fun z => by
    rw [z] at h
    cases h
  refine ⟨fun a v e => ?_, fun a v e => ?_, fun a => ?_⟩
  · rw [upd_ne (ne_of_none e hi)]
    exact s.i a v e
  · by_cases q : a = p
    · subst q
      rw [upd_same] at e ⊢
      exact e
    · rw [upd_ne q] at e ⊢
      exact s.c a v e
  · by_cases q : a = p
    · subst q
      exact .inl hi
    · rw [upd_ne q]
      exact s.s a
/-- a cell is known for good from now on -/
theorem St.frz (s : St I C H) (h : C p = some o) : St (upd I p o) (fun a => if a = p then none else C a) H := by
  refine ⟨fun a v e => ?_, fun a v e => ?_, fun a => ?_⟩
  · by_cases q : a = p
    · subst q
      rw [upd_same] at e
      cases e
      exact s.c a o h
    · rw [upd_ne q] at e
      exact s.i a v e
  · by_cases q : a = p
    · rw [if_pos q] at e
      cases e
    · rw [if_neg q] at e
      exact s.c a v e
  · by_cases q : a = p
    · exact .inr (if_pos q)
    · rw [upd_ne q, if_neg q]
      exact s.s a
theorem St.less (s : St I C H) (e : Ex C' C) : St I C' H := ⟨s.i, e.trans s.c, fun a => (s.s a).imp id fun z => e.free z⟩
theorem St.freeI (s : St I C H) (h : C p = some u) : I p = none := (s.s p).elim id fun z => by
  rw [z] at h
  cases h
end
/-! ### representation -/
structure Rp (α : Type) where
  r : α → V → Hp → Hp → Prop
  mono : ∀ {a : α} {v : V} {I I' C C' : Hp}, Ex I I' → Ex C C' → r a v I C → r a v I' C'
/-- .. by what is known for good alone -/
class Im {α : Type} (R : Rp α) : Prop where
  im : ∀ {a : α} {v : V} {I C C' : Hp}, R.r a v I C → R.r a v I C'
theorem Rp.to {α : Type} (R : Rp α) [Im R] {a : α} {v : V} {I I' C C' : Hp} (e : Ex I I') (h : R.r a v I C) : R.r a v I' C' := Im.im (R.mono e (Ex.refl C) h)
/-- item by item -/
inductive A2 {α : Type} (f : α → V → Prop) : List α → List V → Prop where
  | nil : A2 f [] []
  | cons {x : α} {v : V} {xs : List α} {vs : List V} : f x v → A2 f xs vs → A2 f (x :: xs) (v :: vs)
section
variable {α β : Type} {f g : α → V → Prop} {xs ys : List α} {vs ws : List V}
theorem A2.imp (h : ∀ x v, f x v → g x v) : ∀ {xs : List α} {vs : List V}, A2 f xs vs → A2 g xs vs
  | _, _, .nil => .nil
  | _, _, .cons r t => .cons (h _ _ r) (A2.imp h t)
theorem A2.len : ∀ {xs : List α} {vs : List V}, A2 f xs vs → vs.length = xs.length
  | _, _, .nil => rfl
  | _, _, .cons _ t => by rw [List.length_cons, List.length_cons, A2.len t]
theorem A2.get : ∀ {xs : List α} {vs : List V} {i : Nat} {v : V}, A2 f xs vs → vs[i]? = some v → ∃ x, xs[i]? = some x ∧ f x v
  | _, _, _, _, .nil, e => by cases e
  | _, _, 0, _, .cons r _, e => ⟨_, rfl, by
    have e2 := Option.some.inj e
    rw [← e2]
    exact r⟩
  | _, _, i + 1, _, .cons _ t, e => A2.get (i := i) t e
theorem A2.get' : ∀ {xs : List α} {vs : List V} {i : Nat} {x : α}, A2 f xs vs → xs[i]? = some x → ∃ v, vs[i]? = some v ∧ f x v
  | _, _, _, _, .nil, e => by cases e
  | _, _, 0, _, .cons r _, e => ⟨_, rfl, by
    have e2 := Option.some.inj e
    rw [← e2]
    exact r⟩
  | _, _, i + 1, _, .cons _ t, e => A2.get' (i := i) t e
theorem A2.append : ∀ {xs : List α} {vs : List V} {ys : List α} {ws : List V}, A2 f xs vs → A2 f ys ws → A2 f (xs ++ ys) (vs ++ ws)
  | _, _, _, _, .nil, s => s
  | _, _, _, _, .cons r t, s => .cons r (A2.append t s)
theorem A2.take : ∀ {xs : List α} {vs : List V} (n : Nat), A2 f xs vs → A2 f (xs.take n) (vs.take n)
  | _, _, 0, _ => .nil
  | _, _, _ + 1, .nil => .nil
  | _, _, n + 1, .cons r t => .cons r (A2.take n t)
theorem A2.drop : ∀ {xs : List α} {vs : List V} (n : Nat), A2 f xs vs → A2 f (xs.drop n) (vs.drop n)
  | _, _, 0, r => r
  | _, _, _ + 1, .nil => .nil
  | _, _, n + 1, .cons _ t => A2.drop n t
theorem A2.set {x : α} {v : V} (r : f x v) : ∀ {xs : List α} {vs : List V} (i : Nat), A2 f xs vs → A2 f (xs.set i x) (vs.set i v)
  | _, _, _, .nil => .nil
  | _, _, 0, .cons _ t => .cons r t
  | _, _, i + 1, .cons q t => .cons q (A2.set r i t)
theorem A2.dropLast : ∀ {xs : List α} {vs : List V}, A2 f xs vs → A2 f xs.dropLast vs.dropLast
  | _, _, .nil => .nil
  | _, _, .cons _ .nil => .nil
  | _, _, .cons r (.cons q t) => .cons r (A2.dropLast (.cons q t))
theorem A2.one {x : α} {v : V} (h : f x v) : A2 f [x] [v] := .cons h .nil
/-- scalars: the values are a map -/
theorem A2.map_iff {h : α → V} (hf : ∀ x v, f x v → v = h x) : ∀ {xs : List α} {vs : List V}, A2 f xs vs → vs = xs.map h
  | _, _, .nil => rfl
  | _, _, .cons r t => by rw [List.map_cons, hf _ _ r, A2.map_iff hf t]
theorem A2.of_map {h : α → V} (hf : ∀ x, f x (h x)) : ∀ xs : List α, A2 f xs (xs.map h)
  | [] => .nil
  | x :: r => .cons (hf x) (A2.of_map hf r)
end
def pI : Rp Int := ⟨fun i v _ _ => v = .int i, fun _ _ h => h⟩
def pB : Rp Bool := ⟨fun b v _ _ => v = .bl b, fun _ _ h => h⟩
def pS : Rp Str := ⟨fun x v _ _ => v = .str x ∧ PyData.strOk x = true, fun _ _ h => h⟩
def pN : Rp Unit := ⟨fun _ v _ _ => v = .non, fun _ _ h => h⟩
instance : Im pI := ⟨fun h => h⟩
instance : Im pB := ⟨fun h => h⟩
instance : Im pS := ⟨fun h => h⟩
instance : Im pN := ⟨fun h => h⟩
def oR {α : Type} (R : Rp α) (I C : Hp) : Option α → V → Prop
  | none, v => v = .non
  | some a, v => R.r a v I C ∧ v ≠ .non
def pO {α : Type} (R : Rp α) : Rp (Option α) := ⟨fun o v I C => oR R I C o v, fun {a v I I' C C'} e e' h => by
  cases a with
  | none => exact h
  | some a => exact ⟨R.mono e e' h.1, h.2⟩⟩
instance {α : Type} {R : Rp α} [Im R] : Im (pO R) := ⟨fun {a v I C C'} h => by
  cases a with
  | none => exact h
  | some a => exact ⟨Im.im h.1, h.2⟩⟩
theorem ex_l {K : PySem.W.Frag} {H H' : Hp} {a : Addr} {xs : List V} (e : Ex H H') (h : SqL K H a xs) : SqL K H' a xs := by
  rcases h with (h | ⟨o, h⟩) | h
  · exact .inl (.inl (e a _ h))
  · exact .inl (.inr ⟨o, e a _ h⟩)
  · exact .inr h
theorem ex_t {K : PySem.W.Frag} {H H' : Hp} {a : Addr} {xs : List V} (e : Ex H H') (h : SqT K H a xs) : SqT K H' a xs := by
  rcases h with (h | ⟨o, h⟩) | h
  · exact .inl (.inl (e a _ h))
  · exact .inl (.inr ⟨o, e a _ h⟩)
  · exact .inr h
/-- the places of a row of values -/
structure Rt (α : Type) where
  r : α → List V → Hp → Hp → Prop
  mono : ∀ {a : α} {vs : List V} {I I' C C' : Hp}, Ex I I' → Ex C C' → r a vs I C → r a vs I' C'
  n : Nat
  len : ∀ {a : α} {vs : List V} {I C : Hp}, r a vs I C → vs.length = n
class It {α : Type} (T : Rt α) : Prop where
  im : ∀ {a : α} {vs : List V} {I C C' : Hp}, T.r a vs I C → T.r a vs I C'
def t1 {α : Type} (R : Rp α) : Rt α := ⟨fun a vs I C => ∃ v, vs = [v] ∧ R.r a v I C, fun e e' ⟨v, h1, h2⟩ => ⟨v, h1, R.mono e e' h2⟩, 1, fun ⟨_, h, _⟩ => by rw [h]; rfl⟩
def tc {α β : Type} (R : Rp α) (T : Rt β) : Rt (α × β) := ⟨fun p vs I C => ∃ v us, vs = v :: us ∧ R.r p.1 v I C ∧ T.r p.2 us I C, fun e e' ⟨v, us, h1, h2, h3⟩ => ⟨v, us, h1, R.mono e e' h2, T.mono e e' h3⟩, T.n + 1,
  fun ⟨_, _, h, _, h3⟩ => by rw [h, List.length_cons, T.len h3]⟩
instance {α : Type} {R : Rp α} [Im R] : It (t1 R) := ⟨fun ⟨v, h1, h2⟩ => ⟨v, h1, Im.im h2⟩⟩
instance {α β : Type} {R : Rp α} {T : Rt β} [Im R] [It T] : It (tc R T) := ⟨fun ⟨v, us, h1, h2, h3⟩ => ⟨v, us, h1, Im.im h2, It.im h3⟩⟩
section
variable (K : PySem.W.Frag) {α : Type}
/-- a list -/
def pL (R : Rp α) : Rp (List α) := ⟨fun xs v I C => ∃ a vs, v = .ref a ∧ I a = some (.lst vs) ∧ vs.length ≤ sizeLine ∧ A2 (fun x u => R.r x u I C) xs vs,
  fun e e' ⟨a, vs, h1, h2, h3, h4⟩ => ⟨a, vs, h1, e a _ h2, h3, h4.imp fun _ _ => R.mono e e'⟩⟩
/-- a tuple of any length -/
def pQ (R : Rp α) : Rp (List α) := ⟨fun xs v I C => ∃ a vs, v = .ref a ∧ SqT K I a vs ∧ vs.length ≤ sizeLine ∧ A2 (fun x u => R.r x u I C) xs vs,
  fun e e' ⟨a, vs, h1, h2, h3, h4⟩ => ⟨a, vs, h1, ex_t e h2, h3, h4.imp fun _ _ => R.mono e e'⟩⟩
/-- a list that is read: known for good, or a cell -/
def pV (R : Rp α) : Rp (List α) := ⟨fun xs v I C => ∃ a vs, v = .ref a ∧ (I a = some (.lst vs) ∨ C a = some (.lst vs)) ∧ vs.length ≤ sizeLine ∧ A2 (fun x u => R.r x u I C) xs vs,
  fun e e' ⟨a, vs, h1, h2, h3, h4⟩ => ⟨a, vs, h1, h2.imp (e a _) (e' a _), h3, h4.imp fun _ _ => R.mono e e'⟩⟩
/-- the script -/
def pW (R : Rp α) : Rp (List α) := ⟨fun xs v I C => ∃ a vs, v = .ref a ∧ SqL K I a vs ∧ vs.length ≤ sizeLine ∧ A2 (fun x u => R.r x u I C) xs vs,
  fun e e' ⟨a, vs, h1, h2, h3, h4⟩ => ⟨a, vs, h1, ex_l e h2, h3, h4.imp fun _ _ => R.mono e e'⟩⟩
/-- a tuple, a list, with fixed places -/
def pT (T : Rt α) : Rp α := ⟨fun x v I C => ∃ a vs, v = .ref a ∧ I a = some (.tup vs) ∧ T.r x vs I C, fun e e' ⟨a, vs, h1, h2, h3⟩ => ⟨a, vs, h1, e a _ h2, T.mono e e' h3⟩⟩
/-- a tuple that may stand in the written part -/
def pU (T : Rt α) : Rp α := ⟨fun x v I C => ∃ a vs, v = .ref a ∧ SqT K I a vs ∧ T.r x vs I C, fun e e' ⟨a, vs, h1, h2, h3⟩ => ⟨a, vs, h1, ex_t e h2, T.mono e e' h3⟩⟩
def pD (T : Rt α) : Rp α := ⟨fun x v I C => ∃ a vs, v = .ref a ∧ I a = some (.lst vs) ∧ T.r x vs I C, fun e e' ⟨a, vs, h1, h2, h3⟩ => ⟨a, vs, h1, e a _ h2, T.mono e e' h3⟩⟩
instance {T : Rt α} [It T] : Im (pU K T) := ⟨fun ⟨a, vs, h1, h2, h3⟩ => ⟨a, vs, h1, h2, It.im h3⟩⟩
instance {R : Rp α} [Im R] : Im (pW K R) := ⟨fun ⟨a, vs, h1, h2, h3, h4⟩ => ⟨a, vs, h1, h2, h3, h4.imp fun _ _ => Im.im⟩⟩
instance {R : Rp α} [Im R] : Im (pL R) := ⟨fun ⟨a, vs, h1, h2, h3, h4⟩ => ⟨a, vs, h1, h2, h3, h4.imp fun _ _ => Im.im⟩⟩
instance {R : Rp α} [Im R] : Im (pQ K R) := ⟨fun ⟨a, vs, h1, h2, h3, h4⟩ => ⟨a, vs, h1, h2, h3, h4.imp fun _ _ => Im.im⟩⟩
instance {T : Rt α} [It T] : Im (pT T) := ⟨fun ⟨a, vs, h1, h2, h3⟩ => ⟨a, vs, h1, h2, It.im h3⟩⟩
instance {T : Rt α} [It T] : Im (pD T) := ⟨fun ⟨a, vs, h1, h2, h3⟩ => ⟨a, vs, h1, h2, It.im h3⟩⟩
end
/-- the k-th place of such a row, its reading f -/
def Pj {α β : Type} (T : Rt α) (k : Nat) (f : α → β) (R : Rp β) : Prop := ∀ x vs I C, T.r x vs I C → ∃ w, vs[k]? = some w ∧ R.r (f x) w I C
theorem pj1 {α : Type} {R : Rp α} : Pj (t1 R) 0 (fun x => x) R := fun x vs I C ⟨v, h1, h2⟩ => ⟨v, by rw [h1]; rfl, h2⟩
theorem pj0 {α β : Type} {R : Rp α} {T : Rt β} : Pj (tc R T) 0 (fun x => x.1) R := fun x vs I C ⟨v, us, h1, h2, _⟩ => ⟨v, by rw [h1]; rfl, h2⟩
theorem pjs {α β γ : Type} {R : Rp α} {T : Rt β} {S : Rp γ} {k : Nat} {f : β → γ} (h : Pj T k f S) : Pj (tc R T) (k + 1) (fun x => f x.2) S := fun x vs I C ⟨v, us, h1, _, h3⟩ => by
  obtain ⟨w, e, r⟩ := h x.2 us I C h3
  exact ⟨w, by rw [h1]; exact e, r⟩
/-- the k-th place stored -/
def Pk {α β : Type} (T : Rt α) (k : Nat) (g : α → β → α) (R : Rp β) : Prop := ∀ x vs I C b w, T.r x vs I C → R.r b w I C → T.r (g x b) (vs.set k w) I C ∧ k < vs.length
theorem pk1 {α : Type} {R : Rp α} : Pk (t1 R) 0 (fun _ b => b) R := fun x vs I C b w ⟨v, h1, h2⟩ r => by
  subst h1
  exact ⟨⟨w, rfl, r⟩, Nat.zero_lt_one⟩
theorem pk0 {α β : Type} {R : Rp α} {T : Rt β} : Pk (tc R T) 0 (fun x b => (b, x.2)) R := fun x vs I C b w ⟨v, us, h1, h2, h3⟩ r => by
  subst h1
  exact ⟨⟨w, us, rfl, r, h3⟩, Nat.succ_pos _⟩
theorem pks {α β γ : Type} {R : Rp α} {T : Rt β} {S : Rp γ} {k : Nat} {g : β → γ → β} (h : Pk T k g S) : Pk (tc R T) (k + 1) (fun x b => (x.1, g x.2 b)) S := fun x vs I C b w ⟨v, us, h1, h2, h3⟩ r => by
  subst h1
  obtain ⟨q, l⟩ := h x.2 us I C b w h3 r
  exact ⟨⟨v, us.set k w, rfl, h2, q⟩, Nat.succ_lt_succ l⟩

/-! ### what an expression gives -/
def Ec.name : Ec → Str
  | .DeskError => "DeskError" | .TooMany => "TooMany" | .BadName => "BadName" | .BadRatio => "BadRatio" | .BadSpan => "BadSpan" | .BadLine => "BadLine"
  | .BadWorld => "BadWorld" | .BadArea => "BadArea" | .BadGauge => "BadGauge" | .BadRun => "BadRun" | .BadTable => "BadTable" | .BadSignals => "BadSignals"
  | .Unlike => "Unlike" | .BadPerson => "BadPerson" | .BadCall => "BadCall" | .BadTree => "BadTree" | .BadRule => "BadRule" | .BadDeed => "BadDeed"
  | .NoBulletin => "NoBulletin" | .BadPair => "BadPair" | .Unplayable => "Unplayable"
/-- what is wanted of an error that leaves: E, where all stands as it was -/
def PX (E : XK) (K : PySem.W.Frag) (I C : Hp) (c : Ec) (i : Int) : Prop := ∀ d I2 H2, Ex I I2 → St I2 C H2 → I2 d = some (.xd [(("at" : Str), .int i)]) → E (.ref (He.ga K c.name)) (some d) H2
theorem PX.mono {E : XK} {K : PySem.W.Frag} {I I' C C' : Hp} {c : Ec} {i : Int} (e : Ex I I') (e' : Ex C C') (h : PX E K I C c i) : PX E K I' C' c i := fun d I2 H2 a s q => h d I2 H2 (e.trans a) (s.less e') q
abbrev PQ {α : Type} (R : Rp α) (I C : Hp) (Q : VK) (a : α) : Prop := ∀ v I2 H2, Ex I I2 → St I2 C H2 → R.r a v I2 C → Q v H2
def EvX (E : XK) (K : PySem.W.Frag) (te : TE) (σ : L2.St) (I C : Hp) {α : Type} (m : Res α) (R : Rp α) : Prop :=
  ∀ I1 C1 H1, Ex I I1 → Ex C C1 → St I1 C1 H1 → ∀ Q : VK, Post m (PQ R I1 C1 Q) (PX E K I1 C1) → te σ H1 Q
def EvT (E : XK) (K : PySem.W.Frag) (tt : TT) (σ : L2.St) (I C : Hp) (m : Res Bool) : Prop :=
  ∀ I1 C1 H1, Ex I I1 → Ex C C1 → St I1 C1 H1 → ∀ Q : Bool → Hp → Prop, Post m (fun b => ∀ I2 H2, Ex I1 I2 → St I2 C1 H2 → Q b H2) (PX E K I1 C1) → tt σ H1 Q
def EvA (E : XK) (K : PySem.W.Frag) (ta : TA) (σ : L2.St) (I C : Hp) {α : Type} (m : Res α) (T : Rt α) : Prop :=
  ∀ I1 C1 H1, Ex I I1 → Ex C C1 → St I1 C1 H1 → ∀ Q : List V → Hp → Prop, Post m (fun a => ∀ vs I2 H2, Ex I1 I2 → St I2 C1 H2 → T.r a vs I2 C1 → Q vs H2) (PX E K I1 C1) → ta σ H1 Q
/-- a rule on values -/
def Op1 (E : XK) (K : PySem.W.Frag) (r : V → Hp → VK → Prop) {α γ : Type} (f : α → Res γ) (R : Rp α) (T : Rp γ) : Prop :=
  ∀ I C H a x, St I C H → R.r a x I C → ∀ Q : VK, Post (f a) (PQ T I C Q) (PX E K I C) → r x H Q
def Op2 (E : XK) (K : PySem.W.Frag) (r : R2) {α β γ : Type} (f : α → β → Res γ) (R : Rp α) (S : Rp β) (T : Rp γ) : Prop :=
  ∀ I C H a b x y, St I C H → R.r a x I C → S.r b y I C → ∀ Q : VK, Post (f a b) (PQ T I C Q) (PX E K I C) → r x y H Q
def OpL (E : XK) (K : PySem.W.Frag) (r : List V → Hp → VK → Prop) {α γ : Type} (f : α → Res γ) (R : Rt α) (T : Rp γ) : Prop :=
  ∀ I C H a vs, St I C H → R.r a vs I C → ∀ Q : VK, Post (f a) (PQ T I C Q) (PX E K I C) → r vs H Q
def un {α γ : Type} (f : α → Res γ) (m : Res α) : Res γ := m.bind f
def bin {α β γ : Type} (f : α → β → Res γ) (m : Res α) (n : Res β) : Res γ := m.bind fun a => n.bind fun b => f a b
def pair {α β : Type} (m : Res α) (n : Res β) : Res (α × β) := m.bind fun a => n.bind fun b => .ok (a, b)
@[simp] theorem un_ok {α γ : Type} (f : α → Res γ) (a : α) : un f (.ok a) = f a := rfl
@[simp] theorem bin_ok {α β γ : Type} (f : α → β → Res γ) (a : α) (b : β) : bin f (.ok a) (.ok b) = f a b := rfl
@[simp] theorem pair_ok {α β : Type} (a : α) (b : β) : pair (.ok a) (.ok b) = .ok (a, b) := rfl
section
variable {E : XK} {K : PySem.W.Frag} {σ : L2.St} {I I' C C' : Hp} {α β γ : Type} {m : Res α} {n : Res β} {R : Rp α} {S : Rp β} {T : Rp γ} {ta tb te : TE} {tt tu : TT}
theorem EvX.mono (e : Ex I I') (e' : Ex C C') (h : EvX E K te σ I C m R) : EvX E K te σ I' C' m R := fun I1 C1 H1 a b s Q q => h I1 C1 H1 (e.trans a) (e'.trans b) s Q q
theorem PQ.ret {I1 C1 H1 : Hp} {Q : VK} {a : α} {v : V} (q : PQ R I1 C1 Q a) (s : St I1 C1 H1) (r : R.r a v I1 C1) : Q v H1 := q v I1 H1 (Ex.refl _) s r
theorem x_var {i : Nat} {v : V} {a : α} (h : σ[i]? = some (some v)) (r : R.r a v I C) : EvX E K (tVar i) σ I C (.ok a) R := fun I1 C1 H1 e e' s Q q => ⟨v, h, PQ.ret (R := R) (a := a) q s (R.mono e e' r)⟩
theorem x_c {v : V} {a : α} (r : ∀ I C, R.r a v I C) : EvX E K (tC v) σ I C (.ok a) R := fun I1 C1 H1 e e' s Q q => PQ.ret (R := R) (a := a) q s (r _ _)
theorem x_int {i : Int} : EvX E K (tC (.int i)) σ I C (.ok i) pI := x_c fun _ _ => rfl
theorem x_bl {b : Bool} : EvX E K (tC (.bl b)) σ I C (.ok b) pB := x_c fun _ _ => rfl
theorem x_str {x : Str} (h : PyData.strOk x = true) : EvX E K (tC (.str x)) σ I C (.ok x) pS := x_c fun _ _ => ⟨rfl, h⟩
theorem x_non : EvX E K (tC .non) σ I C (.ok ()) pN := x_c fun _ _ => rfl
theorem x_un {r : V → Hp → VK → Prop} {f : α → Res γ} (hr : Op1 E K r f R T) (h : EvX E K ta σ I C m R) : EvX E K (tUn r ta) σ I C (un f m) T := fun I1 C1 H1 e e' s Q q =>
  h I1 C1 H1 e e' s _ ((Post.bind q).mono (fun a p v I2 H2 e2 s2 rv => hr I2 C1 H2 a v s2 rv Q (p.mono (fun c z w I3 H3 e3 s3 rw => z w I3 H3 (e2.trans e3) s3 rw) fun c i z => z.mono e2 (Ex.refl _))) fun _ _ z => z)
theorem x_op {r : R2} {f : α → β → Res γ} (hr : Op2 E K r f R S T) (h1 : EvX E K ta σ I C m R) (h2 : EvX E K tb σ I C n S) : EvX E K (tOp r ta tb) σ I C (bin f m n) T := fun I1 C1 H1 e e' s Q q =>
  h1 I1 C1 H1 e e' s _ ((Post.bind q).mono (fun a p x I2 H2 e2 s2 rx =>
    h2 I2 C1 H2 (e.trans e2) e' s2 _ ((Post.bind p).mono (fun b p2 y I3 H3 e3 s3 ry =>
      hr I3 C1 H3 a b x y s3 (R.mono e3 (Ex.refl _) rx) ry Q (p2.mono (fun c z w I4 H4 e4 s4 rw => z w I4 H4 (e2.trans (e3.trans e4)) s4 rw) fun c i z => z.mono (e2.trans e3) (Ex.refl _))) fun c i z => z.mono e2 (Ex.refl _)))
    fun _ _ z => z)
theorem a_nil : EvA E K tNil σ I C (.ok ()) (⟨fun _ vs _ _ => vs = [], fun _ _ h => h, 0, fun h => by rw [h]; rfl⟩ : Rt Unit) := fun I1 C1 H1 e e' s Q q => q [] I1 H1 (Ex.refl _) s rfl
theorem a_one (h : EvX E K ta σ I C m R) : EvA E K (tCons ta tNil) σ I C m (t1 R) := fun I1 C1 H1 e e' s Q q =>
  h I1 C1 H1 e e' s _ (q.mono (fun a p v I2 H2 e2 s2 rv => p [v] I2 H2 e2 s2 ⟨v, rfl, rv⟩) fun _ _ z => z)
theorem a_cons {tr : TA} {T : Rt β} (h1 : EvX E K ta σ I C m R) (h2 : EvA E K tr σ I C n T) : EvA E K (tCons ta tr) σ I C (pair m n) (tc R T) := fun I1 C1 H1 e e' s Q q =>
  h1 I1 C1 H1 e e' s _ ((Post.bind q).mono (fun a p x I2 H2 e2 s2 rx =>
    h2 I2 C1 H2 (e.trans e2) e' s2 _ ((Post.bind p).mono (fun b p2 ys I3 H3 e3 s3 ry => p2 (x :: ys) I3 H3 (e2.trans e3) s3 ⟨x, ys, rfl, R.mono e3 (Ex.refl _) rx, ry⟩) fun c i z => z.mono e2 (Ex.refl _)))
    fun _ _ z => z)
theorem x_cb {r : List V → Hp → VK → Prop} {f : α → Res γ} {A : Rt α} {tr : TA} (hr : OpL E K r f A T) (h : EvA E K tr σ I C m A) : EvX E K (tCB r tr) σ I C (un f m) T := fun I1 C1 H1 e e' s Q q =>
  h I1 C1 H1 e e' s _ ((Post.bind q).mono (fun a p vs I2 H2 e2 s2 rv => hr I2 C1 H2 a vs s2 rv Q (p.mono (fun c z w I3 H3 e3 s3 rw => z w I3 H3 (e2.trans e3) s3 rw) fun c i z => z.mono e2 (Ex.refl _))) fun _ _ z => z)
/-- tuples, lists with fixed places -/
theorem x_tup {A : Rt α} {tr : TA} (h : EvA E K tr σ I C m A) (hn : A.n ≤ 100) : EvX E K (tTup tr) σ I C m (pT A) := fun I1 C1 H1 e e' s Q q =>
  h I1 C1 H1 e e' s _ (q.mono (fun a p vs I2 H2 e2 s2 rv => ⟨by rw [A.len rv]; exact Nat.le_trans hn (by decide), fun t ht => p _ (upd I2 t (.tup vs)) _ (e2.trans (Ex.new (s2.i.free ht))) (s2.newI ht) ⟨t, vs, rfl, upd_same, A.mono (Ex.new (s2.i.free ht)) (Ex.refl _) rv⟩⟩) fun _ _ z => z)
theorem x_lstD {A : Rt α} {tr : TA} (h : EvA E K tr σ I C m A) (hn : A.n ≤ 100) : EvX E K (tLst tr) σ I C m (pD A) := fun I1 C1 H1 e e' s Q q =>
  h I1 C1 H1 e e' s _ (q.mono (fun a p vs I2 H2 e2 s2 rv => ⟨by rw [A.len rv]; exact Nat.le_trans hn (by decide), fun t ht => p _ (upd I2 t (.lst vs)) _ (e2.trans (Ex.new (s2.i.free ht))) (s2.newI ht) ⟨t, vs, rfl, upd_same, A.mono (Ex.new (s2.i.free ht)) (Ex.refl _) rv⟩⟩) fun _ _ z => z)
/-- a row of things of one kind -/
def tL (R : Rp α) (n : Nat) : Rt (List α) := ⟨fun xs vs I C => vs.length = n ∧ A2 (fun x u => R.r x u I C) xs vs, fun e e' ⟨h1, h2⟩ => ⟨h1, h2.imp fun _ _ => R.mono e e'⟩, n, fun h => h.1⟩
def consR (m : Res α) (n : Res (List α)) : Res (List α) := m.bind fun a => n.bind fun b => .ok (a :: b)
theorem al_nil : EvA E K tNil σ I C (.ok []) (tL R 0) := fun I1 C1 H1 e e' s Q q => q [] I1 H1 (Ex.refl _) s ⟨rfl, .nil⟩
theorem al_cons {tr : TA} {k : Nat} {n : Res (List α)} (h1 : EvX E K ta σ I C m R) (h2 : EvA E K tr σ I C n (tL R k)) : EvA E K (tCons ta tr) σ I C (consR m n) (tL R (k + 1)) := fun I1 C1 H1 e e' s Q q =>
  h1 I1 C1 H1 e e' s _ ((Post.bind q).mono (fun a p x I2 H2 e2 s2 rx =>
    h2 I2 C1 H2 (e.trans e2) e' s2 _ ((Post.bind p).mono (fun b p2 ys I3 H3 e3 s3 ry => p2 (x :: ys) I3 H3 (e2.trans e3) s3 ⟨by rw [List.length_cons, ry.1], .cons (R.mono e3 (Ex.refl _) rx) ry.2⟩) fun c i z => z.mono e2 (Ex.refl _)))
    fun _ _ z => z)
theorem x_lst {k : Nat} {m : Res (List α)} {tr : TA} (h : EvA E K tr σ I C m (tL R k)) (hn : k ≤ 100) : EvX E K (tLst tr) σ I C m (pL R) := fun I1 C1 H1 e e' s Q q =>
  h I1 C1 H1 e e' s _ (q.mono (fun a p vs I2 H2 e2 s2 rv => by
    have hl : vs.length ≤ sizeLine := by
      rw [rv.1]
      exact Nat.le_trans hn (by decide)
    exact ⟨hl, fun t ht => p _ (upd I2 t (.lst vs)) _ (e2.trans (Ex.new (s2.i.free ht))) (s2.newI ht) ⟨t, vs, rfl, upd_same, hl, rv.2.imp fun _ _ => R.mono (Ex.new (s2.i.free ht)) (Ex.refl _)⟩⟩) fun _ _ z => z)
/-- a list as one that is read -/
theorem x_v {m : Res (List α)} (h : EvX E K te σ I C m (pL R)) : EvX E K te σ I C m (pV R) := fun I1 C1 H1 e e' s Q q =>
  h I1 C1 H1 e e' s Q (q.mono (fun a p v I2 H2 e2 s2 ⟨a, vs, h1, h2, h3, h4⟩ => p v I2 H2 e2 s2 ⟨a, vs, h1, .inl h2, h3, h4⟩) fun _ _ z => z)
theorem x_is' {β : Type} {T : Rt β} {tr : TA} {m m' : Res β} (h : EvA E K tr σ I C m T) (e : m = m') : EvA E K tr σ I C m' T := e ▸ h
theorem x_is {m' : Res α} (h : EvX E K te σ I C m R) (e : m = m') : EvX E K te σ I C m' R := e ▸ h
/-! tests -/
theorem t_test {m : Res Bool} (h : EvX E K te σ I C m pB) : EvT E K (tTest te) σ I C m := fun I1 C1 H1 e e' s Q q => h I1 C1 H1 e e' s _ (q.mono (fun b p v I2 H2 e2 s2 rv => ⟨b, rv, p I2 H2 e2 s2⟩) fun _ _ z => z)
theorem t_B {m : Res Bool} (h : EvX E K te σ I C m pB) : EvT E K (tB te) σ I C m := fun I1 C1 H1 e e' s Q q => h I1 C1 H1 e e' s _ (q.mono (fun b p v I2 H2 e2 s2 rv => ⟨b, rv, p I2 H2 e2 s2⟩) fun _ _ z => z)
def andR (m n : Res Bool) : Res Bool := m.bind fun b => if b = true then n else .ok false
def orR (m n : Res Bool) : Res Bool := m.bind fun b => if b = true then .ok true else n
def notR (b : Bool) : Res Bool := .ok (!b)
@[simp] theorem andR_ok (a b : Bool) : andR (.ok a) (.ok b) = .ok (a && b) := by cases a <;> rfl
@[simp] theorem orR_ok (a b : Bool) : orR (.ok a) (.ok b) = .ok (a || b) := by cases a <;> rfl
@[simp] theorem andR_true (m : Res Bool) : andR (.ok true) m = m := rfl
@[simp] theorem andR_false (m : Res Bool) : andR (.ok false) m = .ok false := rfl
@[simp] theorem orR_true (m : Res Bool) : orR (.ok true) m = .ok true := rfl
@[simp] theorem orR_false (m : Res Bool) : orR (.ok false) m = m := rfl
@[simp] theorem notR_eq (b : Bool) : notR b = .ok (!b) := rfl
theorem t_and {m n : Res Bool} (h1 : EvT E K tt σ I C m) (h2 : EvT E K tu σ I C n) : EvT E K (tAnd tt tu) σ I C (andR m n) := fun I1 C1 H1 e e' s Q q =>
  h1 I1 C1 H1 e e' s _ ((Post.bind q).mono (fun b p I2 H2 e2 s2 => by
    cases b with
    | true => exact h2 I2 C1 H2 (e.trans e2) e' s2 Q (Post.mono (m := n) p (fun b z I3 H3 e3 s3 => z I3 H3 (e2.trans e3) s3) fun c i z => z.mono e2 (Ex.refl _))
    | false => exact p I2 H2 e2 s2) fun _ _ z => z)
theorem t_or {m n : Res Bool} (h1 : EvT E K tt σ I C m) (h2 : EvT E K tu σ I C n) : EvT E K (tOr tt tu) σ I C (orR m n) := fun I1 C1 H1 e e' s Q q =>
  h1 I1 C1 H1 e e' s _ ((Post.bind q).mono (fun b p I2 H2 e2 s2 => by
    cases b with
    | false => exact h2 I2 C1 H2 (e.trans e2) e' s2 Q (Post.mono (m := n) p (fun b z I3 H3 e3 s3 => z I3 H3 (e2.trans e3) s3) fun c i z => z.mono e2 (Ex.refl _))
    | true => exact p I2 H2 e2 s2) fun _ _ z => z)
theorem t_not {m : Res Bool} (h : EvT E K tt σ I C m) : EvT E K (tNot tt) σ I C (un notR m) := fun I1 C1 H1 e e' s Q q =>
  h I1 C1 H1 e e' s _ ((Post.bind q).mono (fun b p I2 H2 e2 s2 => p I2 H2 e2 s2) fun _ _ z => z)
theorem x_andV {m n : Res Bool} (h1 : EvX E K ta σ I C m pB) (h2 : EvX E K tb σ I C n pB) : EvX E K (tAndV ta tb) σ I C (andR m n) pB := fun I1 C1 H1 e e' s Q q =>
  h1 I1 C1 H1 e e' s _ ((Post.bind q).mono (fun b p v I2 H2 e2 s2 rv => ⟨b, rv, by
    cases b with
    | true => exact h2 I2 C1 H2 (e.trans e2) e' s2 Q (Post.mono (m := n) p (fun b z v I3 H3 e3 s3 => z v I3 H3 (e2.trans e3) s3) fun c i z => z.mono e2 (Ex.refl _))
    | false => exact p (.bl false) I2 H2 e2 s2 rfl⟩) fun _ _ z => z)
theorem x_orV {m n : Res Bool} (h1 : EvX E K ta σ I C m pB) (h2 : EvX E K tb σ I C n pB) : EvX E K (tOrV ta tb) σ I C (orR m n) pB := fun I1 C1 H1 e e' s Q q =>
  h1 I1 C1 H1 e e' s _ ((Post.bind q).mono (fun b p v I2 H2 e2 s2 rv => ⟨b, rv, by
    cases b with
    | false => exact h2 I2 C1 H2 (e.trans e2) e' s2 Q (Post.mono (m := n) p (fun b z v I3 H3 e3 s3 => z v I3 H3 (e2.trans e3) s3) fun c i z => z.mono e2 (Ex.refl _))
    | true => exact p (.bl true) I2 H2 e2 s2 rfl⟩) fun _ _ z => z)
theorem x_notV {m : Res Bool} (h : EvX E K te σ I C m pB) : EvX E K (tNotV te) σ I C (un notR m) pB := fun I1 C1 H1 e e' s Q q =>
  h I1 C1 H1 e e' s _ ((Post.bind q).mono (fun b p v I2 H2 e2 s2 rv => ⟨b, rv, p _ I2 H2 e2 s2 rfl⟩) fun _ _ z => z)
def ifR {α : Type} (c : Res Bool) (m n : Res α) : Res α := c.bind fun b => if b = true then m else n
@[simp] theorem ifR_ok {α : Type} (b : Bool) (m n : Res α) : ifR (.ok b) m n = if b = true then m else n := rfl
theorem x_if {c : Res Bool} {m n : Res α} (h : EvT E K tt σ I C c) (h1 : EvX E K ta σ I C m R) (h2 : EvX E K tb σ I C n R) : EvX E K (tIf tt ta tb) σ I C (ifR c m n) R := fun I1 C1 H1 e e' s Q q =>
  h I1 C1 H1 e e' s _ ((Post.bind q).mono (fun b p I2 H2 e2 s2 => by
    cases b with
    | true => exact h1 I2 C1 H2 (e.trans e2) e' s2 Q (Post.mono (m := m) p (fun b z v I3 H3 e3 s3 => z v I3 H3 (e2.trans e3) s3) fun c i z => z.mono e2 (Ex.refl _))
    | false => exact h2 I2 C1 H2 (e.trans e2) e' s2 Q (Post.mono (m := n) p (fun b z v I3 H3 e3 s3 => z v I3 H3 (e2.trans e3) s3) fun c i z => z.mono e2 (Ex.refl _))) fun _ _ z => z)
end
end Sd

namespace Sd
open PySem L2
/-! ### rules on values -/
section
variable {E : XK} {K : PySem.W.Frag} {α β γ : Type} {R : Rp α}
theorem PQ.now {I C H : Hp} {Q : VK} {a : α} {v : V} (q : PQ R I C Q a) (s : St I C H) (r : R.r a v I C) : Q v H := q v I H (Ex.refl _) s r
def rAdd (a b : Int) : Res Int := .ok (a + b)
def rSub (a b : Int) : Res Int := .ok (a - b)
@[irreducible] def rMul (a b : Int) : Res Int := if a.natAbs < 18446744073709551616 ∨ b.natAbs < 18446744073709551616 then .ok (a * b) else .bad
@[irreducible] def rMod (a b : Int) : Res Int := if 0 < b then .ok (a % b) else .bad
@[irreducible] def rDiv (a b : Int) : Res Int := if 0 < b ∧ b.natAbs < 1073741824 then .ok (a / b) else .bad
@[irreducible] def rPow (a b : Int) : Res Int := if 0 ≤ b ∧ b.natAbs ≤ 1000000 ∧ a.natAbs < 2 ^ 64 then .ok (a ^ b.toNat) else .bad
def rNeg (a : Int) : Res Int := .ok (-a)
@[simp] theorem rAdd_eq (a b : Int) : rAdd a b = .ok (a + b) := rfl
@[simp] theorem rSub_eq (a b : Int) : rSub a b = .ok (a - b) := rfl
@[simp] theorem rNeg_eq (a : Int) : rNeg a = .ok (-a) := rfl
theorem rMul_ok {a b : Int} (h : (-(2 ^ 64) < a ∧ a < 2 ^ 64) ∨ (-(2 ^ 64) < b ∧ b < 2 ^ 64)) : rMul a b = .ok (a * b) := by
  unfold rMul
  exact if_pos (by omega)
theorem rMod_ok {a b : Int} (h : 0 < b) : rMod a b = .ok (a % b) := by
  unfold rMod
  exact if_pos h
theorem rDiv_ok {a b : Int} (h : 0 < b ∧ b < 1073741824) : rDiv a b = .ok (a / b) := by
  unfold rDiv
  exact if_pos (by omega)
theorem rPow_ok {a b : Int} (h : 0 ≤ b ∧ b ≤ 1000000 ∧ a.natAbs < 2 ^ 64) : rPow a b = .ok (a ^ b.toNat) := by
  unfold rPow
  exact if_pos ⟨h.1, by omega, h.2.2⟩
theorem o_add : Op2 E K (rI0 fun i j => .int (i + j)) rAdd pI pI pI := fun I C H a b x y s hx hy Q q => ⟨a, b, hx, hy, PQ.now q s rfl⟩
theorem o_sub : Op2 E K (rI0 fun i j => .int (i - j)) rSub pI pI pI := fun I C H a b x y s hx hy Q q => ⟨a, b, hx, hy, PQ.now q s rfl⟩
theorem o_mul : Op2 E K (rI CMul fun i j => .int (i * j)) rMul pI pI pI := fun I C H a b x y s hx hy Q q => by
  unfold rMul at q
  split at q
  · rename_i h
    exact ⟨a, b, hx, hy, (show (-(2 ^ 64) < a ∧ a < 2 ^ 64) ∨ (-(2 ^ 64) < b ∧ b < 2 ^ 64) from by omega), PQ.now q s rfl⟩
  · exact q.elim
theorem o_mod : Op2 E K (rI (fun _ j => 0 < j) fun i j => .int (i % j)) rMod pI pI pI := fun I C H a b x y s hx hy Q q => by
  unfold rMod at q
  split at q
  · rename_i h
    exact ⟨a, b, hx, hy, h, PQ.now q s rfl⟩
  · exact q.elim
theorem o_fdiv : Op2 E K (rI CDiv fun i j => .int (i / j)) rDiv pI pI pI := fun I C H a b x y s hx hy Q q => by
  unfold rDiv at q
  split at q
  · rename_i h
    exact ⟨a, b, hx, hy, ⟨h.1, by omega⟩, PQ.now q s rfl⟩
  · exact q.elim
theorem o_pow : Op2 E K (rI CPow fun i j => .int (i ^ j.toNat)) rPow pI pI pI := fun I C H a b x y s hx hy Q q => by
  unfold rPow at q
  split at q
  · rename_i h
    exact ⟨a, b, hx, hy, ⟨h.1, by omega, h.2.2⟩, PQ.now q s rfl⟩
  · exact q.elim
theorem o_neg : Op1 E K (rU fun i => .int (-i)) rNeg pI pI := fun I C H a x s hx Q q => ⟨a, hx, PQ.now q s rfl⟩
/-! comparisons -/
def rLt (a b : Int) : Res Bool := .ok (decide (a < b))
def rLe (a b : Int) : Res Bool := .ok (decide (a ≤ b))
def rGt (a b : Int) : Res Bool := .ok (decide (b < a))
def rGe (a b : Int) : Res Bool := .ok (decide (b ≤ a))
@[simp] theorem rLt_eq (a b : Int) : rLt a b = .ok (decide (a < b)) := rfl
@[simp] theorem rLe_eq (a b : Int) : rLe a b = .ok (decide (a ≤ b)) := rfl
@[simp] theorem rGt_eq (a b : Int) : rGt a b = .ok (decide (b < a)) := rfl
@[simp] theorem rGe_eq (a b : Int) : rGe a b = .ok (decide (b ≤ a)) := rfl
theorem o_lt : Op2 E K (rI0 fun i j => .bl (decide (i < j))) rLt pI pI pB := fun I C H a b x y s hx hy Q q => ⟨a, b, hx, hy, PQ.now q s rfl⟩
theorem o_le : Op2 E K (rI0 fun i j => .bl (decide (i ≤ j))) rLe pI pI pB := fun I C H a b x y s hx hy Q q => ⟨a, b, hx, hy, PQ.now q s rfl⟩
theorem o_gt : Op2 E K (rI0 fun i j => .bl (decide (j < i))) rGt pI pI pB := fun I C H a b x y s hx hy Q q => ⟨a, b, hx, hy, PQ.now q s rfl⟩
theorem o_ge : Op2 E K (rI0 fun i j => .bl (decide (j ≤ i))) rGe pI pI pB := fun I C H a b x y s hx hy Q q => ⟨a, b, hx, hy, PQ.now q s rfl⟩
def eqR {α : Type} [DecidableEq α] (a b : α) : Res Bool := .ok (decide (a = b))
def neR {α : Type} [DecidableEq α] (a b : α) : Res Bool := .ok (!decide (a = b))
@[simp] theorem eqR_eq {α : Type} [DecidableEq α] (a b : α) : eqR a b = .ok (decide (a = b)) := rfl
@[simp] theorem neR_eq {α : Type} [DecidableEq α] (a b : α) : neR a b = .ok (!decide (a = b)) := rfl
theorem dec_congr {p q : Prop} [Decidable p] [Decidable q] (h : p ↔ q) : decide p = decide q := by
  by_cases hp : p
  · rw [decide_eq_true hp, decide_eq_true (h.mp hp)]
  · rw [decide_eq_false hp, decide_eq_false fun z => hp (h.mpr z)]
theorem o_eqI : Op2 E K rEq eqR pI pI pB := fun I C H a b x y s hx hy Q q => by
  subst hx hy
  exact ⟨rfl, PQ.now q s (congrArg V.bl (dec_congr ⟨fun h => V.int.inj h, fun h => by rw [h]⟩))⟩
theorem o_neI : Op2 E K rNe neR pI pI pB := fun I C H a b x y s hx hy Q q => by
  subst hx hy
  exact ⟨rfl, PQ.now q s (congrArg (fun z => V.bl (!z)) (dec_congr ⟨fun h => V.int.inj h, fun h => by rw [h]⟩))⟩
theorem o_eqB : Op2 E K rEq eqR pB pB pB := fun I C H a b x y s hx hy Q q => by
  subst hx hy
  exact ⟨rfl, PQ.now q s (congrArg V.bl (dec_congr ⟨fun h => V.bl.inj h, fun h => by rw [h]⟩))⟩
theorem o_neB : Op2 E K rNe neR pB pB pB := fun I C H a b x y s hx hy Q q => by
  subst hx hy
  exact ⟨rfl, PQ.now q s (congrArg (fun z => V.bl (!z)) (dec_congr ⟨fun h => V.bl.inj h, fun h => by rw [h]⟩))⟩
theorem o_eqS : Op2 E K rEq eqR pS pS pB := fun I C H a b x y s hx hy Q q => by
  obtain ⟨rfl, _⟩ := hx
  obtain ⟨rfl, _⟩ := hy
  exact ⟨rfl, PQ.now q s (congrArg V.bl (dec_congr ⟨fun h => V.str.inj h, fun h => by rw [h]⟩))⟩
theorem o_neS : Op2 E K rNe neR pS pS pB := fun I C H a b x y s hx hy Q q => by
  obtain ⟨rfl, _⟩ := hx
  obtain ⟨rfl, _⟩ := hy
  exact ⟨rfl, PQ.now q s (congrArg (fun z => V.bl (!z)) (dec_congr ⟨fun h => V.str.inj h, fun h => by rw [h]⟩))⟩
def isNone {α : Type} (o : Option α) (_ : Unit) : Res Bool := .ok o.isNone
def notNone {α : Type} (o : Option α) (_ : Unit) : Res Bool := .ok o.isSome
@[simp] theorem isNone_eq {α : Type} (o : Option α) : isNone o () = .ok o.isNone := rfl
@[simp] theorem notNone_eq {α : Type} (o : Option α) : notNone o () = .ok o.isSome := rfl
theorem o_isN : Op2 E K (fun x y H Q => y = .non ∧ Q (.bl (decide (x = .non))) H) isNone (pO R) pN pB := fun I C H a b x y s hx hy Q q => by
  refine ⟨hy, PQ.now q s (congrArg V.bl ?_)⟩
  cases a with
  | none => exact decide_eq_true hx
  | some a => exact decide_eq_false hx.2
theorem o_notN : Op2 E K (fun x y H Q => y = .non ∧ Q (.bl (!decide (x = .non))) H) notNone (pO R) pN pB := fun I C H a b x y s hx hy Q q => by
  refine ⟨hy, PQ.now q s (congrArg V.bl ?_)⟩
  cases a with
  | none =>
    have e : decide (x = V.non) = true := decide_eq_true hx
    rw [e]
    rfl
  | some a =>
    have e : decide (x = V.non) = false := decide_eq_false hx.2
    rw [e]
    rfl
/-! lists that are read -/
theorem pV.at {xs : List α} {v : V} {I C H : Hp} (s : St I C H) (h : (pV R).r xs v I C) : ∃ a vs, v = .ref a ∧ H a = some (.lst vs) ∧ vs.length ≤ sizeLine ∧ A2 (fun x u => R.r x u I C) xs vs := by
  obtain ⟨a, vs, h1, h2, h3, h4⟩ := h
  exact ⟨a, vs, h1, h2.elim (s.i a _) (s.c a _), h3, h4⟩
def rLen (xs : List α) : Res Int := .ok (xs.length : Int)
@[simp] theorem rLen_eq (xs : List α) : rLen xs = .ok (xs.length : Int) := rfl
theorem o_len : OpL E K (fun xs H Q => ∃ p ys, xs = [.ref p] ∧ (SqL K H p ys ∨ SqT K H p ys) ∧ Q (.int ys.length) H) rLen (t1 (pV R)) pI := fun I C H a vs s hv Q q => by
  obtain ⟨v, rfl, h⟩ := hv
  obtain ⟨p, us, rfl, h2, h3, h4⟩ := pV.at s h
  exact ⟨p, us, rfl, .inl (.inl (.inl h2)), PQ.now q s (by rw [h4.len]; rfl)⟩
theorem o_lenQ : OpL E K (fun xs H Q => ∃ p ys, xs = [.ref p] ∧ (SqL K H p ys ∨ SqT K H p ys) ∧ Q (.int ys.length) H) rLen (t1 (pQ K R)) pI := fun I C H a vs s hv Q q => by
  obtain ⟨v, rfl, p, us, rfl, h2, h3, h4⟩ := hv
  exact ⟨p, us, rfl, .inr (ex_t s.i h2), PQ.now q s (by rw [h4.len]; rfl)⟩
/-- xs[i] -/
def ix (xs : List α) (i : Int) : Res α := if 0 ≤ i then (match xs[i.toNat]? with
    | some x => .ok x
    | none => .bad) else if -(xs.length : Int) ≤ i then (match xs[(i + xs.length).toNat]? with
    | some x => .ok x
    | none => .bad) else .bad
theorem ix_atI {f : α → V → Prop} {xs : List α} {vs : List V} {i : Int} {x : α} (h : A2 f xs vs) (e : ix xs i = .ok x) : ∃ v, atI vs i = some v ∧ f x v := by
  have hl := h.len
  unfold ix at e
  unfold atI ixN
  by_cases h0 : 0 ≤ i
  · rw [if_pos h0] at e ⊢
    cases q : xs[i.toNat]? with
    | none =>
      rw [q] at e
      cases e
    | some y =>
      rw [q] at e
      cases e
      have hlt := (List.getElem?_eq_some_iff.mp q).1
      obtain ⟨v, hv, r⟩ := h.get' q
      rw [if_pos (by omega)]
      exact ⟨v, hv, r⟩
  · rw [if_neg h0] at e ⊢
    by_cases h1 : -(xs.length : Int) ≤ i
    · rw [if_pos h1] at e
      rw [if_pos (by omega)]
      cases q : xs[(i + xs.length).toNat]? with
      | none =>
        rw [q] at e
        cases e
      | some y =>
        rw [q] at e
        cases e
        obtain ⟨v, hv, r⟩ := h.get' q
        exact ⟨v, by rw [hl]; exact hv, r⟩
    · rw [if_neg h1] at e
      cases e
theorem o_ix : Op2 E K (rIxL K) ix (pV R) pI R := fun I C H a b x y s hx hy Q q => by
  obtain ⟨p, us, rfl, h2, h3, h4⟩ := pV.at s hx
  subst hy
  cases e : ix a b with
  | ok z =>
    rw [e] at q
    obtain ⟨v, e1, r⟩ := ix_atI h4 e
    exact ⟨p, us, b, v, rfl, rfl, .inl (.inl h2), e1, PQ.now q s r⟩
  | exc c i =>
    unfold ix at e
    split at e <;> (try split at e) <;> (try split at e) <;> cases e
  | bad =>
    rw [e] at q
    exact q.elim
theorem o_ixQ : Op2 E K (rIxT K) ix (pQ K R) pI R := fun I C H a b x y s hx hy Q q => by
  obtain ⟨p, us, rfl, h2, h3, h4⟩ := hx
  subst hy
  cases e : ix a b with
  | ok z =>
    rw [e] at q
    obtain ⟨v, e1, r⟩ := ix_atI h4 e
    exact ⟨p, us, b, v, rfl, rfl, ex_t s.i h2, e1, PQ.now q s r⟩
  | exc c i =>
    unfold ix at e
    split at e <;> (try split at e) <;> (try split at e) <;> cases e
  | bad =>
    rw [e] at q
    exact q.elim
/-- a place of a tuple, of a list with fixed places; k written -/
theorem o_pj {T : Rt α} {k : Nat} {f : α → β} {S : Rp β} (j : Pj T k f S) : Op1 E K (fun x H Q => rIxT K x (.int (k : Int)) H Q) (fun x => .ok (f x)) (pT T) S := fun I C H a x s hx Q q => by
  obtain ⟨p, vs, rfl, h2, h3⟩ := hx
  obtain ⟨w, e, r⟩ := j a vs I C h3
  exact ⟨p, vs, _, w, rfl, rfl, .inl (.inl (s.i p _ h2)), atI_nat e, PQ.now q s r⟩
theorem o_pjU {T : Rt α} {k : Nat} {f : α → β} {S : Rp β} (j : Pj T k f S) : Op1 E K (fun x H Q => rIxT K x (.int (k : Int)) H Q) (fun x => .ok (f x)) (pU K T) S := fun I C H a x s hx Q q => by
  obtain ⟨p, vs, rfl, h2, h3⟩ := hx
  obtain ⟨w, e, r⟩ := j a vs I C h3
  exact ⟨p, vs, _, w, rfl, rfl, ex_t s.i h2, atI_nat e, PQ.now q s r⟩
theorem o_pjD {T : Rt α} {k : Nat} {f : α → β} {S : Rp β} (j : Pj T k f S) : Op1 E K (fun x H Q => rIxL K x (.int (k : Int)) H Q) (fun x => .ok (f x)) (pD T) S := fun I C H a x s hx Q q => by
  obtain ⟨p, vs, rfl, h2, h3⟩ := hx
  obtain ⟨w, e, r⟩ := j a vs I C h3
  exact ⟨p, vs, _, w, rfl, rfl, .inl (.inl (s.i p _ h2)), atI_nat e, PQ.now q s r⟩
/-- e[k], k written, by a rule for this k -/
theorem x_k {r : R2} {te : TE} {σ : L2.St} {I C : Hp} {m : Res α} {f : α → Res γ} {T : Rp γ} {k : Int} (hr : Op1 E K (fun x H Q => r x (.int k) H Q) f R T) (h : EvX E K te σ I C m R) : EvX E K (tOp r te (tC (.int k))) σ I C (un f m) T :=
  fun I1 C1 H1 e e' s Q q => x_un (r := fun x H Q => r x (.int k) H Q) hr h I1 C1 H1 e e' s Q q
end
end Sd

namespace Sd
open PySem L2
/-! ### == of data -/
/-- data of this kind, as == sees them: enc; at most n deep -/
structure De (K : PySem.W.Frag) {α : Type} (R : Rp α) (enc : α → PyData) (n : Nat) : Prop where
  dp : ∀ {a v I C H}, St I C H → R.r a v I C → Dp K H v (enc a)
  ly : ∀ {a v I C}, R.r a v I C → (enc a).canLay0 = true
  de : ∀ {a v I C}, R.r a v I C → (enc a).depth ≤ n
  eq : ∀ a b, PyData.eqv (enc a) (enc b) = true ↔ a = b
section
variable {E : XK} {K : PySem.W.Frag} {α β γ : Type} {R : Rp α} {S : Rp β} {enc : α → PyData} {enb : β → PyData} {n m : Nat}
theorem de_int : De K pI PyData.int 0 := ⟨fun _ h => by cases h; exact .int _, fun _ => by simp only [PyData.canLay0], fun _ => by simp only [PyData.depth]; exact Nat.le_refl _, fun a b => by
  simp only [PyData.eqv, beq_iff_eq]⟩
theorem de_bl : De K pB PyData.bool 0 := ⟨fun _ h => by cases h; exact .bl _, fun _ => by simp only [PyData.canLay0], fun _ => by simp only [PyData.depth]; exact Nat.le_refl _, fun a b => by
  simp only [PyData.eqv, beq_iff_eq]⟩
theorem de_str : De K pS PyData.str 0 := ⟨fun _ h => by obtain ⟨rfl, _⟩ := h; exact .str _, fun h => by simp only [PyData.canLay0]; exact h.2, fun _ => by simp only [PyData.depth]; exact Nat.le_refl _, fun a b => by
  simp only [PyData.eqv, beq_iff_eq]⟩
theorem de_all (d : De K R enc n) : ∀ {xs : List α} {vs : List V} {I C H : Hp}, St I C H → A2 (fun x u => R.r x u I C) xs vs → DpAll K H vs (xs.map enc)
  | _, _, _, _, _, _, .nil => .nil
  | _, _, _, _, _, s, .cons r t => .cons (d.dp s r) (de_all d s t)
theorem ly_all (d : De K R enc n) : ∀ {xs : List α} {vs : List V} {I C : Hp}, A2 (fun x u => R.r x u I C) xs vs → PyData.canLayAll0 (xs.map enc) = true
  | _, _, _, _, .nil => by simp only [List.map_nil, PyData.canLayAll0]
  | _, _, _, _, .cons r t => by
    simp only [List.map_cons, PyData.canLayAll0, Bool.and_eq_true]
    exact ⟨d.ly r, ly_all d t⟩
theorem dp_all (d : De K R enc n) : ∀ {xs : List α} {vs : List V} {I C : Hp}, A2 (fun x u => R.r x u I C) xs vs → PyData.depthAll (xs.map enc) ≤ n
  | _, _, _, _, .nil => by
    simp only [List.map_nil, PyData.depthAll]
    exact Nat.zero_le _
  | _, _, _, _, .cons r t => by
    simp only [List.map_cons, PyData.depthAll]
    exact Nat.max_le.mpr ⟨d.de r, dp_all d t⟩
theorem eq_all (h : ∀ a b, PyData.eqv (enc a) (enc b) = true ↔ a = b) : ∀ xs ys : List α, PyData.eqvAll (xs.map enc) (ys.map enc) = true ↔ xs = ys
  | [], [] => by simp only [List.map_nil, PyData.eqvAll]
  | [], y :: ys => by
    simp only [List.map_nil, List.map_cons, PyData.eqvAll]
    exact ⟨fun q => (nomatch q), fun q => (nomatch q)⟩
  | x :: xs, [] => by
    simp only [List.map_nil, List.map_cons, PyData.eqvAll]
    exact ⟨fun q => (nomatch q), fun q => (nomatch q)⟩
  | x :: xs, y :: ys => by
    simp only [List.map_cons, PyData.eqvAll, Bool.and_eq_true, List.cons.injEq]
    rw [h x y, eq_all h xs ys]
theorem de_lst (d : De K R enc n) : De K (pL R) (fun xs => PyData.list (xs.map enc)) (n + 1) :=
  ⟨fun s ⟨a, vs, h1, h2, h3, h4⟩ => by
    subst h1
    exact .lst (.inl (.inl (s.i _ _ h2))) (de_all d s h4),
  fun ⟨a, vs, h1, h2, h3, h4⟩ => by
    simp only [PyData.canLay0]
    exact ly_all d h4,
  fun ⟨a, vs, h1, h2, h3, h4⟩ => by
    simp only [PyData.depth]
    exact Nat.succ_le_succ (dp_all d h4),
  fun a b => by
    simp only [PyData.eqv]
    exact eq_all d.eq a b⟩
theorem de_vw (d : De K R enc n) : De K (pV R) (fun xs => PyData.list (xs.map enc)) (n + 1) :=
  ⟨fun s h => by
    obtain ⟨a, vs, rfl, h2, h3, h4⟩ := pV.at s h
    exact .lst (.inl (.inl h2)) (de_all d s h4),
  fun ⟨a, vs, h1, h2, h3, h4⟩ => by
    simp only [PyData.canLay0]
    exact ly_all d h4,
  fun ⟨a, vs, h1, h2, h3, h4⟩ => by
    simp only [PyData.depth]
    exact Nat.succ_le_succ (dp_all d h4),
  fun a b => by
    simp only [PyData.eqv]
    exact eq_all d.eq a b⟩
theorem de_seq (d : De K R enc n) : De K (pQ K R) (fun xs => PyData.tuple (xs.map enc)) (n + 1) :=
  ⟨fun s ⟨a, vs, h1, h2, h3, h4⟩ => by
    subst h1
    exact .tup (ex_t s.i h2) (de_all d s h4),
  fun ⟨a, vs, h1, h2, h3, h4⟩ => by
    simp only [PyData.canLay0]
    exact ly_all d h4,
  fun ⟨a, vs, h1, h2, h3, h4⟩ => by
    simp only [PyData.depth]
    exact Nat.succ_le_succ (dp_all d h4),
  fun a b => by
    simp only [PyData.eqv]
    exact eq_all d.eq a b⟩
/-- places -/
structure Dt (K : PySem.W.Frag) {α : Type} (T : Rt α) (enc : α → List PyData) (n : Nat) : Prop where
  dp : ∀ {a vs I C H}, St I C H → T.r a vs I C → DpAll K H vs (enc a)
  ly : ∀ {a vs I C}, T.r a vs I C → PyData.canLayAll0 (enc a) = true
  de : ∀ {a vs I C}, T.r a vs I C → PyData.depthAll (enc a) ≤ n
  eq : ∀ a b, PyData.eqvAll (enc a) (enc b) = true ↔ a = b
theorem dt_one (d : De K R enc n) : Dt K (t1 R) (fun x => [enc x]) n :=
  ⟨fun s ⟨v, h1, h2⟩ => by
    subst h1
    exact .cons (d.dp s h2) .nil,
  fun ⟨v, h1, h2⟩ => by
    simp only [PyData.canLayAll0, Bool.and_true]
    exact d.ly h2,
  fun ⟨v, h1, h2⟩ => by
    simp only [PyData.depthAll]
    exact Nat.max_le.mpr ⟨d.de h2, Nat.zero_le _⟩,
  fun a b => by
    simp only [PyData.eqvAll, Bool.and_true]
    exact d.eq a b⟩
theorem dt_cons {T : Rt β} {ens : β → List PyData} (d : De K R enc n) (t : Dt K T ens m) : Dt K (tc R T) (fun x => enc x.1 :: ens x.2) (max n m) :=
  ⟨fun s ⟨v, us, h1, h2, h3⟩ => by
    subst h1
    exact .cons (d.dp s h2) (t.dp s h3),
  fun ⟨v, us, h1, h2, h3⟩ => by
    simp only [PyData.canLayAll0, Bool.and_eq_true]
    exact ⟨d.ly h2, t.ly h3⟩,
  fun ⟨v, us, h1, h2, h3⟩ => by
    simp only [PyData.depthAll]
    exact Nat.max_le.mpr ⟨Nat.le_trans (d.de h2) (Nat.le_max_left _ _), Nat.le_trans (t.de h3) (Nat.le_max_right _ _)⟩,
  fun a b => by
    simp only [PyData.eqvAll, Bool.and_eq_true]
    rw [d.eq, t.eq]
    exact ⟨fun ⟨h1, h2⟩ => Prod.ext h1 h2, fun h => by
      subst h
      exact ⟨rfl, rfl⟩⟩⟩
theorem de_tup {T : Rt α} {ens : α → List PyData} (t : Dt K T ens n) : De K (pT T) (fun x => PyData.tuple (ens x)) (n + 1) :=
  ⟨fun s ⟨a, vs, h1, h2, h3⟩ => by
    subst h1
    exact .tup (.inl (.inl (s.i _ _ h2))) (t.dp s h3),
  fun ⟨a, vs, h1, h2, h3⟩ => by
    simp only [PyData.canLay0]
    exact t.ly h3,
  fun ⟨a, vs, h1, h2, h3⟩ => by
    simp only [PyData.depth]
    exact Nat.succ_le_succ (t.de h3),
  fun a b => by
    simp only [PyData.eqv]
    exact t.eq a b⟩
theorem de_tupU {T : Rt α} {ens : α → List PyData} (t : Dt K T ens n) : De K (pU K T) (fun x => PyData.tuple (ens x)) (n + 1) :=
  ⟨fun s ⟨a, vs, h1, h2, h3⟩ => by
    subst h1
    exact .tup (ex_t s.i h2) (t.dp s h3),
  fun ⟨a, vs, h1, h2, h3⟩ => by
    simp only [PyData.canLay0]
    exact t.ly h3,
  fun ⟨a, vs, h1, h2, h3⟩ => by
    simp only [PyData.depth]
    exact Nat.succ_le_succ (t.de h3),
  fun a b => by
    simp only [PyData.eqv]
    exact t.eq a b⟩
theorem de_lstD {T : Rt α} {ens : α → List PyData} (t : Dt K T ens n) : De K (pD T) (fun x => PyData.list (ens x)) (n + 1) :=
  ⟨fun s ⟨a, vs, h1, h2, h3⟩ => by
    subst h1
    exact .lst (.inl (.inl (s.i _ _ h2))) (t.dp s h3),
  fun ⟨a, vs, h1, h2, h3⟩ => by
    simp only [PyData.canLay0]
    exact t.ly h3,
  fun ⟨a, vs, h1, h2, h3⟩ => by
    simp only [PyData.depth]
    exact Nat.succ_le_succ (t.de h3),
  fun a b => by
    simp only [PyData.eqv]
    exact t.eq a b⟩
def oEnc (enc : α → PyData) : Option α → PyData
  | none => .none
  | some a => enc a
/-- None or such a thing (that is not None itself) -/
theorem de_opt (d : De K R enc n) (hn : ∀ a, PyData.eqv (enc a) .none = false ∧ PyData.eqv .none (enc a) = false) : De K (pO R) (oEnc enc) n :=
  ⟨fun {a v I C H} s h => by
    cases a with
    | none =>
      have h' : v = .non := h
      subst h'
      exact .non
    | some a => exact d.dp s h.1,
  fun {a v I C} h => by
    cases a with
    | none => simp only [oEnc, PyData.canLay0]
    | some a => exact d.ly h.1,
  fun {a v I C} h => by
    cases a with
    | none =>
      simp only [oEnc, PyData.depth]
      exact Nat.zero_le _
    | some a => exact d.de h.1,
  fun a b => by
    cases a with
    | none =>
      cases b with
      | none => simp only [oEnc, PyData.eqv]
      | some b =>
        simp only [oEnc]
        rw [(hn b).2]
        exact ⟨fun q => (nomatch q), fun q => (nomatch q)⟩
    | some a =>
      cases b with
      | none =>
        simp only [oEnc]
        rw [(hn a).1]
        exact ⟨fun q => (nomatch q), fun q => (nomatch q)⟩
      | some b =>
        simp only [oEnc]
        rw [d.eq, Option.some.injEq]⟩
theorem o_eqD [DecidableEq α] {R' : Rp α} (d : De K R enc n) (d' : De K R' enc n) (hn : n ≤ 64) : Op2 E K (rEqD K) eqR R R' pB := fun I C H a b x y s hx hy Q q =>
  ⟨enc a, enc b, d.dp s hx, d'.dp s hy, Bool.and_eq_true_iff.mpr ⟨d.ly hx, decide_eq_true (Nat.le_trans (d.de hx) hn)⟩, Bool.and_eq_true_iff.mpr ⟨d'.ly hy, decide_eq_true (Nat.le_trans (d'.de hy) hn)⟩,
    PQ.now q s (congrArg V.bl (by
      by_cases e : a = b
      · rw [(d.eq a b).mpr e, decide_eq_true e]
      · rw [decide_eq_false e]
        exact Bool.eq_false_iff.mpr fun z => e ((d.eq a b).mp z)))⟩
theorem o_neD [DecidableEq α] {R' : Rp α} (d : De K R enc n) (d' : De K R' enc n) (hn : n ≤ 64) : Op2 E K (rNeD K) neR R R' pB := fun I C H a b x y s hx hy Q q =>
  ⟨enc a, enc b, d.dp s hx, d'.dp s hy, Bool.and_eq_true_iff.mpr ⟨d.ly hx, decide_eq_true (Nat.le_trans (d.de hx) hn)⟩, Bool.and_eq_true_iff.mpr ⟨d'.ly hy, decide_eq_true (Nat.le_trans (d'.de hy) hn)⟩,
    PQ.now q s (congrArg (fun z => V.bl (!z)) (by
      by_cases e : a = b
      · rw [(d.eq a b).mpr e, decide_eq_true e]
      · rw [decide_eq_false e]
        exact Bool.eq_false_iff.mpr fun z => e ((d.eq a b).mp z)))⟩
/-! ### in -/
def inR {α : Type} [DecidableEq α] (x : α) (xs : List α) : Res Bool := .ok (decide (x ∈ xs))
def ninR {α : Type} [DecidableEq α] (x : α) (xs : List α) : Res Bool := .ok (!decide (x ∈ xs))
@[simp] theorem inR_eq {α : Type} [DecidableEq α] (x : α) (xs : List α) : inR x xs = .ok (decide (x ∈ xs)) := rfl
@[simp] theorem ninR_eq {α : Type} [DecidableEq α] (x : α) (xs : List α) : ninR x xs = .ok (!decide (x ∈ xs)) := rfl
/-- flat things -/
structure Fl {α : Type} (R : Rp α) (f : α → V) : Prop where
  is : ∀ {a v I C}, R.r a v I C → v = f a
  flat : ∀ a, flatV (f a) = true
  eq : ∀ a b, eqV (f a) (f b) = true ↔ a = b
theorem fl_int : Fl pI V.int := ⟨fun h => h, fun _ => rfl, fun a b => by simp only [eqV, beq_iff_eq]⟩
theorem fl_str : Fl pS V.str := ⟨fun h => h.1, fun _ => rfl, fun a b => by simp only [eqV, beq_iff_eq]⟩
theorem inV_iff [DecidableEq α] {f : α → V} (F : Fl R f) (x : α) : ∀ xs : List α, inV (f x) (xs.map f) = decide (x ∈ xs)
  | [] => rfl
  | y :: ys => by
    have ih := inV_iff F x ys
    unfold inV at ih ⊢
    rw [List.map_cons, List.any_cons, ih]
    by_cases e : y = x
    · rw [(F.eq y x).mpr e, Bool.true_or, decide_eq_true (show x ∈ y :: ys by rw [e]; exact List.mem_cons_self)]
    · rw [Bool.eq_false_iff.mpr fun z => e ((F.eq y x).mp z), Bool.false_or]
      exact dec_congr ⟨fun h => List.mem_cons_of_mem _ h, fun h => (List.mem_cons.mp h).resolve_left fun q => e q.symm⟩
theorem allFlat {f : α → V} (F : Fl R f) : ∀ xs : List α, (xs.map f).all flatV = true
  | [] => rfl
  | x :: xs => by rw [List.map_cons, List.all_cons, F.flat, allFlat F xs]; rfl
theorem o_in [DecidableEq α] {f : α → V} (F : Fl R f) : Op2 E K (rIn K false) inR R (pV R) pB := fun I C H a b x y s hx hy Q q => by
  obtain ⟨p, us, rfl, h2, h3, h4⟩ := pV.at s hy
  have ex := F.is hx
  have eu := A2.map_iff (fun _ _ h => F.is h) h4
  subst ex eu
  exact ⟨p, _, rfl, .inl (.inl (.inl h2)), F.flat a, allFlat F b, PQ.now q s (congrArg V.bl (inV_iff F a b))⟩
theorem o_nin [DecidableEq α] {f : α → V} (F : Fl R f) : Op2 E K (rIn K true) ninR R (pV R) pB := fun I C H a b x y s hx hy Q q => by
  obtain ⟨p, us, rfl, h2, h3, h4⟩ := pV.at s hy
  have ex := F.is hx
  have eu := A2.map_iff (fun _ _ h => F.is h) h4
  subst ex eu
  exact ⟨p, _, rfl, .inl (.inl (.inl h2)), F.flat a, allFlat F b, PQ.now q s (congrArg (fun z => V.bl (!z)) (inV_iff F a b))⟩
theorem o_inQ [DecidableEq α] {f : α → V} (F : Fl R f) : Op2 E K (rIn K false) inR R (pQ K R) pB := fun I C H a b x y s hx hy Q q => by
  obtain ⟨p, us, rfl, h2, h3, h4⟩ := hy
  have ex := F.is hx
  have eu := A2.map_iff (fun _ _ h => F.is h) h4
  subst ex eu
  exact ⟨p, _, rfl, .inr (ex_t s.i h2), F.flat a, allFlat F b, PQ.now q s (congrArg V.bl (inV_iff F a b))⟩
theorem o_ninQ [DecidableEq α] {f : α → V} (F : Fl R f) : Op2 E K (rIn K true) ninR R (pQ K R) pB := fun I C H a b x y s hx hy Q q => by
  obtain ⟨p, us, rfl, h2, h3, h4⟩ := hy
  have ex := F.is hx
  have eu := A2.map_iff (fun _ _ h => F.is h) h4
  subst ex eu
  exact ⟨p, _, rfl, .inr (ex_t s.i h2), F.flat a, allFlat F b, PQ.now q s (congrArg (fun z => V.bl (!z)) (inV_iff F a b))⟩
/-! ### slices -/
def cut (xs : List α) (lo hi : Option Int) : List α := (xs.drop (HT.sIx xs.length 0 lo)).take (HT.sIx xs.length xs.length hi - HT.sIx xs.length 0 lo)
theorem A2.cut {f : α → V → Prop} {xs : List α} {vs : List V} (h : A2 f xs vs) (lo hi : Option Int) : A2 f (Sd.cut xs lo hi) (cutV vs lo hi) := by
  unfold Sd.cut cutV
  rw [h.len]
  exact (h.drop _).take _
def EvO (E : XK) (K : PySem.W.Frag) (to : TO) (σ : L2.St) (I C : Hp) (m : Res (Option Int)) : Prop :=
  ∀ I1 C1 H1, Ex I I1 → Ex C C1 → St I1 C1 H1 → ∀ Q : Option Int → Hp → Prop, Post m (fun o => ∀ I2 H2, Ex I1 I2 → St I2 C1 H2 → Q o H2) (PX E K I1 C1) → to σ H1 Q
def someR (m : Res Int) : Res (Option Int) := m.bind fun i => .ok (some i)
@[simp] theorem someR_ok (i : Int) : someR (.ok i) = .ok (some i) := rfl
variable {σ : L2.St} {I C : Hp} {te : TE}
theorem p_none : EvO E K tNoPart σ I C (.ok none) := fun I1 C1 H1 e e' s Q q => q I1 H1 (Ex.refl _) s
theorem p_some {m : Res Int} (h : EvX E K te σ I C m pI) : EvO E K (tPart te) σ I C (someR m) := fun I1 C1 H1 e e' s Q q =>
  h I1 C1 H1 e e' s _ ((Post.bind q).mono (fun i p v I2 H2 e2 s2 rv => ⟨i, rv, p I2 H2 e2 s2⟩) fun _ _ z => z)
def slR (m : Res (List α)) (lo hi : Res (Option Int)) : Res (List α) := m.bind fun xs => lo.bind fun a => hi.bind fun b => .ok (cut xs a b)
@[simp] theorem slR_ok (xs : List α) (a b : Option Int) : slR (.ok xs) (.ok a) (.ok b) = .ok (cut xs a b) := rfl
theorem new_list {xs : List α} {vs : List V} {I C H : Hp} {Q : VK} (q : PQ (pL R) I C Q xs) (s : St I C H) (h : A2 (fun x u => R.r x u I C) xs vs) (hl : vs.length ≤ sizeLine) : ∀ p, H p = none → Q (.ref p) (upd H p (.lst vs)) := fun p hp =>
  q (.ref p) (upd I p (.lst vs)) _ (Ex.new (s.i.free hp)) (s.newI hp) ⟨p, vs, rfl, upd_same, hl, h.imp fun _ _ => R.mono (Ex.new (s.i.free hp)) (Ex.refl _)⟩
theorem x_slW (r0 : V → Option Int → Option Int → Hp → VK → Prop) {V0 : Rp (List α)}
    (hr : ∀ I C H xs x lo hi, St I C H → V0.r xs x I C → ∀ Q, PQ (pL R) I C Q (cut xs lo hi) → r0 x lo hi H Q)
    {tl th : TO} {m : Res (List α)} {lo hi : Res (Option Int)} (h : EvX E K te σ I C m V0) (hl : EvO E K tl σ I C lo) (hh : EvO E K th σ I C hi) : EvX E K (tSl r0 te tl th) σ I C (slR m lo hi) (pL R) := fun I1 C1 H1 e e' s Q q =>
  h I1 C1 H1 e e' s _ ((Post.bind q).mono (fun a p x I2 H2 e2 s2 rx =>
    hl I2 C1 H2 (e.trans e2) e' s2 _ ((Post.bind p).mono (fun o p2 I3 H3 e3 s3 =>
      hh I3 C1 H3 (e.trans (e2.trans e3)) e' s3 _ ((Post.bind p2).mono (fun o2 p3 I4 H4 e4 s4 =>
        hr I4 C1 H4 a x o o2 s4 (V0.mono (e3.trans e4) (Ex.refl _) rx) Q fun v I5 H5 e5 s5 rv => p3 v I5 H5 (e2.trans (e3.trans (e4.trans e5))) s5 rv) fun c i z => z.mono (e2.trans e3) (Ex.refl _))) fun c i z => z.mono e2 (Ex.refl _)))
    fun _ _ z => z)
theorem x_sl {tl th : TO} {m : Res (List α)} {lo hi : Res (Option Int)} (h : EvX E K te σ I C m (pV R)) (hl : EvO E K tl σ I C lo) (hh : EvO E K th σ I C hi) : EvX E K (tSl (rSlL K) te tl th) σ I C (slR m lo hi) (pL R) :=
  x_slW (rSlL K) (fun I C H xs x lo hi s hx Q q => by
    obtain ⟨p, us, rfl, h2, h3, h4⟩ := pV.at s hx
    exact ⟨p, us, rfl, .inl (.inl h2), new_list q s (h4.cut lo hi) (Nat.le_trans (cutV_length _ _ _) h3)⟩) h hl hh
theorem x_slS {tl th : TO} {m : Res (List α)} {lo hi : Res (Option Int)} (h : EvX E K te σ I C m (pW K R)) (hl : EvO E K tl σ I C lo) (hh : EvO E K th σ I C hi) : EvX E K (tSl (rSlL K) te tl th) σ I C (slR m lo hi) (pL R) :=
  x_slW (rSlL K) (fun I C H xs x lo hi s hx Q q => by
    obtain ⟨p, us, rfl, h2, h3, h4⟩ := hx
    exact ⟨p, us, rfl, ex_l s.i h2, new_list q s (h4.cut lo hi) (Nat.le_trans (cutV_length _ _ _) h3)⟩) h hl hh
/-! ### + of lists, list(xs), tuple(xs), [x] * n -/
@[irreducible] def rCatR (xs ys : List α) : Res (List α) := if xs.length + ys.length ≤ 1000000 then .ok (xs ++ ys) else .bad
theorem rCatR_ok {xs ys : List α} (h : xs.length + ys.length ≤ 1000000) : rCatR xs ys = .ok (xs ++ ys) := by
  unfold rCatR
  exact if_pos h
theorem o_cat : Op2 E K rCat rCatR (pV R) (pV R) (pL R) := fun I C H a b x y s hx hy Q q => by
  unfold rCatR at q
  split at q
  · rename_i h
    obtain ⟨p, us, rfl, h2, h3, h4⟩ := pV.at s hx
    obtain ⟨p', us', rfl, h2', h3', h4'⟩ := pV.at s hy
    have hl : us.length + us'.length ≤ sizeLine := by
      rw [h4.len, h4'.len]
      exact Nat.le_trans h (by decide)
    exact ⟨p, p', us, us', rfl, rfl, h2, h2', hl, new_list q s (h4.append h4') (by rw [List.length_append]; exact hl)⟩
  · exact q.elim
@[irreducible] def rRepR (xs : List α) (k : Int) : Res (List α) := if k.natAbs < 1000000 ∧ xs.length * k.toNat ≤ 1000000 then .ok (List.replicate k.toNat xs).flatten else .bad
theorem rRepR_ok {xs : List α} {k : Int} (h : k < 1000000 ∧ -1000000 < k ∧ xs.length * k.toNat ≤ 1000000) : rRepR xs k = .ok (List.replicate k.toNat xs).flatten := by
  unfold rRepR
  exact if_pos ⟨by omega, h.2.2⟩
theorem A2.rep {f : α → V → Prop} {xs : List α} {vs : List V} (h : A2 f xs vs) : ∀ n : Nat, A2 f (List.replicate n xs).flatten (List.replicate n vs).flatten
  | 0 => .nil
  | n + 1 => by
    rw [List.replicate_succ, List.replicate_succ, List.flatten_cons, List.flatten_cons]
    exact h.append (A2.rep h n)
theorem flat_len {vs : List V} : ∀ n : Nat, (List.replicate n vs).flatten.length = vs.length * n
  | 0 => by simp
  | n + 1 => by
    rw [List.replicate_succ, List.flatten_cons, List.length_append, flat_len n, Nat.mul_succ, Nat.add_comm]
theorem o_rep : Op2 E K rRep rRepR (pV R) pI (pL R) := fun I C H a b x y s hx hy Q q => by
  unfold rRepR at q
  split at q
  · rename_i h
    obtain ⟨p, us, rfl, h2, h3, h4⟩ := pV.at s hx
    subst hy
    have hl : us.length * b.toNat ≤ sizeLine := by
      rw [h4.len]
      exact Nat.le_trans h.2 (by decide)
    exact ⟨p, b, us, rfl, rfl, h2, by omega, by omega, hl, new_list q s (h4.rep _) (by rw [flat_len]; exact hl)⟩
  · exact q.elim
def idR (xs : α) : Res α := .ok xs
@[simp] theorem idR_eq (xs : α) : idR xs = .ok xs := rfl
theorem o_list : OpL E K (fun xs H Q => ∃ p ys, xs = [.ref p] ∧ (SqL K H p ys ∨ SqT K H p ys) ∧ ∀ l, H l = none → Q (.ref l) (upd H l (.lst ys))) idR (t1 (pV R)) (pL R) := fun I C H a vs s hv Q q => by
  obtain ⟨v, rfl, h⟩ := hv
  obtain ⟨p, us, rfl, h2, h3, h4⟩ := pV.at s h
  exact ⟨p, us, rfl, .inl (.inl (.inl h2)), new_list q s h4 h3⟩
theorem o_listW : OpL E K (fun xs H Q => ∃ p ys, xs = [.ref p] ∧ (SqL K H p ys ∨ SqT K H p ys) ∧ ∀ l, H l = none → Q (.ref l) (upd H l (.lst ys))) idR (t1 (pW K R)) (pL R) := fun I C H a vs s hv Q q => by
  obtain ⟨v, rfl, p, us, rfl, h2, h3, h4⟩ := hv
  exact ⟨p, us, rfl, .inl (ex_l s.i h2), new_list q s h4 h3⟩
theorem o_listQ : OpL E K (fun xs H Q => ∃ p ys, xs = [.ref p] ∧ (SqL K H p ys ∨ SqT K H p ys) ∧ ∀ l, H l = none → Q (.ref l) (upd H l (.lst ys))) idR (t1 (pQ K R)) (pL R) := fun I C H a vs s hv Q q => by
  obtain ⟨v, rfl, p, us, rfl, h2, h3, h4⟩ := hv
  exact ⟨p, us, rfl, .inr (ex_t s.i h2), new_list q s h4 h3⟩
theorem new_tup {xs : List α} {vs : List V} {I C H : Hp} {Q : VK} (q : PQ (pQ K R) I C Q xs) (s : St I C H) (h : A2 (fun x u => R.r x u I C) xs vs) (hl : vs.length ≤ sizeLine) : ∀ p, H p = none → Q (.ref p) (upd H p (.tup vs)) := fun p hp =>
  q (.ref p) (upd I p (.tup vs)) _ (Ex.new (s.i.free hp)) (s.newI hp) ⟨p, vs, rfl, .inl (.inl upd_same), hl, h.imp fun _ _ => R.mono (Ex.new (s.i.free hp)) (Ex.refl _)⟩
theorem o_tuple : OpL E K (fun xs H Q => ∃ p ys, xs = [.ref p] ∧ ((SqL K H p ys ∧ ∀ l, H l = none → Q (.ref l) (upd H l (.tup ys))) ∨ (SqT K H p ys ∧ Q (.ref p) H))) idR (t1 (pV R)) (pQ K R) := fun I C H a vs s hv Q q => by
  obtain ⟨v, rfl, h⟩ := hv
  obtain ⟨p, us, rfl, h2, h3, h4⟩ := pV.at s h
  exact ⟨p, us, rfl, .inl ⟨.inl (.inl h2), new_tup q s h4 h3⟩⟩
theorem o_tupleQ : OpL E K (fun xs H Q => ∃ p ys, xs = [.ref p] ∧ ((SqL K H p ys ∧ ∀ l, H l = none → Q (.ref l) (upd H l (.tup ys))) ∨ (SqT K H p ys ∧ Q (.ref p) H))) idR (t1 (pQ K R)) (pQ K R) := fun I C H a vs s hv Q q => by
  obtain ⟨v, rfl, p, us, rfl, h2, h3, h4⟩ := hv
  exact ⟨p, us, rfl, .inr ⟨ex_t s.i h2, PQ.now q s ⟨p, us, rfl, h2, h3, h4⟩⟩⟩
/-! ### int, max, min, sum, gcd -/
theorem o_int : OpL E K (fun xs H Q => (∃ i, xs = [.int i] ∧ Q (.int i) H) ∨ ∃ k, xs = [.bl k] ∧ Q (.int (if k then 1 else 0)) H) idR (t1 pI) pI := fun I C H a vs s hv Q q => by
  obtain ⟨v, rfl, rfl⟩ := hv
  exact .inl ⟨a, rfl, PQ.now q s rfl⟩
def max2 (p : Int × Int) : Res Int := .ok (if p.2 > p.1 then p.2 else p.1)
def min2 (p : Int × Int) : Res Int := .ok (if p.2 < p.1 then p.2 else p.1)
@[simp] theorem max2_eq (a b : Int) : max2 (a, b) = .ok (max a b) := by
  unfold max2
  congr 1
  show (if b > a then b else a) = max a b
  split <;> omega
@[simp] theorem min2_eq (a b : Int) : min2 (a, b) = .ok (min a b) := by
  unfold min2
  congr 1
  show (if b < a then b else a) = min a b
  split <;> omega
theorem o_max2 : OpL E K (fun xs H Q => ∃ i j, xs = [.int i, .int j] ∧ Q (.int (if j > i then j else i)) H) max2 (tc pI (t1 pI)) pI := fun I C H a vs s hv Q q => by
  obtain ⟨v, us, rfl, rfl, w, rfl, rfl⟩ := hv
  exact ⟨_, _, rfl, PQ.now q s rfl⟩
theorem o_min2 : OpL E K (fun xs H Q => ∃ i j, xs = [.int i, .int j] ∧ Q (.int (if j < i then j else i)) H) min2 (tc pI (t1 pI)) pI := fun I C H a vs s hv Q q => by
  obtain ⟨v, us, rfl, rfl, w, rfl, rfl⟩ := hv
  exact ⟨_, _, rfl, PQ.now q s rfl⟩
def sumR (xs : List Int) : Res Int := .ok xs.sum
@[simp] theorem sumR_eq (xs : List Int) : sumR xs = .ok xs.sum := rfl
theorem o_sum : OpL E K (rSum K) sumR (t1 (pV pI)) pI := fun I C H a vs s hv Q q => by
  obtain ⟨v, rfl, h⟩ := hv
  obtain ⟨p, us, rfl, h2, h3, h4⟩ := pV.at s h
  have eu := A2.map_iff (h := V.int) (fun _ _ h => h) h4
  subst eu
  exact ⟨p, a, rfl, .inl (.inl h2), PQ.now q s rfl⟩
def gcdR (p : Int × Int) : Res Int := .ok ((Nat.gcd p.1.natAbs p.2.natAbs : Nat) : Int)
@[simp] theorem gcdR_eq (a b : Int) : gcdR (a, b) = .ok ((Nat.gcd a.natAbs b.natAbs : Nat) : Int) := rfl
theorem o_gcd : OpL E K rGcd gcdR (tc pI (t1 pI)) pI := fun I C H a vs s hv Q q => by
  obtain ⟨v, us, rfl, rfl, w, rfl, rfl⟩ := hv
  exact ⟨_, _, rfl, PQ.now q s rfl⟩
/-! ### truth of a list -/
def neR' (xs : List α) : Res Bool := .ok (!xs.isEmpty)
@[simp] theorem neR'_eq (xs : List α) : neR' xs = .ok (!xs.isEmpty) := rfl
theorem t_lst {m : Res (List α)} (h : EvX E K te σ I C m (pV R)) : EvT E K (fun σ H Q => te σ H fun x H' => ∃ k, TruV K x H' k ∧ Q k H') σ I C (un neR' m) := fun I1 C1 H1 e e' s Q q =>
  h I1 C1 H1 e e' s _ ((Post.bind q).mono (fun a p v I2 H2 e2 s2 rv => by
    obtain ⟨b, us, rfl, h2, h3, h4⟩ := pV.at s2 rv
    have hb : (!us.isEmpty) = !a.isEmpty := by
      cases h4 <;> rfl
    refine ⟨!a.isEmpty, .inl ⟨us, .inl (.inl h2), hb.symm⟩, p I2 H2 e2 s2⟩) fun _ _ z => z)
/-! ### isinstance, where the kind is known -/
def pY (n : String) : Rp Unit := ⟨fun _ v _ _ => v = .ty n, fun _ _ h => h⟩
instance {n : String} : Im (pY n) := ⟨fun h => h⟩
end
end Sd

namespace Sd
open PySem L2
/-! ### what a for walks -/
def EvI (E : XK) (K : PySem.W.Frag) (wi : TI) (σ : L2.St) (I C : Hp) (kp : Hp → Prop) {α : Type} (m : Res (List α)) (R : Rp α) : Prop :=
  ∀ I1 C1 H1, Ex I I1 → Ex C C1 → St I1 C1 H1 → ∀ Kt : L2.It → Hp → Prop, Post m (fun xs => ∀ J G Y I2 H2, Ex I1 I2 → St I2 C1 H2 → xs.length ≤ sizeLine → Walk J xs.length G Y →
    (∀ I3 C3 H3, Ex I2 I3 → kp C3 → St I3 C3 H3 → G H3) →
    (∀ i x v I3 C3 H3 H4, xs[i]? = some x → Ex I2 I3 → kp C3 → St I3 C3 H3 → Y i H3 v H4 → ∃ I4, Ex I3 I4 ∧ St I4 C3 H4 ∧ R.r x v I4 C3) → Kt J H2) (PX E K I1 C1) → wi σ H1 Kt
abbrev kpT : Hp → Prop := fun _ => True
def rangeL (lo hi : Int) : List Int := (List.range (hi - lo).toNat).map fun i : Nat => lo + ((i : Nat) : Int)
@[irreducible] def rng1 (n : Int) : Res (List Int) := if n.natAbs ≤ 1000000 then .ok (rangeL 0 n) else .bad
@[irreducible] def rng2 (p : Int × Int) : Res (List Int) := if p.1.natAbs ≤ 1000000 ∧ p.2.natAbs ≤ 1000000 then .ok (rangeL p.1 p.2) else .bad
theorem rng1_ok {n : Int} (h : n ≤ 1000000 ∧ -1000000 ≤ n) : rng1 n = .ok (rangeL 0 n) := by
  unfold rng1
  exact if_pos (by omega)
theorem rng2_ok {a b : Int} (h : a ≤ 1000000 ∧ -1000000 ≤ a ∧ b ≤ 1000000 ∧ -1000000 ≤ b) : rng2 (a, b) = .ok (rangeL a b) := by
  unfold rng2
  exact if_pos (by dsimp only; omega)
@[simp] theorem rangeL_length (lo hi : Int) : (rangeL lo hi).length = (hi - lo).toNat := by unfold rangeL; rw [List.length_map, List.length_range]
theorem rangeL_get {lo hi : Int} {i : Nat} {x : Int} (h : (rangeL lo hi)[i]? = some x) : x = lo + (i : Int) := by
  unfold rangeL at h
  rw [List.getElem?_map] at h
  cases q : (List.range (hi - lo).toNat)[i]? with
  | none =>
    rw [q] at h
    cases h
  | some j =>
    rw [q] at h
    have hj : j = i := by
      obtain ⟨_, e⟩ := List.getElem?_eq_some_iff.mp q
      rw [List.getElem_range] at e
      exact e.symm
    rw [← hj]
    exact (Option.some.inj h).symm
theorem mem_rangeL {lo hi x : Int} : x ∈ rangeL lo hi ↔ lo ≤ x ∧ x < hi := by
  unfold rangeL
  rw [List.mem_map]
  constructor
  · rintro ⟨i, h, rfl⟩
    rw [List.mem_range] at h
    omega
  · intro h
    exact ⟨(x - lo).toNat, List.mem_range.mpr (by omega), by show lo + (((x - lo).toNat : Nat) : Int) = x; omega⟩
def enumF {α : Type} (k : Int) : List α → List (Int × α)
  | [] => []
  | x :: xs => (k, x) :: enumF (k + 1) xs
def enumR {α : Type} (xs : List α) : Res (List (Int × α)) := .ok (enumF 0 xs)
@[simp] theorem enumR_eq {α : Type} (xs : List α) : enumR xs = .ok (enumF 0 xs) := rfl
@[simp] theorem enumF_length {α : Type} : ∀ (xs : List α) (k : Int), (enumF k xs).length = xs.length
  | [], _ => rfl
  | _ :: xs, k => by rw [enumF, List.length_cons, List.length_cons, enumF_length xs]
theorem enumF_get {α : Type} : ∀ (xs : List α) (k : Int) (i : Nat), (enumF k xs)[i]? = xs[i]?.map fun x => (k + (i : Int), x)
  | [], _, _ => by simp [enumF]
  | x :: xs, k, 0 => by simp [enumF]
  | x :: xs, k, i + 1 => by
    rw [enumF, List.getElem?_cons_succ, List.getElem?_cons_succ, enumF_get xs (k + 1) i]
    cases xs[i]? with
    | none => rfl
    | some y =>
      simp only [Option.map_some, Option.some.injEq, Prod.mk.injEq, and_true]
      omega
def zipR {α β : Type} (p : List α × List β) : Res (List (α × β)) := .ok (p.1.zip p.2)
@[simp] theorem zipR_eq {α β : Type} (a : List α) (b : List β) : zipR (a, b) = .ok (a.zip b) := rfl
section
variable {E : XK} {K : PySem.W.Frag} {σ : L2.St} {I C : Hp} {α β γ : Type} {R : Rp α} {S : Rp β} {T : Rp γ} {te : TE} {ta : TA} {m : Res (List α)}
theorem i_list [Im R] (h : EvX E K te σ I C m (pL R)) : EvI E K (iList K te) σ I C kpT m R := fun I1 C1 H1 e e' s Kt q =>
  h I1 C1 H1 e e' s _ (q.mono (fun xs p v I2 H2 e2 s2 ⟨a, vs, h1, h2, h3, h4⟩ => ⟨a, h1, ⟨vs, .inl (.inl (s2.i a _ h2))⟩, by
    have hl := h4.len
    refine p (Itl K a) (fun H => SqL K H a vs) (YAt vs) I2 H2 e2 s2 (by omega) (by rw [← hl]; exact walk_list) (fun I3 C3 H3 e3 _ s3 => .inl (.inl (s3.i a _ (e3 a _ h2)))) (fun i x v' I3 C3 H3 H4 hx e3 _ s3 y => ?_)
    obtain ⟨rfl, y⟩ := y
    obtain ⟨w, hw, r⟩ := h4.get' hx
    rw [hw] at y
    cases y
    exact ⟨I3, Ex.refl _, s3, R.to e3 r⟩⟩) fun _ _ z => z)
/-- over a list that is a cell: the turns leave it as it is -/
theorem i_cell [Im R] {i : Nat} {a : Addr} {vs : List V} {xs : List α} (h : σ[i]? = some (some (.ref a))) (hc : C a = some (.lst vs)) (hl : vs.length ≤ sizeLine) (hr : A2 (fun x u => R.r x u I C) xs vs) :
    EvI E K (iList K (tVar i)) σ I C (fun C3 => C3 a = some (.lst vs)) (.ok xs) R := fun I1 C1 H1 e e' s Kt q =>
  ⟨.ref a, h, a, rfl, ⟨vs, .inl (.inl (s.c a _ (e' a _ hc)))⟩, by
    have hn := hr.len
    refine q (Itl K a) (fun H => SqL K H a vs) (YAt vs) I1 H1 (Ex.refl _) s (by omega) (by rw [← hn]; exact walk_list) (fun I3 C3 H3 e3 k3 s3 => .inl (.inl (s3.c a _ k3))) (fun i x v' I3 C3 H3 H4 hx e3 _ s3 y => ?_)
    obtain ⟨rfl, y⟩ := y
    obtain ⟨w, hw, r⟩ := hr.get' hx
    rw [hw] at y
    cases y
    exact ⟨I3, Ex.refl _, s3, R.to (e.trans e3) r⟩⟩
theorem i_script [Im R] (h : EvX E K te σ I C m (pW K R)) : EvI E K (iList K te) σ I C kpT m R := fun I1 C1 H1 e e' s Kt q =>
  h I1 C1 H1 e e' s _ (q.mono (fun xs p v I2 H2 e2 s2 ⟨a, vs, h1, h2, h3, h4⟩ => ⟨a, h1, ⟨vs, ex_l s2.i h2⟩, by
    have hl := h4.len
    refine p (Itl K a) (fun H => SqL K H a vs) (YAt vs) I2 H2 e2 s2 (by omega) (by rw [← hl]; exact walk_list) (fun I3 C3 H3 e3 _ s3 => ex_l (e3.trans s3.i) h2) (fun i x v' I3 C3 H3 H4 hx e3 _ s3 y => ?_)
    obtain ⟨rfl, y⟩ := y
    obtain ⟨w, hw, r⟩ := h4.get' hx
    rw [hw] at y
    cases y
    exact ⟨I3, Ex.refl _, s3, R.to e3 r⟩⟩) fun _ _ z => z)
theorem i_tup [Im R] (h : EvX E K te σ I C m (pQ K R)) : EvI E K (iTup K te) σ I C kpT m R := fun I1 C1 H1 e e' s Kt q =>
  h I1 C1 H1 e e' s _ (q.mono (fun xs p v I2 H2 e2 s2 ⟨a, vs, h1, h2, h3, h4⟩ => ⟨a, h1, ⟨vs, ex_t s2.i h2⟩, by
    have hl := h4.len
    refine p (Itt K a) (fun H => SqT K H a vs) (YAt vs) I2 H2 e2 s2 (by omega) (by rw [← hl]; exact walk_tup) (fun I3 C3 H3 e3 _ s3 => ex_t (e3.trans s3.i) h2) (fun i x v' I3 C3 H3 H4 hx e3 _ s3 y => ?_)
    obtain ⟨rfl, y⟩ := y
    obtain ⟨w, hw, r⟩ := h4.get' hx
    rw [hw] at y
    cases y
    exact ⟨I3, Ex.refl _, s3, R.to e3 r⟩⟩) fun _ _ z => z)
theorem i_rng1 {m : Res Int} (h : EvA E K ta σ I C m (t1 pI)) : EvI E K (iRng1 ta) σ I C kpT (un rng1 m) pI := fun I1 C1 H1 e e' s Kt q =>
  h I1 C1 H1 e e' s _ ((Post.bind q).mono (fun n p vs I2 H2 e2 s2 ⟨v, hv, rv⟩ => by
    unfold rng1 at p
    split at p
    · rename_i hn
      have hv1 : v = .int n := rv
      subst hv hv1
      refine ⟨n, rfl, by omega, by omega, p (Itr 0 n.toNat) (fun _ => True) (YFn fun i => .int (0 + i)) I2 H2 e2 s2 (by rw [rangeL_length]; exact Nat.le_trans (show (n - 0).toNat ≤ 1000000 by omega) (by decide)) (by rw [rangeL_length, Int.sub_zero]; exact walk_range) (fun _ _ _ _ _ _ => trivial) (fun i x v' I3 C3 H3 H4 hx e3 _ s3 y => ?_)⟩
      obtain ⟨rfl, rfl⟩ := y
      rw [rangeL_get hx]
      exact ⟨I3, Ex.refl _, s3, rfl⟩
    · exact p.elim) fun _ _ z => z)
theorem i_rng2 {m : Res (Int × Int)} (h : EvA E K ta σ I C m (tc pI (t1 pI))) : EvI E K (iRng2 ta) σ I C kpT (un rng2 m) pI := fun I1 C1 H1 e e' s Kt q =>
  h I1 C1 H1 e e' s _ ((Post.bind q).mono (fun n p vs I2 H2 e2 s2 ⟨v, us, hv, rv, w, hw, rw⟩ => by
    unfold rng2 at p
    split at p
    · rename_i hn
      have hv1 : v = .int n.1 := rv
      have hw1 : w = .int n.2 := rw
      subst hv hw hv1 hw1
      refine ⟨n.1, n.2, rfl, by omega, p (Itr n.1 (n.2 - n.1).toNat) (fun _ => True) (YFn fun i => .int (n.1 + i)) I2 H2 e2 s2 (by rw [rangeL_length]; exact Nat.le_trans (show (n.2 - n.1).toNat ≤ 2000000 by omega) (by decide)) (by rw [rangeL_length]; exact walk_range) (fun _ _ _ _ _ _ => trivial) (fun i x v' I3 C3 H3 H4 hx e3 _ s3 y => ?_)⟩
      obtain ⟨rfl, rfl⟩ := y
      rw [rangeL_get hx]
      exact ⟨I3, Ex.refl _, s3, rfl⟩
    · exact p.elim) fun _ _ z => z)
theorem new_pair {I C H : Hp} {T : Addr} {x y : V} {a : α} {b : β} (s : St I C H) (ht : H T = none) (hx : R.r a x I C) (hy : S.r b y I C) :
    ∃ I4, Ex I I4 ∧ St I4 C (upd H T (.tup [x, y])) ∧ (pT (tc R (t1 S))).r (a, b) (.ref T) I4 C :=
  ⟨upd I T (.tup [x, y]), Ex.new (s.i.free ht), s.newI ht, T, _, rfl, upd_same, x, [y], rfl, R.mono (Ex.new (s.i.free ht)) (Ex.refl _) hx, y, rfl, S.mono (Ex.new (s.i.free ht)) (Ex.refl _) hy⟩
theorem i_enum [Im R] (h : EvA E K ta σ I C m (t1 (pL R))) : EvI E K (iEnum K ta) σ I C kpT (un enumR m) (pT (tc pI (t1 R))) := fun I1 C1 H1 e e' s Kt q =>
  h I1 C1 H1 e e' s _ ((Post.bind q).mono (fun xs p vs I2 H2 e2 s2 ⟨v, hv, a, us, h1, h2, h3, h4⟩ => by
    subst hv h1
    have hl := h4.len
    refine ⟨a, us, rfl, .inl (.inl (s2.i a _ h2)), p (Ite K a) (fun H => SqL K H a us) (YPair (fun i => some (.int (i : Nat))) (fun i => us[i]?)) I2 H2 e2 s2 (by rw [enumF_length]; omega) (by rw [enumF_length, ← hl]; exact walk_enum) (fun I3 C3 H3 e3 _ s3 => .inl (.inl (s3.i a _ (e3 a _ h2)))) (fun i x v' I3 C3 H3 H4 hx e3 _ s3 y => ?_)⟩
    obtain ⟨T, u, w, rfl, hT, rfl, hu, hw⟩ := y
    rw [enumF_get] at hx
    cases hz : xs[i]? with
    | none =>
      rw [hz] at hx
      cases hx
    | some z =>
      rw [hz] at hx
      cases hx
      obtain ⟨w', hw', r⟩ := h4.get' hz
      have hw2 : us[i]? = some w := hw
      rw [hw'] at hw2
      cases hw2
      cases hu
      exact new_pair s3 hT (show V.int (i : Nat) = V.int (0 + (i : Int)) by rw [Int.zero_add]) (R.to e3 r)) fun _ _ z => z)
theorem i_zip [Im R] [Im S] {m : Res (List α × List β)} (h : EvA E K ta σ I C m (tc (pL R) (t1 (pL S)))) : EvI E K (iZip K ta) σ I C kpT (un zipR m) (pT (tc R (t1 S))) := fun I1 C1 H1 e e' s Kt q =>
  h I1 C1 H1 e e' s _ ((Post.bind q).mono (fun xs p vs I2 H2 e2 s2 ⟨v, us0, hv, ⟨a, us, h1, h2, h3, h4⟩, v', hv', a', us', h1', h2', h3', h4'⟩ => by
    subst hv hv' h1 h1'
    have hl := h4.len
    have hl' := h4'.len
    refine ⟨a, a', us, us', rfl, .inl (.inl (s2.i a _ h2)), .inl (.inl (s2.i a' _ h2')), p (Itz K a a') (fun H => SqL K H a us ∧ SqL K H a' us') (YPair (fun i => us[i]?) (fun i => us'[i]?)) I2 H2 e2 s2 (by rw [List.length_zip]; omega) (walk_zip (by rw [List.length_zip, hl, hl']))
      (fun I3 C3 H3 e3 _ s3 => ⟨.inl (.inl (s3.i a _ (e3 a _ h2))), .inl (.inl (s3.i a' _ (e3 a' _ h2')))⟩) (fun i x v' I3 C3 H3 H4 hx e3 _ s3 y => ?_)⟩
    obtain ⟨T, u, w, rfl, hT, rfl, hu, hw⟩ := y
    obtain ⟨x1, x2⟩ := x
    obtain ⟨hx1, hx2⟩ := List.getElem?_zip_eq_some.mp hx
    obtain ⟨w1, hw1, r1⟩ := h4.get' hx1
    obtain ⟨w2, hw2, r2⟩ := h4'.get' hx2
    have hu2 : us[i]? = some u := hu
    have hw3 : us'[i]? = some w := hw
    rw [hw1] at hu2
    cases hu2
    rw [hw2] at hw3
    cases hw3
    exact new_pair s3 hT (R.to e3 r1) (S.to e3 r2)) fun _ _ z => z)
/-! ### targets -/
def Tg (K : PySem.W.Frag) {α : Type} (g : TG) (R : Rp α) (σ : L2.St) (P : α → L2.St → Hp → Hp → Prop) : Prop := ∀ x v I C H Q, St I C H → R.r x v I C → (∀ σ2, P x σ2 I C → Q σ2 H) → g v σ H Q
theorem g_name {i : Nat} : Tg K (gName i) R σ (fun x σ2 I C => ∃ v, σ2 = σ.set i (some v) ∧ R.r x v I C) := fun x v I C H Q s r k => k _ ⟨v, rfl, r⟩
theorem g_two {i j : Nat} : Tg K (gTup K 2 (gCons (gName i) (gCons (gName j) gNil))) (pT (tc R (t1 S))) σ (fun x σ2 I C => ∃ u w, σ2 = (σ.set i (some u)).set j (some w) ∧ R.r x.1 u I C ∧ S.r x.2 w I C) := fun x v I C H Q s r k => by
  obtain ⟨a, vs, rfl, h2, u, us, rfl, h3, w, rfl, h4⟩ := r
  exact ⟨a, _, rfl, .inl (.inl (s.i _ _ h2)), rfl, u, _, rfl, w, _, rfl, rfl, k _ ⟨u, w, rfl, h3, h4⟩⟩
theorem g_three {i j l : Nat} : Tg K (gTup K 3 (gCons (gName i) (gCons (gName j) (gCons (gName l) gNil)))) (pT (tc R (tc S (t1 T)))) σ
    (fun x σ2 I C => ∃ u w z, σ2 = ((σ.set i (some u)).set j (some w)).set l (some z) ∧ R.r x.1 u I C ∧ S.r x.2.1 w I C ∧ T.r x.2.2 z I C) := fun x v I C H Q s r k => by
  obtain ⟨a, vs, rfl, h2, u, us, rfl, h3, w, us', rfl, h4, z, rfl, h5⟩ := r
  exact ⟨a, _, rfl, .inl (.inl (s.i _ _ h2)), rfl, u, _, rfl, w, _, rfl, z, _, rfl, rfl, k _ ⟨u, w, z, rfl, h3, h4, h5⟩⟩
/-! ### comprehensions (an element that raises is not served) -/
def mapR (f : α → Res β) : List α → Res (List β)
  | [] => .ok []
  | x :: xs => match f x with
    | .ok y => (mapR f xs).bind fun ys => .ok (y :: ys)
    | _ => .bad
def filR (p : α → Res Bool) (f : α → Res β) : List α → Res (List β)
  | [] => .ok []
  | x :: xs => match p x with
    | .ok true => (match f x with
      | .ok y => (filR p f xs).bind fun ys => .ok (y :: ys)
      | _ => .bad)
    | .ok false => filR p f xs
    | _ => .bad
theorem mapR_ok {f : α → Res β} {g : α → β} : ∀ {xs : List α}, (∀ x, x ∈ xs → f x = .ok (g x)) → mapR f xs = .ok (xs.map g)
  | [], _ => rfl
  | x :: xs, h => by
    unfold mapR
    rw [h x List.mem_cons_self]
    show (mapR f xs).bind _ = _
    rw [mapR_ok (xs := xs) fun y hy => h y (List.mem_cons_of_mem _ hy)]
    rfl
theorem filR_ok {p : α → Res Bool} {f : α → Res β} {q : α → Bool} {g : α → β} : ∀ {xs : List α}, (∀ x, x ∈ xs → p x = .ok (q x)) → (∀ x, x ∈ xs → q x = true → f x = .ok (g x)) → filR p f xs = .ok ((xs.filter q).map g)
  | [], _, _ => rfl
  | x :: xs, h, h' => by
    have ih := filR_ok (xs := xs) (fun y hy => h y (List.mem_cons_of_mem _ hy)) (fun y hy => h' y (List.mem_cons_of_mem _ hy))
    unfold filR
    rw [h x List.mem_cons_self]
    cases hq : q x with
    | true =>
      show (match f x with
        | .ok y => (filR p f xs).bind fun ys => .ok (y :: ys)
        | _ => .bad) = _
      rw [h' x List.mem_cons_self hq, List.filter_cons, hq]
      show (filR p f xs).bind _ = _
      rw [ih]
      rfl
    | false =>
      show filR p f xs = _
      rw [ih, List.filter_cons, hq]
      rfl
@[simp] theorem mapR_okf (g : α → β) (xs : List α) : mapR (fun x => .ok (g x)) xs = .ok (xs.map g) := mapR_ok fun _ _ => rfl
@[simp] theorem filR_okf (q : α → Bool) (g : α → β) (xs : List α) : filR (fun x => .ok (q x)) (fun x => .ok (g x)) xs = .ok ((xs.filter q).map g) := filR_ok (fun _ _ => rfl) (fun _ _ _ => rfl)
abbrev EZ : XK := fun _ _ _ => False
theorem drop_cons {xs : List α} {i : Nat} {x : α} (h : xs[i]? = some x) : xs.drop i = x :: xs.drop (i + 1) := by
  obtain ⟨hi, e⟩ := List.getElem?_eq_some_iff.mp h
  rw [← e]
  exact List.drop_eq_getElem_cons hi
/-- what stands between two turns: ys made so far, the rest gives what is wanted -/
def Lc (S : Rp β) (I C : Hp) (D : Addr) (rest : Res (List β)) (W : List β → Prop) (n : Nat) (H : Hp) : Prop :=
  ∃ (ys : List β) (vs : List V) (I' : Hp), Ex I I' ∧ St I' (upd C D (.lst vs)) H ∧ vs.length ≤ n ∧ A2 (fun x u => S.r x u I' C) ys vs ∧ Post rest (fun zs => W (ys ++ zs)) (fun _ _ => False)
theorem PX.no {K : PySem.W.Frag} {I C : Hp} {c : Ec} {i : Int} (h : False) : PX EZ K I C c i := h.elim
theorem x_lcgK [Im S] {wi : TI} {g : TG} {tt : TT} {vs : List Nat} {p : α → Res Bool} {f : α → Res β} {P : α → L2.St → Hp → Hp → Prop} {kp : Hp → Prop} (hi : EvI E K wi σ I C kp m R) (hkp : ∀ C3, Ex C C3 → kp C3) (hg : Tg K g R (wipe σ vs) P)
    (hw : ∀ x σ2 I' C', P x σ2 I' C' → wipe σ2 vs = wipe σ vs)
    (hp : ∀ x σ2 I' C', Ex I I' → Ex C C' → P x σ2 I' C' → EvT EZ K tt σ2 I' C' (p x))
    (hf : ∀ x σ2 I' C', Ex I I' → Ex C C' → P x σ2 I' C' → EvX EZ K te σ2 I' C' (f x) S)
    (hm : ∀ x σ2 I' I2 C', Ex I' I2 → P x σ2 I' C' → P x σ2 I2 C') : EvX E K (tLc wi g tt te vs) σ I C (m.bind (filR p f)) (pL S) := fun I1 C1 H1 e e' s Q q =>
  hi I1 C1 H1 e e' s _ ((Post.bind q).mono (fun xs q2 J G Y I2 H2 e2 s2 hz w hG hY D hD => by
    have cD : C1 D = none := s2.c.free hD
    refine lc_it w (fun i H => Lc S I2 C1 D (filR p f (xs.drop i)) (PQ (pL S) I1 C1 Q) i H) ⟨[], [], I2, Ex.refl _, s2.newC hD, Nat.le_refl _, .nil, ?_⟩ (fun i H hi ⟨_, vs', I', e3, s3, _⟩ => hG I' _ H e3 (hkp _ (e'.trans (Ex.new cD))) s3) (fun i x H H' hi ⟨ys, us, I', e3, s3, hn, r3, po⟩ y => ?_) (fun H ⟨ys, us, I', e3, s3, hn, r3, po⟩ => ?_)
    · cases hfil : filR p f xs with
      | ok zs =>
        rw [hfil] at q2
        show Post (filR p f (xs.drop 0)) _ _
        rw [List.drop_zero, hfil]
        exact q2
      | exc c i =>
        exfalso
        revert hfil
        clear q2 hG hY w hz
        induction xs with
        | nil =>
          intro z
          cases z
        | cons x xs ih =>
          unfold filR
          cases p x with
          | ok b =>
            cases b with
            | true =>
              cases f x with
              | ok y =>
                intro z
                cases hh : filR p f xs with
                | ok zs =>
                  simp only [hh] at z
                  cases z
                | exc c' i' =>
                  simp only [hh] at z
                  have z2 : (Res.exc c' i' : Res (List β)) = .exc c i := z
                  cases z2
                  exact ih hh
                | bad =>
                  simp only [hh] at z
                  cases z
              | exc _ _ => intro z; cases z
              | bad => intro z; cases z
            | false => exact ih
          | exc _ _ => intro z; cases z
          | bad => intro z; cases z
      | bad =>
        rw [hfil] at q2
        exact q2.elim
    · obtain ⟨a, ha⟩ : ∃ a, xs[i]? = some a := ⟨xs[i], by simp [hi]⟩
      rw [drop_cons ha] at po
      obtain ⟨I4, e4, s4, ra⟩ := hY i a x I' _ H H' ha e3 (hkp _ (e'.trans (Ex.new cD))) s3 y
      refine hg a x I4 _ H' _ s4 ra fun σ2 pa => ⟨hw _ _ _ _ pa, ?_⟩
      have eI : Ex I I4 := e.trans (e2.trans (e3.trans e4))
      have eC : Ex C (upd C1 D (.lst us)) := e'.trans (Ex.new cD)
      unfold filR at po
      refine hp a σ2 I4 _ eI eC pa I4 _ H' (Ex.refl _) (Ex.refl _) s4 _ ?_
      cases hpa : p a with
      | ok b =>
        rw [hpa] at po
        cases b with
        | true =>
          show ∀ I5 H5, Ex I4 I5 → St I5 (upd C1 D (.lst us)) H5 → te σ2 H5 _
          intro I5 H5 e5 s5
          refine hf a σ2 I5 _ (eI.trans e5) eC (hm _ _ _ _ _ e5 pa) I5 _ H5 (Ex.refl _) (Ex.refl _) s5 _ ?_
          cases hfa : f a with
          | ok b =>
            have po2 : Post ((filR p f (xs.drop (i + 1))).bind fun ys => .ok (b :: ys)) (fun zs => PQ (pL S) I1 C1 Q (ys ++ zs)) (fun _ _ => False) := by
              have z := po
              simp only [hfa] at z
              exact z
            intro v I6 H6 e6 s6 rv
            have hsz : us.length < sizeLine := Nat.lt_of_le_of_lt hn (Nat.lt_of_lt_of_le hi hz)
            refine ⟨us, s6.c D _ upd_same, hsz, ⟨ys ++ [b], us ++ [v], I6, e3.trans (e4.trans (e5.trans e6)), ?_, by rw [List.length_append]; exact Nat.succ_le_succ hn, ?_, ?_⟩⟩
            · have z := s6.set (o := .lst (us ++ [v])) (p := D) upd_same
              rw [upd_upd] at z
              exact z
            · exact (r3.imp fun _ _ => S.mono (e4.trans (e5.trans e6)) (Ex.refl _)).append (.one (Im.im rv))
            · refine (Post.bind po2).mono (fun zs z => ?_) fun _ _ z => z
              rw [List.append_assoc]
              exact z
          | exc c j =>
            have z := po
            simp only [hfa] at z
            exact z.elim
          | bad =>
            have z := po
            simp only [hfa] at z
            exact z.elim
        | false =>
          show ∀ I5 H5, Ex I4 I5 → St I5 (upd C1 D (.lst us)) H5 → Lc S I2 C1 D (filR p f (xs.drop (i + 1))) (PQ (pL S) I1 C1 Q) (i + 1) H5
          intro I5 H5 e5 s5
          exact ⟨ys, us, I5, e3.trans (e4.trans e5), s5, Nat.le_succ_of_le hn, r3.imp fun _ _ => S.mono (e4.trans e5) (Ex.refl _), po⟩
      | exc c j =>
        rw [hpa] at po
        exact po.elim
      | bad =>
        rw [hpa] at po
        exact po.elim
    · rw [List.drop_length] at po
      have po2 : PQ (pL S) I1 C1 Q (ys ++ []) := po
      rw [List.append_nil] at po2
      have sf := s3.frz (p := D) upd_same
      have iD : I' D = none := s3.freeI upd_same
      refine po2 (.ref D) (upd I' D (.lst us)) H (e2.trans (e3.trans (Ex.new iD))) (sf.less fun a o ha => ?_) ⟨D, us, rfl, upd_same, Nat.le_trans hn hz, r3.imp fun _ _ => S.mono (Ex.new iD) (Ex.refl _)⟩
      have hne : a ≠ D := fun z => by
        rw [z, cD] at ha
        cases ha
      show (if a = D then none else upd C1 D (.lst us) a) = some o
      rw [if_neg hne, upd_ne hne]
      exact ha) fun _ _ z => z)
theorem x_lcg [Im S] {wi : TI} {g : TG} {tt : TT} {vs : List Nat} {p : α → Res Bool} {f : α → Res β} {P : α → L2.St → Hp → Hp → Prop} (hi : EvI E K wi σ I C kpT m R) (hg : Tg K g R (wipe σ vs) P)
    (hw : ∀ x σ2 I' C', P x σ2 I' C' → wipe σ2 vs = wipe σ vs)
    (hp : ∀ x σ2 I' C', Ex I I' → Ex C C' → P x σ2 I' C' → EvT EZ K tt σ2 I' C' (p x))
    (hf : ∀ x σ2 I' C', Ex I I' → Ex C C' → P x σ2 I' C' → EvX EZ K te σ2 I' C' (f x) S)
    (hm : ∀ x σ2 I' I2 C', Ex I' I2 → P x σ2 I' C' → P x σ2 I2 C') : EvX E K (tLc wi g tt te vs) σ I C (m.bind (filR p f)) (pL S) := x_lcgK hi (fun _ _ => trivial) hg hw hp hf hm
theorem filR_yes (f : α → Res β) : ∀ xs : List α, filR (fun _ => .ok true) f xs = mapR f xs
  | [] => rfl
  | x :: xs => by
    unfold filR mapR
    rw [filR_yes f xs]
theorem t_yes : EvT E K tYes σ I C (.ok true) := fun I1 C1 H1 e e' s Q q => q I1 H1 (Ex.refl _) s
theorem x_lc [Im S] {wi : TI} {g : TG} {vs : List Nat} {f : α → Res β} {P : α → L2.St → Hp → Hp → Prop} (hi : EvI E K wi σ I C kpT m R) (hg : Tg K g R (wipe σ vs) P)
    (hw : ∀ x σ2 I' C', P x σ2 I' C' → wipe σ2 vs = wipe σ vs)
    (hf : ∀ x σ2 I' C', Ex I I' → Ex C C' → P x σ2 I' C' → EvX EZ K te σ2 I' C' (f x) S)
    (hm : ∀ x σ2 I' I2 C', Ex I' I2 → P x σ2 I' C' → P x σ2 I2 C') : EvX E K (tLc wi g tYes te vs) σ I C (m.bind (mapR f)) (pL S) := by
  have z := x_lcg (p := fun _ => .ok true) hi hg hw (fun x σ2 I' C' _ _ _ => t_yes) hf hm
  have e : filR (fun _ => Res.ok true) f = mapR f := funext (filR_yes f)
  rw [e] at z
  exact z
theorem x_lcK [Im S] {wi : TI} {g : TG} {vs : List Nat} {f : α → Res β} {P : α → L2.St → Hp → Hp → Prop} {kp : Hp → Prop} (hi : EvI E K wi σ I C kp m R) (hkp : ∀ C3, Ex C C3 → kp C3) (hg : Tg K g R (wipe σ vs) P)
    (hw : ∀ x σ2 I' C', P x σ2 I' C' → wipe σ2 vs = wipe σ vs)
    (hf : ∀ x σ2 I' C', Ex I I' → Ex C C' → P x σ2 I' C' → EvX EZ K te σ2 I' C' (f x) S)
    (hm : ∀ x σ2 I' I2 C', Ex I' I2 → P x σ2 I' C' → P x σ2 I2 C') : EvX E K (tLc wi g tYes te vs) σ I C (m.bind (mapR f)) (pL S) := by
  have z := x_lcgK (p := fun _ => .ok true) hi hkp hg hw (fun x σ2 I' C' _ _ _ => t_yes) hf hm
  have e : filR (fun _ => Res.ok true) f = mapR f := funext (filR_yes f)
  rw [e] at z
  exact z
end
end Sd

namespace Sd
open PySem L2
/-! ### promises -/
/-- f(a ..) hands back what the mirror m tells; nothing changes -/
def spP (K : PySem.W.Frag) {α β : Type} (T : Rt α) (m : α → Res β) (R : Rp β) : Sp := fun vs H Q E => ∃ (I C : Hp) (a : α), St I C H ∧ T.r a vs I C ∧ Post (m a) (PQ R I C Q) (PX E K I C)
/-- f(pool, a ..): the list at the first place changes; nothing is raised -/
def spM {α β μ : Type} (M : Rt μ) (T : Rt α) (m : α → μ → Res (β × μ)) (R : Rp β) : Sp := fun vs H Q _ => ∃ (I C : Hp) (p : Addr) (ws us : List V) (x : μ) (a : α), vs = .ref p :: us ∧ St I C H ∧ C p = some (.lst ws) ∧ M.r x ws I C ∧ T.r a us I C ∧
  Post (m a x) (fun b => ∀ v ws' I2 H2, Ex I I2 → St I2 (upd C p (.lst ws')) H2 → M.r b.2 ws' I2 (upd C p (.lst ws')) → R.r b.1 v I2 (upd C p (.lst ws')) → Q v H2) (fun _ _ => False)
inductive Out (S ρ : Type) where
  | nx (s : S)
  | br (s : S)
  | rt (r : ρ)
section
variable {α β S ρ : Type}
def loopN (f : α → S → Res S) : List α → S → Res S
  | [], s => .ok s
  | x :: xs, s => (f x s).bind fun s' => loopN f xs s'
def loopR (f : α → S → Res (Out S ρ)) : List α → S → Res (Out S ρ)
  | [], s => .ok (.nx s)
  | x :: xs, s => (f x s).bind fun o => match o with
    | .nx s' => loopR f xs s'
    | .br s' => .ok (.nx s')
    | .rt r => .ok (.rt r)
def whileF (c : S → Res Bool) (f : S → Res (Out S ρ)) : Nat → S → Res (Out S ρ)
  | 0, _ => .bad
  | n + 1, s => (c s).bind fun b => if b = true then (f s).bind fun o => match o with
    | .nx s' => whileF c f n s'
    | .br s' => .ok (.nx s')
    | .rt r => .ok (.rt r) else .ok (.nx s)
def whileN (c : S → Res Bool) (f : S → Res S) : Nat → S → Res S
  | 0, _ => .bad
  | n + 1, s => (c s).bind fun b => if b = true then (f s).bind fun s' => whileN c f n s' else .ok s
theorem loopN_ok {f : α → S → Res S} {g : S → α → S} : ∀ {xs : List α} {s : S}, (∀ x, x ∈ xs → ∀ s, f x s = .ok (g s x)) → loopN f xs s = .ok (xs.foldl g s)
  | [], s, _ => rfl
  | x :: xs, s, h => by
    unfold loopN
    rw [h x List.mem_cons_self]
    exact loopN_ok (xs := xs) fun y hy => h y (List.mem_cons_of_mem _ hy)
theorem loopN_cons (f : α → S → Res S) (x : α) (xs : List α) (s : S) : loopN f (x :: xs) s = (f x s).bind fun s' => loopN f xs s' := rfl
theorem loopR_cons (f : α → S → Res (Out S ρ)) (x : α) (xs : List α) (s : S) : loopR f (x :: xs) s = (f x s).bind fun o => match o with
    | .nx s' => loopR f xs s'
    | .br s' => .ok (.nx s')
    | .rt r => .ok (.rt r) := rfl
end
abbrev XH (X : Ec → Int → Prop) (E : XK) (K : PySem.W.Frag) (I C : Hp) : Prop := ∀ c i, X c i → PX E K I C c i
section
variable {E : XK} {K : PySem.W.Frag} {σ : L2.St} {I C H : Hp} {α β γ ω S ρ μ : Type} {R : Rp α} {te : TE} {ta : TA} {tt : TT} {tz tu tw : TS} {D : Ends} {m : Res α} {Q : ω → Prop} {X : Ec → Int → Prop}
/-! ### calls of defs -/
theorem x_call {T : Rt α} {f : α → Res β} {R : Rp β} (h : EvA E K ta σ I C m T) : EvX E K (tCall (spP K T f R) [] E ta) σ I C (un f m) R := fun I1 C1 H1 e e' s Q q =>
  h I1 C1 H1 e e' s _ ((Post.bind q).mono (fun a p vs I2 H2 e2 s2 rv => by
    refine ⟨I2, C1, a, s2, by rw [List.append_nil]; exact rv, Post.mono (m := f a) p (fun b z v I3 H3 e3 s3 rw => z v I3 H3 (e2.trans e3) s3 rw) fun c i z => z.mono e2 (Ex.refl _)⟩) fun _ _ z => z)
/-! ### statements -/
theorem s_asg {i : Nat} {k : α → Res ω} (h : EvX E K te σ I C m R) (s : St I C H) (hX : XH X E K I C) (hm : Post (m.bind k) Q X)
    (next : ∀ a v I2 H2, Ex I I2 → St I2 C H2 → R.r a v I2 C → Post (k a) Q X → tz D (σ.set i (some v)) H2) : tSeq (tAsg te (gName i)) tz D σ H :=
  h I C H (Ex.refl _) (Ex.refl _) s _ ((Post.bind hm).mono (fun a p v I2 H2 e2 s2 rv => next a v I2 H2 e2 s2 rv p) hX)
theorem s_asgG {g : TG} {P : α → L2.St → Hp → Hp → Prop} {k : α → Res ω} (hg : Tg K g R σ P) (h : EvX E K te σ I C m R) (s : St I C H) (hX : XH X E K I C) (hm : Post (m.bind k) Q X)
    (next : ∀ a σ2 I2 H2, Ex I I2 → St I2 C H2 → P a σ2 I2 C → Post (k a) Q X → tz D σ2 H2) : tSeq (tAsg te g) tz D σ H :=
  h I C H (Ex.refl _) (Ex.refl _) s _ ((Post.bind hm).mono (fun a p v I2 H2 e2 s2 rv => hg a v I2 C H2 _ s2 rv fun σ2 pa => next a σ2 I2 H2 e2 s2 pa p) hX)
theorem s_ret {k : α → Res ω} (h : EvX E K te σ I C m R) (s : St I C H) (hX : XH X E K I C) (hm : Post (m.bind k) Q X)
    (next : ∀ a v I2 H2, Ex I I2 → St I2 C H2 → R.r a v I2 C → Post (k a) Q X → D.rt v H2) : tSeq (tRet te) tz D σ H :=
  h I C H (Ex.refl _) (Ex.refl _) s _ ((Post.bind hm).mono (fun a p v I2 H2 e2 s2 rv => next a v I2 H2 e2 s2 rv p) hX)
theorem s_expr {k : α → Res ω} (h : EvX E K te σ I C m R) (s : St I C H) (hX : XH X E K I C) (hm : Post (m.bind k) Q X)
    (next : ∀ a I2 H2, Ex I I2 → St I2 C H2 → Post (k a) Q X → tz D σ H2) : tSeq (tDrop te) tz D σ H :=
  h I C H (Ex.refl _) (Ex.refl _) s _ ((Post.bind hm).mono (fun a p v I2 H2 e2 s2 rv => next a I2 H2 e2 s2 p) hX)
theorem s_if {c : Res Bool} {m1 m2 : Res ω} (h : EvT E K tt σ I C c) (s : St I C H) (hX : XH X E K I C) (hm : Post (ifR c m1 m2) Q X)
    (h1 : ∀ I2 H2, Ex I I2 → St I2 C H2 → Post m1 Q X → tu { D with nx := tz D } σ H2) (h2 : ∀ I2 H2, Ex I I2 → St I2 C H2 → Post m2 Q X → tw { D with nx := tz D } σ H2) : tSeq (tIfS tt tu tw) tz D σ H :=
  h I C H (Ex.refl _) (Ex.refl _) s _ ((Post.bind hm).mono (fun b p I2 H2 e2 s2 => by
    cases b with
    | true => exact h1 I2 H2 e2 s2 p
    | false => exact h2 I2 H2 e2 s2 p) hX)
/-- an if whose ways meet: the word P of what stands behind it -/
theorem s_ifj (P : S → L2.St → Hp → Hp → Prop) {c : Res Bool} {m1 m2 : Res S} {k : S → Res ω} (h : EvT E K tt σ I C c) (s : St I C H) (hX : XH X E K I C) (hm : Post ((ifR c m1 m2).bind k) Q X)
    (h1 : ∀ (N : L2.St → Hp → Prop) I2 H2, Ex I I2 → St I2 C H2 → Post m1 (fun s' => ∀ σ2 I3 C3 H3, Ex I I3 → St I3 C3 H3 → P s' σ2 I3 C3 → N σ2 H3) X → tu { D with nx := N } σ H2)
    (h2 : ∀ (N : L2.St → Hp → Prop) I2 H2, Ex I I2 → St I2 C H2 → Post m2 (fun s' => ∀ σ2 I3 C3 H3, Ex I I3 → St I3 C3 H3 → P s' σ2 I3 C3 → N σ2 H3) X → tw { D with nx := N } σ H2)
    (next : ∀ s' σ2 I3 C3 H3, Ex I I3 → St I3 C3 H3 → P s' σ2 I3 C3 → Post (k s') Q X → tz D σ2 H3) : Evl.tCut (tIfS tt tu tw) tz D σ H := by
  refine ⟨fun σ2 H3 => ∃ s' I3 C3, Ex I I3 ∧ St I3 C3 H3 ∧ P s' σ2 I3 C3 ∧ Post (k s') Q X, ?_, fun σ2 H3 ⟨s', I3, C3, e3, s3, p, q⟩ => next s' σ2 I3 C3 H3 e3 s3 p q⟩
  refine h I C H (Ex.refl _) (Ex.refl _) s _ ((Post.bind (Post.bind hm)).mono (fun b p I2 H2 e2 s2 => ?_) hX)
  cases b with
  | true => exact h1 _ I2 H2 e2 s2 (Post.mono (m := m1) p (fun s' z σ2 I3 C3 H3 e3 s3 pp => ⟨s', I3, C3, e3, s3, pp, z⟩) fun _ _ z => z)
  | false => exact h2 _ I2 H2 e2 s2 (Post.mono (m := m2) p (fun s' z σ2 I3 C3 H3 e3 s3 pp => ⟨s', I3, C3, e3, s3, pp, z⟩) fun _ _ z => z)
/-- the same, a way may return -/
theorem s_ifr (P : S → L2.St → Hp → Hp → Prop) {c : Res Bool} {m1 m2 : Res (Out S ρ)} {k : Out S ρ → Res ω} (h : EvT E K tt σ I C c) (s : St I C H) (hX : XH X E K I C) (hm : Post ((ifR c m1 m2).bind k) Q X)
    (h1 : ∀ (N : L2.St → Hp → Prop) I2 H2, Ex I I2 → St I2 C H2 → Post m1 (fun o => match o with
      | .nx s' => ∀ σ2 I3 C3 H3, Ex I I3 → St I3 C3 H3 → P s' σ2 I3 C3 → N σ2 H3
      | o => Post (k o) Q X) X → tu { D with nx := N } σ H2)
    (h2 : ∀ (N : L2.St → Hp → Prop) I2 H2, Ex I I2 → St I2 C H2 → Post m2 (fun o => match o with
      | .nx s' => ∀ σ2 I3 C3 H3, Ex I I3 → St I3 C3 H3 → P s' σ2 I3 C3 → N σ2 H3
      | o => Post (k o) Q X) X → tw { D with nx := N } σ H2)
    (next : ∀ s' σ2 I3 C3 H3, Ex I I3 → St I3 C3 H3 → P s' σ2 I3 C3 → Post (k (.nx s')) Q X → tz D σ2 H3) : Evl.tCut (tIfS tt tu tw) tz D σ H := by
  refine ⟨fun σ2 H3 => ∃ s' I3 C3, Ex I I3 ∧ St I3 C3 H3 ∧ P s' σ2 I3 C3 ∧ Post (k (.nx s')) Q X, ?_, fun σ2 H3 ⟨s', I3, C3, e3, s3, p, q⟩ => next s' σ2 I3 C3 H3 e3 s3 p q⟩
  refine h I C H (Ex.refl _) (Ex.refl _) s _ ((Post.bind (Post.bind hm)).mono (fun b p I2 H2 e2 s2 => ?_) hX)
  cases b with
  | true => exact h1 _ I2 H2 e2 s2 (Post.mono (m := m1) p (fun o z => by
      cases o with
      | nx s' => exact fun σ2 I3 C3 H3 e3 s3 pp => ⟨s', I3, C3, e3, s3, pp, z⟩
      | br s' => exact z
      | rt r => exact z) fun _ _ z => z)
  | false => exact h2 _ I2 H2 e2 s2 (Post.mono (m := m2) p (fun o z => by
      cases o with
      | nx s' => exact fun σ2 I3 C3 H3 e3 s3 pp => ⟨s', I3, C3, e3, s3, pp, z⟩
      | br s' => exact z
      | rt r => exact z) fun _ _ z => z)
/-! ### loops -/
theorem s_forN (P : S → L2.St → Hp → Hp → Prop) {wi : TI} {g : TG} {kp : Hp → Prop} {m : Res (List α)} {f : α → S → Res S} {s0 : S} {k : S → Res ω} (hi : EvI E K wi σ I C kp m R) (s : St I C H) (hX : XH X E K I C) (hm : Post ((m.bind fun xs => loopN f xs s0).bind k) Q X)
    (h0 : ∀ I2, Ex I I2 → P s0 σ I2 C) (hk : ∀ s' σ' I' C', P s' σ' I' C' → kp C') (hP : ∀ s' σ' I' I2 C', Ex I' I2 → P s' σ' I' C' → P s' σ' I2 C')
    (body : ∀ (N : L2.St → Hp → Prop) x v s' σ' I' C' H', Ex I I' → St I' C' H' → P s' σ' I' C' → R.r x v I' C' → Post (f x s') (fun s2 => ∀ σ2 I3 C3 H3, Ex I' I3 → St I3 C3 H3 → P s2 σ2 I3 C3 → N σ2 H3) X →
      g v σ' H' fun σ2 H2 => tu { D with nx := N, ct := N, bk := tz D } σ2 H2)
    (next : ∀ s' σ' I' C' H', Ex I I' → St I' C' H' → P s' σ' I' C' → Post (k s') Q X → tz D σ' H') : tSeq (tFor wi g tu) tz D σ H :=
  hi I C H (Ex.refl _) (Ex.refl _) s _ ((Post.bind (Post.bind hm)).mono (fun xs q2 J G Y I2 H2 e2 s2 hz w hG hY => by
    refine for_it w (fun i σ' H' => ∃ s' I' C', Ex I2 I' ∧ St I' C' H' ∧ P s' σ' I' C' ∧ Post ((loopN f (xs.drop i) s').bind k) Q X) ⟨s0, I2, C, Ex.refl _, s2, h0 I2 e2, by rw [List.drop_zero]; exact Post.of_bind q2⟩
      (fun i σ' H' hi ⟨s', I', C', e3, s3, p, _⟩ => hG I' C' H' e3 (hk _ _ _ _ p) s3) (fun i x σ' H1 H' hi ⟨s', I', C', e3, s3, p, po⟩ y => ?_) (fun σ' H' ⟨s', I', C', e3, s3, p, po⟩ => ?_)
    · obtain ⟨a, ha⟩ : ∃ a, xs[i]? = some a := ⟨xs[i], by simp [hi]⟩
      rw [drop_cons ha] at po
      obtain ⟨I4, e4, s4, ra⟩ := hY i a x I' C' H1 H' ha e3 (hk _ _ _ _ p) s3 y
      exact body _ a x s' σ' I4 C' H' (e2.trans (e3.trans e4)) s4 (hP _ _ _ _ _ e4 p) ra ((Post.bind (Post.bind po)).mono (fun s3 z σ2 I5 C5 H5 e5 s5 p5 => ⟨s3, I5, C5, e3.trans (e4.trans e5), s5, p5, Post.of_bind z⟩) fun _ _ z => z)
    · rw [List.drop_length] at po
      exact next s' σ' I' C' H' (e2.trans e3) s3 p po) hX)
/-- .. a turn may break or return -/
theorem s_forR (P : S → L2.St → Hp → Hp → Prop) {wi : TI} {g : TG} {kp : Hp → Prop} {m : Res (List α)} {f : α → S → Res (Out S ρ)} {s0 : S} {k : Out S ρ → Res ω} (hi : EvI E K wi σ I C kp m R) (s : St I C H) (hX : XH X E K I C) (hm : Post ((m.bind fun xs => loopR f xs s0).bind k) Q X)
    (h0 : ∀ I2, Ex I I2 → P s0 σ I2 C) (hk : ∀ s' σ' I' C', P s' σ' I' C' → kp C') (hP : ∀ s' σ' I' I2 C', Ex I' I2 → P s' σ' I' C' → P s' σ' I2 C')
    (body : ∀ (N : L2.St → Hp → Prop) x v s' σ' I' C' H', Ex I I' → St I' C' H' → P s' σ' I' C' → R.r x v I' C' → Post (f x s') (fun o => match o with
        | .nx s2 => ∀ σ2 I3 C3 H3, Ex I' I3 → St I3 C3 H3 → P s2 σ2 I3 C3 → N σ2 H3
        | .br s2 => ∀ σ2 I3 C3 H3, Ex I' I3 → St I3 C3 H3 → P s2 σ2 I3 C3 → tz D σ2 H3
        | .rt r => Post (k (.rt r)) Q X) X →
      g v σ' H' fun σ2 H2 => tu { D with nx := N, ct := N, bk := tz D } σ2 H2)
    (next : ∀ s' σ' I' C' H', Ex I I' → St I' C' H' → P s' σ' I' C' → Post (k (.nx s')) Q X → tz D σ' H') : tSeq (tFor wi g tu) tz D σ H :=
  hi I C H (Ex.refl _) (Ex.refl _) s _ ((Post.bind (Post.bind hm)).mono (fun xs q2 J G Y I2 H2 e2 s2 hz w hG hY => by
    refine for_it w (fun i σ' H' => ∃ s' I' C', Ex I2 I' ∧ St I' C' H' ∧ P s' σ' I' C' ∧ Post ((loopR f (xs.drop i) s').bind k) Q X) ⟨s0, I2, C, Ex.refl _, s2, h0 I2 e2, by rw [List.drop_zero]; exact Post.of_bind q2⟩
      (fun i σ' H' hi ⟨s', I', C', e3, s3, p, _⟩ => hG I' C' H' e3 (hk _ _ _ _ p) s3) (fun i x σ' H1 H' hi ⟨s', I', C', e3, s3, p, po⟩ y => ?_) (fun σ' H' ⟨s', I', C', e3, s3, p, po⟩ => ?_)
    · obtain ⟨a, ha⟩ : ∃ a, xs[i]? = some a := ⟨xs[i], by simp [hi]⟩
      rw [drop_cons ha] at po
      obtain ⟨I4, e4, s4, ra⟩ := hY i a x I' C' H1 H' ha e3 (hk _ _ _ _ p) s3 y
      refine body _ a x s' σ' I4 C' H' (e2.trans (e3.trans e4)) s4 (hP _ _ _ _ _ e4 p) ra ((Post.bind (Post.bind po)).mono (fun o z => ?_) fun _ _ z => z)
      cases o with
      | nx s3 => exact fun σ2 I5 C5 H5 e5 s5 p5 => ⟨s3, I5, C5, e3.trans (e4.trans e5), s5, p5, Post.of_bind z⟩
      | br s3 => exact fun σ2 I5 C5 H5 e5 s5 p5 => next s3 σ2 I5 C5 H5 (e2.trans (e3.trans (e4.trans e5))) s5 p5 z
      | rt r => exact z
    · rw [List.drop_length] at po
      exact next s' σ' I' C' H' (e2.trans e3) s3 p po) hX)
theorem s_while (P : S → L2.St → Hp → Hp → Prop) {n : Nat} {c : S → Res Bool} {f : S → Res (Out S ρ)} {s0 : S} {k : Out S ρ → Res ω} (s : St I C H) (hm : Post ((whileF c f n s0).bind k) Q X)
    (h0 : P s0 σ I C)
    (cond : ∀ s' σ' I' C', Ex I I' → P s' σ' I' C' → EvT E K tt σ' I' C' (c s') ∧ XH X E K I' C') (hP : ∀ s' σ' I' I2 C', Ex I' I2 → P s' σ' I' C' → P s' σ' I2 C')
    (body : ∀ (N : L2.St → Hp → Prop) s' σ' I' C' H', Ex I I' → St I' C' H' → P s' σ' I' C' → Post (f s') (fun o => match o with
        | .nx s2 => ∀ σ2 I3 C3 H3, Ex I' I3 → St I3 C3 H3 → P s2 σ2 I3 C3 → N σ2 H3
        | .br s2 => ∀ σ2 I3 C3 H3, Ex I' I3 → St I3 C3 H3 → P s2 σ2 I3 C3 → tz D σ2 H3
        | .rt r => Post (k (.rt r)) Q X) X → tu { D with nx := N, ct := N, bk := tz D } σ' H')
    (next : ∀ s' σ' I' C' H', Ex I I' → St I' C' H' → P s' σ' I' C' → Post (k (.nx s')) Q X → tz D σ' H') : tSeq (tWhile tt tu) tz D σ H := by
  refine ⟨fun n σ' H' => ∃ s' I' C', Ex I I' ∧ St I' C' H' ∧ P s' σ' I' C' ∧ Post ((whileF c f n s').bind k) Q X, ⟨n, s0, I, C, Ex.refl _, s, h0, hm⟩, ?_⟩
  rintro n σ' H' ⟨s', I', C', e1, s1, p, po⟩
  cases n with
  | zero => exact po.elim
  | succ n =>
    obtain ⟨hc, hx⟩ := cond s' σ' I' C' e1 p
    refine hc I' C' H' (Ex.refl _) (Ex.refl _) s1 _ ((Post.bind (Post.bind po)).mono (fun b q I2 H2 e2 s2 => ?_) hx)
    cases b with
    | true =>
      refine ⟨fun σ2 H3 => ∃ s' I' C', Ex I I' ∧ St I' C' H3 ∧ P s' σ2 I' C' ∧ Post ((whileF c f n s').bind k) Q X, fun σ2 H3 z => ⟨n, Nat.lt_succ_self _, z⟩, ?_⟩
      refine body _ s' σ' I2 C' H2 (e1.trans e2) s2 (hP _ _ _ _ _ e2 p) ((Post.bind q).mono (fun o z => ?_) fun _ _ z => z)
      cases o with
      | nx s3 => exact fun σ2 I5 C5 H5 e5 s5 p5 => ⟨s3, I5, C5, e1.trans (e2.trans e5), s5, p5, Post.of_bind z⟩
      | br s3 => exact fun σ2 I5 C5 H5 e5 s5 p5 => next s3 σ2 I5 C5 H5 (e1.trans (e2.trans e5)) s5 p5 z
      | rt r => exact z
    | false => exact next s' σ' I2 C' H2 (e1.trans e2) s2 (hP _ _ _ _ _ e2 p) q
/-! ### cells -/
/-- xs = []  (xs will change) -/
theorem s_newL {i : Nat} (s : St I C H) (next : ∀ p H2, C p = none → H p = none → St I (upd C p (.lst [])) H2 → tz D (σ.set i (some (.ref p))) H2) : tSeq (tAsg (tLst tNil) (gName i)) tz D σ H :=
  ⟨Nat.zero_le _, fun p hp => next p _ (s.c.free hp) hp (s.newC hp)⟩
/-- xs = e, a new list of e's (xs will change) -/
theorem s_asgC {i : Nat} {k : List α → Res ω} {m : Res (List α)} {te : TE} (h : EvX E K te σ I C m (pL R)) (s : St I C H) (hX : XH X E K I C) (hm : Post (m.bind k) Q X)
    (fresh : True) (next : ∀ a v I2 H2, Ex I I2 → St I2 C H2 → (pL R).r a v I2 C → Post (k a) Q X → tz D (σ.set i (some v)) H2) : tSeq (tAsg te (gName i)) tz D σ H :=
  s_asg h s hX hm next
/-- xs.append(e) -/
@[irreducible] def push (xs : List α) (x : α) : Res (List α) := if xs.length < 1000000 then .ok (xs ++ [x]) else .bad
theorem push_ok {xs : List α} {x : α} (h : xs.length < 1000000) : push xs x = .ok (xs ++ [x]) := by
  unfold push
  exact if_pos h
theorem s_app {i : Nat} {p : Addr} {xs : List α} {vs : List V} {k : List α → Res ω} [Im R] {m : Res α} (hv : σ[i]? = some (some (.ref p))) (hc : C p = some (.lst vs)) (hr : A2 (fun x u => R.r x u I C) xs vs) (h : EvX E K te σ I C m R) (s : St I C H) (hX : XH X E K I C)
    (hm : Post ((m.bind fun x => push xs x).bind k) Q X)
    (next : ∀ ys vs' I2 H2, Ex I I2 → St I2 (upd C p (.lst vs')) H2 → vs'.length ≤ sizeLine → A2 (fun x u => R.r x u I2 (upd C p (.lst vs'))) ys vs' → Post (k ys) Q X → tz D σ H2) :
    tSeq (tDrop (tBM K "list" rAppend (tVar i) (tCons te tNil))) tz D σ H :=
  ⟨.ref p, hv, .inl ⟨rfl, vs, .inl (.inl (s.c p _ hc))⟩, h I C H (Ex.refl _) (Ex.refl _) s _ ((Post.bind (Post.bind hm)).mono (fun a po v I2 H2 e2 s2 rv => by
    unfold push at po
    split at po
    · rename_i hl
      have hn := hr.len
      have hl2 : vs.length < sizeLine := by
        rw [hn]
        exact Nat.lt_of_lt_of_le hl (by decide)
      refine ⟨p, vs, v, rfl, rfl, s2.c p _ hc, hl2, next (xs ++ [a]) (vs ++ [v]) I2 _ e2 (s2.set hc) (by rw [List.length_append]; exact hl2) ?_ po⟩
      exact (hr.imp fun _ _ h => R.to e2 h).append (.one (Im.im rv))
    · exact po.elim) hX)⟩
/-- xs[e1] = e2 -/
def setR (xs : List α) (i : Int) (x : α) : Res (List α) := match ixN xs.length i with
  | some j => .ok (xs.set j x)
  | none => .bad
theorem s_setL {i : Nat} {p : Addr} {xs : List α} {vs : List V} {k : List α → Res ω} [Im R] {ti : TE} {m : Res α} {mi : Res Int} (hv : σ[i]? = some (some (.ref p))) (hc : C p = some (.lst vs)) (hl : vs.length ≤ sizeLine) (hr : A2 (fun x u => R.r x u I C) xs vs)
    (h : EvX E K te σ I C m R) (hi : EvX E K ti σ I C mi pI) (s : St I C H) (hX : XH X E K I C) (hm : Post ((m.bind fun x => mi.bind fun j => setR xs j x).bind k) Q X)
    (next : ∀ ys vs' I2 H2, Ex I I2 → St I2 (upd C p (.lst vs')) H2 → vs'.length ≤ sizeLine → A2 (fun x u => R.r x u I2 (upd C p (.lst vs'))) ys vs' → Post (k ys) Q X → tz D σ H2) :
    tSeq (tAsg te (gSub (tVar i) ti rSetL)) tz D σ H :=
  h I C H (Ex.refl _) (Ex.refl _) s _ ((Post.bind (Post.bind hm)).mono (fun a po v I2 H2 e2 s2 rv => by
    refine ⟨.ref p, hv, hi I2 C H2 e2 (Ex.refl _) s2 _ ((Post.bind po).mono (fun j po2 w I3 H3 e3 s3 rw => ?_) fun c i z => (hX c i z).mono e2 (Ex.refl _))⟩
    have hw : w = .int j := rw
    subst hw
    unfold setR at po2
    have hn := hr.len
    cases hj : ixN xs.length j with
    | none =>
      rw [hj] at po2
      exact po2.elim
    | some l =>
      rw [hj] at po2
      refine ⟨p, vs, j, l, rfl, rfl, s3.c p _ hc, by rw [hn]; exact hj, next (xs.set l a) (vs.set l v) I3 _ (e2.trans e3) (s3.set hc) (by rw [List.length_set]; exact hl) ?_ po2⟩
      exact A2.set (Im.im (R.mono e3 (Ex.refl _) rv)) l (hr.imp fun _ _ h => R.to (e2.trans e3) h)) hX)
end
end Sd

namespace Sd
open PySem L2
/-! ### what draws from the pool (the list at p, its places M) -/
def off (C : Hp) (p : Addr) : Hp := fun a => if a = p then none else C a
theorem off_same {C : Hp} {p : Addr} : off C p p = none := if_pos rfl
theorem off_ne {C : Hp} {p q : Addr} (h : q ≠ p) : off C p q = C q := if_neg h
theorem off_ex {C : Hp} {p : Addr} : Ex (off C p) C := fun a o h => by
  unfold off at h
  split at h
  · cases h
  · exact h
theorem off_upd {C : Hp} {p : Addr} {o : HO} : Ex (off C p) (upd C p o) := fun a u h => by
  unfold off at h
  split at h
  · cases h
  · rename_i hne
    rw [upd_ne hne]
    exact h
theorem Ex.over {C C1 : Hp} {p : Addr} {o : HO} (h : Ex C C1) (hp : C p = none) : Ex C (upd C1 p o) := fun a u e => by
  rw [upd_ne (ne_of_none e hp)]
  exact h a u e
theorem upd_id {C : Hp} {p : Addr} {o : HO} (h : C p = some o) : upd C p o = C := by
  funext a
  by_cases q : a = p
  · rw [q, upd_same, h]
  · exact upd_ne q
def EvM (E : XK) (K : PySem.W.Frag) (p : Addr) {μ : Type} (M : Rt μ) (te : TE) (σ : L2.St) (I Cp : Hp) {β : Type} (m : μ → Res (β × μ)) (R : Rp β) : Prop :=
  ∀ x ws I1 C1 H1, Ex I I1 → Ex Cp C1 → St I1 C1 H1 → C1 p = some (.lst ws) → M.r x ws I1 C1 → ∀ Q : VK, Post (m x) (fun b => ∀ v ws' I2 H2, Ex I1 I2 → St I2 (upd C1 p (.lst ws')) H2 → M.r b.2 ws' I2 (upd C1 p (.lst ws')) → R.r b.1 v I2 (upd C1 p (.lst ws')) → Q v H2) (fun _ _ => False) → te σ H1 Q
def EvTM (E : XK) (K : PySem.W.Frag) (p : Addr) {μ : Type} (M : Rt μ) (tt : TT) (σ : L2.St) (I Cp : Hp) (m : μ → Res (Bool × μ)) : Prop :=
  ∀ x ws I1 C1 H1, Ex I I1 → Ex Cp C1 → St I1 C1 H1 → C1 p = some (.lst ws) → M.r x ws I1 C1 → ∀ Q : Bool → Hp → Prop, Post (m x) (fun b => ∀ ws' I2 H2, Ex I1 I2 → St I2 (upd C1 p (.lst ws')) H2 → M.r b.2 ws' I2 (upd C1 p (.lst ws')) → Q b.1 H2) (fun _ _ => False) → tt σ H1 Q
def EvAM (E : XK) (K : PySem.W.Frag) (p : Addr) {μ : Type} (M : Rt μ) (ta : TA) (σ : L2.St) (I Cp : Hp) {α : Type} (m : μ → Res (α × μ)) (T : Rt α) : Prop :=
  ∀ x ws I1 C1 H1, Ex I I1 → Ex Cp C1 → St I1 C1 H1 → C1 p = some (.lst ws) → M.r x ws I1 C1 → ∀ Q : List V → Hp → Prop, Post (m x) (fun b => ∀ vs ws' I2 H2, Ex I1 I2 → St I2 (upd C1 p (.lst ws')) H2 → M.r b.2 ws' I2 (upd C1 p (.lst ws')) → T.r b.1 vs I2 (upd C1 p (.lst ws')) → Q vs H2) (fun _ _ => False) → ta σ H1 Q
def EvIM (E : XK) (K : PySem.W.Frag) (p : Addr) {μ : Type} (M : Rt μ) (wi : TI) (σ : L2.St) (I Cp : Hp) {α : Type} (m : μ → Res (List α × μ)) (R : Rp α) : Prop :=
  ∀ x ws I1 C1 H1, Ex I I1 → Ex Cp C1 → St I1 C1 H1 → C1 p = some (.lst ws) → M.r x ws I1 C1 → ∀ Kt : L2.It → Hp → Prop, Post (m x) (fun b => ∀ ws' J G Y I2 H2, Ex I1 I2 → St I2 (upd C1 p (.lst ws')) H2 → M.r b.2 ws' I2 (upd C1 p (.lst ws')) → b.1.length ≤ sizeLine → Walk J b.1.length G Y →
    (∀ I3 C3 H3, Ex I2 I3 → St I3 C3 H3 → G H3) →
    (∀ i x v I3 C3 H3 H4, b.1[i]? = some x → Ex I2 I3 → St I3 C3 H3 → Y i H3 v H4 → ∃ I4, Ex I3 I4 ∧ St I4 C3 H4 ∧ R.r x v I4 C3) → Kt J H2) (fun _ _ => False) → wi σ H1 Kt
section
variable {μ α β γ : Type}
def liftM (m : Res α) : μ → Res (α × μ) := fun x => m.bind fun a => .ok (a, x)
def unM (f : α → Res γ) (m : μ → Res (α × μ)) : μ → Res (γ × μ) := fun x => (m x).bind fun b => (f b.1).bind fun c => .ok (c, b.2)
def binM (f : α → β → Res γ) (m : μ → Res (α × μ)) (n : μ → Res (β × μ)) : μ → Res (γ × μ) := fun x => (m x).bind fun b => (n b.2).bind fun d => (f b.1 d.1).bind fun c => .ok (c, d.2)
def pairM (m : μ → Res (α × μ)) (n : μ → Res (β × μ)) : μ → Res ((α × β) × μ) := fun x => (m x).bind fun b => (n b.2).bind fun d => .ok ((b.1, d.1), d.2)
def consM (m : μ → Res (α × μ)) (n : μ → Res (List α × μ)) : μ → Res (List α × μ) := fun x => (m x).bind fun b => (n b.2).bind fun d => .ok (b.1 :: d.1, d.2)
def callM (f : α → μ → Res (β × μ)) (m : μ → Res (α × μ)) : μ → Res (β × μ) := fun x => (m x).bind fun b => f b.1 b.2
def andM (m n : μ → Res (Bool × μ)) : μ → Res (Bool × μ) := fun x => (m x).bind fun b => if b.1 = true then n b.2 else .ok (false, b.2)
def orM (m n : μ → Res (Bool × μ)) : μ → Res (Bool × μ) := fun x => (m x).bind fun b => if b.1 = true then .ok (true, b.2) else n b.2
def ifM (c : μ → Res (Bool × μ)) (m n : μ → Res (α × μ)) : μ → Res (α × μ) := fun x => (c x).bind fun b => if b.1 = true then m b.2 else n b.2
@[simp] theorem liftM_ok (a : α) (x : μ) : liftM (.ok a) x = .ok (a, x) := rfl
theorem liftM_eq (m : Res α) (x : μ) : liftM m x = m.bind fun a => .ok (a, x) := rfl
end
section
variable {E : XK} {K : PySem.W.Frag} {p : Addr} {μ : Type} {M : Rt μ} {σ : L2.St} {I Cp : Hp} {α β γ : Type} {R : Rp α} {S : Rp β} {T : Rp γ} {te ta tb : TE} {tt tu : TT} {m : μ → Res (α × μ)} {n : μ → Res (β × μ)}
theorem m_pure {m : Res α} (h : EvX E K te σ I Cp m R) : EvM E K p M te σ I Cp (liftM m) R := fun x ws I1 C1 H1 e e' s hc hx Q q =>
  h I1 C1 H1 e e' s Q ((Post.bind q).mono (fun a z v I2 H2 e2 s2 rv => by
    have z2 := z v ws I2 H2 e2
    rw [upd_id hc] at z2
    exact z2 s2 (M.mono e2 (Ex.refl _) hx) rv) fun _ _ z => z.elim)
theorem m_un [It M] {r : V → Hp → VK → Prop} {f : α → Res γ} (hr : ∀ E, Op1 E K r f R T) (hp : Cp p = none) (h : EvM E K p M ta σ I Cp m R) : EvM E K p M (tUn r ta) σ I Cp (unM f m) T := fun x ws I1 C1 H1 e e' s hc hx Q q =>
  h x ws I1 C1 H1 e e' s hc hx _ ((Post.bind q).mono (fun b z v ws' I2 H2 e2 s2 hx2 rv => hr E I2 _ H2 b.1 v s2 rv Q ((Post.bind z).mono (fun c z w I3 H3 e3 s3 rw => z w ws' I3 H3 (e2.trans e3) s3 (M.mono e3 (Ex.refl _) hx2) rw) fun _ _ z => z.elim)) fun _ _ z => z)
theorem m_op [It M] [Im R] {r : R2} {f : α → β → Res γ} (hr : ∀ E, Op2 E K r f R S T) (hp : Cp p = none) (h1 : EvM E K p M ta σ I Cp m R) (h2 : EvM E K p M tb σ I Cp n S) : EvM E K p M (tOp r ta tb) σ I Cp (binM f m n) T := fun x ws I1 C1 H1 e e' s hc hx Q q =>
  h1 x ws I1 C1 H1 e e' s hc hx _ ((Post.bind q).mono (fun b z v ws' I2 H2 e2 s2 hx2 rv =>
    h2 b.2 ws' I2 _ H2 (e.trans e2) (e'.over hp) s2 upd_same hx2 _ ((Post.bind z).mono (fun d z2 w ws2 I3 H3 e3 s3 hx3 rw => by
      rw [upd_upd] at s3 hx3 rw
      exact hr E I3 _ H3 b.1 d.1 v w s3 (R.to e3 rv) rw Q ((Post.bind z2).mono (fun c z3 w I4 H4 e4 s4 rw => z3 w ws2 I4 H4 (e2.trans (e3.trans e4)) s4 (M.mono e4 (Ex.refl _) hx3) rw) fun _ _ z => z.elim)) fun _ _ z => z)) fun _ _ z => z)
theorem m_k [It M] {r : R2} {f : α → Res γ} {k : Int} (hr : ∀ E, Op1 E K (fun x H Q => r x (.int k) H Q) f R T) (hp : Cp p = none) (h : EvM E K p M te σ I Cp m R) : EvM E K p M (tOp r te (tC (.int k))) σ I Cp (unM f m) T :=
  fun x ws I1 C1 H1 e e' s hc hx Q q => m_un (r := fun x H Q => r x (.int k) H Q) hr hp h x ws I1 C1 H1 e e' s hc hx Q q
theorem am_one (h : EvM E K p M te σ I Cp m R) : EvAM E K p M (tCons te tNil) σ I Cp m (t1 R) := fun x ws I1 C1 H1 e e' s hc hx Q q =>
  h x ws I1 C1 H1 e e' s hc hx _ (q.mono (fun b z v ws' I2 H2 e2 s2 hx2 rv => z [v] ws' I2 H2 e2 s2 hx2 ⟨v, rfl, rv⟩) fun _ _ z => z)
theorem am_cons [Im R] {tr : TA} {A : Rt β} (hp : Cp p = none) (h1 : EvM E K p M te σ I Cp m R) (h2 : EvAM E K p M tr σ I Cp n A) : EvAM E K p M (tCons te tr) σ I Cp (pairM m n) (tc R A) := fun x ws I1 C1 H1 e e' s hc hx Q q =>
  h1 x ws I1 C1 H1 e e' s hc hx _ ((Post.bind q).mono (fun b z v ws' I2 H2 e2 s2 hx2 rv =>
    h2 b.2 ws' I2 _ H2 (e.trans e2) (e'.over hp) s2 upd_same hx2 _ ((Post.bind z).mono (fun d z2 vs ws2 I3 H3 e3 s3 hx3 rw => by
      rw [upd_upd] at s3 hx3 rw
      exact z2 (v :: vs) ws2 I3 H3 (e2.trans e3) s3 hx3 ⟨v, vs, rfl, R.to e3 rv, rw⟩) fun _ _ z => z)) fun _ _ z => z)
/-- a name's value, whatever the draws change -/
theorem am_var {tr : TA} {A : Rt β} {i : Nat} {v : V} {a : α} (hv : σ[i]? = some (some v)) (r : R.r a v I Cp) (hp : Cp p = none) (h2 : EvAM E K p M tr σ I Cp n A) : EvAM E K p M (tCons (tVar i) tr) σ I Cp (pairM (liftM (.ok a)) n) (tc R A) := fun x ws I1 C1 H1 e e' s hc hx Q q =>
  ⟨v, hv, h2 x ws I1 C1 H1 e e' s hc hx _ ((Post.bind (m := n x) (k := fun d => .ok ((a, d.1), d.2)) q).mono (fun d z2 vs ws2 I3 H3 e3 s3 hx3 rw => z2 (v :: vs) ws2 I3 H3 e3 s3 hx3 ⟨v, vs, rfl, R.mono (e.trans e3) (e'.over hp) r, rw⟩) fun _ _ z => z)⟩
theorem am_var1 {i : Nat} {v : V} {a : α} (hv : σ[i]? = some (some v)) (r : R.r a v I Cp) : EvAM E K p M (tCons (tVar i) tNil) σ I Cp (liftM (.ok a) : μ → Res (α × μ)) (t1 R) := am_one (m_pure (x_var hv r))
theorem am_pure {tr : TA} {A : Rt α} {m : Res α} (h : EvA E K tr σ I Cp m A) : EvAM E K p M tr σ I Cp (liftM m) A := fun x ws I1 C1 H1 e e' s hc hx Q q =>
  h I1 C1 H1 e e' s Q ((Post.bind q).mono (fun a z v I2 H2 e2 s2 rv => by
    have z2 := z v ws I2 H2 e2
    rw [upd_id hc] at z2
    exact z2 s2 (M.mono e2 (Ex.refl _) hx) rv) fun _ _ z => z.elim)
theorem alm_nil : EvAM E K p M tNil σ I Cp (liftM (.ok ([] : List α)) : μ → Res (List α × μ)) (tL R 0) := am_pure al_nil
theorem alm_cons [Im R] {tr : TA} {k : Nat} {n : μ → Res (List α × μ)} (hp : Cp p = none) (h1 : EvM E K p M te σ I Cp m R) (h2 : EvAM E K p M tr σ I Cp n (tL R k)) : EvAM E K p M (tCons te tr) σ I Cp (consM m n) (tL R (k + 1)) := fun x ws I1 C1 H1 e e' s hc hx Q q =>
  h1 x ws I1 C1 H1 e e' s hc hx _ ((Post.bind q).mono (fun b z v ws' I2 H2 e2 s2 hx2 rv =>
    h2 b.2 ws' I2 _ H2 (e.trans e2) (e'.over hp) s2 upd_same hx2 _ ((Post.bind z).mono (fun d z2 vs ws2 I3 H3 e3 s3 hx3 rw => by
      rw [upd_upd] at s3 hx3 rw
      exact z2 (v :: vs) ws2 I3 H3 (e2.trans e3) s3 hx3 ⟨by rw [List.length_cons, rw.1], .cons (R.to e3 rv) rw.2⟩) fun _ _ z => z)) fun _ _ z => z)
theorem m_lst [It M] {tr : TA} {k : Nat} {m : μ → Res (List α × μ)} (h : EvAM E K p M tr σ I Cp m (tL R k)) (hn : k ≤ 100) : EvM E K p M (tLst tr) σ I Cp m (pL R) := fun x ws I1 C1 H1 e e' s hc hx Q q =>
  h x ws I1 C1 H1 e e' s hc hx _ (q.mono (fun b z vs ws' I2 H2 e2 s2 hx2 rv => by
    have hl : vs.length ≤ sizeLine := by
      rw [rv.1]
      exact Nat.le_trans hn (by decide)
    refine ⟨hl, fun t ht => z (.ref t) ws' (upd I2 t (.lst vs)) _ (e2.trans (Ex.new (s2.i.free ht))) (s2.newI ht) (M.mono (Ex.new (s2.i.free ht)) (Ex.refl _) hx2) ⟨t, vs, rfl, upd_same, hl, rv.2.imp fun _ _ => R.mono (Ex.new (s2.i.free ht)) (Ex.refl _)⟩⟩) fun _ _ z => z)
theorem m_tup [It M] {tr : TA} {A : Rt α} (h : EvAM E K p M tr σ I Cp m A) (hn : A.n ≤ 100) : EvM E K p M (tTup tr) σ I Cp m (pT A) := fun x ws I1 C1 H1 e e' s hc hx Q q =>
  h x ws I1 C1 H1 e e' s hc hx _ (q.mono (fun b z vs ws' I2 H2 e2 s2 hx2 rv => ⟨by rw [A.len rv]; exact Nat.le_trans hn (by decide), fun t ht => z (.ref t) ws' (upd I2 t (.tup vs)) _ (e2.trans (Ex.new (s2.i.free ht))) (s2.newI ht) (M.mono (Ex.new (s2.i.free ht)) (Ex.refl _) hx2) ⟨t, vs, rfl, upd_same, A.mono (Ex.new (s2.i.free ht)) (Ex.refl _) rv⟩⟩) fun _ _ z => z)
theorem m_lstD [It M] {tr : TA} {A : Rt α} (h : EvAM E K p M tr σ I Cp m A) (hn : A.n ≤ 100) : EvM E K p M (tLst tr) σ I Cp m (pD A) := fun x ws I1 C1 H1 e e' s hc hx Q q =>
  h x ws I1 C1 H1 e e' s hc hx _ (q.mono (fun b z vs ws' I2 H2 e2 s2 hx2 rv => ⟨by rw [A.len rv]; exact Nat.le_trans hn (by decide), fun t ht => z (.ref t) ws' (upd I2 t (.lst vs)) _ (e2.trans (Ex.new (s2.i.free ht))) (s2.newI ht) (M.mono (Ex.new (s2.i.free ht)) (Ex.refl _) hx2) ⟨t, vs, rfl, upd_same, A.mono (Ex.new (s2.i.free ht)) (Ex.refl _) rv⟩⟩) fun _ _ z => z)
theorem m_cb [It M] {r : List V → Hp → VK → Prop} {f : α → Res γ} {A : Rt α} {tr : TA} (hr : ∀ E, OpL E K r f A T) (h : EvAM E K p M tr σ I Cp m A) : EvM E K p M (tCB r tr) σ I Cp (unM f m) T := fun x ws I1 C1 H1 e e' s hc hx Q q =>
  h x ws I1 C1 H1 e e' s hc hx _ ((Post.bind q).mono (fun b z vs ws' I2 H2 e2 s2 hx2 rv => hr E I2 _ H2 b.1 vs s2 rv Q ((Post.bind z).mono (fun c z w I3 H3 e3 s3 rw => z w ws' I3 H3 (e2.trans e3) s3 (M.mono e3 (Ex.refl _) hx2) rw) fun _ _ z => z.elim)) fun _ _ z => z)
/-- f(a ..), f a def that draws nothing -/
theorem m_callP [It M] {A : Rt α} {f : α → Res γ} {tr : TA} (h : EvAM E K p M tr σ I Cp m A) : EvM E K p M (tCall (spP K A f T) [] E tr) σ I Cp (unM f m) T := fun x ws I1 C1 H1 e e' s hc hx Q q =>
  h x ws I1 C1 H1 e e' s hc hx _ ((Post.bind q).mono (fun b z vs ws' I2 H2 e2 s2 hx2 rv => by
    refine ⟨I2, _, b.1, s2, by rw [List.append_nil]; exact rv, (Post.bind z).mono (fun c z w I3 H3 e3 s3 rw => z w ws' I3 H3 (e2.trans e3) s3 (M.mono e3 (Ex.refl _) hx2) rw) fun _ _ z => z.elim⟩) fun _ _ z => z)
/-- f(pool, a ..) -/
theorem m_callM {A : Rt α} {f : α → μ → Res (β × μ)} {tr : TA} {i : Nat} (hv : σ[i]? = some (some (.ref p))) (h : EvAM E K p M tr σ I Cp m A) : EvM E K p M (tCall (spM M A f S) [] E (tCons (tVar i) tr)) σ I Cp (callM f m) S := fun x ws I1 C1 H1 e e' s hc hx Q q =>
  ⟨.ref p, hv, h x ws I1 C1 H1 e e' s hc hx _ ((Post.bind q).mono (fun b z vs ws' I2 H2 e2 s2 hx2 rv => by
    refine ⟨I2, _, p, ws', vs, b.2, b.1, by rw [List.append_nil], s2, upd_same, hx2, rv, Post.mono (m := f b.1 b.2) z (fun c z w ws2 I3 H3 e3 s3 hx3 rw => ?_) fun _ _ z => z⟩
    rw [upd_upd] at s3 hx3 rw
    exact z w ws2 I3 H3 (e2.trans e3) s3 hx3 rw) fun _ _ z => z)⟩
theorem m_callM0 {f : Unit → μ → Res (β × μ)} {i : Nat} (hv : σ[i]? = some (some (.ref p))) : EvM E K p M (tCall (spM M (⟨fun _ vs _ _ => vs = [], fun _ _ h => h, 0, fun h => by rw [h]; rfl⟩ : Rt Unit) f S) [] E (tCons (tVar i) tNil)) σ I Cp (fun x => f () x) S := fun x ws I1 C1 H1 e e' s hc hx Q q =>
  ⟨.ref p, hv, I1, C1, p, ws, [], x, (), rfl, s, hc, hx, rfl, q⟩
theorem tm_pure {m : Res Bool} (h : EvT E K tt σ I Cp m) : EvTM E K p M tt σ I Cp (liftM m) := fun x ws I1 C1 H1 e e' s hc hx Q q =>
  h I1 C1 H1 e e' s Q ((Post.bind q).mono (fun a z I2 H2 e2 s2 => by
    have z2 := z ws I2 H2 e2
    rw [upd_id hc] at z2
    exact z2 s2 (M.mono e2 (Ex.refl _) hx)) fun _ _ z => z.elim)
theorem tm_test {m : μ → Res (Bool × μ)} (h : EvM E K p M te σ I Cp m pB) : EvTM E K p M (tTest te) σ I Cp m := fun x ws I1 C1 H1 e e' s hc hx Q q => h x ws I1 C1 H1 e e' s hc hx _ (q.mono (fun b z v ws' I2 H2 e2 s2 hx2 rv => ⟨b.1, rv, z ws' I2 H2 e2 s2 hx2⟩) fun _ _ z => z)
theorem tm_B {m : μ → Res (Bool × μ)} (h : EvM E K p M te σ I Cp m pB) : EvTM E K p M (tB te) σ I Cp m := fun x ws I1 C1 H1 e e' s hc hx Q q => h x ws I1 C1 H1 e e' s hc hx _ (q.mono (fun b z v ws' I2 H2 e2 s2 hx2 rv => ⟨b.1, rv, z ws' I2 H2 e2 s2 hx2⟩) fun _ _ z => z)
theorem tm_and {m n : μ → Res (Bool × μ)} (hp : Cp p = none) (h1 : EvTM E K p M tt σ I Cp m) (h2 : EvTM E K p M tu σ I Cp n) : EvTM E K p M (tAnd tt tu) σ I Cp (andM m n) := fun x ws I1 C1 H1 e e' s hc hx Q q =>
  h1 x ws I1 C1 H1 e e' s hc hx _ ((Post.bind q).mono (fun b z ws' I2 H2 e2 s2 hx2 => by
    obtain ⟨c, y⟩ := b
    cases c with
    | true => exact h2 y ws' I2 _ H2 (e.trans e2) (e'.over hp) s2 upd_same hx2 Q (Post.mono (m := n y) z (fun b z ws2 I3 H3 e3 s3 hx3 => by
        rw [upd_upd] at s3 hx3
        exact z ws2 I3 H3 (e2.trans e3) s3 hx3) fun _ _ z => z)
    | false => exact z ws' I2 H2 e2 s2 hx2) fun _ _ z => z)
theorem tm_or {m n : μ → Res (Bool × μ)} (hp : Cp p = none) (h1 : EvTM E K p M tt σ I Cp m) (h2 : EvTM E K p M tu σ I Cp n) : EvTM E K p M (tOr tt tu) σ I Cp (orM m n) := fun x ws I1 C1 H1 e e' s hc hx Q q =>
  h1 x ws I1 C1 H1 e e' s hc hx _ ((Post.bind q).mono (fun b z ws' I2 H2 e2 s2 hx2 => by
    obtain ⟨c, y⟩ := b
    cases c with
    | false => exact h2 y ws' I2 _ H2 (e.trans e2) (e'.over hp) s2 upd_same hx2 Q (Post.mono (m := n y) z (fun b z ws2 I3 H3 e3 s3 hx3 => by
        rw [upd_upd] at s3 hx3
        exact z ws2 I3 H3 (e2.trans e3) s3 hx3) fun _ _ z => z)
    | true => exact z ws' I2 H2 e2 s2 hx2) fun _ _ z => z)
theorem tm_not {m : μ → Res (Bool × μ)} (h : EvTM E K p M tt σ I Cp m) : EvTM E K p M (tNot tt) σ I Cp (unM notR m) := fun x ws I1 C1 H1 e e' s hc hx Q q =>
  h x ws I1 C1 H1 e e' s hc hx _ ((Post.bind q).mono (fun b z ws' I2 H2 e2 s2 hx2 => z ws' I2 H2 e2 s2 hx2) fun _ _ z => z)
/-! sources -/
theorem im_pure {wi : TI} {m : Res (List α)} (h : EvI E K wi σ I Cp kpT m R) : EvIM E K p M wi σ I Cp (liftM m) R := fun x ws I1 C1 H1 e e' s hc hx Q q =>
  h I1 C1 H1 e e' s Q ((Post.bind q).mono (fun a z J G Y I2 H2 e2 s2 hz w hG hY => by
    have z2 := z ws J G Y I2 H2 e2
    rw [upd_id hc] at z2
    exact z2 s2 (M.mono e2 (Ex.refl _) hx) hz w (fun I3 C3 H3 e3 s3 => hG I3 C3 H3 e3 trivial s3) (fun i x v I3 C3 H3 H4 hx e3 s3 y => hY i x v I3 C3 H3 H4 hx e3 trivial s3 y)) fun _ _ z => z.elim)
theorem im_rng1 [It M] {tr : TA} {m : μ → Res (Int × μ)} (h : EvAM E K p M tr σ I Cp m (t1 pI)) : EvIM E K p M (iRng1 tr) σ I Cp (unM rng1 m) pI := fun x ws I1 C1 H1 e e' s hc hx Q q =>
  h x ws I1 C1 H1 e e' s hc hx _ ((Post.bind q).mono (fun b z vs ws' I2 H2 e2 s2 hx2 ⟨v, hv, rv⟩ => by
    have z := Post.bind z
    unfold rng1 at z
    split at z
    · rename_i hn
      have hv1 : v = .int b.1 := rv
      subst hv hv1
      refine ⟨b.1, rfl, by omega, by omega, z ws' (Itr 0 b.1.toNat) (fun _ => True) (YFn fun i => .int (0 + i)) I2 H2 e2 s2 hx2 (by rw [rangeL_length]; exact Nat.le_trans (show (b.1 - 0).toNat ≤ 1000000 by omega) (by decide)) (by rw [rangeL_length, Int.sub_zero]; exact walk_range) (fun _ _ _ _ _ => trivial) (fun i x v' I3 C3 H3 H4 hx e3 s3 y => ?_)⟩
      obtain ⟨rfl, rfl⟩ := y
      rw [rangeL_get hx]
      exact ⟨I3, Ex.refl _, s3, rfl⟩
    · exact z.elim) fun _ _ z => z)
/-! ### comprehensions that draw -/
def mapM (f : α → μ → Res (β × μ)) : List α → μ → Res (List β × μ)
  | [], x => .ok ([], x)
  | a :: as, x => (f a x).bind fun b => (mapM f as b.2).bind fun c => .ok (b.1 :: c.1, c.2)
def LcM (p : Addr) (M : Rt μ) (S : Rp β) (I C : Hp) (D : Addr) (rest : μ → Res (List β × μ)) (W : List β × μ → Prop) (n : Nat) (H : Hp) : Prop :=
  ∃ (ys : List β) (vs ws : List V) (x : μ) (I' : Hp), Ex I I' ∧ St I' (upd (upd C p (.lst ws)) D (.lst vs)) H ∧ M.r x ws I' C ∧ vs.length ≤ n ∧ A2 (fun x u => S.r x u I' C) ys vs ∧ Post (rest x) (fun zs => W (ys ++ zs.1, zs.2)) (fun _ _ => False)
theorem m_lc [It M] [Im S] {wi : TI} {g : TG} {vs : List Nat} {m : μ → Res (List α × μ)} {f : α → μ → Res (β × μ)} {P : α → L2.St → Hp → Hp → Prop} (hp : Cp p = none) (hi : EvIM E K p M wi σ I Cp m R) (hg : Tg K g R (wipe σ vs) P)
    (hw : ∀ x σ2 I' C', P x σ2 I' C' → wipe σ2 vs = wipe σ vs)
    (hf : ∀ x σ2 I' C', Ex I I' → Ex Cp C' → P x σ2 I' C' → EvM EZ K p M te σ2 I' (off C' p) (f x) S) : EvM E K p M (tLc wi g tYes te vs) σ I Cp (fun x => (m x).bind fun b => mapM f b.1 b.2) (pL S) := fun x ws I1 C1 H1 e e' s hc hx Q q =>
  hi x ws I1 C1 H1 e e' s hc hx _ ((Post.bind q).mono (fun b q2 ws2 J G Y I2 H2 e2 s2 hx2 hz w hG hY D hD => by
    have cD2 : upd C1 p (.lst ws2) D = none := s2.c.free hD
    have hDp : D ≠ p := fun z => by
      rw [z, upd_same] at cD2
      cases cD2
    have cD : C1 D = none := by
      rw [upd_ne hDp] at cD2
      exact cD2
    refine lc_it w (fun i H => LcM p M S I2 C1 D (mapM f (b.1.drop i)) (fun c => ∀ v ws' I2 H2, Ex I1 I2 → St I2 (upd C1 p (.lst ws')) H2 → M.r c.2 ws' I2 (upd C1 p (.lst ws')) → (pL S).r c.1 v I2 (upd C1 p (.lst ws')) → Q v H2) i H) ⟨[], [], ws2, b.2, I2, Ex.refl _, s2.newC hD, It.im hx2, Nat.le_refl _, .nil, ?_⟩
      (fun i H hi ⟨_, _, _, _, I', e3, s3, _⟩ => hG I' _ H e3 s3) (fun i v H H' hi ⟨ys, us, ws3, x3, I', e3, s3, hx3, hn, r3, po⟩ y => ?_) (fun H ⟨ys, us, ws3, x3, I', e3, s3, hx3, hn, r3, po⟩ => ?_)
    · rw [List.drop_zero]
      exact q2
    · obtain ⟨a, ha⟩ : ∃ a, b.1[i]? = some a := ⟨b.1[i], by simp [hi]⟩
      rw [drop_cons ha] at po
      obtain ⟨I4, e4, s4, ra⟩ := hY i a v I' _ H H' ha e3 s3 y
      refine hg a v I4 _ H' _ s4 ra fun σ2 pa => ⟨hw _ _ _ _ pa, ?_⟩
      have eI : Ex I I4 := e.trans (e2.trans (e3.trans e4))
      have eC : Ex Cp (upd (upd C1 p (.lst ws3)) D (.lst us)) := (e'.over hp).trans (Ex.new (by rw [upd_ne hDp]; exact cD))
      have hcp : upd (upd C1 p (.lst ws3)) D (.lst us) p = some (.lst ws3) := by rw [upd_ne hDp.symm, upd_same]
      show te σ2 H' _
      refine hf a σ2 I4 _ eI eC pa x3 ws3 I4 _ H' (Ex.refl _) off_ex s4 hcp (It.im (M.mono e4 (Ex.refl _) hx3)) _ ((Post.bind po).mono (fun c po2 v2 ws4 I6 H6 e6 s6 hx6 rv => ?_) fun _ _ z => z)
      have hswap : upd (upd (upd C1 p (.lst ws3)) D (.lst us)) p (.lst ws4) = upd (upd C1 p (.lst ws4)) D (.lst us) := by
        funext a
        by_cases h1 : a = p
        · rw [h1, upd_same, upd_ne hDp.symm, upd_same]
        · rw [upd_ne h1]
          by_cases h2 : a = D
          · rw [h2, upd_same, upd_same]
          · rw [upd_ne h2, upd_ne h2, upd_ne h1, upd_ne h1]
      rw [hswap] at s6 hx6 rv
      have hsz : us.length < sizeLine := Nat.lt_of_le_of_lt hn (Nat.lt_of_lt_of_le hi hz)
      refine ⟨us, s6.c D _ upd_same, hsz, ⟨ys ++ [c.1], us ++ [v2], ws4, c.2, I6, e3.trans (e4.trans e6), ?_, It.im hx6, by rw [List.length_append]; exact Nat.succ_le_succ hn, ?_, ?_⟩⟩
      · have z := s6.set (o := .lst (us ++ [v2])) (p := D) upd_same
        rw [upd_upd] at z
        exact z
      · exact (r3.imp fun _ _ => S.mono (e4.trans e6) (Ex.refl _)).append (.one (Im.im rv))
      · refine (Post.bind po2).mono (fun zs z => ?_) fun _ _ z => z
        show ∀ v ws' I2 H2, Ex I1 I2 → St I2 (upd C1 p (.lst ws')) H2 → M.r zs.2 ws' I2 (upd C1 p (.lst ws')) → (pL S).r (ys ++ [c.1] ++ zs.1) v I2 (upd C1 p (.lst ws')) → Q v H2
        rw [List.append_assoc]
        exact z
    · rw [List.drop_length] at po
      have po2 : ∀ v ws' I2 H2, Ex I1 I2 → St I2 (upd C1 p (.lst ws')) H2 → M.r x3 ws' I2 (upd C1 p (.lst ws')) → (pL S).r (ys ++ []) v I2 (upd C1 p (.lst ws')) → Q v H2 := po
      rw [List.append_nil] at po2
      have sf := s3.frz (p := D) upd_same
      have iD : I' D = none := s3.freeI upd_same
      refine po2 (.ref D) ws3 (upd I' D (.lst us)) H (e2.trans (e3.trans (Ex.new iD))) (sf.less fun a o ha => ?_) (It.im (M.mono (Ex.new iD) (Ex.refl _) hx3)) ⟨D, us, rfl, upd_same, Nat.le_trans hn hz, r3.imp fun _ _ h => Im.im (S.mono (Ex.new iD) (Ex.refl _) h)⟩
      have hne : a ≠ D := fun z => by
        rw [z, upd_ne hDp, cD] at ha
        cases ha
      show (if a = D then none else upd (upd C1 p (.lst ws3)) D (.lst us) a) = some o
      rw [if_neg hne, upd_ne hne]
      exact ha) fun _ _ z => z)
end
section
variable {E : XK} {K : PySem.W.Frag} {p : Addr} {μ : Type} {M : Rt μ} {σ : L2.St} {I C H : Hp} {α β ω S ρ : Type} {R : Rp α} {te : TE} {tt : TT} {tz tu tw : TS} {D : Ends} {m : μ → Res (α × μ)} {Q : ω → Prop} {x : μ} {ws : List V}
abbrev XF : Ec → Int → Prop := fun _ _ => False
theorem sm_asg {i : Nat} {k : α × μ → Res ω} (h : EvM E K p M te σ I (off C p) m R) (s : St I C H) (hc : C p = some (.lst ws)) (hx : M.r x ws I C) (hm : Post ((m x).bind k) Q XF)
    (next : ∀ b v ws' I2 H2, Ex I I2 → St I2 (upd C p (.lst ws')) H2 → M.r b.2 ws' I2 (upd C p (.lst ws')) → R.r b.1 v I2 (upd C p (.lst ws')) → Post (k b) Q XF → tz D (σ.set i (some v)) H2) : tSeq (tAsg te (gName i)) tz D σ H :=
  h x ws I C H (Ex.refl _) off_ex s hc hx _ ((Post.bind hm).mono (fun b z v ws' I2 H2 e2 s2 hx2 rv => next b v ws' I2 H2 e2 s2 hx2 rv z) fun _ _ z => z)
theorem sm_ret {k : α × μ → Res ω} (h : EvM E K p M te σ I (off C p) m R) (s : St I C H) (hc : C p = some (.lst ws)) (hx : M.r x ws I C) (hm : Post ((m x).bind k) Q XF)
    (next : ∀ b v ws' I2 H2, Ex I I2 → St I2 (upd C p (.lst ws')) H2 → M.r b.2 ws' I2 (upd C p (.lst ws')) → R.r b.1 v I2 (upd C p (.lst ws')) → Post (k b) Q XF → D.rt v H2) : tSeq (tRet te) tz D σ H :=
  h x ws I C H (Ex.refl _) off_ex s hc hx _ ((Post.bind hm).mono (fun b z v ws' I2 H2 e2 s2 hx2 rv => next b v ws' I2 H2 e2 s2 hx2 rv z) fun _ _ z => z)
theorem sm_expr {k : α × μ → Res ω} (h : EvM E K p M te σ I (off C p) m R) (s : St I C H) (hc : C p = some (.lst ws)) (hx : M.r x ws I C) (hm : Post ((m x).bind k) Q XF)
    (next : ∀ b ws' I2 H2, Ex I I2 → St I2 (upd C p (.lst ws')) H2 → M.r b.2 ws' I2 (upd C p (.lst ws')) → Post (k b) Q XF → tz D σ H2) : tSeq (tDrop te) tz D σ H :=
  h x ws I C H (Ex.refl _) off_ex s hc hx _ ((Post.bind hm).mono (fun b z v ws' I2 H2 e2 s2 hx2 rv => next b ws' I2 H2 e2 s2 hx2 z) fun _ _ z => z)
def ifMR (c : μ → Res (Bool × μ)) (x : μ) (m n : μ → Res α) : Res α := (c x).bind fun b => if b.1 = true then m b.2 else n b.2
theorem sm_if {c : μ → Res (Bool × μ)} {m1 m2 : μ → Res ω} (h : EvTM E K p M tt σ I (off C p) c) (s : St I C H) (hc : C p = some (.lst ws)) (hx : M.r x ws I C) (hm : Post (ifMR c x m1 m2) Q XF)
    (h1 : ∀ y ws' I2 H2, Ex I I2 → St I2 (upd C p (.lst ws')) H2 → M.r y ws' I2 (upd C p (.lst ws')) → Post (m1 y) Q XF → tu { D with nx := tz D } σ H2)
    (h2 : ∀ y ws' I2 H2, Ex I I2 → St I2 (upd C p (.lst ws')) H2 → M.r y ws' I2 (upd C p (.lst ws')) → Post (m2 y) Q XF → tw { D with nx := tz D } σ H2) : tSeq (tIfS tt tu tw) tz D σ H :=
  h x ws I C H (Ex.refl _) off_ex s hc hx _ ((Post.bind hm).mono (fun b z ws' I2 H2 e2 s2 hx2 => by
    obtain ⟨c, y⟩ := b
    cases c with
    | true => exact h1 y ws' I2 H2 e2 s2 hx2 z
    | false => exact h2 y ws' I2 H2 e2 s2 hx2 z) fun _ _ z => z)
theorem sm_ifj (P : S → L2.St → Hp → Hp → Prop) {c : μ → Res (Bool × μ)} {m1 m2 : μ → Res S} {k : S → Res ω} (h : EvTM E K p M tt σ I (off C p) c) (s : St I C H) (hc : C p = some (.lst ws)) (hx : M.r x ws I C) (hm : Post ((ifMR c x m1 m2).bind k) Q XF)
    (h1 : ∀ (N : L2.St → Hp → Prop) y ws' I2 H2, Ex I I2 → St I2 (upd C p (.lst ws')) H2 → M.r y ws' I2 (upd C p (.lst ws')) → Post (m1 y) (fun s' => ∀ σ2 I3 C3 H3, Ex I I3 → St I3 C3 H3 → P s' σ2 I3 C3 → N σ2 H3) XF → tu { D with nx := N } σ H2)
    (h2 : ∀ (N : L2.St → Hp → Prop) y ws' I2 H2, Ex I I2 → St I2 (upd C p (.lst ws')) H2 → M.r y ws' I2 (upd C p (.lst ws')) → Post (m2 y) (fun s' => ∀ σ2 I3 C3 H3, Ex I I3 → St I3 C3 H3 → P s' σ2 I3 C3 → N σ2 H3) XF → tw { D with nx := N } σ H2)
    (next : ∀ s' σ2 I3 C3 H3, Ex I I3 → St I3 C3 H3 → P s' σ2 I3 C3 → Post (k s') Q XF → tz D σ2 H3) : Evl.tCut (tIfS tt tu tw) tz D σ H := by
  refine ⟨fun σ2 H3 => ∃ s' I3 C3, Ex I I3 ∧ St I3 C3 H3 ∧ P s' σ2 I3 C3 ∧ Post (k s') Q XF, ?_, fun σ2 H3 ⟨s', I3, C3, e3, s3, p, q⟩ => next s' σ2 I3 C3 H3 e3 s3 p q⟩
  refine h x ws I C H (Ex.refl _) off_ex s hc hx _ ((Post.bind (Post.bind hm)).mono (fun b z ws' I2 H2 e2 s2 hx2 => ?_) fun _ _ z => z)
  obtain ⟨c, y⟩ := b
  cases c with
  | true => exact h1 _ y ws' I2 H2 e2 s2 hx2 (Post.mono (m := m1 y) z (fun s' z σ2 I3 C3 H3 e3 s3 pp => ⟨s', I3, C3, e3, s3, pp, z⟩) fun _ _ z => z)
  | false => exact h2 _ y ws' I2 H2 e2 s2 hx2 (Post.mono (m := m2 y) z (fun s' z σ2 I3 C3 H3 e3 s3 pp => ⟨s', I3, C3, e3, s3, pp, z⟩) fun _ _ z => z)
/-- a for whose source draws -/
theorem sm_forN (P : S → L2.St → Hp → Hp → Prop) {wi : TI} {g : TG} {m : μ → Res (List α × μ)} {f : α → S → Res S} {s0 : μ → S} {k : S → Res ω} (hi : EvIM E K p M wi σ I (off C p) m R) (s : St I C H) (hc : C p = some (.lst ws)) (hx : M.r x ws I C) (hm : Post (((m x).bind fun b => loopN f b.1 (s0 b.2)).bind k) Q XF)
    (h0 : ∀ y ws' I2, Ex I I2 → M.r y ws' I2 (upd C p (.lst ws')) → P (s0 y) σ I2 (upd C p (.lst ws'))) (hP : ∀ s' σ' I' I2 C', Ex I' I2 → P s' σ' I' C' → P s' σ' I2 C')
    (body : ∀ (N : L2.St → Hp → Prop) x v s' σ' I' C' H', Ex I I' → St I' C' H' → P s' σ' I' C' → R.r x v I' C' → Post (f x s') (fun s2 => ∀ σ2 I3 C3 H3, Ex I' I3 → St I3 C3 H3 → P s2 σ2 I3 C3 → N σ2 H3) XF →
      g v σ' H' fun σ2 H2 => tu { D with nx := N, ct := N, bk := tz D } σ2 H2)
    (next : ∀ s' σ' I' C' H', Ex I I' → St I' C' H' → P s' σ' I' C' → Post (k s') Q XF → tz D σ' H') : tSeq (tFor wi g tu) tz D σ H :=
  hi x ws I C H (Ex.refl _) off_ex s hc hx _ ((Post.bind (Post.bind hm)).mono (fun b q2 ws2 J G Y I2 H2 e2 s2 hx2 hz w hG hY => by
    refine for_it w (fun i σ' H' => ∃ s' I' C', Ex I2 I' ∧ St I' C' H' ∧ P s' σ' I' C' ∧ Post ((loopN f (b.1.drop i) s').bind k) Q XF) ⟨s0 b.2, I2, _, Ex.refl _, s2, h0 _ _ I2 e2 hx2, by rw [List.drop_zero]; exact Post.of_bind q2⟩
      (fun i σ' H' hi ⟨s', I', C', e3, s3, p, _⟩ => hG I' C' H' e3 s3) (fun i x σ' H1 H' hi ⟨s', I', C', e3, s3, p, po⟩ y => ?_) (fun σ' H' ⟨s', I', C', e3, s3, p, po⟩ => ?_)
    · obtain ⟨a, ha⟩ : ∃ a, b.1[i]? = some a := ⟨b.1[i], by simp [hi]⟩
      rw [drop_cons ha] at po
      obtain ⟨I4, e4, s4, ra⟩ := hY i a x I' C' H1 H' ha e3 s3 y
      exact body _ a x s' σ' I4 C' H' (e2.trans (e3.trans e4)) s4 (hP _ _ _ _ _ e4 p) ra ((Post.bind (Post.bind po)).mono (fun s3 z σ2 I5 C5 H5 e5 s5 p5 => ⟨s3, I5, C5, e3.trans (e4.trans e5), s5, p5, Post.of_bind z⟩) fun _ _ z => z)
    · rw [List.drop_length] at po
      exact next s' σ' I' C' H' (e2.trans e3) s3 p po) fun _ _ z => z)
/-- pool[k] = e, k written -/
theorem sm_set [It M] {i k : Nat} {g : μ → α → μ} {kk : μ → Res ω} {m : Res α} (hv : σ[i]? = some (some (.ref p))) (h : EvX E K te σ I C m R) (j : Pk M k g R) (s : St I C H) (hc : C p = some (.lst ws)) (hx : M.r x ws I C) (hm : Post (m.bind fun a => kk (g x a)) Q XF)
    (next : ∀ y ws' I2 H2, Ex I I2 → St I2 (upd C p (.lst ws')) H2 → M.r y ws' I2 (upd C p (.lst ws')) → Post (kk y) Q XF → tz D σ H2) : tSeq (tAsg te (gSub (tVar i) (tC (.int (k : Int))) rSetL)) tz D σ H :=
  h I C H (Ex.refl _) (Ex.refl _) s _ ((Post.bind hm).mono (fun a z v I2 H2 e2 s2 rv => by
    obtain ⟨q, hl⟩ := j x ws I2 C a v (M.mono e2 (Ex.refl _) hx) rv
    refine ⟨.ref p, hv, p, ws, k, k, rfl, rfl, s2.c p _ hc, ?_, next (g x a) (ws.set k v) I2 _ e2 (s2.set hc) (It.im q) z⟩
    unfold ixN
    rw [if_pos (by omega), if_pos (by omega)]
    rfl) fun _ _ z => z.elim)
/-- pool[k], k written -/
theorem x_pool {i k : Nat} {f : μ → β} {S : Rp β} (hv : σ[i]? = some (some (.ref p))) (hc : C p = some (.lst ws)) (hx : M.r x ws I C) (j : Pj M k f S) : EvX E K (tOp (rIxL K) (tVar i) (tC (.int (k : Int)))) σ I C (.ok (f x)) S := fun I1 C1 H1 e e' s Q q => by
  obtain ⟨w, hw, r⟩ := j x ws I1 C1 (M.mono e e' hx)
  exact ⟨.ref p, hv, p, ws, k, w, rfl, rfl, .inl (.inl (s.c p _ (e' p _ hc))), atI_nat hw, PQ.now (R := S) (a := f x) q s r⟩
end
end Sd

namespace Sd
open PySem L2
/-! ### forms for the printed proofs -/
abbrev Z : Hp := fun _ => none
theorem exz {C : Hp} : Ex Z C := fun _ _ h => nomatch h
theorem Im.z {α : Type} {R : Rp α} [Im R] {a : α} {v : V} {I C : Hp} (h : R.r a v I C) : R.r a v I Z := Im.im h
/-- a new list of one's own -/
abbrev PN {α : Type} (R : Rp α) (I C : Hp) (Q : VK) (xs : List α) : Prop := ∀ p vs I2 H2, Ex I I2 → C p = none → St I2 (upd C p (.lst vs)) H2 → vs.length ≤ sizeLine → A2 (fun x u => R.r x u I2 C) xs vs → Q (.ref p) H2
def EvN (E : XK) (K : PySem.W.Frag) (te : TE) (σ : L2.St) (I C : Hp) {α : Type} (m : Res (List α)) (R : Rp α) : Prop :=
  ∀ I1 C1 H1, Ex I I1 → Ex C C1 → St I1 C1 H1 → ∀ Q : VK, Post m (PN R I1 C1 Q) (PX E K I1 C1) → te σ H1 Q
def Op2N (E : XK) (K : PySem.W.Frag) (r : R2) {α β γ : Type} (f : α → β → Res (List γ)) (R : Rp α) (S : Rp β) (T : Rp γ) : Prop :=
  ∀ I C H a b x y, St I C H → R.r a x I C → S.r b y I C → ∀ Q : VK, Post (f a b) (PN T I C Q) (PX E K I C) → r x y H Q
def OpLN (E : XK) (K : PySem.W.Frag) (r : List V → Hp → VK → Prop) {α γ : Type} (f : α → Res (List γ)) (R : Rt α) (T : Rp γ) : Prop :=
  ∀ I C H a vs, St I C H → R.r a vs I C → ∀ Q : VK, Post (f a) (PN T I C Q) (PX E K I C) → r vs H Q
/-- f(a ..) hands back a new list of its own -/
def spO (K : PySem.W.Frag) {α β : Type} (T : Rt α) (m : α → Res (List β)) (R : Rp β) : Sp := fun vs H Q E => ∃ (I C : Hp) (a : α), St I C H ∧ T.r a vs I C ∧ Post (m a) (PN R I C Q) (PX E K I C)
section
variable {E : XK} {K : PySem.W.Frag} {σ : L2.St} {I I' C C' H : Hp} {α β γ : Type} {R : Rp α} {S : Rp β} {T : Rp γ} {te ta tb : TE} {tt : TT}
theorem PN.of {I1 C1 : Hp} {Q : VK} {xs : List α} [Im R] (q : PQ (pL R) I1 C1 Q xs) : PN R I1 C1 Q xs := fun p vs I2 H2 e hp s hl hr => by
  have sf := s.frz (p := p) upd_same
  have iD : I2 p = none := s.freeI upd_same
  refine q (.ref p) (upd I2 p (.lst vs)) H2 (e.trans (Ex.new iD)) (sf.less fun a o ha => ?_) ⟨p, vs, rfl, upd_same, hl, hr.imp fun _ _ => R.mono (Ex.new iD) (Ex.refl _)⟩
  have hne : a ≠ p := fun z => by
    rw [z, hp] at ha
    cases ha
  show (if a = p then none else upd C1 p (.lst vs) a) = some o
  rw [if_neg hne, upd_ne hne]
  exact ha
theorem x_own [Im R] {m : Res (List α)} (h : EvN E K te σ I C m R) : EvX E K te σ I C m (pL R) := fun I1 C1 H1 e e' s Q q => h I1 C1 H1 e e' s Q (q.mono (fun xs z => PN.of z) fun _ _ z => z)
theorem PN.new {I1 C1 H1 : Hp} {Q : VK} {xs : List α} {vs : List V} (q : PN R I1 C1 Q xs) (s : St I1 C1 H1) (h : A2 (fun x u => R.r x u I1 C1) xs vs) (hl : vs.length ≤ sizeLine) : ∀ p, H1 p = none → Q (.ref p) (upd H1 p (.lst vs)) := fun p hp =>
  q p vs I1 _ (Ex.refl _) (s.c.free hp) (s.newC hp) hl h
theorem PN.up {I1 I2 C1 : Hp} {Q : VK} {xs : List α} (e : Ex I1 I2) (q : PN R I1 C1 Q xs) : PN R I2 C1 Q xs := fun p vs I3 H3 e3 hp s hl hr => q p vs I3 H3 (e.trans e3) hp s hl hr
theorem n_op {r : R2} {f : α → β → Res (List γ)} {m : Res α} {n : Res β} (hr : Op2N E K r f R S T) (h1 : EvX E K ta σ I C m R) (h2 : EvX E K tb σ I C n S) : EvN E K (tOp r ta tb) σ I C (bin f m n) T := fun I1 C1 H1 e e' s Q q =>
  h1 I1 C1 H1 e e' s _ ((Post.bind q).mono (fun a p x I2 H2 e2 s2 rx =>
    h2 I2 C1 H2 (e.trans e2) e' s2 _ ((Post.bind p).mono (fun b p2 y I3 H3 e3 s3 ry =>
      hr I3 C1 H3 a b x y s3 (R.mono e3 (Ex.refl _) rx) ry Q (p2.mono (fun c z => z.up (e2.trans e3)) fun c i z => z.mono (e2.trans e3) (Ex.refl _))) fun c i z => z.mono e2 (Ex.refl _)))
    fun _ _ z => z)
theorem n_cb {r : List V → Hp → VK → Prop} {f : α → Res (List γ)} {A : Rt α} {tr : TA} {m : Res α} (hr : OpLN E K r f A T) (h : EvA E K tr σ I C m A) : EvN E K (tCB r tr) σ I C (un f m) T := fun I1 C1 H1 e e' s Q q =>
  h I1 C1 H1 e e' s _ ((Post.bind q).mono (fun a p vs I2 H2 e2 s2 rv => hr I2 C1 H2 a vs s2 rv Q (p.mono (fun c z => z.up e2) fun c i z => z.mono e2 (Ex.refl _))) fun _ _ z => z)
theorem n_call {A : Rt α} {f : α → Res (List β)} {m : Res α} {tr : TA} (h : EvA E K tr σ I C m A) : EvN E K (tCall (spO K A f S) [] E tr) σ I C (un f m) S := fun I1 C1 H1 e e' s Q q =>
  h I1 C1 H1 e e' s _ ((Post.bind q).mono (fun a p vs I2 H2 e2 s2 rv => ⟨I2, C1, a, s2, by rw [List.append_nil]; exact rv, Post.mono (m := f a) p (fun b z => z.up e2) fun c i z => z.mono e2 (Ex.refl _)⟩) fun _ _ z => z)
theorem n_lst {k : Nat} {m : Res (List α)} {tr : TA} (h : EvA E K tr σ I C m (tL R k)) (hn : k ≤ 100) : EvN E K (tLst tr) σ I C m R := fun I1 C1 H1 e e' s Q q =>
  h I1 C1 H1 e e' s _ (q.mono (fun a p vs I2 H2 e2 s2 rv => by
    have hl : vs.length ≤ sizeLine := by
      rw [rv.1]
      exact Nat.le_trans hn (by decide)
    exact ⟨hl, PN.new (PN.up e2 p) s2 rv.2 hl⟩) fun _ _ z => z)
theorem n_list : OpLN E K (fun xs H Q => ∃ p ys, xs = [.ref p] ∧ (SqL K H p ys ∨ SqT K H p ys) ∧ ∀ l, H l = none → Q (.ref l) (upd H l (.lst ys))) idR (t1 (pV R)) R := fun I C H a vs s hv Q q => by
  obtain ⟨v, rfl, h⟩ := hv
  obtain ⟨p, us, rfl, h2, h3, h4⟩ := pV.at s h
  exact ⟨p, us, rfl, .inl (.inl (.inl h2)), PN.new q s h4 h3⟩
theorem n_listQ : OpLN E K (fun xs H Q => ∃ p ys, xs = [.ref p] ∧ (SqL K H p ys ∨ SqT K H p ys) ∧ ∀ l, H l = none → Q (.ref l) (upd H l (.lst ys))) idR (t1 (pQ K R)) R := fun I C H a vs s hv Q q => by
  obtain ⟨v, rfl, p, us, rfl, h2, h3, h4⟩ := hv
  exact ⟨p, us, rfl, .inr (ex_t s.i h2), PN.new q s h4 h3⟩
theorem n_cat : Op2N E K rCat rCatR (pV R) (pV R) R := fun I C H a b x y s hx hy Q q => by
  unfold rCatR at q
  split at q
  · rename_i h
    obtain ⟨p, us, rfl, h2, h3, h4⟩ := pV.at s hx
    obtain ⟨p', us', rfl, h2', h3', h4'⟩ := pV.at s hy
    have hl : us.length + us'.length ≤ sizeLine := by
      rw [h4.len, h4'.len]
      exact Nat.le_trans h (by decide)
    exact ⟨p, p', us, us', rfl, rfl, h2, h2', hl, PN.new q s (h4.append h4') (by rw [List.length_append]; exact hl)⟩
  · exact q.elim
theorem n_rep : Op2N E K rRep rRepR (pV R) pI R := fun I C H a b x y s hx hy Q q => by
  unfold rRepR at q
  split at q
  · rename_i h
    obtain ⟨p, us, rfl, h2, h3, h4⟩ := pV.at s hx
    subst hy
    have hl : us.length * b.toNat ≤ sizeLine := by
      rw [h4.len]
      exact Nat.le_trans h.2 (by decide)
    exact ⟨p, b, us, rfl, rfl, h2, by omega, by omega, hl, PN.new q s (h4.rep _) (by rw [flat_len]; exact hl)⟩
  · exact q.elim
theorem n_sl {tl th : TO} {m : Res (List α)} {lo hi : Res (Option Int)} (h : EvX E K te σ I C m (pV R)) (hl : EvO E K tl σ I C lo) (hh : EvO E K th σ I C hi) : EvN E K (tSl (rSlL K) te tl th) σ I C (slR m lo hi) R := fun I1 C1 H1 e e' s Q q =>
  h I1 C1 H1 e e' s _ ((Post.bind q).mono (fun a p x I2 H2 e2 s2 rx =>
    hl I2 C1 H2 (e.trans e2) e' s2 _ ((Post.bind p).mono (fun o p2 I3 H3 e3 s3 =>
      hh I3 C1 H3 (e.trans (e2.trans e3)) e' s3 _ ((Post.bind p2).mono (fun o2 p3 I4 H4 e4 s4 => by
        obtain ⟨b, us, rfl, h2, h3, h4⟩ := pV.at s4 ((pV R).mono (e3.trans e4) (Ex.refl _) rx)
        exact ⟨b, us, rfl, .inl (.inl h2), PN.new (PN.up (e2.trans (e3.trans e4)) p3) s4 (h4.cut o o2) (Nat.le_trans (cutV_length _ _ _) h3)⟩) fun c i z => z.mono (e2.trans e3) (Ex.refl _))) fun c i z => z.mono e2 (Ex.refl _)))
    fun _ _ z => z)
theorem n_lcgK [Im S] {wi : TI} {g : TG} {tt : TT} {vs : List Nat} {p : α → Res Bool} {f : α → Res β} {P : α → L2.St → Hp → Hp → Prop} {kp : Hp → Prop} (hi : EvI E K wi σ I C kp m R) (hkp : ∀ C3, Ex C C3 → kp C3) (hg : Tg K g R (wipe σ vs) P)
    (hw : ∀ x σ2 I' C', P x σ2 I' C' → wipe σ2 vs = wipe σ vs)
    (hp : ∀ x σ2 I' C', Ex I I' → Ex C C' → P x σ2 I' C' → EvT EZ K tt σ2 I' C' (p x))
    (hf : ∀ x σ2 I' C', Ex I I' → Ex C C' → P x σ2 I' C' → EvX EZ K te σ2 I' C' (f x) S)
    (hm : ∀ x σ2 I' I2 C', Ex I' I2 → P x σ2 I' C' → P x σ2 I2 C') : EvN E K (tLc wi g tt te vs) σ I C (m.bind (filR p f)) S := fun I1 C1 H1 e e' s Q q =>
  hi I1 C1 H1 e e' s _ ((Post.bind q).mono (fun xs q2 J G Y I2 H2 e2 s2 hz w hG hY D hD => by
    have cD : C1 D = none := s2.c.free hD
    refine lc_it w (fun i H => Lc S I2 C1 D (filR p f (xs.drop i)) (PN S I1 C1 Q) i H) ⟨[], [], I2, Ex.refl _, s2.newC hD, Nat.le_refl _, .nil, ?_⟩ (fun i H hi ⟨_, vs', I', e3, s3, _⟩ => hG I' _ H e3 (hkp _ (e'.trans (Ex.new cD))) s3) (fun i x H H' hi ⟨ys, us, I', e3, s3, hn, r3, po⟩ y => ?_) (fun H ⟨ys, us, I', e3, s3, hn, r3, po⟩ => ?_)
    · cases hfil : filR p f xs with
      | ok zs =>
        rw [hfil] at q2
        show Post (filR p f (xs.drop 0)) _ _
        rw [List.drop_zero, hfil]
        exact q2
      | exc c i =>
        exfalso
        revert hfil
        clear q2 hG hY w hz
        induction xs with
        | nil =>
          intro z
          cases z
        | cons x xs ih =>
          unfold filR
          cases p x with
          | ok b =>
            cases b with
            | true =>
              cases f x with
              | ok y =>
                intro z
                cases hh : filR p f xs with
                | ok zs =>
                  simp only [hh] at z
                  cases z
                | exc c' i' =>
                  simp only [hh] at z
                  have z2 : (Res.exc c' i' : Res (List β)) = .exc c i := z
                  cases z2
                  exact ih hh
                | bad =>
                  simp only [hh] at z
                  cases z
              | exc _ _ => intro z; cases z
              | bad => intro z; cases z
            | false => exact ih
          | exc _ _ => intro z; cases z
          | bad => intro z; cases z
      | bad =>
        rw [hfil] at q2
        exact q2.elim
    · obtain ⟨a, ha⟩ : ∃ a, xs[i]? = some a := ⟨xs[i], by simp [hi]⟩
      rw [drop_cons ha] at po
      obtain ⟨I4, e4, s4, ra⟩ := hY i a x I' _ H H' ha e3 (hkp _ (e'.trans (Ex.new cD))) s3 y
      refine hg a x I4 _ H' _ s4 ra fun σ2 pa => ⟨hw _ _ _ _ pa, ?_⟩
      have eI : Ex I I4 := e.trans (e2.trans (e3.trans e4))
      have eC : Ex C (upd C1 D (.lst us)) := e'.trans (Ex.new cD)
      unfold filR at po
      refine hp a σ2 I4 _ eI eC pa I4 _ H' (Ex.refl _) (Ex.refl _) s4 _ ?_
      cases hpa : p a with
      | ok b =>
        rw [hpa] at po
        cases b with
        | true =>
          show ∀ I5 H5, Ex I4 I5 → St I5 (upd C1 D (.lst us)) H5 → te σ2 H5 _
          intro I5 H5 e5 s5
          refine hf a σ2 I5 _ (eI.trans e5) eC (hm _ _ _ _ _ e5 pa) I5 _ H5 (Ex.refl _) (Ex.refl _) s5 _ ?_
          cases hfa : f a with
          | ok b =>
            have po2 : Post ((filR p f (xs.drop (i + 1))).bind fun ys => .ok (b :: ys)) (fun zs => PN S I1 C1 Q (ys ++ zs)) (fun _ _ => False) := by
              have z := po
              simp only [hfa] at z
              exact z
            intro v I6 H6 e6 s6 rv
            have hsz : us.length < sizeLine := Nat.lt_of_le_of_lt hn (Nat.lt_of_lt_of_le hi hz)
            refine ⟨us, s6.c D _ upd_same, hsz, ⟨ys ++ [b], us ++ [v], I6, e3.trans (e4.trans (e5.trans e6)), ?_, by rw [List.length_append]; exact Nat.succ_le_succ hn, ?_, ?_⟩⟩
            · have z := s6.set (o := .lst (us ++ [v])) (p := D) upd_same
              rw [upd_upd] at z
              exact z
            · exact (r3.imp fun _ _ => S.mono (e4.trans (e5.trans e6)) (Ex.refl _)).append (.one (Im.im rv))
            · refine (Post.bind po2).mono (fun zs z => ?_) fun _ _ z => z
              rw [List.append_assoc]
              exact z
          | exc c j =>
            have z := po
            simp only [hfa] at z
            exact z.elim
          | bad =>
            have z := po
            simp only [hfa] at z
            exact z.elim
        | false =>
          show ∀ I5 H5, Ex I4 I5 → St I5 (upd C1 D (.lst us)) H5 → Lc S I2 C1 D (filR p f (xs.drop (i + 1))) (PN S I1 C1 Q) (i + 1) H5
          intro I5 H5 e5 s5
          exact ⟨ys, us, I5, e3.trans (e4.trans e5), s5, Nat.le_succ_of_le hn, r3.imp fun _ _ => S.mono (e4.trans e5) (Ex.refl _), po⟩
      | exc c j =>
        rw [hpa] at po
        exact po.elim
      | bad =>
        rw [hpa] at po
        exact po.elim
    · rw [List.drop_length] at po
      have po2 : PN S I1 C1 Q (ys ++ []) := po
      rw [List.append_nil] at po2
      exact po2 D us I' H (e2.trans e3) cD s3 (Nat.le_trans hn hz) r3) fun _ _ z => z)

theorem n_lcg [Im S] {wi : TI} {g : TG} {tt : TT} {vs : List Nat} {p : α → Res Bool} {f : α → Res β} {P : α → L2.St → Hp → Hp → Prop} (hi : EvI E K wi σ I C kpT m R) (hg : Tg K g R (wipe σ vs) P)
    (hw : ∀ x σ2 I' C', P x σ2 I' C' → wipe σ2 vs = wipe σ vs)
    (hp : ∀ x σ2 I' C', Ex I I' → Ex C C' → P x σ2 I' C' → EvT EZ K tt σ2 I' C' (p x))
    (hf : ∀ x σ2 I' C', Ex I I' → Ex C C' → P x σ2 I' C' → EvX EZ K te σ2 I' C' (f x) S)
    (hm : ∀ x σ2 I' I2 C', Ex I' I2 → P x σ2 I' C' → P x σ2 I2 C') : EvN E K (tLc wi g tt te vs) σ I C (m.bind (filR p f)) S := n_lcgK hi (fun _ _ => trivial) hg hw hp hf hm
theorem n_lc [Im S] {wi : TI} {g : TG} {vs : List Nat} {m : Res (List α)} {f : α → Res β} {P : α → L2.St → Hp → Hp → Prop} (hi : EvI E K wi σ I C kpT m R) (hg : Tg K g R (wipe σ vs) P)
    (hw : ∀ x σ2 I' C', P x σ2 I' C' → wipe σ2 vs = wipe σ vs)
    (hf : ∀ x σ2 I' C', Ex I I' → Ex C C' → P x σ2 I' C' → EvX EZ K te σ2 I' C' (f x) S)
    (hm : ∀ x σ2 I' I2 C', Ex I' I2 → P x σ2 I' C' → P x σ2 I2 C') : EvN E K (tLc wi g tYes te vs) σ I C (m.bind (mapR f)) S := by
  have z := n_lcg (p := fun _ => .ok true) hi hg hw (fun x σ2 I' C' _ _ _ => t_yes) hf hm
  have e : filR (fun _ => Res.ok true) f = mapR f := funext (filR_yes f)
  rw [e] at z
  exact z
theorem n_lcK [Im S] {wi : TI} {g : TG} {vs : List Nat} {m : Res (List α)} {f : α → Res β} {P : α → L2.St → Hp → Hp → Prop} {kp : Hp → Prop} (hi : EvI E K wi σ I C kp m R) (hkp : ∀ C3, Ex C C3 → kp C3) (hg : Tg K g R (wipe σ vs) P)
    (hw : ∀ x σ2 I' C', P x σ2 I' C' → wipe σ2 vs = wipe σ vs)
    (hf : ∀ x σ2 I' C', Ex I I' → Ex C C' → P x σ2 I' C' → EvX EZ K te σ2 I' C' (f x) S)
    (hm : ∀ x σ2 I' I2 C', Ex I' I2 → P x σ2 I' C' → P x σ2 I2 C') : EvN E K (tLc wi g tYes te vs) σ I C (m.bind (mapR f)) S := by
  have z := n_lcgK (p := fun _ => .ok true) hi hkp hg hw (fun x σ2 I' C' _ _ _ => t_yes) hf hm
  have e : filR (fun _ => Res.ok true) f = mapR f := funext (filR_yes f)
  rw [e] at z
  exact z
/-- sorted(pairs of ints) -/
def leP (a b : Int × Int) : Bool := decide (a.1 < b.1) || (decide (a.1 = b.1) && decide (a.2 ≤ b.2))
def insP (x : Int × Int) : List (Int × Int) → List (Int × Int)
  | [] => [x]
  | y :: ys => if leP x y = true then x :: y :: ys else y :: insP x ys
def isortP : List (Int × Int) → List (Int × Int)
  | [] => []
  | x :: xs => insP x (isortP xs)
def sortP (xs : List (Int × Int)) : Res (List (Int × Int)) := .ok (isortP xs)
@[simp] theorem sortP_eq (xs : List (Int × Int)) : sortP xs = .ok (isortP xs) := rfl
theorem leP_iff {a b : Int × Int} : leP a b = true ↔ a.1 < b.1 ∨ (a.1 = b.1 ∧ a.2 ≤ b.2) := by
  unfold leP
  simp only [Bool.or_eq_true, Bool.and_eq_true, decide_eq_true_eq]
theorem insP_perm (x : Int × Int) : ∀ ys, (insP x ys).Perm (x :: ys)
  | [] => .refl _
  | y :: ys => by
    unfold insP
    split
    · exact .refl _
    · exact ((insP_perm x ys).cons y).trans (.swap x y ys)
theorem isortP_perm : ∀ xs, (isortP xs).Perm xs
  | [] => .refl _
  | x :: xs => (insP_perm x _).trans ((isortP_perm xs).cons x)
theorem leP_total (a b : Int × Int) : leP a b = true ∨ leP b a = true := by
  rw [leP_iff, leP_iff]
  omega
theorem leP_trans {a b c : Int × Int} (h : leP a b = true) (h' : leP b c = true) : leP a c = true := by
  rw [leP_iff] at *
  omega
theorem leP_anti {a b : Int × Int} (h : leP a b = true) (h' : leP b a = true) : a = b := by
  rw [leP_iff] at *
  exact Prod.ext (by omega) (by omega)
theorem insP_sorted (x : Int × Int) : ∀ {ys : List (Int × Int)}, ys.Pairwise (fun a b => leP a b = true) → (insP x ys).Pairwise (fun a b => leP a b = true)
  | [], _ => List.pairwise_singleton _ _
  | y :: ys, h => by
    obtain ⟨h1, h2⟩ := List.pairwise_cons.mp h
    unfold insP
    split
    · rename_i hx
      exact List.pairwise_cons.mpr ⟨fun z hz => by
        rcases List.mem_cons.mp hz with e | hz
        · rw [e]
          exact hx
        · exact leP_trans hx (h1 z hz), h⟩
    · rename_i hx
      refine List.pairwise_cons.mpr ⟨fun z hz => ?_, insP_sorted x h2⟩
      rcases List.mem_cons.mp ((insP_perm x ys).mem_iff.mp hz) with e | hz
      · rw [e]
        exact (leP_total y x).resolve_right hx
      · exact h1 z hz
theorem isortP_sorted : ∀ xs, (isortP xs).Pairwise (fun a b => leP a b = true)
  | [] => .nil
  | x :: xs => insP_sorted x (isortP_sorted xs)
theorem sorted_unique : ∀ {xs ys : List (Int × Int)}, xs.Perm ys → xs.Pairwise (fun a b => leP a b = true) → ys.Pairwise (fun a b => leP a b = true) → xs = ys
  | [], ys, p, _, _ => by rw [List.nil_perm.mp p]
  | x :: xs, [], p, _, _ => by cases List.perm_nil.mp p
  | x :: xs, y :: ys, p, h, h' => by
    obtain ⟨h1, h2⟩ := List.pairwise_cons.mp h
    obtain ⟨h1', h2'⟩ := List.pairwise_cons.mp h'
    have e : x = y := by
      by_cases e : x = y
      · exact e
      · have hy : y ∈ xs := (List.mem_cons.mp (p.mem_iff.mpr List.mem_cons_self)).resolve_left fun z => e z.symm
        have hx : x ∈ ys := (List.mem_cons.mp (p.mem_iff.mp List.mem_cons_self)).resolve_left e
        exact leP_anti (h1 y hy) (h1' x hx)
    subst e
    rw [sorted_unique (List.Perm.cons_inv p) h2 h2']
end
end Sd

namespace Sd
open PySem L2
section
variable {E : XK} {K : PySem.W.Frag} {σ : L2.St} {I I' C C' H : Hp} {α β γ μ ω S ρ : Type} {R : Rp α} {S1 : Rp β} {te ta tb : TE} {tt : TT} {tz tu tw : TS} {D : Ends} {Q : ω → Prop} {X : Ec → Int → Prop}
/-! ### sorted -/
def kP (H : Hp) (v : V) : Int × Int := match v with
  | .ref t => (match H t with
    | some (.tup [.int i, .int j]) => (i, j)
    | _ => (0, 0))
  | _ => (0, 0)
theorem kP_of {a : Int × Int} {v : V} (s : St I C H) (h : (pT (tc pI (t1 pI))).r a v I C) : (∃ t, v = .ref t ∧ H t = some (.tup [.int a.1, .int a.2])) ∧ kP H v = a := by
  obtain ⟨t, vs, rfl, h2, u, us, rfl, h3, w, rfl, h4⟩ := h
  have e1 : u = .int a.1 := h3
  have e2 : w = .int a.2 := h4
  subst e1 e2
  have ht := s.i _ _ h2
  refine ⟨⟨t, rfl, ht⟩, ?_⟩
  show (match H t with
    | some (.tup [.int i, .int j]) => (i, j)
    | _ => (0, 0)) = a
  rw [ht]
theorem kP_map (s : St I C H) : ∀ {xs : List (Int × Int)} {vs : List V}, A2 (fun x u => (pT (tc pI (t1 pI))).r x u I C) xs vs → vs.map (kP H) = xs
  | _, _, .nil => rfl
  | _, _, .cons r t => by rw [List.map_cons, (kP_of s r).2, kP_map s t]
theorem a2_mem {f : α → V → Prop} : ∀ {xs : List α} {vs : List V} {v : V}, A2 f xs vs → v ∈ vs → ∃ x, x ∈ xs ∧ f x v
  | _, _, _, .nil, h => by cases h
  | _, _, _, .cons r t, h => by
    rcases List.mem_cons.mp h with e | h
    · exact ⟨_, List.mem_cons_self, by rw [e]; exact r⟩
    · obtain ⟨x, hx, r⟩ := a2_mem t h
      exact ⟨x, List.mem_cons_of_mem _ hx, r⟩
theorem a2_of_k {f : β → V → Prop} {k : V → β} : ∀ {ys : List V}, (∀ v, v ∈ ys → f (k v) v) → A2 f (ys.map k) ys
  | [], _ => .nil
  | y :: ys, h => .cons (h y List.mem_cons_self) (a2_of_k fun v hv => h v (List.mem_cons_of_mem _ hv))
theorem n_sortP : OpLN E K (rSortedPO K) sortP (t1 (pV (pT (tc pI (t1 pI))))) (pT (tc pI (t1 pI))) := fun I C H a vs s hv Q q => by
  obtain ⟨v, rfl, h⟩ := hv
  obtain ⟨p, us, rfl, h2, h3, h4⟩ := pV.at s h
  refine ⟨p, us, kP H, rfl, .inl (.inl h2), fun x hx => ?_, fun ys l hs hb hl => ?_⟩
  · obtain ⟨z, _, r⟩ := a2_mem h4 hx
    obtain ⟨⟨t, e, ht⟩, ek⟩ := kP_of s r
    exact ⟨t, e, by rw [ek]; exact ht⟩
  · have ep : (ys.map (kP H)).Perm a := by
      have z := hb.perm.map (kP H)
      rw [kP_map s h4] at z
      exact z
    have es : (ys.map (kP H)).Pairwise (fun a b => leP a b = true) := by
      refine List.pairwise_map.mpr (hs.imp fun {x y} z => ?_)
      rw [leP_iff]
      have z2 : ¬ SrtO.lexB (kP H y) (kP H x) = true := by
        intro z3
        have z4 : SrtO.lexB (kP H y) (kP H x) = false := z
        rw [z3] at z4
        cases z4
      rw [SrtO.lexB_iff] at z2
      omega
    have e := sorted_unique (ep.trans (isortP_perm a).symm) es (isortP_sorted a)
    have q2 : PN (pT (tc pI (t1 pI))) I C Q (isortP a) := q
    rw [← e] at q2
    refine PN.new q2 s (a2_of_k fun v hv => ?_) (by rw [hb.perm.length_eq]; exact h3) l hl
    obtain ⟨z, _, r⟩ := a2_mem h4 (hb.perm.mem_iff.mp hv)
    rw [(kP_of s r).2]
    exact r
def insI (x : Int) : List Int → List Int
  | [] => [x]
  | y :: ys => if x ≤ y then x :: y :: ys else y :: insI x ys
def isortI : List Int → List Int
  | [] => []
  | x :: xs => insI x (isortI xs)
def sortI (xs : List Int) : Res (List Int) := .ok (isortI xs)
@[simp] theorem sortI_eq (xs : List Int) : sortI xs = .ok (isortI xs) := rfl
theorem insI_perm (x : Int) : ∀ ys, (insI x ys).Perm (x :: ys)
  | [] => .refl _
  | y :: ys => by
    unfold insI
    split
    · exact .refl _
    · exact ((insI_perm x ys).cons y).trans (.swap x y ys)
theorem isortI_perm : ∀ xs, (isortI xs).Perm xs
  | [] => .refl _
  | x :: xs => (insI_perm x _).trans ((isortI_perm xs).cons x)
theorem insI_sorted (x : Int) : ∀ {ys : List Int}, ys.Pairwise (· ≤ ·) → (insI x ys).Pairwise (· ≤ ·)
  | [], _ => List.pairwise_singleton _ _
  | y :: ys, h => by
    obtain ⟨h1, h2⟩ := List.pairwise_cons.mp h
    unfold insI
    split
    · rename_i hx
      exact List.pairwise_cons.mpr ⟨fun z hz => by
        rcases List.mem_cons.mp hz with e | hz
        · rw [e]
          exact hx
        · exact Int.le_trans hx (h1 z hz), h⟩
    · rename_i hx
      refine List.pairwise_cons.mpr ⟨fun z hz => ?_, insI_sorted x h2⟩
      rcases List.mem_cons.mp ((insI_perm x ys).mem_iff.mp hz) with e | hz
      · rw [e]
        omega
      · exact h1 z hz
theorem isortI_sorted : ∀ xs, (isortI xs).Pairwise (· ≤ ·)
  | [] => .nil
  | x :: xs => insI_sorted x (isortI_sorted xs)
theorem sortedI_unique : ∀ {xs ys : List Int}, xs.Perm ys → xs.Pairwise (· ≤ ·) → ys.Pairwise (· ≤ ·) → xs = ys
  | [], ys, p, _, _ => by rw [List.nil_perm.mp p]
  | x :: xs, [], p, _, _ => by cases List.perm_nil.mp p
  | x :: xs, y :: ys, p, h, h' => by
    obtain ⟨h1, h2⟩ := List.pairwise_cons.mp h
    obtain ⟨h1', h2'⟩ := List.pairwise_cons.mp h'
    have e : x = y := by
      by_cases e : x = y
      · exact e
      · have hy : y ∈ xs := (List.mem_cons.mp (p.mem_iff.mpr List.mem_cons_self)).resolve_left fun z => e z.symm
        have hx : x ∈ ys := (List.mem_cons.mp (p.mem_iff.mp List.mem_cons_self)).resolve_left e
        exact Int.le_antisymm (h1 y hy) (h1' x hx)
    subst e
    rw [sortedI_unique (List.Perm.cons_inv p) h2 h2']
theorem n_sortI : OpLN E K (rSortedI K) sortI (t1 (pV pI)) pI := fun I C H a vs s hv Q q => by
  obtain ⟨v, rfl, h⟩ := hv
  obtain ⟨p, us, rfl, h2, h3, h4⟩ := pV.at s h
  have eu := A2.map_iff (h := V.int) (fun _ _ h => h) h4
  subst eu
  refine ⟨p, a, rfl, .inl (.inl h2), fun ns l hp hs hl => ?_⟩
  have e := sortedI_unique (hp.trans (isortI_perm a).symm) hs (isortI_sorted a)
  have q2 : PN pI I C Q (isortI a) := q
  rw [← e] at q2
  refine PN.new q2 s (A2.of_map (f := fun x u => pI.r x u I C) (h := V.int) (fun _ => rfl) ns) (by rw [List.length_map, hp.length_eq, ← List.length_map (f := V.int)]; exact h3) l hl
/-! ### chains, is of bools -/
theorem x_chain {r r' : R2} {f : α → β → Res Bool} {g : β → γ → Res Bool} {T : Rp γ} {tc : TE} {m : Res α} {n : Res β} {l : Res γ} (hr : Op2 E K r f R S1 pB) (hr' : Op2 E K r' g S1 T pB) (h1 : EvX E K ta σ I C m R) (h2 : EvX E K tb σ I C n S1) (h3 : EvX E K tc σ I C l T) :
    EvX E K (tChain r r' ta tb tc) σ I C (m.bind fun a => n.bind fun b => (f a b).bind fun k => if k = true then l.bind fun c => g b c else .ok false) pB := fun I1 C1 H1 e e' s Q q =>
  h1 I1 C1 H1 e e' s _ ((Post.bind q).mono (fun a p x I2 H2 e2 s2 rx =>
    h2 I2 C1 H2 (e.trans e2) e' s2 _ ((Post.bind p).mono (fun b p2 y I3 H3 e3 s3 ry =>
      hr I3 C1 H3 a b x y s3 (R.mono e3 (Ex.refl _) rx) ry _ ((Post.bind p2).mono (fun k p3 z I4 H4 e4 s4 rz => ⟨k, rz, by
        cases k with
        | true =>
          exact h3 I4 C1 H4 (e.trans (e2.trans (e3.trans e4))) e' s4 _ ((Post.bind p3).mono (fun c p4 w I5 H5 e5 s5 rw => hr' I5 C1 H5 b c y w s5 (S1.mono (e4.trans e5) (Ex.refl _) ry) rw Q
            (p4.mono (fun d z v I6 H6 e6 s6 rv => z v I6 H6 (e2.trans (e3.trans (e4.trans (e5.trans e6)))) s6 rv) fun c i z => z.mono (e2.trans (e3.trans (e4.trans e5))) (Ex.refl _))) fun c i z => z.mono (e2.trans (e3.trans e4)) (Ex.refl _))
        | false => exact p3 (.bl false) I4 H4 (e2.trans (e3.trans e4)) s4 rfl⟩) fun c i z => z.mono (e2.trans e3) (Ex.refl _))) fun c i z => z.mono e2 (Ex.refl _)))
    fun _ _ z => z)
theorem o_isB : Op2 E K rIsB eqR pB pB pB := fun I C H a b x y s hx hy Q q => ⟨a, b, hx, hy, PQ.now q s rfl⟩
theorem o_notB : Op2 E K rNotB neR pB pB pB := fun I C H a b x y s hx hy Q q => ⟨a, b, hx, hy, PQ.now q s rfl⟩
/-! ### a cell as a list that is read -/
theorem x_cell [Im R] {i : Nat} {a : Addr} {xs : List α} {vs : List V} (h : σ[i]? = some (some (.ref a))) (hc : C a = some (.lst vs)) (hl : vs.length ≤ sizeLine) (hr : A2 (fun x u => R.r x u I Z) xs vs) : EvX E K (tVar i) σ I C (.ok xs) (pV R) :=
  x_var h ⟨a, vs, rfl, .inr hc, hl, hr.imp fun _ _ h => Im.im h⟩
/-! ### keeping -/
theorem fr_keep {B C C2 : Hp} {p : Addr} (h : Ex B C) (hp : B p = none) (k : ∀ q, q ≠ p → C2 q = C q) : Ex B C2 := fun a o e => by
  rw [k a (ne_of_none e hp)]
  exact h a o e
theorem fr_pool {C0 C C2 : Hp} {p : Addr} (h : Ex (off C0 p) C) (k : ∀ q, q ≠ p → C2 q = C q) : Ex (off C0 p) C2 := fr_keep h off_same k
theorem ex_pool {C0 C : Hp} {p : Addr} {o : HO} (h : Ex (off C0 p) C) (hc : C p = some o) : Ex (upd C0 p o) C := fun a u e => by
  by_cases q : a = p
  · rw [q, upd_same] at e
    rw [q, hc]
    exact e
  · rw [upd_ne q] at e
    exact h a u ((off_ne q).trans e)
theorem freeze {a : Addr} {o : HO} (s : St I C H) (hc : C a = some o) : ∃ I2 C2, Ex I I2 ∧ St I2 C2 H ∧ I2 a = some o ∧ ∀ q, q ≠ a → C2 q = C q :=
  ⟨_, _, Ex.new (s.freeI hc), s.frz hc, upd_same, fun q h => if_neg h⟩
theorem frz_list [Im R] {I2 : Hp} {a : Addr} {xs : List α} {vs : List V} (e : Ex I I2) (h : I2 a = some (.lst vs)) (hl : vs.length ≤ sizeLine) (hr : A2 (fun x u => R.r x u I Z) xs vs) : (pL R).r xs (.ref a) I2 Z := ⟨a, vs, rfl, h, hl, hr.imp fun _ _ => R.mono e (Ex.refl _)⟩
theorem ne_new {p q : Addr} {o : HO} (h : C p = some o) (h' : C q = none) : p ≠ q := ne_of_none h h'
/-! ### statements, as they are printed -/
theorem q_asg [Im R] {i : Nat} {m : Res α} {k : α → Res ω} (h : EvX E K te σ I C m R) (s : St I C H) (hX : XH X E K I C) (hm : Post (m.bind k) Q X)
    (next : ∀ a v I2 H2, Ex I I2 → St I2 C H2 → R.r a v I2 Z → Post (k a) Q X → tz D (σ.set i (some v)) H2) : tSeq (tAsg te (gName i)) tz D σ H :=
  s_asg h s hX hm fun a v I2 H2 e2 s2 rv hm => next a v I2 H2 e2 s2 (Im.im rv) hm
theorem q_ret [Im R] {m : Res α} {k : α → Res ω} (h : EvX E K te σ I C m R) (s : St I C H) (hX : XH X E K I C) (hm : Post (m.bind k) Q X)
    (next : ∀ a v I2 H2, Ex I I2 → St I2 C H2 → R.r a v I2 Z → Post (k a) Q X → D.rt v H2) : tSeq (tRet te) tz D σ H :=
  s_ret h s hX hm fun a v I2 H2 e2 s2 rv hm => next a v I2 H2 e2 s2 (Im.im rv) hm
theorem q_retN {m : Res (List α)} {k : List α → Res ω} (h : EvN E K te σ I C m R) (s : St I C H) (hX : XH X E K I C) (hm : Post (m.bind k) Q X)
    (next : ∀ xs p vs I2 H2, Ex I I2 → C p = none → St I2 (upd C p (.lst vs)) H2 → vs.length ≤ sizeLine → A2 (fun x u => R.r x u I2 C) xs vs → Post (k xs) Q X → D.rt (.ref p) H2) : tSeq (tRet te) tz D σ H :=
  h I C H (Ex.refl _) (Ex.refl _) s _ ((Post.bind hm).mono (fun a z p vs I2 H2 e2 hp s2 hl hr => next a p vs I2 H2 e2 hp s2 hl hr z) hX)
/-- xs = e, a new list that will change -/
theorem q_asgN [Im R] {i : Nat} {m : Res (List α)} {k : List α → Res ω} (h : EvN E K te σ I C m R) (s : St I C H) (hX : XH X E K I C) (hm : Post (m.bind k) Q X)
    (next : ∀ xs p vs I2 C2 H2, Ex I I2 → C p = none → St I2 C2 H2 → C2 p = some (.lst vs) → (∀ q, q ≠ p → C2 q = C q) → vs.length ≤ sizeLine → A2 (fun x u => R.r x u I2 Z) xs vs → Post (k xs) Q X → tz D (σ.set i (some (.ref p))) H2) : tSeq (tAsg te (gName i)) tz D σ H :=
  h I C H (Ex.refl _) (Ex.refl _) s _ ((Post.bind hm).mono (fun a z p vs I2 H2 e2 hp s2 hl hr => next a p vs I2 _ H2 e2 hp s2 upd_same (fun q h => upd_ne h) hl (hr.imp fun _ _ h => Im.im h) z) hX)
theorem q_nil {i : Nat} (s : St I C H) (next : ∀ p C2 H2, C p = none → St I C2 H2 → C2 p = some (.lst []) → (∀ q, q ≠ p → C2 q = C q) → tz D (σ.set i (some (.ref p))) H2) : tSeq (tAsg (tLst tNil) (gName i)) tz D σ H :=
  s_newL s fun p H2 hp _ s2 => next p _ H2 hp s2 upd_same fun q h => upd_ne h
theorem q_app [Im R] {i : Nat} {p : Addr} {xs : List α} {vs : List V} {k : List α → Res ω} {m : Res α} (hv : σ[i]? = some (some (.ref p))) (hc : C p = some (.lst vs)) (hr : A2 (fun x u => R.r x u I Z) xs vs) (h : EvX E K te σ I C m R) (s : St I C H) (hX : XH X E K I C)
    (hm : Post ((m.bind fun x => push xs x).bind k) Q X)
    (next : ∀ ys vs' I2 C2 H2, Ex I I2 → St I2 C2 H2 → C2 p = some (.lst vs') → (∀ q, q ≠ p → C2 q = C q) → vs'.length ≤ sizeLine → A2 (fun x u => R.r x u I2 Z) ys vs' → Post (k ys) Q X → tz D σ H2) :
    tSeq (tDrop (tBM K "list" rAppend (tVar i) (tCons te tNil))) tz D σ H :=
  s_app hv hc (hr.imp fun _ _ h => Im.im h) h s hX hm fun ys vs' I2 H2 e2 s2 hl hr hm => next ys vs' I2 _ H2 e2 s2 upd_same (fun q h => upd_ne h) hl (hr.imp fun _ _ h => Im.im h) hm
theorem q_setL [Im R] {i : Nat} {p : Addr} {xs : List α} {vs : List V} {k : List α → Res ω} {ti : TE} {m : Res α} {mi : Res Int} (hv : σ[i]? = some (some (.ref p))) (hc : C p = some (.lst vs)) (hl : vs.length ≤ sizeLine) (hr : A2 (fun x u => R.r x u I Z) xs vs)
    (h : EvX E K te σ I C m R) (hi : EvX E K ti σ I C mi pI) (s : St I C H) (hX : XH X E K I C) (hm : Post ((m.bind fun x => mi.bind fun j => setR xs j x).bind k) Q X)
    (next : ∀ ys vs' I2 C2 H2, Ex I I2 → St I2 C2 H2 → C2 p = some (.lst vs') → (∀ q, q ≠ p → C2 q = C q) → vs'.length ≤ sizeLine → A2 (fun x u => R.r x u I2 Z) ys vs' → Post (k ys) Q X → tz D σ H2) :
    tSeq (tAsg te (gSub (tVar i) ti rSetL)) tz D σ H :=
  s_setL hv hc hl (hr.imp fun _ _ h => Im.im h) h hi s hX hm fun ys vs' I2 H2 e2 s2 hl hr hm => next ys vs' I2 _ H2 e2 s2 upd_same (fun q h => upd_ne h) hl (hr.imp fun _ _ h => Im.im h) hm
/-- xs.extend(e) -/
theorem q_ext [Im R] {i : Nat} {p : Addr} {xs : List α} {vs : List V} {k : List α → Res ω} {m : Res (List α)} (hv : σ[i]? = some (some (.ref p))) (hc : C p = some (.lst vs)) (hr : A2 (fun x u => R.r x u I Z) xs vs) (h : EvX E K te σ I C m (pL R)) (s : St I C H) (hX : XH X E K I C)
    (hm : Post ((m.bind fun x => rCatR xs x).bind k) Q X)
    (next : ∀ ys vs' I2 C2 H2, Ex I I2 → St I2 C2 H2 → C2 p = some (.lst vs') → (∀ q, q ≠ p → C2 q = C q) → vs'.length ≤ sizeLine → A2 (fun x u => R.r x u I2 Z) ys vs' → Post (k ys) Q X → tz D σ H2) :
    tSeq (tDrop (tBM K "list" rExtend (tVar i) (tCons te tNil))) tz D σ H :=
  ⟨.ref p, hv, .inl ⟨rfl, vs, .inl (.inl (s.c p _ hc))⟩, h I C H (Ex.refl _) (Ex.refl _) s _ ((Post.bind (Post.bind hm)).mono (fun a po v I2 H2 e2 s2 rv => by
    obtain ⟨b, us, rfl, h2, h3, h4⟩ := rv
    unfold rCatR at po
    split at po
    · rename_i hl
      have hn := hr.len
      have hl2 : vs.length + us.length ≤ sizeLine := by
        rw [hn, h4.len]
        exact Nat.le_trans hl (by decide)
      exact ⟨p, b, vs, us, rfl, rfl, s2.c p _ hc, s2.i b _ h2, hl2, next (xs ++ a) (vs ++ us) I2 _ _ e2 (s2.set hc) upd_same (fun q h => upd_ne h) (by rw [List.length_append]; exact hl2) ((hr.imp fun _ _ h => R.to e2 h).append (h4.imp fun _ _ h => Im.im h)) po⟩
    · exact po.elim) hX)⟩
/-- xs.pop(): the last item and the rest -/
def popR (xs : List α) : Res (α × List α) := match xs.getLast? with
  | some x => .ok (x, xs.dropLast)
  | none => .bad
theorem e_pop [Im R] {i : Nat} {p : Addr} {xs : List α} {vs : List V} {k : α × List α → Res ω} {Q2 : VK} (hv : σ[i]? = some (some (.ref p))) (hc : C p = some (.lst vs)) (hl : vs.length ≤ sizeLine) (hr : A2 (fun x u => R.r x u I Z) xs vs) (s : St I C H) (hm : Post ((popR xs).bind k) Q X)
    (next : ∀ a v C2 H2, St I C2 H2 → C2 p = some (.lst vs.dropLast) → (∀ q, q ≠ p → C2 q = C q) → vs.dropLast.length ≤ sizeLine → A2 (fun x u => R.r x u I Z) a.2 vs.dropLast → R.r a.1 v I Z → Post (k a) Q X → Q2 v H2) : tBM0 K "list" rPop (tVar i) σ H Q2 := by
  have po := Post.bind hm
  unfold popR at po
  cases hx : xs.getLast? with
  | none =>
    rw [hx] at po
    exact po.elim
  | some x =>
    rw [hx] at po
    have hn := hr.len
    have hx2 : xs[xs.length - 1]? = some x := by
      rw [← List.getLast?_eq_getElem?]
      exact hx
    obtain ⟨v, hv2, r⟩ := hr.get' hx2
    rw [← hn] at hv2
    exact ⟨.ref p, hv, .inl ⟨rfl, vs, .inl (.inl (s.c p _ hc))⟩, p, vs, v, rfl, rfl, s.c p _ hc, hv2, next (x, xs.dropLast) v _ _ (s.set hc) upd_same (fun q h => upd_ne h) (by rw [List.length_dropLast]; omega) hr.dropLast r po⟩
/-! the pool -/
variable {p : Addr} {M : Rt μ} {x : μ} {ws : List V}
theorem qm_asg [It M] [Im R] {i : Nat} {m : μ → Res (α × μ)} {k : α × μ → Res ω} (h : EvM E K p M te σ I (off C p) m R) (s : St I C H) (hc : C p = some (.lst ws)) (hx : M.r x ws I Z) (hm : Post ((m x).bind k) Q XF)
    (next : ∀ b v ws' I2 C2 H2, Ex I I2 → St I2 C2 H2 → C2 p = some (.lst ws') → (∀ q, q ≠ p → C2 q = C q) → M.r b.2 ws' I2 Z → R.r b.1 v I2 Z → Post (k b) Q XF → tz D (σ.set i (some v)) H2) : tSeq (tAsg te (gName i)) tz D σ H :=
  sm_asg h s hc (It.im hx) hm fun b v ws' I2 H2 e2 s2 hx2 rv hm => next b v ws' I2 _ H2 e2 s2 upd_same (fun q h => upd_ne h) (It.im hx2) (Im.im rv) hm
theorem qm_ret [It M] [Im R] {m : μ → Res (α × μ)} {k : α × μ → Res ω} (h : EvM E K p M te σ I (off C p) m R) (s : St I C H) (hc : C p = some (.lst ws)) (hx : M.r x ws I Z) (hm : Post ((m x).bind k) Q XF)
    (next : ∀ b v ws' I2 C2 H2, Ex I I2 → St I2 C2 H2 → C2 p = some (.lst ws') → (∀ q, q ≠ p → C2 q = C q) → M.r b.2 ws' I2 Z → R.r b.1 v I2 Z → Post (k b) Q XF → D.rt v H2) : tSeq (tRet te) tz D σ H :=
  sm_ret h s hc (It.im hx) hm fun b v ws' I2 H2 e2 s2 hx2 rv hm => next b v ws' I2 _ H2 e2 s2 upd_same (fun q h => upd_ne h) (It.im hx2) (Im.im rv) hm
theorem qm_expr [It M] [Im R] {m : μ → Res (α × μ)} {k : α × μ → Res ω} (h : EvM E K p M te σ I (off C p) m R) (s : St I C H) (hc : C p = some (.lst ws)) (hx : M.r x ws I Z) (hm : Post ((m x).bind k) Q XF)
    (next : ∀ b ws' I2 C2 H2, Ex I I2 → St I2 C2 H2 → C2 p = some (.lst ws') → (∀ q, q ≠ p → C2 q = C q) → M.r b.2 ws' I2 Z → Post (k b) Q XF → tz D σ H2) : tSeq (tDrop te) tz D σ H :=
  sm_expr h s hc (It.im hx) hm fun b ws' I2 H2 e2 s2 hx2 hm => next b ws' I2 _ H2 e2 s2 upd_same (fun q h => upd_ne h) (It.im hx2) hm
theorem qm_if [It M] {c : μ → Res (Bool × μ)} {m1 m2 : μ → Res ω} (h : EvTM E K p M tt σ I (off C p) c) (s : St I C H) (hc : C p = some (.lst ws)) (hx : M.r x ws I Z) (hm : Post (ifMR c x m1 m2) Q XF)
    (h1 : ∀ y ws' I2 C2 H2, Ex I I2 → St I2 C2 H2 → C2 p = some (.lst ws') → (∀ q, q ≠ p → C2 q = C q) → M.r y ws' I2 Z → Post (m1 y) Q XF → tu { D with nx := tz D } σ H2)
    (h2 : ∀ y ws' I2 C2 H2, Ex I I2 → St I2 C2 H2 → C2 p = some (.lst ws') → (∀ q, q ≠ p → C2 q = C q) → M.r y ws' I2 Z → Post (m2 y) Q XF → tw { D with nx := tz D } σ H2) : tSeq (tIfS tt tu tw) tz D σ H :=
  sm_if h s hc (It.im hx) hm (fun y ws' I2 H2 e2 s2 hx2 hm => h1 y ws' I2 _ H2 e2 s2 upd_same (fun q h => upd_ne h) (It.im hx2) hm) (fun y ws' I2 H2 e2 s2 hx2 hm => h2 y ws' I2 _ H2 e2 s2 upd_same (fun q h => upd_ne h) (It.im hx2) hm)
theorem qm_ifj [It M] (P : S → L2.St → Hp → Hp → Prop) {c : μ → Res (Bool × μ)} {m1 m2 : μ → Res S} {k : S → Res ω} (h : EvTM E K p M tt σ I (off C p) c) (s : St I C H) (hc : C p = some (.lst ws)) (hx : M.r x ws I Z) (hm : Post ((ifMR c x m1 m2).bind k) Q XF)
    (h1 : ∀ (N : L2.St → Hp → Prop) y ws' I2 C2 H2, Ex I I2 → St I2 C2 H2 → C2 p = some (.lst ws') → (∀ q, q ≠ p → C2 q = C q) → M.r y ws' I2 Z → Post (m1 y) (fun s' => ∀ σ2 I3 C3 H3, Ex I I3 → St I3 C3 H3 → P s' σ2 I3 C3 → N σ2 H3) XF → tu { D with nx := N } σ H2)
    (h2 : ∀ (N : L2.St → Hp → Prop) y ws' I2 C2 H2, Ex I I2 → St I2 C2 H2 → C2 p = some (.lst ws') → (∀ q, q ≠ p → C2 q = C q) → M.r y ws' I2 Z → Post (m2 y) (fun s' => ∀ σ2 I3 C3 H3, Ex I I3 → St I3 C3 H3 → P s' σ2 I3 C3 → N σ2 H3) XF → tw { D with nx := N } σ H2)
    (next : ∀ s' σ2 I3 C3 H3, Ex I I3 → St I3 C3 H3 → P s' σ2 I3 C3 → Post (k s') Q XF → tz D σ2 H3) : Evl.tCut (tIfS tt tu tw) tz D σ H :=
  sm_ifj P h s hc (It.im hx) hm (fun N y ws' I2 H2 e2 s2 hx2 hm => h1 N y ws' I2 _ H2 e2 s2 upd_same (fun q h => upd_ne h) (It.im hx2) hm) (fun N y ws' I2 H2 e2 s2 hx2 hm => h2 N y ws' I2 _ H2 e2 s2 upd_same (fun q h => upd_ne h) (It.im hx2) hm) next
theorem qm_forN [It M] (P : S → L2.St → Hp → Hp → Prop) {wi : TI} {g : TG} {m : μ → Res (List α × μ)} {f : α → S → Res S} {s0 : μ → S} {k : S → Res ω} (hi : EvIM E K p M wi σ I (off C p) m R) (s : St I C H) (hc : C p = some (.lst ws)) (hx : M.r x ws I Z) (hm : Post (((m x).bind fun b => loopN f b.1 (s0 b.2)).bind k) Q XF)
    (h0 : ∀ y ws' I2 C2, Ex I I2 → C2 p = some (.lst ws') → (∀ q, q ≠ p → C2 q = C q) → M.r y ws' I2 Z → P (s0 y) σ I2 C2) (hP : ∀ s' σ' I' I2 C', Ex I' I2 → P s' σ' I' C' → P s' σ' I2 C')
    (body : ∀ (N : L2.St → Hp → Prop) x v s' σ' I' C' H', Ex I I' → St I' C' H' → P s' σ' I' C' → R.r x v I' C' → Post (f x s') (fun s2 => ∀ σ2 I3 C3 H3, Ex I' I3 → St I3 C3 H3 → P s2 σ2 I3 C3 → N σ2 H3) XF →
      g v σ' H' fun σ2 H2 => tu { D with nx := N, ct := N, bk := tz D } σ2 H2)
    (next : ∀ s' σ' I' C' H', Ex I I' → St I' C' H' → P s' σ' I' C' → Post (k s') Q XF → tz D σ' H') : tSeq (tFor wi g tu) tz D σ H :=
  sm_forN P hi s hc (It.im hx) hm (fun y ws' I2 e2 hx2 => h0 y ws' I2 _ e2 upd_same (fun q h => upd_ne h) (It.im hx2)) hP body next
theorem q_set [It M] [Im S1] {i k : Nat} {g : μ → β → μ} {kk : μ → Res ω} {m : Res β} (hv : σ[i]? = some (some (.ref p))) (h : EvX E K te σ I C m S1) (j : Pk M k g S1) (s : St I C H) (hc : C p = some (.lst ws)) (hx : M.r x ws I Z) (hm : Post (m.bind fun a => kk (g x a)) Q XF)
    (next : ∀ y ws' I2 C2 H2, Ex I I2 → St I2 C2 H2 → C2 p = some (.lst ws') → (∀ q, q ≠ p → C2 q = C q) → M.r y ws' I2 Z → Post (kk y) Q XF → tz D σ H2) : tSeq (tAsg te (gSub (tVar i) (tC (.int (k : Int))) rSetL)) tz D σ H :=
  sm_set hv h j s hc (It.im hx) hm fun y ws' I2 H2 e2 s2 hx2 hm => next y ws' I2 _ H2 e2 s2 upd_same (fun q h => upd_ne h) (It.im hx2) hm
theorem q_pool {i k : Nat} {f : μ → β} [It M] (hv : σ[i]? = some (some (.ref p))) (hc : C p = some (.lst ws)) (hx : M.r x ws I Z) (j : Pj M k f S1) : EvX E K (tOp (rIxL K) (tVar i) (tC (.int (k : Int)))) σ I C (.ok (f x)) S1 := x_pool hv hc (It.im hx) j
/-! targets -/
theorem g1 [Im R] {i : Nat} : Tg K (gName i) R σ (fun x σ2 I _ => ∃ v, σ2 = σ.set i (some v) ∧ R.r x v I Z) := fun x v I C H Q s r k => k _ ⟨v, rfl, Im.im r⟩
theorem g2 [Im R] [Im S1] {i j : Nat} : Tg K (gTup K 2 (gCons (gName i) (gCons (gName j) gNil))) (pT (tc R (t1 S1))) σ (fun x σ2 I _ => ∃ u w, σ2 = (σ.set i (some u)).set j (some w) ∧ R.r x.1 u I Z ∧ S1.r x.2 w I Z) := fun x v I C H Q s r k =>
  g_two x v I C H Q s r fun σ2 ⟨u, w, e, h1, h2⟩ => k σ2 ⟨u, w, e, Im.im h1, Im.im h2⟩
theorem g3 {T : Rp γ} [Im R] [Im S1] [Im T] {i j l : Nat} : Tg K (gTup K 3 (gCons (gName i) (gCons (gName j) (gCons (gName l) gNil)))) (pT (tc R (tc S1 (t1 T)))) σ
    (fun x σ2 I _ => ∃ u w z, σ2 = ((σ.set i (some u)).set j (some w)).set l (some z) ∧ R.r x.1 u I Z ∧ S1.r x.2.1 w I Z ∧ T.r x.2.2 z I Z) := fun x v I C H Q s r k =>
  g_three x v I C H Q s r fun σ2 ⟨u, w, z, e, h1, h2, h3⟩ => k σ2 ⟨u, w, z, e, Im.im h1, Im.im h2, Im.im h3⟩
end
end Sd

namespace Sd
open PySem L2
/-- no places -/
def t0 : Rt Unit := ⟨fun _ vs _ _ => vs = [], fun _ _ h => h, 0, fun h => by rw [h]; rfl⟩
instance : It t0 := ⟨fun h => h⟩
abbrev Pl := Int × Int × Int × List Int
/-- the pool's places -/
abbrev pM : Rt Pl := tc pI (tc pI (tc pI (t1 (pL pI))))
theorem a2up {α : Type} {R : Rp α} {I I' : Hp} {xs : List α} {vs : List V} (e : Ex I I') (h : A2 (fun x u => R.r x u I Z) xs vs) : A2 (fun x u => R.r x u I' Z) xs vs := h.imp fun _ _ => R.mono e (Ex.refl _)
section
variable {E : XK} {K : PySem.W.Frag} {σ : L2.St} {I I' C C' H B : Hp} {α β γ μ ω S ρ : Type} {R : Rp α} {S1 : Rp β} {te ta tb : TE} {tt : TT} {tz tu tw : TS} {D : Ends} {Q : ω → Prop} {X : Ec → Int → Prop}
/-- a cell that is returned, known for good from then on -/
theorem q_retC [Im R] {i : Nat} {p : Addr} {xs : List α} {vs : List V} (hv : σ[i]? = some (some (.ref p))) (s : St I C H) (fr : Ex B C) (hB : B p = none) (hc : C p = some (.lst vs)) (hl : vs.length ≤ sizeLine) (hr : A2 (fun x u => R.r x u I Z) xs vs)
    (next : ∀ I2, Ex I I2 → St I2 B H → (pL R).r xs (.ref p) I2 Z → D.rt (.ref p) H) : tSeq (tRet (tVar i)) tz D σ H := by
  obtain ⟨I2, C2, e, s2, h, k⟩ := freeze s hc
  exact ⟨.ref p, hv, next I2 e (s2.less (fr_keep fr hB k)) (frz_list e h hl hr)⟩
/-- a cell that is returned as a new list of one's own -/
theorem q_retO [Im R] {i : Nat} {p : Addr} {xs : List α} {vs : List V} (hv : σ[i]? = some (some (.ref p))) (s : St I C H) (fr : Ex B C) (hB : B p = none) (hc : C p = some (.lst vs)) (hl : vs.length ≤ sizeLine) (hr : A2 (fun x u => R.r x u I Z) xs vs)
    (next : St I (upd B p (.lst vs)) H → A2 (fun x u => R.r x u I B) xs vs → D.rt (.ref p) H) : tSeq (tRet (tVar i)) tz D σ H :=
  ⟨.ref p, hv, next (s.less fun a u e => by
    by_cases q : a = p
    · rw [q, upd_same] at e
      rw [q, hc]
      exact e
    · rw [upd_ne q] at e
      exact fr a u e) (hr.imp fun _ _ h => Im.im h)⟩
/-- x += e, x -= e -/
theorem q_aug {i : Nat} {f : Int → Int → Int} {v : V} {a : Int} {m : Res Int} {k : Int → Res ω} (hv : σ[i]? = some (some v)) (r : pI.r a v I Z) (h : EvX E K te σ I C m pI) (s : St I C H) (hX : XH X E K I C) (hm : Post ((m.bind fun b => .ok (f a b)).bind k) Q X)
    (next : ∀ a v I2 H2, Ex I I2 → St I2 C H2 → pI.r a v I2 Z → Post (k a) Q X → tz D (σ.set i (some v)) H2) : tSeq (tAug i te (ipI f)) tz D σ H :=
  ⟨v, hv, h I C H (Ex.refl _) (Ex.refl _) s _ ((Post.bind (Post.bind hm)).mono (fun b p w I2 H2 e2 s2 rv => ⟨a, b, r, rv, next _ _ I2 H2 e2 s2 rfl p⟩) hX)⟩
/-- xs.append(e), e draws -/
theorem qm_app {M : Rt μ} [It M] [Im R] {i : Nat} {p q : Addr} {x : μ} {ws vs : List V} {xs : List α} {k : List α × μ → Res ω} {m : μ → Res (α × μ)} (hv : σ[i]? = some (some (.ref q))) (hq : C q = some (.lst vs)) (hqp : q ≠ p) (hr : A2 (fun x u => R.r x u I Z) xs vs) (h : EvM E K p M te σ I (off C p) m R)
    (s : St I C H) (hc : C p = some (.lst ws)) (hx : M.r x ws I Z) (hm : Post (((m x).bind fun b => (push xs b.1).bind fun ys => .ok (ys, b.2)).bind k) Q XF)
    (next : ∀ (b : List α × μ) vs' ws' I2 C2 H2, Ex I I2 → St I2 C2 H2 → C2 q = some (.lst vs') → C2 p = some (.lst ws') → (∀ r, r ≠ p → r ≠ q → C2 r = C r) → vs'.length ≤ sizeLine → A2 (fun x u => R.r x u I2 Z) b.1 vs' → M.r b.2 ws' I2 Z → Post (k b) Q XF → tz D σ H2) :
    tSeq (tDrop (tBM K "list" rAppend (tVar i) (tCons te tNil))) tz D σ H := by
  refine ⟨.ref q, hv, .inl ⟨rfl, vs, .inl (.inl (s.c q _ hq))⟩, ?_⟩
  refine h x ws I C H (Ex.refl _) off_ex s hc (It.im hx) _ ((Post.bind (Post.bind hm)).mono (fun b po v ws' I2 H2 e2 s2 hx2 rv => ?_) fun _ _ z => z)
  unfold push at po
  split at po
  · rename_i hl
    have hn := hr.len
    have hl2 : vs.length < sizeLine := by
      rw [hn]
      exact Nat.lt_of_lt_of_le hl (by decide)
    have hq2 : upd C p (.lst ws') q = some (.lst vs) := by
      rw [upd_ne hqp]
      exact hq
    refine ⟨q, vs, v, rfl, rfl, s2.c q _ hq2, hl2, next (xs ++ [b.1], b.2) (vs ++ [v]) ws' I2 _ _ e2 (s2.set hq2) upd_same ?_ (fun r h1 h2 => ?_) (by rw [List.length_append]; exact hl2) ?_ (It.im hx2) po⟩
    · rw [upd_ne (Ne.symm hqp), upd_same]
    · rw [upd_ne h2, upd_ne h1]
    · exact (hr.imp fun _ _ h => R.mono e2 (Ex.refl _) h).append (.one (Im.im rv))
  · exact po.elim
/-- pool[k] = e -/
def thenR (m : Res α) (g : α → β) (k : β → Res γ) : Res γ := m.bind fun a => k (g a)
@[simp] theorem thenR_eq (m : Res α) (g : α → β) (k : β → Res γ) : thenR m g k = m.bind fun a => k (g a) := rfl
theorem q_setT {p : Addr} {M : Rt μ} {x : μ} {ws : List V} [It M] [Im S1] {i k : Nat} {g : μ → β → μ} {kk : μ → Res ω} {m : Res β} (hv : σ[i]? = some (some (.ref p))) (h : EvX E K te σ I C m S1) (j : Pk M k g S1) (s : St I C H) (hc : C p = some (.lst ws)) (hx : M.r x ws I Z) (hm : Post (thenR m (fun a => g x a) kk) Q XF)
    (next : ∀ y ws' I2 C2 H2, Ex I I2 → St I2 C2 H2 → C2 p = some (.lst ws') → (∀ q, q ≠ p → C2 q = C q) → M.r y ws' I2 Z → Post (kk y) Q XF → tz D σ H2) : tSeq (tAsg te (gSub (tVar i) (tC (.int (k : Int))) rSetL)) tz D σ H := q_set hv h j s hc hx hm next
/-! None, or a thing -/
class NN {α : Type} (R : Rp α) : Prop where
  nn : ∀ {a : α} {v : V} {I C : Hp}, R.r a v I C → v ≠ .non
instance : NN pI := ⟨fun h z => by rw [show _ = V.int _ from h] at z; cases z⟩
instance : NN pB := ⟨fun h z => by rw [show _ = V.bl _ from h] at z; cases z⟩
instance : NN pS := ⟨fun h z => by rw [show _ = V.str _ from h.1] at z; cases z⟩
instance {T : Rt α} : NN (pT T) := ⟨fun ⟨a, vs, h, _⟩ z => by rw [h] at z; cases z⟩
instance {T : Rt α} : NN (pD T) := ⟨fun ⟨a, vs, h, _⟩ z => by rw [h] at z; cases z⟩
instance {T : Rt α} : NN (pU K T) := ⟨fun ⟨a, vs, h, _⟩ z => by rw [h] at z; cases z⟩
instance : NN (pL R) := ⟨fun ⟨a, vs, h, _⟩ z => by rw [h] at z; cases z⟩
instance : NN (pQ K R) := ⟨fun ⟨a, vs, h, _⟩ z => by rw [h] at z; cases z⟩
def someR' (a : α) : Res (Option α) := .ok (some a)
@[simp] theorem someR'_eq (a : α) : someR' a = .ok (some a) := rfl
theorem x_some [NN R] {m : Res α} (h : EvX E K te σ I C m R) : EvX E K te σ I C (un someR' m) (pO R) := fun I1 C1 H1 e e' s Q q =>
  h I1 C1 H1 e e' s Q ((Post.bind q).mono (fun a p v I2 H2 e2 s2 rv => p v I2 H2 e2 s2 ⟨rv, NN.nn rv⟩) fun _ _ z => z)
theorem x_none : EvX E K (tC .non) σ I C (.ok none) (pO R) := x_c fun _ _ => rfl
/-- it is there -/
def getO : Option α → Res α
  | some a => .ok a
  | none => .bad
@[simp] theorem getO_some (a : α) : getO (some a) = .ok a := rfl
theorem x_get {m : Res (Option α)} (h : EvX E K te σ I C m (pO R)) : EvX E K te σ I C (un getO m) R := fun I1 C1 H1 e e' s Q q =>
  h I1 C1 H1 e e' s Q ((Post.bind q).mono (fun a p v I2 H2 e2 s2 rv => by
    cases a with
    | none => exact p.elim
    | some a => exact p v I2 H2 e2 s2 rv.1) fun _ _ z => z)
/-! one of two -/
def pX (R : Rp α) (S : Rp β) : Rp (α ⊕ β) := ⟨fun x v I C => match x with
  | .inl a => R.r a v I C
  | .inr b => S.r b v I C, fun {a v I I' C C'} e e' h => by
  cases a with
  | inl a => exact R.mono e e' h
  | inr a => exact S.mono e e' h⟩
instance [Im R] [Im S1] : Im (pX R S1) := ⟨fun {a v I C C'} h => by
  cases a with
  | inl a => exact Im.im (R := R) h
  | inr a => exact Im.im (R := S1) h⟩
def getL : α ⊕ β → Res α
  | .inl a => .ok a
  | .inr _ => .bad
def getR : α ⊕ β → Res β
  | .inl _ => .bad
  | .inr a => .ok a
def inlR (a : α) : Res (α ⊕ β) := .ok (.inl a)
def inrR (a : β) : Res (α ⊕ β) := .ok (.inr a)
@[simp] theorem getL_eq (a : α) : getL (.inl a : α ⊕ β) = .ok a := rfl
@[simp] theorem getR_eq (a : β) : getR (.inr a : α ⊕ β) = .ok a := rfl
@[simp] theorem inlR_eq (a : α) : (inlR a : Res (α ⊕ β)) = .ok (.inl a) := rfl
@[simp] theorem inrR_eq (a : β) : (inrR a : Res (α ⊕ β)) = .ok (.inr a) := rfl
theorem x_getL {m : Res (α ⊕ β)} (h : EvX E K te σ I C m (pX R S1)) : EvX E K te σ I C (un getL m) R := fun I1 C1 H1 e e' s Q q =>
  h I1 C1 H1 e e' s Q ((Post.bind q).mono (fun a p v I2 H2 e2 s2 rv => by
    cases a with
    | inl a => exact p v I2 H2 e2 s2 rv
    | inr a => exact p.elim) fun _ _ z => z)
theorem x_getR {m : Res (α ⊕ β)} (h : EvX E K te σ I C m (pX R S1)) : EvX E K te σ I C (un getR m) S1 := fun I1 C1 H1 e e' s Q q =>
  h I1 C1 H1 e e' s Q ((Post.bind q).mono (fun a p v I2 H2 e2 s2 rv => by
    cases a with
    | inl a => exact p.elim
    | inr a => exact p v I2 H2 e2 s2 rv) fun _ _ z => z)
theorem x_inl {m : Res α} (h : EvX E K te σ I C m R) : EvX E K te σ I C (un inlR m) (pX R S1) := fun I1 C1 H1 e e' s Q q =>
  h I1 C1 H1 e e' s Q ((Post.bind q).mono (fun a p v I2 H2 e2 s2 rv => p v I2 H2 e2 s2 rv) fun _ _ z => z)
theorem x_inr {m : Res β} (h : EvX E K te σ I C m S1) : EvX E K te σ I C (un inrR m) (pX R S1) := fun I1 C1 H1 e e' s Q q =>
  h I1 C1 H1 e e' s Q ((Post.bind q).mono (fun a p v I2 H2 e2 s2 rv => p v I2 H2 e2 s2 rv) fun _ _ z => z)
/-! the kinds, for isinstance -/
class TyR (K : PySem.W.Frag) {α : Type} (R : Rp α) (n : String) : Prop where
  ty : ∀ {a : α} {v : V} {I C H : Hp}, St I C H → R.r a v I C → TyX K H v (.type n)
instance : TyR K pI "int" := ⟨fun s h => by rw [show _ = V.int _ from h]; exact .base (.int _)⟩
instance : TyR K pB "bool" := ⟨fun s h => by rw [show _ = V.bl _ from h]; exact .base (.bl _)⟩
instance : TyR K pS "str" := ⟨fun s h => by rw [show _ = V.str _ from h.1]; exact .base (.str _)⟩
instance {T : Rt α} : TyR K (pT T) "tuple" := ⟨fun s ⟨a, vs, e, h, _⟩ => by rw [e]; exact .base (.tup (s.i _ _ h))⟩
instance {T : Rt α} : TyR K (pD T) "list" := ⟨fun s ⟨a, vs, e, h, _⟩ => by rw [e]; exact .base (.lst (s.i _ _ h))⟩
instance : TyR K (pL R) "list" := ⟨fun s ⟨a, vs, e, h, _⟩ => by rw [e]; exact .base (.lst (s.i _ _ h))⟩
instance : TyR K (pV R) "list" := ⟨fun s h => by
  obtain ⟨a, vs, rfl, h, _⟩ := pV.at s h
  exact .base (.lst h)⟩
theorem o_isi {n c : String} {b : Bool} [TyR K R n] (hk : kitB n c = some b) : OpL E K (rIsi K) (fun _ => .ok b) (tc R (t1 (pY c))) pB := fun I C H a vs s hv Q q => by
  obtain ⟨v, us, rfl, r, w, rfl, rw⟩ := hv
  have hw : w = .ty c := rw
  subst hw
  exact ⟨v, .ty c, _, _, b, rfl, .ty c, TyR.ty s r, kit_ty hk, PQ.now q s rfl⟩
theorem o_lenT {T : Rt α} : OpL E K (fun xs H Q => ∃ p ys, xs = [.ref p] ∧ (SqL K H p ys ∨ SqT K H p ys) ∧ Q (.int ys.length) H) (fun _ => .ok (T.n : Int)) (t1 (pT T)) pI := fun I C H a vs s hv Q q => by
  obtain ⟨v, rfl, p, us, rfl, h, r⟩ := hv
  exact ⟨p, us, rfl, .inr (.inl (.inl (s.i _ _ h))), by rw [T.len r]; exact PQ.now q s rfl⟩
end
end Sd

namespace Sd
open PySem L2
theorem passE {P : Program} {w : World} {K : PySem.W.Frag} {mg : Str → Option Value} {base : Heap} {N : List Str} {qual : Str} {scope : Scope} {f : Addr} {cdv : Value} {A : Around} {outer : List Env} {s : Shared} {H : Hp} {E : XK} :
    Passes (L2.CX P w) (cxOf (L2.CX P w) P w K mg base N qual scope f cdv A outer s H E) E := passes_call (takes_of rfl rfl rfl rfl) fun _ _ _ _ h => h
/-! the built-ins -/
theorem bt_len : bootBuiltins "len" = some (.builtin "len") := by decide +kernel
theorem bt_max : bootBuiltins "max" = some (.builtin "max") := by decide +kernel
theorem bt_min : bootBuiltins "min" = some (.builtin "min") := by decide +kernel
theorem bt_sum : bootBuiltins "sum" = some (.builtin "sum") := by decide +kernel
theorem bt_sorted : bootBuiltins "sorted" = some (.builtin "sorted") := by decide +kernel
theorem bt_isinstance : bootBuiltins "isinstance" = some (.builtin "isinstance") := by decide +kernel
theorem bt_int : bootBuiltins "int" = some (.type "int") := by decide +kernel
theorem bt_str : bootBuiltins "str" = some (.type "str") := by decide +kernel
theorem bt_bool : bootBuiltins "bool" = some (.type "bool") := by decide +kernel
theorem bt_list : bootBuiltins "list" = some (.type "list") := by decide +kernel
theorem bt_tuple : bootBuiltins "tuple" = some (.type "tuple") := by decide +kernel
theorem bt_ValueError : bootBuiltins "ValueError" = some (.type "ValueError") := by decide +kernel
theorem bt_range : bootBuiltins "range" = some (.type "range") := by decide +kernel
section
variable {E : XK} {K : PySem.W.Frag} {σ : L2.St} {I I' C C' H B C0 : Hp} {α β γ μ ω S ρ : Type} {R : Rp α} {S1 : Rp β} {te ta tb : TE} {tt : TT} {tz tu tw : TS} {D : Ends} {Q : ω → Prop} {X : Ec → Int → Prop} {p q : Addr}
abbrev rLen1 (K : PySem.W.Frag) : List V → Hp → VK → Prop := fun xs H Q => ∃ p ys, xs = [.ref p] ∧ (SqL K H p ys ∨ SqT K H p ys) ∧ Q (.int ys.length) H
abbrev rList1 (K : PySem.W.Frag) : List V → Hp → VK → Prop := fun xs H Q => ∃ p ys, xs = [.ref p] ∧ (SqL K H p ys ∨ SqT K H p ys) ∧ ∀ l, H l = none → Q (.ref l) (upd H l (.lst ys))
abbrev rTuple1 (K : PySem.W.Frag) : List V → Hp → VK → Prop := fun xs H Q => ∃ p ys, xs = [.ref p] ∧ ((SqL K H p ys ∧ ∀ l, H l = none → Q (.ref l) (upd H l (.tup ys))) ∨ (SqT K H p ys ∧ Q (.ref p) H))
theorem Op2.ofL {r : R2} {f : List α → β → Res γ} {T : Rp γ} (h : Op2 E K r f (pV R) S1 T) : Op2 E K r f (pL R) S1 T := fun I C H a b x y s ⟨p, vs, h1, h2, h3, h4⟩ hy Q q => h I C H a b x y s ⟨p, vs, h1, .inl h2, h3, h4⟩ hy Q q
def b2iR (b : Bool) : Res Int := .ok (if b = true then 1 else 0)
@[simp] theorem b2iR_eq (b : Bool) : b2iR b = .ok (if b = true then 1 else 0) := rfl
theorem o_intB : OpL E K (fun xs H Q => (∃ i, xs = [.int i] ∧ Q (.int i) H) ∨ ∃ k, xs = [.bl k] ∧ Q (.int (if k then 1 else 0)) H) b2iR (t1 pB) pI := fun I C H a vs s hv Q q => by
  obtain ⟨v, rfl, h⟩ := hv
  have hv : v = .bl a := h
  subst hv
  exact .inr ⟨a, rfl, PQ.now q s rfl⟩
/-! the end of a def -/
abbrev PM {α μ : Type} (p : Addr) (M : Rt μ) (R : Rp α) (I C : Hp) (Q : VK) (b : α × μ) : Prop := ∀ v ws' I2 H2, Ex I I2 → St I2 (upd C p (.lst ws')) H2 → M.r b.2 ws' I2 (upd C p (.lst ws')) → R.r b.1 v I2 (upd C p (.lst ws')) → Q v H2
theorem ret_pool [Im R] {M : Rt μ} [It M] {I0 : Hp} {Q : VK} {b : α × μ} {ws : List V} {v : V} (hm : PM p M R I0 C0 Q b) (e : Ex I0 I) (fr : Ex (off C0 p) C) (s : St I C H) (hc : C p = some (.lst ws)) (hx : M.r b.2 ws I Z) (r : R.r b.1 v I Z) : Q v H :=
  hm v ws I H e (s.less (ex_pool fr hc)) (It.im hx) (Im.im r)
theorem ret_poolN {M : Rt μ} [It M] {I0 : Hp} {Q : VK} {b : Unit × μ} {ws : List V} (hm : PM p M pN I0 C0 Q b) (e : Ex I0 I) (fr : Ex (off C0 p) C) (s : St I C H) (hc : C p = some (.lst ws)) (hx : M.r b.2 ws I Z) : Q .non H :=
  hm .non ws I H e (s.less (ex_pool fr hc)) (It.im hx) rfl
theorem ret_own [Im R] {I0 : Hp} {Q : VK} {xs : List α} {vs : List V} (hm : PN R I0 C0 Q xs) (e : Ex I0 I) (fr : Ex C0 C) (hp : C p = none) (s : St I (upd C p (.lst vs)) H) (hl : vs.length ≤ sizeLine) (hr : A2 (fun x u => R.r x u I C) xs vs) : Q (.ref p) H :=
  hm p vs I H e (Ex.free fr hp) (s.less fun a u h => by
    by_cases z : a = p
    · rw [z, upd_same] at h
      rw [z, upd_same]
      exact h
    · rw [upd_ne z] at h ⊢
      exact fr a u h) hl (hr.imp fun _ _ h => Im.im h)
theorem fr_pool2 {C2 : Hp} (h : Ex (off C0 p) C) (hq : off C0 p q = none) (k : ∀ r, r ≠ p → r ≠ q → C2 r = C r) : Ex (off C0 p) C2 := fun a o e => by
  have h1 : a ≠ p := fun z => by rw [z, off_same] at e; cases e
  rw [k a h1 (ne_of_none e hq)]
  exact h a o e
theorem i_cellZ [Im R] {i : Nat} {a : Addr} {vs : List V} {xs : List α} (h : σ[i]? = some (some (.ref a))) (hc : C a = some (.lst vs)) (hl : vs.length ≤ sizeLine) (hr : A2 (fun x u => R.r x u I Z) xs vs) :
    EvI E K (iList K (tVar i)) σ I C (fun C3 => C3 a = some (.lst vs)) (.ok xs) R := i_cell h hc hl (hr.imp fun _ _ h => Im.im h)
theorem im_rng2 {M : Rt μ} [It M] {Cp : Hp} {tr : TA} {m : μ → Res ((Int × Int) × μ)} (h : EvAM E K p M tr σ I Cp m (tc pI (t1 pI))) : EvIM E K p M (iRng2 tr) σ I Cp (unM rng2 m) pI := fun x ws I1 C1 H1 e e' s hc hx Kt q =>
  h x ws I1 C1 H1 e e' s hc hx _ ((Post.bind q).mono (fun b z vs ws' I2 H2 e2 s2 hx2 ⟨v, us, hv, rv, w, hw, rw⟩ => by
    have z := Post.bind z
    unfold rng2 at z
    split at z
    · rename_i hn
      have hv1 : v = .int b.1.1 := rv
      have hw1 : w = .int b.1.2 := rw
      subst hv hw hv1 hw1
      refine ⟨b.1.1, b.1.2, rfl, by omega, z ws' (Itr b.1.1 (b.1.2 - b.1.1).toNat) (fun _ => True) (YFn fun i => .int (b.1.1 + i)) I2 H2 e2 s2 hx2 (by rw [rangeL_length]; exact Nat.le_trans (show (b.1.2 - b.1.1).toNat ≤ 2000000 by omega) (by decide)) (by rw [rangeL_length]; exact walk_range) (fun _ _ _ _ _ => trivial) (fun i x v' I3 C3 H3 H4 hx e3 s3 y => ?_)⟩
      obtain ⟨rfl, rfl⟩ := y
      rw [rangeL_get hx]
      exact ⟨I3, Ex.refl _, s3, rfl⟩
    · exact z.elim) fun _ _ z => z)
theorem im_list {M : Rt μ} [It M] [Im R] {Cp : Hp} {m : μ → Res (List α × μ)} (h : EvM E K p M te σ I Cp m (pL R)) : EvIM E K p M (iList K te) σ I Cp m R := fun x ws I1 C1 H1 e e' s hc hx Kt q =>
  h x ws I1 C1 H1 e e' s hc hx _ (q.mono (fun b z v ws' I2 H2 e2 s2 hx2 ⟨a, us, h1, h2, h3, h4⟩ => ⟨a, h1, ⟨us, .inl (.inl (s2.i a _ h2))⟩, by
    have hn := h4.len
    refine z ws' (Itl K a) (fun H => SqL K H a us) (YAt us) I2 H2 e2 s2 hx2 (by omega) (by rw [← hn]; exact walk_list) (fun I3 C3 H3 e3 s3 => .inl (.inl (s3.i a _ (e3 a _ h2)))) (fun i x v' I3 C3 H3 H4 hx e3 s3 y => ?_)
    obtain ⟨rfl, y⟩ := y
    obtain ⟨w, hw, r⟩ := h4.get' hx
    rw [hw] at y
    cases y
    exact ⟨I3, Ex.refl _, s3, R.to e3 r⟩⟩) fun _ _ z => z)
theorem m_v {M : Rt μ} {Cp : Hp} {m : μ → Res (List α × μ)} (h : EvM E K p M te σ I Cp m (pL R)) : EvM E K p M te σ I Cp m (pV R) := fun x ws I1 C1 H1 e e' s hc hx Q q =>
  h x ws I1 C1 H1 e e' s hc hx Q (q.mono (fun b z v ws' I2 H2 e2 s2 hx2 ⟨a, vs, h1, h2, h3, h4⟩ => z v ws' I2 H2 e2 s2 hx2 ⟨a, vs, h1, .inl h2, h3, h4⟩) fun _ _ z => z)
/-! slices whose ends draw -/
def EvOM (E : XK) (K : PySem.W.Frag) (p : Addr) {μ : Type} (M : Rt μ) (to : TO) (σ : L2.St) (I Cp : Hp) (m : μ → Res (Option Int × μ)) : Prop :=
  ∀ x ws I1 C1 H1, Ex I I1 → Ex Cp C1 → St I1 C1 H1 → C1 p = some (.lst ws) → M.r x ws I1 C1 → ∀ Q : Option Int → Hp → Prop, Post (m x) (fun b => ∀ ws' I2 H2, Ex I1 I2 → St I2 (upd C1 p (.lst ws')) H2 → M.r b.2 ws' I2 (upd C1 p (.lst ws')) → Q b.1 H2) (fun _ _ => False) → to σ H1 Q
theorem pm_pure {M : Rt μ} {Cp : Hp} {to : TO} {m : Res (Option Int)} (h : EvO E K to σ I Cp m) : EvOM E K p M to σ I Cp (liftM m) := fun x ws I1 C1 H1 e e' s hc hx Q q =>
  h I1 C1 H1 e e' s Q ((Post.bind q).mono (fun a z I2 H2 e2 s2 => by
    have e3 : upd C1 p (.lst ws) = C1 := upd_id hc
    exact z ws I2 H2 e2 (by rw [e3]; exact s2) (by rw [e3]; exact M.mono e2 (Ex.refl _) hx)) fun _ _ z => z.elim)
theorem pm_some {M : Rt μ} {Cp : Hp} {m : μ → Res (Int × μ)} (h : EvM E K p M te σ I Cp m pI) : EvOM E K p M (tPart te) σ I Cp (unM (fun i => .ok (some i)) m) := fun x ws I1 C1 H1 e e' s hc hx Q q =>
  h x ws I1 C1 H1 e e' s hc hx _ ((Post.bind q).mono (fun b z v ws' I2 H2 e2 s2 hx2 rv => ⟨b.1, rv, z ws' I2 H2 e2 s2 hx2⟩) fun _ _ z => z)
def slM (m : Res (List α)) (lo hi : μ → Res (Option Int × μ)) : μ → Res (List α × μ) := fun x => m.bind fun xs => (lo x).bind fun a => (hi a.2).bind fun b => .ok (cut xs a.1 b.1, b.2)
theorem m_sl {M : Rt μ} [It M] [Im R] {Cp : Hp} {tl th : TO} {m : Res (List α)} {lo hi : μ → Res (Option Int × μ)} (hp : Cp p = none) (h : EvX E K te σ I Cp m (pL R)) (hl : EvOM E K p M tl σ I Cp lo) (hh : EvOM E K p M th σ I Cp hi) :
    EvM E K p M (tSl (rSlL K) te tl th) σ I Cp (slM m lo hi) (pL R) := fun x ws I1 C1 H1 e e' s hc hx Q q =>
  h I1 C1 H1 e e' s _ ((Post.bind q).mono (fun xs z v I2 H2 e2 s2 ⟨a, vs, h1, h2, h3, h4⟩ =>
    hl x ws I2 C1 H2 (e.trans e2) e' s2 hc (M.mono e2 (Ex.refl _) hx) _ ((Post.bind z).mono (fun b z2 ws' I3 H3 e3 s3 hx3 =>
      hh b.2 ws' I3 _ H3 (e.trans (e2.trans e3)) (e'.over hp) s3 upd_same hx3 _ ((Post.bind z2).mono (fun c z3 ws2 I4 H4 e4 s4 hx4 => by
        refine ⟨a, vs, h1, .inl (.inl (s4.i a _ (e4 a _ (e3 a _ h2)))), fun t ht => ?_⟩
        have eu : upd (upd C1 p (.lst ws')) p (.lst ws2) = upd C1 p (.lst ws2) := by
          funext r
          by_cases hr : r = p
          · rw [hr, upd_same, upd_same]
          · rw [upd_ne hr, upd_ne hr, upd_ne hr]
        rw [eu] at s4 hx4
        have ex := Ex.new (o := HO.lst (cutV vs b.1 c.1)) (s4.i.free ht)
        refine z3 (.ref t) ws2 (upd I4 t (.lst (cutV vs b.1 c.1))) _ (e2.trans (e3.trans (e4.trans ex))) (s4.newI ht) (M.mono ex (Ex.refl _) hx4) ⟨t, _, rfl, upd_same, ?_, ?_⟩
        · unfold cutV
          rw [List.length_take, List.length_drop]
          omega
        · exact (A2.cut (h4.imp fun _ _ r => R.to (e3.trans (e4.trans ex)) r) b.1 c.1)) fun _ _ z => z)) fun _ _ z => z)) fun _ _ z => z.elim)
theorem m_notV {M : Rt μ} {Cp : Hp} {m : μ → Res (Bool × μ)} (h : EvM E K p M te σ I Cp m pB) : EvM E K p M (tNotV te) σ I Cp (unM notR m) pB := fun x ws I1 C1 H1 e e' s hc hx Q q =>
  h x ws I1 C1 H1 e e' s hc hx _ ((Post.bind q).mono (fun b z v ws' I2 H2 e2 s2 hx2 rv => ⟨b.1, rv, z _ ws' I2 H2 e2 s2 hx2 rfl⟩) fun _ _ z => z)
theorem m_andV {M : Rt μ} {Cp : Hp} {m n : μ → Res (Bool × μ)} (hp : Cp p = none) (h1 : EvM E K p M ta σ I Cp m pB) (h2 : EvM E K p M tb σ I Cp n pB) : EvM E K p M (tAndV ta tb) σ I Cp (andM m n) pB := fun x ws I1 C1 H1 e e' s hc hx Q q =>
  h1 x ws I1 C1 H1 e e' s hc hx _ ((Post.bind q).mono (fun b z v ws' I2 H2 e2 s2 hx2 rv => by
    obtain ⟨c, y⟩ := b
    refine ⟨c, rv, ?_⟩
    cases c with
    | true =>
      rw [if_pos rfl]
      refine h2 y ws' I2 _ H2 (e.trans e2) (e'.over hp) s2 upd_same hx2 Q (Post.mono (m := n y) z (fun d z2 v ws2 I3 H3 e3 s3 hx3 rw => ?_) fun _ _ z => z)
      have eu : upd (upd C1 p (.lst ws')) p (.lst ws2) = upd C1 p (.lst ws2) := by
        funext r
        by_cases hr : r = p
        · rw [hr, upd_same, upd_same]
        · rw [upd_ne hr, upd_ne hr, upd_ne hr]
      rw [eu] at s3 hx3
      exact z2 v ws2 I3 H3 (e2.trans e3) s3 hx3 rw
    | false => exact z (.bl false) ws' I2 H2 e2 s2 hx2 rfl) fun _ _ z => z)
theorem m_orV {M : Rt μ} {Cp : Hp} {m n : μ → Res (Bool × μ)} (hp : Cp p = none) (h1 : EvM E K p M ta σ I Cp m pB) (h2 : EvM E K p M tb σ I Cp n pB) : EvM E K p M (tOrV ta tb) σ I Cp (orM m n) pB := fun x ws I1 C1 H1 e e' s hc hx Q q =>
  h1 x ws I1 C1 H1 e e' s hc hx _ ((Post.bind q).mono (fun b z v ws' I2 H2 e2 s2 hx2 rv => by
    obtain ⟨c, y⟩ := b
    refine ⟨c, rv, ?_⟩
    cases c with
    | false =>
      rw [if_neg (by decide)]
      refine h2 y ws' I2 _ H2 (e.trans e2) (e'.over hp) s2 upd_same hx2 Q (Post.mono (m := n y) z (fun d z2 v ws2 I3 H3 e3 s3 hx3 rw => ?_) fun _ _ z => z)
      have eu : upd (upd C1 p (.lst ws')) p (.lst ws2) = upd C1 p (.lst ws2) := by
        funext r
        by_cases hr : r = p
        · rw [hr, upd_same, upd_same]
        · rw [upd_ne hr, upd_ne hr, upd_ne hr]
      rw [eu] at s3 hx3
      exact z2 v ws2 I3 H3 (e2.trans e3) s3 hx3 rw
    | true => exact z (.bl true) ws' I2 H2 e2 s2 hx2 rfl) fun _ _ z => z)
/-- a for whose source draws, a turn of it may break or return -/
theorem qm_forR {M : Rt μ} {x : μ} {ws : List V} [It M] (P : S → L2.St → Hp → Hp → Prop) {wi : TI} {g : TG} {m : μ → Res (List α × μ)} {f : α → S → Res (Out S ρ)} {s0 : μ → S} {k : Out S ρ → Res ω} (hi : EvIM E K p M wi σ I (off C p) m R) (s : St I C H) (hc : C p = some (.lst ws)) (hx : M.r x ws I Z) (hm : Post (((m x).bind fun b => loopR f b.1 (s0 b.2)).bind k) Q XF)
    (h0 : ∀ y ws' I2 C2, Ex I I2 → C2 p = some (.lst ws') → (∀ q, q ≠ p → C2 q = C q) → M.r y ws' I2 Z → P (s0 y) σ I2 C2) (hP : ∀ s' σ' I' I2 C', Ex I' I2 → P s' σ' I' C' → P s' σ' I2 C')
    (body : ∀ (N : L2.St → Hp → Prop) x v s' σ' I' C' H', Ex I I' → St I' C' H' → P s' σ' I' C' → R.r x v I' C' → Post (f x s') (fun o => match o with
        | .nx s2 => ∀ σ2 I3 C3 H3, Ex I' I3 → St I3 C3 H3 → P s2 σ2 I3 C3 → N σ2 H3
        | .br s2 => ∀ σ2 I3 C3 H3, Ex I' I3 → St I3 C3 H3 → P s2 σ2 I3 C3 → tz D σ2 H3
        | .rt r => Post (k (.rt r)) Q XF) XF →
      g v σ' H' fun σ2 H2 => tu { D with nx := N, ct := N, bk := tz D } σ2 H2)
    (next : ∀ s' σ' I' C' H', Ex I I' → St I' C' H' → P s' σ' I' C' → Post (k (.nx s')) Q XF → tz D σ' H') : tSeq (tFor wi g tu) tz D σ H :=
  hi x ws I C H (Ex.refl _) off_ex s hc (It.im hx) _ ((Post.bind (Post.bind hm)).mono (fun b q2 ws2 J G Y I2 H2 e2 s2 hx2 hz w hG hY => by
    refine for_it w (fun i σ' H' => ∃ s' I' C', Ex I2 I' ∧ St I' C' H' ∧ P s' σ' I' C' ∧ Post ((loopR f (b.1.drop i) s').bind k) Q XF) ⟨s0 b.2, I2, _, Ex.refl _, s2, h0 _ _ I2 _ e2 upd_same (fun q h => upd_ne h) (It.im hx2), by rw [List.drop_zero]; exact Post.of_bind q2⟩
      (fun i σ' H' hi ⟨s', I', C', e3, s3, p, _⟩ => hG I' C' H' e3 s3) (fun i x σ' H1 H' hi ⟨s', I', C', e3, s3, p, po⟩ y => ?_) (fun σ' H' ⟨s', I', C', e3, s3, p, po⟩ => ?_)
    · obtain ⟨a, ha⟩ : ∃ a, b.1[i]? = some a := ⟨b.1[i], by simp [hi]⟩
      rw [drop_cons ha] at po
      obtain ⟨I4, e4, s4, ra⟩ := hY i a x I' C' H1 H' ha e3 s3 y
      refine body _ a x s' σ' I4 C' H' (e2.trans (e3.trans e4)) s4 (hP _ _ _ _ _ e4 p) ra ((Post.bind (Post.bind po)).mono (fun o z => ?_) fun _ _ z => z)
      cases o with
      | nx s3 => exact fun σ2 I5 C5 H5 e5 s5 p5 => ⟨s3, I5, C5, e3.trans (e4.trans e5), s5, p5, Post.of_bind z⟩
      | br s3 => exact fun σ2 I5 C5 H5 e5 s5 p5 => next s3 σ2 I5 C5 H5 (e2.trans (e3.trans (e4.trans e5))) s5 p5 z
      | rt r => exact z
    · rw [List.drop_length] at po
      exact next s' σ' I' C' H' (e2.trans e3) s3 p po) fun _ _ z => z)
end
end Sd

namespace PySem.W
open PySem PySem.Spec PySem.Calls PyProof.Rows
section
variable {prog : Program} {w : World} {A : Around} {E : Value → Shared → Prop} {s : Shared} {K : Frag} {y D0 : Addr} {oy dct : Obj}
/-- what a caught error with a dict of its own answers to __class__ -/
theorem sd_class {G : Option Value → Shared → Prop} (T : L2.ExcC K D0) (hK : K.In s.heap) (J : InstAt s.heap y oy D0 (some dct)) (hG : G (some (.ref D0)) { s with toks := s.toks + 1 }) :
    wpAny (model prog w) A (getAttr? (.ref y) "__class__") G E s := by
  have hfind : findObj K D0 (some dct) "__class__" = some (.bind (.builtin "getset_descriptor.__get__") (.builtin "object.__class__")) := by
    obtain ⟨cd, hcd, _⟩ := any_some T.hd
    unfold findObj
    rw [hcd, Option.bind_some, T.ha, Option.bind_some]
    simp [T.hn, T.ht]
  obtain ⟨heap, gens, drw, tk, osx⟩ := s
  have kT := J.type (M := model prog w)
  have kA := looks_findIn (M := model prog w) hK T.hg
  have kB := looks_findIn (M := model prog w) hK T.hk
  have kF := looks_find (M := model prog w) hK J hfind
  have kS : Looks (model prog w) heap (isInstance (.ref y) (.type "BaseException")) true := kT.andThen (looks_subIn hK T.hs)
  have n0 : (false && onTheHeap (Value.builtin "BaseException.__getattribute__")) = false := rfl
  have n1 : (Value.builtin "BaseException.__getattribute__" == Value.builtin "object.__getattribute__") = false := by decide +kernel
  have n2 : (onTheHeap (Value.ref D0) && Value.builtin "BaseException.__getattribute__" == Value.builtin "object.__getattribute__") = false := by
    rw [n1]
    rfl
  unfold getAttr? getAttrBy? getAttrBy
  refine wpAny_bind (wpAny_mkText (wpAny_bind (wpAny_attempt (wpAny_holding (wpAny_bind (kT.at (wpAny_bind (kA.at ?_))))))))
  show wpAny _ _ (if (onTheHeap (Value.ref D0) && Value.builtin "BaseException.__getattribute__" == Value.builtin "object.__getattribute__") = true then _ else _) _ _ _
  rw [n2, if_neg Bool.false_ne_true]
  unfold getAttrByItsOwn hookBefore
  refine wpAny_bind ?_
  rw [if_pos (show onTheHeap (Value.ref D0) = true from rfl)]
  refine kB.at ?_
  refine wpAny_bind (wpAny_attempt (wpAny_holding ?_))
  unfold callGetattribute
  rw [n0, if_neg Bool.false_ne_true]
  unfold boundAndCalled
  rw [PySem.F.excAttr_ValueError.ga.bind (.ref y)]
  refine wpAny_bind (wpAny_pure ?_)
  show wpAny _ _ (call (.builtin "BaseException.__getattribute__") [.ref y, .str "__class__" tk]) _ _ _
  refine wpAny_call (codeAny_call_builtin PySem.F.excAttr_ValueError.ga.plain PySem.F.entry_bexc_ga ?_)
  refine @check_slot (model prog w) _ _ ⟨heap, gens, drw, tk + 1, osx⟩ "BaseException.__getattribute__" "BaseException" "__getattribute__" (.ref y) [.str "__class__" tk] [] _ (by decide +kernel) (by decide +kernel) kS (PySem.F.args_bexc_ga (.ref y) (.str "__class__" tk)) ?_
  unfold Builtin.«object.__getattribute__»
  refine wpAny_bind (wpAny_of_eq (a := ((Value.ref y : Value), [Value.str "__class__" tk])) (by first | rfl | (simp only [slotArgs]; rfl)) ?_)
  refine wpAny_bind (wpAny_pure (wpAny_bind (kT.at (wpAny_bind (kF.at ?_)))))
  show wpAny _ _ (holding [Value.builtin "object.__class__"] (call (.builtin "getset_descriptor.__get__") [.builtin "object.__class__", .ref y, .ref D0]) >>= ret) _ _ _
  refine wpAny_bind (wpAny_holding (wpAny_call (class_get (s := ⟨heap, gens, drw, tk + 1, osx⟩) (ox := oy) (od := some dct) hK J T.hm ?_)))
  refine wpAny_pure ?_
  show wpAny _ _ (handedOut (.ref D0)) _ _ _
  rw [handedOut_of (v := .ref D0) rfl]
  first
    | exact wpAny_pure (wpAny_pure hG)
    | exact wpAny_pure hG
    | exact wpAny_pure (wpAny_bind (wpAny_pure (wpAny_pure hG)))
theorem sd_kit (T : L2.ExcC K D0) : KitX K (.ref y) (.ref D0) (fun h => InstAt h y oy D0 (some dct)) where
  ty := fun _ _ _ J => J.type
  it := fun _ _ hK _ => by
    obtain ⟨cd, hcd, _⟩ := any_some T.hd
    unfold clsIn at hcd
    split at hcd
    · rename_i c1 d1 cd1 sl1 ho1
      intro A1 Q1 E1 s1 k1 q1
      unfold isType loadHead
      exact wpAny_bind (wpAny_loadPart (k1 _ _ (hK _ _ ho1)) (wpAny_pure q1))
    · cases hcd
  ne := fun h tp dd its n sl hK htp => by
    obtain ⟨cd, hcd, _⟩ := any_some T.hd
    refine Bool.eq_false_iff.mpr fun z => ?_
    have e : D0 = tp := Value.ref.inj (beq_iff_eq.mp z)
    subst e
    unfold clsIn at hcd
    split at hcd
    · rename_i c1 d1 cd1 sl1 ho1
      cases (hK _ _ ho1).symm.trans htp
    · cases hcd
  ca := fun hK J k => sd_class T hK J k
end
end PySem.W
namespace Sd
open PySem L2
/-! ### own errors -/
def mth : Stmt → Stmt
  | .ClassDef _ _ _ body _ _ _ _ _ _ _ => body.getD 0 (.Pass ⟨0, 0, 0, 0⟩)
  | s => s
def isaE (c b : Ec) : Bool := decide (c = b) || decide (b = .DeskError)
/-- what the written part says of an own error -/
structure ErrC (K : PySem.W.Frag) (mg : Str → Option Value) (fI : Addr) (c : Ec) : Prop where
  o : OexC K (He.ga K c.name)
  ic : PySem.W.findIn K (.ref (He.ga K c.name)) "__init__" = some (some (.ref fI))
  ti : PySem.W.typeIn K (.ref fI) = some (.type "function")
  g : mg c.name = some (.ref (He.ga K c.name))
  na : PySem.W.findIn K (.ref (He.ga K c.name)) "at" = some none
  xf : XfC K (He.ga K c.name)
  is : ExcC K (He.ga K c.name)
  ve : PySem.W.kitOne K (.ref (He.ga K c.name)) (.type "ValueError") = some true
/-- self.at = at -/
def spInit (K : PySem.W.Frag) : Sp := fun vs H Q _ => ∃ (a C : Addr) (i : Int), vs = [.ref a, .int i] ∧ OexC K C ∧ PySem.W.findIn K (.ref C) "at" = some none ∧ H a = some (exo a C none) ∧
  ∀ dx, H dx = none → dx ≠ a → Q .non (upd (upd H dx (exd dx [(("at" : Str), .int i)])) a (exo a C (some dx)))
section
variable {P : Program} {w : World} {K : PySem.W.Frag} {mg : Str → Option Value} {base : Heap}
abbrev ErrF (K : PySem.W.Frag) (st : Stmt) (f : Addr) (fd : FuncData) : Prop := FunD K "__init__" "DeskError.__init__" (defArgs st) (defBody st) (defScope st) [.int 0] [] f fd
end
section
variable {E : XK} {K : PySem.W.Frag} {mg : Str → Option Value} {fI : Addr} {σ : L2.St} {I C H : Hp} {α β ω S ρ : Type} {ta : TA} {te : TE} {tz : TS} {D : Ends} {Q : ω → Prop} {X : Ec → Int → Prop}
theorem s_raise {c : Ec} {m : Res Int} (x : ErrC K mg fI c) (h : EvA E K ta σ I C m (t1 pI)) (s : St I C H) (hX : XH X E K I C) (hm : Post (m.bind fun i => Res.exc c i : Res ω) Q X) :
    tSeq (fun _ σ H => tMkO (He.ga K c.name) (spInit K) [] ta σ H fun cls d H' => E cls d H') tz D σ H :=
  h I C H (Ex.refl _) (Ex.refl _) s _ ((Post.bind hm).mono (fun i q vs I2 H2 e2 s2 ⟨v, hv, rv⟩ => by
    have hv1 : v = .int i := rv
    subst hv hv1
    have po : PX E K I2 C c i := (hX c i q).mono e2 (Ex.refl _)
    refine ⟨Nat.le_of_ble_eq_true rfl, fun a ha => ⟨a, He.ga K c.name, i, rfl, x.o, x.na, upd_same, fun dx hdx hne => ⟨rfl, dx, [(("at" : Str), .int i)], upd_same, ?_, ?_, ?_⟩⟩⟩
    · rw [upd_ne hne, upd_same]
    · rw [upd_ne hne] at hdx
      exact hdx
    · rw [upd_ne hne] at hdx
      have eh : upd (del (upd (upd (upd H2 a (exo a (He.ga K c.name) none)) dx (exd dx [(("at" : Str), .int i)])) a (exo a (He.ga K c.name) (some dx))) a) dx (.xd [(("at" : Str), .int i)]) = upd H2 dx (.xd [(("at" : Str), .int i)]) := by
        funext b
        by_cases h1 : b = dx
        · rw [h1, upd_same, upd_same]
        · rw [upd_ne h1, upd_ne h1]
          by_cases h2 : b = a
          · rw [h2, del_same, ha]
          · rw [del_ne h2, upd_ne h2, upd_ne h1, upd_ne h2]
      rw [eh]
      exact po dx (upd I2 dx (.xd [(("at" : Str), .int i)])) _ (Ex.new (s2.i.free hdx)) (s2.newI hdx) upd_same) hX)
/-! in an except suite -/
def tXfX (K : PySem.W.Frag) (a : Addr) (cls : Value) (d : Option Addr) (f : Str) (te : TE) : TE := fun σ H Q => ∃ C, (XfC K C ∧ PySem.W.findIn K (.ref C) f = some none) ∧ tXf a cls d C f te σ H Q
theorem pe_xfX {X : Cx} {a : Addr} {oe : Obj} {cls : Value} {d : Option Addr} {pn : List (Addr × Obj)} {e : Expr} {te : TE} {pos : Pos} {n : Str}
    (hz : Zc cls d oe) (hf : ∃ vs, oe.data = .fields vs) (he : PE (X.suite a ((a, oe) :: pn)) e te) (hb : attributeBase e n X.env (eval e X.env) = eval e X.env := by rfl) :
    PE (X.suite a ((a, oe) :: pn)) (.Attribute e n pos) (tXfX X.K a cls d n te) :=
  ⟨fun pins s σ H Q I ⟨C, ⟨T, hno⟩, h⟩ => (pe_xf (C := C) T hno hz hf he hb).run pins s σ H Q I h⟩
def rIsX (K : PySem.W.Frag) (a : Addr) (cls : Value) (d : Option Addr) : List V → Hp → VK → Prop := fun xs H Q => ∃ (D dd : Addr) (fs : List (Str × V)) (c : V) (cv : Value) (b : Bool), ExcC K D ∧ cls = .ref D ∧ d = some dd ∧ H dd = some (.xd fs) ∧ xs = [.ref a, c] ∧
  (∀ u, RelV c u → u = cv) ∧ PySem.W.kitOne K (.ref D) cv = some b ∧ Q (.bl b) H
theorem call_isX {Y : Cx} {a : Addr} {cls : Value} {d : Option Addr} {oe : Obj} {pn : List (Addr × Obj)} (hz : Zc cls d oe) (hf : ∃ vs, oe.data = .fields vs) : CallR (Y.suite a ((a, oe) :: pn)) (.builtin "isinstance") (rIsX Y.K a cls d) := by
  intro pins s σ H xs us Q I r h
  obtain ⟨D, dd, fs, c, cv, b, T, rfl, rfl, hd, rfl, hcv, e, q⟩ := h
  cases r with
  | cons r1 rr =>
    cases rr with
    | cons r2 rr =>
      cases rr
      cases r1
      have ec := hcv _ r2
      subst ec
      obtain ⟨hget, _⟩ := I.pin (a, oe) (List.mem_append.mpr (.inl List.mem_cons_self))
      obtain ⟨vs, hv⟩ := hf
      have hx : ObjOk Y.prog Y.w H s.heap dd (.xd fs) := I.hok dd _ hd
      obtain ⟨mA, hns, _⟩ := hx
      obtain ⟨od, ho, _⟩ := lookIn_ns hns
      have J : PySem.W.InstAt s.heap a oe D (some od) := ⟨hget, hz.1, by unfold PySem.W.notCls; rw [hv] <;> rfl, by rw [hz.2]; exact ho⟩
      exact PySem.W.kia_one (PySem.W.sd_kit T) I.kIn J e (fun z => nomatch z) fun tk => ⟨.bl b, H, I.kept (t' := tk) fun _ _ z => z, rfl, q⟩
/-- the caught error: its class, its number, where it stands -/
structure Cg (K : PySem.W.Frag) (mg : Str → Option Value) (fI : Addr) (I : Hp) (cls : Value) (d : Option Addr) (c : Ec) (i : Int) : Prop where
  x : ErrC K mg fI c
  cl : cls = .ref (He.ga K c.name)
  dd : ∃ dd, d = some dd ∧ I dd = some (.xd [(("at" : Str), .int i)])
theorem Cg.up {I2 : Hp} {cls : Value} {d : Option Addr} {c : Ec} {i : Int} (e : Ex I I2) (g : Cg K mg fI I cls d c i) : Cg K mg fI I2 cls d c i := ⟨g.x, g.cl, by
  obtain ⟨dd, h1, h2⟩ := g.dd
  exact ⟨dd, h1, e _ _ h2⟩⟩
theorem x_at {a : Addr} {j : Nat} {cls : Value} {d : Option Addr} {c : Ec} {i : Int} (g : Cg K mg fI I cls d c i) (hv : σ[j]? = some (some (.ref a))) : EvX E K (tXfX K a cls d "at" (tVar j)) σ I C (.ok i) pI := fun I1 C1 H1 e e' s Q q => by
  obtain ⟨dd, h1, h2⟩ := g.dd
  exact ⟨_, ⟨g.x.xf, g.x.na⟩, _, hv, rfl, g.cl, dd, _, .int i, h1, s.i _ _ (e _ _ h2), by simp [List.lookup], PQ.now (R := pI) (a := i) q s rfl⟩
theorem x_isE {a : Addr} {j : Nat} {cls : Value} {d : Option Addr} {c c2 : Ec} {i : Int} (g : Cg K mg fI I cls d c i) (hk : PySem.W.kitOne K (.ref (He.ga K c.name)) (.ref (He.ga K c2.name)) = some (isaE c c2)) (hv : σ[j]? = some (some (.ref a))) :
    EvX E K (tCB (rIsX K a cls d) (tCons (tVar j) (tCons (tC (.ref (He.ga K c2.name))) tNil))) σ I C (.ok (isaE c c2)) pB := fun I1 C1 H1 e e' s Q q => by
  obtain ⟨dd, h1, h2⟩ := g.dd
  exact ⟨_, hv, _, dd, _, _, _, _, g.x.is, g.cl, h1, s.i _ _ (e _ _ h2), rfl, fun u r => r, hk, PQ.now (R := pB) (a := isaE c c2) q s rfl⟩
theorem x_isVE {a : Addr} {j : Nat} {cls : Value} {d : Option Addr} {c : Ec} {i : Int} (g : Cg K mg fI I cls d c i) (hv : σ[j]? = some (some (.ref a))) :
    EvX E K (tCB (rIsX K a cls d) (tCons (tVar j) (tCons (tC (.ty "ValueError")) tNil))) σ I C (.ok true) pB := fun I1 C1 H1 e e' s Q q => by
  obtain ⟨dd, h1, h2⟩ := g.dd
  exact ⟨_, hv, _, dd, _, _, _, _, g.x.is, g.cl, h1, s.i _ _ (e _ _ h2), rfl, fun u r => r, g.x.ve, PQ.now (R := pB) (a := true) q s rfl⟩
/-! a call in the body of a try -/
theorem x_callS {W : WX} {T : Rt α} {f : α → Res β} {R : Rp β} {m : Res α} (h : EvA (WE W σ) K ta σ I C m T) : EvX (WE W σ) K (tCallS (spP K T f R) (WE W) ta) σ I C (un f m) R := fun I1 C1 H1 e e' s Q q =>
  h I1 C1 H1 e e' s _ ((Post.bind q).mono (fun a p vs I2 H2 e2 s2 rv => ⟨I2, C1, a, s2, rv, Post.mono (m := f a) p (fun b z v I3 H3 e3 s3 rw => z v I3 H3 (e2.trans e3) s3 rw) fun c i z => z.mono e2 (Ex.refl _)⟩) fun _ _ z => z)
theorem n_callS {W : WX} {T : Rt α} {f : α → Res (List β)} {R : Rp β} {m : Res α} (h : EvA (WE W σ) K ta σ I C m T) : EvN (WE W σ) K (tCallS (spO K T f R) (WE W) ta) σ I C (un f m) R := fun I1 C1 H1 e e' s Q q =>
  h I1 C1 H1 e e' s _ ((Post.bind q).mono (fun a p vs I2 H2 e2 s2 rv => ⟨I2, C1, a, s2, rv, Post.mono (m := f a) p (fun b z => z.up e2) fun c i z => z.mono e2 (Ex.refl _)⟩) fun _ _ z => z)
/-! try: body, except the errors in L as e: suite -/
def tryR {α : Type} (Kn L : Ec → Bool) (m : Res α) (f : Ec → Int → Res α) : Res α := match m with
  | .ok a => .ok a
  | .exc c i => if Kn c = true then (if L c = true then f c i else .exc c i) else .bad
  | .bad => .bad
@[simp] theorem tryR_ok {α : Type} (Kn L : Ec → Bool) (a : α) (f : Ec → Int → Res α) : tryR Kn L (.ok a) f = .ok a := rfl
theorem tryR_exc {α : Type} {Kn L : Ec → Bool} {c : Ec} {i : Int} (h : Kn c = true) (h2 : L c = true) (f : Ec → Int → Res α) : tryR Kn L (.exc c i) f = f c i := by
  show (if Kn c = true then (if L c = true then f c i else .exc c i) else .bad) = f c i
  rw [if_pos h, if_pos h2]
abbrev Xb {σ' ρ' ω' : Type} (Kn L : Ec → Bool) (ms : Ec → Int → Res (Out σ' ρ')) (k : Out σ' ρ' → Res ω') (Q : ω' → Prop) (X : Ec → Int → Prop) (c : Ec) (j : Int) : Prop := Kn c = true ∧ (if L c = true then Post ((ms c j).bind k) Q X else X c j)
/-- try: .. except c as e: .. -/
def tTry (K : PySem.W.Frag) (c : Value) (i : Nat) (tb : WX → TS) (ts : Addr → Value → Option Addr → TS) (Wout : WX) : TS := fun D σ H => tb (wAs K c i ts Wout D) D σ H
theorem ps_tryS {X : Cx} {x n : Str} {c : Value} {i : Nat} {body suite : List Stmt} {b₀ : Stmt} {np pos pos' : Pos} {tb : WX → TS} {ts : Addr → Value → Option Addr → TS} {Wout : WX} (hs : X.stack = X.env :: X.outer) (hf : X.env.frame = some X.env.locals) (hN : X.N.Nodup) (hi : X.N[i]? = some n) (hln : X.env.kindOf n = some .local) (hc : Names X x c) (tk : Takes X Wout)
    (hb : ∀ (W : WX) (pn : List (Addr × Obj)) (xe : Value → Shared → Prop), Takes (X.tr pn xe) W → PassesOwn (model X.prog X.w) X.A X.env xe → PSs (X.tr pn xe) body (tb W))
    (hsu : ∀ (a : Addr) (oe : Obj) (cls : Value) (d : Option Addr) (pn : List (Addr × Obj)), Zc cls d oe → (∃ vs, oe.data = .fields vs) → PSs (X.suite a ((a, oe) :: pn)) (b₀ :: suite) (ts a cls d)) :
    PS X (.Try body [.ExceptHandler (some (.Name x np)) (some n) (b₀ :: suite) pos'] [] [] pos) (tTry X.K c i tb ts Wout) := ps_try_as hs hf hN hi hln hc tk hb hsu
/-- the word P of what stands behind it (slot i of e is empty then), Pe of where the body may break off -/
theorem s_try (P : S → L2.St → Hp → Hp → Prop) (Pe : L2.St → Hp → Hp → Prop) {i : Nat} {tb : WX → TS} {ts : Addr → Value → Option Addr → TS} {cv : Value} {Kn L : Ec → Bool} {mb : Res (Out S ρ)} {ms : Ec → Int → Res (Out S ρ)} {k : Out S ρ → Res ω}
    (hexm : ∀ c, Kn c = true → PySem.W.exmOne K (.ref (He.ga K c.name)) cv = some (L c) ∧ ErrC K mg fI c)
    (hX : ∀ σ' I' C', Ex I I' → Pe σ' I' C' → XH X E K I' C')
    (hP : ∀ σ' I' I2 C', Ex I' I2 → Pe σ' I' C' → Pe σ' I2 C')
    (hm : Post ((tryR Kn L mb ms).bind k) Q X)
    (body : ∀ (N : L2.St → Hp → Prop) (W : WX), (∀ σ' I' C', Ex I I' → Pe σ' I' C' → XH (Xb Kn L ms k Q X) (WE W σ') K I' C') →
      Post mb (fun o => match o with
        | .nx s' => ∀ σ2 I3 C3 H3, Ex I I3 → St I3 C3 H3 → P s' σ2 I3 C3 → N σ2 H3
        | o => Post (k o) Q X) (Xb Kn L ms k Q X) → tb W { D with nx := N } σ H)
    (suite : ∀ (N : L2.St → Hp → Prop) c j a cls d σ' I' C' H', Kn c = true → Cg K mg fI I' cls d c j → Ex I I' → St I' C' H' → Pe σ' I' C' → Post (ms c j) (fun o => match o with
        | .nx s' => ∀ (σ2 : L2.St) I3 C3 H3, Ex I' I3 → St I3 C3 H3 → P s' (σ2.set i none) I3 C3 → N (σ2.set i none) H3
        | o => Post (k o) Q X) X → ts a cls d { nx := fun σ1 H1 => N (σ1.set i none) H1, rt := D.rt, bk := fun σ1 H1 => D.bk (σ1.set i none) H1, ct := fun σ1 H1 => D.ct (σ1.set i none) H1 } (σ'.set i (some (.ref a))) H')
    (next : ∀ s' σ2 I3 C3 H3, Ex I I3 → St I3 C3 H3 → P s' σ2 I3 C3 → Post (k (.nx s')) Q X → tz D σ2 H3) :
    Evl.tCut (tTry K cv i tb ts (fun cls d _ H => E cls d H)) tz D σ H := by
  refine ⟨fun σ2 H3 => ∃ s' I3 C3, Ex I I3 ∧ St I3 C3 H3 ∧ P s' σ2 I3 C3 ∧ Post (k (.nx s')) Q X, ?_, fun σ2 H3 ⟨s', I3, C3, e3, s3, p, q⟩ => next s' σ2 I3 C3 H3 e3 s3 p q⟩
  refine body _ _ (fun σ' I' C' e p c j hx d I2 H2 e2 s2 hd => ?_) ?_
  · obtain ⟨kn, hx⟩ := hx
    obtain ⟨he, x⟩ := hexm c kn
    refine ⟨L c, he, fun hl a ha => ?_, fun hl => ?_⟩
    · rw [if_pos hl] at hx
      refine suite _ c j a _ (some d) σ' I2 C' H2 kn ⟨x, rfl, d, rfl, hd⟩ (e.trans e2) s2 (hP _ _ _ _ e2 p) ((Post.bind hx).mono (fun o z => ?_) fun _ _ z => z)
      cases o with
      | nx s' => exact fun (σ2 : L2.St) I3 C3 H3 e3 s3 pp => ⟨s', I3, C3, e.trans (e2.trans e3), s3, pp, z⟩
      | br s' => exact z
      | rt r => exact z
    · rw [if_neg (by rw [hl]; decide)] at hx
      exact hX σ' I' C' e p c j hx d I2 H2 e2 s2 hd
  · cases mb with
    | ok o =>
      have z : Post (k o) Q X := hm
      cases o with
      | nx s' => exact fun σ2 I3 C3 H3 e3 s3 pp => ⟨s', I3, C3, e3, s3, pp, z⟩
      | br s' => exact z
      | rt r => exact z
    | exc c j =>
      show Xb Kn L ms k Q X c j
      by_cases kn : Kn c = true
      · refine ⟨kn, ?_⟩
        have z : Post ((if Kn c = true then (if L c = true then ms c j else Res.exc c j) else .bad).bind k) Q X := hm
        rw [if_pos kn] at z
        by_cases hl : L c = true
        · rw [if_pos hl] at z
          rw [if_pos hl]
          exact z
        · rw [if_neg hl] at z
          rw [if_neg hl]
          exact z
      · have z : Post ((if Kn c = true then (if L c = true then ms c j else Res.exc c j) else .bad).bind k) Q X := hm
        rw [if_neg kn] at z
        exact z.elim
    | bad => exact hm
/-! the law -/
def spLaw (K : PySem.W.Frag) (m : List Int → Res Bool) : Sp := fun vs H Q _ => ∃ (a : Addr) (ns : List Int), vs = [.ref a] ∧ SqL K H a (ns.map V.int) ∧ ns.length ≤ 1000 ∧ Post (m ns) (fun b => ∀ v H', v = V.bl b → Q v H') XF
theorem law_start {a : Addr} {ns : List Int} (hS : SqL K H a (ns.map V.int)) (hz : ns.length ≤ 1000) : ∃ I0, St I0 Z H ∧ (pW K pI).r ns (.ref a) I0 Z := by
  refine ⟨fun b => if b = a then H a else none, ⟨fun b o h => ?_, exz, fun _ => .inr rfl⟩, a, ns.map V.int, rfl, ?_, ?_, A2.of_map (f := fun x u => pI.r x u _ Z) (h := V.int) (fun _ => rfl) ns⟩
  · by_cases q : b = a
    · rw [if_pos q] at h
      rw [q]
      exact h
    · rw [if_neg q] at h
      cases h
  · rcases hS with (h | ⟨o, h⟩) | h
    · exact .inl (.inl (by show (if a = a then H a else none) = _; rw [if_pos rfl]; exact h))
    · exact .inl (.inr ⟨o, by show (if a = a then H a else none) = _; rw [if_pos rfl]; exact h⟩)
    · exact .inr h
  · rw [List.length_map]
    exact Nat.le_trans hz (by decide)
def poolR (ns : List Int) : Res Pl := .ok (0, 0, 0, cut ns none (some 63))
@[simp] theorem poolR_eq (ns : List Int) : poolR ns = .ok (0, 0, 0, cut ns none (some 63)) := rfl
def spPool (K : PySem.W.Frag) : Sp := fun vs H Q _ => ∃ (I C : Hp) (ns : List Int) (v : V), vs = [v] ∧ St I C H ∧ (pW K pI).r ns v I Z ∧
  ∀ p ws I2 H2, Ex I I2 → C p = none → St I2 (upd C p (.lst ws)) H2 → pM.r (0, 0, 0, cut ns none (some 63)) ws I2 Z → Q (.ref p) H2
theorem n_lstP {A : Rt α} [It A] {tr : TA} {m : Res α} (h : EvA E K tr σ I C m A) (hn : A.n ≤ 100) (s : St I C H) {Q : VK} (q : Post m (fun a => ∀ p ws I2 H2, Ex I I2 → C p = none → St I2 (upd C p (.lst ws)) H2 → A.r a ws I2 Z → Q (.ref p) H2) (PX E K I C)) : tLst tr σ H Q :=
  h I C H (Ex.refl _) (Ex.refl _) s _ (q.mono (fun a p vs I2 H2 e2 s2 rv => ⟨by rw [A.len rv]; exact Nat.le_trans hn (by decide), fun t ht => p t vs I2 _ e2 (s2.c.free ht) (s2.newC ht) (It.im rv)⟩) fun _ _ z => z)
theorem q_mkpool {i j : Nat} {v : V} {ns : List Int} {k : Pl → Res ω} (hv : σ[j]? = some (some v)) (hr : (pW K pI).r ns v I Z) (s : St I C H) (hm : Post ((poolR ns).bind k) Q XF)
    (next : ∀ y p ws I2 C2 H2, Ex I I2 → St I2 C2 H2 → C2 p = some (.lst ws) → pM.r y ws I2 Z → Post (k y) Q XF → tz D (σ.set i (some (.ref p))) H2) : tSeq (tAsg (tCall (spPool K) [] E (tCons (tVar j) tNil)) (gName i)) tz D σ H :=
  ⟨v, hv, I, C, ns, v, rfl, s, hr, fun p ws I2 H2 e hp s2 hx => next _ p ws I2 _ H2 e s2 upd_same hx hm⟩
/-! a list that was not there at B -/
def pLn (B : Hp) (R : Rp α) : Rp (List α) := ⟨fun xs v I C => (pL R).r xs v I C ∧ ∀ a, v = .ref a → B a = none, fun e e' h => ⟨(pL R).mono e e' h.1, h.2⟩⟩
instance {B : Hp} {R : Rp α} [Im R] : Im (pLn B R) := ⟨fun h => ⟨Im.im h.1, h.2⟩⟩
instance {B : Hp} {R : Rp α} : NN (pLn B R) := ⟨fun h => NN.nn h.1⟩
instance {B : Hp} {R : Rp α} : TyR K (pLn B R) "list" := ⟨fun s h => TyR.ty s h.1⟩
theorem x_n2l {B : Hp} {R : Rp α} {m : Res (List α)} (h : EvX E K te σ I C m (pLn B R)) : EvX E K te σ I C m (pL R) := fun I1 C1 H1 e e' s Q q =>
  h I1 C1 H1 e e' s Q (q.mono (fun a p v I2 H2 e2 s2 rv => p v I2 H2 e2 s2 rv.1) fun _ _ z => z)
/-- f(a ..) hands back a thing of R, which looks at what was known before -/
def spPd (K : PySem.W.Frag) {α β : Type} (T : Rt α) (m : α → Res β) (R : Hp → Rp β) : Sp := fun vs H Q E => ∃ (I C : Hp) (a : α), St I C H ∧ T.r a vs I C ∧ Post (m a) (PQ (R I) I C Q) (PX E K I C)
theorem x_callD {T : Rt α} {f : α → Res β} {R : Hp → Rp β} {m : Res α} (hR : ∀ {I I2 a v I3 C3}, Ex I I2 → (R I2).r a v I3 C3 → (R I).r a v I3 C3) (h : EvA E K ta σ I C m T) : EvX E K (tCall (spPd K T f R) [] E ta) σ I C (un f m) (R I) := fun I1 C1 H1 e e' s Q q =>
  h I1 C1 H1 e e' s _ ((Post.bind q).mono (fun a p vs I2 H2 e2 s2 rv => by
    refine ⟨I2, C1, a, s2, by rw [List.append_nil]; exact rv, Post.mono (m := f a) p (fun b z v I3 H3 e3 s3 rw => z v I3 H3 (e2.trans e3) s3 (hR (e.trans e2) rw)) fun c i z => z.mono e2 (Ex.refl _)⟩) fun _ _ z => z)
theorem x_callDS {W : WX} {T : Rt α} {f : α → Res β} {R : Hp → Rp β} {m : Res α} (hR : ∀ {I I2 a v I3 C3}, Ex I I2 → (R I2).r a v I3 C3 → (R I).r a v I3 C3) (h : EvA (WE W σ) K ta σ I C m T) : EvX (WE W σ) K (tCallS (spPd K T f R) (WE W) ta) σ I C (un f m) (R I) := fun I1 C1 H1 e e' s Q q =>
  h I1 C1 H1 e e' s _ ((Post.bind q).mono (fun a p vs I2 H2 e2 s2 rv => ⟨I2, C1, a, s2, rv, Post.mono (m := f a) p (fun b z v I3 H3 e3 s3 rw => z v I3 H3 (e2.trans e3) s3 (hR (e.trans e2) rw)) fun c i z => z.mono e2 (Ex.refl _)⟩) fun _ _ z => z)
theorem paper_up {R : Rp α} {S1 : Rp β} {B B2 : Hp} {x : Str × (List α ⊕ β)} {v : V} {I C : Hp} (e : Ex B B2) (h : (pT (tc pS (t1 (pX (pLn B2 R) S1)))).r x v I C) : (pT (tc pS (t1 (pX (pLn B R) S1)))).r x v I C := by
  obtain ⟨a, vs, h1, h2, u, us, h3, h4, w, h5, h6⟩ := h
  refine ⟨a, vs, h1, h2, u, us, h3, h4, w, h5, ?_⟩
  obtain ⟨x1, x2⟩ := x
  cases x2 with
  | inl xs => exact ⟨h6.1, fun a z => e.free (h6.2 a z)⟩
  | inr b => exact h6
/-- told[1].append(0): the list of the told thing changes, none of what was known before it does -/
theorem q_appN {R : Rp Int} {S1 : Rp β} {B It : Hp} {i : Nat} {told : Str × (List Int ⊕ β)} {v : V} {b : Addr} {us : List V} {k : List Int → Res ω} (hv : σ[i]? = some (some v)) (r : (pT (tc pS (t1 (pX (pLn B R) S1)))).r told v It Z) (et : Ex It I) (eB : Ex B I) (hb : I b = some (.lst us)) (hbt : It b = none)
    (s : St I C H) (hm : Post (((getL told.2).bind fun xs => push xs 0).bind k) Q XF) (next : ∀ xs I3 H3, Ex B I3 → St I3 C H3 → I3 b = some (.lst us) → Post (k xs) Q XF → tz D σ H3) :
    tSeq (tDrop (tBM K "list" rAppend (tOp (rIxT K) (tVar i) (tC (.int ((1 : Nat) : Int)))) (tCons (tC (.int 0)) tNil))) tz D σ H := by
  obtain ⟨a, vs, rfl, h2, u, us2, rfl, h4, w, rfl, h6⟩ := r
  obtain ⟨x1, x2⟩ := told
  cases x2 with
  | inr y => exact hm.elim
  | inl xs =>
    obtain ⟨⟨p, ws, rfl, h7, h8, h9⟩, h10⟩ := h6
    have hp : I p = some (.lst ws) := et _ _ h7
    have hne : b ≠ p := fun z => by
      rw [z, h7] at hbt
      cases hbt
    have hm2 : Post ((push xs 0).bind k) Q XF := hm
    unfold push at hm2
    split at hm2
    · rename_i hlen
      have hl : ws.length < sizeLine := by
        rw [h9.len]
        exact Nat.lt_of_lt_of_le hlen (by decide)
      refine ⟨.ref a, hv, a, [u, .ref p], 1, .ref p, rfl, rfl, .inl (.inl (s.i _ _ (et _ _ h2))), rfl, .inl ⟨rfl, ws, .inl (.inl (s.i _ _ hp))⟩, p, ws, .int 0, rfl, rfl, s.i _ _ hp, hl, ?_⟩
      refine next (xs ++ [0]) (fun c => if c = p then none else I c) _ (fun c o h => ?_) ⟨fun c o h => ?_, fun c o h => ?_, fun c => ?_⟩ ?_ hm2
      · have hc : c ≠ p := fun z => by
          rw [z, h10 p rfl] at h
          cases h
        show (if c = p then none else I c) = some o
        rw [if_neg hc]
        exact eB c o h
      · by_cases hc : c = p
        · rw [if_pos hc] at h
          cases h
        · rw [if_neg hc] at h
          rw [upd_ne hc]
          exact s.i c o h
      · have hc : c ≠ p := fun z => by
          rw [z] at h
          have z2 := s.freeI h
          rw [hp] at z2
          cases z2
        rw [upd_ne hc]
        exact s.c c o h
      · by_cases hc : c = p
        · exact .inl (if_pos hc)
        · rcases s.s c with h | h
          · exact .inl (by show (if c = p then none else I c) = none; rw [if_neg hc]; exact h)
          · exact .inr h
      · show (if b = p then none else I b) = some (.lst us)
        rw [if_neg hne]
        exact hb
    · exact hm2.elim
/-- s_ifr where only what was known at J is kept -/
theorem s_ifrB (P : S → L2.St → Hp → Hp → Prop) {J : Hp} (eJ : Ex J I) {tt : TT} {tu tw : TS} {c : Res Bool} {m1 m2 : Res (Out S ρ)} {k : Out S ρ → Res ω} (h : EvT E K tt σ I C c) (s : St I C H) (hX : XH X E K I C) (hm : Post ((ifR c m1 m2).bind k) Q X)
    (h1 : ∀ (N : L2.St → Hp → Prop) I2 H2, Ex I I2 → St I2 C H2 → Post m1 (fun o => match o with
      | .nx s' => ∀ σ2 I3 C3 H3, Ex J I3 → St I3 C3 H3 → P s' σ2 I3 C3 → N σ2 H3
      | o => Post (k o) Q X) X → tu { D with nx := N } σ H2)
    (h2 : ∀ (N : L2.St → Hp → Prop) I2 H2, Ex I I2 → St I2 C H2 → Post m2 (fun o => match o with
      | .nx s' => ∀ σ2 I3 C3 H3, Ex J I3 → St I3 C3 H3 → P s' σ2 I3 C3 → N σ2 H3
      | o => Post (k o) Q X) X → tw { D with nx := N } σ H2)
    (next : ∀ s' σ2 I3 C3 H3, Ex J I3 → St I3 C3 H3 → P s' σ2 I3 C3 → Post (k (.nx s')) Q X → tz D σ2 H3) : Evl.tCut (tIfS tt tu tw) tz D σ H := by
  refine ⟨fun σ2 H3 => ∃ s' I3 C3, Ex J I3 ∧ St I3 C3 H3 ∧ P s' σ2 I3 C3 ∧ Post (k (.nx s')) Q X, ?_, fun σ2 H3 ⟨s', I3, C3, e3, s3, p, q⟩ => next s' σ2 I3 C3 H3 e3 s3 p q⟩
  refine h I C H (Ex.refl _) (Ex.refl _) s _ ((Post.bind (Post.bind hm)).mono (fun b p I2 H2 e2 s2 => ?_) hX)
  cases b with
  | true => exact h1 _ I2 H2 e2 s2 (Post.mono (m := m1) p (fun o z => by
      cases o with
      | nx s' => exact fun σ2 I3 C3 H3 e3 s3 pp => ⟨s', I3, C3, e3, s3, pp, z⟩
      | br s' => exact z
      | rt r => exact z) fun _ _ z => z)
  | false => exact h2 _ I2 H2 e2 s2 (Post.mono (m := m2) p (fun o z => by
      cases o with
      | nx s' => exact fun σ2 I3 C3 H3 e3 s3 pp => ⟨s', I3, C3, e3, s3, pp, z⟩
      | br s' => exact z
      | rt r => exact z) fun _ _ z => z)
/-! data: new lists, one of two -/
theorem de_new {B : Hp} {R : Rp α} {enc : α → PyData} {n : Nat} (d : De K R enc n) : De K (pLn B R) (fun xs => PyData.list (xs.map enc)) (n + 1) :=
  ⟨fun s h => (de_lst d).dp s h.1, fun h => (de_lst d).ly h.1, fun h => (de_lst d).de h.1, (de_lst d).eq⟩
def sEnc (f : α → PyData) (g : β → PyData) : α ⊕ β → PyData
  | .inl a => f a
  | .inr b => g b
theorem de_sum {R : Rp α} {S1 : Rp β} {f : α → PyData} {g : β → PyData} {n m : Nat} (d : De K R f n) (d' : De K S1 g m) (hd : ∀ a b, PyData.eqv (f a) (g b) = false ∧ PyData.eqv (g b) (f a) = false) : De K (pX R S1) (sEnc f g) (max n m) :=
  ⟨fun {a v I C H} s h => by
    cases a with
    | inl a => exact d.dp s h
    | inr a => exact d'.dp s h,
  fun {a v I C} h => by
    cases a with
    | inl a => exact d.ly h
    | inr a => exact d'.ly h,
  fun {a v I C} h => by
    cases a with
    | inl a => exact Nat.le_trans (d.de h) (Nat.le_max_left _ _)
    | inr a => exact Nat.le_trans (d'.de h) (Nat.le_max_right _ _),
  fun a b => by
    cases a with
    | inl a =>
      cases b with
      | inl b =>
        simp only [sEnc, Sum.inl.injEq]
        exact d.eq a b
      | inr b =>
        simp only [sEnc, (hd a b).1]
        exact ⟨fun q => (nomatch q), fun q => (nomatch q)⟩
    | inr a =>
      cases b with
      | inl b =>
        simp only [sEnc, (hd b a).2]
        exact ⟨fun q => (nomatch q), fun q => (nomatch q)⟩
      | inr b =>
        simp only [sEnc, Sum.inr.injEq]
        exact d'.eq a b⟩
theorem oEnc_no {f : α → PyData} {x : PyData} (h : ∀ a, PyData.eqv x (f a) = false ∧ PyData.eqv (f a) x = false) (h0 : PyData.eqv x .none = false ∧ PyData.eqv .none x = false) (o : Option α) : PyData.eqv x (oEnc f o) = false ∧ PyData.eqv (oEnc f o) x = false := by
  cases o with
  | none => exact h0
  | some a => exact h a
/-! isinstance of what may be None, of one of two -/
def isO {α : Type} (b : Bool) : Option α → Bool
  | some _ => b
  | none => false
def isX {α β : Type} (b : Bool) (f : β → Bool) : α ⊕ β → Bool
  | .inl _ => b
  | .inr y => f y
@[simp] theorem isO_some (b : Bool) (a : α) : isO b (some a) = b := rfl
@[simp] theorem isO_none (b : Bool) : isO b (none : Option α) = false := rfl
@[simp] theorem isX_inl (b : Bool) (f : β → Bool) (a : α) : isX b f (.inl a) = b := rfl
@[simp] theorem isX_inr (b : Bool) (f : β → Bool) (y : β) : isX b f (.inr y : α ⊕ β) = f y := rfl
theorem ty_opt {R : Rp α} {n c : String} {b : Bool} [TyR K R n] (hk : kitB n c = some b) (hn : kitB "NoneType" c = some false) {o : Option α} {v : V} {I C H : Hp} (s : St I C H) (r : (pO R).r o v I C) : ∃ t, TyX K H v t ∧ PySem.W.kitOne K t (.type c) = some (isO b o) := by
  cases o with
  | none =>
    have h : v = .non := r
    subst h
    exact ⟨_, .base .non, kit_ty hn⟩
  | some a => exact ⟨_, TyR.ty s r.1, kit_ty hk⟩
theorem o_isiO {R : Rp α} {n c : String} {b : Bool} [TyR K R n] (hk : kitB n c = some b) (hn : kitB "NoneType" c = some false) : OpL E K (rIsi K) (fun p => .ok (isO b p.1)) (tc (pO R) (t1 (pY c))) pB := fun I C H a vs s hv Q q => by
  obtain ⟨v, us, rfl, r, w, rfl, rw⟩ := hv
  have hw : w = .ty c := rw
  subst hw
  obtain ⟨t, h1, h2⟩ := ty_opt (K := K) hk hn s r
  exact ⟨v, .ty c, _, _, _, rfl, .ty c, h1, h2, PQ.now q s rfl⟩
theorem o_isiXO {R : Rp α} {S1 : Rp β} {n n2 c : String} {b b2 : Bool} [TyR K R n] [TyR K S1 n2] (hk : kitB n c = some b) (hk2 : kitB n2 c = some b2) (hn : kitB "NoneType" c = some false) : OpL E K (rIsi K) (fun p => .ok (isX b (isO b2) p.1)) (tc (pX R (pO S1)) (t1 (pY c))) pB := fun I C H a vs s hv Q q => by
  obtain ⟨v, us, rfl, r, w, rfl, rw⟩ := hv
  have hw : w = .ty c := rw
  subst hw
  obtain ⟨x, y⟩ := a
  cases x with
  | inl x => exact ⟨v, .ty c, _, _, b, rfl, .ty c, TyR.ty (R := R) s r, kit_ty hk, PQ.now q s rfl⟩
  | inr x =>
    obtain ⟨t, h1, h2⟩ := ty_opt (K := K) (R := S1) hk2 hn s r
    exact ⟨v, .ty c, _, _, _, rfl, .ty c, h1, h2, PQ.now q s rfl⟩
theorem o_isiX {R : Rp α} {S1 : Rp β} {n n2 c : String} {b b2 : Bool} [TyR K R n] [TyR K S1 n2] (hk : kitB n c = some b) (hk2 : kitB n2 c = some b2) : OpL E K (rIsi K) (fun p => .ok (isX b (fun _ => b2) p.1)) (tc (pX R S1) (t1 (pY c))) pB := fun I C H a vs s hv Q q => by
  obtain ⟨v, us, rfl, r, w, rfl, rw⟩ := hv
  have hw : w = .ty c := rw
  subst hw
  obtain ⟨x, y⟩ := a
  cases x with
  | inl x => exact ⟨v, .ty c, _, _, b, rfl, .ty c, TyR.ty (R := R) s r, kit_ty hk, PQ.now q s rfl⟩
  | inr x => exact ⟨v, .ty c, _, _, b2, rfl, .ty c, TyR.ty (R := S1) s r, kit_ty hk2, PQ.now q s rfl⟩
end
end Sd

namespace Sd
open PySem PySem.Spec PyProof.Rows L2
/-! ### the head: own errors, read by a Bool -/
def oexB (K : PySem.W.Frag) (C : Addr) : Bool := match K.lookup C with
  | some ⟨.type "type", _, .cls cd, sl⟩ => (match cd.mro, sl.toList with
    | .ref C1 :: bm, [_, _, _, _, some (.builtin n), _] => decide (C1 = C) && (decide (n = "ValueError.__new__") && (!cd.hasDel && (cd.hasDict && PySem.HandSPX.refsVE bm)))
    | _, _ => false)
  | _ => false
theorem oexB_ok {K : PySem.W.Frag} {C : Addr} (h : oexB K C = true) : ∃ nm q N bs bm sn sub ab col dd k0 k1 k2 k3 k5, K.lookup C = some (excClassObj nm q C N bs bm true sn sub ab col dd k0 k1 k2 k3 k5 "ValueError.__new__") ∧ PySem.HandSPX.refsVE bm = true := by
  unfold oexB at h
  split at h
  · rename_i dd cd sl ho
    split at h
    · rename_i C1 bm k0 k1 k2 k3 n k5 e1 e2
      obtain ⟨h1, h⟩ := Bool.and_eq_true_iff.mp h
      obtain ⟨h2, h⟩ := Bool.and_eq_true_iff.mp h
      obtain ⟨h3, h⟩ := Bool.and_eq_true_iff.mp h
      obtain ⟨h4, h5⟩ := Bool.and_eq_true_iff.mp h
      have h1 := of_decide_eq_true h1
      have h2 := of_decide_eq_true h2
      subst h1 h2
      obtain ⟨nm, bs, mro, ns, qn, hd, sn, sub, ab, col, del⟩ := cd
      simp only [Bool.not_eq_true'] at e1 e2 h3 h4
      subst e1 h3 h4
      obtain ⟨l⟩ := sl
      simp only at e2
      subst e2
      exact ⟨_, _, _, _, _, _, _, _, _, _, _, _, _, _, _, ho, h5⟩
    · cases h
  · cases h
def errB (K : PySem.W.Frag) (fI : Addr) (c : Ec) : Bool :=
  oexB K (He.ga K c.name) && (decide (PySem.W.findIn K (.ref (He.ga K c.name)) "__setattr__" = some (some (.builtin "object.__setattr__"))) && (decide (PySem.W.typeIn K (.ref (He.ga K c.name)) = some (.type "type")) && (PySem.W.keepIn K (.ref (He.ga K c.name)) &&
    (decide (PySem.W.findIn K (.ref (He.ga K c.name)) "__init__" = some (some (.ref fI))) && (decide (PySem.W.typeIn K (.ref fI) = some (.type "function")) && (decide (PySem.W.findIn K (.ref (He.ga K c.name)) "at" = some none) && (xfB K (He.ga K c.name) &&
      (decide (PySem.W.findIn K (.ref (He.ga K c.name)) "__class__" = some (some (.builtin "object.__class__"))) && (decide (PySem.W.specialIn K (.builtin "object.__class__") "__get__" = some (some (.builtin "getset_descriptor.__get__"))) && (decide (PySem.W.takesIn K (.builtin "object.__class__") = some true) &&
        (decide (PySem.W.mroIn K (He.ga K c.name) (.type "object") = some true) && (decide (PySem.W.kitOne K (.ref (He.ga K c.name)) (.type "ValueError") = some true) && He.eqO (PySem.W.nsIn K mainGlobals c.name) (some (some (.ref (He.ga K c.name))))))))))))))))
theorem errB_ok {K : PySem.W.Frag} {h : Heap} {mg : Str → Option Value} {fI : Addr} {c : Ec} (X : K.In h) (G : h.Ns mainGlobals mg) (e : errB K fI c = true) : ErrC K mg fI c := by
  unfold errB at e
  obtain ⟨h1, e⟩ := Bool.and_eq_true_iff.mp e
  obtain ⟨h2, e⟩ := Bool.and_eq_true_iff.mp e
  obtain ⟨h3, e⟩ := Bool.and_eq_true_iff.mp e
  obtain ⟨h4, e⟩ := Bool.and_eq_true_iff.mp e
  obtain ⟨h5, e⟩ := Bool.and_eq_true_iff.mp e
  obtain ⟨h6, e⟩ := Bool.and_eq_true_iff.mp e
  obtain ⟨h7, e⟩ := Bool.and_eq_true_iff.mp e
  obtain ⟨h8, e⟩ := Bool.and_eq_true_iff.mp e
  obtain ⟨h9, e⟩ := Bool.and_eq_true_iff.mp e
  obtain ⟨ha, e⟩ := Bool.and_eq_true_iff.mp e
  obtain ⟨hb, e⟩ := Bool.and_eq_true_iff.mp e
  obtain ⟨hc, e⟩ := Bool.and_eq_true_iff.mp e
  obtain ⟨hd, he⟩ := Bool.and_eq_true_iff.mp e
  have xf := xfB_ok h8
  exact ⟨⟨oexB_ok h1, of_decide_eq_true h2, xf.exC, of_decide_eq_true h3, h4⟩, of_decide_eq_true h5, of_decide_eq_true h6, PySem.W.mg_of X G (He.eqO_ok he), of_decide_eq_true h7, xf,
    ⟨xf.ga, xf.gg, xf.exC, xf.hdC, of_decide_eq_true h9, of_decide_eq_true ha, of_decide_eq_true hb, of_decide_eq_true hc⟩, of_decide_eq_true hd⟩
def errsB (cs : List Ec) (K : PySem.W.Frag) : Bool := cs.all (fun c => errB K (He.fAd K ("DeskError", some "__init__")) c) &&
  cs.all fun c => cs.all fun b => decide (PySem.W.kitOne K (.ref (He.ga K c.name)) (.ref (He.ga K b.name)) = some (isaE c b)) && decide (PySem.W.exmOne K (.ref (He.ga K c.name)) (.ref (He.ga K b.name)) = some (isaE c b))
theorem errsB_ok {cs : List Ec} {K : PySem.W.Frag} {h : Heap} {mg : Str → Option Value} (X : K.In h) (G : h.Ns mainGlobals mg) (e : errsB cs K = true) :
    (∀ c, c ∈ cs → ErrC K mg (He.fAd K ("DeskError", some "__init__")) c) ∧ (∀ c b, c ∈ cs → b ∈ cs → PySem.W.kitOne K (.ref (He.ga K c.name)) (.ref (He.ga K b.name)) = some (isaE c b)) ∧ ∀ c b, c ∈ cs → b ∈ cs → PySem.W.exmOne K (.ref (He.ga K c.name)) (.ref (He.ga K b.name)) = some (isaE c b) := by
  obtain ⟨h1, h2⟩ := Bool.and_eq_true_iff.mp e
  have h1 := List.all_eq_true.mp h1
  have h2 := List.all_eq_true.mp h2
  refine ⟨fun c hc => errB_ok X G (h1 c hc), fun c b hc hb => ?_, fun c b hc hb => ?_⟩
  · exact of_decide_eq_true (Bool.and_eq_true_iff.mp (List.all_eq_true.mp (h2 c hc) b hb)).1
  · exact of_decide_eq_true (Bool.and_eq_true_iff.mp (List.all_eq_true.mp (h2 c hc) b hb)).2
end Sd

namespace Sd
open PySem L2
/-- turns enough for any while here (not to be reckoned with) -/
noncomputable def fuel : Nat := Classical.choose (⟨1000000, rfl⟩ : ∃ n : Nat, n = 1000000)
theorem fuel_eq : fuel = 1000000 := Classical.choose_spec (⟨1000000, rfl⟩ : ∃ n : Nat, n = 1000000)
section
variable {E : XK} {K : PySem.W.Frag} {σ : L2.St} {I I' C C' H B C0 : Hp} {α β γ μ ω S ρ : Type} {R : Rp α} {S1 : Rp β} {te ta tb : TE} {tt : TT} {tz tu tw : TS} {D : Ends} {Q : ω → Prop} {X : Ec → Int → Prop} {p q : Addr}
/-! great ints -/
@[irreducible] def rMulW (a b : Int) : Res Int := if a.natAbs.log2 + b.natAbs.log2 < 1000000 then .ok (a * b) else .bad
@[irreducible] def rDivW (a b : Int) : Res Int := if 0 < b ∧ b.natAbs.log2 < 9000 then .ok (a / b) else .bad
@[irreducible] def rModN (a b : Int) : Res Int := if b ≠ 0 then .ok (a.fmod b) else .bad
theorem rMulW_ok {a b : Int} (h : a.natAbs.log2 + b.natAbs.log2 < 1000000) : rMulW a b = .ok (a * b) := by
  unfold rMulW
  exact if_pos h
theorem rDivW_ok {a b : Int} (h : 0 < b ∧ b.natAbs.log2 < 9000) : rDivW a b = .ok (a / b) := by
  unfold rDivW
  exact if_pos h
theorem rModN_ok {a b : Int} (h : b ≠ 0) : rModN a b = .ok (a.fmod b) := by
  unfold rModN
  exact if_pos h
theorem o_mulW : Op2 E K (rI CMulW fun i j => .int (i * j)) rMulW pI pI pI := fun I C H a b x y s hx hy Q q => by
  unfold rMulW at q
  split at q
  · rename_i h
    exact ⟨a, b, hx, hy, h, PQ.now q s rfl⟩
  · exact q.elim
theorem o_fdivW : Op2 E K (rI CDivW fun i j => .int (i / j)) rDivW pI pI pI := fun I C H a b x y s hx hy Q q => by
  unfold rDivW at q
  split at q
  · rename_i h
    exact ⟨a, b, hx, hy, h, PQ.now q s rfl⟩
  · exact q.elim
theorem o_modN : Op2 E K (rI (fun _ j => j ≠ 0) fun i j => .int (i.fmod j)) rModN pI pI pI := fun I C H a b x y s hx hy Q q => by
  unfold rModN at q
  split at q
  · rename_i h
    exact ⟨a, b, hx, hy, h, PQ.now q s rfl⟩
  · exact q.elim
theorem o_isNU : Op2 E K (fun x y H Q => y = .non ∧ Q (.bl (decide (x = .non))) H) (fun _ _ => .ok true) pN pN pB := fun I C H a b x y s hx hy Q q => by
  have hx : x = .non := hx
  subst hx
  exact ⟨hy, PQ.now q s rfl⟩
theorem o_notNU : Op2 E K (fun x y H Q => y = .non ∧ Q (.bl (!decide (x = .non))) H) (fun _ _ => .ok false) pN pN pB := fun I C H a b x y s hx hy Q q => by
  have hx : x = .non := hx
  subst hx
  exact ⟨hy, PQ.now q s rfl⟩
/-! xs[::-1] -/
def revR (xs : List α) : Res (List α) := .ok xs.reverse
@[simp] theorem revR_eq (xs : List α) : revR xs = .ok xs.reverse := rfl
theorem A2.reverse {f : α → V → Prop} : ∀ {xs : List α} {vs : List V}, A2 f xs vs → A2 f xs.reverse vs.reverse
  | _, _, .nil => .nil
  | _, _, .cons r t => by
    rw [List.reverse_cons, List.reverse_cons]
    exact (A2.reverse t).append (.one r)
theorem n_rev {m : Res (List α)} (h : EvX E K te σ I C m (pV R)) : EvN E K (tRevL K te) σ I C (un revR m) R := fun I1 C1 H1 e e' s Q q =>
  h I1 C1 H1 e e' s _ ((Post.bind q).mono (fun a p x I2 H2 e2 s2 rx => by
    obtain ⟨b, us, rfl, h2, h3, h4⟩ := pV.at s2 rx
    exact ⟨b, us, rfl, .inl (.inl h2), PN.new (PN.up e2 p) s2 h4.reverse (by rw [List.length_reverse]; exact h3)⟩) fun _ _ z => z)
theorem x_rev [Im R] {m : Res (List α)} (h : EvX E K te σ I C m (pV R)) : EvX E K (tRevL K te) σ I C (un revR m) (pL R) := x_own (n_rev h)
/-! n = xs.pop(), n = xs.pop()[k] -/
theorem q_pop [Im R] {i j : Nat} {xs : List α} {vs : List V} {k : α × List α → Res ω} (hv : σ[i]? = some (some (.ref p))) (hc : C p = some (.lst vs)) (hl : vs.length ≤ sizeLine) (hr : A2 (fun x u => R.r x u I Z) xs vs) (s : St I C H) (hm : Post ((popR xs).bind k) Q X)
    (next : ∀ a v vs' I2 C2 H2, Ex I I2 → St I2 C2 H2 → C2 p = some (.lst vs') → (∀ q, q ≠ p → C2 q = C q) → vs'.length ≤ sizeLine → A2 (fun x u => R.r x u I2 Z) a.2 vs' → R.r a.1 v I2 Z → Post (k a) Q X → tz D (σ.set j (some v)) H2) :
    tSeq (tAsg (tBM0 K "list" rPop (tVar i)) (gName j)) tz D σ H :=
  e_pop hv hc hl hr s hm fun a v C2 H2 s2 hc2 k2 hl2 hr2 rv hm2 => next a v _ I C2 H2 (Ex.refl _) s2 hc2 k2 hl2 hr2 rv hm2
theorem q_popk {T : Rt α} [It T] [Im S1] {i j l : Nat} {f : α → β} {xs : List α} {vs : List V} {k : α × List α → Res ω} (jj : Pj T l f S1) (hv : σ[i]? = some (some (.ref p))) (hc : C p = some (.lst vs)) (hl : vs.length ≤ sizeLine) (hr : A2 (fun x u => (pT T).r x u I Z) xs vs) (s : St I C H) (hm : Post ((popR xs).bind k) Q X)
    (next : ∀ a v vs' I2 C2 H2, Ex I I2 → St I2 C2 H2 → C2 p = some (.lst vs') → (∀ q, q ≠ p → C2 q = C q) → vs'.length ≤ sizeLine → A2 (fun x u => (pT T).r x u I2 Z) a.2 vs' → S1.r (f a.1) v I2 Z → Post (k a) Q X → tz D (σ.set j (some v)) H2) :
    tSeq (tAsg (tOp (rIxT K) (tBM0 K "list" rPop (tVar i)) (tC (.int (l : Int)))) (gName j)) tz D σ H :=
  e_pop hv hc hl hr s hm fun a v C2 H2 s2 hc2 k2 hl2 hr2 rv hm2 => o_pj (E := EZ) (K := K) jj I C2 H2 a.1 v s2 (Im.im rv) _ fun w I3 H3 e3 s3 rw =>
    next a w _ I3 C2 H3 e3 s3 hc2 k2 hl2 (hr2.imp fun _ _ h => (pT T).mono e3 (Ex.refl _) h) (Im.im rw) hm2
/-! max, min of a list -/
def gtL (x : Int) (xs : List Int) : Int := xs.foldl max x
def ltL (x : Int) (xs : List Int) : Int := xs.foldl min x
def maxL : List Int → Res Int
  | [] => .bad
  | x :: xs => .ok (gtL x xs)
def minL : List Int → Res Int
  | [] => .bad
  | x :: xs => .ok (ltL x xs)
theorem gtL_spec : ∀ (xs : List Int) (x : Int), x ≤ gtL x xs ∧ (∀ y ∈ xs, y ≤ gtL x xs) ∧ (gtL x xs = x ∨ gtL x xs ∈ xs)
  | [], x => ⟨Int.le_refl _, fun y h => (nomatch h), .inl rfl⟩
  | z :: xs, x => by
    obtain ⟨a, b, c⟩ := gtL_spec xs (max x z)
    have e : gtL x (z :: xs) = gtL (max x z) xs := rfl
    rw [e]
    refine ⟨by omega, fun y hy => ?_, ?_⟩
    · rcases List.mem_cons.mp hy with rfl | hy
      · omega
      · exact b y hy
    · rcases c with c | c
      · by_cases h : x ≤ z
        · exact .inr (by rw [c, Int.max_eq_right h]; exact List.mem_cons_self)
        · exact .inl (by rw [c]; omega)
      · exact .inr (List.mem_cons_of_mem _ c)
theorem ltL_spec : ∀ (xs : List Int) (x : Int), ltL x xs ≤ x ∧ (∀ y ∈ xs, ltL x xs ≤ y) ∧ (ltL x xs = x ∨ ltL x xs ∈ xs)
  | [], x => ⟨Int.le_refl _, fun y h => (nomatch h), .inl rfl⟩
  | z :: xs, x => by
    obtain ⟨a, b, c⟩ := ltL_spec xs (min x z)
    have e : ltL x (z :: xs) = ltL (min x z) xs := rfl
    rw [e]
    refine ⟨by omega, fun y hy => ?_, ?_⟩
    · rcases List.mem_cons.mp hy with rfl | hy
      · omega
      · exact b y hy
    · rcases c with c | c
      · by_cases h : z ≤ x
        · exact .inr (by rw [c, Int.min_eq_right h]; exact List.mem_cons_self)
        · exact .inl (by rw [c]; omega)
      · exact .inr (List.mem_cons_of_mem _ c)
theorem o_maxL : OpL E K (rMax K) maxL (t1 (pV pI)) pI := fun I C H a vs s hv Q q => by
  obtain ⟨v, rfl, h⟩ := hv
  obtain ⟨p, us, rfl, h2, h3, h4⟩ := pV.at s h
  have eu := A2.map_iff (h := V.int) (fun _ _ h => h) h4
  subst eu
  cases a with
  | nil => exact q.elim
  | cons x xs =>
    refine ⟨p, x :: xs, rfl, .inl (.inl h2), by simp, fun m hm hle => ?_⟩
    obtain ⟨a1, a2, a3⟩ := gtL_spec xs x
    have e : m = gtL x xs := by
      refine Int.le_antisymm ?_ (hle _ ?_)
      · rcases List.mem_cons.mp hm with rfl | hm
        · exact a1
        · exact a2 m hm
      · rcases a3 with a3 | a3
        · rw [a3]
          exact List.mem_cons_self
        · exact List.mem_cons_of_mem _ a3
    rw [e]
    exact PQ.now q s rfl
theorem o_minL : OpL E K (rMin K) minL (t1 (pV pI)) pI := fun I C H a vs s hv Q q => by
  obtain ⟨v, rfl, h⟩ := hv
  obtain ⟨p, us, rfl, h2, h3, h4⟩ := pV.at s h
  have eu := A2.map_iff (h := V.int) (fun _ _ h => h) h4
  subst eu
  cases a with
  | nil => exact q.elim
  | cons x xs =>
    refine ⟨p, x :: xs, rfl, .inl (.inl h2), by simp, fun m hm hle => ?_⟩
    obtain ⟨a1, a2, a3⟩ := ltL_spec xs x
    have e : m = ltL x xs := by
      refine Int.le_antisymm (hle _ ?_) ?_
      · rcases a3 with a3 | a3
        · rw [a3]
          exact List.mem_cons_self
        · exact List.mem_cons_of_mem _ a3
      · rcases List.mem_cons.mp hm with rfl | hm
        · exact a1
        · exact a2 m hm
    rw [e]
    exact PQ.now q s rfl
/-! tuples that may stand in the written part -/
theorem x_t2u {T : Rt α} {m : Res α} (h : EvX E K te σ I C m (pT T)) : EvX E K te σ I C m (pU K T) := fun I1 C1 H1 e e' s Q q =>
  h I1 C1 H1 e e' s Q (q.mono (fun a p v I2 H2 e2 s2 ⟨b, vs, h1, h2, h3⟩ => p v I2 H2 e2 s2 ⟨b, vs, h1, .inl (.inl h2), h3⟩) fun _ _ z => z)
/-! a list that is read, walked -/
theorem i_view [Im R] {i : Nat} {v : V} {xs : List α} (hv : σ[i]? = some (some v)) (h : (pV R).r xs v I B) (hB : Ex B C) :
    EvI E K (iList K (tVar i)) σ I C (fun C3 => Ex B C3) (.ok xs) R := fun I1 C1 H1 e e' s Kt q => by
  obtain ⟨a, vs, rfl, h2, h3, h4⟩ := h
  refine ⟨.ref a, hv, a, rfl, ⟨vs, .inl (.inl (h2.elim (fun z => s.i a _ (e a _ z)) fun z => s.c a _ (e' a _ (hB a _ z))))⟩, ?_⟩
  have hn := h4.len
  refine q (Itl K a) (fun H => SqL K H a vs) (YAt vs) I1 H1 (Ex.refl _) s (by omega) (by rw [← hn]; exact walk_list) (fun I3 C3 H3 e3 k3 s3 => .inl (.inl (h2.elim (fun z => s3.i a _ (e3 a _ (e a _ z))) fun z => s3.c a _ (k3 a _ z)))) (fun i x v' I3 C3 H3 H4 hx e3 _ s3 y => ?_)
  obtain ⟨rfl, y⟩ := y
  obtain ⟨w, hw, r⟩ := h4.get' hx
  rw [hw] at y
  cases y
  exact ⟨I3, Ex.refl _, s3, R.to (e.trans e3) r⟩
end
end Sd

namespace Sd
open PySem L2
/-! ### plain laws of the mirrors -/
/-- m comes to an answer that is so -/
abbrev Is {α : Type} (m : Res α) (Q : α → Prop) : Prop := Post m Q XF
theorem is_iff {α : Type} {m : Res α} {Q : α → Prop} : Is m Q ↔ ∃ a, m = .ok a ∧ Q a := by
  cases m with
  | ok a => exact ⟨fun h => ⟨a, rfl, h⟩, fun ⟨b, e, h⟩ => by cases e; exact h⟩
  | exc c i => exact ⟨fun h => h.elim, fun ⟨b, e, h⟩ => by cases e⟩
  | bad => exact ⟨fun h => h.elim, fun ⟨b, e, h⟩ => by cases e⟩
theorem Is.ok {α : Type} {a : α} {Q : α → Prop} (h : Q a) : Is (.ok a) Q := h
theorem Is.eq {α : Type} {m : Res α} {a : α} (h : Is m (· = a)) : m = .ok a := by
  obtain ⟨b, e, h⟩ := is_iff.mp h
  rw [e, h]
theorem Is.of {α : Type} {m : Res α} {a : α} {Q : α → Prop} (e : m = .ok a) (h : Q a) : Is m Q := by
  rw [e]
  exact h
theorem Is.get {α : Type} {m : Res α} {Q : α → Prop} (h : Is m Q) : ∃ a, m = .ok a ∧ Q a := is_iff.mp h
theorem Is.bind {α β : Type} {m : Res α} {k : α → Res β} {Q : α → Prop} {R : β → Prop} (h : Is m Q) (hk : ∀ a, Q a → Is (k a) R) : Is (m.bind k) R := by
  obtain ⟨a, e, h⟩ := h.get
  rw [e]
  exact hk a h
theorem Is.imp {α : Type} {m : Res α} {Q R : α → Prop} (h : Is m Q) (hk : ∀ a, Q a → R a) : Is m R := Post.mono h hk fun _ _ z => z
section
variable {α β γ S ρ : Type}
/-- a loop keeps a word -/
theorem loopN_inv {f : α → S → Res S} (J : Nat → S → Prop) {xs : List α} {s : S} (h0 : J 0 s) (h : ∀ i x s, xs[i]? = some x → J i s → Is (f x s) (J (i + 1))) : Is (loopN f xs s) (J xs.length) := by
  induction xs generalizing J s with
  | nil => exact h0
  | cons x xs ih =>
    rw [loopN_cons]
    refine Is.bind (h 0 x s rfl h0) fun s' h1 => ?_
    exact ih (fun i => J (i + 1)) h1 fun i y s hy hj => h (i + 1) y s hy hj
theorem loopN_pure {f : α → S → Res S} {g : S → α → S} {xs : List α} {s : S} (h : ∀ x s, f x s = .ok (g s x)) : loopN f xs s = .ok (xs.foldl g s) := loopN_ok fun x _ s => h x s
/-- a loop that may return: the first turn that does -/
theorem loopR_find {f : α → Unit → Res (Out Unit ρ)} {g : α → Option ρ} : ∀ {xs : List α}, (∀ x, x ∈ xs → f x () = .ok (match g x with | some r => .rt r | none => .nx ())) → loopR f xs () = .ok (match xs.findSome? g with | some r => .rt r | none => .nx ())
  | [], _ => rfl
  | x :: xs, h => by
    rw [loopR_cons, h x List.mem_cons_self, List.findSome?_cons]
    cases q : g x with
    | some r => rfl
    | none => exact loopR_find fun y hy => h y (List.mem_cons_of_mem _ hy)
theorem loopR_any {f : α → Unit → Res (Out Unit ρ)} {p : α → Bool} {r : ρ} : ∀ {xs : List α}, (∀ x, x ∈ xs → f x () = .ok (if p x = true then .rt r else .nx ())) → loopR f xs () = .ok (if xs.any p = true then .rt r else .nx ())
  | [], _ => rfl
  | x :: xs, h => by
    rw [loopR_cons, h x List.mem_cons_self, List.any_cons]
    cases q : p x with
    | true => rfl
    | false => exact loopR_any fun y hy => h y (List.mem_cons_of_mem _ hy)
theorem filR_id {p : α → Res Bool} {q : α → Bool} {xs : List α} (h : ∀ x, x ∈ xs → p x = .ok (q x)) : filR p (fun x => .ok x) xs = .ok (xs.filter q) := by
  rw [filR_ok (g := fun x => x) h fun _ _ _ => rfl, List.map_id']
theorem findSome_none {g : α → Option β} {xs : List α} (h : xs.findSome? g = none) : ∀ x, x ∈ xs → g x = none := List.findSome?_eq_none_iff.mp h
theorem findSome_some {g : α → Option β} {b : β} : ∀ {xs : List α}, xs.findSome? g = some b → ∃ x, x ∈ xs ∧ g x = some b
  | [], h => by cases h
  | x :: xs, h => by
    rw [List.findSome?_cons] at h
    cases q : g x with
    | some c =>
      rw [q] at h
      exact ⟨x, List.mem_cons_self, q.trans h⟩
    | none =>
      rw [q] at h
      obtain ⟨y, hy, e⟩ := findSome_some h
      exact ⟨y, List.mem_cons_of_mem _ hy, e⟩
/-- a loop that appends -/
theorem loopN_app {f : α → List β → Res (List β)} {q : α → Bool} {g : α → β} : ∀ {xs : List α} {acc : List β}, (∀ x a, x ∈ xs → a.length < 1000000 → f x a = .ok (if q x = true then a ++ [g x] else a)) → acc.length + xs.length < 1000000 → loopN f xs acc = .ok (acc ++ (xs.filter q).map g)
  | [], acc, _, _ => by rw [List.filter_nil, List.map_nil, List.append_nil]; rfl
  | x :: xs, acc, h, hl => by
    rw [List.length_cons] at hl
    rw [loopN_cons, h x acc List.mem_cons_self (by omega)]
    cases q1 : q x with
    | true =>
      rw [if_pos rfl, Res.bind_ok, loopN_app (fun y a hy => h y a (List.mem_cons_of_mem _ hy)) (by rw [List.length_append, List.length_singleton]; omega), List.filter_cons, if_pos q1, List.map_cons, List.append_assoc]
      rfl
    | false =>
      rw [if_neg (by decide), Res.bind_ok, loopN_app (fun y a hy => h y a (List.mem_cons_of_mem _ hy)) (by omega), List.filter_cons, if_neg (by rw [q1]; decide)]
theorem mem_enumF {xs : List α} {y : Int × α} : y ∈ enumF 0 xs ↔ ∃ i : Nat, xs[i]? = some y.2 ∧ y.1 = (i : Int) := by
  rw [List.mem_iff_getElem?]
  constructor
  · rintro ⟨i, h⟩
    rw [enumF_get] at h
    cases q : xs[i]? with
    | none =>
      rw [q] at h
      cases h
    | some x =>
      rw [q] at h
      cases h
      exact ⟨i, q, by simp⟩
  · rintro ⟨i, h1, h2⟩
    refine ⟨i, ?_⟩
    rw [enumF_get, h1]
    obtain ⟨a, b⟩ := y
    simp only at h2
    subst h2
    simp
theorem enumF_lt : ∀ (xs : List α) (k : Int), (enumF k xs).Pairwise fun a b => a.1 < b.1
  | [], _ => .nil
  | x :: xs, k => by
    rw [enumF, List.pairwise_cons]
    refine ⟨fun y hy => ?_, enumF_lt xs (k + 1)⟩
    obtain ⟨i, h⟩ := List.mem_iff_getElem?.mp hy
    rw [enumF_get] at h
    cases q : xs[i]? with
    | none =>
      rw [q] at h
      cases h
    | some z =>
      rw [q] at h
      cases h
      dsimp only
      omega
/-- a loop that might return, but does not -/
theorem loopR_inv {f : α → S → Res (Out S ρ)} {J : S → Prop} : ∀ {xs : List α} {s : S}, J s → (∀ x s, x ∈ xs → J s → Is (f x s) fun o => ∃ s', o = .nx s' ∧ J s') → Is (loopR f xs s) fun o => ∃ s', o = .nx s' ∧ J s'
  | [], s, h0, _ => ⟨s, rfl, h0⟩
  | x :: xs, s, h0, h => by
    rw [loopR_cons]
    refine Is.bind (h x s List.mem_cons_self h0) fun o ⟨s', e, h1⟩ => ?_
    subst e
    exact loopR_inv h1 fun y s hy => h y s (List.mem_cons_of_mem _ hy)
theorem ix_nat {xs : List α} {i : Nat} {x : α} (h : xs[i]? = some x) : ix xs (i : Int) = .ok x := by
  unfold ix
  rw [if_pos (by omega), Int.toNat_natCast, h]
theorem ix_get {xs : List α} {i : Int} (h0 : 0 ≤ i) (h1 : i < xs.length) : ∃ x, ix xs i = .ok x ∧ xs[i.toNat]? = some x := by
  obtain ⟨n, rfl⟩ := Int.eq_ofNat_of_zero_le h0
  have hn : n < xs.length := by omega
  exact ⟨xs[n], ix_nat (by simp [hn]), by simp [hn]⟩
theorem ix_getD {xs : List α} {i : Int} {d : α} (h0 : 0 ≤ i) (h1 : i < xs.length) : ix xs i = .ok (xs.getD i.toNat d) := by
  obtain ⟨x, e, h⟩ := ix_get h0 h1
  rw [e, List.getD_eq_getElem?_getD, h]
  rfl
theorem setR_nat {xs : List α} {i : Int} {x : α} (h0 : 0 ≤ i) (h1 : i < xs.length) : setR xs i x = .ok (xs.set i.toNat x) := by
  unfold setR ixN
  rw [if_pos h0, if_pos h1]
theorem cut_lo {xs : List α} {k : Int} (h : 0 ≤ k) : cut xs none (some k) = xs.take k.toNat := by
  unfold cut
  rw [HT.sIx_none]
  show (xs.drop 0).take ((if k < 0 then (k + (xs.length : Int)).toNat else min k.toNat xs.length) - 0) = _
  rw [if_neg (by omega), List.drop_zero, Nat.sub_zero, ← List.take_eq_take_min]
theorem cut_hi {xs : List α} {k : Int} (h : 0 ≤ k) : cut xs (some k) none = xs.drop k.toNat := by
  unfold cut
  rw [HT.sIx_none]
  show (xs.drop (if k < 0 then (k + (xs.length : Int)).toNat else min k.toNat xs.length)).take (xs.length - (if k < 0 then (k + (xs.length : Int)).toNat else min k.toNat xs.length)) = _
  rw [if_neg (by omega), List.take_of_length_le (by rw [List.length_drop]; exact Nat.le_refl _)]
  by_cases hk : k.toNat ≤ xs.length
  · rw [Nat.min_eq_left hk]
  · rw [Nat.min_eq_right (by omega), List.drop_length, List.drop_eq_nil_of_le (by omega)]
theorem cut_last {xs : List α} : cut xs none (some (-1)) = xs.dropLast := by
  unfold cut
  rw [HT.sIx_none]
  show (xs.drop 0).take ((if (-1 : Int) < 0 then ((-1 : Int) + (xs.length : Int)).toNat else min (-1 : Int).toNat xs.length) - 0) = _
  rw [if_pos (by decide), List.drop_zero, Nat.sub_zero, List.dropLast_eq_take]
  congr 1
  omega
theorem rangeL_nat (n : Int) : rangeL 0 n = (List.range n.toNat).map fun i : Nat => (i : Int) := by
  unfold rangeL
  rw [Int.sub_zero]
  exact List.map_congr_left fun i _ => by omega
theorem loopN_inv' {f : α → S → Res S} (J : S → Prop) {xs : List α} {s : S} (h0 : J s) (h : ∀ x s, x ∈ xs → J s → Is (f x s) J) : Is (loopN f xs s) J :=
  loopN_inv (fun _ => J) h0 fun i x s hx hj => h x s (List.mem_of_getElem? hx) hj
theorem mapM_is {μ : Type} {f : α → μ → Res (β × μ)} {J : μ → Prop} {B : β → Prop} : ∀ {xs : List α} {y : μ}, J y → (∀ x y, x ∈ xs → J y → Is (f x y) fun b => B b.1 ∧ J b.2) → Is (mapM f xs y) fun c => c.1.length = xs.length ∧ (∀ b ∈ c.1, B b) ∧ J c.2
  | [], y, h0, _ => ⟨rfl, fun _ h => (nomatch h), h0⟩
  | x :: xs, y, h0, h => by
    refine Is.bind (h x y List.mem_cons_self h0) fun b hb => ?_
    refine Is.bind (mapM_is (xs := xs) hb.2 fun z w hz hw => h z w (List.mem_cons_of_mem _ hz) hw) fun c hc => ?_
    exact ⟨by simp [hc.1], fun d hd => by
      rcases List.mem_cons.mp hd with rfl | hd
      · exact hb.1
      · exact hc.2.1 d hd, hc.2.2⟩
variable {μ : Type}
@[simp] theorem callM_ok (f : α → μ → Res (β × μ)) (a : α) (x : μ) : callM f (liftM (.ok a)) x = f a x := rfl
theorem callM_eq (f : α → μ → Res (β × μ)) (m : μ → Res (α × μ)) (x : μ) : callM f m x = (m x).bind fun b => f b.1 b.2 := rfl
theorem unM_eq (f : α → Res γ) (m : μ → Res (α × μ)) (x : μ) : unM f m x = (m x).bind fun b => (f b.1).bind fun c => .ok (c, b.2) := rfl
theorem binM_eq (f : α → β → Res γ) (m : μ → Res (α × μ)) (n : μ → Res (β × μ)) (x : μ) : binM f m n x = (m x).bind fun b => (n b.2).bind fun d => (f b.1 d.1).bind fun c => .ok (c, d.2) := rfl
theorem pairM_eq (m : μ → Res (α × μ)) (n : μ → Res (β × μ)) (x : μ) : pairM m n x = (m x).bind fun b => (n b.2).bind fun d => .ok ((b.1, d.1), d.2) := rfl
theorem consM_eq (m : μ → Res (α × μ)) (n : μ → Res (List α × μ)) (x : μ) : consM m n x = (m x).bind fun b => (n b.2).bind fun d => .ok (b.1 :: d.1, d.2) := rfl
theorem ifMR_eq (c : μ → Res (Bool × μ)) (x : μ) (m n : μ → Res α) : ifMR c x m n = (c x).bind fun b => if b.1 = true then m b.2 else n b.2 := rfl
theorem andM_eq (m n : μ → Res (Bool × μ)) (x : μ) : andM m n x = (m x).bind fun b => if b.1 = true then n b.2 else .ok (false, b.2) := rfl
theorem slM_eq (m : Res (List α)) (lo hi : μ → Res (Option Int × μ)) (x : μ) : slM m lo hi x = m.bind fun xs => (lo x).bind fun a => (hi a.2).bind fun b => .ok (cut xs a.1 b.1, b.2) := rfl
@[simp] theorem consR_ok (a : α) (xs : List α) : consR (.ok a) (.ok xs) = .ok (a :: xs) := rfl
theorem Is.if_ {α : Type} {c : Bool} {m n : Res α} {Q : α → Prop} (h1 : c = true → Is m Q) (h2 : c = false → Is n Q) : Is (if c = true then m else n) Q := by
  cases c with
  | true => exact h1 rfl
  | false => exact h2 rfl
end
end Sd

namespace K85
open PySem L2 Sd
def top (i : Nat) : Stmt := PySem.Challenge.pw_stormdesk_k85_losses_and_thresholds.main.body.getD i (.Pass ⟨0, 0, 0, 0⟩)

abbrev s_ratio : Stmt := top 10
abbrev s_plus : Stmt := top 11
abbrev s_minus : Stmt := top 12
abbrev s_times : Stmt := top 13
abbrev s_over : Stmt := top 14
abbrev s_compare : Stmt := top 15
abbrev s_total : Stmt := top 16
abbrev s_are_counts : Stmt := top 19
abbrev s_check_groups : Stmt := top 22
abbrev s_stretch_share : Stmt := top 23
abbrev s_blocks_of : Stmt := top 24
abbrev s_rising_chances : Stmt := top 25
abbrev s_mean_loss : Stmt := top 26
abbrev s_threshold_expense : Stmt := top 27
abbrev s_best_start : Stmt := top 28
abbrev s__law_mix : Stmt := top 30
abbrev s__law_pool : Stmt := top 31
abbrev s__law_fill : Stmt := top 32
abbrev s__law_take : Stmt := top 33
abbrev s__law_from : Stmt := top 34
abbrev s__law_groups : Stmt := top 35
abbrev s__law_share : Stmt := top 36
abbrev s__law_less : Stmt := top 37
abbrev s__law_chance : Stmt := top 38
abbrev s__law_is_int : Stmt := top 39
abbrev s__law_gcd : Stmt := top 40
abbrev s__law_is_ratio : Stmt := top 41
abbrev s__law_lowest : Stmt := top 42
abbrev s__law_loss : Stmt := top 43
abbrev s__law_drawn_chance : Stmt := top 44
abbrev s__law_ascending : Stmt := top 45
abbrev s__law_never_descends : Stmt := top 46
abbrev s__law_loss_told : Stmt := top 47
abbrev s__law_cost_and_loss : Stmt := top 48
abbrev s__law_starts_told : Stmt := top 49
abbrev s__law_refused : Stmt := top 50
abbrev s__law_refused_right : Stmt := top 51
abbrev s_law : Stmt := top 52
abbrev s_err : Stmt := mth (top 2)
def knE (c : Ec) : Bool := decide (c ∈ ([.DeskError, .TooMany, .BadRatio, .BadSignals, .Unlike] : List Ec))
structure Tx (K : PySem.W.Frag) (mg : Str → Option Value) where
  f_ratio : Addr
  d_ratio : FuncData
  f_plus : Addr
  d_plus : FuncData
  f_minus : Addr
  d_minus : FuncData
  f_times : Addr
  d_times : FuncData
  f_over : Addr
  d_over : FuncData
  f_compare : Addr
  d_compare : FuncData
  f_total : Addr
  d_total : FuncData
  f_are_counts : Addr
  d_are_counts : FuncData
  f_check_groups : Addr
  d_check_groups : FuncData
  f_stretch_share : Addr
  d_stretch_share : FuncData
  f_blocks_of : Addr
  d_blocks_of : FuncData
  f_rising_chances : Addr
  d_rising_chances : FuncData
  f_mean_loss : Addr
  d_mean_loss : FuncData
  f_threshold_expense : Addr
  d_threshold_expense : FuncData
  f_best_start : Addr
  d_best_start : FuncData
  f__law_mix : Addr
  d__law_mix : FuncData
  f__law_pool : Addr
  d__law_pool : FuncData
  f__law_fill : Addr
  d__law_fill : FuncData
  f__law_take : Addr
  d__law_take : FuncData
  f__law_from : Addr
  d__law_from : FuncData
  f__law_groups : Addr
  d__law_groups : FuncData
  f__law_share : Addr
  d__law_share : FuncData
  f__law_less : Addr
  d__law_less : FuncData
  f__law_chance : Addr
  d__law_chance : FuncData
  f__law_is_int : Addr
  d__law_is_int : FuncData
  f__law_gcd : Addr
  d__law_gcd : FuncData
  f__law_is_ratio : Addr
  d__law_is_ratio : FuncData
  f__law_lowest : Addr
  d__law_lowest : FuncData
  f__law_loss : Addr
  d__law_loss : FuncData
  f__law_drawn_chance : Addr
  d__law_drawn_chance : FuncData
  f__law_ascending : Addr
  d__law_ascending : FuncData
  f__law_never_descends : Addr
  d__law_never_descends : FuncData
  f__law_loss_told : Addr
  d__law_loss_told : FuncData
  f__law_cost_and_loss : Addr
  d__law_cost_and_loss : FuncData
  f__law_starts_told : Addr
  d__law_starts_told : FuncData
  f__law_refused : Addr
  d__law_refused : FuncData
  f__law_refused_right : Addr
  d__law_refused_right : FuncData
  f_law : Addr
  d_law : FuncData
  F_ratio : FunD K "ratio" "ratio" (defArgs s_ratio) (defBody s_ratio) (defScope s_ratio) [] [] f_ratio d_ratio
  g_ratio : mg "ratio" = some (.ref f_ratio)
  F_plus : FunD K "plus" "plus" (defArgs s_plus) (defBody s_plus) (defScope s_plus) [] [] f_plus d_plus
  g_plus : mg "plus" = some (.ref f_plus)
  F_minus : FunD K "minus" "minus" (defArgs s_minus) (defBody s_minus) (defScope s_minus) [] [] f_minus d_minus
  g_minus : mg "minus" = some (.ref f_minus)
  F_times : FunD K "times" "times" (defArgs s_times) (defBody s_times) (defScope s_times) [] [] f_times d_times
  g_times : mg "times" = some (.ref f_times)
  F_over : FunD K "over" "over" (defArgs s_over) (defBody s_over) (defScope s_over) [] [] f_over d_over
  g_over : mg "over" = some (.ref f_over)
  F_compare : FunD K "compare" "compare" (defArgs s_compare) (defBody s_compare) (defScope s_compare) [] [] f_compare d_compare
  g_compare : mg "compare" = some (.ref f_compare)
  F_total : FunD K "total" "total" (defArgs s_total) (defBody s_total) (defScope s_total) [] [] f_total d_total
  g_total : mg "total" = some (.ref f_total)
  F_are_counts : FunD K "are_counts" "are_counts" (defArgs s_are_counts) (defBody s_are_counts) (defScope s_are_counts) [] [] f_are_counts d_are_counts
  g_are_counts : mg "are_counts" = some (.ref f_are_counts)
  F_check_groups : FunD K "check_groups" "check_groups" (defArgs s_check_groups) (defBody s_check_groups) (defScope s_check_groups) [] [] f_check_groups d_check_groups
  g_check_groups : mg "check_groups" = some (.ref f_check_groups)
  F_stretch_share : FunD K "stretch_share" "stretch_share" (defArgs s_stretch_share) (defBody s_stretch_share) (defScope s_stretch_share) [] [] f_stretch_share d_stretch_share
  g_stretch_share : mg "stretch_share" = some (.ref f_stretch_share)
  F_blocks_of : FunD K "blocks_of" "blocks_of" (defArgs s_blocks_of) (defBody s_blocks_of) (defScope s_blocks_of) [] [] f_blocks_of d_blocks_of
  g_blocks_of : mg "blocks_of" = some (.ref f_blocks_of)
  F_rising_chances : FunD K "rising_chances" "rising_chances" (defArgs s_rising_chances) (defBody s_rising_chances) (defScope s_rising_chances) [] [] f_rising_chances d_rising_chances
  g_rising_chances : mg "rising_chances" = some (.ref f_rising_chances)
  F_mean_loss : FunD K "mean_loss" "mean_loss" (defArgs s_mean_loss) (defBody s_mean_loss) (defScope s_mean_loss) [] [] f_mean_loss d_mean_loss
  g_mean_loss : mg "mean_loss" = some (.ref f_mean_loss)
  F_threshold_expense : FunD K "threshold_expense" "threshold_expense" (defArgs s_threshold_expense) (defBody s_threshold_expense) (defScope s_threshold_expense) [] [] f_threshold_expense d_threshold_expense
  g_threshold_expense : mg "threshold_expense" = some (.ref f_threshold_expense)
  F_best_start : FunD K "best_start" "best_start" (defArgs s_best_start) (defBody s_best_start) (defScope s_best_start) [] [] f_best_start d_best_start
  g_best_start : mg "best_start" = some (.ref f_best_start)
  F__law_mix : FunD K "_law_mix" "_law_mix" (defArgs s__law_mix) (defBody s__law_mix) (defScope s__law_mix) [] [] f__law_mix d__law_mix
  g__law_mix : mg "_law_mix" = some (.ref f__law_mix)
  F__law_pool : FunD K "_law_pool" "_law_pool" (defArgs s__law_pool) (defBody s__law_pool) (defScope s__law_pool) [] [] f__law_pool d__law_pool
  g__law_pool : mg "_law_pool" = some (.ref f__law_pool)
  F__law_fill : FunD K "_law_fill" "_law_fill" (defArgs s__law_fill) (defBody s__law_fill) (defScope s__law_fill) [] [] f__law_fill d__law_fill
  g__law_fill : mg "_law_fill" = some (.ref f__law_fill)
  F__law_take : FunD K "_law_take" "_law_take" (defArgs s__law_take) (defBody s__law_take) (defScope s__law_take) [] [] f__law_take d__law_take
  g__law_take : mg "_law_take" = some (.ref f__law_take)
  F__law_from : FunD K "_law_from" "_law_from" (defArgs s__law_from) (defBody s__law_from) (defScope s__law_from) [] [] f__law_from d__law_from
  g__law_from : mg "_law_from" = some (.ref f__law_from)
  F__law_groups : FunD K "_law_groups" "_law_groups" (defArgs s__law_groups) (defBody s__law_groups) (defScope s__law_groups) [] [] f__law_groups d__law_groups
  g__law_groups : mg "_law_groups" = some (.ref f__law_groups)
  F__law_share : FunD K "_law_share" "_law_share" (defArgs s__law_share) (defBody s__law_share) (defScope s__law_share) [] [] f__law_share d__law_share
  g__law_share : mg "_law_share" = some (.ref f__law_share)
  F__law_less : FunD K "_law_less" "_law_less" (defArgs s__law_less) (defBody s__law_less) (defScope s__law_less) [] [] f__law_less d__law_less
  g__law_less : mg "_law_less" = some (.ref f__law_less)
  F__law_chance : FunD K "_law_chance" "_law_chance" (defArgs s__law_chance) (defBody s__law_chance) (defScope s__law_chance) [] [] f__law_chance d__law_chance
  g__law_chance : mg "_law_chance" = some (.ref f__law_chance)
  F__law_is_int : FunD K "_law_is_int" "_law_is_int" (defArgs s__law_is_int) (defBody s__law_is_int) (defScope s__law_is_int) [] [] f__law_is_int d__law_is_int
  g__law_is_int : mg "_law_is_int" = some (.ref f__law_is_int)
  F__law_gcd : FunD K "_law_gcd" "_law_gcd" (defArgs s__law_gcd) (defBody s__law_gcd) (defScope s__law_gcd) [] [] f__law_gcd d__law_gcd
  g__law_gcd : mg "_law_gcd" = some (.ref f__law_gcd)
  F__law_is_ratio : FunD K "_law_is_ratio" "_law_is_ratio" (defArgs s__law_is_ratio) (defBody s__law_is_ratio) (defScope s__law_is_ratio) [] [] f__law_is_ratio d__law_is_ratio
  g__law_is_ratio : mg "_law_is_ratio" = some (.ref f__law_is_ratio)
  F__law_lowest : FunD K "_law_lowest" "_law_lowest" (defArgs s__law_lowest) (defBody s__law_lowest) (defScope s__law_lowest) [] [] f__law_lowest d__law_lowest
  g__law_lowest : mg "_law_lowest" = some (.ref f__law_lowest)
  F__law_loss : FunD K "_law_loss" "_law_loss" (defArgs s__law_loss) (defBody s__law_loss) (defScope s__law_loss) [] [] f__law_loss d__law_loss
  g__law_loss : mg "_law_loss" = some (.ref f__law_loss)
  F__law_drawn_chance : FunD K "_law_drawn_chance" "_law_drawn_chance" (defArgs s__law_drawn_chance) (defBody s__law_drawn_chance) (defScope s__law_drawn_chance) [] [] f__law_drawn_chance d__law_drawn_chance
  g__law_drawn_chance : mg "_law_drawn_chance" = some (.ref f__law_drawn_chance)
  F__law_ascending : FunD K "_law_ascending" "_law_ascending" (defArgs s__law_ascending) (defBody s__law_ascending) (defScope s__law_ascending) [] [] f__law_ascending d__law_ascending
  g__law_ascending : mg "_law_ascending" = some (.ref f__law_ascending)
  F__law_never_descends : FunD K "_law_never_descends" "_law_never_descends" (defArgs s__law_never_descends) (defBody s__law_never_descends) (defScope s__law_never_descends) [] [] f__law_never_descends d__law_never_descends
  g__law_never_descends : mg "_law_never_descends" = some (.ref f__law_never_descends)
  F__law_loss_told : FunD K "_law_loss_told" "_law_loss_told" (defArgs s__law_loss_told) (defBody s__law_loss_told) (defScope s__law_loss_told) [] [] f__law_loss_told d__law_loss_told
  g__law_loss_told : mg "_law_loss_told" = some (.ref f__law_loss_told)
  F__law_cost_and_loss : FunD K "_law_cost_and_loss" "_law_cost_and_loss" (defArgs s__law_cost_and_loss) (defBody s__law_cost_and_loss) (defScope s__law_cost_and_loss) [] [] f__law_cost_and_loss d__law_cost_and_loss
  g__law_cost_and_loss : mg "_law_cost_and_loss" = some (.ref f__law_cost_and_loss)
  F__law_starts_told : FunD K "_law_starts_told" "_law_starts_told" (defArgs s__law_starts_told) (defBody s__law_starts_told) (defScope s__law_starts_told) [] [] f__law_starts_told d__law_starts_told
  g__law_starts_told : mg "_law_starts_told" = some (.ref f__law_starts_told)
  F__law_refused : FunD K "_law_refused" "_law_refused" (defArgs s__law_refused) (defBody s__law_refused) (defScope s__law_refused) [] [] f__law_refused d__law_refused
  g__law_refused : mg "_law_refused" = some (.ref f__law_refused)
  F__law_refused_right : FunD K "_law_refused_right" "_law_refused_right" (defArgs s__law_refused_right) (defBody s__law_refused_right) (defScope s__law_refused_right) [] [] f__law_refused_right d__law_refused_right
  g__law_refused_right : mg "_law_refused_right" = some (.ref f__law_refused_right)
  F_law : FunD K "law" "law" (defArgs s_law) (defBody s_law) (defScope s_law) [] [] f_law d_law
  g_law : mg "law" = some (.ref f_law)
  gb_bool : mg "bool" = none
  gb_enumerate : mg "enumerate" = none
  gb_int : mg "int" = none
  gb_isinstance : mg "isinstance" = none
  gb_len : mg "len" = none
  gb_list : mg "list" = none
  gb_min : mg "min" = none
  gb_range : mg "range" = none
  gb_sorted : mg "sorted" = none
  gb_sum : mg "sum" = none
  gb_tuple : mg "tuple" = none
  gb_zip : mg "zip" = none
  gm_gcd : mg "gcd" = some (.builtin "math.gcd")
  gi_MOST_CASES : ∃ t, mg "MOST_CASES" = some (.int (100000) t)
  gi_MOST_GROUPS : ∃ t, mg "MOST_GROUPS" = some (.int (24) t)
  gt_ONE : mg "ONE" = some (.ref (He.ga K "ONE")) ∧ ∀ H, SqT K H (He.ga K "ONE") [.int (1), .int (1)]
  gt_ZERO : mg "ZERO" = some (.ref (He.ga K "ZERO")) ∧ ∀ H, SqT K H (He.ga K "ZERO") [.int (0), .int (1)]
  f_err : Addr
  d_err : FuncData
  F_err : ErrF K s_err f_err d_err
  xs : ∀ c, knE c = true → ErrC K mg f_err c
  ki : ∀ c b, knE c = true → knE b = true → PySem.W.kitOne K (.ref (He.ga K c.name)) (.ref (He.ga K b.name)) = some (isaE c b)
  ex : ∀ c b, knE c = true → knE b = true → PySem.W.exmOne K (.ref (He.ga K c.name)) (.ref (He.ga K b.name)) = some (isaE c b)
noncomputable section
variable {P : Program} {w : World} {K : PySem.W.Frag} {mg : Str → Option Value} {base : Heap}
theorem sc_err : FnScope ["self", "at"] ["self", "at"] (defScope s_err) := ⟨rfl, rfl, rfl, by decide +kernel, rfl, by decide +kernel, by decide +kernel⟩
theorem bind_err {K : PySem.W.Frag} {mg : Str → Option Value} {T : Tx K mg} : Binds K T.d_err ["self", "at"] [] := by
  obtain ⟨ds, h1, h2⟩ := FunD.binds1 T.F_err (ps := ["self", "at"]) 2 1 (by decide) rfl fun _ _ _ _ _ _ _ us its hu hi => match us, its, hu, hi with | [_, _], [_], _, _ => ⟨_, rfl, rfl⟩
  cases h1
  exact h2
theorem ok_err (T : Tx K mg) : FnOk P w K mg base (L2.CX P w) 1 T.f_err T.d_err ["self", "at"] (spInit K) := by
  refine T.F_err.ok sc_err (fun vs H Q E h => ?_) (fun cdv A outer s H vs Q E hr h => ?_)
  · obtain ⟨a, C, i, rfl, _⟩ := h
    rfl
  · obtain ⟨a, C, i, rfl, ho, hn, ha, hq⟩ := h
    exact ⟨_, pss_cons (ps_ost (pv 0) (pv 1)) pss_nil, _, rfl, _, rfl, a, C, rfl, ho, hn, .inl ⟨ha, fun dx h1 h2 => hq dx h1 h2⟩⟩
def m_ratio (ar_n : Int) (ar_d : Int) : Res (Int × Int) :=
  (ifR (bin eqR (Res.ok ar_d) (Res.ok (0 : Int))) ((Res.ok (0 : Int)).bind fun i => Res.exc .BadRatio i) ((ifR (bin rLt (Res.ok ar_d) (Res.ok (0 : Int))) ((un rNeg (Res.ok ar_n)).bind fun (n_26 : Int) => ((un rNeg (Res.ok ar_d)).bind fun (d_33 : Int) => (Res.ok (n_26, d_33)))) (Res.ok (ar_n, ar_d))).bind fun (z_17 : (Int × Int)) => ((un gcdR (pair (Res.ok z_17.1) (Res.ok z_17.2))).bind fun (common_45 : Int) => ((pair (bin rDivW (Res.ok z_17.1) (Res.ok common_45)) (bin rDivW (Res.ok z_17.2) (Res.ok common_45))).bind fun a_52 => Res.ok a_52))))
abbrev N_ratio : List Str := ["n", "d", "common"]
theorem sc_ratio : FnScope N_ratio ["n", "d"] (defScope s_ratio) := ⟨rfl, rfl, rfl, by decide +kernel, rfl, by decide +kernel, by decide +kernel⟩
theorem bind_ratio {K : PySem.W.Frag} {mg : Str → Option Value} {T : Tx K mg} : Binds K T.d_ratio ["n", "d"] [] := FunD.bindsN T.F_ratio fun _ _ _ _ _ _ us hl => match us, hl with | [_, _], _ => rfl
abbrev sp_ratio (K : PySem.W.Frag) : Sp := spP K (tc pI (t1 pI)) (fun (p : (Int × Int)) => m_ratio p.1 p.2) (pT (tc pI (t1 pI)))
theorem ok_ratio (T : Tx K mg) : FnOk P w K mg base (L2.CX P w) 3 T.f_ratio T.d_ratio ["n", "d"] (sp_ratio K) := by
  refine T.F_ratio.ok sc_ratio (fun vs H Q E h => ?_) (fun cdv A outer s H vs Q E hr h => ?_)
  · obtain ⟨I, C, a, _, hr, _⟩ := h
    exact Rt.len _ hr
  · obtain ⟨I0, C0, ⟨ar_n, ar_d⟩, hs, ⟨v_n, us0, rfl, r_n, v_d, rfl, r_d⟩, hm⟩ := h
    have hm : Post (m_ratio ar_n ar_d) (PQ (pT (tc pI (t1 pI))) I0 C0 Q) (PX E K I0 C0) := hm
    replace r_n : Rp.r pI ar_n v_n I0 Z := Im.im r_n
    replace r_d : Rp.r pI ar_d v_d I0 Z := Im.im r_d
    unfold m_ratio at hm
    refine ⟨_, (pss_cons (ps_if (pt_cmpR op_eq (pv 1) pe_int (nomark _)) (pss_cons (ps_raise rfl (takes_of rfl rfl rfl rfl) (pmk_oex (T.xs .BadRatio (by decide)).o (T.xs .BadRatio (by decide)).ic (T.xs .BadRatio (by decide)).ti (ok_err T) (hr.mono (by decide)) bind_err .nil passL rfl (T.xs .BadRatio (by decide)).g (pa_cons pe_int pa_nil))) pss_nil) pss_nil) (Evl.pss_cut (ps_if (pt_cmpR op_lt (pv 1) pe_int (nomark _)) (pss_cons (ps_set (i := 0) sc_ratio.nd rfl (Or.inl rfl) (pe_un un_neg (pv 0))) (pss_cons (ps_set (i := 1) sc_ratio.nd rfl (Or.inl rfl) (pe_un un_neg (pv 1))) pss_nil)) pss_nil) (pss_cons (ps_set (i := 2) sc_ratio.nd rfl (Or.inl rfl) (pe_callBfun cr_gcd (by rfl) T.gm_gcd (pa_cons (pv 0) (pa_cons (pv 1) pa_nil)))) (pss_cons (ps_ret (pe_tup (pa_cons (pe_op op_fdivW (pv 0) (pv 2)) (pa_cons (pe_op op_fdivW (pv 1) (pv 2)) pa_nil)))) pss_nil)))), ?_⟩
    refine s_if (E := E) (K := K) (σ := [some v_n, some v_d, none]) (t_test (x_op o_eqI (x_var (i := 1) rfl (Rp.mono _ (Ex.refl _) exz r_d)) (x_int (i := 0)))) hs (fun _ _ h => PX.mono (Ex.refl _) (Ex.refl _) h) hm (fun I_1 H_2 e_3 s_4 hm => ?_) (fun I_5 H_6 e_7 s_8 hm => ?_)
    · exact s_raise (E := E) (K := K) (σ := [some v_n, some v_d, none]) (T.xs .BadRatio (by decide)) (a_one (x_int (i := 0))) s_4 (fun _ _ h => PX.mono e_3 (Ex.refl _) h) hm
    · refine s_ifj (E := E) (K := K) (σ := [some v_n, some v_d, none]) (fun (z_17 : (Int × Int)) σ2 I_19 C_20 => ∃ v_21 : V, ∃ v_23 : V, σ2 = [some v_21, some v_23, none] ∧ Rp.r pI z_17.1 v_21 I_19 Z ∧ Rp.r pI z_17.2 v_23 I_19 Z ∧ Ex C0 C_20) (t_test (x_op o_lt (x_var (i := 1) rfl (Rp.mono _ e_7 exz r_d)) (x_int (i := 0)))) s_8 (fun _ _ h => PX.mono e_7 (Ex.refl _) h) hm (fun N I_9 H_10 e_11 s_12 hm => ?_) (fun N I_13 H_14 e_15 s_16 hm => ?_) (fun z_17 σ2 I_40 C_41 H_42 e_43 s_44 ⟨v_21, v_23, hs_18, r_22, r_24, fr_25⟩ hm => ?_)
      · refine q_asg (E := E) (K := K) (σ := [some v_n, some v_d, none]) (i := 0) (x_un o_neg (x_var (i := 0) rfl (Rp.mono _ (e_7.trans e_11) exz r_n))) s_12 (fun _ _ h => PX.mono (e_7.trans e_11) (Ex.refl _) h) hm fun n_26 v_27 I_28 H_29 e_30 s_31 r_32 hm => ?_
        refine q_asg (E := E) (K := K) (σ := [some v_27, some v_d, none]) (i := 1) (x_un o_neg (x_var (i := 1) rfl (Rp.mono _ (e_7.trans (e_11.trans e_30)) exz r_d))) s_31 (fun _ _ h => PX.mono (e_7.trans (e_11.trans e_30)) (Ex.refl _) h) hm fun d_33 v_34 I_35 H_36 e_37 s_38 r_39 hm => ?_
        exact hm _ _ _ _ (e_11.trans (e_30.trans e_37)) s_38 ⟨v_27, v_34, rfl, Rp.mono _ e_37 exz r_32, Rp.mono _ (Ex.refl _) exz r_39, (Ex.refl _)⟩
      · exact hm _ _ _ _ e_15 s_16 ⟨v_n, v_d, rfl, Rp.mono _ (e_7.trans e_15) exz r_n, Rp.mono _ (e_7.trans e_15) exz r_d, (Ex.refl _)⟩
      subst hs_18
      refine q_asg (E := E) (K := K) (σ := [some v_21, some v_23, none]) (i := 2) (x_cb o_gcd (a_cons (x_var (i := 0) rfl (Rp.mono _ (Ex.refl _) exz r_22)) (a_one (x_var (i := 1) rfl (Rp.mono _ (Ex.refl _) exz r_24))))) s_44 (fun _ _ h => PX.mono (e_7.trans e_43) fr_25 h) hm fun common_45 v_46 I_47 H_48 e_49 s_50 r_51 hm => ?_
      refine q_ret (tz := tNext) (E := E) (K := K) (σ := [some v_21, some v_23, some v_46]) (x_tup (a_cons (x_op o_fdivW (x_var (i := 0) rfl (Rp.mono _ e_49 exz r_22)) (x_var (i := 2) rfl (Rp.mono _ (Ex.refl _) exz r_51))) (a_one (x_op o_fdivW (x_var (i := 1) rfl (Rp.mono _ e_49 exz r_24)) (x_var (i := 2) rfl (Rp.mono _ (Ex.refl _) exz r_51))))) (Nat.le_of_ble_eq_true rfl)) s_50 (fun _ _ h => PX.mono (e_7.trans (e_43.trans e_49)) fr_25 h) hm fun a_52 v_53 I_54 H_55 e_56 s_57 r_58 hm => ?_
      exact hm v_53 I_54 H_55 (e_7.trans (e_43.trans (e_49.trans e_56))) (St.less s_57 fr_25) (Im.im r_58)
def m_plus (ar_one : (Int × Int)) (ar_two : (Int × Int)) : Res (Int × Int) :=
  ((un (fun (p : (Int × Int)) => m_ratio p.1 p.2) (pair (bin rAdd (bin rMulW (un (fun p => Res.ok p.1) (Res.ok ar_one)) (un (fun p => Res.ok p.2) (Res.ok ar_two))) (bin rMulW (un (fun p => Res.ok p.1) (Res.ok ar_two)) (un (fun p => Res.ok p.2) (Res.ok ar_one)))) (bin rMulW (un (fun p => Res.ok p.2) (Res.ok ar_one)) (un (fun p => Res.ok p.2) (Res.ok ar_two))))).bind fun a_1 => Res.ok a_1)
abbrev N_plus : List Str := ["one", "two"]
theorem sc_plus : FnScope N_plus ["one", "two"] (defScope s_plus) := ⟨rfl, rfl, rfl, by decide +kernel, rfl, by decide +kernel, by decide +kernel⟩
theorem bind_plus {K : PySem.W.Frag} {mg : Str → Option Value} {T : Tx K mg} : Binds K T.d_plus ["one", "two"] [] := FunD.bindsN T.F_plus fun _ _ _ _ _ _ us hl => match us, hl with | [_, _], _ => rfl
abbrev sp_plus (K : PySem.W.Frag) : Sp := spP K (tc (pU K (tc pI (t1 pI))) (t1 (pU K (tc pI (t1 pI))))) (fun (p : ((Int × Int) × (Int × Int))) => m_plus p.1 p.2) (pT (tc pI (t1 pI)))
theorem ok_plus (T : Tx K mg) : FnOk P w K mg base (L2.CX P w) 4 T.f_plus T.d_plus ["one", "two"] (sp_plus K) := by
  refine T.F_plus.ok sc_plus (fun vs H Q E h => ?_) (fun cdv A outer s H vs Q E hr h => ?_)
  · obtain ⟨I, C, a, _, hr, _⟩ := h
    exact Rt.len _ hr
  · obtain ⟨I0, C0, ⟨ar_one, ar_two⟩, hs, ⟨v_one, us0, rfl, r_one, v_two, rfl, r_two⟩, hm⟩ := h
    have hm : Post (m_plus ar_one ar_two) (PQ (pT (tc pI (t1 pI))) I0 C0 Q) (PX E K I0 C0) := hm
    replace r_one : Rp.r (pU K (tc pI (t1 pI))) ar_one v_one I0 Z := Im.im r_one
    replace r_two : Rp.r (pU K (tc pI (t1 pI))) ar_two v_two I0 Z := Im.im r_two
    unfold m_plus at hm
    refine ⟨_, (pss_cons (ps_ret (pe_call (ok_ratio T) (hr.mono (by decide)) rfl T.g_ratio T.F_ratio.kp bind_ratio .nil passE (pa_cons (pe_op op_add (pe_op op_mulW (pe_ix (r := rIxT K) ix_tup (pv 0) pe_int (fun _ _ => rfl)) (pe_ix (r := rIxT K) ix_tup (pv 1) pe_int (fun _ _ => rfl))) (pe_op op_mulW (pe_ix (r := rIxT K) ix_tup (pv 1) pe_int (fun _ _ => rfl)) (pe_ix (r := rIxT K) ix_tup (pv 0) pe_int (fun _ _ => rfl)))) (pa_cons (pe_op op_mulW (pe_ix (r := rIxT K) ix_tup (pv 0) pe_int (fun _ _ => rfl)) (pe_ix (r := rIxT K) ix_tup (pv 1) pe_int (fun _ _ => rfl))) pa_nil)))) pss_nil), ?_⟩
    refine q_ret (tz := tNext) (E := E) (K := K) (σ := [some v_one, some v_two]) (x_call (a_cons (x_op o_add (x_op o_mulW (x_k (k := ((0 : Nat) : Int)) (o_pjU pj0) (x_var (i := 0) rfl (Rp.mono _ (Ex.refl _) exz r_one))) (x_k (k := ((1 : Nat) : Int)) (o_pjU (pjs pj1)) (x_var (i := 1) rfl (Rp.mono _ (Ex.refl _) exz r_two)))) (x_op o_mulW (x_k (k := ((0 : Nat) : Int)) (o_pjU pj0) (x_var (i := 1) rfl (Rp.mono _ (Ex.refl _) exz r_two))) (x_k (k := ((1 : Nat) : Int)) (o_pjU (pjs pj1)) (x_var (i := 0) rfl (Rp.mono _ (Ex.refl _) exz r_one))))) (a_one (x_op o_mulW (x_k (k := ((1 : Nat) : Int)) (o_pjU (pjs pj1)) (x_var (i := 0) rfl (Rp.mono _ (Ex.refl _) exz r_one))) (x_k (k := ((1 : Nat) : Int)) (o_pjU (pjs pj1)) (x_var (i := 1) rfl (Rp.mono _ (Ex.refl _) exz r_two))))))) hs (fun _ _ h => PX.mono (Ex.refl _) (Ex.refl _) h) hm fun a_1 v_2 I_3 H_4 e_5 s_6 r_7 hm => ?_
    exact hm v_2 I_3 H_4 e_5 (St.less s_6 (Ex.refl _)) (Im.im r_7)
def m_minus (ar_one : (Int × Int)) (ar_two : (Int × Int)) : Res (Int × Int) :=
  ((un (fun (p : (Int × Int)) => m_ratio p.1 p.2) (pair (bin rSub (bin rMulW (un (fun p => Res.ok p.1) (Res.ok ar_one)) (un (fun p => Res.ok p.2) (Res.ok ar_two))) (bin rMulW (un (fun p => Res.ok p.1) (Res.ok ar_two)) (un (fun p => Res.ok p.2) (Res.ok ar_one)))) (bin rMulW (un (fun p => Res.ok p.2) (Res.ok ar_one)) (un (fun p => Res.ok p.2) (Res.ok ar_two))))).bind fun a_1 => Res.ok a_1)
abbrev N_minus : List Str := ["one", "two"]
theorem sc_minus : FnScope N_minus ["one", "two"] (defScope s_minus) := ⟨rfl, rfl, rfl, by decide +kernel, rfl, by decide +kernel, by decide +kernel⟩
theorem bind_minus {K : PySem.W.Frag} {mg : Str → Option Value} {T : Tx K mg} : Binds K T.d_minus ["one", "two"] [] := FunD.bindsN T.F_minus fun _ _ _ _ _ _ us hl => match us, hl with | [_, _], _ => rfl
abbrev sp_minus (K : PySem.W.Frag) : Sp := spP K (tc (pU K (tc pI (t1 pI))) (t1 (pU K (tc pI (t1 pI))))) (fun (p : ((Int × Int) × (Int × Int))) => m_minus p.1 p.2) (pT (tc pI (t1 pI)))
theorem ok_minus (T : Tx K mg) : FnOk P w K mg base (L2.CX P w) 4 T.f_minus T.d_minus ["one", "two"] (sp_minus K) := by
  refine T.F_minus.ok sc_minus (fun vs H Q E h => ?_) (fun cdv A outer s H vs Q E hr h => ?_)
  · obtain ⟨I, C, a, _, hr, _⟩ := h
    exact Rt.len _ hr
  · obtain ⟨I0, C0, ⟨ar_one, ar_two⟩, hs, ⟨v_one, us0, rfl, r_one, v_two, rfl, r_two⟩, hm⟩ := h
    have hm : Post (m_minus ar_one ar_two) (PQ (pT (tc pI (t1 pI))) I0 C0 Q) (PX E K I0 C0) := hm
    replace r_one : Rp.r (pU K (tc pI (t1 pI))) ar_one v_one I0 Z := Im.im r_one
    replace r_two : Rp.r (pU K (tc pI (t1 pI))) ar_two v_two I0 Z := Im.im r_two
    unfold m_minus at hm
    refine ⟨_, (pss_cons (ps_ret (pe_call (ok_ratio T) (hr.mono (by decide)) rfl T.g_ratio T.F_ratio.kp bind_ratio .nil passE (pa_cons (pe_op op_sub (pe_op op_mulW (pe_ix (r := rIxT K) ix_tup (pv 0) pe_int (fun _ _ => rfl)) (pe_ix (r := rIxT K) ix_tup (pv 1) pe_int (fun _ _ => rfl))) (pe_op op_mulW (pe_ix (r := rIxT K) ix_tup (pv 1) pe_int (fun _ _ => rfl)) (pe_ix (r := rIxT K) ix_tup (pv 0) pe_int (fun _ _ => rfl)))) (pa_cons (pe_op op_mulW (pe_ix (r := rIxT K) ix_tup (pv 0) pe_int (fun _ _ => rfl)) (pe_ix (r := rIxT K) ix_tup (pv 1) pe_int (fun _ _ => rfl))) pa_nil)))) pss_nil), ?_⟩
    refine q_ret (tz := tNext) (E := E) (K := K) (σ := [some v_one, some v_two]) (x_call (a_cons (x_op o_sub (x_op o_mulW (x_k (k := ((0 : Nat) : Int)) (o_pjU pj0) (x_var (i := 0) rfl (Rp.mono _ (Ex.refl _) exz r_one))) (x_k (k := ((1 : Nat) : Int)) (o_pjU (pjs pj1)) (x_var (i := 1) rfl (Rp.mono _ (Ex.refl _) exz r_two)))) (x_op o_mulW (x_k (k := ((0 : Nat) : Int)) (o_pjU pj0) (x_var (i := 1) rfl (Rp.mono _ (Ex.refl _) exz r_two))) (x_k (k := ((1 : Nat) : Int)) (o_pjU (pjs pj1)) (x_var (i := 0) rfl (Rp.mono _ (Ex.refl _) exz r_one))))) (a_one (x_op o_mulW (x_k (k := ((1 : Nat) : Int)) (o_pjU (pjs pj1)) (x_var (i := 0) rfl (Rp.mono _ (Ex.refl _) exz r_one))) (x_k (k := ((1 : Nat) : Int)) (o_pjU (pjs pj1)) (x_var (i := 1) rfl (Rp.mono _ (Ex.refl _) exz r_two))))))) hs (fun _ _ h => PX.mono (Ex.refl _) (Ex.refl _) h) hm fun a_1 v_2 I_3 H_4 e_5 s_6 r_7 hm => ?_
    exact hm v_2 I_3 H_4 e_5 (St.less s_6 (Ex.refl _)) (Im.im r_7)
def m_times (ar_one : (Int × Int)) (ar_two : (Int × Int)) : Res (Int × Int) :=
  ((un (fun (p : (Int × Int)) => m_ratio p.1 p.2) (pair (bin rMulW (un (fun p => Res.ok p.1) (Res.ok ar_one)) (un (fun p => Res.ok p.1) (Res.ok ar_two))) (bin rMulW (un (fun p => Res.ok p.2) (Res.ok ar_one)) (un (fun p => Res.ok p.2) (Res.ok ar_two))))).bind fun a_1 => Res.ok a_1)
abbrev N_times : List Str := ["one", "two"]
theorem sc_times : FnScope N_times ["one", "two"] (defScope s_times) := ⟨rfl, rfl, rfl, by decide +kernel, rfl, by decide +kernel, by decide +kernel⟩
theorem bind_times {K : PySem.W.Frag} {mg : Str → Option Value} {T : Tx K mg} : Binds K T.d_times ["one", "two"] [] := FunD.bindsN T.F_times fun _ _ _ _ _ _ us hl => match us, hl with | [_, _], _ => rfl
abbrev sp_times (K : PySem.W.Frag) : Sp := spP K (tc (pT (tc pI (t1 pI))) (t1 (pT (tc pI (t1 pI))))) (fun (p : ((Int × Int) × (Int × Int))) => m_times p.1 p.2) (pT (tc pI (t1 pI)))
theorem ok_times (T : Tx K mg) : FnOk P w K mg base (L2.CX P w) 4 T.f_times T.d_times ["one", "two"] (sp_times K) := by
  refine T.F_times.ok sc_times (fun vs H Q E h => ?_) (fun cdv A outer s H vs Q E hr h => ?_)
  · obtain ⟨I, C, a, _, hr, _⟩ := h
    exact Rt.len _ hr
  · obtain ⟨I0, C0, ⟨ar_one, ar_two⟩, hs, ⟨v_one, us0, rfl, r_one, v_two, rfl, r_two⟩, hm⟩ := h
    have hm : Post (m_times ar_one ar_two) (PQ (pT (tc pI (t1 pI))) I0 C0 Q) (PX E K I0 C0) := hm
    replace r_one : Rp.r (pT (tc pI (t1 pI))) ar_one v_one I0 Z := Im.im r_one
    replace r_two : Rp.r (pT (tc pI (t1 pI))) ar_two v_two I0 Z := Im.im r_two
    unfold m_times at hm
    refine ⟨_, (pss_cons (ps_ret (pe_call (ok_ratio T) (hr.mono (by decide)) rfl T.g_ratio T.F_ratio.kp bind_ratio .nil passE (pa_cons (pe_op op_mulW (pe_ix (r := rIxT K) ix_tup (pv 0) pe_int (fun _ _ => rfl)) (pe_ix (r := rIxT K) ix_tup (pv 1) pe_int (fun _ _ => rfl))) (pa_cons (pe_op op_mulW (pe_ix (r := rIxT K) ix_tup (pv 0) pe_int (fun _ _ => rfl)) (pe_ix (r := rIxT K) ix_tup (pv 1) pe_int (fun _ _ => rfl))) pa_nil)))) pss_nil), ?_⟩
    refine q_ret (tz := tNext) (E := E) (K := K) (σ := [some v_one, some v_two]) (x_call (a_cons (x_op o_mulW (x_k (k := ((0 : Nat) : Int)) (o_pj pj0) (x_var (i := 0) rfl (Rp.mono _ (Ex.refl _) exz r_one))) (x_k (k := ((0 : Nat) : Int)) (o_pj pj0) (x_var (i := 1) rfl (Rp.mono _ (Ex.refl _) exz r_two)))) (a_one (x_op o_mulW (x_k (k := ((1 : Nat) : Int)) (o_pj (pjs pj1)) (x_var (i := 0) rfl (Rp.mono _ (Ex.refl _) exz r_one))) (x_k (k := ((1 : Nat) : Int)) (o_pj (pjs pj1)) (x_var (i := 1) rfl (Rp.mono _ (Ex.refl _) exz r_two))))))) hs (fun _ _ h => PX.mono (Ex.refl _) (Ex.refl _) h) hm fun a_1 v_2 I_3 H_4 e_5 s_6 r_7 hm => ?_
    exact hm v_2 I_3 H_4 e_5 (St.less s_6 (Ex.refl _)) (Im.im r_7)
def m_over (ar_one : (Int × Int)) (ar_two : (Int × Int)) : Res (Int × Int) :=
  ((un (fun (p : (Int × Int)) => m_ratio p.1 p.2) (pair (bin rMulW (un (fun p => Res.ok p.1) (Res.ok ar_one)) (un (fun p => Res.ok p.2) (Res.ok ar_two))) (bin rMulW (un (fun p => Res.ok p.2) (Res.ok ar_one)) (un (fun p => Res.ok p.1) (Res.ok ar_two))))).bind fun a_1 => Res.ok a_1)
abbrev N_over : List Str := ["one", "two"]
theorem sc_over : FnScope N_over ["one", "two"] (defScope s_over) := ⟨rfl, rfl, rfl, by decide +kernel, rfl, by decide +kernel, by decide +kernel⟩
theorem bind_over {K : PySem.W.Frag} {mg : Str → Option Value} {T : Tx K mg} : Binds K T.d_over ["one", "two"] [] := FunD.bindsN T.F_over fun _ _ _ _ _ _ us hl => match us, hl with | [_, _], _ => rfl
abbrev sp_over (K : PySem.W.Frag) : Sp := spP K (tc (pU K (tc pI (t1 pI))) (t1 (pT (tc pI (t1 pI))))) (fun (p : ((Int × Int) × (Int × Int))) => m_over p.1 p.2) (pT (tc pI (t1 pI)))
theorem ok_over (T : Tx K mg) : FnOk P w K mg base (L2.CX P w) 4 T.f_over T.d_over ["one", "two"] (sp_over K) := by
  refine T.F_over.ok sc_over (fun vs H Q E h => ?_) (fun cdv A outer s H vs Q E hr h => ?_)
  · obtain ⟨I, C, a, _, hr, _⟩ := h
    exact Rt.len _ hr
  · obtain ⟨I0, C0, ⟨ar_one, ar_two⟩, hs, ⟨v_one, us0, rfl, r_one, v_two, rfl, r_two⟩, hm⟩ := h
    have hm : Post (m_over ar_one ar_two) (PQ (pT (tc pI (t1 pI))) I0 C0 Q) (PX E K I0 C0) := hm
    replace r_one : Rp.r (pU K (tc pI (t1 pI))) ar_one v_one I0 Z := Im.im r_one
    replace r_two : Rp.r (pT (tc pI (t1 pI))) ar_two v_two I0 Z := Im.im r_two
    unfold m_over at hm
    refine ⟨_, (pss_cons (ps_ret (pe_call (ok_ratio T) (hr.mono (by decide)) rfl T.g_ratio T.F_ratio.kp bind_ratio .nil passE (pa_cons (pe_op op_mulW (pe_ix (r := rIxT K) ix_tup (pv 0) pe_int (fun _ _ => rfl)) (pe_ix (r := rIxT K) ix_tup (pv 1) pe_int (fun _ _ => rfl))) (pa_cons (pe_op op_mulW (pe_ix (r := rIxT K) ix_tup (pv 0) pe_int (fun _ _ => rfl)) (pe_ix (r := rIxT K) ix_tup (pv 1) pe_int (fun _ _ => rfl))) pa_nil)))) pss_nil), ?_⟩
    refine q_ret (tz := tNext) (E := E) (K := K) (σ := [some v_one, some v_two]) (x_call (a_cons (x_op o_mulW (x_k (k := ((0 : Nat) : Int)) (o_pjU pj0) (x_var (i := 0) rfl (Rp.mono _ (Ex.refl _) exz r_one))) (x_k (k := ((1 : Nat) : Int)) (o_pj (pjs pj1)) (x_var (i := 1) rfl (Rp.mono _ (Ex.refl _) exz r_two)))) (a_one (x_op o_mulW (x_k (k := ((1 : Nat) : Int)) (o_pjU (pjs pj1)) (x_var (i := 0) rfl (Rp.mono _ (Ex.refl _) exz r_one))) (x_k (k := ((0 : Nat) : Int)) (o_pj pj0) (x_var (i := 1) rfl (Rp.mono _ (Ex.refl _) exz r_two))))))) hs (fun _ _ h => PX.mono (Ex.refl _) (Ex.refl _) h) hm fun a_1 v_2 I_3 H_4 e_5 s_6 r_7 hm => ?_
    exact hm v_2 I_3 H_4 e_5 (St.less s_6 (Ex.refl _)) (Im.im r_7)
def m_compare (ar_one : (Int × Int)) (ar_two : (Int × Int)) : Res Int :=
  ((bin rMul (un (fun p => Res.ok p.1) (Res.ok ar_one)) (un (fun p => Res.ok p.2) (Res.ok ar_two))).bind fun (left_1 : Int) => ((bin rMul (un (fun p => Res.ok p.1) (Res.ok ar_two)) (un (fun p => Res.ok p.2) (Res.ok ar_one))).bind fun (right_8 : Int) => (ifR (bin rLt (Res.ok left_1) (Res.ok right_8)) ((un rNeg (Res.ok (1 : Int))).bind fun a_23 => Res.ok a_23) (ifR (bin rGt (Res.ok left_1) (Res.ok right_8)) ((Res.ok (1 : Int)).bind fun a_38 => Res.ok a_38) ((Res.ok (0 : Int)).bind fun a_45 => Res.ok a_45)))))
abbrev N_compare : List Str := ["one", "two", "left", "right"]
theorem sc_compare : FnScope N_compare ["one", "two"] (defScope s_compare) := ⟨rfl, rfl, rfl, by decide +kernel, rfl, by decide +kernel, by decide +kernel⟩
theorem bind_compare {K : PySem.W.Frag} {mg : Str → Option Value} {T : Tx K mg} : Binds K T.d_compare ["one", "two"] [] := FunD.bindsN T.F_compare fun _ _ _ _ _ _ us hl => match us, hl with | [_, _], _ => rfl
abbrev sp_compare (K : PySem.W.Frag) : Sp := spP K (tc (pT (tc pI (t1 pI))) (t1 (pT (tc pI (t1 pI))))) (fun (p : ((Int × Int) × (Int × Int))) => m_compare p.1 p.2) pI
theorem ok_compare (T : Tx K mg) : FnOk P w K mg base (L2.CX P w) 1 T.f_compare T.d_compare ["one", "two"] (sp_compare K) := by
  refine T.F_compare.ok sc_compare (fun vs H Q E h => ?_) (fun cdv A outer s H vs Q E hr h => ?_)
  · obtain ⟨I, C, a, _, hr, _⟩ := h
    exact Rt.len _ hr
  · obtain ⟨I0, C0, ⟨ar_one, ar_two⟩, hs, ⟨v_one, us0, rfl, r_one, v_two, rfl, r_two⟩, hm⟩ := h
    have hm : Post (m_compare ar_one ar_two) (PQ pI I0 C0 Q) (PX E K I0 C0) := hm
    replace r_one : Rp.r (pT (tc pI (t1 pI))) ar_one v_one I0 Z := Im.im r_one
    replace r_two : Rp.r (pT (tc pI (t1 pI))) ar_two v_two I0 Z := Im.im r_two
    unfold m_compare at hm
    refine ⟨_, (pss_cons (ps_set (i := 2) sc_compare.nd rfl (Or.inl rfl) (pe_op op_mul (pe_ix (r := rIxT K) ix_tup (pv 0) pe_int (fun _ _ => rfl)) (pe_ix (r := rIxT K) ix_tup (pv 1) pe_int (fun _ _ => rfl)))) (pss_cons (ps_set (i := 3) sc_compare.nd rfl (Or.inl rfl) (pe_op op_mul (pe_ix (r := rIxT K) ix_tup (pv 1) pe_int (fun _ _ => rfl)) (pe_ix (r := rIxT K) ix_tup (pv 0) pe_int (fun _ _ => rfl)))) (pss_cons (ps_if (pt_cmpR op_lt (pv 2) (pv 3) (nomark _)) (pss_cons (ps_ret (pe_un un_neg pe_int)) pss_nil) pss_nil) (pss_cons (ps_if (pt_cmpR op_gt (pv 2) (pv 3) (nomark _)) (pss_cons (ps_ret pe_int) pss_nil) pss_nil) (pss_cons (ps_ret pe_int) pss_nil))))), ?_⟩
    refine q_asg (E := E) (K := K) (σ := [some v_one, some v_two, none, none]) (i := 2) (x_op o_mul (x_k (k := ((0 : Nat) : Int)) (o_pj pj0) (x_var (i := 0) rfl (Rp.mono _ (Ex.refl _) exz r_one))) (x_k (k := ((1 : Nat) : Int)) (o_pj (pjs pj1)) (x_var (i := 1) rfl (Rp.mono _ (Ex.refl _) exz r_two)))) hs (fun _ _ h => PX.mono (Ex.refl _) (Ex.refl _) h) hm fun left_1 v_2 I_3 H_4 e_5 s_6 r_7 hm => ?_
    refine q_asg (E := E) (K := K) (σ := [some v_one, some v_two, some v_2, none]) (i := 3) (x_op o_mul (x_k (k := ((0 : Nat) : Int)) (o_pj pj0) (x_var (i := 1) rfl (Rp.mono _ e_5 exz r_two))) (x_k (k := ((1 : Nat) : Int)) (o_pj (pjs pj1)) (x_var (i := 0) rfl (Rp.mono _ e_5 exz r_one)))) s_6 (fun _ _ h => PX.mono e_5 (Ex.refl _) h) hm fun right_8 v_9 I_10 H_11 e_12 s_13 r_14 hm => ?_
    refine s_if (E := E) (K := K) (σ := [some v_one, some v_two, some v_2, some v_9]) (t_test (x_op o_lt (x_var (i := 2) rfl (Rp.mono _ e_12 exz r_7)) (x_var (i := 3) rfl (Rp.mono _ (Ex.refl _) exz r_14)))) s_13 (fun _ _ h => PX.mono (e_5.trans e_12) (Ex.refl _) h) hm (fun I_15 H_16 e_17 s_18 hm => ?_) (fun I_19 H_20 e_21 s_22 hm => ?_)
    · refine q_ret (tz := tNext) (E := E) (K := K) (σ := [some v_one, some v_two, some v_2, some v_9]) (x_un o_neg (x_int (i := 1))) s_18 (fun _ _ h => PX.mono (e_5.trans (e_12.trans e_17)) (Ex.refl _) h) hm fun a_23 v_24 I_25 H_26 e_27 s_28 r_29 hm => ?_
      exact hm v_24 I_25 H_26 (e_5.trans (e_12.trans (e_17.trans e_27))) (St.less s_28 (Ex.refl _)) (Im.im r_29)
    · refine s_if (E := E) (K := K) (σ := [some v_one, some v_two, some v_2, some v_9]) (t_test (x_op o_gt (x_var (i := 2) rfl (Rp.mono _ (e_12.trans e_21) exz r_7)) (x_var (i := 3) rfl (Rp.mono _ e_21 exz r_14)))) s_22 (fun _ _ h => PX.mono (e_5.trans (e_12.trans e_21)) (Ex.refl _) h) hm (fun I_30 H_31 e_32 s_33 hm => ?_) (fun I_34 H_35 e_36 s_37 hm => ?_)
      · refine q_ret (tz := tNext) (E := E) (K := K) (σ := [some v_one, some v_two, some v_2, some v_9]) (x_int (i := 1)) s_33 (fun _ _ h => PX.mono (e_5.trans (e_12.trans (e_21.trans e_32))) (Ex.refl _) h) hm fun a_38 v_39 I_40 H_41 e_42 s_43 r_44 hm => ?_
        exact hm v_39 I_40 H_41 (e_5.trans (e_12.trans (e_21.trans (e_32.trans e_42)))) (St.less s_43 (Ex.refl _)) (Im.im r_44)
      · refine q_ret (tz := tNext) (E := E) (K := K) (σ := [some v_one, some v_two, some v_2, some v_9]) (x_int (i := 0)) s_37 (fun _ _ h => PX.mono (e_5.trans (e_12.trans (e_21.trans e_36))) (Ex.refl _) h) hm fun a_45 v_46 I_47 H_48 e_49 s_50 r_51 hm => ?_
        exact hm v_46 I_47 H_48 (e_5.trans (e_12.trans (e_21.trans (e_36.trans e_49)))) (St.less s_50 (Ex.refl _)) (Im.im r_51)
def m_total (ar_ratios : (List (Int × Int))) : Res (Int × Int) :=
  ((Res.ok ((0 : Int), (1 : Int))).bind fun (result_1 : (Int × Int)) => (((Res.ok ar_ratios).bind fun xs => loopN (fun (x_16 : (Int × Int)) (z_8 : (Int × Int)) => ((un (fun (p : ((Int × Int) × (Int × Int))) => m_plus p.1 p.2) (pair (Res.ok z_8) (Res.ok x_16))).bind fun (result_28 : (Int × Int)) => (Res.ok result_28))) xs result_1).bind fun (z_40 : (Int × Int)) => ((Res.ok z_40).bind fun a_48 => Res.ok a_48)))
abbrev N_total : List Str := ["ratios", "result", "part"]
theorem sc_total : FnScope N_total ["ratios"] (defScope s_total) := ⟨rfl, rfl, rfl, by decide +kernel, rfl, by decide +kernel, by decide +kernel⟩
theorem bind_total {K : PySem.W.Frag} {mg : Str → Option Value} {T : Tx K mg} : Binds K T.d_total ["ratios"] [] := FunD.bindsN T.F_total fun _ _ _ _ _ _ us hl => match us, hl with | [_], _ => rfl
abbrev sp_total (K : PySem.W.Frag) : Sp := spP K (t1 (pL (pT (tc pI (t1 pI))))) m_total (pU K (tc pI (t1 pI)))
theorem ok_total (T : Tx K mg) : FnOk P w K mg base (L2.CX P w) 5 T.f_total T.d_total ["ratios"] (sp_total K) := by
  refine T.F_total.ok sc_total (fun vs H Q E h => ?_) (fun cdv A outer s H vs Q E hr h => ?_)
  · obtain ⟨I, C, a, _, hr, _⟩ := h
    exact Rt.len _ hr
  · obtain ⟨I0, C0, ar_ratios, hs, ⟨v_ratios, rfl, r_ratios⟩, hm⟩ := h
    have hm : Post (m_total ar_ratios) (PQ (pU K (tc pI (t1 pI))) I0 C0 Q) (PX E K I0 C0) := hm
    replace r_ratios : Rp.r (pL (pT (tc pI (t1 pI)))) ar_ratios v_ratios I0 Z := Im.im r_ratios
    unfold m_total at hm
    refine ⟨_, (pss_cons (ps_set (i := 1) sc_total.nd rfl (Or.inl rfl) (pe_glob (v := .ref (He.ga K "ZERO")) rfl T.gt_ZERO.1 rfl)) (pss_cons (ps_for (passes_of rfl) rfl (show PI _ _ _ (iList K _) from pi_list (pv 0)) (pg_name (i := 2) sc_total.nd rfl (Or.inl rfl)) (pss_cons (ps_set (i := 1) sc_total.nd rfl (Or.inl rfl) (pe_call (ok_plus T) (hr.mono (by decide)) rfl T.g_plus T.F_plus.kp bind_plus .nil passE (pa_cons (pv 1) (pa_cons (pv 2) pa_nil)))) pss_nil)) (pss_cons (ps_ret (pv 1)) pss_nil))), ?_⟩
    refine q_asg (E := E) (K := K) (σ := [some v_ratios, none, none]) (i := 1) (x_c (R := (pU K (tc pI (t1 pI)))) (a := ((0 : Int), (1 : Int))) fun _ _ => ⟨_, _, rfl, T.gt_ZERO.2 _, _, _, rfl, rfl, _, rfl, rfl⟩) hs (fun _ _ h => PX.mono (Ex.refl _) (Ex.refl _) h) hm fun result_1 v_2 I_3 H_4 e_5 s_6 r_7 hm => ?_
    refine s_forN (E := E) (K := K) (σ := [some v_ratios, some v_2, none]) (fun (z_8 : (Int × Int)) σ2 I_11 C_12 => ∃ w_10 : Option V, ∃ v_13 : V, σ2 = [some v_ratios, some v_13, w_10] ∧ Rp.r (pU K (tc pI (t1 pI))) z_8 v_13 I_11 Z ∧ Ex C0 C_12) (i_list (x_var (i := 0) rfl (Rp.mono _ e_5 exz r_ratios))) s_6 (fun _ _ h => PX.mono e_5 (Ex.refl _) h) hm (fun _ e_24 => ⟨none, v_2, rfl, Rp.mono _ (Ex.trans (Ex.refl _) e_24) exz r_7, (Ex.refl _)⟩) (fun _ _ _ _ _ => trivial) (fun _ _ _ _ _ e ⟨w_10, v_13, hs_9, r_14, fr_15⟩ => ⟨w_10, v_13, hs_9, Rp.mono _ e exz r_14, fr_15⟩) (fun N x_16 v_17 z_8 σ2 I_18 C_19 H_20 e_21 s_22 ⟨w_10, v_13, hs_9, r_14, fr_15⟩ r_23 hm => ?_) (fun z_40 σ2 I_35 C_36 H_37 e_38 s_39 ⟨w_42, v_45, hs_41, r_46, fr_47⟩ hm => ?_)
    · subst hs_9
      refine g1 (K := K) x_16 v_17 I_18 C_19 H_20 _ s_22 r_23 fun σ2 ⟨v_25, hs_27, r_26⟩ => ?_
      subst hs_27
      refine q_asg (E := E) (K := K) (σ := [some v_ratios, some v_13, some v_25]) (i := 1) (x_t2u (x_call (a_cons (x_var (i := 1) rfl (Rp.mono _ (Ex.refl _) exz r_14)) (a_one (x_t2u (x_var (i := 2) rfl (Rp.mono _ (Ex.refl _) exz r_26))))))) s_22 (fun _ _ h => PX.mono (e_5.trans e_21) fr_15 h) hm fun result_28 v_29 I_30 H_31 e_32 s_33 r_34 hm => ?_
      exact hm _ _ _ _ e_32 s_33 ⟨some v_25, v_29, rfl, Rp.mono _ (Ex.refl _) exz r_34, fr_15⟩
    subst hs_41
    refine q_ret (tz := tNext) (E := E) (K := K) (σ := [some v_ratios, some v_45, w_42]) (x_var (i := 1) rfl (Rp.mono _ (Ex.refl _) exz r_46)) s_39 (fun _ _ h => PX.mono (e_5.trans e_38) fr_47 h) hm fun a_48 v_49 I_50 H_51 e_52 s_53 r_54 hm => ?_
    exact hm v_49 I_50 H_51 (e_5.trans (e_38.trans e_52)) (St.less s_53 fr_47) (Im.im r_54)
def m_are_counts (ar_yes : Int) (ar_no : Int) : Res Bool :=
  (ifR (orR (bin rLt (Res.ok ar_yes) (Res.ok (0 : Int))) (orR (bin rGt (Res.ok ar_yes) (Res.ok (100000 : Int))) (orR (bin rLt (Res.ok ar_no) (Res.ok (0 : Int))) (bin rGt (Res.ok ar_no) (Res.ok (100000 : Int)))))) ((Res.ok false).bind fun a_9 => Res.ok a_9) ((bin rGt (bin rAdd (Res.ok ar_yes) (Res.ok ar_no)) (Res.ok (0 : Int))).bind fun a_16 => Res.ok a_16))
abbrev N_are_counts : List Str := ["yes", "no"]
theorem sc_are_counts : FnScope N_are_counts ["yes", "no"] (defScope s_are_counts) := ⟨rfl, rfl, rfl, by decide +kernel, rfl, by decide +kernel, by decide +kernel⟩
theorem bind_are_counts {K : PySem.W.Frag} {mg : Str → Option Value} {T : Tx K mg} : Binds K T.d_are_counts ["yes", "no"] [] := FunD.bindsN T.F_are_counts fun _ _ _ _ _ _ us hl => match us, hl with | [_, _], _ => rfl
abbrev sp_are_counts (K : PySem.W.Frag) : Sp := spP K (tc pI (t1 pI)) (fun (p : (Int × Int)) => m_are_counts p.1 p.2) pB
theorem ok_are_counts (T : Tx K mg) : FnOk P w K mg base (L2.CX P w) 1 T.f_are_counts T.d_are_counts ["yes", "no"] (sp_are_counts K) := by
  refine T.F_are_counts.ok sc_are_counts (fun vs H Q E h => ?_) (fun cdv A outer s H vs Q E hr h => ?_)
  · obtain ⟨I, C, a, _, hr, _⟩ := h
    exact Rt.len _ hr
  · obtain ⟨I0, C0, ⟨ar_yes, ar_no⟩, hs, ⟨v_yes, us0, rfl, r_yes, v_no, rfl, r_no⟩, hm⟩ := h
    have hm : Post (m_are_counts ar_yes ar_no) (PQ pB I0 C0 Q) (PX E K I0 C0) := hm
    replace r_yes : Rp.r pI ar_yes v_yes I0 Z := Im.im r_yes
    replace r_no : Rp.r pI ar_no v_no I0 Z := Im.im r_no
    unfold m_are_counts at hm
    refine ⟨_, (pss_cons (ps_if (PW.pt (pw_or (pt_cmpR op_lt (pv 0) pe_int (nomark _)) (pw_or (pt_cmpR op_gt (pv 0) (pe_glob (v := .int (100000)) rfl T.gi_MOST_CASES.choose_spec ⟨_, rfl⟩) (nomark _)) (pw_or (pt_cmpR op_lt (pv 1) pe_int (nomark _)) (pw_or1 (pt_cmpR op_gt (pv 1) (pe_glob (v := .int (100000)) rfl T.gi_MOST_CASES.choose_spec ⟨_, rfl⟩) (nomark _))))))) (pss_cons (ps_ret pe_bl) pss_nil) pss_nil) (pss_cons (ps_ret (pe_cmpR op_gt (pe_op op_add (pv 0) (pv 1)) pe_int (nomark _))) pss_nil)), ?_⟩
    refine s_if (E := E) (K := K) (σ := [some v_yes, some v_no]) (t_or (t_test (x_op o_lt (x_var (i := 0) rfl (Rp.mono _ (Ex.refl _) exz r_yes)) (x_int (i := 0)))) (t_or (t_test (x_op o_gt (x_var (i := 0) rfl (Rp.mono _ (Ex.refl _) exz r_yes)) (x_int (i := 100000)))) (t_or (t_test (x_op o_lt (x_var (i := 1) rfl (Rp.mono _ (Ex.refl _) exz r_no)) (x_int (i := 0)))) (t_test (x_op o_gt (x_var (i := 1) rfl (Rp.mono _ (Ex.refl _) exz r_no)) (x_int (i := 100000))))))) hs (fun _ _ h => PX.mono (Ex.refl _) (Ex.refl _) h) hm (fun I_1 H_2 e_3 s_4 hm => ?_) (fun I_5 H_6 e_7 s_8 hm => ?_)
    · refine q_ret (tz := tNext) (E := E) (K := K) (σ := [some v_yes, some v_no]) x_bl s_4 (fun _ _ h => PX.mono e_3 (Ex.refl _) h) hm fun a_9 v_10 I_11 H_12 e_13 s_14 r_15 hm => ?_
      exact hm v_10 I_11 H_12 (e_3.trans e_13) (St.less s_14 (Ex.refl _)) (Im.im r_15)
    · refine q_ret (tz := tNext) (E := E) (K := K) (σ := [some v_yes, some v_no]) (x_op o_gt (x_op o_add (x_var (i := 0) rfl (Rp.mono _ e_7 exz r_yes)) (x_var (i := 1) rfl (Rp.mono _ e_7 exz r_no))) (x_int (i := 0))) s_8 (fun _ _ h => PX.mono e_7 (Ex.refl _) h) hm fun a_16 v_17 I_18 H_19 e_20 s_21 r_22 hm => ?_
      exact hm v_17 I_18 H_19 (e_7.trans e_20) (St.less s_21 (Ex.refl _)) (Im.im r_22)
def m_check_groups (ar_rows : (List (Int × Int))) : Res Unit :=
  (ifR (bin rGt (un rLen (Res.ok ar_rows)) (Res.ok (24 : Int))) ((Res.ok (24 : Int)).bind fun i => Res.exc .TooMany i) (ifR (bin eqR (un rLen (Res.ok ar_rows)) (Res.ok (0 : Int))) ((Res.ok (0 : Int)).bind fun i => Res.exc .BadSignals i) (((un enumR (Res.ok ar_rows)).bind fun xs => loopN (fun (x_24 : (Int × (Int × Int))) (z_17 : Unit) => (ifR (un notR (un (fun (p : (Int × Int)) => m_are_counts p.1 p.2) (pair (un (fun p => Res.ok p.1) (Res.ok x_24.2)) (un (fun p => Res.ok p.2) (Res.ok x_24.2))))) ((Res.ok x_24.1).bind fun i => Res.exc .BadSignals i) (Res.ok ()))) xs ()).bind fun (z_51 : Unit) => (Res.ok ()))))
abbrev N_check_groups : List Str := ["rows", "k", "pair"]
theorem sc_check_groups : FnScope N_check_groups ["rows"] (defScope s_check_groups) := ⟨rfl, rfl, rfl, by decide +kernel, rfl, by decide +kernel, by decide +kernel⟩
theorem bind_check_groups {K : PySem.W.Frag} {mg : Str → Option Value} {T : Tx K mg} : Binds K T.d_check_groups ["rows"] [] := FunD.bindsN T.F_check_groups fun _ _ _ _ _ _ us hl => match us, hl with | [_], _ => rfl
abbrev sp_check_groups (K : PySem.W.Frag) : Sp := spP K (t1 (pL (pT (tc pI (t1 pI))))) m_check_groups pN
theorem ok_check_groups (T : Tx K mg) : FnOk P w K mg base (L2.CX P w) 3 T.f_check_groups T.d_check_groups ["rows"] (sp_check_groups K) := by
  refine T.F_check_groups.ok sc_check_groups (fun vs H Q E h => ?_) (fun cdv A outer s H vs Q E hr h => ?_)
  · obtain ⟨I, C, a, _, hr, _⟩ := h
    exact Rt.len _ hr
  · obtain ⟨I0, C0, ar_rows, hs, ⟨v_rows, rfl, r_rows⟩, hm⟩ := h
    have hm : Post (m_check_groups ar_rows) (PQ pN I0 C0 Q) (PX E K I0 C0) := hm
    replace r_rows : Rp.r (pL (pT (tc pI (t1 pI)))) ar_rows v_rows I0 Z := Im.im r_rows
    unfold m_check_groups at hm
    refine ⟨_, (pss_cons (ps_if (pt_cmpR op_gt (pe_callB (r := rLen1 K) call_len_seq (by rfl) T.gb_len bt_len (pa_cons (pv 0) pa_nil)) (pe_glob (v := .int (24)) rfl T.gi_MOST_GROUPS.choose_spec ⟨_, rfl⟩) (nomark _)) (pss_cons (ps_raise rfl (takes_of rfl rfl rfl rfl) (pmk_oex (T.xs .TooMany (by decide)).o (T.xs .TooMany (by decide)).ic (T.xs .TooMany (by decide)).ti (ok_err T) (hr.mono (by decide)) bind_err .nil passL rfl (T.xs .TooMany (by decide)).g (pa_cons (pe_glob (v := .int (24)) rfl T.gi_MOST_GROUPS.choose_spec ⟨_, rfl⟩) pa_nil))) pss_nil) pss_nil) (pss_cons (ps_if (pt_cmpR op_eq (pe_callB (r := rLen1 K) call_len_seq (by rfl) T.gb_len bt_len (pa_cons (pv 0) pa_nil)) pe_int (nomark _)) (pss_cons (ps_raise rfl (takes_of rfl rfl rfl rfl) (pmk_oex (T.xs .BadSignals (by decide)).o (T.xs .BadSignals (by decide)).ic (T.xs .BadSignals (by decide)).ti (ok_err T) (hr.mono (by decide)) bind_err .nil passL rfl (T.xs .BadSignals (by decide)).g (pa_cons pe_int pa_nil))) pss_nil) pss_nil) (pss_cons (ps_for (passes_of rfl) rfl (show PI _ _ _ (iEnum K _) from pi_enum (by rfl) T.gb_enumerate (pa_cons (pv 0) pa_nil)) (show PG _ _ (gTup K 2 _) from pg_tup rfl (pgs_cons (pg_name (i := 1) sc_check_groups.nd rfl (Or.inl rfl)) (pgs_cons (pg_name (i := 2) sc_check_groups.nd rfl (Or.inl rfl)) pgs_nil))) (pss_cons (ps_if (pt_not (pt_val (pe_call (ok_are_counts T) (hr.mono (by decide)) rfl T.g_are_counts T.F_are_counts.kp bind_are_counts .nil passE (pa_cons (pe_ix (r := rIxT K) ix_tup (pv 2) pe_int (fun _ _ => rfl)) (pa_cons (pe_ix (r := rIxT K) ix_tup (pv 2) pe_int (fun _ _ => rfl)) pa_nil))))) (pss_cons (ps_raise rfl (takes_of rfl rfl rfl rfl) (pmk_oex (T.xs .BadSignals (by decide)).o (T.xs .BadSignals (by decide)).ic (T.xs .BadSignals (by decide)).ti (ok_err T) (hr.mono (by decide)) bind_err .nil passL rfl (T.xs .BadSignals (by decide)).g (pa_cons (pv 1) pa_nil))) pss_nil) pss_nil) pss_nil)) pss_nil))), ?_⟩
    refine s_if (E := E) (K := K) (σ := [some v_rows, none, none]) (t_test (x_op o_gt (x_cb o_len (a_one (x_v (x_var (i := 0) rfl (Rp.mono _ (Ex.refl _) exz r_rows))))) (x_int (i := 24)))) hs (fun _ _ h => PX.mono (Ex.refl _) (Ex.refl _) h) hm (fun I_1 H_2 e_3 s_4 hm => ?_) (fun I_5 H_6 e_7 s_8 hm => ?_)
    · exact s_raise (E := E) (K := K) (σ := [some v_rows, none, none]) (T.xs .TooMany (by decide)) (a_one (x_int (i := 24))) s_4 (fun _ _ h => PX.mono e_3 (Ex.refl _) h) hm
    · refine s_if (E := E) (K := K) (σ := [some v_rows, none, none]) (t_test (x_op o_eqI (x_cb o_len (a_one (x_v (x_var (i := 0) rfl (Rp.mono _ e_7 exz r_rows))))) (x_int (i := 0)))) s_8 (fun _ _ h => PX.mono e_7 (Ex.refl _) h) hm (fun I_9 H_10 e_11 s_12 hm => ?_) (fun I_13 H_14 e_15 s_16 hm => ?_)
      · exact s_raise (E := E) (K := K) (σ := [some v_rows, none, none]) (T.xs .BadSignals (by decide)) (a_one (x_int (i := 0))) s_12 (fun _ _ h => PX.mono (e_7.trans e_11) (Ex.refl _) h) hm
      · refine s_forN (E := E) (K := K) (σ := [some v_rows, none, none]) (fun (z_17 : Unit) σ2 I_21 C_22 => ∃ w_19 : Option V, ∃ w_20 : Option V, σ2 = [some v_rows, w_19, w_20] ∧ Ex C0 C_22) (i_enum (a_one (x_var (i := 0) rfl (Rp.mono _ (e_7.trans e_15) exz r_rows)))) s_16 (fun _ _ h => PX.mono (e_7.trans e_15) (Ex.refl _) h) hm (fun _ e_32 => ⟨none, none, rfl, (Ex.refl _)⟩) (fun _ _ _ _ _ => trivial) (fun _ _ _ _ _ e ⟨w_19, w_20, hs_18, fr_23⟩ => ⟨w_19, w_20, hs_18, fr_23⟩) (fun N x_24 v_25 z_17 σ2 I_26 C_27 H_28 e_29 s_30 ⟨w_19, w_20, hs_18, fr_23⟩ r_31 hm => ?_) (fun z_51 σ2 I_46 C_47 H_48 e_49 s_50 ⟨w_53, w_54, hs_52, fr_57⟩ hm => ?_)
        · subst hs_18
          refine g2 (K := K) x_24 v_25 I_26 C_27 H_28 _ s_30 r_31 fun σ2 ⟨v_33, v_34, hs_37, r_35, r_36⟩ => ?_
          subst hs_37
          refine s_if (E := E) (K := K) (σ := [some v_rows, some v_33, some v_34]) (t_not (t_B (x_call (a_cons (x_k (k := ((0 : Nat) : Int)) (o_pj pj0) (x_var (i := 2) rfl (Rp.mono _ (Ex.refl _) exz r_36))) (a_one (x_k (k := ((1 : Nat) : Int)) (o_pj (pjs pj1)) (x_var (i := 2) rfl (Rp.mono _ (Ex.refl _) exz r_36)))))))) s_30 (fun _ _ h => PX.mono (e_7.trans (e_15.trans e_29)) fr_23 h) hm (fun I_38 H_39 e_40 s_41 hm => ?_) (fun I_42 H_43 e_44 s_45 hm => ?_)
          · exact s_raise (E := E) (K := K) (σ := [some v_rows, some v_33, some v_34]) (T.xs .BadSignals (by decide)) (a_one (x_var (i := 1) rfl (Rp.mono _ e_40 exz r_35))) s_41 (fun _ _ h => PX.mono (e_7.trans (e_15.trans (e_29.trans e_40))) fr_23 h) hm
          · exact hm _ _ _ _ e_44 s_45 ⟨some v_33, some v_34, rfl, fr_23⟩
        subst hs_52
        exact hm .non _ _ (e_7.trans (e_15.trans e_49)) (St.less s_50 fr_57) rfl
def m_stretch_share (ar_rows : (List (Int × Int))) (ar_start : Int) (ar_end : Int) : Res (Int × Int) :=
  ((un sumR ((slR (Res.ok ar_rows) (someR (Res.ok ar_start)) (someR (Res.ok ar_end))).bind (mapR (fun (x_1 : (Int × Int)) => (un (fun p => Res.ok p.1) (Res.ok x_1)))))).bind fun (yes_8 : Int) => ((un (fun (p : (Int × Int)) => m_ratio p.1 p.2) (pair (Res.ok yes_8) (bin rAdd (Res.ok yes_8) (un sumR ((slR (Res.ok ar_rows) (someR (Res.ok ar_start)) (someR (Res.ok ar_end))).bind (mapR (fun (x_15 : (Int × Int)) => (un (fun p => Res.ok p.2) (Res.ok x_15))))))))).bind fun a_22 => Res.ok a_22))
abbrev N_stretch_share : List Str := ["rows", "start", "end", "yes", "pair"]
theorem sc_stretch_share : FnScope N_stretch_share ["rows", "start", "end"] (defScope s_stretch_share) := ⟨rfl, rfl, rfl, by decide +kernel, rfl, by decide +kernel, by decide +kernel⟩
theorem bind_stretch_share {K : PySem.W.Frag} {mg : Str → Option Value} {T : Tx K mg} : Binds K T.d_stretch_share ["rows", "start", "end"] [] := FunD.bindsN T.F_stretch_share fun _ _ _ _ _ _ us hl => match us, hl with | [_, _, _], _ => rfl
abbrev sp_stretch_share (K : PySem.W.Frag) : Sp := spP K (tc (pL (pT (tc pI (t1 pI)))) (tc pI (t1 pI))) (fun (p : ((List (Int × Int)) × Int × Int)) => m_stretch_share p.1 p.2.1 p.2.2) (pT (tc pI (t1 pI)))
theorem ok_stretch_share (T : Tx K mg) : FnOk P w K mg base (L2.CX P w) 4 T.f_stretch_share T.d_stretch_share ["rows", "start", "end"] (sp_stretch_share K) := by
  refine T.F_stretch_share.ok sc_stretch_share (fun vs H Q E h => ?_) (fun cdv A outer s H vs Q E hr h => ?_)
  · obtain ⟨I, C, a, _, hr, _⟩ := h
    exact Rt.len _ hr
  · obtain ⟨I0, C0, ⟨ar_rows, ar_start, ar_end⟩, hs, ⟨v_rows, us0, rfl, r_rows, v_start, us1, rfl, r_start, v_end, rfl, r_end⟩, hm⟩ := h
    have hm : Post (m_stretch_share ar_rows ar_start ar_end) (PQ (pT (tc pI (t1 pI))) I0 C0 Q) (PX E K I0 C0) := hm
    replace r_rows : Rp.r (pL (pT (tc pI (t1 pI)))) ar_rows v_rows I0 Z := Im.im r_rows
    replace r_start : Rp.r pI ar_start v_start I0 Z := Im.im r_start
    replace r_end : Rp.r pI ar_end v_end I0 Z := Im.im r_end
    unfold m_stretch_share at hm
    refine ⟨_, (pss_cons (ps_set (i := 3) sc_stretch_share.nd rfl (Or.inl rfl) (pe_callB (r := rSum K) (cr_sum rfl) (by rfl) T.gb_sum bt_sum (pa_cons (pe_lc (own := [("pair", 4)]) rfl sc_stretch_share.nd (show PI _ _ _ (iList K _) from pi_list (pe_slice (r := rSlL K) sl_list (pv 0) (po_some (pv 1)) (po_some (pv 2)))) (blkOk_by (own := [("pair", 4)]) (N := N_stretch_share) (sc := defScope s_stretch_share) (by decide +kernel)) (fun _ _ _ _ _ => (pg_name (i := 4) sc_stretch_share.nd rfl (Or.inl rfl))) (fun _ _ _ _ _ => pts_nil) (fun _ _ _ _ _ => (pe_ix (r := rIxT K) ix_tup (pv 4) pe_int (fun _ _ => rfl)))) pa_nil))) (pss_cons (ps_ret (pe_call (ok_ratio T) (hr.mono (by decide)) rfl T.g_ratio T.F_ratio.kp bind_ratio .nil passE (pa_cons (pv 3) (pa_cons (pe_op op_add (pv 3) (pe_callB (r := rSum K) (cr_sum rfl) (by rfl) T.gb_sum bt_sum (pa_cons (pe_lc (own := [("pair", 4)]) rfl sc_stretch_share.nd (show PI _ _ _ (iList K _) from pi_list (pe_slice (r := rSlL K) sl_list (pv 0) (po_some (pv 1)) (po_some (pv 2)))) (blkOk_by (own := [("pair", 4)]) (N := N_stretch_share) (sc := defScope s_stretch_share) (by decide +kernel)) (fun _ _ _ _ _ => (pg_name (i := 4) sc_stretch_share.nd rfl (Or.inl rfl))) (fun _ _ _ _ _ => pts_nil) (fun _ _ _ _ _ => (pe_ix (r := rIxT K) ix_tup (pv 4) pe_int (fun _ _ => rfl)))) pa_nil))) pa_nil)))) pss_nil)), ?_⟩
    refine q_asg (E := E) (K := K) (σ := [some v_rows, some v_start, some v_end, none, none]) (i := 3) (x_cb o_sum (a_one (x_v (x_lc (i_list (x_sl (x_v (x_var (i := 0) rfl (Rp.mono _ (Ex.refl _) exz r_rows))) (p_some (x_var (i := 1) rfl (Rp.mono _ (Ex.refl _) exz r_start))) (p_some (x_var (i := 2) rfl (Rp.mono _ (Ex.refl _) exz r_end))))) g1 (fun _ _ _ _ ⟨_, h, _⟩ => by rw [h]; rfl) (fun x_1 σ2 I_2 C_3 e_4 c_5 ⟨v_6, h, r_7⟩ => by subst h; exact (x_k (k := ((0 : Nat) : Int)) (o_pj pj0) (x_var (i := 4) rfl (Rp.mono _ (Ex.refl _) exz r_7)))) (fun _ _ _ _ _ e ⟨v_6, h, r_7⟩ => ⟨v_6, h, Rp.mono _ e exz r_7⟩))))) hs (fun _ _ h => PX.mono (Ex.refl _) (Ex.refl _) h) hm fun yes_8 v_9 I_10 H_11 e_12 s_13 r_14 hm => ?_
    refine q_ret (tz := tNext) (E := E) (K := K) (σ := [some v_rows, some v_start, some v_end, some v_9, none]) (x_call (a_cons (x_var (i := 3) rfl (Rp.mono _ (Ex.refl _) exz r_14)) (a_one (x_op o_add (x_var (i := 3) rfl (Rp.mono _ (Ex.refl _) exz r_14)) (x_cb o_sum (a_one (x_v (x_lc (i_list (x_sl (x_v (x_var (i := 0) rfl (Rp.mono _ e_12 exz r_rows))) (p_some (x_var (i := 1) rfl (Rp.mono _ e_12 exz r_start))) (p_some (x_var (i := 2) rfl (Rp.mono _ e_12 exz r_end))))) g1 (fun _ _ _ _ ⟨_, h, _⟩ => by rw [h]; rfl) (fun x_15 σ2 I_16 C_17 e_18 c_19 ⟨v_20, h, r_21⟩ => by subst h; exact (x_k (k := ((1 : Nat) : Int)) (o_pj (pjs pj1)) (x_var (i := 4) rfl (Rp.mono _ (Ex.refl _) exz r_21)))) (fun _ _ _ _ _ e ⟨v_20, h, r_21⟩ => ⟨v_20, h, Rp.mono _ e exz r_21⟩))))))))) s_13 (fun _ _ h => PX.mono e_12 (Ex.refl _) h) hm fun a_22 v_23 I_24 H_25 e_26 s_27 r_28 hm => ?_
    exact hm v_23 I_24 H_25 (e_12.trans e_26) (St.less s_27 (Ex.refl _)) (Im.im r_28)
def m_blocks_of (ar_rows : (List (Int × Int))) : Res (List (Int × Int)) :=
  ((Res.ok ([] : List (Int × Int))).bind fun (result_1 : (List (Int × Int))) => (((un rng1 (un rLen (Res.ok ar_rows))).bind fun xs => loopN (fun (x_27 : Int) (z_16 : (List (Int × Int))) => ((Res.ok x_27).bind fun (start_39 : Int) => ((whileF (fun (z_46 : ((List (Int × Int)) × Int)) => (andR (un neR' (Res.ok z_46.1)) (bin rGe (un (fun (p : ((Int × Int) × (Int × Int))) => m_compare p.1 p.2) (pair (un (fun (p : ((List (Int × Int)) × Int × Int)) => m_stretch_share p.1 p.2.1 p.2.2) (pair (Res.ok ar_rows) (pair (un (fun p => Res.ok p.1) (bin ix (Res.ok z_46.1) (un rNeg (Res.ok (1 : Int))))) (Res.ok z_46.2)))) (un (fun (p : ((List (Int × Int)) × Int × Int)) => m_stretch_share p.1 p.2.1 p.2.2) (pair (Res.ok ar_rows) (pair (Res.ok z_46.2) (bin rAdd (Res.ok x_27) (Res.ok (1 : Int)))))))) (Res.ok (0 : Int))))) (fun (z_46 : ((List (Int × Int)) × Int)) => ((popR z_46.1).bind fun (a_62 : (Int × Int) × (List (Int × Int))) => (Res.ok (Out.nx (a_62.2, a_62.1.1))))) fuel (z_16, start_39)).bind fun (o : Out ((List (Int × Int)) × Int) (List (Int × Int))) => match o with | .nx z_81 => (((pair (Res.ok z_81.2) (bin rAdd (Res.ok x_27) (Res.ok (1 : Int)))).bind fun x => push z_81.1 x).bind fun (result_92 : (List (Int × Int))) => (Res.ok result_92)) | .br _ => Res.bad | .rt r => Res.ok r))) xs result_1).bind fun (z_109 : (List (Int × Int))) => (Res.ok z_109)))
abbrev N_blocks_of : List Str := ["rows", "result", "k", "start"]
theorem sc_blocks_of : FnScope N_blocks_of ["rows"] (defScope s_blocks_of) := ⟨rfl, rfl, rfl, by decide +kernel, rfl, by decide +kernel, by decide +kernel⟩
theorem bind_blocks_of {K : PySem.W.Frag} {mg : Str → Option Value} {T : Tx K mg} : Binds K T.d_blocks_of ["rows"] [] := FunD.bindsN T.F_blocks_of fun _ _ _ _ _ _ us hl => match us, hl with | [_], _ => rfl
abbrev sp_blocks_of (K : PySem.W.Frag) : Sp := spO K (t1 (pL (pT (tc pI (t1 pI))))) m_blocks_of (pT (tc pI (t1 pI)))
theorem ok_blocks_of (T : Tx K mg) : FnOk P w K mg base (L2.CX P w) 5 T.f_blocks_of T.d_blocks_of ["rows"] (sp_blocks_of K) := by
  refine T.F_blocks_of.ok sc_blocks_of (fun vs H Q E h => ?_) (fun cdv A outer s H vs Q E hr h => ?_)
  · obtain ⟨I, C, a, _, hr, _⟩ := h
    exact Rt.len _ hr
  · obtain ⟨I0, C0, ar_rows, hs, ⟨v_rows, rfl, r_rows⟩, hm⟩ := h
    have hm : Post (m_blocks_of ar_rows) (PN (pT (tc pI (t1 pI))) I0 C0 Q) (PX E K I0 C0) := hm
    replace r_rows : Rp.r (pL (pT (tc pI (t1 pI)))) ar_rows v_rows I0 Z := Im.im r_rows
    unfold m_blocks_of at hm
    refine ⟨_, (pss_cons (ps_set (i := 1) sc_blocks_of.nd rfl (Or.inl rfl) (pe_lst pa_nil)) (pss_cons (ps_for (passes_of rfl) rfl (pi_range1 (by rfl) T.gb_range (pa_cons (pe_callB (r := rLen1 K) call_len_seq (by rfl) T.gb_len bt_len (pa_cons (pv 0) pa_nil)) pa_nil)) (pg_name (i := 2) sc_blocks_of.nd rfl (Or.inl rfl)) (pss_cons (ps_set (i := 3) sc_blocks_of.nd rfl (Or.inl rfl) (pv 2)) (pss_cons (ps_while (passes_of rfl) (PW.pt (pw_and (pt_truth (pv 1) (fun _ => rfl)) (pw_and1 (pt_cmpR op_ge (pe_call (ok_compare T) (hr.mono (by decide)) rfl T.g_compare T.F_compare.kp bind_compare .nil passE (pa_cons (pe_call (ok_stretch_share T) (hr.mono (by decide)) rfl T.g_stretch_share T.F_stretch_share.kp bind_stretch_share .nil passE (pa_cons (pv 0) (pa_cons (pe_ix (r := rIxT K) ix_tup (pe_ix (r := rIxL K) ix_list (pv 1) (pe_un un_neg pe_int) (fun _ _ => rfl)) pe_int (fun _ _ => rfl)) (pa_cons (pv 3) pa_nil)))) (pa_cons (pe_call (ok_stretch_share T) (hr.mono (by decide)) rfl T.g_stretch_share T.F_stretch_share.kp bind_stretch_share .nil passE (pa_cons (pv 0) (pa_cons (pv 3) (pa_cons (pe_op op_add (pv 2) pe_int) pa_nil)))) pa_nil))) pe_int (nomark _))))) (pss_cons (ps_set (i := 3) sc_blocks_of.nd rfl (Or.inl rfl) (pe_ix (r := rIxT K) ix_tup (show PE _ _ (tBM0 K "list" rPop _) from pe_bm0 PySem.F.plainAttrs_list PySem.F.slot_list_pop PySem.F.type_list_pop mt_pop (pv 1)) pe_int (fun _ _ => rfl))) pss_nil)) (pss_cons (ps_expr (show PE _ _ (tBM K "list" rAppend _ _) from pe_bm PySem.F.plainAttrs_list PySem.F.slot_list_append PySem.F.type_list_append mt_append (pv 1) (pa_cons (pe_tup (pa_cons (pv 3) (pa_cons (pe_op op_add (pv 2) pe_int) pa_nil))) pa_nil))) pss_nil)))) (pss_cons (ps_ret (pv 1)) pss_nil))), ?_⟩
    refine q_asgN (E := E) (K := K) (σ := [some v_rows, none, none, none]) (i := 1) (n_lst (R := (pT (tc pI (t1 pI)))) al_nil (by decide)) hs (fun _ _ h => PX.mono (Ex.refl _) (Ex.refl _) h) hm fun result_1 p_2 vs_3 I_4 C_5 H_6 e_7 hp_8 s_9 hc_10 k_11 hl_12 hr_13 hm => ?_
    have hB_14 := Ex.free (Ex.refl _) hp_8
    have fr_15 := fr_keep (Ex.refl _) hB_14 k_11
    refine s_forN (E := E) (K := K) (σ := [some v_rows, some (.ref p_2), none, none]) (fun (z_16 : (List (Int × Int))) σ2 I_20 C_21 => ∃ w_18 : Option V, ∃ w_19 : Option V, σ2 = [some v_rows, some (.ref p_2), w_18, w_19] ∧ (∃ vs_22 : List V, C_21 p_2 = some (.lst vs_22) ∧ vs_22.length ≤ sizeLine ∧ A2 (fun x u => Rp.r (pT (tc pI (t1 pI))) x u I_20 Z) z_16 vs_22) ∧ Ex C0 C_21) (i_rng1 (a_one (x_cb o_len (a_one (x_v (x_var (i := 0) rfl (Rp.mono _ e_7 exz r_rows))))))) s_9 (fun _ _ h => PX.mono e_7 fr_15 h) hm (fun _ e_35 => ⟨none, none, rfl, ⟨_, hc_10, hl_12, a2up (Ex.trans (Ex.refl _) e_35) hr_13⟩, fr_15⟩) (fun _ _ _ _ _ => trivial) (fun _ _ _ _ _ e ⟨w_18, w_19, hs_17, ⟨vs_22, hc_23, hl_24, hr_25⟩, fr_26⟩ => ⟨w_18, w_19, hs_17, ⟨vs_22, hc_23, hl_24, a2up e hr_25⟩, fr_26⟩) (fun N x_27 v_28 z_16 σ2 I_29 C_30 H_31 e_32 s_33 ⟨w_18, w_19, hs_17, ⟨vs_22, hc_23, hl_24, hr_25⟩, fr_26⟩ r_34 hm => ?_) (fun z_109 σ2 I_104 C_105 H_106 e_107 s_108 ⟨w_111, w_112, hs_110, ⟨vs_115, hc_116, hl_117, hr_118⟩, fr_119⟩ hm => ?_)
    · subst hs_17
      refine g1 (K := K) x_27 v_28 I_29 C_30 H_31 _ s_33 r_34 fun σ2 ⟨v_36, hs_38, r_37⟩ => ?_
      subst hs_38
      refine q_asg (E := E) (K := K) (σ := [some v_rows, some (.ref p_2), some v_36, w_19]) (i := 3) (x_var (i := 2) rfl (Rp.mono _ (Ex.refl _) exz r_37)) s_33 (fun _ _ h => PX.mono (e_7.trans e_32) fr_26 h) hm fun start_39 v_40 I_41 H_42 e_43 s_44 r_45 hm => ?_
      refine s_while (E := E) (K := K) (σ := [some v_rows, some (.ref p_2), some v_36, some v_40]) (fun (z_46 : ((List (Int × Int)) × Int)) σ2 I_48 C_49 => ∃ v_54 : V, σ2 = [some v_rows, some (.ref p_2), some v_36, some v_54] ∧ (∃ vs_50 : List V, C_49 p_2 = some (.lst vs_50) ∧ vs_50.length ≤ sizeLine ∧ A2 (fun x u => Rp.r (pT (tc pI (t1 pI))) x u I_48 Z) z_46.1 vs_50) ∧ Rp.r pI z_46.2 v_54 I_48 Z ∧ Ex C0 C_49) s_44 hm ⟨v_40, rfl, ⟨_, hc_23, hl_24, a2up e_43 hr_25⟩, Rp.mono _ (Ex.refl _) exz r_45, fr_26⟩ (fun z_46 σ2 I_57 C_58 e_60 ⟨v_54, hs_47, ⟨vs_50, hc_51, hl_52, hr_53⟩, r_55, fr_56⟩ => by subst hs_47; exact ⟨(t_and (t_lst (x_cell (i := 1) rfl hc_51 hl_52 (a2up (Ex.refl _) hr_53))) (t_test (x_op o_ge (x_call (a_cons (x_call (a_cons (x_var (i := 0) rfl (Rp.mono _ (e_7.trans (e_32.trans (e_43.trans e_60))) exz r_rows)) (a_cons (x_k (k := ((0 : Nat) : Int)) (o_pj pj0) (x_op o_ix (x_cell (i := 1) rfl hc_51 hl_52 (a2up (Ex.refl _) hr_53)) (x_un o_neg (x_int (i := 1))))) (a_one (x_var (i := 3) rfl (Rp.mono _ (Ex.refl _) exz r_55)))))) (a_one (x_call (a_cons (x_var (i := 0) rfl (Rp.mono _ (e_7.trans (e_32.trans (e_43.trans e_60))) exz r_rows)) (a_cons (x_var (i := 3) rfl (Rp.mono _ (Ex.refl _) exz r_55)) (a_one (x_op o_add (x_var (i := 2) rfl (Rp.mono _ (e_43.trans e_60) exz r_37)) (x_int (i := 1)))))))))) (x_int (i := 0))))), (fun _ _ h => PX.mono (e_7.trans (e_32.trans (e_43.trans e_60))) fr_56 h)⟩) (fun _ _ _ _ _ e ⟨v_54, hs_47, ⟨vs_50, hc_51, hl_52, hr_53⟩, r_55, fr_56⟩ => ⟨v_54, hs_47, ⟨vs_50, hc_51, hl_52, a2up e hr_53⟩, Rp.mono _ e exz r_55, fr_56⟩) (fun N z_46 σ2 I_57 C_58 H_59 e_60 s_61 ⟨v_54, hs_47, ⟨vs_50, hc_51, hl_52, hr_53⟩, r_55, fr_56⟩ hm => ?_) (fun z_81 σ2 I_76 C_77 H_78 e_79 s_80 ⟨v_89, hs_82, ⟨vs_85, hc_86, hl_87, hr_88⟩, r_90, fr_91⟩ hm => ?_)
      · subst hs_47
        refine q_popk (K := K) (σ := [some v_rows, some (.ref p_2), some v_36, some v_54]) (i := 1) (j := 3) (l := 0) pj0 rfl hc_51 hl_52 (a2up (Ex.refl _) hr_53) s_61 hm fun a_62 v_63 vs_64 I_65 C_66 H_67 e_68 s_69 hc_70 k_71 hl_72 hr_73 r_74 hm => ?_
        have fr_75 := fr_keep fr_56 hB_14 k_71
        exact hm _ _ _ _ e_68 s_69 ⟨v_63, rfl, ⟨_, hc_70, hl_72, a2up (Ex.refl _) hr_73⟩, Rp.mono _ (Ex.refl _) exz r_74, fr_75⟩
      subst hs_82
      refine q_app (E := E) (K := K) (σ := [some v_rows, some (.ref p_2), some v_36, some v_89]) (i := 1) rfl hc_86 (a2up (Ex.refl _) hr_88) (x_tup (a_cons (x_var (i := 3) rfl (Rp.mono _ (Ex.refl _) exz r_90)) (a_one (x_op o_add (x_var (i := 2) rfl (Rp.mono _ (e_43.trans e_79) exz r_37)) (x_int (i := 1))))) (Nat.le_of_ble_eq_true rfl)) s_80 (fun _ _ h => PX.mono (e_7.trans (e_32.trans (e_43.trans e_79))) fr_91 h) hm fun result_92 vs_93 I_94 C_95 H_96 e_97 s_98 hc_99 k_100 hl_101 hr_102 hm => ?_
      have fr_103 := fr_keep fr_91 hB_14 k_100
      exact hm _ _ _ _ (e_43.trans (e_79.trans e_97)) s_98 ⟨some v_36, some v_89, rfl, ⟨_, hc_99, hl_101, a2up (Ex.refl _) hr_102⟩, fr_103⟩
    subst hs_110
    refine q_retO (i := 1) rfl s_108 fr_119 hB_14 hc_116 hl_117 (a2up (Ex.refl _) hr_118) fun s hr => ?_
    exact hm _ _ _ _ (e_7.trans e_107) hB_14 s hl_117 hr
def m_rising_chances (ar_rows : (List (Int × Int))) : Res (List (Int × Int)) :=
  ((un m_check_groups (Res.ok ar_rows)).bind fun (b_1 : Unit) => ((Res.ok ([] : List (Int × Int))).bind fun (chances_6 : (List (Int × Int))) => (((un m_blocks_of (Res.ok ar_rows)).bind fun xs => loopN (fun (x_33 : (Int × Int)) (z_21 : (List (Int × Int))) => ((un (fun (p : ((List (Int × Int)) × Int × Int)) => m_stretch_share p.1 p.2.1 p.2.2) (pair (Res.ok ar_rows) (pair (Res.ok x_33.1) (Res.ok x_33.2)))).bind fun (share_47 : (Int × Int)) => ((((un rng2 (pair (Res.ok x_33.1) (Res.ok x_33.2))).bind (mapR (fun (x_54 : Int) => (Res.ok share_47)))).bind fun x => rCatR z_21 x).bind fun (chances_61 : (List (Int × Int))) => (Res.ok chances_61)))) xs chances_6).bind fun (z_78 : (List (Int × Int))) => (Res.ok z_78))))
abbrev N_rising_chances : List Str := ["rows", "chances", "start", "end", "share", "_"]
theorem sc_rising_chances : FnScope N_rising_chances ["rows"] (defScope s_rising_chances) := ⟨rfl, rfl, rfl, by decide +kernel, rfl, by decide +kernel, by decide +kernel⟩
theorem bind_rising_chances {K : PySem.W.Frag} {mg : Str → Option Value} {T : Tx K mg} : Binds K T.d_rising_chances ["rows"] [] := FunD.bindsN T.F_rising_chances fun _ _ _ _ _ _ us hl => match us, hl with | [_], _ => rfl
abbrev sp_rising_chances (K : PySem.W.Frag) : Sp := spO K (t1 (pL (pT (tc pI (t1 pI))))) m_rising_chances (pT (tc pI (t1 pI)))
theorem ok_rising_chances (T : Tx K mg) : FnOk P w K mg base (L2.CX P w) 6 T.f_rising_chances T.d_rising_chances ["rows"] (sp_rising_chances K) := by
  refine T.F_rising_chances.ok sc_rising_chances (fun vs H Q E h => ?_) (fun cdv A outer s H vs Q E hr h => ?_)
  · obtain ⟨I, C, a, _, hr, _⟩ := h
    exact Rt.len _ hr
  · obtain ⟨I0, C0, ar_rows, hs, ⟨v_rows, rfl, r_rows⟩, hm⟩ := h
    have hm : Post (m_rising_chances ar_rows) (PN (pT (tc pI (t1 pI))) I0 C0 Q) (PX E K I0 C0) := hm
    replace r_rows : Rp.r (pL (pT (tc pI (t1 pI)))) ar_rows v_rows I0 Z := Im.im r_rows
    unfold m_rising_chances at hm
    refine ⟨_, (pss_cons (ps_expr (pe_call (ok_check_groups T) (hr.mono (by decide)) rfl T.g_check_groups T.F_check_groups.kp bind_check_groups .nil passE (pa_cons (pv 0) pa_nil))) (pss_cons (ps_set (i := 1) sc_rising_chances.nd rfl (Or.inl rfl) (pe_lst pa_nil)) (pss_cons (ps_for (passes_of rfl) rfl (show PI _ _ _ (iList K _) from pi_list (pe_call (ok_blocks_of T) (hr.mono (by decide)) rfl T.g_blocks_of T.F_blocks_of.kp bind_blocks_of .nil passE (pa_cons (pv 0) pa_nil))) (show PG _ _ (gTup K 2 _) from pg_tup rfl (pgs_cons (pg_name (i := 2) sc_rising_chances.nd rfl (Or.inl rfl)) (pgs_cons (pg_name (i := 3) sc_rising_chances.nd rfl (Or.inl rfl)) pgs_nil))) (pss_cons (ps_set (i := 4) sc_rising_chances.nd rfl (Or.inr rfl) (pe_call (ok_stretch_share T) (hr.mono (by decide)) rfl T.g_stretch_share T.F_stretch_share.kp bind_stretch_share .nil passE (pa_cons (pv 0) (pa_cons (pv 2) (pa_cons (pv 3) pa_nil))))) (pss_cons (ps_expr (show PE _ _ (tBM K "list" rExtend _ _) from pe_bm PySem.F.plainAttrs_list PySem.F.slot_list_extend PySem.F.type_list_extend mt_extend (pv 1) (pa_cons (pe_lc (own := [("_", 5)]) rfl sc_rising_chances.nd (pi_range2 (by rfl) T.gb_range (pa_cons (pv 2) (pa_cons (pv 3) pa_nil))) (blkOk_by (own := [("_", 5)]) (N := N_rising_chances) (sc := defScope s_rising_chances) (by decide +kernel)) (fun _ _ _ _ _ => (pg_name (i := 5) sc_rising_chances.nd rfl (Or.inl rfl))) (fun _ _ _ _ _ => pts_nil) (fun _ _ _ _ _ => (pv 4))) pa_nil))) pss_nil))) (pss_cons (ps_ret (pv 1)) pss_nil)))), ?_⟩
    refine s_expr (E := E) (K := K) (σ := [some v_rows, none, none, none, none, none]) (x_call (a_one (x_var (i := 0) rfl (Rp.mono _ (Ex.refl _) exz r_rows)))) hs (fun _ _ h => PX.mono (Ex.refl _) (Ex.refl _) h) hm fun b_1 I_2 H_3 e_4 s_5 hm => ?_
    refine q_asgN (E := E) (K := K) (σ := [some v_rows, none, none, none, none, none]) (i := 1) (n_lst (R := (pT (tc pI (t1 pI)))) al_nil (by decide)) s_5 (fun _ _ h => PX.mono e_4 (Ex.refl _) h) hm fun chances_6 p_7 vs_8 I_9 C_10 H_11 e_12 hp_13 s_14 hc_15 k_16 hl_17 hr_18 hm => ?_
    have hB_19 := Ex.free (Ex.refl _) hp_13
    have fr_20 := fr_keep (Ex.refl _) hB_19 k_16
    refine s_forN (E := E) (K := K) (σ := [some v_rows, some (.ref p_7), none, none, none, none]) (fun (z_21 : (List (Int × Int))) σ2 I_26 C_27 => ∃ w_23 : Option V, ∃ w_24 : Option V, ∃ w_25 : Option V, σ2 = [some v_rows, some (.ref p_7), w_23, w_24, w_25, none] ∧ (∃ vs_28 : List V, C_27 p_7 = some (.lst vs_28) ∧ vs_28.length ≤ sizeLine ∧ A2 (fun x u => Rp.r (pT (tc pI (t1 pI))) x u I_26 Z) z_21 vs_28) ∧ Ex C0 C_27) (i_list (x_own (n_call (a_one (x_var (i := 0) rfl (Rp.mono _ (e_4.trans e_12) exz r_rows)))))) s_14 (fun _ _ h => PX.mono (e_4.trans e_12) fr_20 h) hm (fun _ e_41 => ⟨none, none, none, rfl, ⟨_, hc_15, hl_17, a2up (Ex.trans (Ex.refl _) e_41) hr_18⟩, fr_20⟩) (fun _ _ _ _ _ => trivial) (fun _ _ _ _ _ e ⟨w_23, w_24, w_25, hs_22, ⟨vs_28, hc_29, hl_30, hr_31⟩, fr_32⟩ => ⟨w_23, w_24, w_25, hs_22, ⟨vs_28, hc_29, hl_30, a2up e hr_31⟩, fr_32⟩) (fun N x_33 v_34 z_21 σ2 I_35 C_36 H_37 e_38 s_39 ⟨w_23, w_24, w_25, hs_22, ⟨vs_28, hc_29, hl_30, hr_31⟩, fr_32⟩ r_40 hm => ?_) (fun z_78 σ2 I_73 C_74 H_75 e_76 s_77 ⟨w_80, w_81, w_82, hs_79, ⟨vs_85, hc_86, hl_87, hr_88⟩, fr_89⟩ hm => ?_)
    · subst hs_22
      refine g2 (K := K) x_33 v_34 I_35 C_36 H_37 _ s_39 r_40 fun σ2 ⟨v_42, v_43, hs_46, r_44, r_45⟩ => ?_
      subst hs_46
      refine q_asg (E := E) (K := K) (σ := [some v_rows, some (.ref p_7), some v_42, some v_43, w_25, none]) (i := 4) (x_call (a_cons (x_var (i := 0) rfl (Rp.mono _ (e_4.trans (e_12.trans e_38)) exz r_rows)) (a_cons (x_var (i := 2) rfl (Rp.mono _ (Ex.refl _) exz r_44)) (a_one (x_var (i := 3) rfl (Rp.mono _ (Ex.refl _) exz r_45)))))) s_39 (fun _ _ h => PX.mono (e_4.trans (e_12.trans e_38)) fr_32 h) hm fun share_47 v_48 I_49 H_50 e_51 s_52 r_53 hm => ?_
      refine q_ext (E := E) (K := K) (σ := [some v_rows, some (.ref p_7), some v_42, some v_43, some v_48, none]) (i := 1) rfl hc_29 (a2up e_51 hr_31) (x_lc (i_rng2 (a_cons (x_var (i := 2) rfl (Rp.mono _ e_51 exz r_44)) (a_one (x_var (i := 3) rfl (Rp.mono _ e_51 exz r_45))))) g1 (fun _ _ _ _ ⟨_, h, _⟩ => by rw [h]; rfl) (fun x_54 σ2 I_55 C_56 e_57 c_58 ⟨v_59, h, r_60⟩ => by subst h; exact (x_var (i := 4) rfl (Rp.mono _ e_57 exz r_53))) (fun _ _ _ _ _ e ⟨v_59, h, r_60⟩ => ⟨v_59, h, Rp.mono _ e exz r_60⟩)) s_52 (fun _ _ h => PX.mono (e_4.trans (e_12.trans (e_38.trans e_51))) fr_32 h) hm fun chances_61 vs_62 I_63 C_64 H_65 e_66 s_67 hc_68 k_69 hl_70 hr_71 hm => ?_
      have fr_72 := fr_keep fr_32 hB_19 k_69
      exact hm _ _ _ _ (e_51.trans e_66) s_67 ⟨some v_42, some v_43, some v_48, rfl, ⟨_, hc_68, hl_70, a2up (Ex.refl _) hr_71⟩, fr_72⟩
    subst hs_79
    refine q_retO (i := 1) rfl s_77 fr_89 hB_19 hc_86 hl_87 (a2up (Ex.refl _) hr_88) fun s hr => ?_
    exact hm _ _ _ _ (e_4.trans (e_12.trans e_76)) hB_19 s hl_87 hr
def m_mean_loss (ar_rows : (List (Int × Int))) (ar_chances : (List (Int × Int))) : Res (Int × Int) :=
  ((un m_check_groups (Res.ok ar_rows)).bind fun (b_1 : Unit) => (ifR (bin neR (un rLen (Res.ok ar_chances)) (un rLen (Res.ok ar_rows))) ((Res.ok (1 : Int)).bind fun i => Res.exc .Unlike i) ((Res.ok ([] : List (Int × Int))).bind fun (parts_14 : (List (Int × Int))) => (((un zipR (pair (Res.ok ar_rows) (Res.ok ar_chances))).bind fun xs => loopN (fun (x_41 : ((Int × Int) × (Int × Int))) (z_29 : (List (Int × Int))) => ((un (fun (p : ((Int × Int) × (Int × Int))) => m_minus p.1 p.2) (pair (Res.ok ((1 : Int), (1 : Int))) (Res.ok x_41.2))).bind fun (off_55 : (Int × Int)) => (((un (fun (p : ((Int × Int) × (Int × Int))) => m_times p.1 p.2) (pair (pair (un (fun p => Res.ok p.1) (Res.ok x_41.1)) (Res.ok (1 : Int))) (un (fun (p : ((Int × Int) × (Int × Int))) => m_times p.1 p.2) (pair (Res.ok off_55) (Res.ok off_55))))).bind fun x => push z_29 x).bind fun (parts_62 : (List (Int × Int))) => (((un (fun (p : ((Int × Int) × (Int × Int))) => m_times p.1 p.2) (pair (pair (un (fun p => Res.ok p.2) (Res.ok x_41.1)) (Res.ok (1 : Int))) (un (fun (p : ((Int × Int) × (Int × Int))) => m_times p.1 p.2) (pair (Res.ok x_41.2) (Res.ok x_41.2))))).bind fun x => push parts_62 x).bind fun (parts_74 : (List (Int × Int))) => (Res.ok parts_74))))) xs parts_14).bind fun (z_91 : (List (Int × Int))) => ((un (fun (p : ((Int × Int) × (Int × Int))) => m_over p.1 p.2) (pair (un m_total (Res.ok z_91)) (pair (un sumR ((Res.ok ar_rows).bind (mapR (fun (x_112 : (Int × Int)) => (bin rAdd (un (fun p => Res.ok p.1) (Res.ok x_112)) (un (fun p => Res.ok p.2) (Res.ok x_112))))))) (Res.ok (1 : Int))))).bind fun a_119 => Res.ok a_119)))))
abbrev N_mean_loss : List Str := ["rows", "chances", "parts", "pair", "chance", "off"]
theorem sc_mean_loss : FnScope N_mean_loss ["rows", "chances"] (defScope s_mean_loss) := ⟨rfl, rfl, rfl, by decide +kernel, rfl, by decide +kernel, by decide +kernel⟩
theorem bind_mean_loss {K : PySem.W.Frag} {mg : Str → Option Value} {T : Tx K mg} : Binds K T.d_mean_loss ["rows", "chances"] [] := FunD.bindsN T.F_mean_loss fun _ _ _ _ _ _ us hl => match us, hl with | [_, _], _ => rfl
abbrev sp_mean_loss (K : PySem.W.Frag) : Sp := spP K (tc (pL (pT (tc pI (t1 pI)))) (t1 (pL (pT (tc pI (t1 pI)))))) (fun (p : ((List (Int × Int)) × (List (Int × Int)))) => m_mean_loss p.1 p.2) (pT (tc pI (t1 pI)))
theorem ok_mean_loss (T : Tx K mg) : FnOk P w K mg base (L2.CX P w) 6 T.f_mean_loss T.d_mean_loss ["rows", "chances"] (sp_mean_loss K) := by
  refine T.F_mean_loss.ok sc_mean_loss (fun vs H Q E h => ?_) (fun cdv A outer s H vs Q E hr h => ?_)
  · obtain ⟨I, C, a, _, hr, _⟩ := h
    exact Rt.len _ hr
  · obtain ⟨I0, C0, ⟨ar_rows, ar_chances⟩, hs, ⟨v_rows, us0, rfl, r_rows, v_chances, rfl, r_chances⟩, hm⟩ := h
    have hm : Post (m_mean_loss ar_rows ar_chances) (PQ (pT (tc pI (t1 pI))) I0 C0 Q) (PX E K I0 C0) := hm
    replace r_rows : Rp.r (pL (pT (tc pI (t1 pI)))) ar_rows v_rows I0 Z := Im.im r_rows
    replace r_chances : Rp.r (pL (pT (tc pI (t1 pI)))) ar_chances v_chances I0 Z := Im.im r_chances
    unfold m_mean_loss at hm
    refine ⟨_, (pss_cons (ps_expr (pe_call (ok_check_groups T) (hr.mono (by decide)) rfl T.g_check_groups T.F_check_groups.kp bind_check_groups .nil passE (pa_cons (pv 0) pa_nil))) (pss_cons (ps_if (pt_cmpR op_ne (pe_callB (r := rLen1 K) call_len_seq (by rfl) T.gb_len bt_len (pa_cons (pv 1) pa_nil)) (pe_callB (r := rLen1 K) call_len_seq (by rfl) T.gb_len bt_len (pa_cons (pv 0) pa_nil)) (nomark _)) (pss_cons (ps_raise rfl (takes_of rfl rfl rfl rfl) (pmk_oex (T.xs .Unlike (by decide)).o (T.xs .Unlike (by decide)).ic (T.xs .Unlike (by decide)).ti (ok_err T) (hr.mono (by decide)) bind_err .nil passL rfl (T.xs .Unlike (by decide)).g (pa_cons pe_int pa_nil))) pss_nil) pss_nil) (pss_cons (ps_set (i := 2) sc_mean_loss.nd rfl (Or.inl rfl) (pe_lst pa_nil)) (pss_cons (ps_for (passes_of rfl) rfl (show PI _ _ _ (iZip K _) from pi_zip (by rfl) T.gb_zip (pa_cons (pv 0) (pa_cons (pv 1) pa_nil))) (show PG _ _ (gTup K 2 _) from pg_tup rfl (pgs_cons (pg_name (i := 3) sc_mean_loss.nd rfl (Or.inl rfl)) (pgs_cons (pg_name (i := 4) sc_mean_loss.nd rfl (Or.inl rfl)) pgs_nil))) (pss_cons (ps_set (i := 5) sc_mean_loss.nd rfl (Or.inl rfl) (pe_call (ok_minus T) (hr.mono (by decide)) rfl T.g_minus T.F_minus.kp bind_minus .nil passE (pa_cons (pe_glob (v := .ref (He.ga K "ONE")) rfl T.gt_ONE.1 rfl) (pa_cons (pv 4) pa_nil)))) (pss_cons (ps_expr (show PE _ _ (tBM K "list" rAppend _ _) from pe_bm PySem.F.plainAttrs_list PySem.F.slot_list_append PySem.F.type_list_append mt_append (pv 2) (pa_cons (pe_call (ok_times T) (hr.mono (by decide)) rfl T.g_times T.F_times.kp bind_times .nil passE (pa_cons (pe_tup (pa_cons (pe_ix (r := rIxT K) ix_tup (pv 3) pe_int (fun _ _ => rfl)) (pa_cons pe_int pa_nil))) (pa_cons (pe_call (ok_times T) (hr.mono (by decide)) rfl T.g_times T.F_times.kp bind_times .nil passE (pa_cons (pv 5) (pa_cons (pv 5) pa_nil))) pa_nil))) pa_nil))) (pss_cons (ps_expr (show PE _ _ (tBM K "list" rAppend _ _) from pe_bm PySem.F.plainAttrs_list PySem.F.slot_list_append PySem.F.type_list_append mt_append (pv 2) (pa_cons (pe_call (ok_times T) (hr.mono (by decide)) rfl T.g_times T.F_times.kp bind_times .nil passE (pa_cons (pe_tup (pa_cons (pe_ix (r := rIxT K) ix_tup (pv 3) pe_int (fun _ _ => rfl)) (pa_cons pe_int pa_nil))) (pa_cons (pe_call (ok_times T) (hr.mono (by decide)) rfl T.g_times T.F_times.kp bind_times .nil passE (pa_cons (pv 4) (pa_cons (pv 4) pa_nil))) pa_nil))) pa_nil))) pss_nil)))) (pss_cons (ps_ret (pe_call (ok_over T) (hr.mono (by decide)) rfl T.g_over T.F_over.kp bind_over .nil passE (pa_cons (pe_call (ok_total T) (hr.mono (by decide)) rfl T.g_total T.F_total.kp bind_total .nil passE (pa_cons (pv 2) pa_nil)) (pa_cons (pe_tup (pa_cons (pe_callB (r := rSum K) (cr_sum rfl) (by rfl) T.gb_sum bt_sum (pa_cons (pe_lc (own := [("pair", 3)]) rfl sc_mean_loss.nd (show PI _ _ _ (iList K _) from pi_list (pv 0)) (blkOk_by (own := [("pair", 3)]) (N := N_mean_loss) (sc := defScope s_mean_loss) (by decide +kernel)) (fun _ _ _ _ _ => (pg_name (i := 3) sc_mean_loss.nd rfl (Or.inl rfl))) (fun _ _ _ _ _ => pts_nil) (fun _ _ _ _ _ => (pe_op op_add (pe_ix (r := rIxT K) ix_tup (pv 3) pe_int (fun _ _ => rfl)) (pe_ix (r := rIxT K) ix_tup (pv 3) pe_int (fun _ _ => rfl))))) pa_nil)) (pa_cons pe_int pa_nil))) pa_nil)))) pss_nil))))), ?_⟩
    refine s_expr (E := E) (K := K) (σ := [some v_rows, some v_chances, none, none, none, none]) (x_call (a_one (x_var (i := 0) rfl (Rp.mono _ (Ex.refl _) exz r_rows)))) hs (fun _ _ h => PX.mono (Ex.refl _) (Ex.refl _) h) hm fun b_1 I_2 H_3 e_4 s_5 hm => ?_
    refine s_if (E := E) (K := K) (σ := [some v_rows, some v_chances, none, none, none, none]) (t_test (x_op o_neI (x_cb o_len (a_one (x_v (x_var (i := 1) rfl (Rp.mono _ e_4 exz r_chances))))) (x_cb o_len (a_one (x_v (x_var (i := 0) rfl (Rp.mono _ e_4 exz r_rows))))))) s_5 (fun _ _ h => PX.mono e_4 (Ex.refl _) h) hm (fun I_6 H_7 e_8 s_9 hm => ?_) (fun I_10 H_11 e_12 s_13 hm => ?_)
    · exact s_raise (E := E) (K := K) (σ := [some v_rows, some v_chances, none, none, none, none]) (T.xs .Unlike (by decide)) (a_one (x_int (i := 1))) s_9 (fun _ _ h => PX.mono (e_4.trans e_8) (Ex.refl _) h) hm
    · refine q_asgN (E := E) (K := K) (σ := [some v_rows, some v_chances, none, none, none, none]) (i := 2) (n_lst (R := (pT (tc pI (t1 pI)))) al_nil (by decide)) s_13 (fun _ _ h => PX.mono (e_4.trans e_12) (Ex.refl _) h) hm fun parts_14 p_15 vs_16 I_17 C_18 H_19 e_20 hp_21 s_22 hc_23 k_24 hl_25 hr_26 hm => ?_
      have hB_27 := Ex.free (Ex.refl _) hp_21
      have fr_28 := fr_keep (Ex.refl _) hB_27 k_24
      refine s_forN (E := E) (K := K) (σ := [some v_rows, some v_chances, some (.ref p_15), none, none, none]) (fun (z_29 : (List (Int × Int))) σ2 I_34 C_35 => ∃ w_31 : Option V, ∃ w_32 : Option V, ∃ w_33 : Option V, σ2 = [some v_rows, some v_chances, some (.ref p_15), w_31, w_32, w_33] ∧ (∃ vs_36 : List V, C_35 p_15 = some (.lst vs_36) ∧ vs_36.length ≤ sizeLine ∧ A2 (fun x u => Rp.r (pT (tc pI (t1 pI))) x u I_34 Z) z_29 vs_36) ∧ Ex C0 C_35) (i_zip (a_cons (x_var (i := 0) rfl (Rp.mono _ (e_4.trans (e_12.trans e_20)) exz r_rows)) (a_one (x_var (i := 1) rfl (Rp.mono _ (e_4.trans (e_12.trans e_20)) exz r_chances))))) s_22 (fun _ _ h => PX.mono (e_4.trans (e_12.trans e_20)) fr_28 h) hm (fun _ e_49 => ⟨none, none, none, rfl, ⟨_, hc_23, hl_25, a2up (Ex.trans (Ex.refl _) e_49) hr_26⟩, fr_28⟩) (fun _ _ _ _ _ => trivial) (fun _ _ _ _ _ e ⟨w_31, w_32, w_33, hs_30, ⟨vs_36, hc_37, hl_38, hr_39⟩, fr_40⟩ => ⟨w_31, w_32, w_33, hs_30, ⟨vs_36, hc_37, hl_38, a2up e hr_39⟩, fr_40⟩) (fun N x_41 v_42 z_29 σ2 I_43 C_44 H_45 e_46 s_47 ⟨w_31, w_32, w_33, hs_30, ⟨vs_36, hc_37, hl_38, hr_39⟩, fr_40⟩ r_48 hm => ?_) (fun z_91 σ2 I_86 C_87 H_88 e_89 s_90 ⟨w_93, w_94, w_95, hs_92, ⟨vs_98, hc_99, hl_100, hr_101⟩, fr_102⟩ hm => ?_)
      · subst hs_30
        refine g2 (K := K) x_41 v_42 I_43 C_44 H_45 _ s_47 r_48 fun σ2 ⟨v_50, v_51, hs_54, r_52, r_53⟩ => ?_
        subst hs_54
        refine q_asg (E := E) (K := K) (σ := [some v_rows, some v_chances, some (.ref p_15), some v_50, some v_51, w_33]) (i := 5) (x_call (a_cons (x_c (R := (pU K (tc pI (t1 pI)))) (a := ((1 : Int), (1 : Int))) fun _ _ => ⟨_, _, rfl, T.gt_ONE.2 _, _, _, rfl, rfl, _, rfl, rfl⟩) (a_one (x_t2u (x_var (i := 4) rfl (Rp.mono _ (Ex.refl _) exz r_53)))))) s_47 (fun _ _ h => PX.mono (e_4.trans (e_12.trans (e_20.trans e_46))) fr_40 h) hm fun off_55 v_56 I_57 H_58 e_59 s_60 r_61 hm => ?_
        refine q_app (E := E) (K := K) (σ := [some v_rows, some v_chances, some (.ref p_15), some v_50, some v_51, some v_56]) (i := 2) rfl hc_37 (a2up e_59 hr_39) (x_call (a_cons (x_tup (a_cons (x_k (k := ((0 : Nat) : Int)) (o_pj pj0) (x_var (i := 3) rfl (Rp.mono _ e_59 exz r_52))) (a_one (x_int (i := 1)))) (Nat.le_of_ble_eq_true rfl)) (a_one (x_call (a_cons (x_var (i := 5) rfl (Rp.mono _ (Ex.refl _) exz r_61)) (a_one (x_var (i := 5) rfl (Rp.mono _ (Ex.refl _) exz r_61)))))))) s_60 (fun _ _ h => PX.mono (e_4.trans (e_12.trans (e_20.trans (e_46.trans e_59)))) fr_40 h) hm fun parts_62 vs_63 I_64 C_65 H_66 e_67 s_68 hc_69 k_70 hl_71 hr_72 hm => ?_
        have fr_73 := fr_keep fr_40 hB_27 k_70
        refine q_app (E := E) (K := K) (σ := [some v_rows, some v_chances, some (.ref p_15), some v_50, some v_51, some v_56]) (i := 2) rfl hc_69 (a2up (Ex.refl _) hr_72) (x_call (a_cons (x_tup (a_cons (x_k (k := ((1 : Nat) : Int)) (o_pj (pjs pj1)) (x_var (i := 3) rfl (Rp.mono _ (e_59.trans e_67) exz r_52))) (a_one (x_int (i := 1)))) (Nat.le_of_ble_eq_true rfl)) (a_one (x_call (a_cons (x_var (i := 4) rfl (Rp.mono _ (e_59.trans e_67) exz r_53)) (a_one (x_var (i := 4) rfl (Rp.mono _ (e_59.trans e_67) exz r_53)))))))) s_68 (fun _ _ h => PX.mono (e_4.trans (e_12.trans (e_20.trans (e_46.trans (e_59.trans e_67))))) fr_73 h) hm fun parts_74 vs_75 I_76 C_77 H_78 e_79 s_80 hc_81 k_82 hl_83 hr_84 hm => ?_
        have fr_85 := fr_keep fr_73 hB_27 k_82
        exact hm _ _ _ _ (e_59.trans (e_67.trans e_79)) s_80 ⟨some v_50, some v_51, some v_56, rfl, ⟨_, hc_81, hl_83, a2up (Ex.refl _) hr_84⟩, fr_85⟩
      subst hs_92
      obtain ⟨I_103, C_104, e_105, s_106, h_107, k_108⟩ := freeze s_90 hc_99
      have r_110 := frz_list e_105 h_107 hl_100 hr_101
      have fr_111 := fr_keep fr_102 hB_27 k_108
      refine q_ret (tz := tNext) (E := E) (K := K) (σ := [some v_rows, some v_chances, some (.ref p_15), w_93, w_94, w_95]) (x_call (a_cons (x_call (a_one (x_var (i := 2) rfl (Rp.mono _ (Ex.refl _) exz r_110)))) (a_one (x_tup (a_cons (x_cb o_sum (a_one (x_v (x_lc (i_list (x_var (i := 0) rfl (Rp.mono _ (e_4.trans (e_12.trans (e_20.trans (e_89.trans e_105)))) exz r_rows))) g1 (fun _ _ _ _ ⟨_, h, _⟩ => by rw [h]; rfl) (fun x_112 σ2 I_113 C_114 e_115 c_116 ⟨v_117, h, r_118⟩ => by subst h; exact (x_op o_add (x_k (k := ((0 : Nat) : Int)) (o_pj pj0) (x_var (i := 3) rfl (Rp.mono _ (Ex.refl _) exz r_118))) (x_k (k := ((1 : Nat) : Int)) (o_pj (pjs pj1)) (x_var (i := 3) rfl (Rp.mono _ (Ex.refl _) exz r_118))))) (fun _ _ _ _ _ e ⟨v_117, h, r_118⟩ => ⟨v_117, h, Rp.mono _ e exz r_118⟩))))) (a_one (x_int (i := 1)))) (Nat.le_of_ble_eq_true rfl))))) s_106 (fun _ _ h => PX.mono (e_4.trans (e_12.trans (e_20.trans (e_89.trans e_105)))) fr_111 h) hm fun a_119 v_120 I_121 H_122 e_123 s_124 r_125 hm => ?_
      exact hm v_120 I_121 H_122 (e_4.trans (e_12.trans (e_20.trans (e_89.trans (e_105.trans e_123))))) (St.less s_124 fr_111) (Im.im r_125)
def m_threshold_expense (ar_rows : (List (Int × Int))) (ar_start : Int) (ar_cost : Int) (ar_loss : Int) : Res Int :=
  ((un m_check_groups (Res.ok ar_rows)).bind fun (b_1 : Unit) => ((bin rMul (Res.ok ar_loss) (un sumR ((slR (Res.ok ar_rows) (Res.ok none) (someR (Res.ok ar_start))).bind (mapR (fun (x_6 : (Int × Int)) => (un (fun p => Res.ok p.1) (Res.ok x_6))))))).bind fun (idle_13 : Int) => ((bin rAdd (Res.ok idle_13) (bin rMul (Res.ok ar_cost) (un sumR ((slR (Res.ok ar_rows) (someR (Res.ok ar_start)) (Res.ok none)).bind (mapR (fun (x_20 : (Int × Int)) => (bin rAdd (un (fun p => Res.ok p.1) (Res.ok x_20)) (un (fun p => Res.ok p.2) (Res.ok x_20))))))))).bind fun a_27 => Res.ok a_27)))
abbrev N_threshold_expense : List Str := ["rows", "start", "cost", "loss", "idle", "pair"]
theorem sc_threshold_expense : FnScope N_threshold_expense ["rows", "start", "cost", "loss"] (defScope s_threshold_expense) := ⟨rfl, rfl, rfl, by decide +kernel, rfl, by decide +kernel, by decide +kernel⟩
theorem bind_threshold_expense {K : PySem.W.Frag} {mg : Str → Option Value} {T : Tx K mg} : Binds K T.d_threshold_expense ["rows", "start", "cost", "loss"] [] := FunD.bindsN T.F_threshold_expense fun _ _ _ _ _ _ us hl => match us, hl with | [_, _, _, _], _ => rfl
abbrev sp_threshold_expense (K : PySem.W.Frag) : Sp := spP K (tc (pL (pT (tc pI (t1 pI)))) (tc pI (tc pI (t1 pI)))) (fun (p : ((List (Int × Int)) × Int × Int × Int)) => m_threshold_expense p.1 p.2.1 p.2.2.1 p.2.2.2) pI
theorem ok_threshold_expense (T : Tx K mg) : FnOk P w K mg base (L2.CX P w) 4 T.f_threshold_expense T.d_threshold_expense ["rows", "start", "cost", "loss"] (sp_threshold_expense K) := by
  refine T.F_threshold_expense.ok sc_threshold_expense (fun vs H Q E h => ?_) (fun cdv A outer s H vs Q E hr h => ?_)
  · obtain ⟨I, C, a, _, hr, _⟩ := h
    exact Rt.len _ hr
  · obtain ⟨I0, C0, ⟨ar_rows, ar_start, ar_cost, ar_loss⟩, hs, ⟨v_rows, us0, rfl, r_rows, v_start, us1, rfl, r_start, v_cost, us2, rfl, r_cost, v_loss, rfl, r_loss⟩, hm⟩ := h
    have hm : Post (m_threshold_expense ar_rows ar_start ar_cost ar_loss) (PQ pI I0 C0 Q) (PX E K I0 C0) := hm
    replace r_rows : Rp.r (pL (pT (tc pI (t1 pI)))) ar_rows v_rows I0 Z := Im.im r_rows
    replace r_start : Rp.r pI ar_start v_start I0 Z := Im.im r_start
    replace r_cost : Rp.r pI ar_cost v_cost I0 Z := Im.im r_cost
    replace r_loss : Rp.r pI ar_loss v_loss I0 Z := Im.im r_loss
    unfold m_threshold_expense at hm
    refine ⟨_, (pss_cons (ps_expr (pe_call (ok_check_groups T) (hr.mono (by decide)) rfl T.g_check_groups T.F_check_groups.kp bind_check_groups .nil passE (pa_cons (pv 0) pa_nil))) (pss_cons (ps_set (i := 4) sc_threshold_expense.nd rfl (Or.inl rfl) (pe_op op_mul (pv 3) (pe_callB (r := rSum K) (cr_sum rfl) (by rfl) T.gb_sum bt_sum (pa_cons (pe_lc (own := [("pair", 5)]) rfl sc_threshold_expense.nd (show PI _ _ _ (iList K _) from pi_list (pe_slice (r := rSlL K) sl_list (pv 0) po_none (po_some (pv 1)))) (blkOk_by (own := [("pair", 5)]) (N := N_threshold_expense) (sc := defScope s_threshold_expense) (by decide +kernel)) (fun _ _ _ _ _ => (pg_name (i := 5) sc_threshold_expense.nd rfl (Or.inl rfl))) (fun _ _ _ _ _ => pts_nil) (fun _ _ _ _ _ => (pe_ix (r := rIxT K) ix_tup (pv 5) pe_int (fun _ _ => rfl)))) pa_nil)))) (pss_cons (ps_ret (pe_op op_add (pv 4) (pe_op op_mul (pv 2) (pe_callB (r := rSum K) (cr_sum rfl) (by rfl) T.gb_sum bt_sum (pa_cons (pe_lc (own := [("pair", 5)]) rfl sc_threshold_expense.nd (show PI _ _ _ (iList K _) from pi_list (pe_slice (r := rSlL K) sl_list (pv 0) (po_some (pv 1)) po_none)) (blkOk_by (own := [("pair", 5)]) (N := N_threshold_expense) (sc := defScope s_threshold_expense) (by decide +kernel)) (fun _ _ _ _ _ => (pg_name (i := 5) sc_threshold_expense.nd rfl (Or.inl rfl))) (fun _ _ _ _ _ => pts_nil) (fun _ _ _ _ _ => (pe_op op_add (pe_ix (r := rIxT K) ix_tup (pv 5) pe_int (fun _ _ => rfl)) (pe_ix (r := rIxT K) ix_tup (pv 5) pe_int (fun _ _ => rfl))))) pa_nil))))) pss_nil))), ?_⟩
    refine s_expr (E := E) (K := K) (σ := [some v_rows, some v_start, some v_cost, some v_loss, none, none]) (x_call (a_one (x_var (i := 0) rfl (Rp.mono _ (Ex.refl _) exz r_rows)))) hs (fun _ _ h => PX.mono (Ex.refl _) (Ex.refl _) h) hm fun b_1 I_2 H_3 e_4 s_5 hm => ?_
    refine q_asg (E := E) (K := K) (σ := [some v_rows, some v_start, some v_cost, some v_loss, none, none]) (i := 4) (x_op o_mul (x_var (i := 3) rfl (Rp.mono _ e_4 exz r_loss)) (x_cb o_sum (a_one (x_v (x_lc (i_list (x_sl (x_v (x_var (i := 0) rfl (Rp.mono _ e_4 exz r_rows))) p_none (p_some (x_var (i := 1) rfl (Rp.mono _ e_4 exz r_start))))) g1 (fun _ _ _ _ ⟨_, h, _⟩ => by rw [h]; rfl) (fun x_6 σ2 I_7 C_8 e_9 c_10 ⟨v_11, h, r_12⟩ => by subst h; exact (x_k (k := ((0 : Nat) : Int)) (o_pj pj0) (x_var (i := 5) rfl (Rp.mono _ (Ex.refl _) exz r_12)))) (fun _ _ _ _ _ e ⟨v_11, h, r_12⟩ => ⟨v_11, h, Rp.mono _ e exz r_12⟩)))))) s_5 (fun _ _ h => PX.mono e_4 (Ex.refl _) h) hm fun idle_13 v_14 I_15 H_16 e_17 s_18 r_19 hm => ?_
    refine q_ret (tz := tNext) (E := E) (K := K) (σ := [some v_rows, some v_start, some v_cost, some v_loss, some v_14, none]) (x_op o_add (x_var (i := 4) rfl (Rp.mono _ (Ex.refl _) exz r_19)) (x_op o_mul (x_var (i := 2) rfl (Rp.mono _ (e_4.trans e_17) exz r_cost)) (x_cb o_sum (a_one (x_v (x_lc (i_list (x_sl (x_v (x_var (i := 0) rfl (Rp.mono _ (e_4.trans e_17) exz r_rows))) (p_some (x_var (i := 1) rfl (Rp.mono _ (e_4.trans e_17) exz r_start))) p_none)) g1 (fun _ _ _ _ ⟨_, h, _⟩ => by rw [h]; rfl) (fun x_20 σ2 I_21 C_22 e_23 c_24 ⟨v_25, h, r_26⟩ => by subst h; exact (x_op o_add (x_k (k := ((0 : Nat) : Int)) (o_pj pj0) (x_var (i := 5) rfl (Rp.mono _ (Ex.refl _) exz r_26))) (x_k (k := ((1 : Nat) : Int)) (o_pj (pjs pj1)) (x_var (i := 5) rfl (Rp.mono _ (Ex.refl _) exz r_26))))) (fun _ _ _ _ _ e ⟨v_25, h, r_26⟩ => ⟨v_25, h, Rp.mono _ e exz r_26⟩))))))) s_18 (fun _ _ h => PX.mono (e_4.trans e_17) (Ex.refl _) h) hm fun a_27 v_28 I_29 H_30 e_31 s_32 r_33 hm => ?_
    exact hm v_28 I_29 H_30 (e_4.trans (e_17.trans e_31)) (St.less s_32 (Ex.refl _)) (Im.im r_33)
def m_best_start (ar_rows : (List (Int × Int))) (ar_cost : Int) (ar_loss : Int) : Res Int :=
  ((un m_rising_chances (Res.ok ar_rows)).bind fun (chances_1 : (List (Int × Int))) => ((un rLen ((Res.ok chances_1).bind (filR (fun (x_8 : (Int × Int)) => (bin rLe (bin rMul (Res.ok ar_loss) (un (fun p => Res.ok p.1) (Res.ok x_8))) (bin rMul (Res.ok ar_cost) (un (fun p => Res.ok p.2) (Res.ok x_8))))) (fun (x_8 : (Int × Int)) => (Res.ok x_8))))).bind fun a_15 => Res.ok a_15))
abbrev N_best_start : List Str := ["rows", "cost", "loss", "chances", "chance"]
theorem sc_best_start : FnScope N_best_start ["rows", "cost", "loss"] (defScope s_best_start) := ⟨rfl, rfl, rfl, by decide +kernel, rfl, by decide +kernel, by decide +kernel⟩
theorem bind_best_start {K : PySem.W.Frag} {mg : Str → Option Value} {T : Tx K mg} : Binds K T.d_best_start ["rows", "cost", "loss"] [] := FunD.bindsN T.F_best_start fun _ _ _ _ _ _ us hl => match us, hl with | [_, _, _], _ => rfl
abbrev sp_best_start (K : PySem.W.Frag) : Sp := spP K (tc (pL (pT (tc pI (t1 pI)))) (tc pI (t1 pI))) (fun (p : ((List (Int × Int)) × Int × Int)) => m_best_start p.1 p.2.1 p.2.2) pI
theorem ok_best_start (T : Tx K mg) : FnOk P w K mg base (L2.CX P w) 7 T.f_best_start T.d_best_start ["rows", "cost", "loss"] (sp_best_start K) := by
  refine T.F_best_start.ok sc_best_start (fun vs H Q E h => ?_) (fun cdv A outer s H vs Q E hr h => ?_)
  · obtain ⟨I, C, a, _, hr, _⟩ := h
    exact Rt.len _ hr
  · obtain ⟨I0, C0, ⟨ar_rows, ar_cost, ar_loss⟩, hs, ⟨v_rows, us0, rfl, r_rows, v_cost, us1, rfl, r_cost, v_loss, rfl, r_loss⟩, hm⟩ := h
    have hm : Post (m_best_start ar_rows ar_cost ar_loss) (PQ pI I0 C0 Q) (PX E K I0 C0) := hm
    replace r_rows : Rp.r (pL (pT (tc pI (t1 pI)))) ar_rows v_rows I0 Z := Im.im r_rows
    replace r_cost : Rp.r pI ar_cost v_cost I0 Z := Im.im r_cost
    replace r_loss : Rp.r pI ar_loss v_loss I0 Z := Im.im r_loss
    unfold m_best_start at hm
    refine ⟨_, (pss_cons (ps_set (i := 3) sc_best_start.nd rfl (Or.inl rfl) (pe_call (ok_rising_chances T) (hr.mono (by decide)) rfl T.g_rising_chances T.F_rising_chances.kp bind_rising_chances .nil passE (pa_cons (pv 0) pa_nil))) (pss_cons (ps_ret (pe_callB (r := rLen1 K) call_len_seq (by rfl) T.gb_len bt_len (pa_cons (pe_lc (own := [("chance", 4)]) rfl sc_best_start.nd (show PI _ _ _ (iList K _) from pi_list (pv 3)) (blkOk_by (own := [("chance", 4)]) (N := N_best_start) (sc := defScope s_best_start) (by decide +kernel)) (fun _ _ _ _ _ => (pg_name (i := 4) sc_best_start.nd rfl (Or.inl rfl))) (fun _ _ _ _ _ => (pts_one (pt_cmpR op_le (pe_op op_mul (pv 2) (pe_ix (r := rIxT K) ix_tup (pv 4) pe_int (fun _ _ => rfl))) (pe_op op_mul (pv 1) (pe_ix (r := rIxT K) ix_tup (pv 4) pe_int (fun _ _ => rfl))) (nomark _)))) (fun _ _ _ _ _ => (pv 4))) pa_nil))) pss_nil)), ?_⟩
    refine q_asg (E := E) (K := K) (σ := [some v_rows, some v_cost, some v_loss, none, none]) (i := 3) (x_own (n_call (a_one (x_var (i := 0) rfl (Rp.mono _ (Ex.refl _) exz r_rows))))) hs (fun _ _ h => PX.mono (Ex.refl _) (Ex.refl _) h) hm fun chances_1 v_2 I_3 H_4 e_5 s_6 r_7 hm => ?_
    refine q_ret (tz := tNext) (E := E) (K := K) (σ := [some v_rows, some v_cost, some v_loss, some v_2, none]) (x_cb o_len (a_one (x_v (x_lcg (i_list (x_var (i := 3) rfl (Rp.mono _ (Ex.refl _) exz r_7))) g1 (fun _ _ _ _ ⟨_, h, _⟩ => by rw [h]; rfl) (fun x_8 σ2 I_9 C_10 e_11 c_12 ⟨v_13, h, r_14⟩ => by subst h; exact (t_test (x_op o_le (x_op o_mul (x_var (i := 2) rfl (Rp.mono _ (e_5.trans e_11) exz r_loss)) (x_k (k := ((0 : Nat) : Int)) (o_pj pj0) (x_var (i := 4) rfl (Rp.mono _ (Ex.refl _) exz r_14)))) (x_op o_mul (x_var (i := 1) rfl (Rp.mono _ (e_5.trans e_11) exz r_cost)) (x_k (k := ((1 : Nat) : Int)) (o_pj (pjs pj1)) (x_var (i := 4) rfl (Rp.mono _ (Ex.refl _) exz r_14))))))) (fun x_8 σ2 I_9 C_10 e_11 c_12 ⟨v_13, h, r_14⟩ => by subst h; exact (x_var (i := 4) rfl (Rp.mono _ (Ex.refl _) exz r_14))) (fun _ _ _ _ _ e ⟨v_13, h, r_14⟩ => ⟨v_13, h, Rp.mono _ e exz r_14⟩))))) s_6 (fun _ _ h => PX.mono e_5 (Ex.refl _) h) hm fun a_15 v_16 I_17 H_18 e_19 s_20 r_21 hm => ?_
    exact hm v_16 I_17 H_18 (e_5.trans e_19) (St.less s_20 (Ex.refl _)) (Im.im r_21)
def m__law_mix (ar_cell : Int) (ar_turn : Int) : Res Int :=
  ((bin rMod (un idR (bin rAdd (bin rAdd (bin rMul (Res.ok ar_cell) (Res.ok (69621 : Int))) (bin rMul (Res.ok ar_turn) (Res.ok (48271 : Int)))) (Res.ok (12345 : Int)))) (Res.ok (2147483647 : Int))).bind fun (x_1 : Int) => ((bin rMod (un idR (bin rAdd (bin rMul (Res.ok x_1) (Res.ok (16807 : Int))) (Res.ok (97 : Int)))) (Res.ok (2147483629 : Int))).bind fun (x_8 : Int) => ((bin rMod (un idR (bin rAdd (bin rAdd (bin rMul (Res.ok x_8) (Res.ok (69069 : Int))) (Res.ok ar_cell)) (bin rMul (Res.ok ar_turn) (Res.ok (7 : Int))))) (Res.ok (2147483587 : Int))).bind fun (y_15 : Int) => ((bin rMod (un idR (bin rAdd (bin rMul (Res.ok y_15) (Res.ok (39373 : Int))) (Res.ok (7 : Int)))) (Res.ok (2147483579 : Int))).bind fun (y_22 : Int) => ((bin rAdd (bin rMul (Res.ok x_8) (Res.ok (2147483647 : Int))) (Res.ok y_22)).bind fun a_29 => Res.ok a_29)))))
abbrev N__law_mix : List Str := ["cell", "turn", "x", "y"]
theorem sc__law_mix : FnScope N__law_mix ["cell", "turn"] (defScope s__law_mix) := ⟨rfl, rfl, rfl, by decide +kernel, rfl, by decide +kernel, by decide +kernel⟩
theorem bind__law_mix {K : PySem.W.Frag} {mg : Str → Option Value} {T : Tx K mg} : Binds K T.d__law_mix ["cell", "turn"] [] := FunD.bindsN T.F__law_mix fun _ _ _ _ _ _ us hl => match us, hl with | [_, _], _ => rfl
abbrev sp__law_mix (K : PySem.W.Frag) : Sp := spP K (tc pI (t1 pI)) (fun (p : (Int × Int)) => m__law_mix p.1 p.2) pI
theorem ok__law_mix (T : Tx K mg) : FnOk P w K mg base (L2.CX P w) 1 T.f__law_mix T.d__law_mix ["cell", "turn"] (sp__law_mix K) := by
  refine T.F__law_mix.ok sc__law_mix (fun vs H Q E h => ?_) (fun cdv A outer s H vs Q E hr h => ?_)
  · obtain ⟨I, C, a, _, hr, _⟩ := h
    exact Rt.len _ hr
  · obtain ⟨I0, C0, ⟨ar_cell, ar_turn⟩, hs, ⟨v_cell, us0, rfl, r_cell, v_turn, rfl, r_turn⟩, hm⟩ := h
    have hm : Post (m__law_mix ar_cell ar_turn) (PQ pI I0 C0 Q) (PX E K I0 C0) := hm
    replace r_cell : Rp.r pI ar_cell v_cell I0 Z := Im.im r_cell
    replace r_turn : Rp.r pI ar_turn v_turn I0 Z := Im.im r_turn
    unfold m__law_mix at hm
    refine ⟨_, (pss_cons (ps_set (i := 2) sc__law_mix.nd rfl (Or.inl rfl) (pe_op op_mod (pe_callTy call_int1 (by rfl) T.gb_int bt_int (pa_cons (pe_op op_add (pe_op op_add (pe_op op_mul (pv 0) pe_int) (pe_op op_mul (pv 1) pe_int)) pe_int) pa_nil)) pe_int)) (pss_cons (ps_set (i := 2) sc__law_mix.nd rfl (Or.inl rfl) (pe_op op_mod (pe_callTy call_int1 (by rfl) T.gb_int bt_int (pa_cons (pe_op op_add (pe_op op_mul (pv 2) pe_int) pe_int) pa_nil)) pe_int)) (pss_cons (ps_set (i := 3) sc__law_mix.nd rfl (Or.inl rfl) (pe_op op_mod (pe_callTy call_int1 (by rfl) T.gb_int bt_int (pa_cons (pe_op op_add (pe_op op_add (pe_op op_mul (pv 2) pe_int) (pv 0)) (pe_op op_mul (pv 1) pe_int)) pa_nil)) pe_int)) (pss_cons (ps_set (i := 3) sc__law_mix.nd rfl (Or.inl rfl) (pe_op op_mod (pe_callTy call_int1 (by rfl) T.gb_int bt_int (pa_cons (pe_op op_add (pe_op op_mul (pv 3) pe_int) pe_int) pa_nil)) pe_int)) (pss_cons (ps_ret (pe_op op_add (pe_op op_mul (pv 2) pe_int) (pv 3))) pss_nil))))), ?_⟩
    refine q_asg (E := E) (K := K) (σ := [some v_cell, some v_turn, none, none]) (i := 2) (x_op o_mod (x_cb o_int (a_one (x_op o_add (x_op o_add (x_op o_mul (x_var (i := 0) rfl (Rp.mono _ (Ex.refl _) exz r_cell)) (x_int (i := 69621))) (x_op o_mul (x_var (i := 1) rfl (Rp.mono _ (Ex.refl _) exz r_turn)) (x_int (i := 48271)))) (x_int (i := 12345))))) (x_int (i := 2147483647))) hs (fun _ _ h => PX.mono (Ex.refl _) (Ex.refl _) h) hm fun x_1 v_2 I_3 H_4 e_5 s_6 r_7 hm => ?_
    refine q_asg (E := E) (K := K) (σ := [some v_cell, some v_turn, some v_2, none]) (i := 2) (x_op o_mod (x_cb o_int (a_one (x_op o_add (x_op o_mul (x_var (i := 2) rfl (Rp.mono _ (Ex.refl _) exz r_7)) (x_int (i := 16807))) (x_int (i := 97))))) (x_int (i := 2147483629))) s_6 (fun _ _ h => PX.mono e_5 (Ex.refl _) h) hm fun x_8 v_9 I_10 H_11 e_12 s_13 r_14 hm => ?_
    refine q_asg (E := E) (K := K) (σ := [some v_cell, some v_turn, some v_9, none]) (i := 3) (x_op o_mod (x_cb o_int (a_one (x_op o_add (x_op o_add (x_op o_mul (x_var (i := 2) rfl (Rp.mono _ (Ex.refl _) exz r_14)) (x_int (i := 69069))) (x_var (i := 0) rfl (Rp.mono _ (e_5.trans e_12) exz r_cell))) (x_op o_mul (x_var (i := 1) rfl (Rp.mono _ (e_5.trans e_12) exz r_turn)) (x_int (i := 7)))))) (x_int (i := 2147483587))) s_13 (fun _ _ h => PX.mono (e_5.trans e_12) (Ex.refl _) h) hm fun y_15 v_16 I_17 H_18 e_19 s_20 r_21 hm => ?_
    refine q_asg (E := E) (K := K) (σ := [some v_cell, some v_turn, some v_9, some v_16]) (i := 3) (x_op o_mod (x_cb o_int (a_one (x_op o_add (x_op o_mul (x_var (i := 3) rfl (Rp.mono _ (Ex.refl _) exz r_21)) (x_int (i := 39373))) (x_int (i := 7))))) (x_int (i := 2147483579))) s_20 (fun _ _ h => PX.mono (e_5.trans (e_12.trans e_19)) (Ex.refl _) h) hm fun y_22 v_23 I_24 H_25 e_26 s_27 r_28 hm => ?_
    refine q_ret (tz := tNext) (E := E) (K := K) (σ := [some v_cell, some v_turn, some v_9, some v_23]) (x_op o_add (x_op o_mul (x_var (i := 2) rfl (Rp.mono _ (e_19.trans e_26) exz r_14)) (x_int (i := 2147483647))) (x_var (i := 3) rfl (Rp.mono _ (Ex.refl _) exz r_28))) s_27 (fun _ _ h => PX.mono (e_5.trans (e_12.trans (e_19.trans e_26))) (Ex.refl _) h) hm fun a_29 v_30 I_31 H_32 e_33 s_34 r_35 hm => ?_
    exact hm v_30 I_31 H_32 (e_5.trans (e_12.trans (e_19.trans (e_26.trans e_33)))) (St.less s_34 (Ex.refl _)) (Im.im r_35)
abbrev N__law_pool : List Str := ["script"]
theorem sc__law_pool : FnScope N__law_pool ["script"] (defScope s__law_pool) := ⟨rfl, rfl, rfl, by decide +kernel, rfl, by decide +kernel, by decide +kernel⟩
theorem bind__law_pool {K : PySem.W.Frag} {mg : Str → Option Value} {T : Tx K mg} : Binds K T.d__law_pool ["script"] [] := FunD.bindsN T.F__law_pool fun _ _ _ _ _ _ us hl => match us, hl with | [_], _ => rfl
theorem ok__law_pool (T : Tx K mg) : FnOk P w K mg base (L2.CX P w) 1 T.f__law_pool T.d__law_pool ["script"] (spPool K) := by
  refine T.F__law_pool.ok sc__law_pool (fun vs H Q E h => ?_) (fun cdv A outer s H vs Q E hr h => ?_)
  · obtain ⟨I, C, ns, v, rfl, _⟩ := h
    rfl
  · obtain ⟨I0, C0, ns, v, rfl, hs, r, hm⟩ := h
    refine ⟨_, pss_cons (ps_ret (pe_lst (pa_cons pe_int (pa_cons pe_int (pa_cons pe_int (pa_cons (pe_callTy (r := rList1 K) call_list_of (by rfl) T.gb_list bt_list (pa_cons (pe_slice (r := rSlL K) sl_list (pv 0) po_none (po_some pe_int)) pa_nil)) pa_nil)))))) pss_nil, ?_⟩
    exact n_lstP (E := E) (A := pM) (m := .ok (0, 0, 0, cut ns none (some 63))) (x_is' (a_cons x_int (a_cons x_int (a_cons x_int (a_one (x_cb o_list (a_one (x_v (x_slS (x_var (i := 0) rfl (Im.im r)) p_none (p_some x_int))))))))) rfl) (by decide) hs fun p ws I2 H2 e hp s2 hx => hm p ws I2 H2 e hp s2 hx
def m__law_fill (_ : Unit) (a_pool : Pl) : Res (Unit × Pl) :=
  ((Res.ok a_pool.2.2.2).bind fun (numbers_1 : (List Int)) => ((Res.ok (0 : Int)).bind fun (cell_8 : Int) => ((ifR (bin rLt (Res.ok a_pool.2.1) (un rLen (Res.ok numbers_1))) ((bin ix (Res.ok numbers_1) (Res.ok a_pool.2.1)).bind fun (cell_33 : Int) => (Res.ok (a_pool, cell_33))) (ifR (bin rGt (un rLen (Res.ok numbers_1)) (Res.ok (0 : Int))) ((bin ix (Res.ok numbers_1) (bin rMod (un idR (Res.ok a_pool.2.2.1)) (un rLen (Res.ok numbers_1)))).bind fun (cell_48 : Int) => (Res.ok (a_pool, cell_48))) (Res.ok (a_pool, cell_8)))).bind fun (z_23 : (Pl × Int)) => ((ifR (bin rLt (Res.ok z_23.2) (Res.ok (0 : Int))) ((bin rSub (Res.ok (1 : Int)) (bin rMul (Res.ok (2 : Int)) (Res.ok z_23.2))).bind fun (cell_76 : Int) => (Res.ok cell_76)) (Res.ok z_23.2)).bind fun (z_68 : Int) => (thenR (bin rAdd (Res.ok z_23.1.2.1) (Res.ok (1 : Int))) (fun (a_98 : Int) => (z_23.1.1, (a_98, z_23.1.2.2))) (fun (y_88 : Pl) => (thenR (bin rAdd (Res.ok y_88.2.2.1) (Res.ok (1 : Int))) (fun (a_110 : Int) => (y_88.1, (y_88.2.1, (a_110, y_88.2.2.2)))) (fun (y_100 : Pl) => (ifR (andR (bin rGe (Res.ok z_68) (bin rPow (Res.ok (10 : Int)) (Res.ok (18 : Int)))) (bin rLe (Res.ok y_100.2.1) (un rLen (Res.ok numbers_1)))) (thenR (Res.ok z_68) (fun (a_130 : Int) => (a_130, y_100.2)) (fun (y_120 : Pl) => (Res.ok ((), y_120)))) (thenR (un (fun (p : (Int × Int)) => m__law_mix p.1 p.2) (pair (Res.ok z_68) (Res.ok y_100.2.2.1))) (fun (a_142 : Int) => (a_142, y_100.2)) (fun (y_132 : Pl) => (Res.ok ((), y_132)))))))))))))
abbrev N__law_fill : List Str := ["pool", "numbers", "cell"]
theorem sc__law_fill : FnScope N__law_fill ["pool"] (defScope s__law_fill) := ⟨rfl, rfl, rfl, by decide +kernel, rfl, by decide +kernel, by decide +kernel⟩
theorem bind__law_fill {K : PySem.W.Frag} {mg : Str → Option Value} {T : Tx K mg} : Binds K T.d__law_fill ["pool"] [] := FunD.bindsN T.F__law_fill fun _ _ _ _ _ _ us hl => match us, hl with | [_], _ => rfl
abbrev sp__law_fill (K : PySem.W.Frag) : Sp := spM pM t0 m__law_fill pN
theorem ok__law_fill (T : Tx K mg) : FnOk P w K mg base (L2.CX P w) 2 T.f__law_fill T.d__law_fill ["pool"] (sp__law_fill K) := by
  refine T.F__law_fill.ok sc__law_fill (fun vs H Q E h => ?_) (fun cdv A outer s H vs Q E hr h => ?_)
  · obtain ⟨I, C, p, ws, us, x, a, rfl, _, _, _, hr, _⟩ := h
    exact congrArg (· + 1) (Rt.len _ hr)
  · obtain ⟨I0, C0, p0, ws0, us, a_pool, ⟨⟩, rfl, hs, hc0, hx1, rfl, hm⟩ := h
    have hx0 := It.im (C' := Z) hx1
    have hm : Post (m__law_fill () a_pool) (PM p0 pM pN I0 C0 Q) XF := hm
    unfold m__law_fill at hm
    refine ⟨_, (pss_cons (ps_set (i := 1) sc__law_fill.nd rfl (Or.inl rfl) (pe_ix (r := rIxL K) ix_list (pv 0) pe_int (fun _ _ => rfl))) (pss_cons (ps_set (i := 2) sc__law_fill.nd rfl (Or.inl rfl) pe_int) (Evl.pss_cut (ps_if (pt_cmpR op_lt (pe_ix (r := rIxL K) ix_list (pv 0) pe_int (fun _ _ => rfl)) (pe_callB (r := rLen1 K) call_len_seq (by rfl) T.gb_len bt_len (pa_cons (pv 1) pa_nil)) (nomark _)) (pss_cons (ps_set (i := 2) sc__law_fill.nd rfl (Or.inl rfl) (pe_ix (r := rIxL K) ix_list (pv 1) (pe_ix (r := rIxL K) ix_list (pv 0) pe_int (fun _ _ => rfl)) (fun _ _ => rfl))) pss_nil) (pss_cons (ps_if (pt_cmpR op_gt (pe_callB (r := rLen1 K) call_len_seq (by rfl) T.gb_len bt_len (pa_cons (pv 1) pa_nil)) pe_int (nomark _)) (pss_cons (ps_set (i := 2) sc__law_fill.nd rfl (Or.inl rfl) (pe_ix (r := rIxL K) ix_list (pv 1) (pe_op op_mod (pe_callTy call_int1 (by rfl) T.gb_int bt_int (pa_cons (pe_ix (r := rIxL K) ix_list (pv 0) pe_int (fun _ _ => rfl)) pa_nil)) (pe_callB (r := rLen1 K) call_len_seq (by rfl) T.gb_len bt_len (pa_cons (pv 1) pa_nil))) (fun _ _ => rfl))) pss_nil) pss_nil) pss_nil)) (Evl.pss_cut (ps_if (pt_cmpR op_lt (pv 2) pe_int (nomark _)) (pss_cons (ps_set (i := 2) sc__law_fill.nd rfl (Or.inl rfl) (pe_op op_sub pe_int (pe_op op_mul pe_int (pv 2)))) pss_nil) pss_nil) (pss_cons (ps_asg (pe_op op_add (pe_ix (r := rIxL K) ix_list (pv 0) pe_int (fun _ _ => rfl)) pe_int) (pg_sub (pv 0) pe_int set_list)) (pss_cons (ps_asg (pe_op op_add (pe_ix (r := rIxL K) ix_list (pv 0) pe_int (fun _ _ => rfl)) pe_int) (pg_sub (pv 0) pe_int set_list)) (pss_cons (ps_if (PW.pt (pw_and (pt_cmpR op_ge (pv 2) (pe_op op_pow pe_int pe_int) (nomark _)) (pw_and1 (pt_cmpR op_le (pe_ix (r := rIxL K) ix_list (pv 0) pe_int (fun _ _ => rfl)) (pe_callB (r := rLen1 K) call_len_seq (by rfl) T.gb_len bt_len (pa_cons (pv 1) pa_nil)) (nomark _))))) (pss_cons (ps_asg (pv 2) (pg_sub (pv 0) pe_int set_list)) pss_nil) (pss_cons (ps_asg (pe_call (ok__law_mix T) (hr.mono (by decide)) rfl T.g__law_mix T.F__law_mix.kp bind__law_mix .nil passE (pa_cons (pv 2) (pa_cons (pe_ix (r := rIxL K) ix_list (pv 0) pe_int (fun _ _ => rfl)) pa_nil))) (pg_sub (pv 0) pe_int set_list)) pss_nil)) pss_nil))))))), ?_⟩
    refine q_asg (E := E) (K := K) (σ := [some (.ref p0), none, none]) (i := 1) (q_pool (i := 0) (k := 3) rfl hc0 (Rt.mono _ (Ex.refl _) exz hx0) (pjs (pjs (pjs pj1)))) hs (fun _ _ h => h.elim) hm fun numbers_1 v_2 I_3 H_4 e_5 s_6 r_7 hm => ?_
    refine q_asg (E := E) (K := K) (σ := [some (.ref p0), some v_2, none]) (i := 2) (x_int (i := 0)) s_6 (fun _ _ h => h.elim) hm fun cell_8 v_9 I_10 H_11 e_12 s_13 r_14 hm => ?_
    refine s_ifj (E := E) (K := K) (σ := [some (.ref p0), some v_2, some v_9]) (fun (z_23 : (Pl × Int)) σ2 I_25 C_26 => ∃ v_30 : V, σ2 = [some (.ref p0), some v_2, some v_30] ∧ (∃ ws_27 : List V, C_26 p0 = some (.lst ws_27) ∧ Rt.r pM z_23.1 ws_27 I_25 Z) ∧ Rp.r pI z_23.2 v_30 I_25 Z ∧ Ex (off C0 p0) C_26) (t_test (x_op o_lt (q_pool (i := 0) (k := 1) rfl hc0 (Rt.mono _ (e_5.trans e_12) exz hx0) (pjs pj0)) (x_cb o_len (a_one (x_v (x_var (i := 1) rfl (Rp.mono _ e_12 exz r_7))))))) s_13 (fun _ _ h => h.elim) hm (fun N I_15 H_16 e_17 s_18 hm => ?_) (fun N I_19 H_20 e_21 s_22 hm => ?_) (fun z_23 σ2 I_55 C_56 H_57 e_58 s_59 ⟨v_30, hs_24, ⟨ws_27, hc_28, hx_29⟩, r_31, fr_32⟩ hm => ?_)
    · refine q_asg (E := E) (K := K) (σ := [some (.ref p0), some v_2, some v_9]) (i := 2) (x_op o_ix (x_v (x_var (i := 1) rfl (Rp.mono _ (e_12.trans e_17) exz r_7))) (q_pool (i := 0) (k := 1) rfl hc0 (Rt.mono _ (e_5.trans (e_12.trans e_17)) exz hx0) (pjs pj0))) s_18 (fun _ _ h => h.elim) hm fun cell_33 v_34 I_35 H_36 e_37 s_38 r_39 hm => ?_
      exact hm _ _ _ _ (e_17.trans e_37) s_38 ⟨v_34, rfl, ⟨_, hc0, Rt.mono _ (e_5.trans (e_12.trans (e_17.trans e_37))) exz hx0⟩, Rp.mono _ (Ex.refl _) exz r_39, (off_ex (C := C0) (p := p0))⟩
    · refine s_if (E := E) (K := K) (σ := [some (.ref p0), some v_2, some v_9]) (t_test (x_op o_gt (x_cb o_len (a_one (x_v (x_var (i := 1) rfl (Rp.mono _ (e_12.trans e_21) exz r_7))))) (x_int (i := 0)))) s_22 (fun _ _ h => h.elim) hm (fun I_40 H_41 e_42 s_43 hm => ?_) (fun I_44 H_45 e_46 s_47 hm => ?_)
      · refine q_asg (E := E) (K := K) (σ := [some (.ref p0), some v_2, some v_9]) (i := 2) (x_op o_ix (x_v (x_var (i := 1) rfl (Rp.mono _ (e_12.trans (e_21.trans e_42)) exz r_7))) (x_op o_mod (x_cb o_int (a_one (q_pool (i := 0) (k := 2) rfl hc0 (Rt.mono _ (e_5.trans (e_12.trans (e_21.trans e_42))) exz hx0) (pjs (pjs pj0))))) (x_cb o_len (a_one (x_v (x_var (i := 1) rfl (Rp.mono _ (e_12.trans (e_21.trans e_42)) exz r_7))))))) s_43 (fun _ _ h => h.elim) hm fun cell_48 v_49 I_50 H_51 e_52 s_53 r_54 hm => ?_
        exact hm _ _ _ _ (e_21.trans (e_42.trans e_52)) s_53 ⟨v_49, rfl, ⟨_, hc0, Rt.mono _ (e_5.trans (e_12.trans (e_21.trans (e_42.trans e_52)))) exz hx0⟩, Rp.mono _ (Ex.refl _) exz r_54, (off_ex (C := C0) (p := p0))⟩
      · exact hm _ _ _ _ (e_21.trans e_46) s_47 ⟨v_9, rfl, ⟨_, hc0, Rt.mono _ (e_5.trans (e_12.trans (e_21.trans e_46))) exz hx0⟩, Rp.mono _ (e_21.trans e_46) exz r_14, (off_ex (C := C0) (p := p0))⟩
    subst hs_24
    refine s_ifj (E := E) (K := K) (σ := [some (.ref p0), some v_2, some v_30]) (fun (z_68 : Int) σ2 I_70 C_71 => ∃ v_72 : V, σ2 = [some (.ref p0), some v_2, some v_72] ∧ Rp.r pI z_68 v_72 I_70 Z ∧ C_71 p0 = some (.lst ws_27) ∧ Ex (off C0 p0) C_71) (t_test (x_op o_lt (x_var (i := 2) rfl (Rp.mono _ (Ex.refl _) exz r_31)) (x_int (i := 0)))) s_59 (fun _ _ h => h.elim) hm (fun N I_60 H_61 e_62 s_63 hm => ?_) (fun N I_64 H_65 e_66 s_67 hm => ?_) (fun z_68 σ2 I_83 C_84 H_85 e_86 s_87 ⟨v_72, hs_69, r_73, hc_74, fr_75⟩ hm => ?_)
    · refine q_asg (E := E) (K := K) (σ := [some (.ref p0), some v_2, some v_30]) (i := 2) (x_op o_sub (x_int (i := 1)) (x_op o_mul (x_int (i := 2)) (x_var (i := 2) rfl (Rp.mono _ e_62 exz r_31)))) s_63 (fun _ _ h => h.elim) hm fun cell_76 v_77 I_78 H_79 e_80 s_81 r_82 hm => ?_
      exact hm _ _ _ _ (e_62.trans e_80) s_81 ⟨v_77, rfl, Rp.mono _ (Ex.refl _) exz r_82, hc_28, fr_32⟩
    · exact hm _ _ _ _ e_66 s_67 ⟨v_30, rfl, Rp.mono _ e_66 exz r_31, hc_28, fr_32⟩
    subst hs_69
    refine q_setT (E := E) (K := K) (σ := [some (.ref p0), some v_2, some v_72]) (i := 0) (k := 1) rfl (x_op o_add (q_pool (i := 0) (k := 1) rfl hc_74 (Rt.mono _ e_86 exz hx_29) (pjs pj0)) (x_int (i := 1))) (pks pk0) s_87 hc_74 (Rt.mono _ e_86 exz hx_29) hm fun y_88 ws_89 I_90 C_91 H_92 e_93 s_94 hc_95 k_96 hx_97 hm => ?_
    have fr_99 := fr_pool fr_75 k_96
    refine q_setT (E := E) (K := K) (σ := [some (.ref p0), some v_2, some v_72]) (i := 0) (k := 2) rfl (x_op o_add (q_pool (i := 0) (k := 2) rfl hc_95 (Rt.mono _ (Ex.refl _) exz hx_97) (pjs (pjs pj0))) (x_int (i := 1))) (pks (pks pk0)) s_94 hc_95 (Rt.mono _ (Ex.refl _) exz hx_97) hm fun y_100 ws_101 I_102 C_103 H_104 e_105 s_106 hc_107 k_108 hx_109 hm => ?_
    have fr_111 := fr_pool fr_99 k_108
    refine s_if (E := E) (K := K) (σ := [some (.ref p0), some v_2, some v_72]) (t_and (t_test (x_op o_ge (x_var (i := 2) rfl (Rp.mono _ (e_93.trans e_105) exz r_73)) (x_op o_pow (x_int (i := 10)) (x_int (i := 18))))) (t_test (x_op o_le (q_pool (i := 0) (k := 1) rfl hc_107 (Rt.mono _ (Ex.refl _) exz hx_109) (pjs pj0)) (x_cb o_len (a_one (x_v (x_var (i := 1) rfl (Rp.mono _ (e_12.trans (e_58.trans (e_86.trans (e_93.trans e_105)))) exz r_7)))))))) s_106 (fun _ _ h => h.elim) hm (fun I_112 H_113 e_114 s_115 hm => ?_) (fun I_116 H_117 e_118 s_119 hm => ?_)
    · refine q_setT (E := E) (K := K) (σ := [some (.ref p0), some v_2, some v_72]) (i := 0) (k := 0) rfl (x_var (i := 2) rfl (Rp.mono _ (e_93.trans (e_105.trans e_114)) exz r_73)) pk0 s_115 hc_107 (Rt.mono _ e_114 exz hx_109) hm fun y_120 ws_121 I_122 C_123 H_124 e_125 s_126 hc_127 k_128 hx_129 hm => ?_
      have fr_131 := fr_pool fr_111 k_128
      exact ret_poolN hm (e_5.trans (e_12.trans (e_58.trans (e_86.trans (e_93.trans (e_105.trans (e_114.trans e_125))))))) fr_131 s_126 hc_127 (Rt.mono _ (Ex.refl _) exz hx_129)
    · refine q_setT (E := E) (K := K) (σ := [some (.ref p0), some v_2, some v_72]) (i := 0) (k := 0) rfl (x_call (a_cons (x_var (i := 2) rfl (Rp.mono _ (e_93.trans (e_105.trans e_118)) exz r_73)) (a_one (q_pool (i := 0) (k := 2) rfl hc_107 (Rt.mono _ e_118 exz hx_109) (pjs (pjs pj0)))))) pk0 s_119 hc_107 (Rt.mono _ e_118 exz hx_109) hm fun y_132 ws_133 I_134 C_135 H_136 e_137 s_138 hc_139 k_140 hx_141 hm => ?_
      have fr_143 := fr_pool fr_111 k_140
      exact ret_poolN hm (e_5.trans (e_12.trans (e_58.trans (e_86.trans (e_93.trans (e_105.trans (e_118.trans e_137))))))) fr_143 s_138 hc_139 (Rt.mono _ (Ex.refl _) exz hx_141)
def m__law_take (ar_many : Int) (a_pool : Pl) : Res (Int × Pl) :=
  ((ifR (bin rLt (Res.ok a_pool.1) (Res.ok ar_many)) (((m__law_fill ()) a_pool).bind fun (b_17 : Unit × Pl) => (Res.ok b_17.2)) (Res.ok a_pool)).bind fun (z_9 : Pl) => ((bin rMod (un idR (Res.ok z_9.1)) (Res.ok ar_many)).bind fun (value_33 : Int) => (thenR (bin rDiv (Res.ok z_9.1) (Res.ok ar_many)) (fun (a_50 : Int) => (a_50, z_9.2)) (fun (y_40 : Pl) => ((Res.ok value_33).bind fun a_52 => Res.ok (a_52, y_40))))))
abbrev N__law_take : List Str := ["pool", "many", "value"]
theorem sc__law_take : FnScope N__law_take ["pool", "many"] (defScope s__law_take) := ⟨rfl, rfl, rfl, by decide +kernel, rfl, by decide +kernel, by decide +kernel⟩
theorem bind__law_take {K : PySem.W.Frag} {mg : Str → Option Value} {T : Tx K mg} : Binds K T.d__law_take ["pool", "many"] [] := FunD.bindsN T.F__law_take fun _ _ _ _ _ _ us hl => match us, hl with | [_, _], _ => rfl
abbrev sp__law_take (K : PySem.W.Frag) : Sp := spM pM (t1 pI) m__law_take pI
theorem ok__law_take (T : Tx K mg) : FnOk P w K mg base (L2.CX P w) 3 T.f__law_take T.d__law_take ["pool", "many"] (sp__law_take K) := by
  refine T.F__law_take.ok sc__law_take (fun vs H Q E h => ?_) (fun cdv A outer s H vs Q E hr h => ?_)
  · obtain ⟨I, C, p, ws, us, x, a, rfl, _, _, _, hr, _⟩ := h
    exact congrArg (· + 1) (Rt.len _ hr)
  · obtain ⟨I0, C0, p0, ws0, us, a_pool, ar_many, rfl, hs, hc0, hx1, ⟨v_many, rfl, r_many⟩, hm⟩ := h
    have hx0 := It.im (C' := Z) hx1
    have hm : Post (m__law_take ar_many a_pool) (PM p0 pM pI I0 C0 Q) XF := hm
    replace r_many : Rp.r pI ar_many v_many I0 Z := Im.im r_many
    unfold m__law_take at hm
    refine ⟨_, (Evl.pss_cut (ps_if (pt_cmpR op_lt (pe_ix (r := rIxL K) ix_list (pv 0) pe_int (fun _ _ => rfl)) (pv 1) (nomark _)) (pss_cons (ps_expr (pe_call (ok__law_fill T) (hr.mono (by decide)) rfl T.g__law_fill T.F__law_fill.kp bind__law_fill .nil passE (pa_cons (pv 0) pa_nil))) pss_nil) pss_nil) (pss_cons (ps_set (i := 2) sc__law_take.nd rfl (Or.inl rfl) (pe_op op_mod (pe_callTy call_int1 (by rfl) T.gb_int bt_int (pa_cons (pe_ix (r := rIxL K) ix_list (pv 0) pe_int (fun _ _ => rfl)) pa_nil)) (pv 1))) (pss_cons (ps_asg (pe_op op_fdiv (pe_ix (r := rIxL K) ix_list (pv 0) pe_int (fun _ _ => rfl)) (pv 1)) (pg_sub (pv 0) pe_int set_list)) (pss_cons (ps_ret (pv 2)) pss_nil)))), ?_⟩
    refine s_ifj (E := E) (K := K) (σ := [some (.ref p0), some v_many, none]) (fun (z_9 : Pl) σ2 I_11 C_12 => σ2 = [some (.ref p0), some v_many, none] ∧ (∃ ws_13 : List V, C_12 p0 = some (.lst ws_13) ∧ Rt.r pM z_9 ws_13 I_11 Z) ∧ Ex (off C0 p0) C_12) (t_test (x_op o_lt (q_pool (i := 0) (k := 0) rfl hc0 (Rt.mono _ (Ex.refl _) exz hx0) pj0) (x_var (i := 1) rfl (Rp.mono _ (Ex.refl _) exz r_many)))) hs (fun _ _ h => h.elim) hm (fun N I_1 H_2 e_3 s_4 hm => ?_) (fun N I_5 H_6 e_7 s_8 hm => ?_) (fun z_9 σ2 I_28 C_29 H_30 e_31 s_32 ⟨hs_10, ⟨ws_13, hc_14, hx_15⟩, fr_16⟩ hm => ?_)
    · refine qm_expr (E := E) (K := K) (σ := [some (.ref p0), some v_many, none]) (m_callM0 (i := 0) rfl) s_4 hc0 (Rt.mono _ e_3 exz hx0) hm fun b_17 ws_18 I_19 C_20 H_21 e_22 s_23 hc_24 k_25 hx_26 hm => ?_
      have fr_27 := fr_pool (off_ex (C := C0) (p := p0)) k_25
      exact hm _ _ _ _ (e_3.trans e_22) s_23 ⟨rfl, ⟨_, hc_24, Rt.mono _ (Ex.refl _) exz hx_26⟩, fr_27⟩
    · exact hm _ _ _ _ e_7 s_8 ⟨rfl, ⟨_, hc0, Rt.mono _ e_7 exz hx0⟩, (off_ex (C := C0) (p := p0))⟩
    subst hs_10
    refine q_asg (E := E) (K := K) (σ := [some (.ref p0), some v_many, none]) (i := 2) (x_op o_mod (x_cb o_int (a_one (q_pool (i := 0) (k := 0) rfl hc_14 (Rt.mono _ (Ex.refl _) exz hx_15) pj0))) (x_var (i := 1) rfl (Rp.mono _ e_31 exz r_many))) s_32 (fun _ _ h => h.elim) hm fun value_33 v_34 I_35 H_36 e_37 s_38 r_39 hm => ?_
    refine q_setT (E := E) (K := K) (σ := [some (.ref p0), some v_many, some v_34]) (i := 0) (k := 0) rfl (x_op o_fdiv (q_pool (i := 0) (k := 0) rfl hc_14 (Rt.mono _ e_37 exz hx_15) pj0) (x_var (i := 1) rfl (Rp.mono _ (e_31.trans e_37) exz r_many))) pk0 s_38 hc_14 (Rt.mono _ e_37 exz hx_15) hm fun y_40 ws_41 I_42 C_43 H_44 e_45 s_46 hc_47 k_48 hx_49 hm => ?_
    have fr_51 := fr_pool fr_16 k_48
    refine q_ret (tz := tNext) (E := E) (K := K) (σ := [some (.ref p0), some v_many, some v_34]) (x_var (i := 2) rfl (Rp.mono _ e_45 exz r_39)) s_46 (fun _ _ h => h.elim) hm fun a_52 v_53 I_54 H_55 e_56 s_57 r_58 hm => ?_
    exact ret_pool hm (e_31.trans (e_37.trans (e_45.trans e_56))) fr_51 s_57 hc_47 (Rt.mono _ e_56 exz hx_49) r_58
def m__law_from (ar_low : Int) (ar_high : Int) (a_pool : Pl) : Res (Int × Pl) :=
  (((binM rAdd (liftM (Res.ok ar_low)) (callM m__law_take (liftM (bin rAdd (bin rSub (Res.ok ar_high) (Res.ok ar_low)) (Res.ok (1 : Int)))))) a_pool).bind fun a_1 => Res.ok (a_1.1, a_1.2))
abbrev N__law_from : List Str := ["pool", "low", "high"]
theorem sc__law_from : FnScope N__law_from ["pool", "low", "high"] (defScope s__law_from) := ⟨rfl, rfl, rfl, by decide +kernel, rfl, by decide +kernel, by decide +kernel⟩
theorem bind__law_from {K : PySem.W.Frag} {mg : Str → Option Value} {T : Tx K mg} : Binds K T.d__law_from ["pool", "low", "high"] [] := FunD.bindsN T.F__law_from fun _ _ _ _ _ _ us hl => match us, hl with | [_, _, _], _ => rfl
abbrev sp__law_from (K : PySem.W.Frag) : Sp := spM pM (tc pI (t1 pI)) (fun (p : (Int × Int)) => m__law_from p.1 p.2) pI
theorem ok__law_from (T : Tx K mg) : FnOk P w K mg base (L2.CX P w) 4 T.f__law_from T.d__law_from ["pool", "low", "high"] (sp__law_from K) := by
  refine T.F__law_from.ok sc__law_from (fun vs H Q E h => ?_) (fun cdv A outer s H vs Q E hr h => ?_)
  · obtain ⟨I, C, p, ws, us, x, a, rfl, _, _, _, hr, _⟩ := h
    exact congrArg (· + 1) (Rt.len _ hr)
  · obtain ⟨I0, C0, p0, ws0, us, a_pool, ⟨ar_low, ar_high⟩, rfl, hs, hc0, hx1, ⟨v_low, us0, rfl, r_low, v_high, rfl, r_high⟩, hm⟩ := h
    have hx0 := It.im (C' := Z) hx1
    have hm : Post (m__law_from ar_low ar_high a_pool) (PM p0 pM pI I0 C0 Q) XF := hm
    replace r_low : Rp.r pI ar_low v_low I0 Z := Im.im r_low
    replace r_high : Rp.r pI ar_high v_high I0 Z := Im.im r_high
    unfold m__law_from at hm
    refine ⟨_, (pss_cons (ps_ret (pe_op op_add (pv 1) (pe_call (ok__law_take T) (hr.mono (by decide)) rfl T.g__law_take T.F__law_take.kp bind__law_take .nil passE (pa_cons (pv 0) (pa_cons (pe_op op_add (pe_op op_sub (pv 2) (pv 1)) pe_int) pa_nil))))) pss_nil), ?_⟩
    refine qm_ret (E := E) (K := K) (σ := [some (.ref p0), some v_low, some v_high]) (m_op (fun _ => o_add) off_same (m_pure (x_var (i := 1) rfl (Rp.mono _ (Ex.refl _) exz r_low))) (m_callM (i := 0) rfl (am_pure (a_one (x_op o_add (x_op o_sub (x_var (i := 2) rfl (Rp.mono _ (Ex.refl _) exz r_high)) (x_var (i := 1) rfl (Rp.mono _ (Ex.refl _) exz r_low))) (x_int (i := 1))))))) hs hc0 (Rt.mono _ (Ex.refl _) exz hx0) hm fun a_1 v_2 ws_8 I_3 C_9 H_4 e_5 s_6 hc_10 k_11 hx_12 r_7 hm => ?_
    have fr_13 := fr_pool (off_ex (C := C0) (p := p0)) k_11
    exact ret_pool hm e_5 fr_13 s_6 hc_10 hx_12 r_7
def m__law_groups (_ : Unit) (a_pool : Pl) : Res ((List (Int × Int)) × Pl) :=
  (((callM (fun (p : (Int × Int)) => m__law_from p.1 p.2) (liftM (pair (Res.ok (1 : Int)) (Res.ok (24 : Int))))) a_pool).bind fun (many_1 : Int × Pl) => ((ifMR (binM eqR (callM m__law_take (liftM (Res.ok (2 : Int)))) (liftM (Res.ok (0 : Int)))) many_1.2 (fun (y_22 : Pl) => (((callM (fun (p : (Int × Int)) => m__law_from p.1 p.2) (liftM (pair (Res.ok (1 : Int)) (Res.ok (6 : Int))))) y_22).bind fun (many_45 : Int × Pl) => (Res.ok (many_45.2, many_45.1)))) (fun (y_28 : Pl) => (Res.ok (y_28, many_1.1)))).bind fun (z_34 : (Pl × Int)) => (((binM ix (liftM (consR (Res.ok (100000 : Int)) (consR (Res.ok (5 : Int)) (consR (Res.ok (1 : Int)) (consR (Res.ok (1000 : Int)) (Res.ok [])))))) (callM m__law_take (liftM (Res.ok (4 : Int))))) z_34.1).bind fun (most_64 : Int × Pl) => ((Res.ok ([] : List (Int × Int))).bind fun (rows_77 : (List (Int × Int))) => (((un rng1 (Res.ok z_34.2)).bind fun xs => loopN (fun (x_109 : Int) (z_94 : ((List (Int × Int)) × Pl)) => (((callM m__law_take (liftM (bin rAdd (Res.ok most_64.1) (Res.ok (1 : Int))))) z_94.2).bind fun (yes_121 : Int × Pl) => (((callM m__law_take (liftM (bin rAdd (Res.ok most_64.1) (Res.ok (1 : Int))))) yes_121.2).bind fun (no_135 : Int × Pl) => ((ifR (bin eqR (bin rAdd (Res.ok yes_121.1) (Res.ok no_135.1)) (Res.ok (0 : Int))) (((callM m__law_take (liftM (Res.ok (2 : Int)))) no_135.2).bind fun (yes_170 : Int × Pl) => ((bin rSub (Res.ok (1 : Int)) (Res.ok yes_170.1)).bind fun (no_184 : Int) => (Res.ok (yes_170.2, yes_170.1, no_184)))) (Res.ok (no_135.2, yes_121.1, no_135.1))).bind fun (z_157 : (Pl × Int × Int)) => (((pair (Res.ok z_157.2.1) (Res.ok z_157.2.2)).bind fun x => push z_94.1 x).bind fun (rows_196 : (List (Int × Int))) => (Res.ok (rows_196, z_157.1))))))) xs (rows_77, most_64.2)).bind fun (z_214 : ((List (Int × Int)) × Pl)) => (((callM m__law_take (liftM (Res.ok (4 : Int)))) z_214.2).bind fun (turn_229 : Int × Pl) => ((un sortP ((un rng1 (Res.ok z_34.2)).bind (mapR (fun (x_253 : Int) => (pair (bin rDiv (bin rMul (un (fun p => Res.ok p.1) (bin ix (Res.ok z_214.1) (Res.ok x_253))) (Res.ok (1000000 : Int))) (bin rAdd (un (fun p => Res.ok p.1) (bin ix (Res.ok z_214.1) (Res.ok x_253))) (un (fun p => Res.ok p.2) (bin ix (Res.ok z_214.1) (Res.ok x_253))))) (Res.ok x_253)))))).bind fun (order_260 : (List (Int × Int))) => (ifR (bin eqR (Res.ok turn_229.1) (Res.ok (2 : Int))) (((Res.ok order_260).bind (mapR (fun (x_275 : (Int × Int)) => (bin ix (Res.ok z_214.1) (un (fun p => Res.ok p.2) (Res.ok x_275)))))).bind fun a_282 => Res.ok (a_282, turn_229.2)) (ifR (bin eqR (Res.ok turn_229.1) (Res.ok (3 : Int))) (((un revR (Res.ok order_260)).bind (mapR (fun (x_297 : (Int × Int)) => (bin ix (Res.ok z_214.1) (un (fun p => Res.ok p.2) (Res.ok x_297)))))).bind fun a_304 => Res.ok (a_304, turn_229.2)) ((Res.ok z_214.1).bind fun a_311 => Res.ok (a_311, turn_229.2)))))))))))
abbrev N__law_groups : List Str := ["pool", "many", "most", "rows", "k", "yes", "no", "turn", "order", "pair"]
theorem sc__law_groups : FnScope N__law_groups ["pool"] (defScope s__law_groups) := ⟨rfl, rfl, rfl, by decide +kernel, rfl, by decide +kernel, by decide +kernel⟩
theorem bind__law_groups {K : PySem.W.Frag} {mg : Str → Option Value} {T : Tx K mg} : Binds K T.d__law_groups ["pool"] [] := FunD.bindsN T.F__law_groups fun _ _ _ _ _ _ us hl => match us, hl with | [_], _ => rfl
abbrev sp__law_groups (K : PySem.W.Frag) : Sp := spM pM t0 m__law_groups (pL (pT (tc pI (t1 pI))))
theorem ok__law_groups (T : Tx K mg) : FnOk P w K mg base (L2.CX P w) 5 T.f__law_groups T.d__law_groups ["pool"] (sp__law_groups K) := by
  refine T.F__law_groups.ok sc__law_groups (fun vs H Q E h => ?_) (fun cdv A outer s H vs Q E hr h => ?_)
  · obtain ⟨I, C, p, ws, us, x, a, rfl, _, _, _, hr, _⟩ := h
    exact congrArg (· + 1) (Rt.len _ hr)
  · obtain ⟨I0, C0, p0, ws0, us, a_pool, ⟨⟩, rfl, hs, hc0, hx1, rfl, hm⟩ := h
    have hx0 := It.im (C' := Z) hx1
    have hm : Post (m__law_groups () a_pool) (PM p0 pM (pL (pT (tc pI (t1 pI)))) I0 C0 Q) XF := hm
    unfold m__law_groups at hm
    refine ⟨_, (pss_cons (ps_set (i := 1) sc__law_groups.nd rfl (Or.inl rfl) (pe_call (ok__law_from T) (hr.mono (by decide)) rfl T.g__law_from T.F__law_from.kp bind__law_from .nil passE (pa_cons (pv 0) (pa_cons pe_int (pa_cons pe_int pa_nil))))) (Evl.pss_cut (ps_if (pt_cmpR op_eq (pe_call (ok__law_take T) (hr.mono (by decide)) rfl T.g__law_take T.F__law_take.kp bind__law_take .nil passE (pa_cons (pv 0) (pa_cons pe_int pa_nil))) pe_int (nomark _)) (pss_cons (ps_set (i := 1) sc__law_groups.nd rfl (Or.inl rfl) (pe_call (ok__law_from T) (hr.mono (by decide)) rfl T.g__law_from T.F__law_from.kp bind__law_from .nil passE (pa_cons (pv 0) (pa_cons pe_int (pa_cons pe_int pa_nil))))) pss_nil) pss_nil) (pss_cons (ps_set (i := 2) sc__law_groups.nd rfl (Or.inl rfl) (pe_ix (r := rIxL K) ix_list (pe_lst (pa_cons pe_int (pa_cons pe_int (pa_cons pe_int (pa_cons pe_int pa_nil))))) (pe_call (ok__law_take T) (hr.mono (by decide)) rfl T.g__law_take T.F__law_take.kp bind__law_take .nil passE (pa_cons (pv 0) (pa_cons pe_int pa_nil))) (fun _ _ => rfl))) (pss_cons (ps_set (i := 3) sc__law_groups.nd rfl (Or.inr rfl) (pe_lst pa_nil)) (pss_cons (ps_for (passes_of rfl) rfl (pi_range1 (by rfl) T.gb_range (pa_cons (pv 1) pa_nil)) (pg_name (i := 4) sc__law_groups.nd rfl (Or.inl rfl)) (pss_cons (ps_set (i := 5) sc__law_groups.nd rfl (Or.inl rfl) (pe_call (ok__law_take T) (hr.mono (by decide)) rfl T.g__law_take T.F__law_take.kp bind__law_take .nil passE (pa_cons (pv 0) (pa_cons (pe_op op_add (pv 2) pe_int) pa_nil)))) (pss_cons (ps_set (i := 6) sc__law_groups.nd rfl (Or.inl rfl) (pe_call (ok__law_take T) (hr.mono (by decide)) rfl T.g__law_take T.F__law_take.kp bind__law_take .nil passE (pa_cons (pv 0) (pa_cons (pe_op op_add (pv 2) pe_int) pa_nil)))) (Evl.pss_cut (ps_if (pt_cmpR op_eq (pe_op op_add (pv 5) (pv 6)) pe_int (nomark _)) (pss_cons (ps_set (i := 5) sc__law_groups.nd rfl (Or.inl rfl) (pe_call (ok__law_take T) (hr.mono (by decide)) rfl T.g__law_take T.F__law_take.kp bind__law_take .nil passE (pa_cons (pv 0) (pa_cons pe_int pa_nil)))) (pss_cons (ps_set (i := 6) sc__law_groups.nd rfl (Or.inl rfl) (pe_op op_sub pe_int (pv 5))) pss_nil)) pss_nil) (pss_cons (ps_expr (show PE _ _ (tBM K "list" rAppend _ _) from pe_bm PySem.F.plainAttrs_list PySem.F.slot_list_append PySem.F.type_list_append mt_append (pv 3) (pa_cons (pe_tup (pa_cons (pv 5) (pa_cons (pv 6) pa_nil))) pa_nil))) pss_nil))))) (pss_cons (ps_set (i := 7) sc__law_groups.nd rfl (Or.inl rfl) (pe_call (ok__law_take T) (hr.mono (by decide)) rfl T.g__law_take T.F__law_take.kp bind__law_take .nil passE (pa_cons (pv 0) (pa_cons pe_int pa_nil)))) (pss_cons (ps_set (i := 8) sc__law_groups.nd rfl (Or.inl rfl) (pe_callB (r := rSortedPO K) cr_sortedPO (by rfl) T.gb_sorted bt_sorted (pa_cons (pe_lc (own := [("k", 4)]) rfl sc__law_groups.nd (pi_range1 (by rfl) T.gb_range (pa_cons (pv 1) pa_nil)) (blkOk_by (own := [("k", 4)]) (N := N__law_groups) (sc := defScope s__law_groups) (by decide +kernel)) (fun _ _ _ _ _ => (pg_name (i := 4) sc__law_groups.nd rfl (Or.inl rfl))) (fun _ _ _ _ _ => pts_nil) (fun _ _ _ _ _ => (pe_tup (pa_cons (pe_op op_fdiv (pe_op op_mul (pe_ix (r := rIxT K) ix_tup (pe_ix (r := rIxL K) ix_list (pv 3) (pv 4) (fun _ _ => rfl)) pe_int (fun _ _ => rfl)) pe_int) (pe_op op_add (pe_ix (r := rIxT K) ix_tup (pe_ix (r := rIxL K) ix_list (pv 3) (pv 4) (fun _ _ => rfl)) pe_int (fun _ _ => rfl)) (pe_ix (r := rIxT K) ix_tup (pe_ix (r := rIxL K) ix_list (pv 3) (pv 4) (fun _ _ => rfl)) pe_int (fun _ _ => rfl)))) (pa_cons (pv 4) pa_nil))))) pa_nil))) (pss_cons (ps_if (pt_cmpR op_eq (pv 7) pe_int (nomark _)) (pss_cons (ps_ret (pe_lc (own := [("pair", 9)]) rfl sc__law_groups.nd (show PI _ _ _ (iList K _) from pi_list (pv 8)) (blkOk_by (own := [("pair", 9)]) (N := N__law_groups) (sc := defScope s__law_groups) (by decide +kernel)) (fun _ _ _ _ _ => (pg_name (i := 9) sc__law_groups.nd rfl (Or.inl rfl))) (fun _ _ _ _ _ => pts_nil) (fun _ _ _ _ _ => (pe_ix (r := rIxL K) ix_list (pv 3) (pe_ix (r := rIxT K) ix_tup (pv 9) pe_int (fun _ _ => rfl)) (fun _ _ => rfl))))) pss_nil) pss_nil) (pss_cons (ps_if (pt_cmpR op_eq (pv 7) pe_int (nomark _)) (pss_cons (ps_ret (pe_lc (own := [("pair", 9)]) rfl sc__law_groups.nd (show PI _ _ _ (iList K _) from pi_list (show PE _ _ (tRevL K _) from pe_revL (pv 8))) (blkOk_by (own := [("pair", 9)]) (N := N__law_groups) (sc := defScope s__law_groups) (by decide +kernel)) (fun _ _ _ _ _ => (pg_name (i := 9) sc__law_groups.nd rfl (Or.inl rfl))) (fun _ _ _ _ _ => pts_nil) (fun _ _ _ _ _ => (pe_ix (r := rIxL K) ix_list (pv 3) (pe_ix (r := rIxT K) ix_tup (pv 9) pe_int (fun _ _ => rfl)) (fun _ _ => rfl))))) pss_nil) pss_nil) (pss_cons (ps_ret (pv 3)) pss_nil)))))))))), ?_⟩
    refine qm_asg (E := E) (K := K) (σ := [some (.ref p0), none, none, none, none, none, none, none, none, none]) (i := 1) (m_callM (i := 0) rfl (am_pure (a_cons (x_int (i := 1)) (a_one (x_int (i := 24)))))) hs hc0 (Rt.mono _ (Ex.refl _) exz hx0) hm fun many_1 v_2 ws_8 I_3 C_9 H_4 e_5 s_6 hc_10 k_11 hx_12 r_7 hm => ?_
    have fr_13 := fr_pool (off_ex (C := C0) (p := p0)) k_11
    refine qm_ifj (E := E) (K := K) (σ := [some (.ref p0), some v_2, none, none, none, none, none, none, none, none]) (fun (z_34 : (Pl × Int)) σ2 I_36 C_37 => ∃ v_41 : V, σ2 = [some (.ref p0), some v_41, none, none, none, none, none, none, none, none] ∧ (∃ ws_38 : List V, C_37 p0 = some (.lst ws_38) ∧ Rt.r pM z_34.1 ws_38 I_36 Z) ∧ Rp.r pI z_34.2 v_41 I_36 Z ∧ Ex (off C0 p0) C_37) (tm_test (m_op (fun _ => o_eqI) off_same (m_callM (i := 0) rfl (am_pure (a_one (x_int (i := 2))))) (m_pure (x_int (i := 0))))) s_6 hc_10 (Rt.mono _ (Ex.refl _) exz hx_12) hm (fun N y_22 ws_23 I_14 C_24 H_15 e_16 s_17 hc_25 k_26 hx_27 hm => ?_) (fun N y_28 ws_29 I_18 C_30 H_19 e_20 s_21 hc_31 k_32 hx_33 hm => ?_) (fun z_34 σ2 I_59 C_60 H_61 e_62 s_63 ⟨v_41, hs_35, ⟨ws_38, hc_39, hx_40⟩, r_42, fr_43⟩ hm => ?_)
    · have fr_44 := fr_pool fr_13 k_26
      refine qm_asg (E := E) (K := K) (σ := [some (.ref p0), some v_2, none, none, none, none, none, none, none, none]) (i := 1) (m_callM (i := 0) rfl (am_pure (a_cons (x_int (i := 1)) (a_one (x_int (i := 6)))))) s_17 hc_25 (Rt.mono _ (Ex.refl _) exz hx_27) hm fun many_45 v_46 ws_52 I_47 C_53 H_48 e_49 s_50 hc_54 k_55 hx_56 r_51 hm => ?_
      have fr_57 := fr_pool fr_44 k_55
      exact hm _ _ _ _ (e_16.trans e_49) s_50 ⟨v_46, rfl, ⟨_, hc_54, Rt.mono _ (Ex.refl _) exz hx_56⟩, Rp.mono _ (Ex.refl _) exz r_51, fr_57⟩
    · have fr_58 := fr_pool fr_13 k_32
      exact hm _ _ _ _ e_20 s_21 ⟨v_2, rfl, ⟨_, hc_31, Rt.mono _ (Ex.refl _) exz hx_33⟩, Rp.mono _ e_20 exz r_7, fr_58⟩
    subst hs_35
    refine qm_asg (E := E) (K := K) (σ := [some (.ref p0), some v_41, none, none, none, none, none, none, none, none]) (i := 2) (m_op (fun _ => (Op2.ofL o_ix)) off_same (m_pure (x_lst (al_cons (x_int (i := 100000)) (al_cons (x_int (i := 5)) (al_cons (x_int (i := 1)) (al_cons (x_int (i := 1000)) al_nil)))) (Nat.le_of_ble_eq_true rfl))) (m_callM (i := 0) rfl (am_pure (a_one (x_int (i := 4)))))) s_63 hc_39 (Rt.mono _ (Ex.refl _) exz hx_40) hm fun most_64 v_65 ws_71 I_66 C_72 H_67 e_68 s_69 hc_73 k_74 hx_75 r_70 hm => ?_
    have fr_76 := fr_pool fr_43 k_74
    refine q_asgN (E := E) (K := K) (σ := [some (.ref p0), some v_41, some v_65, none, none, none, none, none, none, none]) (i := 3) (n_lst (R := (pT (tc pI (t1 pI)))) al_nil (by decide)) s_69 (fun _ _ h => h.elim) hm fun rows_77 p_78 vs_79 I_80 C_81 H_82 e_83 hp_84 s_85 hc_86 k_87 hl_88 hr_89 hm => ?_
    have ne_90 := ne_new hc_73 hp_84
    have hB_91 := Ex.free fr_76 hp_84
    have hc_92 := (k_87 _ ne_90).trans hc_73
    have fr_93 := fr_keep fr_76 hB_91 k_87
    refine s_forN (E := E) (K := K) (σ := [some (.ref p0), some v_41, some v_65, some (.ref p_78), none, none, none, none, none, none]) (fun (z_94 : ((List (Int × Int)) × Pl)) σ2 I_99 C_100 => ∃ w_96 : Option V, ∃ w_97 : Option V, ∃ w_98 : Option V, σ2 = [some (.ref p0), some v_41, some v_65, some (.ref p_78), w_96, w_97, w_98, none, none, none] ∧ (∃ vs_101 : List V, C_100 p_78 = some (.lst vs_101) ∧ vs_101.length ≤ sizeLine ∧ A2 (fun x u => Rp.r (pT (tc pI (t1 pI))) x u I_99 Z) z_94.1 vs_101) ∧ (∃ ws_105 : List V, C_100 p0 = some (.lst ws_105) ∧ Rt.r pM z_94.2 ws_105 I_99 Z) ∧ Ex (off C0 p0) C_100) (i_rng1 (a_one (x_var (i := 1) rfl (Rp.mono _ (e_68.trans e_83) exz r_42)))) s_85 (fun _ _ h => h.elim) hm (fun _ e_117 => ⟨none, none, none, rfl, ⟨_, hc_86, hl_88, a2up (Ex.trans (Ex.refl _) e_117) hr_89⟩, ⟨_, hc_92, Rt.mono _ (Ex.trans e_83 e_117) exz hx_75⟩, fr_93⟩) (fun _ _ _ _ _ => trivial) (fun _ _ _ _ _ e ⟨w_96, w_97, w_98, hs_95, ⟨vs_101, hc_102, hl_103, hr_104⟩, ⟨ws_105, hc_106, hx_107⟩, fr_108⟩ => ⟨w_96, w_97, w_98, hs_95, ⟨vs_101, hc_102, hl_103, a2up e hr_104⟩, ⟨ws_105, hc_106, Rt.mono _ e exz hx_107⟩, fr_108⟩) (fun N x_109 v_110 z_94 σ2 I_111 C_112 H_113 e_114 s_115 ⟨w_96, w_97, w_98, hs_95, ⟨vs_101, hc_102, hl_103, hr_104⟩, ⟨ws_105, hc_106, hx_107⟩, fr_108⟩ r_116 hm => ?_) (fun z_214 σ2 I_209 C_210 H_211 e_212 s_213 ⟨w_216, w_217, w_218, hs_215, ⟨vs_221, hc_222, hl_223, hr_224⟩, ⟨ws_225, hc_226, hx_227⟩, fr_228⟩ hm => ?_)
    · subst hs_95
      refine g1 (K := K) x_109 v_110 I_111 C_112 H_113 _ s_115 r_116 fun σ2 ⟨v_118, hs_120, r_119⟩ => ?_
      subst hs_120
      refine qm_asg (E := E) (K := K) (σ := [some (.ref p0), some v_41, some v_65, some (.ref p_78), some v_118, w_97, w_98, none, none, none]) (i := 5) (m_callM (i := 0) rfl (am_pure (a_one (x_op o_add (x_var (i := 2) rfl (Rp.mono _ (e_83.trans e_114) exz r_70)) (x_int (i := 1)))))) s_115 hc_106 (Rt.mono _ (Ex.refl _) exz hx_107) hm fun yes_121 v_122 ws_128 I_123 C_129 H_124 e_125 s_126 hc_130 k_131 hx_132 r_127 hm => ?_
      have hc_133 := (k_131 _ (Ne.symm ne_90)).trans hc_102
      have fr_134 := fr_pool fr_108 k_131
      refine qm_asg (E := E) (K := K) (σ := [some (.ref p0), some v_41, some v_65, some (.ref p_78), some v_118, some v_122, w_98, none, none, none]) (i := 6) (m_callM (i := 0) rfl (am_pure (a_one (x_op o_add (x_var (i := 2) rfl (Rp.mono _ (e_83.trans (e_114.trans e_125)) exz r_70)) (x_int (i := 1)))))) s_126 hc_130 (Rt.mono _ (Ex.refl _) exz hx_132) hm fun no_135 v_136 ws_142 I_137 C_143 H_138 e_139 s_140 hc_144 k_145 hx_146 r_141 hm => ?_
      have hc_147 := (k_145 _ (Ne.symm ne_90)).trans hc_133
      have fr_148 := fr_pool fr_134 k_145
      refine s_ifj (E := E) (K := K) (σ := [some (.ref p0), some v_41, some v_65, some (.ref p_78), some v_118, some v_122, some v_136, none, none, none]) (fun (z_157 : (Pl × Int × Int)) σ2 I_159 C_160 => ∃ v_164 : V, ∃ v_166 : V, σ2 = [some (.ref p0), some v_41, some v_65, some (.ref p_78), some v_118, some v_164, some v_166, none, none, none] ∧ (∃ ws_161 : List V, C_160 p0 = some (.lst ws_161) ∧ Rt.r pM z_157.1 ws_161 I_159 Z) ∧ Rp.r pI z_157.2.1 v_164 I_159 Z ∧ Rp.r pI z_157.2.2 v_166 I_159 Z ∧ C_160 p_78 = some (.lst vs_101) ∧ Ex (off C0 p0) C_160) (t_test (x_op o_eqI (x_op o_add (x_var (i := 5) rfl (Rp.mono _ e_139 exz r_127)) (x_var (i := 6) rfl (Rp.mono _ (Ex.refl _) exz r_141))) (x_int (i := 0)))) s_140 (fun _ _ h => h.elim) hm (fun N I_149 H_150 e_151 s_152 hm => ?_) (fun N I_153 H_154 e_155 s_156 hm => ?_) (fun z_157 σ2 I_191 C_192 H_193 e_194 s_195 ⟨v_164, v_166, hs_158, ⟨ws_161, hc_162, hx_163⟩, r_165, r_167, hc_168, fr_169⟩ hm => ?_)
      · refine qm_asg (E := E) (K := K) (σ := [some (.ref p0), some v_41, some v_65, some (.ref p_78), some v_118, some v_122, some v_136, none, none, none]) (i := 5) (m_callM (i := 0) rfl (am_pure (a_one (x_int (i := 2))))) s_152 hc_144 (Rt.mono _ e_151 exz hx_146) hm fun yes_170 v_171 ws_177 I_172 C_178 H_173 e_174 s_175 hc_179 k_180 hx_181 r_176 hm => ?_
        have hc_182 := (k_180 _ (Ne.symm ne_90)).trans hc_147
        have fr_183 := fr_pool fr_148 k_180
        refine q_asg (E := E) (K := K) (σ := [some (.ref p0), some v_41, some v_65, some (.ref p_78), some v_118, some v_171, some v_136, none, none, none]) (i := 6) (x_op o_sub (x_int (i := 1)) (x_var (i := 5) rfl (Rp.mono _ (Ex.refl _) exz r_176))) s_175 (fun _ _ h => h.elim) hm fun no_184 v_185 I_186 H_187 e_188 s_189 r_190 hm => ?_
        exact hm _ _ _ _ (e_151.trans (e_174.trans e_188)) s_189 ⟨v_171, v_185, rfl, ⟨_, hc_179, Rt.mono _ e_188 exz hx_181⟩, Rp.mono _ e_188 exz r_176, Rp.mono _ (Ex.refl _) exz r_190, hc_182, fr_183⟩
      · exact hm _ _ _ _ e_155 s_156 ⟨v_122, v_136, rfl, ⟨_, hc_144, Rt.mono _ e_155 exz hx_146⟩, Rp.mono _ (e_139.trans e_155) exz r_127, Rp.mono _ e_155 exz r_141, hc_147, fr_148⟩
      subst hs_158
      refine q_app (E := E) (K := K) (σ := [some (.ref p0), some v_41, some v_65, some (.ref p_78), some v_118, some v_164, some v_166, none, none, none]) (i := 3) rfl hc_168 (a2up (e_125.trans (e_139.trans e_194)) hr_104) (x_tup (a_cons (x_var (i := 5) rfl (Rp.mono _ (Ex.refl _) exz r_165)) (a_one (x_var (i := 6) rfl (Rp.mono _ (Ex.refl _) exz r_167)))) (Nat.le_of_ble_eq_true rfl)) s_195 (fun _ _ h => h.elim) hm fun rows_196 vs_197 I_198 C_199 H_200 e_201 s_202 hc_203 k_204 hl_205 hr_206 hm => ?_
      have hc_207 := (k_204 _ ne_90).trans hc_162
      have fr_208 := fr_keep fr_169 hB_91 k_204
      exact hm _ _ _ _ (e_125.trans (e_139.trans (e_194.trans e_201))) s_202 ⟨some v_118, some v_164, some v_166, rfl, ⟨_, hc_203, hl_205, a2up (Ex.refl _) hr_206⟩, ⟨_, hc_207, Rt.mono _ e_201 exz hx_163⟩, fr_208⟩
    subst hs_215
    refine qm_asg (E := E) (K := K) (σ := [some (.ref p0), some v_41, some v_65, some (.ref p_78), w_216, w_217, w_218, none, none, none]) (i := 7) (m_callM (i := 0) rfl (am_pure (a_one (x_int (i := 4))))) s_213 hc_226 (Rt.mono _ (Ex.refl _) exz hx_227) hm fun turn_229 v_230 ws_236 I_231 C_237 H_232 e_233 s_234 hc_238 k_239 hx_240 r_235 hm => ?_
    have hc_241 := (k_239 _ (Ne.symm ne_90)).trans hc_222
    have fr_242 := fr_pool fr_228 k_239
    obtain ⟨I_243, C_244, e_245, s_246, h_247, k_248⟩ := freeze s_234 hc_241
    have r_250 := frz_list (e_233.trans e_245) h_247 hl_223 hr_224
    have hc_251 := (k_248 _ ne_90).trans hc_238
    have fr_252 := fr_keep fr_242 hB_91 k_248
    refine q_asg (E := E) (K := K) (σ := [some (.ref p0), some v_41, some v_65, some (.ref p_78), w_216, w_217, w_218, some v_230, none, none]) (i := 8) (x_own (n_cb n_sortP (a_one (x_v (x_lc (i_rng1 (a_one (x_var (i := 1) rfl (Rp.mono _ (e_68.trans (e_83.trans (e_212.trans (e_233.trans e_245)))) exz r_42)))) g1 (fun _ _ _ _ ⟨_, h, _⟩ => by rw [h]; rfl) (fun x_253 σ2 I_254 C_255 e_256 c_257 ⟨v_258, h, r_259⟩ => by subst h; exact (x_tup (a_cons (x_op o_fdiv (x_op o_mul (x_k (k := ((0 : Nat) : Int)) (o_pj pj0) (x_op o_ix (x_v (x_var (i := 3) rfl (Rp.mono _ e_256 exz r_250))) (x_var (i := 4) rfl (Rp.mono _ (Ex.refl _) exz r_259)))) (x_int (i := 1000000))) (x_op o_add (x_k (k := ((0 : Nat) : Int)) (o_pj pj0) (x_op o_ix (x_v (x_var (i := 3) rfl (Rp.mono _ e_256 exz r_250))) (x_var (i := 4) rfl (Rp.mono _ (Ex.refl _) exz r_259)))) (x_k (k := ((1 : Nat) : Int)) (o_pj (pjs pj1)) (x_op o_ix (x_v (x_var (i := 3) rfl (Rp.mono _ e_256 exz r_250))) (x_var (i := 4) rfl (Rp.mono _ (Ex.refl _) exz r_259)))))) (a_one (x_var (i := 4) rfl (Rp.mono _ (Ex.refl _) exz r_259)))) (Nat.le_of_ble_eq_true rfl))) (fun _ _ _ _ _ e ⟨v_258, h, r_259⟩ => ⟨v_258, h, Rp.mono _ e exz r_259⟩)))))) s_246 (fun _ _ h => h.elim) hm fun order_260 v_261 I_262 H_263 e_264 s_265 r_266 hm => ?_
    refine s_if (E := E) (K := K) (σ := [some (.ref p0), some v_41, some v_65, some (.ref p_78), w_216, w_217, w_218, some v_230, some v_261, none]) (t_test (x_op o_eqI (x_var (i := 7) rfl (Rp.mono _ (e_245.trans e_264) exz r_235)) (x_int (i := 2)))) s_265 (fun _ _ h => h.elim) hm (fun I_267 H_268 e_269 s_270 hm => ?_) (fun I_271 H_272 e_273 s_274 hm => ?_)
    · refine q_ret (tz := tNext) (E := E) (K := K) (σ := [some (.ref p0), some v_41, some v_65, some (.ref p_78), w_216, w_217, w_218, some v_230, some v_261, none]) (x_lc (i_list (x_var (i := 8) rfl (Rp.mono _ e_269 exz r_266))) g1 (fun _ _ _ _ ⟨_, h, _⟩ => by rw [h]; rfl) (fun x_275 σ2 I_276 C_277 e_278 c_279 ⟨v_280, h, r_281⟩ => by subst h; exact (x_op o_ix (x_v (x_var (i := 3) rfl (Rp.mono _ (e_264.trans (e_269.trans e_278)) exz r_250))) (x_k (k := ((1 : Nat) : Int)) (o_pj (pjs pj1)) (x_var (i := 9) rfl (Rp.mono _ (Ex.refl _) exz r_281))))) (fun _ _ _ _ _ e ⟨v_280, h, r_281⟩ => ⟨v_280, h, Rp.mono _ e exz r_281⟩)) s_270 (fun _ _ h => h.elim) hm fun a_282 v_283 I_284 H_285 e_286 s_287 r_288 hm => ?_
      exact ret_pool hm (e_5.trans (e_62.trans (e_68.trans (e_83.trans (e_212.trans (e_233.trans (e_245.trans (e_264.trans (e_269.trans e_286))))))))) fr_252 s_287 hc_251 (Rt.mono _ (e_245.trans (e_264.trans (e_269.trans e_286))) exz hx_240) r_288
    · refine s_if (E := E) (K := K) (σ := [some (.ref p0), some v_41, some v_65, some (.ref p_78), w_216, w_217, w_218, some v_230, some v_261, none]) (t_test (x_op o_eqI (x_var (i := 7) rfl (Rp.mono _ (e_245.trans (e_264.trans e_273)) exz r_235)) (x_int (i := 3)))) s_274 (fun _ _ h => h.elim) hm (fun I_289 H_290 e_291 s_292 hm => ?_) (fun I_293 H_294 e_295 s_296 hm => ?_)
      · refine q_ret (tz := tNext) (E := E) (K := K) (σ := [some (.ref p0), some v_41, some v_65, some (.ref p_78), w_216, w_217, w_218, some v_230, some v_261, none]) (x_lc (i_list (x_rev (x_v (x_var (i := 8) rfl (Rp.mono _ (e_273.trans e_291) exz r_266))))) g1 (fun _ _ _ _ ⟨_, h, _⟩ => by rw [h]; rfl) (fun x_297 σ2 I_298 C_299 e_300 c_301 ⟨v_302, h, r_303⟩ => by subst h; exact (x_op o_ix (x_v (x_var (i := 3) rfl (Rp.mono _ (e_264.trans (e_273.trans (e_291.trans e_300))) exz r_250))) (x_k (k := ((1 : Nat) : Int)) (o_pj (pjs pj1)) (x_var (i := 9) rfl (Rp.mono _ (Ex.refl _) exz r_303))))) (fun _ _ _ _ _ e ⟨v_302, h, r_303⟩ => ⟨v_302, h, Rp.mono _ e exz r_303⟩)) s_292 (fun _ _ h => h.elim) hm fun a_304 v_305 I_306 H_307 e_308 s_309 r_310 hm => ?_
        exact ret_pool hm (e_5.trans (e_62.trans (e_68.trans (e_83.trans (e_212.trans (e_233.trans (e_245.trans (e_264.trans (e_273.trans (e_291.trans e_308)))))))))) fr_252 s_309 hc_251 (Rt.mono _ (e_245.trans (e_264.trans (e_273.trans (e_291.trans e_308)))) exz hx_240) r_310
      · refine q_ret (tz := tNext) (E := E) (K := K) (σ := [some (.ref p0), some v_41, some v_65, some (.ref p_78), w_216, w_217, w_218, some v_230, some v_261, none]) (x_var (i := 3) rfl (Rp.mono _ (e_264.trans (e_273.trans e_295)) exz r_250)) s_296 (fun _ _ h => h.elim) hm fun a_311 v_312 I_313 H_314 e_315 s_316 r_317 hm => ?_
        exact ret_pool hm (e_5.trans (e_62.trans (e_68.trans (e_83.trans (e_212.trans (e_233.trans (e_245.trans (e_264.trans (e_273.trans (e_295.trans e_315)))))))))) fr_252 s_316 hc_251 (Rt.mono _ (e_245.trans (e_264.trans (e_273.trans (e_295.trans e_315)))) exz hx_240) r_317
def m__law_share (ar_rows : (List (Int × Int))) (ar_start : Int) (ar_end : Int) : Res (Int × Int) :=
  ((un sumR ((slR (Res.ok ar_rows) (someR (Res.ok ar_start)) (someR (Res.ok ar_end))).bind (mapR (fun (x_1 : (Int × Int)) => (un (fun p => Res.ok p.1) (Res.ok x_1)))))).bind fun (yes_8 : Int) => ((pair (Res.ok yes_8) (bin rAdd (Res.ok yes_8) (un sumR ((slR (Res.ok ar_rows) (someR (Res.ok ar_start)) (someR (Res.ok ar_end))).bind (mapR (fun (x_15 : (Int × Int)) => (un (fun p => Res.ok p.2) (Res.ok x_15)))))))).bind fun a_22 => Res.ok a_22))
abbrev N__law_share : List Str := ["rows", "start", "end", "yes", "pair"]
theorem sc__law_share : FnScope N__law_share ["rows", "start", "end"] (defScope s__law_share) := ⟨rfl, rfl, rfl, by decide +kernel, rfl, by decide +kernel, by decide +kernel⟩
theorem bind__law_share {K : PySem.W.Frag} {mg : Str → Option Value} {T : Tx K mg} : Binds K T.d__law_share ["rows", "start", "end"] [] := FunD.bindsN T.F__law_share fun _ _ _ _ _ _ us hl => match us, hl with | [_, _, _], _ => rfl
abbrev sp__law_share (K : PySem.W.Frag) : Sp := spP K (tc (pL (pT (tc pI (t1 pI)))) (tc pI (t1 pI))) (fun (p : ((List (Int × Int)) × Int × Int)) => m__law_share p.1 p.2.1 p.2.2) (pT (tc pI (t1 pI)))
theorem ok__law_share (T : Tx K mg) : FnOk P w K mg base (L2.CX P w) 1 T.f__law_share T.d__law_share ["rows", "start", "end"] (sp__law_share K) := by
  refine T.F__law_share.ok sc__law_share (fun vs H Q E h => ?_) (fun cdv A outer s H vs Q E hr h => ?_)
  · obtain ⟨I, C, a, _, hr, _⟩ := h
    exact Rt.len _ hr
  · obtain ⟨I0, C0, ⟨ar_rows, ar_start, ar_end⟩, hs, ⟨v_rows, us0, rfl, r_rows, v_start, us1, rfl, r_start, v_end, rfl, r_end⟩, hm⟩ := h
    have hm : Post (m__law_share ar_rows ar_start ar_end) (PQ (pT (tc pI (t1 pI))) I0 C0 Q) (PX E K I0 C0) := hm
    replace r_rows : Rp.r (pL (pT (tc pI (t1 pI)))) ar_rows v_rows I0 Z := Im.im r_rows
    replace r_start : Rp.r pI ar_start v_start I0 Z := Im.im r_start
    replace r_end : Rp.r pI ar_end v_end I0 Z := Im.im r_end
    unfold m__law_share at hm
    refine ⟨_, (pss_cons (ps_set (i := 3) sc__law_share.nd rfl (Or.inl rfl) (pe_callB (r := rSum K) (cr_sum rfl) (by rfl) T.gb_sum bt_sum (pa_cons (pe_lc (own := [("pair", 4)]) rfl sc__law_share.nd (show PI _ _ _ (iList K _) from pi_list (pe_slice (r := rSlL K) sl_list (pv 0) (po_some (pv 1)) (po_some (pv 2)))) (blkOk_by (own := [("pair", 4)]) (N := N__law_share) (sc := defScope s__law_share) (by decide +kernel)) (fun _ _ _ _ _ => (pg_name (i := 4) sc__law_share.nd rfl (Or.inl rfl))) (fun _ _ _ _ _ => pts_nil) (fun _ _ _ _ _ => (pe_ix (r := rIxT K) ix_tup (pv 4) pe_int (fun _ _ => rfl)))) pa_nil))) (pss_cons (ps_ret (pe_tup (pa_cons (pv 3) (pa_cons (pe_op op_add (pv 3) (pe_callB (r := rSum K) (cr_sum rfl) (by rfl) T.gb_sum bt_sum (pa_cons (pe_lc (own := [("pair", 4)]) rfl sc__law_share.nd (show PI _ _ _ (iList K _) from pi_list (pe_slice (r := rSlL K) sl_list (pv 0) (po_some (pv 1)) (po_some (pv 2)))) (blkOk_by (own := [("pair", 4)]) (N := N__law_share) (sc := defScope s__law_share) (by decide +kernel)) (fun _ _ _ _ _ => (pg_name (i := 4) sc__law_share.nd rfl (Or.inl rfl))) (fun _ _ _ _ _ => pts_nil) (fun _ _ _ _ _ => (pe_ix (r := rIxT K) ix_tup (pv 4) pe_int (fun _ _ => rfl)))) pa_nil))) pa_nil)))) pss_nil)), ?_⟩
    refine q_asg (E := E) (K := K) (σ := [some v_rows, some v_start, some v_end, none, none]) (i := 3) (x_cb o_sum (a_one (x_v (x_lc (i_list (x_sl (x_v (x_var (i := 0) rfl (Rp.mono _ (Ex.refl _) exz r_rows))) (p_some (x_var (i := 1) rfl (Rp.mono _ (Ex.refl _) exz r_start))) (p_some (x_var (i := 2) rfl (Rp.mono _ (Ex.refl _) exz r_end))))) g1 (fun _ _ _ _ ⟨_, h, _⟩ => by rw [h]; rfl) (fun x_1 σ2 I_2 C_3 e_4 c_5 ⟨v_6, h, r_7⟩ => by subst h; exact (x_k (k := ((0 : Nat) : Int)) (o_pj pj0) (x_var (i := 4) rfl (Rp.mono _ (Ex.refl _) exz r_7)))) (fun _ _ _ _ _ e ⟨v_6, h, r_7⟩ => ⟨v_6, h, Rp.mono _ e exz r_7⟩))))) hs (fun _ _ h => PX.mono (Ex.refl _) (Ex.refl _) h) hm fun yes_8 v_9 I_10 H_11 e_12 s_13 r_14 hm => ?_
    refine q_ret (tz := tNext) (E := E) (K := K) (σ := [some v_rows, some v_start, some v_end, some v_9, none]) (x_tup (a_cons (x_var (i := 3) rfl (Rp.mono _ (Ex.refl _) exz r_14)) (a_one (x_op o_add (x_var (i := 3) rfl (Rp.mono _ (Ex.refl _) exz r_14)) (x_cb o_sum (a_one (x_v (x_lc (i_list (x_sl (x_v (x_var (i := 0) rfl (Rp.mono _ e_12 exz r_rows))) (p_some (x_var (i := 1) rfl (Rp.mono _ e_12 exz r_start))) (p_some (x_var (i := 2) rfl (Rp.mono _ e_12 exz r_end))))) g1 (fun _ _ _ _ ⟨_, h, _⟩ => by rw [h]; rfl) (fun x_15 σ2 I_16 C_17 e_18 c_19 ⟨v_20, h, r_21⟩ => by subst h; exact (x_k (k := ((1 : Nat) : Int)) (o_pj (pjs pj1)) (x_var (i := 4) rfl (Rp.mono _ (Ex.refl _) exz r_21)))) (fun _ _ _ _ _ e ⟨v_20, h, r_21⟩ => ⟨v_20, h, Rp.mono _ e exz r_21⟩)))))))) (Nat.le_of_ble_eq_true rfl)) s_13 (fun _ _ h => PX.mono e_12 (Ex.refl _) h) hm fun a_22 v_23 I_24 H_25 e_26 s_27 r_28 hm => ?_
    exact hm v_23 I_24 H_25 (e_12.trans e_26) (St.less s_27 (Ex.refl _)) (Im.im r_28)
def m__law_less (ar_one : (Int × Int)) (ar_two : (Int × Int)) : Res Bool :=
  ((bin rLt (bin rMulW (un (fun p => Res.ok p.1) (Res.ok ar_one)) (un (fun p => Res.ok p.2) (Res.ok ar_two))) (bin rMulW (un (fun p => Res.ok p.1) (Res.ok ar_two)) (un (fun p => Res.ok p.2) (Res.ok ar_one)))).bind fun a_1 => Res.ok a_1)
abbrev N__law_less : List Str := ["one", "two"]
theorem sc__law_less : FnScope N__law_less ["one", "two"] (defScope s__law_less) := ⟨rfl, rfl, rfl, by decide +kernel, rfl, by decide +kernel, by decide +kernel⟩
theorem bind__law_less {K : PySem.W.Frag} {mg : Str → Option Value} {T : Tx K mg} : Binds K T.d__law_less ["one", "two"] [] := FunD.bindsN T.F__law_less fun _ _ _ _ _ _ us hl => match us, hl with | [_, _], _ => rfl
abbrev sp__law_less (K : PySem.W.Frag) : Sp := spP K (tc (pT (tc pI (t1 pI))) (t1 (pT (tc pI (t1 pI))))) (fun (p : ((Int × Int) × (Int × Int))) => m__law_less p.1 p.2) pB
theorem ok__law_less (T : Tx K mg) : FnOk P w K mg base (L2.CX P w) 1 T.f__law_less T.d__law_less ["one", "two"] (sp__law_less K) := by
  refine T.F__law_less.ok sc__law_less (fun vs H Q E h => ?_) (fun cdv A outer s H vs Q E hr h => ?_)
  · obtain ⟨I, C, a, _, hr, _⟩ := h
    exact Rt.len _ hr
  · obtain ⟨I0, C0, ⟨ar_one, ar_two⟩, hs, ⟨v_one, us0, rfl, r_one, v_two, rfl, r_two⟩, hm⟩ := h
    have hm : Post (m__law_less ar_one ar_two) (PQ pB I0 C0 Q) (PX E K I0 C0) := hm
    replace r_one : Rp.r (pT (tc pI (t1 pI))) ar_one v_one I0 Z := Im.im r_one
    replace r_two : Rp.r (pT (tc pI (t1 pI))) ar_two v_two I0 Z := Im.im r_two
    unfold m__law_less at hm
    refine ⟨_, (pss_cons (ps_ret (pe_cmpR op_lt (pe_op op_mulW (pe_ix (r := rIxT K) ix_tup (pv 0) pe_int (fun _ _ => rfl)) (pe_ix (r := rIxT K) ix_tup (pv 1) pe_int (fun _ _ => rfl))) (pe_op op_mulW (pe_ix (r := rIxT K) ix_tup (pv 1) pe_int (fun _ _ => rfl)) (pe_ix (r := rIxT K) ix_tup (pv 0) pe_int (fun _ _ => rfl))) (nomark _))) pss_nil), ?_⟩
    refine q_ret (tz := tNext) (E := E) (K := K) (σ := [some v_one, some v_two]) (x_op o_lt (x_op o_mulW (x_k (k := ((0 : Nat) : Int)) (o_pj pj0) (x_var (i := 0) rfl (Rp.mono _ (Ex.refl _) exz r_one))) (x_k (k := ((1 : Nat) : Int)) (o_pj (pjs pj1)) (x_var (i := 1) rfl (Rp.mono _ (Ex.refl _) exz r_two)))) (x_op o_mulW (x_k (k := ((0 : Nat) : Int)) (o_pj pj0) (x_var (i := 1) rfl (Rp.mono _ (Ex.refl _) exz r_two))) (x_k (k := ((1 : Nat) : Int)) (o_pj (pjs pj1)) (x_var (i := 0) rfl (Rp.mono _ (Ex.refl _) exz r_one))))) hs (fun _ _ h => PX.mono (Ex.refl _) (Ex.refl _) h) hm fun a_1 v_2 I_3 H_4 e_5 s_6 r_7 hm => ?_
    exact hm v_2 I_3 H_4 e_5 (St.less s_6 (Ex.refl _)) (Im.im r_7)
def m__law_chance (ar_rows : (List (Int × Int))) (ar_k : Int) : Res (Int × Int) :=
  ((pair (un rNeg (Res.ok (1 : Int))) (Res.ok (1 : Int))).bind fun (best_1 : (Int × Int)) => (((un rng1 (bin rAdd (Res.ok ar_k) (Res.ok (1 : Int)))).bind fun xs => loopN (fun (x_19 : Int) (z_8 : (Int × Int)) => ((pair (Res.ok (2 : Int)) (Res.ok (1 : Int))).bind fun (least_31 : (Int × Int)) => (((un rng2 (pair (bin rAdd (Res.ok ar_k) (Res.ok (1 : Int))) (bin rAdd (un rLen (Res.ok ar_rows)) (Res.ok (1 : Int))))).bind fun xs => loopN (fun (x_47 : Int) (z_38 : (Int × Int)) => ((un (fun (p : ((List (Int × Int)) × Int × Int)) => m__law_share p.1 p.2.1 p.2.2) (pair (Res.ok ar_rows) (pair (Res.ok x_19) (Res.ok x_47)))).bind fun (share_59 : (Int × Int)) => (ifR (un (fun (p : ((Int × Int) × (Int × Int))) => m__law_less p.1 p.2) (pair (Res.ok share_59) (Res.ok z_38))) ((Res.ok share_59).bind fun (least_74 : (Int × Int)) => (Res.ok least_74)) (Res.ok z_38)))) xs least_31).bind fun (z_86 : (Int × Int)) => (ifR (un (fun (p : ((Int × Int) × (Int × Int))) => m__law_less p.1 p.2) (pair (Res.ok z_8) (Res.ok z_86))) ((Res.ok z_86).bind fun (best_103 : (Int × Int)) => (Res.ok best_103)) (Res.ok z_8))))) xs best_1).bind fun (z_115 : (Int × Int)) => ((Res.ok z_115).bind fun a_126 => Res.ok a_126)))
abbrev N__law_chance : List Str := ["rows", "k", "best", "start", "least", "end", "share"]
theorem sc__law_chance : FnScope N__law_chance ["rows", "k"] (defScope s__law_chance) := ⟨rfl, rfl, rfl, by decide +kernel, rfl, by decide +kernel, by decide +kernel⟩
theorem bind__law_chance {K : PySem.W.Frag} {mg : Str → Option Value} {T : Tx K mg} : Binds K T.d__law_chance ["rows", "k"] [] := FunD.bindsN T.F__law_chance fun _ _ _ _ _ _ us hl => match us, hl with | [_, _], _ => rfl
abbrev sp__law_chance (K : PySem.W.Frag) : Sp := spP K (tc (pL (pT (tc pI (t1 pI)))) (t1 pI)) (fun (p : ((List (Int × Int)) × Int)) => m__law_chance p.1 p.2) (pT (tc pI (t1 pI)))
theorem ok__law_chance (T : Tx K mg) : FnOk P w K mg base (L2.CX P w) 2 T.f__law_chance T.d__law_chance ["rows", "k"] (sp__law_chance K) := by
  refine T.F__law_chance.ok sc__law_chance (fun vs H Q E h => ?_) (fun cdv A outer s H vs Q E hr h => ?_)
  · obtain ⟨I, C, a, _, hr, _⟩ := h
    exact Rt.len _ hr
  · obtain ⟨I0, C0, ⟨ar_rows, ar_k⟩, hs, ⟨v_rows, us0, rfl, r_rows, v_k, rfl, r_k⟩, hm⟩ := h
    have hm : Post (m__law_chance ar_rows ar_k) (PQ (pT (tc pI (t1 pI))) I0 C0 Q) (PX E K I0 C0) := hm
    replace r_rows : Rp.r (pL (pT (tc pI (t1 pI)))) ar_rows v_rows I0 Z := Im.im r_rows
    replace r_k : Rp.r pI ar_k v_k I0 Z := Im.im r_k
    unfold m__law_chance at hm
    refine ⟨_, (pss_cons (ps_set (i := 2) sc__law_chance.nd rfl (Or.inl rfl) (pe_tup (pa_cons (pe_un un_neg pe_int) (pa_cons pe_int pa_nil)))) (pss_cons (ps_for (passes_of rfl) rfl (pi_range1 (by rfl) T.gb_range (pa_cons (pe_op op_add (pv 1) pe_int) pa_nil)) (pg_name (i := 3) sc__law_chance.nd rfl (Or.inl rfl)) (pss_cons (ps_set (i := 4) sc__law_chance.nd rfl (Or.inl rfl) (pe_tup (pa_cons pe_int (pa_cons pe_int pa_nil)))) (pss_cons (ps_for (passes_of rfl) rfl (pi_range2 (by rfl) T.gb_range (pa_cons (pe_op op_add (pv 1) pe_int) (pa_cons (pe_op op_add (pe_callB (r := rLen1 K) call_len_seq (by rfl) T.gb_len bt_len (pa_cons (pv 0) pa_nil)) pe_int) pa_nil))) (pg_name (i := 5) sc__law_chance.nd rfl (Or.inl rfl)) (pss_cons (ps_set (i := 6) sc__law_chance.nd rfl (Or.inl rfl) (pe_call (ok__law_share T) (hr.mono (by decide)) rfl T.g__law_share T.F__law_share.kp bind__law_share .nil passE (pa_cons (pv 0) (pa_cons (pv 3) (pa_cons (pv 5) pa_nil))))) (pss_cons (ps_if (pt_val (pe_call (ok__law_less T) (hr.mono (by decide)) rfl T.g__law_less T.F__law_less.kp bind__law_less .nil passE (pa_cons (pv 6) (pa_cons (pv 4) pa_nil)))) (pss_cons (ps_set (i := 4) sc__law_chance.nd rfl (Or.inl rfl) (pv 6)) pss_nil) pss_nil) pss_nil))) (pss_cons (ps_if (pt_val (pe_call (ok__law_less T) (hr.mono (by decide)) rfl T.g__law_less T.F__law_less.kp bind__law_less .nil passE (pa_cons (pv 2) (pa_cons (pv 4) pa_nil)))) (pss_cons (ps_set (i := 2) sc__law_chance.nd rfl (Or.inl rfl) (pv 4)) pss_nil) pss_nil) pss_nil)))) (pss_cons (ps_ret (pv 2)) pss_nil))), ?_⟩
    refine q_asg (E := E) (K := K) (σ := [some v_rows, some v_k, none, none, none, none, none]) (i := 2) (x_tup (a_cons (x_un o_neg (x_int (i := 1))) (a_one (x_int (i := 1)))) (Nat.le_of_ble_eq_true rfl)) hs (fun _ _ h => PX.mono (Ex.refl _) (Ex.refl _) h) hm fun best_1 v_2 I_3 H_4 e_5 s_6 r_7 hm => ?_
    refine s_forN (E := E) (K := K) (σ := [some v_rows, some v_k, some v_2, none, none, none, none]) (fun (z_8 : (Int × Int)) σ2 I_14 C_15 => ∃ w_10 : Option V, ∃ w_11 : Option V, ∃ w_12 : Option V, ∃ w_13 : Option V, ∃ v_16 : V, σ2 = [some v_rows, some v_k, some v_16, w_10, w_11, w_12, w_13] ∧ Rp.r (pT (tc pI (t1 pI))) z_8 v_16 I_14 Z ∧ Ex C0 C_15) (i_rng1 (a_one (x_op o_add (x_var (i := 1) rfl (Rp.mono _ e_5 exz r_k)) (x_int (i := 1))))) s_6 (fun _ _ h => PX.mono e_5 (Ex.refl _) h) hm (fun _ e_27 => ⟨none, none, none, none, v_2, rfl, Rp.mono _ (Ex.trans (Ex.refl _) e_27) exz r_7, (Ex.refl _)⟩) (fun _ _ _ _ _ => trivial) (fun _ _ _ _ _ e ⟨w_10, w_11, w_12, w_13, v_16, hs_9, r_17, fr_18⟩ => ⟨w_10, w_11, w_12, w_13, v_16, hs_9, Rp.mono _ e exz r_17, fr_18⟩) (fun N x_19 v_20 z_8 σ2 I_21 C_22 H_23 e_24 s_25 ⟨w_10, w_11, w_12, w_13, v_16, hs_9, r_17, fr_18⟩ r_26 hm => ?_) (fun z_115 σ2 I_110 C_111 H_112 e_113 s_114 ⟨w_117, w_118, w_119, w_120, v_123, hs_116, r_124, fr_125⟩ hm => ?_)
    · subst hs_9
      refine g1 (K := K) x_19 v_20 I_21 C_22 H_23 _ s_25 r_26 fun σ2 ⟨v_28, hs_30, r_29⟩ => ?_
      subst hs_30
      refine q_asg (E := E) (K := K) (σ := [some v_rows, some v_k, some v_16, some v_28, w_11, w_12, w_13]) (i := 4) (x_tup (a_cons (x_int (i := 2)) (a_one (x_int (i := 1)))) (Nat.le_of_ble_eq_true rfl)) s_25 (fun _ _ h => PX.mono (e_5.trans e_24) fr_18 h) hm fun least_31 v_32 I_33 H_34 e_35 s_36 r_37 hm => ?_
      refine s_forN (E := E) (K := K) (σ := [some v_rows, some v_k, some v_16, some v_28, some v_32, w_12, w_13]) (fun (z_38 : (Int × Int)) σ2 I_42 C_43 => ∃ w_40 : Option V, ∃ w_41 : Option V, ∃ v_44 : V, σ2 = [some v_rows, some v_k, some v_16, some v_28, some v_44, w_40, w_41] ∧ Rp.r (pT (tc pI (t1 pI))) z_38 v_44 I_42 Z ∧ Ex C0 C_43) (i_rng2 (a_cons (x_op o_add (x_var (i := 1) rfl (Rp.mono _ (e_5.trans (e_24.trans e_35)) exz r_k)) (x_int (i := 1))) (a_one (x_op o_add (x_cb o_len (a_one (x_v (x_var (i := 0) rfl (Rp.mono _ (e_5.trans (e_24.trans e_35)) exz r_rows))))) (x_int (i := 1)))))) s_36 (fun _ _ h => PX.mono (e_5.trans (e_24.trans e_35)) fr_18 h) hm (fun _ e_55 => ⟨w_12, w_13, v_32, rfl, Rp.mono _ (Ex.trans (Ex.refl _) e_55) exz r_37, fr_18⟩) (fun _ _ _ _ _ => trivial) (fun _ _ _ _ _ e ⟨w_40, w_41, v_44, hs_39, r_45, fr_46⟩ => ⟨w_40, w_41, v_44, hs_39, Rp.mono _ e exz r_45, fr_46⟩) (fun N x_47 v_48 z_38 σ2 I_49 C_50 H_51 e_52 s_53 ⟨w_40, w_41, v_44, hs_39, r_45, fr_46⟩ r_54 hm => ?_) (fun z_86 σ2 I_81 C_82 H_83 e_84 s_85 ⟨w_88, w_89, v_92, hs_87, r_93, fr_94⟩ hm => ?_)
      · subst hs_39
        refine g1 (K := K) x_47 v_48 I_49 C_50 H_51 _ s_53 r_54 fun σ2 ⟨v_56, hs_58, r_57⟩ => ?_
        subst hs_58
        refine q_asg (E := E) (K := K) (σ := [some v_rows, some v_k, some v_16, some v_28, some v_44, some v_56, w_41]) (i := 6) (x_call (a_cons (x_var (i := 0) rfl (Rp.mono _ (e_5.trans (e_24.trans (e_35.trans e_52))) exz r_rows)) (a_cons (x_var (i := 3) rfl (Rp.mono _ (e_35.trans e_52) exz r_29)) (a_one (x_var (i := 5) rfl (Rp.mono _ (Ex.refl _) exz r_57)))))) s_53 (fun _ _ h => PX.mono (e_5.trans (e_24.trans (e_35.trans e_52))) fr_46 h) hm fun share_59 v_60 I_61 H_62 e_63 s_64 r_65 hm => ?_
        refine s_if (E := E) (K := K) (σ := [some v_rows, some v_k, some v_16, some v_28, some v_44, some v_56, some v_60]) (t_B (x_call (a_cons (x_var (i := 6) rfl (Rp.mono _ (Ex.refl _) exz r_65)) (a_one (x_var (i := 4) rfl (Rp.mono _ e_63 exz r_45)))))) s_64 (fun _ _ h => PX.mono (e_5.trans (e_24.trans (e_35.trans (e_52.trans e_63)))) fr_46 h) hm (fun I_66 H_67 e_68 s_69 hm => ?_) (fun I_70 H_71 e_72 s_73 hm => ?_)
        · refine q_asg (E := E) (K := K) (σ := [some v_rows, some v_k, some v_16, some v_28, some v_44, some v_56, some v_60]) (i := 4) (x_var (i := 6) rfl (Rp.mono _ e_68 exz r_65)) s_69 (fun _ _ h => PX.mono (e_5.trans (e_24.trans (e_35.trans (e_52.trans (e_63.trans e_68))))) fr_46 h) hm fun least_74 v_75 I_76 H_77 e_78 s_79 r_80 hm => ?_
          exact hm _ _ _ _ (e_63.trans (e_68.trans e_78)) s_79 ⟨some v_56, some v_60, v_75, rfl, Rp.mono _ (Ex.refl _) exz r_80, fr_46⟩
        · exact hm _ _ _ _ (e_63.trans e_72) s_73 ⟨some v_56, some v_60, v_44, rfl, Rp.mono _ (e_63.trans e_72) exz r_45, fr_46⟩
      subst hs_87
      refine s_if (E := E) (K := K) (σ := [some v_rows, some v_k, some v_16, some v_28, some v_92, w_88, w_89]) (t_B (x_call (a_cons (x_var (i := 2) rfl (Rp.mono _ (e_35.trans e_84) exz r_17)) (a_one (x_var (i := 4) rfl (Rp.mono _ (Ex.refl _) exz r_93)))))) s_85 (fun _ _ h => PX.mono (e_5.trans (e_24.trans (e_35.trans e_84))) fr_94 h) hm (fun I_95 H_96 e_97 s_98 hm => ?_) (fun I_99 H_100 e_101 s_102 hm => ?_)
      · refine q_asg (E := E) (K := K) (σ := [some v_rows, some v_k, some v_16, some v_28, some v_92, w_88, w_89]) (i := 2) (x_var (i := 4) rfl (Rp.mono _ e_97 exz r_93)) s_98 (fun _ _ h => PX.mono (e_5.trans (e_24.trans (e_35.trans (e_84.trans e_97)))) fr_94 h) hm fun best_103 v_104 I_105 H_106 e_107 s_108 r_109 hm => ?_
        exact hm _ _ _ _ (e_35.trans (e_84.trans (e_97.trans e_107))) s_108 ⟨some v_28, some v_92, w_88, w_89, v_104, rfl, Rp.mono _ (Ex.refl _) exz r_109, fr_94⟩
      · exact hm _ _ _ _ (e_35.trans (e_84.trans e_101)) s_102 ⟨some v_28, some v_92, w_88, w_89, v_16, rfl, Rp.mono _ (e_35.trans (e_84.trans e_101)) exz r_17, fr_94⟩
    subst hs_116
    refine q_ret (tz := tNext) (E := E) (K := K) (σ := [some v_rows, some v_k, some v_123, w_117, w_118, w_119, w_120]) (x_var (i := 2) rfl (Rp.mono _ (Ex.refl _) exz r_124)) s_114 (fun _ _ h => PX.mono (e_5.trans e_113) fr_125 h) hm fun a_126 v_127 I_128 H_129 e_130 s_131 r_132 hm => ?_
    exact hm v_127 I_128 H_129 (e_5.trans (e_113.trans e_130)) (St.less s_131 fr_125) (Im.im r_132)
def m__law_is_int (ar_value : Int) : Res Bool :=
  ((andR (un (fun _ => Res.ok true) (pair (Res.ok ar_value) (Res.ok ()))) (un notR (un (fun _ => Res.ok false) (pair (Res.ok ar_value) (Res.ok ()))))).bind fun a_1 => Res.ok a_1)
abbrev N__law_is_int : List Str := ["value"]
theorem sc__law_is_int : FnScope N__law_is_int ["value"] (defScope s__law_is_int) := ⟨rfl, rfl, rfl, by decide +kernel, rfl, by decide +kernel, by decide +kernel⟩
theorem bind__law_is_int {K : PySem.W.Frag} {mg : Str → Option Value} {T : Tx K mg} : Binds K T.d__law_is_int ["value"] [] := FunD.bindsN T.F__law_is_int fun _ _ _ _ _ _ us hl => match us, hl with | [_], _ => rfl
abbrev sp__law_is_int (K : PySem.W.Frag) : Sp := spP K (t1 pI) m__law_is_int pB
theorem ok__law_is_int (T : Tx K mg) : FnOk P w K mg base (L2.CX P w) 1 T.f__law_is_int T.d__law_is_int ["value"] (sp__law_is_int K) := by
  refine T.F__law_is_int.ok sc__law_is_int (fun vs H Q E h => ?_) (fun cdv A outer s H vs Q E hr h => ?_)
  · obtain ⟨I, C, a, _, hr, _⟩ := h
    exact Rt.len _ hr
  · obtain ⟨I0, C0, ar_value, hs, ⟨v_value, rfl, r_value⟩, hm⟩ := h
    have hm : Post (m__law_is_int ar_value) (PQ pB I0 C0 Q) (PX E K I0 C0) := hm
    replace r_value : Rp.r pI ar_value v_value I0 Z := Im.im r_value
    unfold m__law_is_int at hm
    refine ⟨_, (pss_cons (ps_ret (pe_and (pe_callB (r := rIsi K) call_isi (by rfl) T.gb_isinstance bt_isinstance (pa_cons (pv 0) (pa_cons (pe_bltn (v := .ty "int") rfl T.gb_int bt_int rfl) pa_nil))) (pe_one (pe_not (pe_callB (r := rIsi K) call_isi (by rfl) T.gb_isinstance bt_isinstance (pa_cons (pv 0) (pa_cons (pe_bltn (v := .ty "bool") rfl T.gb_bool bt_bool rfl) pa_nil))))))) pss_nil), ?_⟩
    refine q_ret (tz := tNext) (E := E) (K := K) (σ := [some v_value]) (x_andV (x_cb (o_isi (n := "int") (by decide +kernel)) (a_cons (x_var (i := 0) rfl (Rp.mono _ (Ex.refl _) exz r_value)) (a_one (x_c (R := pY "int") (a := ()) fun _ _ => rfl)))) (x_notV (x_cb (o_isi (n := "int") (by decide +kernel)) (a_cons (x_var (i := 0) rfl (Rp.mono _ (Ex.refl _) exz r_value)) (a_one (x_c (R := pY "bool") (a := ()) fun _ _ => rfl)))))) hs (fun _ _ h => PX.mono (Ex.refl _) (Ex.refl _) h) hm fun a_1 v_2 I_3 H_4 e_5 s_6 r_7 hm => ?_
    exact hm v_2 I_3 H_4 e_5 (St.less s_6 (Ex.refl _)) (Im.im r_7)
def m__law_gcd (ar_one : Int) (ar_two : Int) : Res Int :=
  (((un rng1 (Res.ok (2000 : Int))).bind fun xs => loopR (fun (x_12 : Int) (z_1 : (Int × Int)) => (ifR (bin eqR (Res.ok z_1.2) (Res.ok (0 : Int))) ((Res.ok z_1.1).bind fun a_32 => Res.ok (Out.rt a_32)) ((bin rModN (un idR (Res.ok z_1.1)) (Res.ok z_1.2)).bind fun (rest_39 : Int) => ((Res.ok z_1.2).bind fun (one_46 : Int) => ((Res.ok rest_39).bind fun (two_53 : Int) => (Res.ok (Out.nx (one_46, two_53)))))))) xs (ar_one, ar_two)).bind fun (o : Out (Int × Int) Int) => match o with | .nx z_65 => ((Res.ok (0 : Int)).bind fun a_76 => Res.ok a_76) | .br _ => Res.bad | .rt r => Res.ok r)
abbrev N__law_gcd : List Str := ["one", "two", "turn", "rest"]
theorem sc__law_gcd : FnScope N__law_gcd ["one", "two"] (defScope s__law_gcd) := ⟨rfl, rfl, rfl, by decide +kernel, rfl, by decide +kernel, by decide +kernel⟩
theorem bind__law_gcd {K : PySem.W.Frag} {mg : Str → Option Value} {T : Tx K mg} : Binds K T.d__law_gcd ["one", "two"] [] := FunD.bindsN T.F__law_gcd fun _ _ _ _ _ _ us hl => match us, hl with | [_, _], _ => rfl
abbrev sp__law_gcd (K : PySem.W.Frag) : Sp := spP K (tc pI (t1 pI)) (fun (p : (Int × Int)) => m__law_gcd p.1 p.2) pI
theorem ok__law_gcd (T : Tx K mg) : FnOk P w K mg base (L2.CX P w) 1 T.f__law_gcd T.d__law_gcd ["one", "two"] (sp__law_gcd K) := by
  refine T.F__law_gcd.ok sc__law_gcd (fun vs H Q E h => ?_) (fun cdv A outer s H vs Q E hr h => ?_)
  · obtain ⟨I, C, a, _, hr, _⟩ := h
    exact Rt.len _ hr
  · obtain ⟨I0, C0, ⟨ar_one, ar_two⟩, hs, ⟨v_one, us0, rfl, r_one, v_two, rfl, r_two⟩, hm⟩ := h
    have hm : Post (m__law_gcd ar_one ar_two) (PQ pI I0 C0 Q) (PX E K I0 C0) := hm
    replace r_one : Rp.r pI ar_one v_one I0 Z := Im.im r_one
    replace r_two : Rp.r pI ar_two v_two I0 Z := Im.im r_two
    unfold m__law_gcd at hm
    refine ⟨_, (pss_cons (ps_for (passes_of rfl) rfl (pi_range1 (by rfl) T.gb_range (pa_cons pe_int pa_nil)) (pg_name (i := 2) sc__law_gcd.nd rfl (Or.inl rfl)) (pss_cons (ps_if (pt_cmpR op_eq (pv 1) pe_int (nomark _)) (pss_cons (ps_ret (pv 0)) pss_nil) pss_nil) (pss_cons (ps_set (i := 3) sc__law_gcd.nd rfl (Or.inl rfl) (pe_op op_modN (pe_callTy call_int1 (by rfl) T.gb_int bt_int (pa_cons (pv 0) pa_nil)) (pv 1))) (pss_cons (ps_set (i := 0) sc__law_gcd.nd rfl (Or.inl rfl) (pv 1)) (pss_cons (ps_set (i := 1) sc__law_gcd.nd rfl (Or.inl rfl) (pv 3)) pss_nil))))) (pss_cons (ps_ret pe_int) pss_nil)), ?_⟩
    refine s_forR (E := E) (K := K) (σ := [some v_one, some v_two, none, none]) (fun (z_1 : (Int × Int)) σ2 I_5 C_6 => ∃ w_3 : Option V, ∃ w_4 : Option V, ∃ v_7 : V, ∃ v_9 : V, σ2 = [some v_7, some v_9, w_3, w_4] ∧ Rp.r pI z_1.1 v_7 I_5 Z ∧ Rp.r pI z_1.2 v_9 I_5 Z ∧ Ex C0 C_6) (i_rng1 (a_one (x_int (i := 2000)))) hs (fun _ _ h => PX.mono (Ex.refl _) (Ex.refl _) h) hm (fun _ e_20 => ⟨none, none, v_one, v_two, rfl, Rp.mono _ (Ex.trans (Ex.refl _) e_20) exz r_one, Rp.mono _ (Ex.trans (Ex.refl _) e_20) exz r_two, (Ex.refl _)⟩) (fun _ _ _ _ _ => trivial) (fun _ _ _ _ _ e ⟨w_3, w_4, v_7, v_9, hs_2, r_8, r_10, fr_11⟩ => ⟨w_3, w_4, v_7, v_9, hs_2, Rp.mono _ e exz r_8, Rp.mono _ e exz r_10, fr_11⟩) (fun N x_12 v_13 z_1 σ2 I_14 C_15 H_16 e_17 s_18 ⟨w_3, w_4, v_7, v_9, hs_2, r_8, r_10, fr_11⟩ r_19 hm => ?_) (fun z_65 σ2 I_60 C_61 H_62 e_63 s_64 ⟨w_67, w_68, v_71, v_73, hs_66, r_72, r_74, fr_75⟩ hm => ?_)
    · subst hs_2
      refine g1 (K := K) x_12 v_13 I_14 C_15 H_16 _ s_18 r_19 fun σ2 ⟨v_21, hs_23, r_22⟩ => ?_
      subst hs_23
      refine s_if (E := E) (K := K) (σ := [some v_7, some v_9, some v_21, w_4]) (t_test (x_op o_eqI (x_var (i := 1) rfl (Rp.mono _ (Ex.refl _) exz r_10)) (x_int (i := 0)))) s_18 (fun _ _ h => PX.mono e_17 fr_11 h) hm (fun I_24 H_25 e_26 s_27 hm => ?_) (fun I_28 H_29 e_30 s_31 hm => ?_)
      · refine q_ret (tz := tNext) (E := E) (K := K) (σ := [some v_7, some v_9, some v_21, w_4]) (x_var (i := 0) rfl (Rp.mono _ e_26 exz r_8)) s_27 (fun _ _ h => PX.mono (e_17.trans e_26) fr_11 h) hm fun a_32 v_33 I_34 H_35 e_36 s_37 r_38 hm => ?_
        exact hm v_33 I_34 H_35 (e_17.trans (e_26.trans e_36)) (St.less s_37 fr_11) (Im.im r_38)
      · refine q_asg (E := E) (K := K) (σ := [some v_7, some v_9, some v_21, w_4]) (i := 3) (x_op o_modN (x_cb o_int (a_one (x_var (i := 0) rfl (Rp.mono _ e_30 exz r_8)))) (x_var (i := 1) rfl (Rp.mono _ e_30 exz r_10))) s_31 (fun _ _ h => PX.mono (e_17.trans e_30) fr_11 h) hm fun rest_39 v_40 I_41 H_42 e_43 s_44 r_45 hm => ?_
        refine q_asg (E := E) (K := K) (σ := [some v_7, some v_9, some v_21, some v_40]) (i := 0) (x_var (i := 1) rfl (Rp.mono _ (e_30.trans e_43) exz r_10)) s_44 (fun _ _ h => PX.mono (e_17.trans (e_30.trans e_43)) fr_11 h) hm fun one_46 v_47 I_48 H_49 e_50 s_51 r_52 hm => ?_
        refine q_asg (E := E) (K := K) (σ := [some v_47, some v_9, some v_21, some v_40]) (i := 1) (x_var (i := 3) rfl (Rp.mono _ e_50 exz r_45)) s_51 (fun _ _ h => PX.mono (e_17.trans (e_30.trans (e_43.trans e_50))) fr_11 h) hm fun two_53 v_54 I_55 H_56 e_57 s_58 r_59 hm => ?_
        exact hm _ _ _ _ (e_30.trans (e_43.trans (e_50.trans e_57))) s_58 ⟨some v_21, some v_40, v_47, v_54, rfl, Rp.mono _ e_57 exz r_52, Rp.mono _ (Ex.refl _) exz r_59, fr_11⟩
    subst hs_66
    refine q_ret (tz := tNext) (E := E) (K := K) (σ := [some v_71, some v_73, w_67, w_68]) (x_int (i := 0)) s_64 (fun _ _ h => PX.mono e_63 fr_75 h) hm fun a_76 v_77 I_78 H_79 e_80 s_81 r_82 hm => ?_
    exact hm v_77 I_78 H_79 (e_63.trans e_80) (St.less s_81 fr_75) (Im.im r_82)
def m__law_is_ratio (ar_told : (Int × Int)) (ar_due : (Int × Int)) : Res Bool :=
  (ifR (orR (un notR (un (fun _ => Res.ok true) (pair (Res.ok ar_told) (Res.ok ())))) (orR (bin neR (un (fun _ => Res.ok (2 : Int)) (Res.ok ar_told)) (Res.ok (2 : Int))) (orR (un notR (un m__law_is_int (un (fun p => Res.ok p.1) (Res.ok ar_told)))) (un notR (un m__law_is_int (un (fun p => Res.ok p.2) (Res.ok ar_told))))))) ((Res.ok false).bind fun a_9 => Res.ok a_9) (ifR (orR (bin rLt (un (fun p => Res.ok p.2) (Res.ok ar_told)) (Res.ok (1 : Int))) (bin neR (bin rMulW (un (fun p => Res.ok p.1) (Res.ok ar_told)) (un (fun p => Res.ok p.2) (Res.ok ar_due))) (bin rMulW (un (fun p => Res.ok p.1) (Res.ok ar_due)) (un (fun p => Res.ok p.2) (Res.ok ar_told))))) ((Res.ok false).bind fun a_24 => Res.ok a_24) ((bin inR (un (fun (p : (Int × Int)) => m__law_gcd p.1 p.2) (pair (un (fun p => Res.ok p.2) (Res.ok ar_told)) (un (fun p => Res.ok p.1) (Res.ok ar_told)))) (consR (Res.ok (1 : Int)) (consR (un rNeg (Res.ok (1 : Int))) (Res.ok [])))).bind fun a_31 => Res.ok a_31)))
abbrev N__law_is_ratio : List Str := ["told", "due"]
theorem sc__law_is_ratio : FnScope N__law_is_ratio ["told", "due"] (defScope s__law_is_ratio) := ⟨rfl, rfl, rfl, by decide +kernel, rfl, by decide +kernel, by decide +kernel⟩
theorem bind__law_is_ratio {K : PySem.W.Frag} {mg : Str → Option Value} {T : Tx K mg} : Binds K T.d__law_is_ratio ["told", "due"] [] := FunD.bindsN T.F__law_is_ratio fun _ _ _ _ _ _ us hl => match us, hl with | [_, _], _ => rfl
abbrev sp__law_is_ratio (K : PySem.W.Frag) : Sp := spP K (tc (pT (tc pI (t1 pI))) (t1 (pT (tc pI (t1 pI))))) (fun (p : ((Int × Int) × (Int × Int))) => m__law_is_ratio p.1 p.2) pB
theorem ok__law_is_ratio (T : Tx K mg) : FnOk P w K mg base (L2.CX P w) 2 T.f__law_is_ratio T.d__law_is_ratio ["told", "due"] (sp__law_is_ratio K) := by
  refine T.F__law_is_ratio.ok sc__law_is_ratio (fun vs H Q E h => ?_) (fun cdv A outer s H vs Q E hr h => ?_)
  · obtain ⟨I, C, a, _, hr, _⟩ := h
    exact Rt.len _ hr
  · obtain ⟨I0, C0, ⟨ar_told, ar_due⟩, hs, ⟨v_told, us0, rfl, r_told, v_due, rfl, r_due⟩, hm⟩ := h
    have hm : Post (m__law_is_ratio ar_told ar_due) (PQ pB I0 C0 Q) (PX E K I0 C0) := hm
    replace r_told : Rp.r (pT (tc pI (t1 pI))) ar_told v_told I0 Z := Im.im r_told
    replace r_due : Rp.r (pT (tc pI (t1 pI))) ar_due v_due I0 Z := Im.im r_due
    unfold m__law_is_ratio at hm
    refine ⟨_, (pss_cons (ps_if (PW.pt (pw_or (pt_not (pt_val (pe_callB (r := rIsi K) call_isi (by rfl) T.gb_isinstance bt_isinstance (pa_cons (pv 0) (pa_cons (pe_bltn (v := .ty "tuple") rfl T.gb_tuple bt_tuple rfl) pa_nil))))) (pw_or (pt_cmpR op_ne (pe_callB (r := rLen1 K) call_len_seq (by rfl) T.gb_len bt_len (pa_cons (pv 0) pa_nil)) pe_int (nomark _)) (pw_or (pt_not (pt_val (pe_call (ok__law_is_int T) (hr.mono (by decide)) rfl T.g__law_is_int T.F__law_is_int.kp bind__law_is_int .nil passE (pa_cons (pe_ix (r := rIxT K) ix_tup (pv 0) pe_int (fun _ _ => rfl)) pa_nil)))) (pw_or1 (pt_not (pt_val (pe_call (ok__law_is_int T) (hr.mono (by decide)) rfl T.g__law_is_int T.F__law_is_int.kp bind__law_is_int .nil passE (pa_cons (pe_ix (r := rIxT K) ix_tup (pv 0) pe_int (fun _ _ => rfl)) pa_nil))))))))) (pss_cons (ps_ret pe_bl) pss_nil) pss_nil) (pss_cons (ps_if (PW.pt (pw_or (pt_cmpR op_lt (pe_ix (r := rIxT K) ix_tup (pv 0) pe_int (fun _ _ => rfl)) pe_int (nomark _)) (pw_or1 (pt_cmpR op_ne (pe_op op_mulW (pe_ix (r := rIxT K) ix_tup (pv 0) pe_int (fun _ _ => rfl)) (pe_ix (r := rIxT K) ix_tup (pv 1) pe_int (fun _ _ => rfl))) (pe_op op_mulW (pe_ix (r := rIxT K) ix_tup (pv 1) pe_int (fun _ _ => rfl)) (pe_ix (r := rIxT K) ix_tup (pv 0) pe_int (fun _ _ => rfl))) (nomark _))))) (pss_cons (ps_ret pe_bl) pss_nil) pss_nil) (pss_cons (ps_ret (pe_cmpR (r := rIn K false) op_in_seq (pe_call (ok__law_gcd T) (hr.mono (by decide)) rfl T.g__law_gcd T.F__law_gcd.kp bind__law_gcd .nil passE (pa_cons (pe_ix (r := rIxT K) ix_tup (pv 0) pe_int (fun _ _ => rfl)) (pa_cons (pe_ix (r := rIxT K) ix_tup (pv 0) pe_int (fun _ _ => rfl)) pa_nil))) (pe_lst (pa_cons pe_int (pa_cons (pe_un un_neg pe_int) pa_nil))) rfl)) pss_nil))), ?_⟩
    refine s_if (E := E) (K := K) (σ := [some v_told, some v_due]) (t_or (t_not (t_B (x_cb (o_isi (n := "tuple") (by decide +kernel)) (a_cons (x_var (i := 0) rfl (Rp.mono _ (Ex.refl _) exz r_told)) (a_one (x_c (R := pY "tuple") (a := ()) fun _ _ => rfl)))))) (t_or (t_test (x_op o_neI (x_cb o_lenT (a_one (x_var (i := 0) rfl (Rp.mono _ (Ex.refl _) exz r_told)))) (x_int (i := 2)))) (t_or (t_not (t_B (x_call (a_one (x_k (k := ((0 : Nat) : Int)) (o_pj pj0) (x_var (i := 0) rfl (Rp.mono _ (Ex.refl _) exz r_told))))))) (t_not (t_B (x_call (a_one (x_k (k := ((1 : Nat) : Int)) (o_pj (pjs pj1)) (x_var (i := 0) rfl (Rp.mono _ (Ex.refl _) exz r_told)))))))))) hs (fun _ _ h => PX.mono (Ex.refl _) (Ex.refl _) h) hm (fun I_1 H_2 e_3 s_4 hm => ?_) (fun I_5 H_6 e_7 s_8 hm => ?_)
    · refine q_ret (tz := tNext) (E := E) (K := K) (σ := [some v_told, some v_due]) x_bl s_4 (fun _ _ h => PX.mono e_3 (Ex.refl _) h) hm fun a_9 v_10 I_11 H_12 e_13 s_14 r_15 hm => ?_
      exact hm v_10 I_11 H_12 (e_3.trans e_13) (St.less s_14 (Ex.refl _)) (Im.im r_15)
    · refine s_if (E := E) (K := K) (σ := [some v_told, some v_due]) (t_or (t_test (x_op o_lt (x_k (k := ((1 : Nat) : Int)) (o_pj (pjs pj1)) (x_var (i := 0) rfl (Rp.mono _ e_7 exz r_told))) (x_int (i := 1)))) (t_test (x_op o_neI (x_op o_mulW (x_k (k := ((0 : Nat) : Int)) (o_pj pj0) (x_var (i := 0) rfl (Rp.mono _ e_7 exz r_told))) (x_k (k := ((1 : Nat) : Int)) (o_pj (pjs pj1)) (x_var (i := 1) rfl (Rp.mono _ e_7 exz r_due)))) (x_op o_mulW (x_k (k := ((0 : Nat) : Int)) (o_pj pj0) (x_var (i := 1) rfl (Rp.mono _ e_7 exz r_due))) (x_k (k := ((1 : Nat) : Int)) (o_pj (pjs pj1)) (x_var (i := 0) rfl (Rp.mono _ e_7 exz r_told))))))) s_8 (fun _ _ h => PX.mono e_7 (Ex.refl _) h) hm (fun I_16 H_17 e_18 s_19 hm => ?_) (fun I_20 H_21 e_22 s_23 hm => ?_)
      · refine q_ret (tz := tNext) (E := E) (K := K) (σ := [some v_told, some v_due]) x_bl s_19 (fun _ _ h => PX.mono (e_7.trans e_18) (Ex.refl _) h) hm fun a_24 v_25 I_26 H_27 e_28 s_29 r_30 hm => ?_
        exact hm v_25 I_26 H_27 (e_7.trans (e_18.trans e_28)) (St.less s_29 (Ex.refl _)) (Im.im r_30)
      · refine q_ret (tz := tNext) (E := E) (K := K) (σ := [some v_told, some v_due]) (x_op (o_in fl_int) (x_call (a_cons (x_k (k := ((1 : Nat) : Int)) (o_pj (pjs pj1)) (x_var (i := 0) rfl (Rp.mono _ (e_7.trans e_22) exz r_told))) (a_one (x_k (k := ((0 : Nat) : Int)) (o_pj pj0) (x_var (i := 0) rfl (Rp.mono _ (e_7.trans e_22) exz r_told)))))) (x_v (x_lst (al_cons (x_int (i := 1)) (al_cons (x_un o_neg (x_int (i := 1))) al_nil)) (Nat.le_of_ble_eq_true rfl)))) s_23 (fun _ _ h => PX.mono (e_7.trans e_22) (Ex.refl _) h) hm fun a_31 v_32 I_33 H_34 e_35 s_36 r_37 hm => ?_
        exact hm v_32 I_33 H_34 (e_7.trans (e_22.trans e_35)) (St.less s_36 (Ex.refl _)) (Im.im r_37)
def m__law_lowest (ar_n : Int) (ar_d : Int) : Res (Int × Int) :=
  ((un (fun (p : (Int × Int)) => m__law_gcd p.1 p.2) (pair (Res.ok ar_d) (Res.ok ar_n))).bind fun (common_1 : Int) => ((ifR (bin rLt (Res.ok common_1) (Res.ok (0 : Int))) ((un rNeg (Res.ok common_1)).bind fun (common_23 : Int) => (Res.ok common_23)) (Res.ok common_1)).bind fun (z_16 : Int) => ((pair (bin rDiv (Res.ok ar_n) (Res.ok z_16)) (bin rDiv (Res.ok ar_d) (Res.ok z_16))).bind fun a_35 => Res.ok a_35)))
abbrev N__law_lowest : List Str := ["n", "d", "common"]
theorem sc__law_lowest : FnScope N__law_lowest ["n", "d"] (defScope s__law_lowest) := ⟨rfl, rfl, rfl, by decide +kernel, rfl, by decide +kernel, by decide +kernel⟩
theorem bind__law_lowest {K : PySem.W.Frag} {mg : Str → Option Value} {T : Tx K mg} : Binds K T.d__law_lowest ["n", "d"] [] := FunD.bindsN T.F__law_lowest fun _ _ _ _ _ _ us hl => match us, hl with | [_, _], _ => rfl
abbrev sp__law_lowest (K : PySem.W.Frag) : Sp := spP K (tc pI (t1 pI)) (fun (p : (Int × Int)) => m__law_lowest p.1 p.2) (pT (tc pI (t1 pI)))
theorem ok__law_lowest (T : Tx K mg) : FnOk P w K mg base (L2.CX P w) 2 T.f__law_lowest T.d__law_lowest ["n", "d"] (sp__law_lowest K) := by
  refine T.F__law_lowest.ok sc__law_lowest (fun vs H Q E h => ?_) (fun cdv A outer s H vs Q E hr h => ?_)
  · obtain ⟨I, C, a, _, hr, _⟩ := h
    exact Rt.len _ hr
  · obtain ⟨I0, C0, ⟨ar_n, ar_d⟩, hs, ⟨v_n, us0, rfl, r_n, v_d, rfl, r_d⟩, hm⟩ := h
    have hm : Post (m__law_lowest ar_n ar_d) (PQ (pT (tc pI (t1 pI))) I0 C0 Q) (PX E K I0 C0) := hm
    replace r_n : Rp.r pI ar_n v_n I0 Z := Im.im r_n
    replace r_d : Rp.r pI ar_d v_d I0 Z := Im.im r_d
    unfold m__law_lowest at hm
    refine ⟨_, (pss_cons (ps_set (i := 2) sc__law_lowest.nd rfl (Or.inl rfl) (pe_call (ok__law_gcd T) (hr.mono (by decide)) rfl T.g__law_gcd T.F__law_gcd.kp bind__law_gcd .nil passE (pa_cons (pv 1) (pa_cons (pv 0) pa_nil)))) (Evl.pss_cut (ps_if (pt_cmpR op_lt (pv 2) pe_int (nomark _)) (pss_cons (ps_set (i := 2) sc__law_lowest.nd rfl (Or.inl rfl) (pe_un un_neg (pv 2))) pss_nil) pss_nil) (pss_cons (ps_ret (pe_tup (pa_cons (pe_op op_fdiv (pv 0) (pv 2)) (pa_cons (pe_op op_fdiv (pv 1) (pv 2)) pa_nil)))) pss_nil))), ?_⟩
    refine q_asg (E := E) (K := K) (σ := [some v_n, some v_d, none]) (i := 2) (x_call (a_cons (x_var (i := 1) rfl (Rp.mono _ (Ex.refl _) exz r_d)) (a_one (x_var (i := 0) rfl (Rp.mono _ (Ex.refl _) exz r_n))))) hs (fun _ _ h => PX.mono (Ex.refl _) (Ex.refl _) h) hm fun common_1 v_2 I_3 H_4 e_5 s_6 r_7 hm => ?_
    refine s_ifj (E := E) (K := K) (σ := [some v_n, some v_d, some v_2]) (fun (z_16 : Int) σ2 I_18 C_19 => ∃ v_20 : V, σ2 = [some v_n, some v_d, some v_20] ∧ Rp.r pI z_16 v_20 I_18 Z ∧ Ex C0 C_19) (t_test (x_op o_lt (x_var (i := 2) rfl (Rp.mono _ (Ex.refl _) exz r_7)) (x_int (i := 0)))) s_6 (fun _ _ h => PX.mono e_5 (Ex.refl _) h) hm (fun N I_8 H_9 e_10 s_11 hm => ?_) (fun N I_12 H_13 e_14 s_15 hm => ?_) (fun z_16 σ2 I_30 C_31 H_32 e_33 s_34 ⟨v_20, hs_17, r_21, fr_22⟩ hm => ?_)
    · refine q_asg (E := E) (K := K) (σ := [some v_n, some v_d, some v_2]) (i := 2) (x_un o_neg (x_var (i := 2) rfl (Rp.mono _ e_10 exz r_7))) s_11 (fun _ _ h => PX.mono (e_5.trans e_10) (Ex.refl _) h) hm fun common_23 v_24 I_25 H_26 e_27 s_28 r_29 hm => ?_
      exact hm _ _ _ _ (e_10.trans e_27) s_28 ⟨v_24, rfl, Rp.mono _ (Ex.refl _) exz r_29, (Ex.refl _)⟩
    · exact hm _ _ _ _ e_14 s_15 ⟨v_2, rfl, Rp.mono _ e_14 exz r_7, (Ex.refl _)⟩
    subst hs_17
    refine q_ret (tz := tNext) (E := E) (K := K) (σ := [some v_n, some v_d, some v_20]) (x_tup (a_cons (x_op o_fdiv (x_var (i := 0) rfl (Rp.mono _ (e_5.trans e_33) exz r_n)) (x_var (i := 2) rfl (Rp.mono _ (Ex.refl _) exz r_21))) (a_one (x_op o_fdiv (x_var (i := 1) rfl (Rp.mono _ (e_5.trans e_33) exz r_d)) (x_var (i := 2) rfl (Rp.mono _ (Ex.refl _) exz r_21))))) (Nat.le_of_ble_eq_true rfl)) s_34 (fun _ _ h => PX.mono (e_5.trans e_33) fr_22 h) hm fun a_35 v_36 I_37 H_38 e_39 s_40 r_41 hm => ?_
    exact hm v_36 I_37 H_38 (e_5.trans (e_33.trans e_39)) (St.less s_40 fr_22) (Im.im r_41)
def m__law_loss (ar_rows : (List (Int × Int))) (ar_chances : (List (Int × Int))) : Res (Int × Int) :=
  ((Res.ok (0 : Int)).bind fun (top_1 : Int) => ((Res.ok (1 : Int)).bind fun (low_8 : Int) => (((un rng1 (un rLen (Res.ok ar_rows))).bind fun xs => loopN (fun (x_27 : Int) (z_15 : (Int × Int)) => ((un (fun p => Res.ok p.1) (bin ix (Res.ok ar_chances) (Res.ok x_27))).bind fun (n_39 : Int) => ((un (fun p => Res.ok p.2) (bin ix (Res.ok ar_chances) (Res.ok x_27))).bind fun (d_46 : Int) => ((bin rAdd (bin rMulW (bin rMulW (Res.ok z_15.1) (Res.ok d_46)) (Res.ok d_46)) (bin rMulW (bin rAdd (bin rMulW (bin rMulW (un (fun p => Res.ok p.1) (bin ix (Res.ok ar_rows) (Res.ok x_27))) (bin rSub (Res.ok d_46) (Res.ok n_39))) (bin rSub (Res.ok d_46) (Res.ok n_39))) (bin rMulW (bin rMulW (un (fun p => Res.ok p.2) (bin ix (Res.ok ar_rows) (Res.ok x_27))) (Res.ok n_39)) (Res.ok n_39))) (Res.ok z_15.2))).bind fun (top_53 : Int) => ((bin rMulW (bin rMulW (Res.ok z_15.2) (Res.ok d_46)) (Res.ok d_46)).bind fun (low_60 : Int) => (Res.ok (top_53, low_60))))))) xs (top_1, low_8)).bind fun (z_72 : (Int × Int)) => ((pair (Res.ok z_72.1) (bin rMulW (Res.ok z_72.2) (un sumR ((Res.ok ar_rows).bind (mapR (fun (x_84 : (Int × Int)) => (bin rAdd (un (fun p => Res.ok p.1) (Res.ok x_84)) (un (fun p => Res.ok p.2) (Res.ok x_84))))))))).bind fun a_91 => Res.ok a_91))))
abbrev N__law_loss : List Str := ["rows", "chances", "top", "low", "k", "n", "d", "pair"]
theorem sc__law_loss : FnScope N__law_loss ["rows", "chances"] (defScope s__law_loss) := ⟨rfl, rfl, rfl, by decide +kernel, rfl, by decide +kernel, by decide +kernel⟩
theorem bind__law_loss {K : PySem.W.Frag} {mg : Str → Option Value} {T : Tx K mg} : Binds K T.d__law_loss ["rows", "chances"] [] := FunD.bindsN T.F__law_loss fun _ _ _ _ _ _ us hl => match us, hl with | [_, _], _ => rfl
abbrev sp__law_loss (K : PySem.W.Frag) : Sp := spP K (tc (pL (pT (tc pI (t1 pI)))) (t1 (pL (pT (tc pI (t1 pI)))))) (fun (p : ((List (Int × Int)) × (List (Int × Int)))) => m__law_loss p.1 p.2) (pT (tc pI (t1 pI)))
theorem ok__law_loss (T : Tx K mg) : FnOk P w K mg base (L2.CX P w) 1 T.f__law_loss T.d__law_loss ["rows", "chances"] (sp__law_loss K) := by
  refine T.F__law_loss.ok sc__law_loss (fun vs H Q E h => ?_) (fun cdv A outer s H vs Q E hr h => ?_)
  · obtain ⟨I, C, a, _, hr, _⟩ := h
    exact Rt.len _ hr
  · obtain ⟨I0, C0, ⟨ar_rows, ar_chances⟩, hs, ⟨v_rows, us0, rfl, r_rows, v_chances, rfl, r_chances⟩, hm⟩ := h
    have hm : Post (m__law_loss ar_rows ar_chances) (PQ (pT (tc pI (t1 pI))) I0 C0 Q) (PX E K I0 C0) := hm
    replace r_rows : Rp.r (pL (pT (tc pI (t1 pI)))) ar_rows v_rows I0 Z := Im.im r_rows
    replace r_chances : Rp.r (pL (pT (tc pI (t1 pI)))) ar_chances v_chances I0 Z := Im.im r_chances
    unfold m__law_loss at hm
    refine ⟨_, (pss_cons (ps_set (i := 2) sc__law_loss.nd rfl (Or.inl rfl) pe_int) (pss_cons (ps_set (i := 3) sc__law_loss.nd rfl (Or.inl rfl) pe_int) (pss_cons (ps_for (passes_of rfl) rfl (pi_range1 (by rfl) T.gb_range (pa_cons (pe_callB (r := rLen1 K) call_len_seq (by rfl) T.gb_len bt_len (pa_cons (pv 0) pa_nil)) pa_nil)) (pg_name (i := 4) sc__law_loss.nd rfl (Or.inl rfl)) (pss_cons (ps_set (i := 5) sc__law_loss.nd rfl (Or.inl rfl) (pe_ix (r := rIxT K) ix_tup (pe_ix (r := rIxL K) ix_list (pv 1) (pv 4) (fun _ _ => rfl)) pe_int (fun _ _ => rfl))) (pss_cons (ps_set (i := 6) sc__law_loss.nd rfl (Or.inl rfl) (pe_ix (r := rIxT K) ix_tup (pe_ix (r := rIxL K) ix_list (pv 1) (pv 4) (fun _ _ => rfl)) pe_int (fun _ _ => rfl))) (pss_cons (ps_set (i := 2) sc__law_loss.nd rfl (Or.inl rfl) (pe_op op_add (pe_op op_mulW (pe_op op_mulW (pv 2) (pv 6)) (pv 6)) (pe_op op_mulW (pe_op op_add (pe_op op_mulW (pe_op op_mulW (pe_ix (r := rIxT K) ix_tup (pe_ix (r := rIxL K) ix_list (pv 0) (pv 4) (fun _ _ => rfl)) pe_int (fun _ _ => rfl)) (pe_op op_sub (pv 6) (pv 5))) (pe_op op_sub (pv 6) (pv 5))) (pe_op op_mulW (pe_op op_mulW (pe_ix (r := rIxT K) ix_tup (pe_ix (r := rIxL K) ix_list (pv 0) (pv 4) (fun _ _ => rfl)) pe_int (fun _ _ => rfl)) (pv 5)) (pv 5))) (pv 3)))) (pss_cons (ps_set (i := 3) sc__law_loss.nd rfl (Or.inl rfl) (pe_op op_mulW (pe_op op_mulW (pv 3) (pv 6)) (pv 6))) pss_nil))))) (pss_cons (ps_ret (pe_tup (pa_cons (pv 2) (pa_cons (pe_op op_mulW (pv 3) (pe_callB (r := rSum K) (cr_sum rfl) (by rfl) T.gb_sum bt_sum (pa_cons (pe_lc (own := [("pair", 7)]) rfl sc__law_loss.nd (show PI _ _ _ (iList K _) from pi_list (pv 0)) (blkOk_by (own := [("pair", 7)]) (N := N__law_loss) (sc := defScope s__law_loss) (by decide +kernel)) (fun _ _ _ _ _ => (pg_name (i := 7) sc__law_loss.nd rfl (Or.inl rfl))) (fun _ _ _ _ _ => pts_nil) (fun _ _ _ _ _ => (pe_op op_add (pe_ix (r := rIxT K) ix_tup (pv 7) pe_int (fun _ _ => rfl)) (pe_ix (r := rIxT K) ix_tup (pv 7) pe_int (fun _ _ => rfl))))) pa_nil))) pa_nil)))) pss_nil)))), ?_⟩
    refine q_asg (E := E) (K := K) (σ := [some v_rows, some v_chances, none, none, none, none, none, none]) (i := 2) (x_int (i := 0)) hs (fun _ _ h => PX.mono (Ex.refl _) (Ex.refl _) h) hm fun top_1 v_2 I_3 H_4 e_5 s_6 r_7 hm => ?_
    refine q_asg (E := E) (K := K) (σ := [some v_rows, some v_chances, some v_2, none, none, none, none, none]) (i := 3) (x_int (i := 1)) s_6 (fun _ _ h => PX.mono e_5 (Ex.refl _) h) hm fun low_8 v_9 I_10 H_11 e_12 s_13 r_14 hm => ?_
    refine s_forN (E := E) (K := K) (σ := [some v_rows, some v_chances, some v_2, some v_9, none, none, none, none]) (fun (z_15 : (Int × Int)) σ2 I_20 C_21 => ∃ w_17 : Option V, ∃ w_18 : Option V, ∃ w_19 : Option V, ∃ v_22 : V, ∃ v_24 : V, σ2 = [some v_rows, some v_chances, some v_22, some v_24, w_17, w_18, w_19, none] ∧ Rp.r pI z_15.1 v_22 I_20 Z ∧ Rp.r pI z_15.2 v_24 I_20 Z ∧ Ex C0 C_21) (i_rng1 (a_one (x_cb o_len (a_one (x_v (x_var (i := 0) rfl (Rp.mono _ (e_5.trans e_12) exz r_rows))))))) s_13 (fun _ _ h => PX.mono (e_5.trans e_12) (Ex.refl _) h) hm (fun _ e_35 => ⟨none, none, none, v_2, v_9, rfl, Rp.mono _ (Ex.trans e_12 e_35) exz r_7, Rp.mono _ (Ex.trans (Ex.refl _) e_35) exz r_14, (Ex.refl _)⟩) (fun _ _ _ _ _ => trivial) (fun _ _ _ _ _ e ⟨w_17, w_18, w_19, v_22, v_24, hs_16, r_23, r_25, fr_26⟩ => ⟨w_17, w_18, w_19, v_22, v_24, hs_16, Rp.mono _ e exz r_23, Rp.mono _ e exz r_25, fr_26⟩) (fun N x_27 v_28 z_15 σ2 I_29 C_30 H_31 e_32 s_33 ⟨w_17, w_18, w_19, v_22, v_24, hs_16, r_23, r_25, fr_26⟩ r_34 hm => ?_) (fun z_72 σ2 I_67 C_68 H_69 e_70 s_71 ⟨w_74, w_75, w_76, v_79, v_81, hs_73, r_80, r_82, fr_83⟩ hm => ?_)
    · subst hs_16
      refine g1 (K := K) x_27 v_28 I_29 C_30 H_31 _ s_33 r_34 fun σ2 ⟨v_36, hs_38, r_37⟩ => ?_
      subst hs_38
      refine q_asg (E := E) (K := K) (σ := [some v_rows, some v_chances, some v_22, some v_24, some v_36, w_18, w_19, none]) (i := 5) (x_k (k := ((0 : Nat) : Int)) (o_pj pj0) (x_op o_ix (x_v (x_var (i := 1) rfl (Rp.mono _ (e_5.trans (e_12.trans e_32)) exz r_chances))) (x_var (i := 4) rfl (Rp.mono _ (Ex.refl _) exz r_37)))) s_33 (fun _ _ h => PX.mono (e_5.trans (e_12.trans e_32)) fr_26 h) hm fun n_39 v_40 I_41 H_42 e_43 s_44 r_45 hm => ?_
      refine q_asg (E := E) (K := K) (σ := [some v_rows, some v_chances, some v_22, some v_24, some v_36, some v_40, w_19, none]) (i := 6) (x_k (k := ((1 : Nat) : Int)) (o_pj (pjs pj1)) (x_op o_ix (x_v (x_var (i := 1) rfl (Rp.mono _ (e_5.trans (e_12.trans (e_32.trans e_43))) exz r_chances))) (x_var (i := 4) rfl (Rp.mono _ e_43 exz r_37)))) s_44 (fun _ _ h => PX.mono (e_5.trans (e_12.trans (e_32.trans e_43))) fr_26 h) hm fun d_46 v_47 I_48 H_49 e_50 s_51 r_52 hm => ?_
      refine q_asg (E := E) (K := K) (σ := [some v_rows, some v_chances, some v_22, some v_24, some v_36, some v_40, some v_47, none]) (i := 2) (x_op o_add (x_op o_mulW (x_op o_mulW (x_var (i := 2) rfl (Rp.mono _ (e_43.trans e_50) exz r_23)) (x_var (i := 6) rfl (Rp.mono _ (Ex.refl _) exz r_52))) (x_var (i := 6) rfl (Rp.mono _ (Ex.refl _) exz r_52))) (x_op o_mulW (x_op o_add (x_op o_mulW (x_op o_mulW (x_k (k := ((0 : Nat) : Int)) (o_pj pj0) (x_op o_ix (x_v (x_var (i := 0) rfl (Rp.mono _ (e_5.trans (e_12.trans (e_32.trans (e_43.trans e_50)))) exz r_rows))) (x_var (i := 4) rfl (Rp.mono _ (e_43.trans e_50) exz r_37)))) (x_op o_sub (x_var (i := 6) rfl (Rp.mono _ (Ex.refl _) exz r_52)) (x_var (i := 5) rfl (Rp.mono _ e_50 exz r_45)))) (x_op o_sub (x_var (i := 6) rfl (Rp.mono _ (Ex.refl _) exz r_52)) (x_var (i := 5) rfl (Rp.mono _ e_50 exz r_45)))) (x_op o_mulW (x_op o_mulW (x_k (k := ((1 : Nat) : Int)) (o_pj (pjs pj1)) (x_op o_ix (x_v (x_var (i := 0) rfl (Rp.mono _ (e_5.trans (e_12.trans (e_32.trans (e_43.trans e_50)))) exz r_rows))) (x_var (i := 4) rfl (Rp.mono _ (e_43.trans e_50) exz r_37)))) (x_var (i := 5) rfl (Rp.mono _ e_50 exz r_45))) (x_var (i := 5) rfl (Rp.mono _ e_50 exz r_45)))) (x_var (i := 3) rfl (Rp.mono _ (e_43.trans e_50) exz r_25)))) s_51 (fun _ _ h => PX.mono (e_5.trans (e_12.trans (e_32.trans (e_43.trans e_50)))) fr_26 h) hm fun top_53 v_54 I_55 H_56 e_57 s_58 r_59 hm => ?_
      refine q_asg (E := E) (K := K) (σ := [some v_rows, some v_chances, some v_54, some v_24, some v_36, some v_40, some v_47, none]) (i := 3) (x_op o_mulW (x_op o_mulW (x_var (i := 3) rfl (Rp.mono _ (e_43.trans (e_50.trans e_57)) exz r_25)) (x_var (i := 6) rfl (Rp.mono _ e_57 exz r_52))) (x_var (i := 6) rfl (Rp.mono _ e_57 exz r_52))) s_58 (fun _ _ h => PX.mono (e_5.trans (e_12.trans (e_32.trans (e_43.trans (e_50.trans e_57))))) fr_26 h) hm fun low_60 v_61 I_62 H_63 e_64 s_65 r_66 hm => ?_
      exact hm _ _ _ _ (e_43.trans (e_50.trans (e_57.trans e_64))) s_65 ⟨some v_36, some v_40, some v_47, v_54, v_61, rfl, Rp.mono _ e_64 exz r_59, Rp.mono _ (Ex.refl _) exz r_66, fr_26⟩
    subst hs_73
    refine q_ret (tz := tNext) (E := E) (K := K) (σ := [some v_rows, some v_chances, some v_79, some v_81, w_74, w_75, w_76, none]) (x_tup (a_cons (x_var (i := 2) rfl (Rp.mono _ (Ex.refl _) exz r_80)) (a_one (x_op o_mulW (x_var (i := 3) rfl (Rp.mono _ (Ex.refl _) exz r_82)) (x_cb o_sum (a_one (x_v (x_lc (i_list (x_var (i := 0) rfl (Rp.mono _ (e_5.trans (e_12.trans e_70)) exz r_rows))) g1 (fun _ _ _ _ ⟨_, h, _⟩ => by rw [h]; rfl) (fun x_84 σ2 I_85 C_86 e_87 c_88 ⟨v_89, h, r_90⟩ => by subst h; exact (x_op o_add (x_k (k := ((0 : Nat) : Int)) (o_pj pj0) (x_var (i := 7) rfl (Rp.mono _ (Ex.refl _) exz r_90))) (x_k (k := ((1 : Nat) : Int)) (o_pj (pjs pj1)) (x_var (i := 7) rfl (Rp.mono _ (Ex.refl _) exz r_90))))) (fun _ _ _ _ _ e ⟨v_89, h, r_90⟩ => ⟨v_89, h, Rp.mono _ e exz r_90⟩)))))))) (Nat.le_of_ble_eq_true rfl)) s_71 (fun _ _ h => PX.mono (e_5.trans (e_12.trans e_70)) fr_83 h) hm fun a_91 v_92 I_93 H_94 e_95 s_96 r_97 hm => ?_
    exact hm v_92 I_93 H_94 (e_5.trans (e_12.trans (e_70.trans e_95))) (St.less s_96 fr_83) (Im.im r_97)
def m__law_drawn_chance (_ : Unit) (a_pool : Pl) : Res ((Int × Int) × Pl) :=
  (((callM (fun (p : (Int × Int)) => m__law_from p.1 p.2) (liftM (pair (Res.ok (1 : Int)) (Res.ok (12 : Int))))) a_pool).bind fun (d_1 : Int × Pl) => ((ifMR (binM eqR (callM m__law_take (liftM (Res.ok (4 : Int)))) (liftM (Res.ok (0 : Int)))) d_1.2 (fun (y_22 : Pl) => (((callM (fun (p : (Int × Int)) => m__law_from p.1 p.2) (liftM (pair (Res.ok (1 : Int)) (Res.ok (1000 : Int))))) y_22).bind fun (d_45 : Int × Pl) => (Res.ok (d_45.2, d_45.1)))) (fun (y_28 : Pl) => (Res.ok (y_28, d_1.1)))).bind fun (z_34 : (Pl × Int)) => (((callM m__law_take (liftM (bin rAdd (Res.ok z_34.2) (Res.ok (1 : Int))))) z_34.1).bind fun (n_64 : Int × Pl) => ((ifMR (binM eqR (callM m__law_take (liftM (Res.ok (6 : Int)))) (liftM (Res.ok (0 : Int)))) n_64.2 (fun (y_85 : Pl) => (((binM rSub (callM m__law_take (liftM (Res.ok (3000 : Int)))) (liftM (Res.ok (1000 : Int)))) y_85).bind fun (n_108 : Int × Pl) => (Res.ok (n_108.2, n_108.1)))) (fun (y_91 : Pl) => (Res.ok (y_91, n_64.1)))).bind fun (z_97 : (Pl × Int)) => ((un (fun (p : (Int × Int)) => m__law_lowest p.1 p.2) (pair (Res.ok z_97.2) (Res.ok z_34.2))).bind fun a_127 => Res.ok (a_127, z_97.1))))))
abbrev N__law_drawn_chance : List Str := ["pool", "d", "n"]
theorem sc__law_drawn_chance : FnScope N__law_drawn_chance ["pool"] (defScope s__law_drawn_chance) := ⟨rfl, rfl, rfl, by decide +kernel, rfl, by decide +kernel, by decide +kernel⟩
theorem bind__law_drawn_chance {K : PySem.W.Frag} {mg : Str → Option Value} {T : Tx K mg} : Binds K T.d__law_drawn_chance ["pool"] [] := FunD.bindsN T.F__law_drawn_chance fun _ _ _ _ _ _ us hl => match us, hl with | [_], _ => rfl
abbrev sp__law_drawn_chance (K : PySem.W.Frag) : Sp := spM pM t0 m__law_drawn_chance (pT (tc pI (t1 pI)))
theorem ok__law_drawn_chance (T : Tx K mg) : FnOk P w K mg base (L2.CX P w) 5 T.f__law_drawn_chance T.d__law_drawn_chance ["pool"] (sp__law_drawn_chance K) := by
  refine T.F__law_drawn_chance.ok sc__law_drawn_chance (fun vs H Q E h => ?_) (fun cdv A outer s H vs Q E hr h => ?_)
  · obtain ⟨I, C, p, ws, us, x, a, rfl, _, _, _, hr, _⟩ := h
    exact congrArg (· + 1) (Rt.len _ hr)
  · obtain ⟨I0, C0, p0, ws0, us, a_pool, ⟨⟩, rfl, hs, hc0, hx1, rfl, hm⟩ := h
    have hx0 := It.im (C' := Z) hx1
    have hm : Post (m__law_drawn_chance () a_pool) (PM p0 pM (pT (tc pI (t1 pI))) I0 C0 Q) XF := hm
    unfold m__law_drawn_chance at hm
    refine ⟨_, (pss_cons (ps_set (i := 1) sc__law_drawn_chance.nd rfl (Or.inl rfl) (pe_call (ok__law_from T) (hr.mono (by decide)) rfl T.g__law_from T.F__law_from.kp bind__law_from .nil passE (pa_cons (pv 0) (pa_cons pe_int (pa_cons pe_int pa_nil))))) (Evl.pss_cut (ps_if (pt_cmpR op_eq (pe_call (ok__law_take T) (hr.mono (by decide)) rfl T.g__law_take T.F__law_take.kp bind__law_take .nil passE (pa_cons (pv 0) (pa_cons pe_int pa_nil))) pe_int (nomark _)) (pss_cons (ps_set (i := 1) sc__law_drawn_chance.nd rfl (Or.inl rfl) (pe_call (ok__law_from T) (hr.mono (by decide)) rfl T.g__law_from T.F__law_from.kp bind__law_from .nil passE (pa_cons (pv 0) (pa_cons pe_int (pa_cons pe_int pa_nil))))) pss_nil) pss_nil) (pss_cons (ps_set (i := 2) sc__law_drawn_chance.nd rfl (Or.inl rfl) (pe_call (ok__law_take T) (hr.mono (by decide)) rfl T.g__law_take T.F__law_take.kp bind__law_take .nil passE (pa_cons (pv 0) (pa_cons (pe_op op_add (pv 1) pe_int) pa_nil)))) (Evl.pss_cut (ps_if (pt_cmpR op_eq (pe_call (ok__law_take T) (hr.mono (by decide)) rfl T.g__law_take T.F__law_take.kp bind__law_take .nil passE (pa_cons (pv 0) (pa_cons pe_int pa_nil))) pe_int (nomark _)) (pss_cons (ps_set (i := 2) sc__law_drawn_chance.nd rfl (Or.inl rfl) (pe_op op_sub (pe_call (ok__law_take T) (hr.mono (by decide)) rfl T.g__law_take T.F__law_take.kp bind__law_take .nil passE (pa_cons (pv 0) (pa_cons pe_int pa_nil))) pe_int)) pss_nil) pss_nil) (pss_cons (ps_ret (pe_call (ok__law_lowest T) (hr.mono (by decide)) rfl T.g__law_lowest T.F__law_lowest.kp bind__law_lowest .nil passE (pa_cons (pv 2) (pa_cons (pv 1) pa_nil)))) pss_nil))))), ?_⟩
    refine qm_asg (E := E) (K := K) (σ := [some (.ref p0), none, none]) (i := 1) (m_callM (i := 0) rfl (am_pure (a_cons (x_int (i := 1)) (a_one (x_int (i := 12)))))) hs hc0 (Rt.mono _ (Ex.refl _) exz hx0) hm fun d_1 v_2 ws_8 I_3 C_9 H_4 e_5 s_6 hc_10 k_11 hx_12 r_7 hm => ?_
    have fr_13 := fr_pool (off_ex (C := C0) (p := p0)) k_11
    refine qm_ifj (E := E) (K := K) (σ := [some (.ref p0), some v_2, none]) (fun (z_34 : (Pl × Int)) σ2 I_36 C_37 => ∃ v_41 : V, σ2 = [some (.ref p0), some v_41, none] ∧ (∃ ws_38 : List V, C_37 p0 = some (.lst ws_38) ∧ Rt.r pM z_34.1 ws_38 I_36 Z) ∧ Rp.r pI z_34.2 v_41 I_36 Z ∧ Ex (off C0 p0) C_37) (tm_test (m_op (fun _ => o_eqI) off_same (m_callM (i := 0) rfl (am_pure (a_one (x_int (i := 4))))) (m_pure (x_int (i := 0))))) s_6 hc_10 (Rt.mono _ (Ex.refl _) exz hx_12) hm (fun N y_22 ws_23 I_14 C_24 H_15 e_16 s_17 hc_25 k_26 hx_27 hm => ?_) (fun N y_28 ws_29 I_18 C_30 H_19 e_20 s_21 hc_31 k_32 hx_33 hm => ?_) (fun z_34 σ2 I_59 C_60 H_61 e_62 s_63 ⟨v_41, hs_35, ⟨ws_38, hc_39, hx_40⟩, r_42, fr_43⟩ hm => ?_)
    · have fr_44 := fr_pool fr_13 k_26
      refine qm_asg (E := E) (K := K) (σ := [some (.ref p0), some v_2, none]) (i := 1) (m_callM (i := 0) rfl (am_pure (a_cons (x_int (i := 1)) (a_one (x_int (i := 1000)))))) s_17 hc_25 (Rt.mono _ (Ex.refl _) exz hx_27) hm fun d_45 v_46 ws_52 I_47 C_53 H_48 e_49 s_50 hc_54 k_55 hx_56 r_51 hm => ?_
      have fr_57 := fr_pool fr_44 k_55
      exact hm _ _ _ _ (e_16.trans e_49) s_50 ⟨v_46, rfl, ⟨_, hc_54, Rt.mono _ (Ex.refl _) exz hx_56⟩, Rp.mono _ (Ex.refl _) exz r_51, fr_57⟩
    · have fr_58 := fr_pool fr_13 k_32
      exact hm _ _ _ _ e_20 s_21 ⟨v_2, rfl, ⟨_, hc_31, Rt.mono _ (Ex.refl _) exz hx_33⟩, Rp.mono _ e_20 exz r_7, fr_58⟩
    subst hs_35
    refine qm_asg (E := E) (K := K) (σ := [some (.ref p0), some v_41, none]) (i := 2) (m_callM (i := 0) rfl (am_pure (a_one (x_op o_add (x_var (i := 1) rfl (Rp.mono _ (Ex.refl _) exz r_42)) (x_int (i := 1)))))) s_63 hc_39 (Rt.mono _ (Ex.refl _) exz hx_40) hm fun n_64 v_65 ws_71 I_66 C_72 H_67 e_68 s_69 hc_73 k_74 hx_75 r_70 hm => ?_
    have fr_76 := fr_pool fr_43 k_74
    refine qm_ifj (E := E) (K := K) (σ := [some (.ref p0), some v_41, some v_65]) (fun (z_97 : (Pl × Int)) σ2 I_99 C_100 => ∃ v_104 : V, σ2 = [some (.ref p0), some v_41, some v_104] ∧ (∃ ws_101 : List V, C_100 p0 = some (.lst ws_101) ∧ Rt.r pM z_97.1 ws_101 I_99 Z) ∧ Rp.r pI z_97.2 v_104 I_99 Z ∧ Ex (off C0 p0) C_100) (tm_test (m_op (fun _ => o_eqI) off_same (m_callM (i := 0) rfl (am_pure (a_one (x_int (i := 6))))) (m_pure (x_int (i := 0))))) s_69 hc_73 (Rt.mono _ (Ex.refl _) exz hx_75) hm (fun N y_85 ws_86 I_77 C_87 H_78 e_79 s_80 hc_88 k_89 hx_90 hm => ?_) (fun N y_91 ws_92 I_81 C_93 H_82 e_83 s_84 hc_94 k_95 hx_96 hm => ?_) (fun z_97 σ2 I_122 C_123 H_124 e_125 s_126 ⟨v_104, hs_98, ⟨ws_101, hc_102, hx_103⟩, r_105, fr_106⟩ hm => ?_)
    · have fr_107 := fr_pool fr_76 k_89
      refine qm_asg (E := E) (K := K) (σ := [some (.ref p0), some v_41, some v_65]) (i := 2) (m_op (fun _ => o_sub) off_same (m_callM (i := 0) rfl (am_pure (a_one (x_int (i := 3000))))) (m_pure (x_int (i := 1000)))) s_80 hc_88 (Rt.mono _ (Ex.refl _) exz hx_90) hm fun n_108 v_109 ws_115 I_110 C_116 H_111 e_112 s_113 hc_117 k_118 hx_119 r_114 hm => ?_
      have fr_120 := fr_pool fr_107 k_118
      exact hm _ _ _ _ (e_79.trans e_112) s_113 ⟨v_109, rfl, ⟨_, hc_117, Rt.mono _ (Ex.refl _) exz hx_119⟩, Rp.mono _ (Ex.refl _) exz r_114, fr_120⟩
    · have fr_121 := fr_pool fr_76 k_95
      exact hm _ _ _ _ e_83 s_84 ⟨v_65, rfl, ⟨_, hc_94, Rt.mono _ (Ex.refl _) exz hx_96⟩, Rp.mono _ e_83 exz r_70, fr_121⟩
    subst hs_98
    refine q_ret (tz := tNext) (E := E) (K := K) (σ := [some (.ref p0), some v_41, some v_104]) (x_call (a_cons (x_var (i := 2) rfl (Rp.mono _ (Ex.refl _) exz r_105)) (a_one (x_var (i := 1) rfl (Rp.mono _ (e_68.trans e_125) exz r_42))))) s_126 (fun _ _ h => h.elim) hm fun a_127 v_128 I_129 H_130 e_131 s_132 r_133 hm => ?_
    exact ret_pool hm (e_5.trans (e_62.trans (e_68.trans (e_125.trans e_131)))) fr_106 s_132 hc_102 (Rt.mono _ e_131 exz hx_103) r_133
def m__law_ascending (ar_rows : (List (Int × Int))) (ar_chances : (List (Int × Int))) (a_pool : Pl) : Res ((List (Int × Int)) × Pl) :=
  (((callM m__law_take (liftM (Res.ok (4 : Int)))) a_pool).bind fun (kind_1 : Int × Pl) => ((un rLen (Res.ok ar_rows)).bind fun (many_14 : Int) => (ifR (bin eqR (Res.ok kind_1.1) (Res.ok (0 : Int))) ((un (fun (p : ((List (Int × Int)) × Int × Int)) => m__law_share p.1 p.2.1 p.2.2) (pair (Res.ok ar_rows) (pair (Res.ok (0 : Int)) (Res.ok many_14)))).bind fun (whole_29 : (Int × Int)) => (((un rng1 (Res.ok many_14)).bind (mapR (fun (x_36 : Int) => (un (fun (p : (Int × Int)) => m__law_lowest p.1 p.2) (pair (un (fun p => Res.ok p.1) (Res.ok whole_29)) (un (fun p => Res.ok p.2) (Res.ok whole_29))))))).bind fun a_43 => Res.ok (a_43, kind_1.2))) (ifR (bin eqR (Res.ok kind_1.1) (Res.ok (1 : Int))) ((un idR (Res.ok ar_chances)).bind fun (found_58 : (List (Int × Int))) => ((((unM rng1 (callM (fun (p : (Int × Int)) => m__law_from p.1 p.2) (liftM (pair (Res.ok (1 : Int)) (Res.ok (3 : Int)))))) kind_1.2).bind fun b => loopN (fun (x_89 : Int) (z_75 : ((List (Int × Int)) × Pl)) => (((callM m__law_take (liftM (Res.ok many_14))) z_75.2).bind fun (k_110 : Int × Pl) => (ifR (bin rLt (bin rAdd (Res.ok k_110.1) (Res.ok (1 : Int))) (Res.ok many_14)) (((bin ix (Res.ok z_75.1) (bin rAdd (Res.ok k_110.1) (Res.ok (1 : Int)))).bind fun x => (Res.ok k_110.1).bind fun j => setR z_75.1 j x).bind fun (found_132 : (List (Int × Int))) => (Res.ok (found_132, k_110.2))) (((pair (Res.ok (1 : Int)) (Res.ok (1 : Int))).bind fun x => (Res.ok k_110.1).bind fun j => setR z_75.1 j x).bind fun (found_145 : (List (Int × Int))) => (Res.ok (found_145, k_110.2)))))) b.1 ((fun (y_98 : Pl) => (found_58, y_98)) b.2)).bind fun (z_163 : ((List (Int × Int)) × Pl)) => ((Res.ok z_163.1).bind fun a_187 => Res.ok (a_187, z_163.2)))) (ifR (bin eqR (Res.ok kind_1.1) (Res.ok (2 : Int))) (((callM m__law_take (liftM (Res.ok many_14))) kind_1.2).bind fun (low_203 : Int × Pl) => (((callM m__law_take (liftM (bin rAdd (Res.ok low_203.1) (Res.ok (1 : Int))))) low_203.2).bind fun (first_216 : Int × Pl) => ((bin rCatR ((un rng1 (Res.ok low_203.1)).bind (mapR (fun (x_229 : Int) => (bin ix (Res.ok ar_chances) (Res.ok first_216.1))))) ((un rng2 (pair (Res.ok low_203.1) (Res.ok many_14))).bind (mapR (fun (x_236 : Int) => (bin ix (Res.ok ar_chances) (Res.ok low_203.1)))))).bind fun a_243 => Res.ok (a_243, first_216.2)))) (((fun y_265 => ((liftM (un rng1 (Res.ok many_14))) y_265).bind fun b => mapM (fun (x_258 : Int) => (callM m__law_take (liftM (Res.ok (40 : Int))))) b.1 b.2) kind_1.2).bind fun (steps_266 : (List Int) × Pl) => (((binM rAdd (liftM (un sumR (Res.ok steps_266.1))) (callM (fun (p : (Int × Int)) => m__law_from p.1 p.2) (liftM (pair (Res.ok (1 : Int)) (Res.ok (40 : Int)))))) steps_266.2).bind fun (whole_279 : Int × Pl) => (((un rng1 (Res.ok many_14)).bind (mapR (fun (x_292 : Int) => (un (fun (p : (Int × Int)) => m__law_lowest p.1 p.2) (pair (un sumR (slR (Res.ok steps_266.1) (Res.ok none) (someR (bin rAdd (Res.ok x_292) (Res.ok (1 : Int)))))) (Res.ok whole_279.1)))))).bind fun a_299 => Res.ok (a_299, whole_279.2)))))))))
abbrev N__law_ascending : List Str := ["pool", "rows", "chances", "kind", "many", "whole", "found", "turn", "k", "low", "first", "steps"]
theorem sc__law_ascending : FnScope N__law_ascending ["pool", "rows", "chances"] (defScope s__law_ascending) := ⟨rfl, rfl, rfl, by decide +kernel, rfl, by decide +kernel, by decide +kernel⟩
theorem bind__law_ascending {K : PySem.W.Frag} {mg : Str → Option Value} {T : Tx K mg} : Binds K T.d__law_ascending ["pool", "rows", "chances"] [] := FunD.bindsN T.F__law_ascending fun _ _ _ _ _ _ us hl => match us, hl with | [_, _, _], _ => rfl
abbrev sp__law_ascending (K : PySem.W.Frag) : Sp := spM pM (tc (pL (pT (tc pI (t1 pI)))) (t1 (pL (pT (tc pI (t1 pI)))))) (fun (p : ((List (Int × Int)) × (List (Int × Int)))) => m__law_ascending p.1 p.2) (pL (pT (tc pI (t1 pI))))
theorem ok__law_ascending (T : Tx K mg) : FnOk P w K mg base (L2.CX P w) 5 T.f__law_ascending T.d__law_ascending ["pool", "rows", "chances"] (sp__law_ascending K) := by
  refine T.F__law_ascending.ok sc__law_ascending (fun vs H Q E h => ?_) (fun cdv A outer s H vs Q E hr h => ?_)
  · obtain ⟨I, C, p, ws, us, x, a, rfl, _, _, _, hr, _⟩ := h
    exact congrArg (· + 1) (Rt.len _ hr)
  · obtain ⟨I0, C0, p0, ws0, us, a_pool, ⟨ar_rows, ar_chances⟩, rfl, hs, hc0, hx1, ⟨v_rows, us0, rfl, r_rows, v_chances, rfl, r_chances⟩, hm⟩ := h
    have hx0 := It.im (C' := Z) hx1
    have hm : Post (m__law_ascending ar_rows ar_chances a_pool) (PM p0 pM (pL (pT (tc pI (t1 pI)))) I0 C0 Q) XF := hm
    replace r_rows : Rp.r (pL (pT (tc pI (t1 pI)))) ar_rows v_rows I0 Z := Im.im r_rows
    replace r_chances : Rp.r (pL (pT (tc pI (t1 pI)))) ar_chances v_chances I0 Z := Im.im r_chances
    unfold m__law_ascending at hm
    refine ⟨_, (pss_cons (ps_set (i := 3) sc__law_ascending.nd rfl (Or.inl rfl) (pe_call (ok__law_take T) (hr.mono (by decide)) rfl T.g__law_take T.F__law_take.kp bind__law_take .nil passE (pa_cons (pv 0) (pa_cons pe_int pa_nil)))) (pss_cons (ps_set (i := 4) sc__law_ascending.nd rfl (Or.inl rfl) (pe_callB (r := rLen1 K) call_len_seq (by rfl) T.gb_len bt_len (pa_cons (pv 1) pa_nil))) (pss_cons (ps_if (pt_cmpR op_eq (pv 3) pe_int (nomark _)) (pss_cons (ps_set (i := 5) sc__law_ascending.nd rfl (Or.inr rfl) (pe_call (ok__law_share T) (hr.mono (by decide)) rfl T.g__law_share T.F__law_share.kp bind__law_share .nil passE (pa_cons (pv 1) (pa_cons pe_int (pa_cons (pv 4) pa_nil))))) (pss_cons (ps_ret (pe_lc (own := [("k", 8)]) rfl sc__law_ascending.nd (pi_range1 (by rfl) T.gb_range (pa_cons (pv 4) pa_nil)) (blkOk_by (own := [("k", 8)]) (N := N__law_ascending) (sc := defScope s__law_ascending) (by decide +kernel)) (fun _ _ _ _ _ => (pg_name (i := 8) sc__law_ascending.nd rfl (Or.inl rfl))) (fun _ _ _ _ _ => pts_nil) (fun _ _ _ _ _ => (pe_call (ok__law_lowest T) (hr.mono (by decide)) rfl T.g__law_lowest T.F__law_lowest.kp bind__law_lowest .nil passL (pa_cons (pe_ix (r := rIxT K) ix_tup (pv 5) pe_int (fun _ _ => rfl)) (pa_cons (pe_ix (r := rIxT K) ix_tup (pv 5) pe_int (fun _ _ => rfl)) pa_nil)))))) pss_nil)) pss_nil) (pss_cons (ps_if (pt_cmpR op_eq (pv 3) pe_int (nomark _)) (pss_cons (ps_set (i := 6) sc__law_ascending.nd rfl (Or.inl rfl) (pe_callTy (r := rList1 K) call_list_of (by rfl) T.gb_list bt_list (pa_cons (pv 2) pa_nil))) (pss_cons (ps_for (passes_of rfl) rfl (pi_range1 (by rfl) T.gb_range (pa_cons (pe_call (ok__law_from T) (hr.mono (by decide)) rfl T.g__law_from T.F__law_from.kp bind__law_from .nil passE (pa_cons (pv 0) (pa_cons pe_int (pa_cons pe_int pa_nil)))) pa_nil)) (pg_name (i := 7) sc__law_ascending.nd rfl (Or.inl rfl)) (pss_cons (ps_set (i := 8) sc__law_ascending.nd rfl (Or.inl rfl) (pe_call (ok__law_take T) (hr.mono (by decide)) rfl T.g__law_take T.F__law_take.kp bind__law_take .nil passE (pa_cons (pv 0) (pa_cons (pv 4) pa_nil)))) (pss_cons (ps_if (pt_cmpR op_lt (pe_op op_add (pv 8) pe_int) (pv 4) (nomark _)) (pss_cons (ps_asg (pe_ix (r := rIxL K) ix_list (pv 6) (pe_op op_add (pv 8) pe_int) (fun _ _ => rfl)) (pg_sub (pv 6) (pv 8) set_list)) pss_nil) (pss_cons (ps_asg (pe_tup (pa_cons pe_int (pa_cons pe_int pa_nil))) (pg_sub (pv 6) (pv 8) set_list)) pss_nil)) pss_nil))) (pss_cons (ps_ret (pv 6)) pss_nil))) pss_nil) (pss_cons (ps_if (pt_cmpR op_eq (pv 3) pe_int (nomark _)) (pss_cons (ps_set (i := 9) sc__law_ascending.nd rfl (Or.inr rfl) (pe_call (ok__law_take T) (hr.mono (by decide)) rfl T.g__law_take T.F__law_take.kp bind__law_take .nil passE (pa_cons (pv 0) (pa_cons (pv 4) pa_nil)))) (pss_cons (ps_set (i := 10) sc__law_ascending.nd rfl (Or.inr rfl) (pe_call (ok__law_take T) (hr.mono (by decide)) rfl T.g__law_take T.F__law_take.kp bind__law_take .nil passE (pa_cons (pv 0) (pa_cons (pe_op op_add (pv 9) pe_int) pa_nil)))) (pss_cons (ps_ret (pe_op op_cat (pe_lc (own := [("k", 8)]) rfl sc__law_ascending.nd (pi_range1 (by rfl) T.gb_range (pa_cons (pv 9) pa_nil)) (blkOk_by (own := [("k", 8)]) (N := N__law_ascending) (sc := defScope s__law_ascending) (by decide +kernel)) (fun _ _ _ _ _ => (pg_name (i := 8) sc__law_ascending.nd rfl (Or.inl rfl))) (fun _ _ _ _ _ => pts_nil) (fun _ _ _ _ _ => (pe_ix (r := rIxL K) ix_list (pv 2) (pv 10) (fun _ _ => rfl)))) (pe_lc (own := [("k", 8)]) rfl sc__law_ascending.nd (pi_range2 (by rfl) T.gb_range (pa_cons (pv 9) (pa_cons (pv 4) pa_nil))) (blkOk_by (own := [("k", 8)]) (N := N__law_ascending) (sc := defScope s__law_ascending) (by decide +kernel)) (fun _ _ _ _ _ => (pg_name (i := 8) sc__law_ascending.nd rfl (Or.inl rfl))) (fun _ _ _ _ _ => pts_nil) (fun _ _ _ _ _ => (pe_ix (r := rIxL K) ix_list (pv 2) (pv 9) (fun _ _ => rfl)))))) pss_nil))) pss_nil) (pss_cons (ps_set (i := 11) sc__law_ascending.nd rfl (Or.inr rfl) (pe_lc (own := [("k", 8)]) rfl sc__law_ascending.nd (pi_range1 (by rfl) T.gb_range (pa_cons (pv 4) pa_nil)) (blkOk_by (own := [("k", 8)]) (N := N__law_ascending) (sc := defScope s__law_ascending) (by decide +kernel)) (fun _ _ _ _ _ => (pg_name (i := 8) sc__law_ascending.nd rfl (Or.inl rfl))) (fun _ _ _ _ _ => pts_nil) (fun _ _ _ _ _ => (pe_call (ok__law_take T) (hr.mono (by decide)) rfl T.g__law_take T.F__law_take.kp bind__law_take .nil passL (pa_cons (pv 0) (pa_cons pe_int pa_nil)))))) (pss_cons (ps_set (i := 5) sc__law_ascending.nd rfl (Or.inr rfl) (pe_op op_add (pe_callB (r := rSum K) (cr_sum rfl) (by rfl) T.gb_sum bt_sum (pa_cons (pv 11) pa_nil)) (pe_call (ok__law_from T) (hr.mono (by decide)) rfl T.g__law_from T.F__law_from.kp bind__law_from .nil passE (pa_cons (pv 0) (pa_cons pe_int (pa_cons pe_int pa_nil)))))) (pss_cons (ps_ret (pe_lc (own := [("k", 8)]) rfl sc__law_ascending.nd (pi_range1 (by rfl) T.gb_range (pa_cons (pv 4) pa_nil)) (blkOk_by (own := [("k", 8)]) (N := N__law_ascending) (sc := defScope s__law_ascending) (by decide +kernel)) (fun _ _ _ _ _ => (pg_name (i := 8) sc__law_ascending.nd rfl (Or.inl rfl))) (fun _ _ _ _ _ => pts_nil) (fun _ _ _ _ _ => (pe_call (ok__law_lowest T) (hr.mono (by decide)) rfl T.g__law_lowest T.F__law_lowest.kp bind__law_lowest .nil passL (pa_cons (pe_callB (r := rSum K) (cr_sum rfl) (by rfl) T.gb_sum bt_sum (pa_cons (pe_slice (r := rSlL K) sl_list (pv 11) po_none (po_some (pe_op op_add (pv 8) pe_int))) pa_nil)) (pa_cons (pv 5) pa_nil)))))) pss_nil)))))))), ?_⟩
    refine qm_asg (E := E) (K := K) (σ := [some (.ref p0), some v_rows, some v_chances, none, none, none, none, none, none, none, none, none]) (i := 3) (m_callM (i := 0) rfl (am_pure (a_one (x_int (i := 4))))) hs hc0 (Rt.mono _ (Ex.refl _) exz hx0) hm fun kind_1 v_2 ws_8 I_3 C_9 H_4 e_5 s_6 hc_10 k_11 hx_12 r_7 hm => ?_
    have fr_13 := fr_pool (off_ex (C := C0) (p := p0)) k_11
    refine q_asg (E := E) (K := K) (σ := [some (.ref p0), some v_rows, some v_chances, some v_2, none, none, none, none, none, none, none, none]) (i := 4) (x_cb o_len (a_one (x_v (x_var (i := 1) rfl (Rp.mono _ e_5 exz r_rows))))) s_6 (fun _ _ h => h.elim) hm fun many_14 v_15 I_16 H_17 e_18 s_19 r_20 hm => ?_
    refine s_if (E := E) (K := K) (σ := [some (.ref p0), some v_rows, some v_chances, some v_2, some v_15, none, none, none, none, none, none, none]) (t_test (x_op o_eqI (x_var (i := 3) rfl (Rp.mono _ e_18 exz r_7)) (x_int (i := 0)))) s_19 (fun _ _ h => h.elim) hm (fun I_21 H_22 e_23 s_24 hm => ?_) (fun I_25 H_26 e_27 s_28 hm => ?_)
    · refine q_asg (E := E) (K := K) (σ := [some (.ref p0), some v_rows, some v_chances, some v_2, some v_15, none, none, none, none, none, none, none]) (i := 5) (x_call (a_cons (x_var (i := 1) rfl (Rp.mono _ (e_5.trans (e_18.trans e_23)) exz r_rows)) (a_cons (x_int (i := 0)) (a_one (x_var (i := 4) rfl (Rp.mono _ e_23 exz r_20)))))) s_24 (fun _ _ h => h.elim) hm fun whole_29 v_30 I_31 H_32 e_33 s_34 r_35 hm => ?_
      refine q_ret (tz := tNext) (E := E) (K := K) (σ := [some (.ref p0), some v_rows, some v_chances, some v_2, some v_15, some v_30, none, none, none, none, none, none]) (x_lc (i_rng1 (a_one (x_var (i := 4) rfl (Rp.mono _ (e_23.trans e_33) exz r_20)))) g1 (fun _ _ _ _ ⟨_, h, _⟩ => by rw [h]; rfl) (fun x_36 σ2 I_37 C_38 e_39 c_40 ⟨v_41, h, r_42⟩ => by subst h; exact (x_call (a_cons (x_k (k := ((0 : Nat) : Int)) (o_pj pj0) (x_var (i := 5) rfl (Rp.mono _ e_39 exz r_35))) (a_one (x_k (k := ((1 : Nat) : Int)) (o_pj (pjs pj1)) (x_var (i := 5) rfl (Rp.mono _ e_39 exz r_35))))))) (fun _ _ _ _ _ e ⟨v_41, h, r_42⟩ => ⟨v_41, h, Rp.mono _ e exz r_42⟩)) s_34 (fun _ _ h => h.elim) hm fun a_43 v_44 I_45 H_46 e_47 s_48 r_49 hm => ?_
      exact ret_pool hm (e_5.trans (e_18.trans (e_23.trans (e_33.trans e_47)))) fr_13 s_48 hc_10 (Rt.mono _ (e_18.trans (e_23.trans (e_33.trans e_47))) exz hx_12) r_49
    · refine s_if (E := E) (K := K) (σ := [some (.ref p0), some v_rows, some v_chances, some v_2, some v_15, none, none, none, none, none, none, none]) (t_test (x_op o_eqI (x_var (i := 3) rfl (Rp.mono _ (e_18.trans e_27) exz r_7)) (x_int (i := 1)))) s_28 (fun _ _ h => h.elim) hm (fun I_50 H_51 e_52 s_53 hm => ?_) (fun I_54 H_55 e_56 s_57 hm => ?_)
      · refine q_asgN (E := E) (K := K) (σ := [some (.ref p0), some v_rows, some v_chances, some v_2, some v_15, none, none, none, none, none, none, none]) (i := 6) (n_cb n_list (a_one (x_v (x_var (i := 2) rfl (Rp.mono _ (e_5.trans (e_18.trans (e_27.trans e_52))) exz r_chances))))) s_53 (fun _ _ h => h.elim) hm fun found_58 p_59 vs_60 I_61 C_62 H_63 e_64 hp_65 s_66 hc_67 k_68 hl_69 hr_70 hm => ?_
        have ne_71 := ne_new hc_10 hp_65
        have hB_72 := Ex.free fr_13 hp_65
        have hc_73 := (k_68 _ ne_71).trans hc_10
        have fr_74 := fr_keep fr_13 hB_72 k_68
        refine qm_forN (E := E) (K := K) (σ := [some (.ref p0), some v_rows, some v_chances, some v_2, some v_15, none, some (.ref p_59), none, none, none, none, none]) (s0 := fun (y_98 : Pl) => (found_58, y_98)) (fun (z_75 : ((List (Int × Int)) × Pl)) σ2 I_79 C_80 => ∃ w_77 : Option V, ∃ w_78 : Option V, σ2 = [some (.ref p0), some v_rows, some v_chances, some v_2, some v_15, none, some (.ref p_59), w_77, w_78, none, none, none] ∧ (∃ vs_81 : List V, C_80 p_59 = some (.lst vs_81) ∧ vs_81.length ≤ sizeLine ∧ A2 (fun x u => Rp.r (pT (tc pI (t1 pI))) x u I_79 Z) z_75.1 vs_81) ∧ (∃ ws_85 : List V, C_80 p0 = some (.lst ws_85) ∧ Rt.r pM z_75.2 ws_85 I_79 Z) ∧ Ex (off C0 p0) C_80) (im_rng1 (am_one (m_callM (i := 0) rfl (am_pure (a_cons (x_int (i := 1)) (a_one (x_int (i := 3)))))))) s_66 hc_73 (Rt.mono _ (e_18.trans (e_27.trans (e_52.trans e_64))) exz hx_12) hm (fun y_98 ws_99 I_100 C_101 e_97 hc_102 k_103 hx_104 => by
      have hc_105 := (k_103 _ (Ne.symm ne_71)).trans hc_67
      have fr_106 := fr_pool fr_74 k_103
      exact ⟨none, none, rfl, ⟨_, hc_105, hl_69, a2up e_97 hr_70⟩, ⟨_, hc_102, Rt.mono _ (Ex.refl _) exz hx_104⟩, fr_106⟩) (fun _ _ _ _ _ e ⟨w_77, w_78, hs_76, ⟨vs_81, hc_82, hl_83, hr_84⟩, ⟨ws_85, hc_86, hx_87⟩, fr_88⟩ => ⟨w_77, w_78, hs_76, ⟨vs_81, hc_82, hl_83, a2up e hr_84⟩, ⟨ws_85, hc_86, Rt.mono _ e exz hx_87⟩, fr_88⟩) (fun N x_89 v_90 z_75 σ2 I_91 C_92 H_93 e_94 s_95 ⟨w_77, w_78, hs_76, ⟨vs_81, hc_82, hl_83, hr_84⟩, ⟨ws_85, hc_86, hx_87⟩, fr_88⟩ r_96 hm => ?_) (fun z_163 σ2 I_158 C_159 H_160 e_161 s_162 ⟨w_165, w_166, hs_164, ⟨vs_169, hc_170, hl_171, hr_172⟩, ⟨ws_173, hc_174, hx_175⟩, fr_176⟩ hm => ?_)
        · subst hs_76
          refine g1 (K := K) x_89 v_90 I_91 C_92 H_93 _ s_95 r_96 fun σ2 ⟨v_107, hs_109, r_108⟩ => ?_
          subst hs_109
          refine qm_asg (E := E) (K := K) (σ := [some (.ref p0), some v_rows, some v_chances, some v_2, some v_15, none, some (.ref p_59), some v_107, w_78, none, none, none]) (i := 8) (m_callM (i := 0) rfl (am_pure (a_one (x_var (i := 4) rfl (Rp.mono _ (e_27.trans (e_52.trans (e_64.trans e_94))) exz r_20))))) s_95 hc_86 (Rt.mono _ (Ex.refl _) exz hx_87) hm fun k_110 v_111 ws_117 I_112 C_118 H_113 e_114 s_115 hc_119 k_120 hx_121 r_116 hm => ?_
          have hc_122 := (k_120 _ (Ne.symm ne_71)).trans hc_82
          have fr_123 := fr_pool fr_88 k_120
          refine s_if (E := E) (K := K) (σ := [some (.ref p0), some v_rows, some v_chances, some v_2, some v_15, none, some (.ref p_59), some v_107, some v_111, none, none, none]) (t_test (x_op o_lt (x_op o_add (x_var (i := 8) rfl (Rp.mono _ (Ex.refl _) exz r_116)) (x_int (i := 1))) (x_var (i := 4) rfl (Rp.mono _ (e_27.trans (e_52.trans (e_64.trans (e_94.trans e_114)))) exz r_20)))) s_115 (fun _ _ h => h.elim) hm (fun I_124 H_125 e_126 s_127 hm => ?_) (fun I_128 H_129 e_130 s_131 hm => ?_)
          · refine q_setL (E := E) (K := K) (σ := [some (.ref p0), some v_rows, some v_chances, some v_2, some v_15, none, some (.ref p_59), some v_107, some v_111, none, none, none]) (i := 6) rfl hc_122 hl_83 (a2up (e_114.trans e_126) hr_84) (x_op o_ix (x_cell (i := 6) rfl hc_122 hl_83 (a2up (e_114.trans e_126) hr_84)) (x_op o_add (x_var (i := 8) rfl (Rp.mono _ e_126 exz r_116)) (x_int (i := 1)))) (x_var (i := 8) rfl (Rp.mono _ e_126 exz r_116)) s_127 (fun _ _ h => h.elim) hm fun found_132 vs_133 I_134 C_135 H_136 e_137 s_138 hc_139 k_140 hl_141 hr_142 hm => ?_
            have hc_143 := (k_140 _ ne_71).trans hc_119
            have fr_144 := fr_keep fr_123 hB_72 k_140
            exact hm _ _ _ _ (e_114.trans (e_126.trans e_137)) s_138 ⟨some v_107, some v_111, rfl, ⟨_, hc_139, hl_141, a2up (Ex.refl _) hr_142⟩, ⟨_, hc_143, Rt.mono _ (e_126.trans e_137) exz hx_121⟩, fr_144⟩
          · refine q_setL (E := E) (K := K) (σ := [some (.ref p0), some v_rows, some v_chances, some v_2, some v_15, none, some (.ref p_59), some v_107, some v_111, none, none, none]) (i := 6) rfl hc_122 hl_83 (a2up (e_114.trans e_130) hr_84) (x_tup (a_cons (x_int (i := 1)) (a_one (x_int (i := 1)))) (Nat.le_of_ble_eq_true rfl)) (x_var (i := 8) rfl (Rp.mono _ e_130 exz r_116)) s_131 (fun _ _ h => h.elim) hm fun found_145 vs_146 I_147 C_148 H_149 e_150 s_151 hc_152 k_153 hl_154 hr_155 hm => ?_
            have hc_156 := (k_153 _ ne_71).trans hc_119
            have fr_157 := fr_keep fr_123 hB_72 k_153
            exact hm _ _ _ _ (e_114.trans (e_130.trans e_150)) s_151 ⟨some v_107, some v_111, rfl, ⟨_, hc_152, hl_154, a2up (Ex.refl _) hr_155⟩, ⟨_, hc_156, Rt.mono _ (e_130.trans e_150) exz hx_121⟩, fr_157⟩
        subst hs_164
        obtain ⟨I_177, C_178, e_179, s_180, h_181, k_182⟩ := freeze s_162 hc_170
        have r_184 := frz_list e_179 h_181 hl_171 hr_172
        have hc_185 := (k_182 _ ne_71).trans hc_174
        have fr_186 := fr_keep fr_176 hB_72 k_182
        refine q_ret (tz := tNext) (E := E) (K := K) (σ := [some (.ref p0), some v_rows, some v_chances, some v_2, some v_15, none, some (.ref p_59), w_165, w_166, none, none, none]) (x_var (i := 6) rfl (Rp.mono _ (Ex.refl _) exz r_184)) s_180 (fun _ _ h => h.elim) hm fun a_187 v_188 I_189 H_190 e_191 s_192 r_193 hm => ?_
        exact ret_pool hm (e_5.trans (e_18.trans (e_27.trans (e_52.trans (e_64.trans (e_161.trans (e_179.trans e_191))))))) fr_186 s_192 hc_185 (Rt.mono _ (e_179.trans e_191) exz hx_175) r_193
      · refine s_if (E := E) (K := K) (σ := [some (.ref p0), some v_rows, some v_chances, some v_2, some v_15, none, none, none, none, none, none, none]) (t_test (x_op o_eqI (x_var (i := 3) rfl (Rp.mono _ (e_18.trans (e_27.trans e_56)) exz r_7)) (x_int (i := 2)))) s_57 (fun _ _ h => h.elim) hm (fun I_195 H_196 e_197 s_198 hm => ?_) (fun I_199 H_200 e_201 s_202 hm => ?_)
        · refine qm_asg (E := E) (K := K) (σ := [some (.ref p0), some v_rows, some v_chances, some v_2, some v_15, none, none, none, none, none, none, none]) (i := 9) (m_callM (i := 0) rfl (am_pure (a_one (x_var (i := 4) rfl (Rp.mono _ (e_27.trans (e_56.trans e_197)) exz r_20))))) s_198 hc_10 (Rt.mono _ (e_18.trans (e_27.trans (e_56.trans e_197))) exz hx_12) hm fun low_203 v_204 ws_210 I_205 C_211 H_206 e_207 s_208 hc_212 k_213 hx_214 r_209 hm => ?_
          have fr_215 := fr_pool fr_13 k_213
          refine qm_asg (E := E) (K := K) (σ := [some (.ref p0), some v_rows, some v_chances, some v_2, some v_15, none, none, none, none, some v_204, none, none]) (i := 10) (m_callM (i := 0) rfl (am_pure (a_one (x_op o_add (x_var (i := 9) rfl (Rp.mono _ (Ex.refl _) exz r_209)) (x_int (i := 1)))))) s_208 hc_212 (Rt.mono _ (Ex.refl _) exz hx_214) hm fun first_216 v_217 ws_223 I_218 C_224 H_219 e_220 s_221 hc_225 k_226 hx_227 r_222 hm => ?_
          have fr_228 := fr_pool fr_215 k_226
          refine q_ret (tz := tNext) (E := E) (K := K) (σ := [some (.ref p0), some v_rows, some v_chances, some v_2, some v_15, none, none, none, none, some v_204, some v_217, none]) (x_op o_cat (x_v (x_lc (i_rng1 (a_one (x_var (i := 9) rfl (Rp.mono _ e_220 exz r_209)))) g1 (fun _ _ _ _ ⟨_, h, _⟩ => by rw [h]; rfl) (fun x_229 σ2 I_230 C_231 e_232 c_233 ⟨v_234, h, r_235⟩ => by subst h; exact (x_op o_ix (x_v (x_var (i := 2) rfl (Rp.mono _ (e_5.trans (e_18.trans (e_27.trans (e_56.trans (e_197.trans (e_207.trans (e_220.trans e_232))))))) exz r_chances))) (x_var (i := 10) rfl (Rp.mono _ e_232 exz r_222)))) (fun _ _ _ _ _ e ⟨v_234, h, r_235⟩ => ⟨v_234, h, Rp.mono _ e exz r_235⟩))) (x_v (x_lc (i_rng2 (a_cons (x_var (i := 9) rfl (Rp.mono _ e_220 exz r_209)) (a_one (x_var (i := 4) rfl (Rp.mono _ (e_27.trans (e_56.trans (e_197.trans (e_207.trans e_220)))) exz r_20))))) g1 (fun _ _ _ _ ⟨_, h, _⟩ => by rw [h]; rfl) (fun x_236 σ2 I_237 C_238 e_239 c_240 ⟨v_241, h, r_242⟩ => by subst h; exact (x_op o_ix (x_v (x_var (i := 2) rfl (Rp.mono _ (e_5.trans (e_18.trans (e_27.trans (e_56.trans (e_197.trans (e_207.trans (e_220.trans e_239))))))) exz r_chances))) (x_var (i := 9) rfl (Rp.mono _ (e_220.trans e_239) exz r_209)))) (fun _ _ _ _ _ e ⟨v_241, h, r_242⟩ => ⟨v_241, h, Rp.mono _ e exz r_242⟩)))) s_221 (fun _ _ h => h.elim) hm fun a_243 v_244 I_245 H_246 e_247 s_248 r_249 hm => ?_
          exact ret_pool hm (e_5.trans (e_18.trans (e_27.trans (e_56.trans (e_197.trans (e_207.trans (e_220.trans e_247))))))) fr_228 s_248 hc_225 (Rt.mono _ e_247 exz hx_227) r_249
        · refine qm_asg (E := E) (K := K) (σ := [some (.ref p0), some v_rows, some v_chances, some v_2, some v_15, none, none, none, none, none, none, none]) (i := 11) (m_lc off_same (im_pure (i_rng1 (a_one (x_var (i := 4) rfl (Rp.mono _ (e_27.trans (e_56.trans e_201)) exz r_20))))) g1 (fun _ _ _ _ ⟨_, h, _⟩ => by rw [h]; rfl) (fun x_258 σ2 I_259 C_260 e_261 c_262 ⟨v_263, h, r_264⟩ => by subst h; exact (m_callM (i := 0) rfl (am_pure (a_one (x_int (i := 40))))))) s_202 hc_10 (Rt.mono _ (e_18.trans (e_27.trans (e_56.trans e_201))) exz hx_12) hm fun steps_266 v_267 ws_273 I_268 C_274 H_269 e_270 s_271 hc_275 k_276 hx_277 r_272 hm => ?_
          have fr_278 := fr_pool fr_13 k_276
          refine qm_asg (E := E) (K := K) (σ := [some (.ref p0), some v_rows, some v_chances, some v_2, some v_15, none, none, none, none, none, none, some v_267]) (i := 5) (m_op (fun _ => o_add) off_same (m_pure (x_cb o_sum (a_one (x_v (x_var (i := 11) rfl (Rp.mono _ (Ex.refl _) exz r_272)))))) (m_callM (i := 0) rfl (am_pure (a_cons (x_int (i := 1)) (a_one (x_int (i := 40))))))) s_271 hc_275 (Rt.mono _ (Ex.refl _) exz hx_277) hm fun whole_279 v_280 ws_286 I_281 C_287 H_282 e_283 s_284 hc_288 k_289 hx_290 r_285 hm => ?_
          have fr_291 := fr_pool fr_278 k_289
          refine q_ret (tz := tNext) (E := E) (K := K) (σ := [some (.ref p0), some v_rows, some v_chances, some v_2, some v_15, some v_280, none, none, none, none, none, some v_267]) (x_lc (i_rng1 (a_one (x_var (i := 4) rfl (Rp.mono _ (e_27.trans (e_56.trans (e_201.trans (e_270.trans e_283)))) exz r_20)))) g1 (fun _ _ _ _ ⟨_, h, _⟩ => by rw [h]; rfl) (fun x_292 σ2 I_293 C_294 e_295 c_296 ⟨v_297, h, r_298⟩ => by subst h; exact (x_call (a_cons (x_cb o_sum (a_one (x_v (x_sl (x_v (x_var (i := 11) rfl (Rp.mono _ (e_283.trans e_295) exz r_272))) p_none (p_some (x_op o_add (x_var (i := 8) rfl (Rp.mono _ (Ex.refl _) exz r_298)) (x_int (i := 1)))))))) (a_one (x_var (i := 5) rfl (Rp.mono _ e_295 exz r_285)))))) (fun _ _ _ _ _ e ⟨v_297, h, r_298⟩ => ⟨v_297, h, Rp.mono _ e exz r_298⟩)) s_284 (fun _ _ h => h.elim) hm fun a_299 v_300 I_301 H_302 e_303 s_304 r_305 hm => ?_
          exact ret_pool hm (e_5.trans (e_18.trans (e_27.trans (e_56.trans (e_201.trans (e_270.trans (e_283.trans e_303))))))) fr_291 s_304 hc_288 (Rt.mono _ e_303 exz hx_290) r_305
def m__law_never_descends (ar_chances : (List (Int × Int))) : Res Bool :=
  (((un rng2 (pair (Res.ok (1 : Int)) (un rLen (Res.ok ar_chances)))).bind fun xs => loopR (fun (x_7 : Int) (z_1 : Unit) => (ifR (un (fun (p : ((Int × Int) × (Int × Int))) => m__law_less p.1 p.2) (pair (bin ix (Res.ok ar_chances) (Res.ok x_7)) (bin ix (Res.ok ar_chances) (bin rSub (Res.ok x_7) (Res.ok (1 : Int)))))) ((Res.ok false).bind fun a_27 => Res.ok (Out.rt a_27)) (Res.ok (Out.nx ())))) xs ()).bind fun (o : Out Unit Bool) => match o with | .nx z_39 => ((Res.ok true).bind fun a_45 => Res.ok a_45) | .br _ => Res.bad | .rt r => Res.ok r)
abbrev N__law_never_descends : List Str := ["chances", "k"]
theorem sc__law_never_descends : FnScope N__law_never_descends ["chances"] (defScope s__law_never_descends) := ⟨rfl, rfl, rfl, by decide +kernel, rfl, by decide +kernel, by decide +kernel⟩
theorem bind__law_never_descends {K : PySem.W.Frag} {mg : Str → Option Value} {T : Tx K mg} : Binds K T.d__law_never_descends ["chances"] [] := FunD.bindsN T.F__law_never_descends fun _ _ _ _ _ _ us hl => match us, hl with | [_], _ => rfl
abbrev sp__law_never_descends (K : PySem.W.Frag) : Sp := spP K (t1 (pL (pT (tc pI (t1 pI))))) m__law_never_descends pB
theorem ok__law_never_descends (T : Tx K mg) : FnOk P w K mg base (L2.CX P w) 2 T.f__law_never_descends T.d__law_never_descends ["chances"] (sp__law_never_descends K) := by
  refine T.F__law_never_descends.ok sc__law_never_descends (fun vs H Q E h => ?_) (fun cdv A outer s H vs Q E hr h => ?_)
  · obtain ⟨I, C, a, _, hr, _⟩ := h
    exact Rt.len _ hr
  · obtain ⟨I0, C0, ar_chances, hs, ⟨v_chances, rfl, r_chances⟩, hm⟩ := h
    have hm : Post (m__law_never_descends ar_chances) (PQ pB I0 C0 Q) (PX E K I0 C0) := hm
    replace r_chances : Rp.r (pL (pT (tc pI (t1 pI)))) ar_chances v_chances I0 Z := Im.im r_chances
    unfold m__law_never_descends at hm
    refine ⟨_, (pss_cons (ps_for (passes_of rfl) rfl (pi_range2 (by rfl) T.gb_range (pa_cons pe_int (pa_cons (pe_callB (r := rLen1 K) call_len_seq (by rfl) T.gb_len bt_len (pa_cons (pv 0) pa_nil)) pa_nil))) (pg_name (i := 1) sc__law_never_descends.nd rfl (Or.inl rfl)) (pss_cons (ps_if (pt_val (pe_call (ok__law_less T) (hr.mono (by decide)) rfl T.g__law_less T.F__law_less.kp bind__law_less .nil passE (pa_cons (pe_ix (r := rIxL K) ix_list (pv 0) (pv 1) (fun _ _ => rfl)) (pa_cons (pe_ix (r := rIxL K) ix_list (pv 0) (pe_op op_sub (pv 1) pe_int) (fun _ _ => rfl)) pa_nil)))) (pss_cons (ps_ret pe_bl) pss_nil) pss_nil) pss_nil)) (pss_cons (ps_ret pe_bl) pss_nil)), ?_⟩
    refine s_forR (E := E) (K := K) (σ := [some v_chances, none]) (fun (z_1 : Unit) σ2 I_4 C_5 => ∃ w_3 : Option V, σ2 = [some v_chances, w_3] ∧ Ex C0 C_5) (i_rng2 (a_cons (x_int (i := 1)) (a_one (x_cb o_len (a_one (x_v (x_var (i := 0) rfl (Rp.mono _ (Ex.refl _) exz r_chances)))))))) hs (fun _ _ h => PX.mono (Ex.refl _) (Ex.refl _) h) hm (fun _ e_15 => ⟨none, rfl, (Ex.refl _)⟩) (fun _ _ _ _ _ => trivial) (fun _ _ _ _ _ e ⟨w_3, hs_2, fr_6⟩ => ⟨w_3, hs_2, fr_6⟩) (fun N x_7 v_8 z_1 σ2 I_9 C_10 H_11 e_12 s_13 ⟨w_3, hs_2, fr_6⟩ r_14 hm => ?_) (fun z_39 σ2 I_34 C_35 H_36 e_37 s_38 ⟨w_41, hs_40, fr_44⟩ hm => ?_)
    · subst hs_2
      refine g1 (K := K) x_7 v_8 I_9 C_10 H_11 _ s_13 r_14 fun σ2 ⟨v_16, hs_18, r_17⟩ => ?_
      subst hs_18
      refine s_if (E := E) (K := K) (σ := [some v_chances, some v_16]) (t_B (x_call (a_cons (x_op o_ix (x_v (x_var (i := 0) rfl (Rp.mono _ e_12 exz r_chances))) (x_var (i := 1) rfl (Rp.mono _ (Ex.refl _) exz r_17))) (a_one (x_op o_ix (x_v (x_var (i := 0) rfl (Rp.mono _ e_12 exz r_chances))) (x_op o_sub (x_var (i := 1) rfl (Rp.mono _ (Ex.refl _) exz r_17)) (x_int (i := 1)))))))) s_13 (fun _ _ h => PX.mono e_12 fr_6 h) hm (fun I_19 H_20 e_21 s_22 hm => ?_) (fun I_23 H_24 e_25 s_26 hm => ?_)
      · refine q_ret (tz := tNext) (E := E) (K := K) (σ := [some v_chances, some v_16]) x_bl s_22 (fun _ _ h => PX.mono (e_12.trans e_21) fr_6 h) hm fun a_27 v_28 I_29 H_30 e_31 s_32 r_33 hm => ?_
        exact hm v_28 I_29 H_30 (e_12.trans (e_21.trans e_31)) (St.less s_32 fr_6) (Im.im r_33)
      · exact hm _ _ _ _ e_25 s_26 ⟨some v_16, rfl, fr_6⟩
    subst hs_40
    refine q_ret (tz := tNext) (E := E) (K := K) (σ := [some v_chances, w_41]) x_bl s_38 (fun _ _ h => PX.mono e_37 fr_44 h) hm fun a_45 v_46 I_47 H_48 e_49 s_50 r_51 hm => ?_
    exact hm v_46 I_47 H_48 (e_37.trans e_49) (St.less s_50 fr_44) (Im.im r_51)
def m__law_loss_told (ar_rows : (List (Int × Int))) (ar_chances : (List (Int × Int))) : Res Bool :=
  ((consR (un idR (Res.ok ar_rows)) (consR (un idR (Res.ok ar_chances)) (Res.ok []))).bind fun (passed_1 : (List (List (Int × Int)))) => ((un (fun (p : ((List (Int × Int)) × (List (Int × Int)))) => m_mean_loss p.1 p.2) (pair (bin ix (Res.ok passed_1) (Res.ok (0 : Int))) (bin ix (Res.ok passed_1) (Res.ok (1 : Int))))).bind fun (told_8 : (Int × Int)) => ((andR (un (fun (p : ((Int × Int) × (Int × Int))) => m__law_is_ratio p.1 p.2) (pair (Res.ok told_8) (un (fun (p : ((List (Int × Int)) × (List (Int × Int)))) => m__law_loss p.1 p.2) (pair (Res.ok ar_rows) (Res.ok ar_chances))))) (bin eqR (Res.ok passed_1) (consR (Res.ok ar_rows) (consR (Res.ok ar_chances) (Res.ok []))))).bind fun a_15 => Res.ok a_15)))
abbrev N__law_loss_told : List Str := ["rows", "chances", "passed", "told"]
theorem sc__law_loss_told : FnScope N__law_loss_told ["rows", "chances"] (defScope s__law_loss_told) := ⟨rfl, rfl, rfl, by decide +kernel, rfl, by decide +kernel, by decide +kernel⟩
theorem bind__law_loss_told {K : PySem.W.Frag} {mg : Str → Option Value} {T : Tx K mg} : Binds K T.d__law_loss_told ["rows", "chances"] [] := FunD.bindsN T.F__law_loss_told fun _ _ _ _ _ _ us hl => match us, hl with | [_, _], _ => rfl
abbrev sp__law_loss_told (K : PySem.W.Frag) : Sp := spP K (tc (pL (pT (tc pI (t1 pI)))) (t1 (pL (pT (tc pI (t1 pI)))))) (fun (p : ((List (Int × Int)) × (List (Int × Int)))) => m__law_loss_told p.1 p.2) pB
theorem ok__law_loss_told (T : Tx K mg) : FnOk P w K mg base (L2.CX P w) 7 T.f__law_loss_told T.d__law_loss_told ["rows", "chances"] (sp__law_loss_told K) := by
  refine T.F__law_loss_told.ok sc__law_loss_told (fun vs H Q E h => ?_) (fun cdv A outer s H vs Q E hr h => ?_)
  · obtain ⟨I, C, a, _, hr, _⟩ := h
    exact Rt.len _ hr
  · obtain ⟨I0, C0, ⟨ar_rows, ar_chances⟩, hs, ⟨v_rows, us0, rfl, r_rows, v_chances, rfl, r_chances⟩, hm⟩ := h
    have hm : Post (m__law_loss_told ar_rows ar_chances) (PQ pB I0 C0 Q) (PX E K I0 C0) := hm
    replace r_rows : Rp.r (pL (pT (tc pI (t1 pI)))) ar_rows v_rows I0 Z := Im.im r_rows
    replace r_chances : Rp.r (pL (pT (tc pI (t1 pI)))) ar_chances v_chances I0 Z := Im.im r_chances
    unfold m__law_loss_told at hm
    refine ⟨_, (pss_cons (ps_set (i := 2) sc__law_loss_told.nd rfl (Or.inl rfl) (pe_lst (pa_cons (pe_callTy (r := rList1 K) call_list_of (by rfl) T.gb_list bt_list (pa_cons (pv 0) pa_nil)) (pa_cons (pe_callTy (r := rList1 K) call_list_of (by rfl) T.gb_list bt_list (pa_cons (pv 1) pa_nil)) pa_nil)))) (pss_cons (ps_set (i := 3) sc__law_loss_told.nd rfl (Or.inl rfl) (pe_call (ok_mean_loss T) (hr.mono (by decide)) rfl T.g_mean_loss T.F_mean_loss.kp bind_mean_loss .nil passE (pa_cons (pe_ix (r := rIxL K) ix_list (pv 2) pe_int (fun _ _ => rfl)) (pa_cons (pe_ix (r := rIxL K) ix_list (pv 2) pe_int (fun _ _ => rfl)) pa_nil)))) (pss_cons (ps_ret (pe_and (pe_call (ok__law_is_ratio T) (hr.mono (by decide)) rfl T.g__law_is_ratio T.F__law_is_ratio.kp bind__law_is_ratio .nil passE (pa_cons (pv 3) (pa_cons (pe_call (ok__law_loss T) (hr.mono (by decide)) rfl T.g__law_loss T.F__law_loss.kp bind__law_loss .nil passE (pa_cons (pv 0) (pa_cons (pv 1) pa_nil))) pa_nil))) (pe_one (pe_cmpR (r := rEqD K) (op_eqD hr.units) (pv 2) (pe_lst (pa_cons (pv 0) (pa_cons (pv 1) pa_nil))) (nomark _))))) pss_nil))), ?_⟩
    refine q_asg (E := E) (K := K) (σ := [some v_rows, some v_chances, none, none]) (i := 2) (x_lst (al_cons (x_cb o_list (a_one (x_v (x_var (i := 0) rfl (Rp.mono _ (Ex.refl _) exz r_rows))))) (al_cons (x_cb o_list (a_one (x_v (x_var (i := 1) rfl (Rp.mono _ (Ex.refl _) exz r_chances))))) al_nil)) (Nat.le_of_ble_eq_true rfl)) hs (fun _ _ h => PX.mono (Ex.refl _) (Ex.refl _) h) hm fun passed_1 v_2 I_3 H_4 e_5 s_6 r_7 hm => ?_
    refine q_asg (E := E) (K := K) (σ := [some v_rows, some v_chances, some v_2, none]) (i := 3) (x_call (a_cons (x_op o_ix (x_v (x_var (i := 2) rfl (Rp.mono _ (Ex.refl _) exz r_7))) (x_int (i := 0))) (a_one (x_op o_ix (x_v (x_var (i := 2) rfl (Rp.mono _ (Ex.refl _) exz r_7))) (x_int (i := 1)))))) s_6 (fun _ _ h => PX.mono e_5 (Ex.refl _) h) hm fun told_8 v_9 I_10 H_11 e_12 s_13 r_14 hm => ?_
    refine q_ret (tz := tNext) (E := E) (K := K) (σ := [some v_rows, some v_chances, some v_2, some v_9]) (x_andV (x_call (a_cons (x_var (i := 3) rfl (Rp.mono _ (Ex.refl _) exz r_14)) (a_one (x_call (a_cons (x_var (i := 0) rfl (Rp.mono _ (e_5.trans e_12) exz r_rows)) (a_one (x_var (i := 1) rfl (Rp.mono _ (e_5.trans e_12) exz r_chances)))))))) (x_op (o_eqD (de_lst (de_lst (de_tup (dt_cons de_int (dt_one de_int))))) (de_lst (de_lst (de_tup (dt_cons de_int (dt_one de_int))))) (by decide)) (x_var (i := 2) rfl (Rp.mono _ e_12 exz r_7)) (x_lst (al_cons (x_var (i := 0) rfl (Rp.mono _ (e_5.trans e_12) exz r_rows)) (al_cons (x_var (i := 1) rfl (Rp.mono _ (e_5.trans e_12) exz r_chances)) al_nil)) (Nat.le_of_ble_eq_true rfl)))) s_13 (fun _ _ h => PX.mono (e_5.trans e_12) (Ex.refl _) h) hm fun a_15 v_16 I_17 H_18 e_19 s_20 r_21 hm => ?_
    exact hm v_16 I_17 H_18 (e_5.trans (e_12.trans e_19)) (St.less s_20 (Ex.refl _)) (Im.im r_21)
def m__law_cost_and_loss (ar_rows : (List (Int × Int))) (ar_chances : (List (Int × Int))) (a_pool : Pl) : Res ((Int × Int) × Pl) :=
  (((callM m__law_take (liftM (Res.ok (4 : Int)))) a_pool).bind fun (kind_1 : Int × Pl) => (ifR (bin eqR (Res.ok kind_1.1) (Res.ok (0 : Int))) (((pairM (callM m__law_take (liftM (Res.ok (10000001 : Int)))) (callM m__law_take (liftM (Res.ok (10000001 : Int))))) kind_1.2).bind fun a_22 => Res.ok (a_22.1, a_22.2)) (ifR (bin eqR (Res.ok kind_1.1) (Res.ok (1 : Int))) (((pairM (callM m__law_take (liftM (Res.ok (6 : Int)))) (callM m__law_take (liftM (Res.ok (9 : Int))))) kind_1.2).bind fun a_43 => Res.ok (a_43.1, a_43.2)) (((callM m__law_take (liftM (un rLen (Res.ok ar_rows)))) kind_1.2).bind fun (start_56 : Int × Pl) => (ifR (bin eqR (Res.ok kind_1.1) (Res.ok (2 : Int))) ((bin ix (Res.ok ar_chances) (Res.ok start_56.1)).bind fun a_77 => Res.ok (a_77, start_56.2)) (((unM (fun (p : ((List (Int × Int)) × Int × Int)) => m__law_share p.1 p.2.1 p.2.2) (pairM (liftM (Res.ok ar_rows)) (pairM (liftM (Res.ok start_56.1)) (callM (fun (p : (Int × Int)) => m__law_from p.1 p.2) (liftM (pair (bin rAdd (Res.ok start_56.1) (Res.ok (1 : Int))) (un rLen (Res.ok ar_rows)))))))) start_56.2).bind fun a_84 => Res.ok (a_84.1, a_84.2)))))))
abbrev N__law_cost_and_loss : List Str := ["pool", "rows", "chances", "kind", "start"]
theorem sc__law_cost_and_loss : FnScope N__law_cost_and_loss ["pool", "rows", "chances"] (defScope s__law_cost_and_loss) := ⟨rfl, rfl, rfl, by decide +kernel, rfl, by decide +kernel, by decide +kernel⟩
theorem bind__law_cost_and_loss {K : PySem.W.Frag} {mg : Str → Option Value} {T : Tx K mg} : Binds K T.d__law_cost_and_loss ["pool", "rows", "chances"] [] := FunD.bindsN T.F__law_cost_and_loss fun _ _ _ _ _ _ us hl => match us, hl with | [_, _, _], _ => rfl
abbrev sp__law_cost_and_loss (K : PySem.W.Frag) : Sp := spM pM (tc (pL (pT (tc pI (t1 pI)))) (t1 (pL (pT (tc pI (t1 pI)))))) (fun (p : ((List (Int × Int)) × (List (Int × Int)))) => m__law_cost_and_loss p.1 p.2) (pT (tc pI (t1 pI)))
theorem ok__law_cost_and_loss (T : Tx K mg) : FnOk P w K mg base (L2.CX P w) 5 T.f__law_cost_and_loss T.d__law_cost_and_loss ["pool", "rows", "chances"] (sp__law_cost_and_loss K) := by
  refine T.F__law_cost_and_loss.ok sc__law_cost_and_loss (fun vs H Q E h => ?_) (fun cdv A outer s H vs Q E hr h => ?_)
  · obtain ⟨I, C, p, ws, us, x, a, rfl, _, _, _, hr, _⟩ := h
    exact congrArg (· + 1) (Rt.len _ hr)
  · obtain ⟨I0, C0, p0, ws0, us, a_pool, ⟨ar_rows, ar_chances⟩, rfl, hs, hc0, hx1, ⟨v_rows, us0, rfl, r_rows, v_chances, rfl, r_chances⟩, hm⟩ := h
    have hx0 := It.im (C' := Z) hx1
    have hm : Post (m__law_cost_and_loss ar_rows ar_chances a_pool) (PM p0 pM (pT (tc pI (t1 pI))) I0 C0 Q) XF := hm
    replace r_rows : Rp.r (pL (pT (tc pI (t1 pI)))) ar_rows v_rows I0 Z := Im.im r_rows
    replace r_chances : Rp.r (pL (pT (tc pI (t1 pI)))) ar_chances v_chances I0 Z := Im.im r_chances
    unfold m__law_cost_and_loss at hm
    refine ⟨_, (pss_cons (ps_set (i := 3) sc__law_cost_and_loss.nd rfl (Or.inl rfl) (pe_call (ok__law_take T) (hr.mono (by decide)) rfl T.g__law_take T.F__law_take.kp bind__law_take .nil passE (pa_cons (pv 0) (pa_cons pe_int pa_nil)))) (pss_cons (ps_if (pt_cmpR op_eq (pv 3) pe_int (nomark _)) (pss_cons (ps_ret (pe_tup (pa_cons (pe_call (ok__law_take T) (hr.mono (by decide)) rfl T.g__law_take T.F__law_take.kp bind__law_take .nil passE (pa_cons (pv 0) (pa_cons pe_int pa_nil))) (pa_cons (pe_call (ok__law_take T) (hr.mono (by decide)) rfl T.g__law_take T.F__law_take.kp bind__law_take .nil passE (pa_cons (pv 0) (pa_cons pe_int pa_nil))) pa_nil)))) pss_nil) pss_nil) (pss_cons (ps_if (pt_cmpR op_eq (pv 3) pe_int (nomark _)) (pss_cons (ps_ret (pe_tup (pa_cons (pe_call (ok__law_take T) (hr.mono (by decide)) rfl T.g__law_take T.F__law_take.kp bind__law_take .nil passE (pa_cons (pv 0) (pa_cons pe_int pa_nil))) (pa_cons (pe_call (ok__law_take T) (hr.mono (by decide)) rfl T.g__law_take T.F__law_take.kp bind__law_take .nil passE (pa_cons (pv 0) (pa_cons pe_int pa_nil))) pa_nil)))) pss_nil) pss_nil) (pss_cons (ps_set (i := 4) sc__law_cost_and_loss.nd rfl (Or.inl rfl) (pe_call (ok__law_take T) (hr.mono (by decide)) rfl T.g__law_take T.F__law_take.kp bind__law_take .nil passE (pa_cons (pv 0) (pa_cons (pe_callB (r := rLen1 K) call_len_seq (by rfl) T.gb_len bt_len (pa_cons (pv 1) pa_nil)) pa_nil)))) (pss_cons (ps_if (pt_cmpR op_eq (pv 3) pe_int (nomark _)) (pss_cons (ps_ret (pe_ix (r := rIxL K) ix_list (pv 2) (pv 4) (fun _ _ => rfl))) pss_nil) pss_nil) (pss_cons (ps_ret (pe_call (ok__law_share T) (hr.mono (by decide)) rfl T.g__law_share T.F__law_share.kp bind__law_share .nil passE (pa_cons (pv 1) (pa_cons (pv 4) (pa_cons (pe_call (ok__law_from T) (hr.mono (by decide)) rfl T.g__law_from T.F__law_from.kp bind__law_from .nil passE (pa_cons (pv 0) (pa_cons (pe_op op_add (pv 4) pe_int) (pa_cons (pe_callB (r := rLen1 K) call_len_seq (by rfl) T.gb_len bt_len (pa_cons (pv 1) pa_nil)) pa_nil)))) pa_nil))))) pss_nil)))))), ?_⟩
    refine qm_asg (E := E) (K := K) (σ := [some (.ref p0), some v_rows, some v_chances, none, none]) (i := 3) (m_callM (i := 0) rfl (am_pure (a_one (x_int (i := 4))))) hs hc0 (Rt.mono _ (Ex.refl _) exz hx0) hm fun kind_1 v_2 ws_8 I_3 C_9 H_4 e_5 s_6 hc_10 k_11 hx_12 r_7 hm => ?_
    have fr_13 := fr_pool (off_ex (C := C0) (p := p0)) k_11
    refine s_if (E := E) (K := K) (σ := [some (.ref p0), some v_rows, some v_chances, some v_2, none]) (t_test (x_op o_eqI (x_var (i := 3) rfl (Rp.mono _ (Ex.refl _) exz r_7)) (x_int (i := 0)))) s_6 (fun _ _ h => h.elim) hm (fun I_14 H_15 e_16 s_17 hm => ?_) (fun I_18 H_19 e_20 s_21 hm => ?_)
    · refine qm_ret (E := E) (K := K) (σ := [some (.ref p0), some v_rows, some v_chances, some v_2, none]) (m_tup (am_cons off_same (m_callM (i := 0) rfl (am_pure (a_one (x_int (i := 10000001))))) (am_one (m_callM (i := 0) rfl (am_pure (a_one (x_int (i := 10000001))))))) (Nat.le_of_ble_eq_true rfl)) s_17 hc_10 (Rt.mono _ e_16 exz hx_12) hm fun a_22 v_23 ws_29 I_24 C_30 H_25 e_26 s_27 hc_31 k_32 hx_33 r_28 hm => ?_
      have fr_34 := fr_pool fr_13 k_32
      exact ret_pool hm (e_5.trans (e_16.trans e_26)) fr_34 s_27 hc_31 hx_33 r_28
    · refine s_if (E := E) (K := K) (σ := [some (.ref p0), some v_rows, some v_chances, some v_2, none]) (t_test (x_op o_eqI (x_var (i := 3) rfl (Rp.mono _ e_20 exz r_7)) (x_int (i := 1)))) s_21 (fun _ _ h => h.elim) hm (fun I_35 H_36 e_37 s_38 hm => ?_) (fun I_39 H_40 e_41 s_42 hm => ?_)
      · refine qm_ret (E := E) (K := K) (σ := [some (.ref p0), some v_rows, some v_chances, some v_2, none]) (m_tup (am_cons off_same (m_callM (i := 0) rfl (am_pure (a_one (x_int (i := 6))))) (am_one (m_callM (i := 0) rfl (am_pure (a_one (x_int (i := 9))))))) (Nat.le_of_ble_eq_true rfl)) s_38 hc_10 (Rt.mono _ (e_20.trans e_37) exz hx_12) hm fun a_43 v_44 ws_50 I_45 C_51 H_46 e_47 s_48 hc_52 k_53 hx_54 r_49 hm => ?_
        have fr_55 := fr_pool fr_13 k_53
        exact ret_pool hm (e_5.trans (e_20.trans (e_37.trans e_47))) fr_55 s_48 hc_52 hx_54 r_49
      · refine qm_asg (E := E) (K := K) (σ := [some (.ref p0), some v_rows, some v_chances, some v_2, none]) (i := 4) (m_callM (i := 0) rfl (am_pure (a_one (x_cb o_len (a_one (x_v (x_var (i := 1) rfl (Rp.mono _ (e_5.trans (e_20.trans e_41)) exz r_rows)))))))) s_42 hc_10 (Rt.mono _ (e_20.trans e_41) exz hx_12) hm fun start_56 v_57 ws_63 I_58 C_64 H_59 e_60 s_61 hc_65 k_66 hx_67 r_62 hm => ?_
        have fr_68 := fr_pool fr_13 k_66
        refine s_if (E := E) (K := K) (σ := [some (.ref p0), some v_rows, some v_chances, some v_2, some v_57]) (t_test (x_op o_eqI (x_var (i := 3) rfl (Rp.mono _ (e_20.trans (e_41.trans e_60)) exz r_7)) (x_int (i := 2)))) s_61 (fun _ _ h => h.elim) hm (fun I_69 H_70 e_71 s_72 hm => ?_) (fun I_73 H_74 e_75 s_76 hm => ?_)
        · refine q_ret (tz := tNext) (E := E) (K := K) (σ := [some (.ref p0), some v_rows, some v_chances, some v_2, some v_57]) (x_op o_ix (x_v (x_var (i := 2) rfl (Rp.mono _ (e_5.trans (e_20.trans (e_41.trans (e_60.trans e_71)))) exz r_chances))) (x_var (i := 4) rfl (Rp.mono _ e_71 exz r_62))) s_72 (fun _ _ h => h.elim) hm fun a_77 v_78 I_79 H_80 e_81 s_82 r_83 hm => ?_
          exact ret_pool hm (e_5.trans (e_20.trans (e_41.trans (e_60.trans (e_71.trans e_81))))) fr_68 s_82 hc_65 (Rt.mono _ (e_71.trans e_81) exz hx_67) r_83
        · refine qm_ret (E := E) (K := K) (σ := [some (.ref p0), some v_rows, some v_chances, some v_2, some v_57]) (m_callP (am_cons off_same (m_pure (x_var (i := 1) rfl (Rp.mono _ (e_5.trans (e_20.trans (e_41.trans (e_60.trans e_75)))) exz r_rows))) (am_cons off_same (m_pure (x_var (i := 4) rfl (Rp.mono _ e_75 exz r_62))) (am_one (m_callM (i := 0) rfl (am_pure (a_cons (x_op o_add (x_var (i := 4) rfl (Rp.mono _ e_75 exz r_62)) (x_int (i := 1))) (a_one (x_cb o_len (a_one (x_v (x_var (i := 1) rfl (Rp.mono _ (e_5.trans (e_20.trans (e_41.trans (e_60.trans e_75)))) exz r_rows))))))))))))) s_76 hc_65 (Rt.mono _ e_75 exz hx_67) hm fun a_84 v_85 ws_91 I_86 C_92 H_87 e_88 s_89 hc_93 k_94 hx_95 r_90 hm => ?_
          have fr_96 := fr_pool fr_68 k_94
          exact ret_pool hm (e_5.trans (e_20.trans (e_41.trans (e_60.trans (e_75.trans e_88))))) fr_96 s_89 hc_93 hx_95 r_90
def m__law_starts_told (ar_rows : (List (Int × Int))) (ar_chances : (List (Int × Int))) (ar_cost : Int) (ar_loss : Int) : Res Bool :=
  ((un rLen ((Res.ok ar_chances).bind (filR (fun (x_1 : (Int × Int)) => (bin rLe (bin rMul (Res.ok ar_loss) (un (fun p => Res.ok p.1) (Res.ok x_1))) (bin rMul (Res.ok ar_cost) (un (fun p => Res.ok p.2) (Res.ok x_1))))) (fun (x_1 : (Int × Int)) => (Res.ok x_1))))).bind fun (due_8 : Int) => ((un (fun (p : ((List (Int × Int)) × Int × Int)) => m_best_start p.1 p.2.1 p.2.2) (pair (un idR (Res.ok ar_rows)) (pair (Res.ok ar_cost) (Res.ok ar_loss)))).bind fun (best_15 : Int) => (ifR (orR (un notR (un m__law_is_int (Res.ok best_15))) (bin neR (Res.ok best_15) (Res.ok due_8))) ((Res.ok false).bind fun a_30 => Res.ok a_30) ((Res.ok ([] : List Int)).bind fun (spent_37 : (List Int)) => (((un rng1 (bin rAdd (un rLen (Res.ok ar_rows)) (Res.ok (1 : Int)))).bind fun xs => loopR (fun (x_64 : Int) (z_52 : (List Int)) => ((bin rMul (Res.ok ar_loss) (un sumR ((slR (Res.ok ar_rows) (Res.ok none) (someR (Res.ok x_64))).bind (mapR (fun (x_76 : (Int × Int)) => (un (fun p => Res.ok p.1) (Res.ok x_76))))))).bind fun (idle_83 : Int) => (((bin rAdd (Res.ok idle_83) (bin rMul (Res.ok ar_cost) (un sumR ((slR (Res.ok ar_rows) (someR (Res.ok x_64)) (Res.ok none)).bind (mapR (fun (x_90 : (Int × Int)) => (bin rAdd (un (fun p => Res.ok p.1) (Res.ok x_90)) (un (fun p => Res.ok p.2) (Res.ok x_90))))))))).bind fun x => push z_52 x).bind fun (spent_97 : (List Int)) => ((un (fun (p : ((List (Int × Int)) × Int × Int × Int)) => m_threshold_expense p.1 p.2.1 p.2.2.1 p.2.2.2) (pair (un idR (Res.ok ar_rows)) (pair (Res.ok x_64) (pair (Res.ok ar_cost) (Res.ok ar_loss))))).bind fun (told_109 : Int) => (ifR (orR (un notR (un m__law_is_int (Res.ok told_109))) (bin neR (Res.ok told_109) (bin ix (Res.ok spent_97) (Res.ok x_64)))) ((Res.ok false).bind fun a_124 => Res.ok (Out.rt a_124)) (Res.ok (Out.nx spent_97))))))) xs spent_37).bind fun (o : Out (List Int) Bool) => match o with | .nx z_136 => ((bin eqR (bin ix (Res.ok z_136) (Res.ok best_15)) (un minL (Res.ok z_136))).bind fun a_157 => Res.ok a_157) | .br _ => Res.bad | .rt r => Res.ok r)))))
abbrev N__law_starts_told : List Str := ["rows", "chances", "cost", "loss", "due", "best", "spent", "start", "idle", "told", "chance", "pair"]
theorem sc__law_starts_told : FnScope N__law_starts_told ["rows", "chances", "cost", "loss"] (defScope s__law_starts_told) := ⟨rfl, rfl, rfl, by decide +kernel, rfl, by decide +kernel, by decide +kernel⟩
theorem bind__law_starts_told {K : PySem.W.Frag} {mg : Str → Option Value} {T : Tx K mg} : Binds K T.d__law_starts_told ["rows", "chances", "cost", "loss"] [] := FunD.bindsN T.F__law_starts_told fun _ _ _ _ _ _ us hl => match us, hl with | [_, _, _, _], _ => rfl
abbrev sp__law_starts_told (K : PySem.W.Frag) : Sp := spP K (tc (pL (pT (tc pI (t1 pI)))) (tc (pL (pT (tc pI (t1 pI)))) (tc pI (t1 pI)))) (fun (p : ((List (Int × Int)) × (List (Int × Int)) × Int × Int)) => m__law_starts_told p.1 p.2.1 p.2.2.1 p.2.2.2) pB
theorem ok__law_starts_told (T : Tx K mg) : FnOk P w K mg base (L2.CX P w) 8 T.f__law_starts_told T.d__law_starts_told ["rows", "chances", "cost", "loss"] (sp__law_starts_told K) := by
  refine T.F__law_starts_told.ok sc__law_starts_told (fun vs H Q E h => ?_) (fun cdv A outer s H vs Q E hr h => ?_)
  · obtain ⟨I, C, a, _, hr, _⟩ := h
    exact Rt.len _ hr
  · obtain ⟨I0, C0, ⟨ar_rows, ar_chances, ar_cost, ar_loss⟩, hs, ⟨v_rows, us0, rfl, r_rows, v_chances, us1, rfl, r_chances, v_cost, us2, rfl, r_cost, v_loss, rfl, r_loss⟩, hm⟩ := h
    have hm : Post (m__law_starts_told ar_rows ar_chances ar_cost ar_loss) (PQ pB I0 C0 Q) (PX E K I0 C0) := hm
    replace r_rows : Rp.r (pL (pT (tc pI (t1 pI)))) ar_rows v_rows I0 Z := Im.im r_rows
    replace r_chances : Rp.r (pL (pT (tc pI (t1 pI)))) ar_chances v_chances I0 Z := Im.im r_chances
    replace r_cost : Rp.r pI ar_cost v_cost I0 Z := Im.im r_cost
    replace r_loss : Rp.r pI ar_loss v_loss I0 Z := Im.im r_loss
    unfold m__law_starts_told at hm
    refine ⟨_, (pss_cons (ps_set (i := 4) sc__law_starts_told.nd rfl (Or.inl rfl) (pe_callB (r := rLen1 K) call_len_seq (by rfl) T.gb_len bt_len (pa_cons (pe_lc (own := [("chance", 10)]) rfl sc__law_starts_told.nd (show PI _ _ _ (iList K _) from pi_list (pv 1)) (blkOk_by (own := [("chance", 10)]) (N := N__law_starts_told) (sc := defScope s__law_starts_told) (by decide +kernel)) (fun _ _ _ _ _ => (pg_name (i := 10) sc__law_starts_told.nd rfl (Or.inl rfl))) (fun _ _ _ _ _ => (pts_one (pt_cmpR op_le (pe_op op_mul (pv 3) (pe_ix (r := rIxT K) ix_tup (pv 10) pe_int (fun _ _ => rfl))) (pe_op op_mul (pv 2) (pe_ix (r := rIxT K) ix_tup (pv 10) pe_int (fun _ _ => rfl))) (nomark _)))) (fun _ _ _ _ _ => (pv 10))) pa_nil))) (pss_cons (ps_set (i := 5) sc__law_starts_told.nd rfl (Or.inl rfl) (pe_call (ok_best_start T) (hr.mono (by decide)) rfl T.g_best_start T.F_best_start.kp bind_best_start .nil passE (pa_cons (pe_callTy (r := rList1 K) call_list_of (by rfl) T.gb_list bt_list (pa_cons (pv 0) pa_nil)) (pa_cons (pv 2) (pa_cons (pv 3) pa_nil))))) (pss_cons (ps_if (PW.pt (pw_or (pt_not (pt_val (pe_call (ok__law_is_int T) (hr.mono (by decide)) rfl T.g__law_is_int T.F__law_is_int.kp bind__law_is_int .nil passE (pa_cons (pv 5) pa_nil)))) (pw_or1 (pt_cmpR op_ne (pv 5) (pv 4) (nomark _))))) (pss_cons (ps_ret pe_bl) pss_nil) pss_nil) (pss_cons (ps_set (i := 6) sc__law_starts_told.nd rfl (Or.inl rfl) (pe_lst pa_nil)) (pss_cons (ps_for (passes_of rfl) rfl (pi_range1 (by rfl) T.gb_range (pa_cons (pe_op op_add (pe_callB (r := rLen1 K) call_len_seq (by rfl) T.gb_len bt_len (pa_cons (pv 0) pa_nil)) pe_int) pa_nil)) (pg_name (i := 7) sc__law_starts_told.nd rfl (Or.inl rfl)) (pss_cons (ps_set (i := 8) sc__law_starts_told.nd rfl (Or.inl rfl) (pe_op op_mul (pv 3) (pe_callB (r := rSum K) (cr_sum rfl) (by rfl) T.gb_sum bt_sum (pa_cons (pe_lc (own := [("pair", 11)]) rfl sc__law_starts_told.nd (show PI _ _ _ (iList K _) from pi_list (pe_slice (r := rSlL K) sl_list (pv 0) po_none (po_some (pv 7)))) (blkOk_by (own := [("pair", 11)]) (N := N__law_starts_told) (sc := defScope s__law_starts_told) (by decide +kernel)) (fun _ _ _ _ _ => (pg_name (i := 11) sc__law_starts_told.nd rfl (Or.inl rfl))) (fun _ _ _ _ _ => pts_nil) (fun _ _ _ _ _ => (pe_ix (r := rIxT K) ix_tup (pv 11) pe_int (fun _ _ => rfl)))) pa_nil)))) (pss_cons (ps_expr (show PE _ _ (tBM K "list" rAppend _ _) from pe_bm PySem.F.plainAttrs_list PySem.F.slot_list_append PySem.F.type_list_append mt_append (pv 6) (pa_cons (pe_op op_add (pv 8) (pe_op op_mul (pv 2) (pe_callB (r := rSum K) (cr_sum rfl) (by rfl) T.gb_sum bt_sum (pa_cons (pe_lc (own := [("pair", 11)]) rfl sc__law_starts_told.nd (show PI _ _ _ (iList K _) from pi_list (pe_slice (r := rSlL K) sl_list (pv 0) (po_some (pv 7)) po_none)) (blkOk_by (own := [("pair", 11)]) (N := N__law_starts_told) (sc := defScope s__law_starts_told) (by decide +kernel)) (fun _ _ _ _ _ => (pg_name (i := 11) sc__law_starts_told.nd rfl (Or.inl rfl))) (fun _ _ _ _ _ => pts_nil) (fun _ _ _ _ _ => (pe_op op_add (pe_ix (r := rIxT K) ix_tup (pv 11) pe_int (fun _ _ => rfl)) (pe_ix (r := rIxT K) ix_tup (pv 11) pe_int (fun _ _ => rfl))))) pa_nil)))) pa_nil))) (pss_cons (ps_set (i := 9) sc__law_starts_told.nd rfl (Or.inl rfl) (pe_call (ok_threshold_expense T) (hr.mono (by decide)) rfl T.g_threshold_expense T.F_threshold_expense.kp bind_threshold_expense .nil passE (pa_cons (pe_callTy (r := rList1 K) call_list_of (by rfl) T.gb_list bt_list (pa_cons (pv 0) pa_nil)) (pa_cons (pv 7) (pa_cons (pv 2) (pa_cons (pv 3) pa_nil)))))) (pss_cons (ps_if (PW.pt (pw_or (pt_not (pt_val (pe_call (ok__law_is_int T) (hr.mono (by decide)) rfl T.g__law_is_int T.F__law_is_int.kp bind__law_is_int .nil passE (pa_cons (pv 9) pa_nil)))) (pw_or1 (pt_cmpR op_ne (pv 9) (pe_ix (r := rIxL K) ix_list (pv 6) (pv 7) (fun _ _ => rfl)) (nomark _))))) (pss_cons (ps_ret pe_bl) pss_nil) pss_nil) pss_nil))))) (pss_cons (ps_ret (pe_cmpR op_eq (pe_ix (r := rIxL K) ix_list (pv 6) (pv 5) (fun _ _ => rfl)) (pe_callB (r := rMin K) (cr_min rfl) (by rfl) T.gb_min bt_min (pa_cons (pv 6) pa_nil)) (nomark _))) pss_nil)))))), ?_⟩
    refine q_asg (E := E) (K := K) (σ := [some v_rows, some v_chances, some v_cost, some v_loss, none, none, none, none, none, none, none, none]) (i := 4) (x_cb o_len (a_one (x_v (x_lcg (i_list (x_var (i := 1) rfl (Rp.mono _ (Ex.refl _) exz r_chances))) g1 (fun _ _ _ _ ⟨_, h, _⟩ => by rw [h]; rfl) (fun x_1 σ2 I_2 C_3 e_4 c_5 ⟨v_6, h, r_7⟩ => by subst h; exact (t_test (x_op o_le (x_op o_mul (x_var (i := 3) rfl (Rp.mono _ e_4 exz r_loss)) (x_k (k := ((0 : Nat) : Int)) (o_pj pj0) (x_var (i := 10) rfl (Rp.mono _ (Ex.refl _) exz r_7)))) (x_op o_mul (x_var (i := 2) rfl (Rp.mono _ e_4 exz r_cost)) (x_k (k := ((1 : Nat) : Int)) (o_pj (pjs pj1)) (x_var (i := 10) rfl (Rp.mono _ (Ex.refl _) exz r_7))))))) (fun x_1 σ2 I_2 C_3 e_4 c_5 ⟨v_6, h, r_7⟩ => by subst h; exact (x_var (i := 10) rfl (Rp.mono _ (Ex.refl _) exz r_7))) (fun _ _ _ _ _ e ⟨v_6, h, r_7⟩ => ⟨v_6, h, Rp.mono _ e exz r_7⟩))))) hs (fun _ _ h => PX.mono (Ex.refl _) (Ex.refl _) h) hm fun due_8 v_9 I_10 H_11 e_12 s_13 r_14 hm => ?_
    refine q_asg (E := E) (K := K) (σ := [some v_rows, some v_chances, some v_cost, some v_loss, some v_9, none, none, none, none, none, none, none]) (i := 5) (x_call (a_cons (x_cb o_list (a_one (x_v (x_var (i := 0) rfl (Rp.mono _ e_12 exz r_rows))))) (a_cons (x_var (i := 2) rfl (Rp.mono _ e_12 exz r_cost)) (a_one (x_var (i := 3) rfl (Rp.mono _ e_12 exz r_loss)))))) s_13 (fun _ _ h => PX.mono e_12 (Ex.refl _) h) hm fun best_15 v_16 I_17 H_18 e_19 s_20 r_21 hm => ?_
    refine s_if (E := E) (K := K) (σ := [some v_rows, some v_chances, some v_cost, some v_loss, some v_9, some v_16, none, none, none, none, none, none]) (t_or (t_not (t_B (x_call (a_one (x_var (i := 5) rfl (Rp.mono _ (Ex.refl _) exz r_21)))))) (t_test (x_op o_neI (x_var (i := 5) rfl (Rp.mono _ (Ex.refl _) exz r_21)) (x_var (i := 4) rfl (Rp.mono _ e_19 exz r_14))))) s_20 (fun _ _ h => PX.mono (e_12.trans e_19) (Ex.refl _) h) hm (fun I_22 H_23 e_24 s_25 hm => ?_) (fun I_26 H_27 e_28 s_29 hm => ?_)
    · refine q_ret (tz := tNext) (E := E) (K := K) (σ := [some v_rows, some v_chances, some v_cost, some v_loss, some v_9, some v_16, none, none, none, none, none, none]) x_bl s_25 (fun _ _ h => PX.mono (e_12.trans (e_19.trans e_24)) (Ex.refl _) h) hm fun a_30 v_31 I_32 H_33 e_34 s_35 r_36 hm => ?_
      exact hm v_31 I_32 H_33 (e_12.trans (e_19.trans (e_24.trans e_34))) (St.less s_35 (Ex.refl _)) (Im.im r_36)
    · refine q_asgN (E := E) (K := K) (σ := [some v_rows, some v_chances, some v_cost, some v_loss, some v_9, some v_16, none, none, none, none, none, none]) (i := 6) (n_lst (R := pI) al_nil (by decide)) s_29 (fun _ _ h => PX.mono (e_12.trans (e_19.trans e_28)) (Ex.refl _) h) hm fun spent_37 p_38 vs_39 I_40 C_41 H_42 e_43 hp_44 s_45 hc_46 k_47 hl_48 hr_49 hm => ?_
      have hB_50 := Ex.free (Ex.refl _) hp_44
      have fr_51 := fr_keep (Ex.refl _) hB_50 k_47
      refine s_forR (E := E) (K := K) (σ := [some v_rows, some v_chances, some v_cost, some v_loss, some v_9, some v_16, some (.ref p_38), none, none, none, none, none]) (fun (z_52 : (List Int)) σ2 I_57 C_58 => ∃ w_54 : Option V, ∃ w_55 : Option V, ∃ w_56 : Option V, σ2 = [some v_rows, some v_chances, some v_cost, some v_loss, some v_9, some v_16, some (.ref p_38), w_54, w_55, w_56, none, none] ∧ (∃ vs_59 : List V, C_58 p_38 = some (.lst vs_59) ∧ vs_59.length ≤ sizeLine ∧ A2 (fun x u => Rp.r pI x u I_57 Z) z_52 vs_59) ∧ Ex C0 C_58) (i_rng1 (a_one (x_op o_add (x_cb o_len (a_one (x_v (x_var (i := 0) rfl (Rp.mono _ (e_12.trans (e_19.trans (e_28.trans e_43))) exz r_rows))))) (x_int (i := 1))))) s_45 (fun _ _ h => PX.mono (e_12.trans (e_19.trans (e_28.trans e_43))) fr_51 h) hm (fun _ e_72 => ⟨none, none, none, rfl, ⟨_, hc_46, hl_48, a2up (Ex.trans (Ex.refl _) e_72) hr_49⟩, fr_51⟩) (fun _ _ _ _ _ => trivial) (fun _ _ _ _ _ e ⟨w_54, w_55, w_56, hs_53, ⟨vs_59, hc_60, hl_61, hr_62⟩, fr_63⟩ => ⟨w_54, w_55, w_56, hs_53, ⟨vs_59, hc_60, hl_61, a2up e hr_62⟩, fr_63⟩) (fun N x_64 v_65 z_52 σ2 I_66 C_67 H_68 e_69 s_70 ⟨w_54, w_55, w_56, hs_53, ⟨vs_59, hc_60, hl_61, hr_62⟩, fr_63⟩ r_71 hm => ?_) (fun z_136 σ2 I_131 C_132 H_133 e_134 s_135 ⟨w_138, w_139, w_140, hs_137, ⟨vs_143, hc_144, hl_145, hr_146⟩, fr_147⟩ hm => ?_)
      · subst hs_53
        refine g1 (K := K) x_64 v_65 I_66 C_67 H_68 _ s_70 r_71 fun σ2 ⟨v_73, hs_75, r_74⟩ => ?_
        subst hs_75
        refine q_asg (E := E) (K := K) (σ := [some v_rows, some v_chances, some v_cost, some v_loss, some v_9, some v_16, some (.ref p_38), some v_73, w_55, w_56, none, none]) (i := 8) (x_op o_mul (x_var (i := 3) rfl (Rp.mono _ (e_12.trans (e_19.trans (e_28.trans (e_43.trans e_69)))) exz r_loss)) (x_cb o_sum (a_one (x_v (x_lc (i_list (x_sl (x_v (x_var (i := 0) rfl (Rp.mono _ (e_12.trans (e_19.trans (e_28.trans (e_43.trans e_69)))) exz r_rows))) p_none (p_some (x_var (i := 7) rfl (Rp.mono _ (Ex.refl _) exz r_74))))) g1 (fun _ _ _ _ ⟨_, h, _⟩ => by rw [h]; rfl) (fun x_76 σ2 I_77 C_78 e_79 c_80 ⟨v_81, h, r_82⟩ => by subst h; exact (x_k (k := ((0 : Nat) : Int)) (o_pj pj0) (x_var (i := 11) rfl (Rp.mono _ (Ex.refl _) exz r_82)))) (fun _ _ _ _ _ e ⟨v_81, h, r_82⟩ => ⟨v_81, h, Rp.mono _ e exz r_82⟩)))))) s_70 (fun _ _ h => PX.mono (e_12.trans (e_19.trans (e_28.trans (e_43.trans e_69)))) fr_63 h) hm fun idle_83 v_84 I_85 H_86 e_87 s_88 r_89 hm => ?_
        refine q_app (E := E) (K := K) (σ := [some v_rows, some v_chances, some v_cost, some v_loss, some v_9, some v_16, some (.ref p_38), some v_73, some v_84, w_56, none, none]) (i := 6) rfl hc_60 (a2up e_87 hr_62) (x_op o_add (x_var (i := 8) rfl (Rp.mono _ (Ex.refl _) exz r_89)) (x_op o_mul (x_var (i := 2) rfl (Rp.mono _ (e_12.trans (e_19.trans (e_28.trans (e_43.trans (e_69.trans e_87))))) exz r_cost)) (x_cb o_sum (a_one (x_v (x_lc (i_list (x_sl (x_v (x_var (i := 0) rfl (Rp.mono _ (e_12.trans (e_19.trans (e_28.trans (e_43.trans (e_69.trans e_87))))) exz r_rows))) (p_some (x_var (i := 7) rfl (Rp.mono _ e_87 exz r_74))) p_none)) g1 (fun _ _ _ _ ⟨_, h, _⟩ => by rw [h]; rfl) (fun x_90 σ2 I_91 C_92 e_93 c_94 ⟨v_95, h, r_96⟩ => by subst h; exact (x_op o_add (x_k (k := ((0 : Nat) : Int)) (o_pj pj0) (x_var (i := 11) rfl (Rp.mono _ (Ex.refl _) exz r_96))) (x_k (k := ((1 : Nat) : Int)) (o_pj (pjs pj1)) (x_var (i := 11) rfl (Rp.mono _ (Ex.refl _) exz r_96))))) (fun _ _ _ _ _ e ⟨v_95, h, r_96⟩ => ⟨v_95, h, Rp.mono _ e exz r_96⟩))))))) s_88 (fun _ _ h => PX.mono (e_12.trans (e_19.trans (e_28.trans (e_43.trans (e_69.trans e_87))))) fr_63 h) hm fun spent_97 vs_98 I_99 C_100 H_101 e_102 s_103 hc_104 k_105 hl_106 hr_107 hm => ?_
        have fr_108 := fr_keep fr_63 hB_50 k_105
        refine q_asg (E := E) (K := K) (σ := [some v_rows, some v_chances, some v_cost, some v_loss, some v_9, some v_16, some (.ref p_38), some v_73, some v_84, w_56, none, none]) (i := 9) (x_call (a_cons (x_cb o_list (a_one (x_v (x_var (i := 0) rfl (Rp.mono _ (e_12.trans (e_19.trans (e_28.trans (e_43.trans (e_69.trans (e_87.trans e_102)))))) exz r_rows))))) (a_cons (x_var (i := 7) rfl (Rp.mono _ (e_87.trans e_102) exz r_74)) (a_cons (x_var (i := 2) rfl (Rp.mono _ (e_12.trans (e_19.trans (e_28.trans (e_43.trans (e_69.trans (e_87.trans e_102)))))) exz r_cost)) (a_one (x_var (i := 3) rfl (Rp.mono _ (e_12.trans (e_19.trans (e_28.trans (e_43.trans (e_69.trans (e_87.trans e_102)))))) exz r_loss))))))) s_103 (fun _ _ h => PX.mono (e_12.trans (e_19.trans (e_28.trans (e_43.trans (e_69.trans (e_87.trans e_102)))))) fr_108 h) hm fun told_109 v_110 I_111 H_112 e_113 s_114 r_115 hm => ?_
        refine s_if (E := E) (K := K) (σ := [some v_rows, some v_chances, some v_cost, some v_loss, some v_9, some v_16, some (.ref p_38), some v_73, some v_84, some v_110, none, none]) (t_or (t_not (t_B (x_call (a_one (x_var (i := 9) rfl (Rp.mono _ (Ex.refl _) exz r_115)))))) (t_test (x_op o_neI (x_var (i := 9) rfl (Rp.mono _ (Ex.refl _) exz r_115)) (x_op o_ix (x_cell (i := 6) rfl hc_104 hl_106 (a2up e_113 hr_107)) (x_var (i := 7) rfl (Rp.mono _ (e_87.trans (e_102.trans e_113)) exz r_74)))))) s_114 (fun _ _ h => PX.mono (e_12.trans (e_19.trans (e_28.trans (e_43.trans (e_69.trans (e_87.trans (e_102.trans e_113))))))) fr_108 h) hm (fun I_116 H_117 e_118 s_119 hm => ?_) (fun I_120 H_121 e_122 s_123 hm => ?_)
        · refine q_ret (tz := tNext) (E := E) (K := K) (σ := [some v_rows, some v_chances, some v_cost, some v_loss, some v_9, some v_16, some (.ref p_38), some v_73, some v_84, some v_110, none, none]) x_bl s_119 (fun _ _ h => PX.mono (e_12.trans (e_19.trans (e_28.trans (e_43.trans (e_69.trans (e_87.trans (e_102.trans (e_113.trans e_118)))))))) fr_108 h) hm fun a_124 v_125 I_126 H_127 e_128 s_129 r_130 hm => ?_
          exact hm v_125 I_126 H_127 (e_12.trans (e_19.trans (e_28.trans (e_43.trans (e_69.trans (e_87.trans (e_102.trans (e_113.trans (e_118.trans e_128))))))))) (St.less s_129 fr_108) (Im.im r_130)
        · exact hm _ _ _ _ (e_87.trans (e_102.trans (e_113.trans e_122))) s_123 ⟨some v_73, some v_84, some v_110, rfl, ⟨_, hc_104, hl_106, a2up (e_113.trans e_122) hr_107⟩, fr_108⟩
      subst hs_137
      obtain ⟨I_148, C_149, e_150, s_151, h_152, k_153⟩ := freeze s_135 hc_144
      have r_155 := frz_list e_150 h_152 hl_145 hr_146
      have fr_156 := fr_keep fr_147 hB_50 k_153
      refine q_ret (tz := tNext) (E := E) (K := K) (σ := [some v_rows, some v_chances, some v_cost, some v_loss, some v_9, some v_16, some (.ref p_38), w_138, w_139, w_140, none, none]) (x_op o_eqI (x_op o_ix (x_v (x_var (i := 6) rfl (Rp.mono _ (Ex.refl _) exz r_155))) (x_var (i := 5) rfl (Rp.mono _ (e_28.trans (e_43.trans (e_134.trans e_150))) exz r_21))) (x_cb o_minL (a_one (x_v (x_var (i := 6) rfl (Rp.mono _ (Ex.refl _) exz r_155)))))) s_151 (fun _ _ h => PX.mono (e_12.trans (e_19.trans (e_28.trans (e_43.trans (e_134.trans e_150))))) fr_156 h) hm fun a_157 v_158 I_159 H_160 e_161 s_162 r_163 hm => ?_
      exact hm v_158 I_159 H_160 (e_12.trans (e_19.trans (e_28.trans (e_43.trans (e_134.trans (e_150.trans e_161)))))) (St.less s_162 fr_156) (Im.im r_163)
def m__law_refused (ar_rows : (List (Int × Int))) (ar_chances : (List (Int × Int))) (ar_which : Int) : Res (Str × Int) :=
  ((tryR knE (fun c => isaE c .DeskError) (ifR (bin eqR (Res.ok ar_which) (Res.ok (0 : Int))) ((un (fun (p : ((List (Int × Int)) × (List (Int × Int)))) => m_mean_loss p.1 p.2) (pair (Res.ok ar_rows) (Res.ok ar_chances))).bind fun (b_21 : (Int × Int)) => (Res.ok (Out.nx ()))) (ifR (bin eqR (Res.ok ar_which) (Res.ok (1 : Int))) ((un (fun (p : ((List (Int × Int)) × Int × Int × Int)) => m_threshold_expense p.1 p.2.1 p.2.2.1 p.2.2.2) (pair (Res.ok ar_rows) (pair (Res.ok (0 : Int)) (pair (Res.ok (1 : Int)) (Res.ok (2 : Int)))))).bind fun (b_34 : Int) => (Res.ok (Out.nx ()))) ((un (fun (p : ((List (Int × Int)) × Int × Int)) => m_best_start p.1 p.2.1 p.2.2) (pair (Res.ok ar_rows) (pair (Res.ok (1 : Int)) (Res.ok (2 : Int))))).bind fun (b_39 : Int) => (Res.ok (Out.nx ()))))) (fun c_51 j_52 => (ifR (andR (Res.ok (isaE c_51 .BadSignals)) (andR (un notR (Res.ok (isaE c_51 .TooMany))) (un notR (Res.ok (isaE c_51 .Unlike))))) ((pair (Res.ok ("signals" : Str)) (Res.ok j_52)).bind fun a_64 => Res.ok (Out.rt a_64)) (ifR (andR (Res.ok (isaE c_51 .TooMany)) (andR (un notR (Res.ok (isaE c_51 .BadSignals))) (un notR (Res.ok (isaE c_51 .Unlike))))) ((pair (Res.ok ("many" : Str)) (Res.ok j_52)).bind fun a_79 => Res.ok (Out.rt a_79)) (ifR (andR (Res.ok (isaE c_51 .Unlike)) (andR (un notR (Res.ok (isaE c_51 .BadSignals))) (un notR (Res.ok (isaE c_51 .TooMany))))) ((pair (Res.ok ("unlike" : Str)) (Res.ok j_52)).bind fun a_94 => Res.ok (Out.rt a_94)) ((pair (Res.ok ("other" : Str)) (Res.ok (0 : Int))).bind fun a_101 => Res.ok (Out.rt a_101))))))).bind fun (o : Out Unit (Str × Int)) => match o with | .nx z_2 => ((pair (Res.ok ("none" : Str)) (Res.ok (0 : Int))).bind fun a_113 => Res.ok a_113) | .br _ => Res.bad | .rt r => Res.ok r)
abbrev N__law_refused : List Str := ["rows", "chances", "which", "e"]
theorem sc__law_refused : FnScope N__law_refused ["rows", "chances", "which"] (defScope s__law_refused) := ⟨rfl, rfl, rfl, by decide +kernel, rfl, by decide +kernel, by decide +kernel⟩
theorem bind__law_refused {K : PySem.W.Frag} {mg : Str → Option Value} {T : Tx K mg} : Binds K T.d__law_refused ["rows", "chances", "which"] [] := FunD.bindsN T.F__law_refused fun _ _ _ _ _ _ us hl => match us, hl with | [_, _, _], _ => rfl
abbrev sp__law_refused (K : PySem.W.Frag) : Sp := spP K (tc (pL (pT (tc pI (t1 pI)))) (tc (pL (pT (tc pI (t1 pI)))) (t1 pI))) (fun (p : ((List (Int × Int)) × (List (Int × Int)) × Int)) => m__law_refused p.1 p.2.1 p.2.2) (pT (tc pS (t1 pI)))
theorem ok__law_refused (T : Tx K mg) : FnOk P w K mg base (L2.CX P w) 8 T.f__law_refused T.d__law_refused ["rows", "chances", "which"] (sp__law_refused K) := by
  refine T.F__law_refused.ok sc__law_refused (fun vs H Q E h => ?_) (fun cdv A outer s H vs Q E hr h => ?_)
  · obtain ⟨I, C, a, _, hr, _⟩ := h
    exact Rt.len _ hr
  · obtain ⟨I0, C0, ⟨ar_rows, ar_chances, ar_which⟩, hs, ⟨v_rows, us0, rfl, r_rows, v_chances, us1, rfl, r_chances, v_which, rfl, r_which⟩, hm⟩ := h
    have hm : Post (m__law_refused ar_rows ar_chances ar_which) (PQ (pT (tc pS (t1 pI))) I0 C0 Q) (PX E K I0 C0) := hm
    replace r_rows : Rp.r (pL (pT (tc pI (t1 pI)))) ar_rows v_rows I0 Z := Im.im r_rows
    replace r_chances : Rp.r (pL (pT (tc pI (t1 pI)))) ar_chances v_chances I0 Z := Im.im r_chances
    replace r_which : Rp.r pI ar_which v_which I0 Z := Im.im r_which
    unfold m__law_refused at hm
    refine ⟨_, (Evl.pss_cut (ps_tryS (c := .ref (He.ga K "DeskError")) (i := 3) rfl rfl sc__law_refused.nd rfl rfl ⟨rfl, by decide, Or.inl (T.xs .DeskError (by decide)).g⟩ (takes_of rfl rfl rfl rfl) (fun W pn xe tk hp => (pss_cons (ps_if (pt_cmpR op_eq (pv 2) pe_int (nomark _)) (pss_cons (ps_expr (by exact (pe_callS (ok_mean_loss T) (hr.mono (by decide)) rfl T.g_mean_loss T.F_mean_loss.kp bind_mean_loss (fun σ => passAt tk σ) (by exact (pa_cons (pv 0) (pa_cons (pv 1) pa_nil)))))) pss_nil) (pss_cons (ps_if (pt_cmpR op_eq (pv 2) pe_int (nomark _)) (pss_cons (ps_expr (by exact (pe_callS (ok_threshold_expense T) (hr.mono (by decide)) rfl T.g_threshold_expense T.F_threshold_expense.kp bind_threshold_expense (fun σ => passAt tk σ) (by exact (pa_cons (pv 0) (pa_cons pe_int (pa_cons pe_int (pa_cons pe_int pa_nil)))))))) pss_nil) (pss_cons (ps_expr (by exact (pe_callS (ok_best_start T) (hr.mono (by decide)) rfl T.g_best_start T.F_best_start.kp bind_best_start (fun σ => passAt tk σ) (by exact (pa_cons (pv 0) (pa_cons pe_int (pa_cons pe_int pa_nil))))))) pss_nil)) pss_nil)) pss_nil)) (fun a oe cls d pn hz hf => (pss_cons (ps_if (PW.pt (pw_and (pt_val (pe_callB (r := rIsX K a cls d) (call_isX hz hf) (by rfl) T.gb_isinstance bt_isinstance (pa_cons (pv 3) (pa_cons (pe_glob (v := .ref (He.ga K "BadSignals")) rfl (T.xs .BadSignals (by decide)).g rfl) pa_nil)))) (pw_and (pt_not (pt_val (pe_callB (r := rIsX K a cls d) (call_isX hz hf) (by rfl) T.gb_isinstance bt_isinstance (pa_cons (pv 3) (pa_cons (pe_glob (v := .ref (He.ga K "TooMany")) rfl (T.xs .TooMany (by decide)).g rfl) pa_nil))))) (pw_and1 (pt_not (pt_val (pe_callB (r := rIsX K a cls d) (call_isX hz hf) (by rfl) T.gb_isinstance bt_isinstance (pa_cons (pv 3) (pa_cons (pe_glob (v := .ref (He.ga K "Unlike")) rfl (T.xs .Unlike (by decide)).g rfl) pa_nil))))))))) (pss_cons (ps_ret (pe_tup (pa_cons pe_str (pa_cons (pe_xfX hz hf (pv 3)) pa_nil)))) pss_nil) pss_nil) (pss_cons (ps_if (PW.pt (pw_and (pt_val (pe_callB (r := rIsX K a cls d) (call_isX hz hf) (by rfl) T.gb_isinstance bt_isinstance (pa_cons (pv 3) (pa_cons (pe_glob (v := .ref (He.ga K "TooMany")) rfl (T.xs .TooMany (by decide)).g rfl) pa_nil)))) (pw_and (pt_not (pt_val (pe_callB (r := rIsX K a cls d) (call_isX hz hf) (by rfl) T.gb_isinstance bt_isinstance (pa_cons (pv 3) (pa_cons (pe_glob (v := .ref (He.ga K "BadSignals")) rfl (T.xs .BadSignals (by decide)).g rfl) pa_nil))))) (pw_and1 (pt_not (pt_val (pe_callB (r := rIsX K a cls d) (call_isX hz hf) (by rfl) T.gb_isinstance bt_isinstance (pa_cons (pv 3) (pa_cons (pe_glob (v := .ref (He.ga K "Unlike")) rfl (T.xs .Unlike (by decide)).g rfl) pa_nil))))))))) (pss_cons (ps_ret (pe_tup (pa_cons pe_str (pa_cons (pe_xfX hz hf (pv 3)) pa_nil)))) pss_nil) pss_nil) (pss_cons (ps_if (PW.pt (pw_and (pt_val (pe_callB (r := rIsX K a cls d) (call_isX hz hf) (by rfl) T.gb_isinstance bt_isinstance (pa_cons (pv 3) (pa_cons (pe_glob (v := .ref (He.ga K "Unlike")) rfl (T.xs .Unlike (by decide)).g rfl) pa_nil)))) (pw_and (pt_not (pt_val (pe_callB (r := rIsX K a cls d) (call_isX hz hf) (by rfl) T.gb_isinstance bt_isinstance (pa_cons (pv 3) (pa_cons (pe_glob (v := .ref (He.ga K "BadSignals")) rfl (T.xs .BadSignals (by decide)).g rfl) pa_nil))))) (pw_and1 (pt_not (pt_val (pe_callB (r := rIsX K a cls d) (call_isX hz hf) (by rfl) T.gb_isinstance bt_isinstance (pa_cons (pv 3) (pa_cons (pe_glob (v := .ref (He.ga K "TooMany")) rfl (T.xs .TooMany (by decide)).g rfl) pa_nil))))))))) (pss_cons (ps_ret (pe_tup (pa_cons pe_str (pa_cons (pe_xfX hz hf (pv 3)) pa_nil)))) pss_nil) pss_nil) (pss_cons (ps_ret (pe_tup (pa_cons pe_str (pa_cons pe_int pa_nil)))) pss_nil)))))) (pss_cons (ps_ret (pe_tup (pa_cons pe_str (pa_cons pe_int pa_nil)))) pss_nil)), ?_⟩
    refine s_try (E := E) (K := K) (σ := [some v_rows, some v_chances, some v_which, none]) (mg := mg) (fun (z_2 : Unit) σ2 I_9 C_10 => ∃ w_8 : Option V, σ2 = [some v_rows, some v_chances, some v_which, w_8] ∧ Ex C0 C_10) ((fun (z_1 : Unit) σ2 I_4 C_5 => σ2 = [some v_rows, some v_chances, some v_which, none] ∧ Ex C0 C_5) ()) (fun c h => ⟨T.ex c .DeskError h (by decide), T.xs c h⟩) (fun _ _ _ e ⟨hs_3, fr_6⟩ => fun _ _ h => PX.mono (Ex.trans (Ex.refl _) e) fr_6 h) (fun _ _ _ _ e ⟨hs_3, fr_6⟩ => ⟨hs_3, fr_6⟩) hm (fun N W hW_12 hm => ?_) (fun N c_51 j_52 a_53 cls_55 d_54 σ2 I_44 C_45 H_46 kn_50 cg_49 e_47 s_48 ⟨hs_3, fr_6⟩ hm => ?_) (fun z_2 σ2 I_108 C_109 H_110 e_111 s_112 ⟨w_8, hs_7, fr_11⟩ hm => ?_)
    · refine s_if (E := WE W _) (K := K) (σ := [some v_rows, some v_chances, some v_which, none]) (t_test (x_op o_eqI (x_var (i := 2) rfl (Rp.mono _ (Ex.refl _) exz r_which)) (x_int (i := 0)))) hs (hW_12 _ _ _ (Ex.refl _) ⟨rfl, (Ex.refl _)⟩) hm (fun I_13 H_14 e_15 s_16 hm => ?_) (fun I_17 H_18 e_19 s_20 hm => ?_)
      · refine s_expr (E := WE W _) (K := K) (σ := [some v_rows, some v_chances, some v_which, none]) (x_callS (a_cons (x_var (i := 0) rfl (Rp.mono _ e_15 exz r_rows)) (a_one (x_var (i := 1) rfl (Rp.mono _ e_15 exz r_chances))))) s_16 (hW_12 _ _ _ e_15 ⟨rfl, (Ex.refl _)⟩) hm fun b_21 I_22 H_23 e_24 s_25 hm => ?_
        exact hm _ _ _ _ (e_15.trans e_24) s_25 ⟨none, rfl, (Ex.refl _)⟩
      · refine s_if (E := WE W _) (K := K) (σ := [some v_rows, some v_chances, some v_which, none]) (t_test (x_op o_eqI (x_var (i := 2) rfl (Rp.mono _ e_19 exz r_which)) (x_int (i := 1)))) s_20 (hW_12 _ _ _ e_19 ⟨rfl, (Ex.refl _)⟩) hm (fun I_26 H_27 e_28 s_29 hm => ?_) (fun I_30 H_31 e_32 s_33 hm => ?_)
        · refine s_expr (E := WE W _) (K := K) (σ := [some v_rows, some v_chances, some v_which, none]) (x_callS (a_cons (x_var (i := 0) rfl (Rp.mono _ (e_19.trans e_28) exz r_rows)) (a_cons (x_int (i := 0)) (a_cons (x_int (i := 1)) (a_one (x_int (i := 2))))))) s_29 (hW_12 _ _ _ (e_19.trans e_28) ⟨rfl, (Ex.refl _)⟩) hm fun b_34 I_35 H_36 e_37 s_38 hm => ?_
          exact hm _ _ _ _ (e_19.trans (e_28.trans e_37)) s_38 ⟨none, rfl, (Ex.refl _)⟩
        · refine s_expr (E := WE W _) (K := K) (σ := [some v_rows, some v_chances, some v_which, none]) (x_callS (a_cons (x_var (i := 0) rfl (Rp.mono _ (e_19.trans e_32) exz r_rows)) (a_cons (x_int (i := 1)) (a_one (x_int (i := 2)))))) s_33 (hW_12 _ _ _ (e_19.trans e_32) ⟨rfl, (Ex.refl _)⟩) hm fun b_39 I_40 H_41 e_42 s_43 hm => ?_
          exact hm _ _ _ _ (e_19.trans (e_32.trans e_42)) s_43 ⟨none, rfl, (Ex.refl _)⟩
    · subst hs_3
      refine s_if (E := E) (K := K) (σ := [some v_rows, some v_chances, some v_which, some (.ref a_53)]) (t_and (t_B (x_isE (Cg.up (Ex.refl _) cg_49) (T.ki _ .BadSignals kn_50 (by decide)) (by rfl))) (t_and (t_not (t_B (x_isE (Cg.up (Ex.refl _) cg_49) (T.ki _ .TooMany kn_50 (by decide)) (by rfl)))) (t_not (t_B (x_isE (Cg.up (Ex.refl _) cg_49) (T.ki _ .Unlike kn_50 (by decide)) (by rfl)))))) s_48 (fun _ _ h => PX.mono e_47 fr_6 h) hm (fun I_56 H_57 e_58 s_59 hm => ?_) (fun I_60 H_61 e_62 s_63 hm => ?_)
      · refine q_ret (tz := tNext) (E := E) (K := K) (σ := [some v_rows, some v_chances, some v_which, some (.ref a_53)]) (x_tup (a_cons (x_str (by decide +kernel)) (a_one (x_at (Cg.up e_58 cg_49) (by rfl)))) (Nat.le_of_ble_eq_true rfl)) s_59 (fun _ _ h => PX.mono (e_47.trans e_58) fr_6 h) hm fun a_64 v_65 I_66 H_67 e_68 s_69 r_70 hm => ?_
        exact hm v_65 I_66 H_67 (e_47.trans (e_58.trans e_68)) (St.less s_69 fr_6) (Im.im r_70)
      · refine s_if (E := E) (K := K) (σ := [some v_rows, some v_chances, some v_which, some (.ref a_53)]) (t_and (t_B (x_isE (Cg.up e_62 cg_49) (T.ki _ .TooMany kn_50 (by decide)) (by rfl))) (t_and (t_not (t_B (x_isE (Cg.up e_62 cg_49) (T.ki _ .BadSignals kn_50 (by decide)) (by rfl)))) (t_not (t_B (x_isE (Cg.up e_62 cg_49) (T.ki _ .Unlike kn_50 (by decide)) (by rfl)))))) s_63 (fun _ _ h => PX.mono (e_47.trans e_62) fr_6 h) hm (fun I_71 H_72 e_73 s_74 hm => ?_) (fun I_75 H_76 e_77 s_78 hm => ?_)
        · refine q_ret (tz := tNext) (E := E) (K := K) (σ := [some v_rows, some v_chances, some v_which, some (.ref a_53)]) (x_tup (a_cons (x_str (by decide +kernel)) (a_one (x_at (Cg.up (e_62.trans e_73) cg_49) (by rfl)))) (Nat.le_of_ble_eq_true rfl)) s_74 (fun _ _ h => PX.mono (e_47.trans (e_62.trans e_73)) fr_6 h) hm fun a_79 v_80 I_81 H_82 e_83 s_84 r_85 hm => ?_
          exact hm v_80 I_81 H_82 (e_47.trans (e_62.trans (e_73.trans e_83))) (St.less s_84 fr_6) (Im.im r_85)
        · refine s_if (E := E) (K := K) (σ := [some v_rows, some v_chances, some v_which, some (.ref a_53)]) (t_and (t_B (x_isE (Cg.up (e_62.trans e_77) cg_49) (T.ki _ .Unlike kn_50 (by decide)) (by rfl))) (t_and (t_not (t_B (x_isE (Cg.up (e_62.trans e_77) cg_49) (T.ki _ .BadSignals kn_50 (by decide)) (by rfl)))) (t_not (t_B (x_isE (Cg.up (e_62.trans e_77) cg_49) (T.ki _ .TooMany kn_50 (by decide)) (by rfl)))))) s_78 (fun _ _ h => PX.mono (e_47.trans (e_62.trans e_77)) fr_6 h) hm (fun I_86 H_87 e_88 s_89 hm => ?_) (fun I_90 H_91 e_92 s_93 hm => ?_)
          · refine q_ret (tz := tNext) (E := E) (K := K) (σ := [some v_rows, some v_chances, some v_which, some (.ref a_53)]) (x_tup (a_cons (x_str (by decide +kernel)) (a_one (x_at (Cg.up (e_62.trans (e_77.trans e_88)) cg_49) (by rfl)))) (Nat.le_of_ble_eq_true rfl)) s_89 (fun _ _ h => PX.mono (e_47.trans (e_62.trans (e_77.trans e_88))) fr_6 h) hm fun a_94 v_95 I_96 H_97 e_98 s_99 r_100 hm => ?_
            exact hm v_95 I_96 H_97 (e_47.trans (e_62.trans (e_77.trans (e_88.trans e_98)))) (St.less s_99 fr_6) (Im.im r_100)
          · refine q_ret (tz := tNext) (E := E) (K := K) (σ := [some v_rows, some v_chances, some v_which, some (.ref a_53)]) (x_tup (a_cons (x_str (by decide +kernel)) (a_one (x_int (i := 0)))) (Nat.le_of_ble_eq_true rfl)) s_93 (fun _ _ h => PX.mono (e_47.trans (e_62.trans (e_77.trans e_92))) fr_6 h) hm fun a_101 v_102 I_103 H_104 e_105 s_106 r_107 hm => ?_
            exact hm v_102 I_103 H_104 (e_47.trans (e_62.trans (e_77.trans (e_92.trans e_105)))) (St.less s_106 fr_6) (Im.im r_107)
    subst hs_7
    refine q_ret (tz := tNext) (E := E) (K := K) (σ := [some v_rows, some v_chances, some v_which, w_8]) (x_tup (a_cons (x_str (by decide +kernel)) (a_one (x_int (i := 0)))) (Nat.le_of_ble_eq_true rfl)) s_112 (fun _ _ h => PX.mono e_111 fr_11 h) hm fun a_113 v_114 I_115 H_116 e_117 s_118 r_119 hm => ?_
    exact hm v_114 I_115 H_116 (e_111.trans e_117) (St.less s_118 fr_11) (Im.im r_119)
def m__law_refused_right (ar_rows : (List (Int × Int))) (a_pool : Pl) : Res (Bool × Pl) :=
  ((bin rCatR (Res.ok ar_rows) ((un rng1 (bin rSub (Res.ok (24 : Int)) (un rLen (Res.ok ar_rows)))).bind (mapR (fun (x_1 : Int) => (pair (Res.ok x_1) (Res.ok (1 : Int))))))).bind fun (full_8 : (List (Int × Int))) => (((binM ix (liftM (consR (pair (Res.ok (0 : Int)) (Res.ok (0 : Int))) (consR (pair (un rNeg (Res.ok (1 : Int))) (Res.ok (5 : Int))) (consR (pair (Res.ok (5 : Int)) (un rNeg (Res.ok (1 : Int)))) (consR (pair (Res.ok (100001 : Int)) (Res.ok (0 : Int))) (consR (pair (Res.ok (0 : Int)) (Res.ok (100001 : Int))) (consR (pair (un rNeg (Res.ok (3 : Int))) (Res.ok (4 : Int))) (Res.ok [])))))))) (callM m__law_take (liftM (Res.ok (6 : Int))))) a_pool).bind fun (bad_15 : (Int × Int) × Pl) => (((callM m__law_take (liftM (Res.ok (24 : Int)))) bad_15.2).bind fun (at_28 : Int × Pl) => ((bin rCatR (bin rCatR (slR (Res.ok full_8) (Res.ok none) (someR (Res.ok at_28.1))) (consR (Res.ok bad_15.1) (Res.ok []))) (slR (Res.ok full_8) (someR (bin rAdd (Res.ok at_28.1) (Res.ok (1 : Int)))) (Res.ok none))).bind fun (spoilt_41 : (List (Int × Int))) => (((un rng1 (Res.ok (24 : Int))).bind (mapR (fun (x_48 : Int) => (pair (Res.ok (1 : Int)) (Res.ok (2 : Int)))))).bind fun (halves_55 : (List (Int × Int))) => (((slM (Res.ok halves_55) (liftM (Res.ok none)) (unM (fun i => Res.ok (some i)) (callM m__law_take (liftM (Res.ok (24 : Int)))))) at_28.2).bind fun (few_62 : (List (Int × Int)) × Pl) => (((un rng1 (Res.ok (3 : Int))).bind fun xs => loopR (fun (x_82 : Int) (z_75 : Unit) => (ifR (orR (bin neR (un (fun (p : ((List (Int × Int)) × (List (Int × Int)) × Int)) => m__law_refused p.1 p.2.1 p.2.2) (pair (Res.ok full_8) (pair (Res.ok halves_55) (Res.ok x_82)))) (pair (Res.ok ("none" : Str)) (Res.ok (0 : Int)))) (bin neR (un (fun (p : ((List (Int × Int)) × (List (Int × Int)) × Int)) => m__law_refused p.1 p.2.1 p.2.2) (pair (Res.ok ([] : List (Int × Int))) (pair (Res.ok few_62.1) (Res.ok x_82)))) (pair (Res.ok ("signals" : Str)) (Res.ok (0 : Int))))) ((Res.ok false).bind fun a_102 => Res.ok (Out.rt (a_102, few_62.2))) (ifR (bin neR (un (fun (p : ((List (Int × Int)) × (List (Int × Int)) × Int)) => m__law_refused p.1 p.2.1 p.2.2) (pair (Res.ok spoilt_41) (pair (Res.ok few_62.1) (Res.ok x_82)))) (pair (Res.ok ("signals" : Str)) (Res.ok at_28.1))) ((Res.ok false).bind fun a_117 => Res.ok (Out.rt (a_117, few_62.2))) (ifR (bin neR (un (fun (p : ((List (Int × Int)) × (List (Int × Int)) × Int)) => m__law_refused p.1 p.2.1 p.2.2) (pair (bin rCatR (Res.ok spoilt_41) (consR (pair (Res.ok (0 : Int)) (Res.ok (0 : Int))) (Res.ok []))) (pair (Res.ok few_62.1) (Res.ok x_82)))) (pair (Res.ok ("many" : Str)) (Res.ok (24 : Int)))) ((Res.ok false).bind fun a_132 => Res.ok (Out.rt (a_132, few_62.2))) (Res.ok (Out.nx ())))))) xs ()).bind fun (o : Out Unit (Bool × Pl)) => match o with | .nx z_144 => ((andR (bin eqR (un (fun (p : ((List (Int × Int)) × (List (Int × Int)) × Int)) => m__law_refused p.1 p.2.1 p.2.2) (pair (Res.ok full_8) (pair (Res.ok few_62.1) (Res.ok (0 : Int))))) (pair (Res.ok ("unlike" : Str)) (Res.ok (1 : Int)))) (bin eqR (un (fun (p : ((List (Int × Int)) × (List (Int × Int)) × Int)) => m__law_refused p.1 p.2.1 p.2.2) (pair (Res.ok full_8) (pair (bin rCatR (Res.ok halves_55) (consR (pair (Res.ok (1 : Int)) (Res.ok (2 : Int))) (Res.ok []))) (Res.ok (0 : Int))))) (pair (Res.ok ("unlike" : Str)) (Res.ok (1 : Int))))).bind fun a_151 => Res.ok (a_151, few_62.2)) | .br _ => Res.bad | .rt r => Res.ok r)))))))
abbrev N__law_refused_right : List Str := ["pool", "rows", "full", "bad", "at", "spoilt", "halves", "few", "which", "k"]
theorem sc__law_refused_right : FnScope N__law_refused_right ["pool", "rows"] (defScope s__law_refused_right) := ⟨rfl, rfl, rfl, by decide +kernel, rfl, by decide +kernel, by decide +kernel⟩
theorem bind__law_refused_right {K : PySem.W.Frag} {mg : Str → Option Value} {T : Tx K mg} : Binds K T.d__law_refused_right ["pool", "rows"] [] := FunD.bindsN T.F__law_refused_right fun _ _ _ _ _ _ us hl => match us, hl with | [_, _], _ => rfl
abbrev sp__law_refused_right (K : PySem.W.Frag) : Sp := spM pM (t1 (pL (pT (tc pI (t1 pI))))) m__law_refused_right pB
theorem ok__law_refused_right (T : Tx K mg) : FnOk P w K mg base (L2.CX P w) 9 T.f__law_refused_right T.d__law_refused_right ["pool", "rows"] (sp__law_refused_right K) := by
  refine T.F__law_refused_right.ok sc__law_refused_right (fun vs H Q E h => ?_) (fun cdv A outer s H vs Q E hr h => ?_)
  · obtain ⟨I, C, p, ws, us, x, a, rfl, _, _, _, hr, _⟩ := h
    exact congrArg (· + 1) (Rt.len _ hr)
  · obtain ⟨I0, C0, p0, ws0, us, a_pool, ar_rows, rfl, hs, hc0, hx1, ⟨v_rows, rfl, r_rows⟩, hm⟩ := h
    have hx0 := It.im (C' := Z) hx1
    have hm : Post (m__law_refused_right ar_rows a_pool) (PM p0 pM pB I0 C0 Q) XF := hm
    replace r_rows : Rp.r (pL (pT (tc pI (t1 pI)))) ar_rows v_rows I0 Z := Im.im r_rows
    unfold m__law_refused_right at hm
    refine ⟨_, (pss_cons (ps_set (i := 2) sc__law_refused_right.nd rfl (Or.inl rfl) (pe_op op_cat (pv 1) (pe_lc (own := [("k", 9)]) rfl sc__law_refused_right.nd (pi_range1 (by rfl) T.gb_range (pa_cons (pe_op op_sub pe_int (pe_callB (r := rLen1 K) call_len_seq (by rfl) T.gb_len bt_len (pa_cons (pv 1) pa_nil))) pa_nil)) (blkOk_by (own := [("k", 9)]) (N := N__law_refused_right) (sc := defScope s__law_refused_right) (by decide +kernel)) (fun _ _ _ _ _ => (pg_name (i := 9) sc__law_refused_right.nd rfl (Or.inl rfl))) (fun _ _ _ _ _ => pts_nil) (fun _ _ _ _ _ => (pe_tup (pa_cons (pv 9) (pa_cons pe_int pa_nil))))))) (pss_cons (ps_set (i := 3) sc__law_refused_right.nd rfl (Or.inl rfl) (pe_ix (r := rIxL K) ix_list (pe_lst (pa_cons (pe_tup (pa_cons pe_int (pa_cons pe_int pa_nil))) (pa_cons (pe_tup (pa_cons (pe_un un_neg pe_int) (pa_cons pe_int pa_nil))) (pa_cons (pe_tup (pa_cons pe_int (pa_cons (pe_un un_neg pe_int) pa_nil))) (pa_cons (pe_tup (pa_cons pe_int (pa_cons pe_int pa_nil))) (pa_cons (pe_tup (pa_cons pe_int (pa_cons pe_int pa_nil))) (pa_cons (pe_tup (pa_cons (pe_un un_neg pe_int) (pa_cons pe_int pa_nil))) pa_nil))))))) (pe_call (ok__law_take T) (hr.mono (by decide)) rfl T.g__law_take T.F__law_take.kp bind__law_take .nil passE (pa_cons (pv 0) (pa_cons pe_int pa_nil))) (fun _ _ => rfl))) (pss_cons (ps_set (i := 4) sc__law_refused_right.nd rfl (Or.inl rfl) (pe_call (ok__law_take T) (hr.mono (by decide)) rfl T.g__law_take T.F__law_take.kp bind__law_take .nil passE (pa_cons (pv 0) (pa_cons pe_int pa_nil)))) (pss_cons (ps_set (i := 5) sc__law_refused_right.nd rfl (Or.inl rfl) (pe_op op_cat (pe_op op_cat (pe_slice (r := rSlL K) sl_list (pv 2) po_none (po_some (pv 4))) (pe_lst (pa_cons (pv 3) pa_nil))) (pe_slice (r := rSlL K) sl_list (pv 2) (po_some (pe_op op_add (pv 4) pe_int)) po_none))) (pss_cons (ps_setLc (i := 6) (own := [("k", 9)]) rfl sc__law_refused_right.nd rfl rfl (sw_true rfl rfl rfl (by decide +kernel)) (pi_range1 (by rfl) T.gb_range (pa_cons pe_int pa_nil)) (blkOk_by (own := [("k", 9)]) (N := N__law_refused_right) (sc := defScope s__law_refused_right) (by decide +kernel)) (fun _ _ _ _ _ => (pg_name (i := 9) sc__law_refused_right.nd rfl (Or.inl rfl))) (fun _ _ _ _ _ => pts_nil) (fun _ _ _ _ _ => (pe_tup (pa_cons pe_int (pa_cons pe_int pa_nil))))) (pss_cons (ps_set (i := 7) sc__law_refused_right.nd rfl (Or.inl rfl) (pe_slice (r := rSlL K) sl_list (pv 6) po_none (po_some (pe_call (ok__law_take T) (hr.mono (by decide)) rfl T.g__law_take T.F__law_take.kp bind__law_take .nil passE (pa_cons (pv 0) (pa_cons pe_int pa_nil)))))) (pss_cons (ps_for (passes_of rfl) rfl (pi_range1 (by rfl) T.gb_range (pa_cons pe_int pa_nil)) (pg_name (i := 8) sc__law_refused_right.nd rfl (Or.inl rfl)) (pss_cons (ps_if (PW.pt (pw_or (pt_cmpR (r := rNeD K) (op_neD hr.units) (pe_call (ok__law_refused T) (hr.mono (by decide)) rfl T.g__law_refused T.F__law_refused.kp bind__law_refused .nil passE (pa_cons (pv 2) (pa_cons (pv 6) (pa_cons (pv 8) pa_nil)))) (pe_tup (pa_cons pe_str (pa_cons pe_int pa_nil))) (nomark _)) (pw_or1 (pt_cmpR (r := rNeD K) (op_neD hr.units) (pe_call (ok__law_refused T) (hr.mono (by decide)) rfl T.g__law_refused T.F__law_refused.kp bind__law_refused .nil passE (pa_cons (pe_lst pa_nil) (pa_cons (pv 7) (pa_cons (pv 8) pa_nil)))) (pe_tup (pa_cons pe_str (pa_cons pe_int pa_nil))) (nomark _))))) (pss_cons (ps_ret pe_bl) pss_nil) pss_nil) (pss_cons (ps_if (pt_cmpR (r := rNeD K) (op_neD hr.units) (pe_call (ok__law_refused T) (hr.mono (by decide)) rfl T.g__law_refused T.F__law_refused.kp bind__law_refused .nil passE (pa_cons (pv 5) (pa_cons (pv 7) (pa_cons (pv 8) pa_nil)))) (pe_tup (pa_cons pe_str (pa_cons (pv 4) pa_nil))) (nomark _)) (pss_cons (ps_ret pe_bl) pss_nil) pss_nil) (pss_cons (ps_if (pt_cmpR (r := rNeD K) (op_neD hr.units) (pe_call (ok__law_refused T) (hr.mono (by decide)) rfl T.g__law_refused T.F__law_refused.kp bind__law_refused .nil passE (pa_cons (pe_op op_cat (pv 5) (pe_lst (pa_cons (pe_tup (pa_cons pe_int (pa_cons pe_int pa_nil))) pa_nil))) (pa_cons (pv 7) (pa_cons (pv 8) pa_nil)))) (pe_tup (pa_cons pe_str (pa_cons pe_int pa_nil))) (nomark _)) (pss_cons (ps_ret pe_bl) pss_nil) pss_nil) pss_nil)))) (pss_cons (ps_ret (pe_and (pe_cmpR (r := rEqD K) (op_eqD hr.units) (pe_call (ok__law_refused T) (hr.mono (by decide)) rfl T.g__law_refused T.F__law_refused.kp bind__law_refused .nil passE (pa_cons (pv 2) (pa_cons (pv 7) (pa_cons pe_int pa_nil)))) (pe_tup (pa_cons pe_str (pa_cons pe_int pa_nil))) (nomark _)) (pe_one (pe_cmpR (r := rEqD K) (op_eqD hr.units) (pe_call (ok__law_refused T) (hr.mono (by decide)) rfl T.g__law_refused T.F__law_refused.kp bind__law_refused .nil passE (pa_cons (pv 2) (pa_cons (pe_op op_cat (pv 6) (pe_lst (pa_cons (pe_tup (pa_cons pe_int (pa_cons pe_int pa_nil))) pa_nil))) (pa_cons pe_int pa_nil)))) (pe_tup (pa_cons pe_str (pa_cons pe_int pa_nil))) (nomark _))))) pss_nil)))))))), ?_⟩
    refine q_asg (E := E) (K := K) (σ := [some (.ref p0), some v_rows, none, none, none, none, none, none, none, none]) (i := 2) (x_op o_cat (x_v (x_var (i := 1) rfl (Rp.mono _ (Ex.refl _) exz r_rows))) (x_v (x_lc (i_rng1 (a_one (x_op o_sub (x_int (i := 24)) (x_cb o_len (a_one (x_v (x_var (i := 1) rfl (Rp.mono _ (Ex.refl _) exz r_rows)))))))) g1 (fun _ _ _ _ ⟨_, h, _⟩ => by rw [h]; rfl) (fun x_1 σ2 I_2 C_3 e_4 c_5 ⟨v_6, h, r_7⟩ => by subst h; exact (x_tup (a_cons (x_var (i := 9) rfl (Rp.mono _ (Ex.refl _) exz r_7)) (a_one (x_int (i := 1)))) (Nat.le_of_ble_eq_true rfl))) (fun _ _ _ _ _ e ⟨v_6, h, r_7⟩ => ⟨v_6, h, Rp.mono _ e exz r_7⟩)))) hs (fun _ _ h => h.elim) hm fun full_8 v_9 I_10 H_11 e_12 s_13 r_14 hm => ?_
    refine qm_asg (E := E) (K := K) (σ := [some (.ref p0), some v_rows, some v_9, none, none, none, none, none, none, none]) (i := 3) (m_op (fun _ => (Op2.ofL o_ix)) off_same (m_pure (x_lst (al_cons (x_tup (a_cons (x_int (i := 0)) (a_one (x_int (i := 0)))) (Nat.le_of_ble_eq_true rfl)) (al_cons (x_tup (a_cons (x_un o_neg (x_int (i := 1))) (a_one (x_int (i := 5)))) (Nat.le_of_ble_eq_true rfl)) (al_cons (x_tup (a_cons (x_int (i := 5)) (a_one (x_un o_neg (x_int (i := 1))))) (Nat.le_of_ble_eq_true rfl)) (al_cons (x_tup (a_cons (x_int (i := 100001)) (a_one (x_int (i := 0)))) (Nat.le_of_ble_eq_true rfl)) (al_cons (x_tup (a_cons (x_int (i := 0)) (a_one (x_int (i := 100001)))) (Nat.le_of_ble_eq_true rfl)) (al_cons (x_tup (a_cons (x_un o_neg (x_int (i := 3))) (a_one (x_int (i := 4)))) (Nat.le_of_ble_eq_true rfl)) al_nil)))))) (Nat.le_of_ble_eq_true rfl))) (m_callM (i := 0) rfl (am_pure (a_one (x_int (i := 6)))))) s_13 hc0 (Rt.mono _ e_12 exz hx0) hm fun bad_15 v_16 ws_22 I_17 C_23 H_18 e_19 s_20 hc_24 k_25 hx_26 r_21 hm => ?_
    have fr_27 := fr_pool (off_ex (C := C0) (p := p0)) k_25
    refine qm_asg (E := E) (K := K) (σ := [some (.ref p0), some v_rows, some v_9, some v_16, none, none, none, none, none, none]) (i := 4) (m_callM (i := 0) rfl (am_pure (a_one (x_int (i := 24))))) s_20 hc_24 (Rt.mono _ (Ex.refl _) exz hx_26) hm fun at_28 v_29 ws_35 I_30 C_36 H_31 e_32 s_33 hc_37 k_38 hx_39 r_34 hm => ?_
    have fr_40 := fr_pool fr_27 k_38
    refine q_asg (E := E) (K := K) (σ := [some (.ref p0), some v_rows, some v_9, some v_16, some v_29, none, none, none, none, none]) (i := 5) (x_op o_cat (x_v (x_op o_cat (x_v (x_sl (x_v (x_var (i := 2) rfl (Rp.mono _ (e_19.trans e_32) exz r_14))) p_none (p_some (x_var (i := 4) rfl (Rp.mono _ (Ex.refl _) exz r_34))))) (x_v (x_lst (al_cons (x_var (i := 3) rfl (Rp.mono _ e_32 exz r_21)) al_nil) (Nat.le_of_ble_eq_true rfl))))) (x_v (x_sl (x_v (x_var (i := 2) rfl (Rp.mono _ (e_19.trans e_32) exz r_14))) (p_some (x_op o_add (x_var (i := 4) rfl (Rp.mono _ (Ex.refl _) exz r_34)) (x_int (i := 1)))) p_none))) s_33 (fun _ _ h => h.elim) hm fun spoilt_41 v_42 I_43 H_44 e_45 s_46 r_47 hm => ?_
    refine q_asg (E := E) (K := K) (σ := [some (.ref p0), some v_rows, some v_9, some v_16, some v_29, some v_42, none, none, none, none]) (i := 6) (x_lc (i_rng1 (a_one (x_int (i := 24)))) g1 (fun _ _ _ _ ⟨_, h, _⟩ => by rw [h]; rfl) (fun x_48 σ2 I_49 C_50 e_51 c_52 ⟨v_53, h, r_54⟩ => by subst h; exact (x_tup (a_cons (x_int (i := 1)) (a_one (x_int (i := 2)))) (Nat.le_of_ble_eq_true rfl))) (fun _ _ _ _ _ e ⟨v_53, h, r_54⟩ => ⟨v_53, h, Rp.mono _ e exz r_54⟩)) s_46 (fun _ _ h => h.elim) hm fun halves_55 v_56 I_57 H_58 e_59 s_60 r_61 hm => ?_
    refine qm_asg (E := E) (K := K) (σ := [some (.ref p0), some v_rows, some v_9, some v_16, some v_29, some v_42, some v_56, none, none, none]) (i := 7) (m_sl off_same (x_var (i := 6) rfl (Rp.mono _ (Ex.refl _) exz r_61)) (pm_pure p_none) (pm_some (m_callM (i := 0) rfl (am_pure (a_one (x_int (i := 24))))))) s_60 hc_37 (Rt.mono _ (e_45.trans e_59) exz hx_39) hm fun few_62 v_63 ws_69 I_64 C_70 H_65 e_66 s_67 hc_71 k_72 hx_73 r_68 hm => ?_
    have fr_74 := fr_pool fr_40 k_72
    refine s_forR (E := E) (K := K) (σ := [some (.ref p0), some v_rows, some v_9, some v_16, some v_29, some v_42, some v_56, some v_63, none, none]) (fun (z_75 : Unit) σ2 I_78 C_79 => ∃ w_77 : Option V, σ2 = [some (.ref p0), some v_rows, some v_9, some v_16, some v_29, some v_42, some v_56, some v_63, w_77, none] ∧ C_79 p0 = some (.lst ws_69) ∧ Ex (off C0 p0) C_79) (i_rng1 (a_one (x_int (i := 3)))) s_67 (fun _ _ h => h.elim) hm (fun _ e_90 => ⟨none, rfl, hc_71, fr_74⟩) (fun _ _ _ _ _ => trivial) (fun _ _ _ _ _ e ⟨w_77, hs_76, hc_80, fr_81⟩ => ⟨w_77, hs_76, hc_80, fr_81⟩) (fun N x_82 v_83 z_75 σ2 I_84 C_85 H_86 e_87 s_88 ⟨w_77, hs_76, hc_80, fr_81⟩ r_89 hm => ?_) (fun z_144 σ2 I_139 C_140 H_141 e_142 s_143 ⟨w_146, hs_145, hc_149, fr_150⟩ hm => ?_)
    · subst hs_76
      refine g1 (K := K) x_82 v_83 I_84 C_85 H_86 _ s_88 r_89 fun σ2 ⟨v_91, hs_93, r_92⟩ => ?_
      subst hs_93
      refine s_if (E := E) (K := K) (σ := [some (.ref p0), some v_rows, some v_9, some v_16, some v_29, some v_42, some v_56, some v_63, some v_91, none]) (t_or (t_test (x_op (o_neD (de_tup (dt_cons de_str (dt_one de_int))) (de_tup (dt_cons de_str (dt_one de_int))) (by decide)) (x_call (a_cons (x_var (i := 2) rfl (Rp.mono _ (e_19.trans (e_32.trans (e_45.trans (e_59.trans (e_66.trans e_87))))) exz r_14)) (a_cons (x_var (i := 6) rfl (Rp.mono _ (e_66.trans e_87) exz r_61)) (a_one (x_var (i := 8) rfl (Rp.mono _ (Ex.refl _) exz r_92)))))) (x_tup (a_cons (x_str (by decide +kernel)) (a_one (x_int (i := 0)))) (Nat.le_of_ble_eq_true rfl)))) (t_test (x_op (o_neD (de_tup (dt_cons de_str (dt_one de_int))) (de_tup (dt_cons de_str (dt_one de_int))) (by decide)) (x_call (a_cons (x_lst (R := (pT (tc pI (t1 pI)))) al_nil (by decide)) (a_cons (x_var (i := 7) rfl (Rp.mono _ e_87 exz r_68)) (a_one (x_var (i := 8) rfl (Rp.mono _ (Ex.refl _) exz r_92)))))) (x_tup (a_cons (x_str (by decide +kernel)) (a_one (x_int (i := 0)))) (Nat.le_of_ble_eq_true rfl))))) s_88 (fun _ _ h => h.elim) hm (fun I_94 H_95 e_96 s_97 hm => ?_) (fun I_98 H_99 e_100 s_101 hm => ?_)
      · refine q_ret (tz := tNext) (E := E) (K := K) (σ := [some (.ref p0), some v_rows, some v_9, some v_16, some v_29, some v_42, some v_56, some v_63, some v_91, none]) x_bl s_97 (fun _ _ h => h.elim) hm fun a_102 v_103 I_104 H_105 e_106 s_107 r_108 hm => ?_
        exact ret_pool hm (e_12.trans (e_19.trans (e_32.trans (e_45.trans (e_59.trans (e_66.trans (e_87.trans (e_96.trans e_106)))))))) fr_81 s_107 hc_80 (Rt.mono _ (e_87.trans (e_96.trans e_106)) exz hx_73) r_108
      · refine s_if (E := E) (K := K) (σ := [some (.ref p0), some v_rows, some v_9, some v_16, some v_29, some v_42, some v_56, some v_63, some v_91, none]) (t_test (x_op (o_neD (de_tup (dt_cons de_str (dt_one de_int))) (de_tup (dt_cons de_str (dt_one de_int))) (by decide)) (x_call (a_cons (x_var (i := 5) rfl (Rp.mono _ (e_59.trans (e_66.trans (e_87.trans e_100))) exz r_47)) (a_cons (x_var (i := 7) rfl (Rp.mono _ (e_87.trans e_100) exz r_68)) (a_one (x_var (i := 8) rfl (Rp.mono _ e_100 exz r_92)))))) (x_tup (a_cons (x_str (by decide +kernel)) (a_one (x_var (i := 4) rfl (Rp.mono _ (e_45.trans (e_59.trans (e_66.trans (e_87.trans e_100)))) exz r_34)))) (Nat.le_of_ble_eq_true rfl)))) s_101 (fun _ _ h => h.elim) hm (fun I_109 H_110 e_111 s_112 hm => ?_) (fun I_113 H_114 e_115 s_116 hm => ?_)
        · refine q_ret (tz := tNext) (E := E) (K := K) (σ := [some (.ref p0), some v_rows, some v_9, some v_16, some v_29, some v_42, some v_56, some v_63, some v_91, none]) x_bl s_112 (fun _ _ h => h.elim) hm fun a_117 v_118 I_119 H_120 e_121 s_122 r_123 hm => ?_
          exact ret_pool hm (e_12.trans (e_19.trans (e_32.trans (e_45.trans (e_59.trans (e_66.trans (e_87.trans (e_100.trans (e_111.trans e_121))))))))) fr_81 s_122 hc_80 (Rt.mono _ (e_87.trans (e_100.trans (e_111.trans e_121))) exz hx_73) r_123
        · refine s_if (E := E) (K := K) (σ := [some (.ref p0), some v_rows, some v_9, some v_16, some v_29, some v_42, some v_56, some v_63, some v_91, none]) (t_test (x_op (o_neD (de_tup (dt_cons de_str (dt_one de_int))) (de_tup (dt_cons de_str (dt_one de_int))) (by decide)) (x_call (a_cons (x_op o_cat (x_v (x_var (i := 5) rfl (Rp.mono _ (e_59.trans (e_66.trans (e_87.trans (e_100.trans e_115)))) exz r_47))) (x_v (x_lst (al_cons (x_tup (a_cons (x_int (i := 0)) (a_one (x_int (i := 0)))) (Nat.le_of_ble_eq_true rfl)) al_nil) (Nat.le_of_ble_eq_true rfl)))) (a_cons (x_var (i := 7) rfl (Rp.mono _ (e_87.trans (e_100.trans e_115)) exz r_68)) (a_one (x_var (i := 8) rfl (Rp.mono _ (e_100.trans e_115) exz r_92)))))) (x_tup (a_cons (x_str (by decide +kernel)) (a_one (x_int (i := 24)))) (Nat.le_of_ble_eq_true rfl)))) s_116 (fun _ _ h => h.elim) hm (fun I_124 H_125 e_126 s_127 hm => ?_) (fun I_128 H_129 e_130 s_131 hm => ?_)
          · refine q_ret (tz := tNext) (E := E) (K := K) (σ := [some (.ref p0), some v_rows, some v_9, some v_16, some v_29, some v_42, some v_56, some v_63, some v_91, none]) x_bl s_127 (fun _ _ h => h.elim) hm fun a_132 v_133 I_134 H_135 e_136 s_137 r_138 hm => ?_
            exact ret_pool hm (e_12.trans (e_19.trans (e_32.trans (e_45.trans (e_59.trans (e_66.trans (e_87.trans (e_100.trans (e_115.trans (e_126.trans e_136)))))))))) fr_81 s_137 hc_80 (Rt.mono _ (e_87.trans (e_100.trans (e_115.trans (e_126.trans e_136)))) exz hx_73) r_138
          · exact hm _ _ _ _ (e_100.trans (e_115.trans e_130)) s_131 ⟨some v_91, rfl, hc_80, fr_81⟩
    subst hs_145
    refine q_ret (tz := tNext) (E := E) (K := K) (σ := [some (.ref p0), some v_rows, some v_9, some v_16, some v_29, some v_42, some v_56, some v_63, w_146, none]) (x_andV (x_op (o_eqD (de_tup (dt_cons de_str (dt_one de_int))) (de_tup (dt_cons de_str (dt_one de_int))) (by decide)) (x_call (a_cons (x_var (i := 2) rfl (Rp.mono _ (e_19.trans (e_32.trans (e_45.trans (e_59.trans (e_66.trans e_142))))) exz r_14)) (a_cons (x_var (i := 7) rfl (Rp.mono _ e_142 exz r_68)) (a_one (x_int (i := 0)))))) (x_tup (a_cons (x_str (by decide +kernel)) (a_one (x_int (i := 1)))) (Nat.le_of_ble_eq_true rfl))) (x_op (o_eqD (de_tup (dt_cons de_str (dt_one de_int))) (de_tup (dt_cons de_str (dt_one de_int))) (by decide)) (x_call (a_cons (x_var (i := 2) rfl (Rp.mono _ (e_19.trans (e_32.trans (e_45.trans (e_59.trans (e_66.trans e_142))))) exz r_14)) (a_cons (x_op o_cat (x_v (x_var (i := 6) rfl (Rp.mono _ (e_66.trans e_142) exz r_61))) (x_v (x_lst (al_cons (x_tup (a_cons (x_int (i := 1)) (a_one (x_int (i := 2)))) (Nat.le_of_ble_eq_true rfl)) al_nil) (Nat.le_of_ble_eq_true rfl)))) (a_one (x_int (i := 0)))))) (x_tup (a_cons (x_str (by decide +kernel)) (a_one (x_int (i := 1)))) (Nat.le_of_ble_eq_true rfl)))) s_143 (fun _ _ h => h.elim) hm fun a_151 v_152 I_153 H_154 e_155 s_156 r_157 hm => ?_
    exact ret_pool hm (e_12.trans (e_19.trans (e_32.trans (e_45.trans (e_59.trans (e_66.trans (e_142.trans e_155))))))) fr_150 s_156 hc_149 (Rt.mono _ (e_142.trans e_155) exz hx_73) r_157
def m_law (a_script : List Int) : Res Bool :=
  ((poolR a_script).bind fun (pool_10 : Pl) => (((m__law_groups ()) pool_10).bind fun (rows_11 : (List (Int × Int)) × Pl) => ((Res.ok ([] : List (Int × Int))).bind fun (chances_23 : (List (Int × Int))) => (((un rng1 (un rLen (Res.ok rows_11.1))).bind fun xs => loopN (fun (x_51 : Int) (z_39 : (List (Int × Int))) => ((un (fun (p : ((List (Int × Int)) × Int)) => m__law_chance p.1 p.2) (pair (Res.ok rows_11.1) (Res.ok x_51))).bind fun (share_63 : (Int × Int)) => (((un (fun (p : (Int × Int)) => m__law_lowest p.1 p.2) (pair (un (fun p => Res.ok p.1) (Res.ok share_63)) (un (fun p => Res.ok p.2) (Res.ok share_63)))).bind fun x => push z_39 x).bind fun (chances_70 : (List (Int × Int))) => (Res.ok chances_70)))) xs chances_23).bind fun (z_87 : (List (Int × Int))) => (ifR (un notR (un (fun (p : ((List (Int × Int)) × (List (Int × Int)))) => m__law_loss_told p.1 p.2) (pair (Res.ok rows_11.1) (Res.ok z_87)))) ((Res.ok false).bind fun a_116 => Res.ok a_116) ((un (fun (p : ((List (Int × Int)) × (List (Int × Int)))) => m__law_loss p.1 p.2) (pair (Res.ok rows_11.1) (Res.ok z_87))).bind fun (least_123 : (Int × Int)) => (((un rng1 (Res.ok (5 : Int))).bind fun xs => loopR (fun (x_140 : Int) (z_130 : Pl) => (((callM (fun (p : ((List (Int × Int)) × (List (Int × Int)))) => m__law_ascending p.1 p.2) (liftM (pair (Res.ok rows_11.1) (Res.ok z_87)))) z_130).bind fun (other_152 : (List (Int × Int)) × Pl) => (ifR (un notR (un (fun (p : ((List (Int × Int)) × (List (Int × Int)))) => m__law_loss_told p.1 p.2) (pair (Res.ok rows_11.1) (Res.ok other_152.1)))) ((Res.ok false).bind fun a_172 => Res.ok (Out.rt a_172)) (ifR (andR (un m__law_never_descends (Res.ok other_152.1)) (andR (bin neR (Res.ok other_152.1) (Res.ok z_87)) (un notR (un (fun (p : ((Int × Int) × (Int × Int))) => m__law_less p.1 p.2) (pair (Res.ok least_123) (un (fun (p : ((List (Int × Int)) × (List (Int × Int)))) => m__law_loss p.1 p.2) (pair (Res.ok rows_11.1) (Res.ok other_152.1)))))))) ((Res.ok false).bind fun a_187 => Res.ok (Out.rt a_187)) (Res.ok (Out.nx other_152.2)))))) xs rows_11.2).bind fun (o : Out Pl Bool) => match o with | .nx z_199 => (ifMR (unM notR (unM (fun (p : ((List (Int × Int)) × (List (Int × Int)))) => m__law_loss_told p.1 p.2) (pairM (liftM (Res.ok rows_11.1)) (fun y_224 => ((liftM (Res.ok rows_11.1)) y_224).bind fun b => mapM (fun (x_217 : (Int × Int)) => (m__law_drawn_chance ())) b.1 b.2)))) z_199 (fun (y_233 : Pl) => ((Res.ok false).bind fun a_245 => Res.ok a_245)) (fun (y_239 : Pl) => (((un rng1 (Res.ok (3 : Int))).bind fun xs => loopR (fun (x_262 : Int) (z_252 : Pl) => (((callM (fun (p : ((List (Int × Int)) × (List (Int × Int)))) => m__law_cost_and_loss p.1 p.2) (liftM (pair (Res.ok rows_11.1) (Res.ok z_87)))) z_252).bind fun (pair_274 : (Int × Int) × Pl) => (ifR (un notR (un (fun (p : ((List (Int × Int)) × (List (Int × Int)) × Int × Int)) => m__law_starts_told p.1 p.2.1 p.2.2.1 p.2.2.2) (pair (Res.ok rows_11.1) (pair (Res.ok z_87) (pair (un (fun p => Res.ok p.1) (Res.ok pair_274.1)) (un (fun p => Res.ok p.2) (Res.ok pair_274.1))))))) ((Res.ok false).bind fun a_294 => Res.ok (Out.rt a_294)) (Res.ok (Out.nx pair_274.2))))) xs y_239).bind fun (o : Out Pl Bool) => match o with | .nx z_306 => (((callM m__law_refused_right (liftM (Res.ok rows_11.1))) z_306).bind fun a_316 => Res.ok a_316.1) | .br _ => Res.bad | .rt r => Res.ok r))) | .br _ => Res.bad | .rt r => Res.ok r)))))))
abbrev N_law : List Str := ["script", "pool", "rows", "chances", "k", "share", "least", "turn", "other", "pair"]
theorem sc_law : FnScope N_law ["script"] (defScope s_law) := ⟨rfl, rfl, rfl, by decide +kernel, rfl, by decide +kernel, by decide +kernel⟩
theorem ok_law (T : Tx K mg) : FnOk P w K mg base CX0 10 T.f_law T.d_law ["script"] (spLaw K m_law) := by
  refine T.F_law.ok sc_law (fun vs H Q E h => ?_) (fun cdv A outer s H vs Q E hr h => ?_)
  · obtain ⟨a, ns, rfl, _⟩ := h
    rfl
  · obtain ⟨a0, a_script, rfl, hS, hz, hm⟩ := h
    obtain ⟨I0, hs, r_script⟩ := law_start hS hz
    unfold m_law at hm
    refine ⟨_, (pss_cons (ps_set (i := 1) sc_law.nd rfl (Or.inr rfl) (pe_call (ok__law_pool T) (hr.mono (by decide)) rfl T.g__law_pool T.F__law_pool.kp bind__law_pool .nil passL (pa_cons (pv 0) pa_nil))) (pss_cons (ps_set (i := 2) sc_law.nd rfl (Or.inl rfl) (pe_call (ok__law_groups T) (hr.mono (by decide)) rfl T.g__law_groups T.F__law_groups.kp bind__law_groups .nil passL (pa_cons (pv 1) pa_nil))) (pss_cons (ps_set (i := 3) sc_law.nd rfl (Or.inl rfl) (pe_lst pa_nil)) (pss_cons (ps_for (passes_of rfl) rfl (pi_range1 (by rfl) T.gb_range (pa_cons (pe_callB (r := rLen1 K) call_len_seq (by rfl) T.gb_len bt_len (pa_cons (pv 2) pa_nil)) pa_nil)) (pg_name (i := 4) sc_law.nd rfl (Or.inl rfl)) (pss_cons (ps_set (i := 5) sc_law.nd rfl (Or.inl rfl) (pe_call (ok__law_chance T) (hr.mono (by decide)) rfl T.g__law_chance T.F__law_chance.kp bind__law_chance .nil passL (pa_cons (pv 2) (pa_cons (pv 4) pa_nil)))) (pss_cons (ps_expr (show PE _ _ (tBM K "list" rAppend _ _) from pe_bm PySem.F.plainAttrs_list PySem.F.slot_list_append PySem.F.type_list_append mt_append (pv 3) (pa_cons (pe_call (ok__law_lowest T) (hr.mono (by decide)) rfl T.g__law_lowest T.F__law_lowest.kp bind__law_lowest .nil passL (pa_cons (pe_ix (r := rIxT K) ix_tup (pv 5) pe_int (fun _ _ => rfl)) (pa_cons (pe_ix (r := rIxT K) ix_tup (pv 5) pe_int (fun _ _ => rfl)) pa_nil))) pa_nil))) pss_nil))) (pss_cons (ps_if (pt_not (pt_val (pe_call (ok__law_loss_told T) (hr.mono (by decide)) rfl T.g__law_loss_told T.F__law_loss_told.kp bind__law_loss_told .nil passL (pa_cons (pv 2) (pa_cons (pv 3) pa_nil))))) (pss_cons (ps_ret pe_bl) pss_nil) pss_nil) (pss_cons (ps_set (i := 6) sc_law.nd rfl (Or.inl rfl) (pe_call (ok__law_loss T) (hr.mono (by decide)) rfl T.g__law_loss T.F__law_loss.kp bind__law_loss .nil passL (pa_cons (pv 2) (pa_cons (pv 3) pa_nil)))) (pss_cons (ps_for (passes_of rfl) rfl (pi_range1 (by rfl) T.gb_range (pa_cons pe_int pa_nil)) (pg_name (i := 7) sc_law.nd rfl (Or.inl rfl)) (pss_cons (ps_set (i := 8) sc_law.nd rfl (Or.inl rfl) (pe_call (ok__law_ascending T) (hr.mono (by decide)) rfl T.g__law_ascending T.F__law_ascending.kp bind__law_ascending .nil passL (pa_cons (pv 1) (pa_cons (pv 2) (pa_cons (pv 3) pa_nil))))) (pss_cons (ps_if (pt_not (pt_val (pe_call (ok__law_loss_told T) (hr.mono (by decide)) rfl T.g__law_loss_told T.F__law_loss_told.kp bind__law_loss_told .nil passL (pa_cons (pv 2) (pa_cons (pv 8) pa_nil))))) (pss_cons (ps_ret pe_bl) pss_nil) pss_nil) (pss_cons (ps_if (PW.pt (pw_and (pt_val (pe_call (ok__law_never_descends T) (hr.mono (by decide)) rfl T.g__law_never_descends T.F__law_never_descends.kp bind__law_never_descends .nil passL (pa_cons (pv 8) pa_nil))) (pw_and (pt_cmpR (r := rNeD K) (op_neD hr.units) (pv 8) (pv 3) (nomark _)) (pw_and1 (pt_not (pt_val (pe_call (ok__law_less T) (hr.mono (by decide)) rfl T.g__law_less T.F__law_less.kp bind__law_less .nil passL (pa_cons (pv 6) (pa_cons (pe_call (ok__law_loss T) (hr.mono (by decide)) rfl T.g__law_loss T.F__law_loss.kp bind__law_loss .nil passL (pa_cons (pv 2) (pa_cons (pv 8) pa_nil))) pa_nil))))))))) (pss_cons (ps_ret pe_bl) pss_nil) pss_nil) pss_nil)))) (pss_cons (ps_if (pt_not (pt_val (pe_call (ok__law_loss_told T) (hr.mono (by decide)) rfl T.g__law_loss_told T.F__law_loss_told.kp bind__law_loss_told .nil passL (pa_cons (pv 2) (pa_cons (pe_lc (own := [("pair", 9)]) rfl sc_law.nd (show PI _ _ _ (iList K _) from pi_list (pv 2)) (blkOk_by (own := [("pair", 9)]) (N := N_law) (sc := defScope s_law) (by decide +kernel)) (fun _ _ _ _ _ => (pg_name (i := 9) sc_law.nd rfl (Or.inl rfl))) (fun _ _ _ _ _ => pts_nil) (fun _ _ _ _ _ => (pe_call (ok__law_drawn_chance T) (hr.mono (by decide)) rfl T.g__law_drawn_chance T.F__law_drawn_chance.kp bind__law_drawn_chance .nil passL (pa_cons (pv 1) pa_nil)))) pa_nil))))) (pss_cons (ps_ret pe_bl) pss_nil) pss_nil) (pss_cons (ps_for (passes_of rfl) rfl (pi_range1 (by rfl) T.gb_range (pa_cons pe_int pa_nil)) (pg_name (i := 7) sc_law.nd rfl (Or.inl rfl)) (pss_cons (ps_set (i := 9) sc_law.nd rfl (Or.inl rfl) (pe_call (ok__law_cost_and_loss T) (hr.mono (by decide)) rfl T.g__law_cost_and_loss T.F__law_cost_and_loss.kp bind__law_cost_and_loss .nil passL (pa_cons (pv 1) (pa_cons (pv 2) (pa_cons (pv 3) pa_nil))))) (pss_cons (ps_if (pt_not (pt_val (pe_call (ok__law_starts_told T) (hr.mono (by decide)) rfl T.g__law_starts_told T.F__law_starts_told.kp bind__law_starts_told .nil passL (pa_cons (pv 2) (pa_cons (pv 3) (pa_cons (pe_ix (r := rIxT K) ix_tup (pv 9) pe_int (fun _ _ => rfl)) (pa_cons (pe_ix (r := rIxT K) ix_tup (pv 9) pe_int (fun _ _ => rfl)) pa_nil))))))) (pss_cons (ps_ret pe_bl) pss_nil) pss_nil) pss_nil))) (pss_cons (ps_ret (pe_call (ok__law_refused_right T) (hr.mono (by decide)) rfl T.g__law_refused_right T.F__law_refused_right.kp bind__law_refused_right .nil passL (pa_cons (pv 1) (pa_cons (pv 2) pa_nil)))) pss_nil)))))))))), ?_⟩
    refine q_mkpool (E := EZ) (K := K) (σ := [some (.ref a0), none, none, none, none, none, none, none, none, none]) (i := 1) (j := 0) rfl (Rp.mono _ (Ex.refl _) exz r_script) hs hm fun pool_10 p_1 ws_2 I_3 C_4 H_5 e_6 s_7 hc_8 hx_9 hm => ?_
    refine qm_asg (E := EZ) (K := K) (σ := [some (.ref a0), some (.ref p_1), none, none, none, none, none, none, none, none]) (i := 2) (m_callM0 (i := 1) rfl) s_7 hc_8 (Rt.mono _ (Ex.refl _) exz hx_9) hm fun rows_11 v_12 ws_18 I_13 C_19 H_14 e_15 s_16 hc_20 k_21 hx_22 r_17 hm => ?_
    refine q_asgN (E := EZ) (K := K) (σ := [some (.ref a0), some (.ref p_1), some v_12, none, none, none, none, none, none, none]) (i := 3) (n_lst (R := (pT (tc pI (t1 pI)))) al_nil (by decide)) s_16 (fun _ _ h => h.elim) hm fun chances_23 p_24 vs_25 I_26 C_27 H_28 e_29 hp_30 s_31 hc_32 k_33 hl_34 hr_35 hm => ?_
    have ne_36 := ne_new hc_20 hp_30
    have hB_37 : Z p_24 = none := rfl
    have hc_38 := (k_33 _ ne_36).trans hc_20
    refine s_forN (E := EZ) (K := K) (σ := [some (.ref a0), some (.ref p_1), some v_12, some (.ref p_24), none, none, none, none, none, none]) (fun (z_39 : (List (Int × Int))) σ2 I_43 C_44 => ∃ w_41 : Option V, ∃ w_42 : Option V, σ2 = [some (.ref a0), some (.ref p_1), some v_12, some (.ref p_24), w_41, w_42, none, none, none, none] ∧ (∃ vs_45 : List V, C_44 p_24 = some (.lst vs_45) ∧ vs_45.length ≤ sizeLine ∧ A2 (fun x u => Rp.r (pT (tc pI (t1 pI))) x u I_43 Z) z_39 vs_45) ∧ C_44 p_1 = some (.lst ws_18)) (i_rng1 (a_one (x_cb o_len (a_one (x_v (x_var (i := 2) rfl (Rp.mono _ e_29 exz r_17))))))) s_31 (fun _ _ h => h.elim) hm (fun _ e_59 => ⟨none, none, rfl, ⟨_, hc_32, hl_34, a2up (Ex.trans (Ex.refl _) e_59) hr_35⟩, hc_38⟩) (fun _ _ _ _ _ => trivial) (fun _ _ _ _ _ e ⟨w_41, w_42, hs_40, ⟨vs_45, hc_46, hl_47, hr_48⟩, hc_49⟩ => ⟨w_41, w_42, hs_40, ⟨vs_45, hc_46, hl_47, a2up e hr_48⟩, hc_49⟩) (fun N x_51 v_52 z_39 σ2 I_53 C_54 H_55 e_56 s_57 ⟨w_41, w_42, hs_40, ⟨vs_45, hc_46, hl_47, hr_48⟩, hc_49⟩ r_58 hm => ?_) (fun z_87 σ2 I_82 C_83 H_84 e_85 s_86 ⟨w_89, w_90, hs_88, ⟨vs_93, hc_94, hl_95, hr_96⟩, hc_97⟩ hm => ?_)
    · subst hs_40
      refine g1 (K := K) x_51 v_52 I_53 C_54 H_55 _ s_57 r_58 fun σ2 ⟨v_60, hs_62, r_61⟩ => ?_
      subst hs_62
      refine q_asg (E := EZ) (K := K) (σ := [some (.ref a0), some (.ref p_1), some v_12, some (.ref p_24), some v_60, w_42, none, none, none, none]) (i := 5) (x_call (a_cons (x_var (i := 2) rfl (Rp.mono _ (e_29.trans e_56) exz r_17)) (a_one (x_var (i := 4) rfl (Rp.mono _ (Ex.refl _) exz r_61))))) s_57 (fun _ _ h => h.elim) hm fun share_63 v_64 I_65 H_66 e_67 s_68 r_69 hm => ?_
      refine q_app (E := EZ) (K := K) (σ := [some (.ref a0), some (.ref p_1), some v_12, some (.ref p_24), some v_60, some v_64, none, none, none, none]) (i := 3) rfl hc_46 (a2up e_67 hr_48) (x_call (a_cons (x_k (k := ((0 : Nat) : Int)) (o_pj pj0) (x_var (i := 5) rfl (Rp.mono _ (Ex.refl _) exz r_69))) (a_one (x_k (k := ((1 : Nat) : Int)) (o_pj (pjs pj1)) (x_var (i := 5) rfl (Rp.mono _ (Ex.refl _) exz r_69)))))) s_68 (fun _ _ h => h.elim) hm fun chances_70 vs_71 I_72 C_73 H_74 e_75 s_76 hc_77 k_78 hl_79 hr_80 hm => ?_
      have hc_81 := (k_78 _ ne_36).trans hc_49
      exact hm _ _ _ _ (e_67.trans e_75) s_76 ⟨some v_60, some v_64, rfl, ⟨_, hc_77, hl_79, a2up (Ex.refl _) hr_80⟩, hc_81⟩
    subst hs_88
    obtain ⟨I_99, C_100, e_101, s_102, h_103, k_104⟩ := freeze s_86 hc_94
    have r_106 := frz_list e_101 h_103 hl_95 hr_96
    have hc_107 := (k_104 _ ne_36).trans hc_97
    refine s_if (E := EZ) (K := K) (σ := [some (.ref a0), some (.ref p_1), some v_12, some (.ref p_24), w_89, w_90, none, none, none, none]) (t_not (t_B (x_call (a_cons (x_var (i := 2) rfl (Rp.mono _ (e_29.trans (e_85.trans e_101)) exz r_17)) (a_one (x_var (i := 3) rfl (Rp.mono _ (Ex.refl _) exz r_106))))))) s_102 (fun _ _ h => h.elim) hm (fun I_108 H_109 e_110 s_111 hm => ?_) (fun I_112 H_113 e_114 s_115 hm => ?_)
    · refine q_ret (tz := tNext) (E := EZ) (K := K) (σ := [some (.ref a0), some (.ref p_1), some v_12, some (.ref p_24), w_89, w_90, none, none, none, none]) x_bl s_111 (fun _ _ h => h.elim) hm fun a_116 v_117 I_118 H_119 e_120 s_121 r_122 hm => ?_
      exact hm v_117 H_119 r_122
    · refine q_asg (E := EZ) (K := K) (σ := [some (.ref a0), some (.ref p_1), some v_12, some (.ref p_24), w_89, w_90, none, none, none, none]) (i := 6) (x_call (a_cons (x_var (i := 2) rfl (Rp.mono _ (e_29.trans (e_85.trans (e_101.trans e_114))) exz r_17)) (a_one (x_var (i := 3) rfl (Rp.mono _ e_114 exz r_106))))) s_115 (fun _ _ h => h.elim) hm fun least_123 v_124 I_125 H_126 e_127 s_128 r_129 hm => ?_
      refine s_forR (E := EZ) (K := K) (σ := [some (.ref a0), some (.ref p_1), some v_12, some (.ref p_24), w_89, w_90, some v_124, none, none, none]) (fun (z_130 : Pl) σ2 I_134 C_135 => ∃ w_132 : Option V, ∃ w_133 : Option V, σ2 = [some (.ref a0), some (.ref p_1), some v_12, some (.ref p_24), w_89, w_90, some v_124, w_132, w_133, none] ∧ (∃ ws_136 : List V, C_135 p_1 = some (.lst ws_136) ∧ Rt.r pM z_130 ws_136 I_134 Z)) (i_rng1 (a_one (x_int (i := 5)))) s_128 (fun _ _ h => h.elim) hm (fun _ e_148 => ⟨none, none, rfl, ⟨_, hc_107, Rt.mono _ (Ex.trans (e_29.trans (e_85.trans (e_101.trans (e_114.trans e_127)))) e_148) exz hx_22⟩⟩) (fun _ _ _ _ _ => trivial) (fun _ _ _ _ _ e ⟨w_132, w_133, hs_131, ⟨ws_136, hc_137, hx_138⟩⟩ => ⟨w_132, w_133, hs_131, ⟨ws_136, hc_137, Rt.mono _ e exz hx_138⟩⟩) (fun N x_140 v_141 z_130 σ2 I_142 C_143 H_144 e_145 s_146 ⟨w_132, w_133, hs_131, ⟨ws_136, hc_137, hx_138⟩⟩ r_147 hm => ?_) (fun z_199 σ2 I_194 C_195 H_196 e_197 s_198 ⟨w_201, w_202, hs_200, ⟨ws_205, hc_206, hx_207⟩⟩ hm => ?_)
      · subst hs_131
        refine g1 (K := K) x_140 v_141 I_142 C_143 H_144 _ s_146 r_147 fun σ2 ⟨v_149, hs_151, r_150⟩ => ?_
        subst hs_151
        refine qm_asg (E := EZ) (K := K) (σ := [some (.ref a0), some (.ref p_1), some v_12, some (.ref p_24), w_89, w_90, some v_124, some v_149, w_133, none]) (i := 8) (m_callM (i := 1) rfl (am_pure (a_cons (x_var (i := 2) rfl (Rp.mono _ (e_29.trans (e_85.trans (e_101.trans (e_114.trans (e_127.trans e_145))))) exz r_17)) (a_one (x_var (i := 3) rfl (Rp.mono _ (e_114.trans (e_127.trans e_145)) exz r_106)))))) s_146 hc_137 (Rt.mono _ (Ex.refl _) exz hx_138) hm fun other_152 v_153 ws_159 I_154 C_160 H_155 e_156 s_157 hc_161 k_162 hx_163 r_158 hm => ?_
        refine s_if (E := EZ) (K := K) (σ := [some (.ref a0), some (.ref p_1), some v_12, some (.ref p_24), w_89, w_90, some v_124, some v_149, some v_153, none]) (t_not (t_B (x_call (a_cons (x_var (i := 2) rfl (Rp.mono _ (e_29.trans (e_85.trans (e_101.trans (e_114.trans (e_127.trans (e_145.trans e_156)))))) exz r_17)) (a_one (x_var (i := 8) rfl (Rp.mono _ (Ex.refl _) exz r_158))))))) s_157 (fun _ _ h => h.elim) hm (fun I_164 H_165 e_166 s_167 hm => ?_) (fun I_168 H_169 e_170 s_171 hm => ?_)
        · refine q_ret (tz := tNext) (E := EZ) (K := K) (σ := [some (.ref a0), some (.ref p_1), some v_12, some (.ref p_24), w_89, w_90, some v_124, some v_149, some v_153, none]) x_bl s_167 (fun _ _ h => h.elim) hm fun a_172 v_173 I_174 H_175 e_176 s_177 r_178 hm => ?_
          exact hm v_173 H_175 r_178
        · refine s_if (E := EZ) (K := K) (σ := [some (.ref a0), some (.ref p_1), some v_12, some (.ref p_24), w_89, w_90, some v_124, some v_149, some v_153, none]) (t_and (t_B (x_call (a_one (x_var (i := 8) rfl (Rp.mono _ e_170 exz r_158))))) (t_and (t_test (x_op (o_neD (de_lst (de_tup (dt_cons de_int (dt_one de_int)))) (de_lst (de_tup (dt_cons de_int (dt_one de_int)))) (by decide)) (x_var (i := 8) rfl (Rp.mono _ e_170 exz r_158)) (x_var (i := 3) rfl (Rp.mono _ (e_114.trans (e_127.trans (e_145.trans (e_156.trans e_170)))) exz r_106)))) (t_not (t_B (x_call (a_cons (x_var (i := 6) rfl (Rp.mono _ (e_145.trans (e_156.trans e_170)) exz r_129)) (a_one (x_call (a_cons (x_var (i := 2) rfl (Rp.mono _ (e_29.trans (e_85.trans (e_101.trans (e_114.trans (e_127.trans (e_145.trans (e_156.trans e_170))))))) exz r_17)) (a_one (x_var (i := 8) rfl (Rp.mono _ e_170 exz r_158)))))))))))) s_171 (fun _ _ h => h.elim) hm (fun I_179 H_180 e_181 s_182 hm => ?_) (fun I_183 H_184 e_185 s_186 hm => ?_)
          · refine q_ret (tz := tNext) (E := EZ) (K := K) (σ := [some (.ref a0), some (.ref p_1), some v_12, some (.ref p_24), w_89, w_90, some v_124, some v_149, some v_153, none]) x_bl s_182 (fun _ _ h => h.elim) hm fun a_187 v_188 I_189 H_190 e_191 s_192 r_193 hm => ?_
            exact hm v_188 H_190 r_193
          · exact hm _ _ _ _ (e_156.trans (e_170.trans e_185)) s_186 ⟨some v_149, some v_153, rfl, ⟨_, hc_161, Rt.mono _ (e_170.trans e_185) exz hx_163⟩⟩
      subst hs_200
      refine qm_if (E := EZ) (K := K) (σ := [some (.ref a0), some (.ref p_1), some v_12, some (.ref p_24), w_89, w_90, some v_124, w_201, w_202, none]) (tm_not (tm_B (m_callP (am_cons off_same (m_pure (x_var (i := 2) rfl (Rp.mono _ (e_29.trans (e_85.trans (e_101.trans (e_114.trans (e_127.trans e_197))))) exz r_17))) (am_one (m_lc off_same (im_pure (i_list (x_var (i := 2) rfl (Rp.mono _ (e_29.trans (e_85.trans (e_101.trans (e_114.trans (e_127.trans e_197))))) exz r_17)))) g1 (fun _ _ _ _ ⟨_, h, _⟩ => by rw [h]; rfl) (fun x_217 σ2 I_218 C_219 e_220 c_221 ⟨v_222, h, r_223⟩ => by subst h; exact (m_callM0 (i := 1) rfl)))))))) s_198 hc_206 (Rt.mono _ (Ex.refl _) exz hx_207) hm (fun y_233 ws_234 I_225 C_235 H_226 e_227 s_228 hc_236 k_237 hx_238 hm => ?_) (fun y_239 ws_240 I_229 C_241 H_230 e_231 s_232 hc_242 k_243 hx_244 hm => ?_)
      · refine q_ret (tz := tNext) (E := EZ) (K := K) (σ := [some (.ref a0), some (.ref p_1), some v_12, some (.ref p_24), w_89, w_90, some v_124, w_201, w_202, none]) x_bl s_228 (fun _ _ h => h.elim) hm fun a_245 v_246 I_247 H_248 e_249 s_250 r_251 hm => ?_
        exact hm v_246 H_248 r_251
      · refine s_forR (E := EZ) (K := K) (σ := [some (.ref a0), some (.ref p_1), some v_12, some (.ref p_24), w_89, w_90, some v_124, w_201, w_202, none]) (fun (z_252 : Pl) σ2 I_256 C_257 => ∃ w_254 : Option V, ∃ w_255 : Option V, σ2 = [some (.ref a0), some (.ref p_1), some v_12, some (.ref p_24), w_89, w_90, some v_124, w_254, w_202, w_255] ∧ (∃ ws_258 : List V, C_257 p_1 = some (.lst ws_258) ∧ Rt.r pM z_252 ws_258 I_256 Z)) (i_rng1 (a_one (x_int (i := 3)))) s_232 (fun _ _ h => h.elim) hm (fun _ e_270 => ⟨w_201, none, rfl, ⟨_, hc_242, Rt.mono _ (Ex.trans (Ex.refl _) e_270) exz hx_244⟩⟩) (fun _ _ _ _ _ => trivial) (fun _ _ _ _ _ e ⟨w_254, w_255, hs_253, ⟨ws_258, hc_259, hx_260⟩⟩ => ⟨w_254, w_255, hs_253, ⟨ws_258, hc_259, Rt.mono _ e exz hx_260⟩⟩) (fun N x_262 v_263 z_252 σ2 I_264 C_265 H_266 e_267 s_268 ⟨w_254, w_255, hs_253, ⟨ws_258, hc_259, hx_260⟩⟩ r_269 hm => ?_) (fun z_306 σ2 I_301 C_302 H_303 e_304 s_305 ⟨w_308, w_309, hs_307, ⟨ws_312, hc_313, hx_314⟩⟩ hm => ?_)
        · subst hs_253
          refine g1 (K := K) x_262 v_263 I_264 C_265 H_266 _ s_268 r_269 fun σ2 ⟨v_271, hs_273, r_272⟩ => ?_
          subst hs_273
          refine qm_asg (E := EZ) (K := K) (σ := [some (.ref a0), some (.ref p_1), some v_12, some (.ref p_24), w_89, w_90, some v_124, some v_271, w_202, w_255]) (i := 9) (m_callM (i := 1) rfl (am_pure (a_cons (x_var (i := 2) rfl (Rp.mono _ (e_29.trans (e_85.trans (e_101.trans (e_114.trans (e_127.trans (e_197.trans (e_231.trans e_267))))))) exz r_17)) (a_one (x_var (i := 3) rfl (Rp.mono _ (e_114.trans (e_127.trans (e_197.trans (e_231.trans e_267)))) exz r_106)))))) s_268 hc_259 (Rt.mono _ (Ex.refl _) exz hx_260) hm fun pair_274 v_275 ws_281 I_276 C_282 H_277 e_278 s_279 hc_283 k_284 hx_285 r_280 hm => ?_
          refine s_if (E := EZ) (K := K) (σ := [some (.ref a0), some (.ref p_1), some v_12, some (.ref p_24), w_89, w_90, some v_124, some v_271, w_202, some v_275]) (t_not (t_B (x_call (a_cons (x_var (i := 2) rfl (Rp.mono _ (e_29.trans (e_85.trans (e_101.trans (e_114.trans (e_127.trans (e_197.trans (e_231.trans (e_267.trans e_278)))))))) exz r_17)) (a_cons (x_var (i := 3) rfl (Rp.mono _ (e_114.trans (e_127.trans (e_197.trans (e_231.trans (e_267.trans e_278))))) exz r_106)) (a_cons (x_k (k := ((0 : Nat) : Int)) (o_pj pj0) (x_var (i := 9) rfl (Rp.mono _ (Ex.refl _) exz r_280))) (a_one (x_k (k := ((1 : Nat) : Int)) (o_pj (pjs pj1)) (x_var (i := 9) rfl (Rp.mono _ (Ex.refl _) exz r_280)))))))))) s_279 (fun _ _ h => h.elim) hm (fun I_286 H_287 e_288 s_289 hm => ?_) (fun I_290 H_291 e_292 s_293 hm => ?_)
          · refine q_ret (tz := tNext) (E := EZ) (K := K) (σ := [some (.ref a0), some (.ref p_1), some v_12, some (.ref p_24), w_89, w_90, some v_124, some v_271, w_202, some v_275]) x_bl s_289 (fun _ _ h => h.elim) hm fun a_294 v_295 I_296 H_297 e_298 s_299 r_300 hm => ?_
            exact hm v_295 H_297 r_300
          · exact hm _ _ _ _ (e_278.trans e_292) s_293 ⟨some v_271, some v_275, rfl, ⟨_, hc_283, Rt.mono _ e_292 exz hx_285⟩⟩
        subst hs_307
        refine qm_ret (E := EZ) (K := K) (σ := [some (.ref a0), some (.ref p_1), some v_12, some (.ref p_24), w_89, w_90, some v_124, w_308, w_202, w_309]) (m_callM (i := 1) rfl (am_pure (a_one (x_var (i := 2) rfl (Rp.mono _ (e_29.trans (e_85.trans (e_101.trans (e_114.trans (e_127.trans (e_197.trans (e_231.trans e_304))))))) exz r_17))))) s_305 hc_313 (Rt.mono _ (Ex.refl _) exz hx_314) hm fun a_316 v_317 ws_323 I_318 C_324 H_319 e_320 s_321 hc_325 k_326 hx_327 r_322 hm => ?_
        exact hm v_317 H_319 r_322
end
end K85

namespace K85
open PySem Sd
/-! the pool -/
theorem mix_ok (c t : Int) : ∃ v, m__law_mix c t = .ok v := by
  unfold m__law_mix
  simp [rMul, rMod]
/-- the pool's counter does not run below 0 -/
abbrev PI_ (p : Pl) : Prop := 0 ≤ p.2.1 ∧ 0 ≤ p.2.2.1
theorem fill_is (p : Pl) (h : PI_ p) : Is (m__law_fill () p) fun b => PI_ b.2 := by
  unfold m__law_fill
  simp only [Res.bind_ok, rLen_eq, bin_ok, un_ok, rLt_eq, rGt_eq, ifR_ok, idR_eq]
  refine Is.bind (Q := fun z => z.1 = p) ?_ fun z hz => ?_
  · by_cases h1 : p.2.1 < (p.2.2.2.length : Int)
    · obtain ⟨x, e, _⟩ := ix_get h.1 h1
      simp only [decide_eq_true_eq, if_pos h1, e, Res.bind_ok]
      exact rfl
    · simp only [decide_eq_true_eq, if_neg h1]
      by_cases h2 : 0 < (p.2.2.2.length : Int)
      · obtain ⟨x, e, _⟩ := ix_get (xs := p.2.2.2) (Int.emod_nonneg p.2.2.1 (by omega)) (Int.emod_lt_of_pos p.2.2.1 h2)
        simp only [if_pos h2, rMod_ok h2, bin, Res.bind_ok, e]
        exact rfl
      · simp only [if_neg h2]
        exact rfl
  · obtain ⟨q, c⟩ := z
    have hz : q = p := hz
    subst hz
    refine Is.bind (Q := fun _ => True) ?_ fun c2 _ => ?_
    · dsimp only
      by_cases h3 : c < 0
      · simp only [decide_eq_true_eq, if_pos h3, bin, Res.bind_ok]
        rw [rMul_ok (.inl (by decide))]
        trivial
      · simp only [decide_eq_true_eq, if_neg h3]
        trivial
    · have hp : rPow 10 18 = .ok (10 ^ 18) := rPow_ok (by decide)
      simp only [thenR_eq, bin_ok, rAdd_eq, Res.bind_ok, hp, rGe_eq, rLe_eq, andR_ok, ifR_ok]
      split
      · exact ⟨by dsimp only; omega, by dsimp only; omega⟩
      · obtain ⟨v, hv⟩ := mix_ok c2 (q.2.2.1 + 1)
        simp only [pair_ok, un_ok, hv, Res.bind_ok]
        exact ⟨by dsimp only; omega, by dsimp only; omega⟩
theorem take_is {n : Int} {p : Pl} (h : PI_ p) (h0 : 0 < n) (h1 : n < 1073741824) : Is (m__law_take n p) fun b => (0 ≤ b.1 ∧ b.1 < n) ∧ PI_ b.2 := by
  unfold m__law_take
  simp only [bin_ok, rLt_eq, ifR_ok]
  refine Is.bind (Q := PI_) ?_ fun z hz => ?_
  · split
    · exact Is.bind (fill_is p h) fun b hb => hb
    · exact h
  · simp only [un_ok, idR_eq, bin_ok, rMod_ok h0, rDiv_ok ⟨h0, h1⟩, Res.bind_ok, thenR_eq]
    exact ⟨⟨Int.emod_nonneg _ (by omega), Int.emod_lt_of_pos _ h0⟩, hz⟩
theorem take_ok {n : Int} {p : Pl} (h : PI_ p) (h0 : 0 < n) (h1 : n < 1073741824) : ∃ b, m__law_take n p = .ok b ∧ (0 ≤ b.1 ∧ b.1 < n) ∧ PI_ b.2 := (take_is h h0 h1).get
theorem from_is {lo hi : Int} {p : Pl} (h : PI_ p) (h0 : lo ≤ hi) (h1 : hi - lo < 1073741823) : Is (m__law_from lo hi p) fun b => (lo ≤ b.1 ∧ b.1 ≤ hi) ∧ PI_ b.2 := by
  unfold m__law_from
  obtain ⟨b, e, hb, hp⟩ := take_ok (n := hi - lo + 1) h (by omega) (by omega)
  simp only [binM, callM, liftM_eq, bin_ok, rSub_eq, rAdd_eq, Res.bind_ok, e]
  exact ⟨⟨by dsimp only; omega, by dsimp only; omega⟩, hp⟩
theorem from_ok {lo hi : Int} {p : Pl} (h : PI_ p) (h0 : lo ≤ hi) (h1 : hi - lo < 1073741823) : ∃ b, m__law_from lo hi p = .ok b ∧ (lo ≤ b.1 ∧ b.1 ≤ hi) ∧ PI_ b.2 := (from_is h h0 h1).get

abbrev Ra := Int × Int
def Lt (x y : Ra) : Prop := x.1 * y.2 < y.1 * x.2
instance (x y : Ra) : Decidable (Lt x y) := inferInstanceAs (Decidable (_ < _))
def Eqv (x y : Ra) : Prop := x.1 * y.2 = y.1 * x.2
theorem mul_lt_iff {a b c : Int} (hc : 0 < c) : a * c < b * c ↔ a < b := by
  constructor
  · intro h
    exact Int.lt_of_mul_lt_mul_right h (by omega)
  · intro h
    exact Int.mul_lt_mul_of_pos_right h hc
theorem lt_congr {x x' y y' : Ra} (hx : 0 < x.2) (hx' : 0 < x'.2) (hy : 0 < y.2) (hy' : 0 < y'.2) (ex : Eqv x x') (ey : Eqv y y') : Lt x y ↔ Lt x' y' := by
  unfold Lt Eqv at *
  have h1 : 0 < x'.2 * y'.2 := Int.mul_pos hx' hy'
  have h2 : 0 < x.2 * y.2 := Int.mul_pos hx hy
  rw [← mul_lt_iff h1, ← mul_lt_iff (a := x'.1 * y'.2) h2]
  have e1 : x.1 * y.2 * (x'.2 * y'.2) = x'.1 * y'.2 * (x.2 * y.2) := by grind
  have e2 : y.1 * x.2 * (x'.2 * y'.2) = y'.1 * x'.2 * (x.2 * y.2) := by grind
  rw [e1, e2]
theorem lt_as {x y : Ra} (h : Lt x y) : ¬ Lt y x := by
  unfold Lt at *
  omega
theorem lt_trans {x y z : Ra} (hx : 0 < x.2) (hy : 0 < y.2) (hz : 0 < z.2) (h : Lt x y) (h' : Lt y z) : Lt x z := by
  unfold Lt at *
  rw [← mul_lt_iff hy]
  have h1 := Int.mul_lt_mul_of_pos_right h hz
  have h2 := Int.mul_lt_mul_of_pos_right h' hx
  grind
theorem le_lt_trans {x y z : Ra} (hx : 0 < x.2) (hy : 0 < y.2) (hz : 0 < z.2) (h : ¬ Lt y x) (h' : Lt y z) : Lt x z := by
  unfold Lt at *
  rw [← mul_lt_iff hy]
  have h1 := Int.mul_le_mul_of_nonneg_right (Int.not_lt.mp h) (Int.le_of_lt hz)
  have h2 := Int.mul_lt_mul_of_pos_right h' hx
  grind
theorem lt_le_trans {x y z : Ra} (hx : 0 < x.2) (hy : 0 < y.2) (hz : 0 < z.2) (h : Lt x y) (h' : ¬ Lt z y) : Lt x z := by
  unfold Lt at *
  rw [← mul_lt_iff hy]
  have h1 := Int.mul_lt_mul_of_pos_right h hz
  have h2 := Int.mul_le_mul_of_nonneg_right (Int.not_lt.mp h') (Int.le_of_lt hx)
  grind
theorem le_trans {x y z : Ra} (hx : 0 < x.2) (hy : 0 < y.2) (hz : 0 < z.2) (h : ¬ Lt y x) (h' : ¬ Lt z y) : ¬ Lt z x := fun h2 => h' (lt_le_trans hz hx hy h2 h)
theorem eqv_of {x y : Ra} (h : ¬ Lt x y) (h' : ¬ Lt y x) : Eqv x y := by
  unfold Lt Eqv at *
  omega
theorem eqv_symm {x y : Ra} (h : Eqv x y) : Eqv y x := by
  unfold Eqv at *
  exact h.symm
theorem eqv_trans {x y z : Ra} (hy : 0 < y.2) (h : Eqv x y) (h' : Eqv y z) : Eqv x z := by
  unfold Eqv at *
  have : (x.1 * z.2) * y.2 = (z.1 * x.2) * y.2 := by grind
  exact Int.eq_of_mul_eq_mul_right (by omega) this
/-! the rising division of the points (T i, Y i) -/
structure Pts (Y T : Int → Int) (n : Int) : Prop where
  t : ∀ i j, 0 ≤ i → i < j → j ≤ n → T i < T j
  y : ∀ i j, 0 ≤ i → i ≤ j → j ≤ n → Y i ≤ Y j
section
variable {Y T : Int → Int} {n : Int}
def sh (Y T : Int → Int) (a b : Int) : Ra := (Y b - Y a, T b - T a)
def Gv (Y T : Int → Int) (v : Ra) (i : Int) : Int := Y i * v.2 - v.1 * T i
theorem lt_sh {v : Ra} {a b : Int} : Lt (sh Y T a b) v ↔ Gv Y T v b < Gv Y T v a := by
  unfold Lt sh Gv
  simp only [Int.sub_mul, Int.mul_sub]
  omega
theorem sh_lt {v : Ra} {a b : Int} : Lt v (sh Y T a b) ↔ Gv Y T v a < Gv Y T v b := by
  unfold Lt sh Gv
  simp only [Int.sub_mul, Int.mul_sub]
  omega
theorem g_self {a b : Int} : Gv Y T (sh Y T a b) a = Gv Y T (sh Y T a b) b := by
  unfold sh Gv
  grind
theorem Pts.pos (P : Pts Y T n) {a b : Int} (h0 : 0 ≤ a) (h : a < b) (h1 : b ≤ n) : 0 < (sh Y T a b).2 := by
  have := P.t a b h0 h h1
  show 0 < T b - T a
  omega
def lvl (Y T : Int → Int) (a b : Int) : Bool := !(rangeL (a + 1) b).any fun i => decide (Lt (sh Y T a i) (sh Y T a b))
theorem lvl_iff {a b : Int} : lvl Y T a b = true ↔ ∀ i, a < i → i < b → ¬ Lt (sh Y T a i) (sh Y T a b) := by
  unfold lvl
  rw [Bool.not_eq_true', List.any_eq_false]
  constructor
  · intro h i h1 h2
    have := h i (mem_rangeL.mpr ⟨by omega, h2⟩)
    simpa using this
  · intro h i hi
    have := mem_rangeL.mp hi
    simpa using h i (by omega) (by omega)
def okd (Y T : Int → Int) (n : Int) (s : Int × Ra) (x : Int × Int) : Bool := decide (x.1 = s.1) && (decide (s.1 < x.2) && (decide (x.2 ≤ n) && (decide (Lt s.2 (sh Y T x.1 x.2)) && lvl Y T x.1 x.2)))
def stp (Y T : Int → Int) (n : Int) (s : Option (Int × Ra)) (x : Int × Int) : Option (Int × Ra) := match s with
  | none => none
  | some s => if okd Y T n s x = true then some (x.2, sh Y T x.1 x.2) else none
def run (Y T : Int → Int) (n : Int) (l : List (Int × Int)) (s : Option (Int × Ra)) : Option (Int × Ra) := l.foldl (stp Y T n) s
@[simp] theorem run_nil (s : Option (Int × Ra)) : run Y T n [] s = s := rfl
@[simp] theorem run_cons (x : Int × Int) (l : List (Int × Int)) (s : Option (Int × Ra)) : run Y T n (x :: l) s = run Y T n l (stp Y T n s x) := rfl
theorem run_none : ∀ l : List (Int × Int), run Y T n l none = none
  | [] => rfl
  | x :: l => run_none l
theorem run_append (l m : List (Int × Int)) (s : Option (Int × Ra)) : run Y T n (l ++ m) s = run Y T n m (run Y T n l s) := List.foldl_append
structure Okd (Y T : Int → Int) (n : Int) (s : Int × Ra) (x : Int × Int) : Prop where
  st : x.1 = s.1
  lt : s.1 < x.2
  le : x.2 ≤ n
  up : Lt s.2 (sh Y T x.1 x.2)
  lv : ∀ i, x.1 < i → i < x.2 → ¬ Lt (sh Y T x.1 i) (sh Y T x.1 x.2)
theorem okd_iff {s : Int × Ra} {x : Int × Int} : okd Y T n s x = true ↔ Okd Y T n s x := by
  unfold okd
  simp only [Bool.and_eq_true, decide_eq_true_eq, lvl_iff]
  exact ⟨fun ⟨a, b, c, d, e⟩ => ⟨a, b, c, d, e⟩, fun ⟨a, b, c, d, e⟩ => ⟨a, b, c, d, e⟩⟩
theorem stp_some {s : Option (Int × Ra)} {x : Int × Int} {p : Int × Ra} (h : stp Y T n s x = some p) : ∃ s', s = some s' ∧ Okd Y T n s' x ∧ p = (x.2, sh Y T x.1 x.2) := by
  unfold stp at h
  cases s with
  | none => cases h
  | some s =>
    dsimp only at h
    split at h
    · rename_i hk
      cases h
      exact ⟨s, rfl, okd_iff.mp hk, rfl⟩
    · cases h
theorem stp_of {s : Int × Ra} {x : Int × Int} (h : Okd Y T n s x) : stp Y T n (some s) x = some (x.2, sh Y T x.1 x.2) := by
  unfold stp
  dsimp only
  rw [if_pos (okd_iff.mpr h)]
theorem run_cons_some {x : Int × Int} {l : List (Int × Int)} {s p : Int × Ra} (h : run Y T n (x :: l) (some s) = some p) : Okd Y T n s x ∧ run Y T n l (some (x.2, sh Y T x.1 x.2)) = some p := by
  rw [run_cons] at h
  cases q : stp Y T n (some s) x with
  | none =>
    rw [q, run_none] at h
    cases h
  | some s' =>
    obtain ⟨s1, e1, ok, e⟩ := stp_some q
    cases e1
    rw [q, e] at h
    exact ⟨ok, h⟩
theorem run_snoc_some {x : Int × Int} {l : List (Int × Int)} {s : Option (Int × Ra)} {p : Int × Ra} (h : run Y T n (l ++ [x]) s = some p) : ∃ s', run Y T n l s = some s' ∧ Okd Y T n s' x ∧ p = (x.2, sh Y T x.1 x.2) := by
  rw [run_append, run_cons, run_nil] at h
  exact stp_some h
/-- the places go up -/
theorem run_le : ∀ {l : List (Int × Int)} {s p : Int × Ra}, run Y T n l (some s) = some p → s.1 ≤ p.1 ∧ (l ≠ [] → p.1 ≤ n)
  | [], s, p, h => by
    cases h
    exact ⟨Int.le_refl _, fun z => absurd rfl z⟩
  | x :: l, s, p, h => by
    obtain ⟨ok, h2⟩ := run_cons_some h
    obtain ⟨h3, h4⟩ := run_le h2
    have := ok.lt
    refine ⟨by dsimp only at h3; omega, fun _ => ?_⟩
    cases l with
    | nil =>
      cases h2
      exact ok.le
    | cons y l => exact h4 (by simp)
/-- behind a stretch all points lie above its line -/
theorem supR (P : Pts Y T n) {v : Ra} (hv : 0 < v.2) : ∀ {l : List (Int × Int)} {s p : Int × Ra}, 0 ≤ s.1 → 0 < s.2.2 → run Y T n l (some s) = some p → ¬ Lt s.2 v → ∀ i, s.1 ≤ i → i ≤ p.1 → Gv Y T v s.1 ≤ Gv Y T v i
  | [], s, p, _, _, h, _, i, h1, h2 => by
    cases h
    have : i = s.1 := by omega
    rw [this]
    exact Int.le_refl _
  | x :: l, s, p, h0, hp, h, hl, i, h1, h2 => by
    obtain ⟨ok, h3⟩ := run_cons_some h
    have lt := ok.lt
    have hx : 0 < (sh Y T x.1 x.2).2 := P.pos (by rw [ok.st]; exact h0) (by rw [ok.st]; exact lt) ok.le
    have le : ¬ Lt (sh Y T x.1 x.2) v := fun z => hl (lt_trans hp hx hv ok.up z)
    have g1 : Gv Y T v x.1 ≤ Gv Y T v x.2 := by
      rw [lt_sh] at le
      omega
    rw [← ok.st] at h1 ⊢
    by_cases hi : i < x.2
    · by_cases hi0 : x.1 < i
      · have hxi : 0 < (sh Y T x.1 i).2 := P.pos (by rw [ok.st]; exact h0) hi0 (by have := ok.le; omega)
        have := le_trans hv hx hxi le (ok.lv i hi0 hi)
        rw [lt_sh] at this
        omega
      · have : i = x.1 := by omega
        rw [this]
        exact Int.le_refl _
    · have := supR P hv (s := (x.2, sh Y T x.1 x.2)) (by dsimp only; omega) hx h3 le i (by dsimp only; omega) h2
      dsimp only at this
      omega
/-- ahead of it, too -/
theorem supL (P : Pts Y T n) {v : Ra} (hv : 0 < v.2) : ∀ (k : Nat) {l : List (Int × Int)} {p : Int × Ra}, l.length = k → run Y T n l (some (0, (-1, 1))) = some p → ¬ Lt v p.2 → 0 ≤ p.1 ∧ 0 < p.2.2 ∧ ∀ i, 0 ≤ i → i ≤ p.1 → Gv Y T v p.1 ≤ Gv Y T v i
  | 0, l, p, hk, h, hl => by
    have : l = [] := List.length_eq_zero_iff.mp hk
    subst this
    cases h
    refine ⟨Int.le_refl _, by decide, fun i h1 h2 => ?_⟩
    have : i = 0 := by dsimp only at h2; omega
    rw [this]
    exact Int.le_refl _
  | k + 1, l, p, hk, h, hl => by
    rcases List.eq_nil_or_concat l with e | ⟨l', x, e⟩
    · rw [e] at hk
      cases hk
    · rw [e, List.concat_eq_append] at h hk
      rw [List.length_append] at hk
      obtain ⟨s, h1, ok, e2⟩ := run_snoc_some (s := some (0, (-1, 1))) h
      subst e2
      dsimp only at hl ⊢
      have lt := ok.lt
      have key : 0 ≤ s.1 ∧ 0 < s.2.2 := by
        rcases List.eq_nil_or_concat l' with e | ⟨l2, y, e⟩
        · rw [e] at h1
          cases h1
          exact ⟨Int.le_refl _, by decide⟩
        · rw [e, List.concat_eq_append] at h1
          have a := (run_le h1).1
          obtain ⟨s3, h3, ok3, e3⟩ := run_snoc_some (s := some (0, (-1, 1))) h1
          subst e3
          have b := (run_le h3).1
          refine ⟨a, P.pos (by rw [ok3.st]; exact b) (by rw [ok3.st]; exact ok3.lt) ok3.le⟩
      have hx0 : 0 ≤ x.1 := by rw [ok.st]; exact key.1
      have hx : 0 < (sh Y T x.1 x.2).2 := P.pos hx0 (by rw [ok.st]; exact lt) ok.le
      obtain ⟨_, _, ih⟩ := supL P hv k (by simpa using hk) h1 (lt_as (lt_le_trans key.2 hx hv ok.up hl))
      refine ⟨by have := ok.st; omega, hx, fun i h1 h2 => ?_⟩
      by_cases hi : i < x.2
      · by_cases hi0 : x.1 < i
        · have a := ok.lv i hi0 hi
          rw [lt_sh, g_self] at a
          have b : ¬ Lt (sh Y T x.1 x.2) (sh Y T i x.2) := by
            rw [sh_lt]
            exact a
          have c : ¬ Lt v (sh Y T i x.2) := fun z => b (le_lt_trans hx hv (P.pos h1 hi ok.le) hl z)
          rw [sh_lt] at c
          omega
        · have a := ih i h1 (by have := ok.st; omega)
          rw [← ok.st] at a
          have b : ¬ Gv Y T v x.1 < Gv Y T v x.2 := fun z => hl (sh_lt.mpr z)
          omega
      · have : i = x.2 := by omega
        rw [this]
        exact Int.le_refl _
/-- the whole division -/
abbrev Div (Y T : Int → Int) (n : Int) (l : List (Int × Int)) : Prop := ∃ r, run Y T n l (some (0, (-1, 1))) = some (n, r)
theorem Div.at (P : Pts Y T n) {l : List (Int × Int)} (h : Div Y T n l) {x : Int × Int} (hx : x ∈ l) : 0 ≤ x.1 ∧ x.1 < x.2 ∧ x.2 ≤ n ∧ ∀ i, 0 ≤ i → i ≤ n → Gv Y T (sh Y T x.1 x.2) x.1 ≤ Gv Y T (sh Y T x.1 x.2) i := by
  obtain ⟨r, h⟩ := h
  obtain ⟨l1, l2, e⟩ := List.append_of_mem hx
  subst e
  rw [run_append] at h
  cases q : run Y T n l1 (some (0, (-1, 1))) with
  | none =>
    rw [q, run_none] at h
    cases h
  | some s =>
    rw [q] at h
    obtain ⟨ok, h2⟩ := run_cons_some h
    have a := (run_le q).1
    have st := ok.st
    have lt := ok.lt
    have hp : 0 < (sh Y T x.1 x.2).2 := P.pos (by rw [st]; exact a) (by rw [st]; exact lt) ok.le
    obtain ⟨b, c, d⟩ := supL P hp _ rfl q (lt_as ok.up)
    refine ⟨by dsimp only at a; omega, by omega, ok.le, fun i h0 h1 => ?_⟩
    by_cases hi : i ≤ s.1
    · rw [st]
      rw [st] at d
      exact d i h0 hi
    · have e := supR P hp (s := (x.2, sh Y T x.1 x.2)) (by dsimp only at a ⊢; omega) hp h2 (fun z => Int.lt_irrefl _ (show (sh Y T x.1 x.2).1 * (sh Y T x.1 x.2).2 < (sh Y T x.1 x.2).1 * (sh Y T x.1 x.2).2 from z))
      dsimp only at e
      by_cases hi2 : x.2 ≤ i
      · rw [g_self]
        exact e i hi2 h1
      · have := ok.lv i (by omega) (by omega)
        rw [lt_sh] at this
        omega
theorem run_cover : ∀ {l : List (Int × Int)} {s p : Int × Ra}, run Y T n l (some s) = some p → ∀ k, s.1 ≤ k → k < p.1 → ∃ x ∈ l, x.1 ≤ k ∧ k < x.2
  | [], s, p, h, k, h1, h2 => by
    cases h
    omega
  | x :: l, s, p, h, k, h1, h2 => by
    obtain ⟨ok, h3⟩ := run_cons_some h
    have st := ok.st
    by_cases hk : k < x.2
    · exact ⟨x, List.mem_cons_self, by omega, hk⟩
    · obtain ⟨y, hy, h4⟩ := run_cover h3 k (by dsimp only; omega) h2
      exact ⟨y, List.mem_cons_of_mem _ hy, h4⟩
theorem Div.cover {l : List (Int × Int)} (h : Div Y T n l) {k : Int} (h0 : 0 ≤ k) (h1 : k < n) : ∃ x ∈ l, x.1 ≤ k ∧ k < x.2 := by
  obtain ⟨r, h⟩ := h
  exact run_cover h k h0 h1
/-- two stretches join -/
theorem join_lv (P : Pts Y T n) {a b c : Int} (h0 : 0 ≤ a) (hab : a < b) (hbc : b < c) (hc : c ≤ n) (l1 : ∀ i, a < i → i < b → ¬ Lt (sh Y T a i) (sh Y T a b)) (l2 : ∀ i, b < i → i < c → ¬ Lt (sh Y T b i) (sh Y T b c))
    (h : ¬ Lt (sh Y T a b) (sh Y T b c)) : ∀ i, a < i → i < c → ¬ Lt (sh Y T a i) (sh Y T a c) := by
  have ta := P.t a b h0 hab (by omega)
  have tb := P.t b c (by omega) hbc hc
  have hac : 0 < (sh Y T a c).2 := P.pos h0 (by omega) hc
  have hab2 : 0 < (sh Y T a b).2 := P.pos h0 hab (by omega)
  have up : ¬ Lt (sh Y T a b) (sh Y T a c) := by
    unfold Lt sh at h ⊢
    dsimp only at h ⊢
    grind
  intro i h1 h2
  by_cases hi : i < b
  · exact le_trans hac hab2 (P.pos h0 h1 (by omega)) up (l1 i h1 hi)
  · by_cases hi2 : b < i
    · have ti := P.t b i (by omega) hi2 (by omega)
      have tj := P.t i c (by omega) h2 hc
      have q := l2 i hi2 h2
      unfold Lt sh at up q ⊢
      dsimp only at up q ⊢
      -- (Yb-Ya)(Tc-Ta) ≥ (Yc-Ya)(Tb-Ta); (Yi-Yb)(Tc-Tb) ≥ (Yc-Yb)(Ti-Tb)
      have A : 0 ≤ ((Y b - Y a) * (T c - T a) - (Y c - Y a) * (T b - T a)) * (T c - T i) := Int.mul_nonneg (by omega) (by omega)
      have B : 0 ≤ ((Y i - Y b) * (T c - T b) - (Y c - Y b) * (T i - T b)) * (T c - T a) := Int.mul_nonneg (by omega) (by omega)
      have e : ((Y i - Y a) * (T c - T a) - (Y c - Y a) * (T i - T a)) * (T c - T b) = ((Y b - Y a) * (T c - T a) - (Y c - Y a) * (T b - T a)) * (T c - T i) + ((Y i - Y b) * (T c - T b) - (Y c - Y b) * (T i - T b)) * (T c - T a) := by grind
      have D : 0 ≤ ((Y i - Y a) * (T c - T a) - (Y c - Y a) * (T i - T a)) * (T c - T b) := by omega
      have := Int.nonneg_of_mul_nonneg_left D (by omega)
      omega
    · have : i = b := by omega
      rw [this]
      exact up
end

/-! least and greatest -/
section
variable {α : Type}
def minF (g : α → Ra) (xs : List α) (z : Ra) : Ra := xs.foldl (fun z x => if Lt (g x) z then g x else z) z
def maxF (g : α → Ra) (xs : List α) (z : Ra) : Ra := xs.foldl (fun z x => if Lt z (g x) then g x else z) z
theorem lt_irr {x : Ra} : ¬ Lt x x := Int.lt_irrefl _
theorem minF_spec {g : α → Ra} : ∀ {xs : List α} {z : Ra}, 0 < z.2 → (∀ x ∈ xs, 0 < (g x).2) → 0 < (minF g xs z).2 ∧ ¬ Lt z (minF g xs z) ∧ (∀ x ∈ xs, ¬ Lt (g x) (minF g xs z)) ∧ (minF g xs z = z ∨ ∃ x ∈ xs, minF g xs z = g x)
  | [], z, hz, _ => ⟨hz, lt_irr, fun x h => (nomatch h), .inl rfl⟩
  | x :: xs, z, hz, hg => by
    have hx := hg x List.mem_cons_self
    by_cases h : Lt (g x) z
    · have e : minF g (x :: xs) z = minF g xs (g x) := by
        show xs.foldl _ (if Lt (g x) z then g x else z) = _
        rw [if_pos h]
        rfl
      obtain ⟨a, b, c, d⟩ := minF_spec (g := g) (xs := xs) (z := g x) hx fun y hy => hg y (List.mem_cons_of_mem _ hy)
      rw [e]
      refine ⟨a, fun q => b (lt_trans hx hz a h q), fun y hy => ?_, .inr ?_⟩
      · rcases List.mem_cons.mp hy with rfl | hy
        · exact b
        · exact c y hy
      · rcases d with d | ⟨y, hy, d⟩
        · exact ⟨x, List.mem_cons_self, d⟩
        · exact ⟨y, List.mem_cons_of_mem _ hy, d⟩
    · have e : minF g (x :: xs) z = minF g xs z := by
        show xs.foldl _ (if Lt (g x) z then g x else z) = _
        rw [if_neg h]
        rfl
      obtain ⟨a, b, c, d⟩ := minF_spec (g := g) (xs := xs) (z := z) hz fun y hy => hg y (List.mem_cons_of_mem _ hy)
      rw [e]
      refine ⟨a, b, fun y hy => ?_, ?_⟩
      · rcases List.mem_cons.mp hy with rfl | hy
        · exact fun q => b (le_lt_trans hz hx a h q)
        · exact c y hy
      · exact d.imp id fun ⟨y, hy, d⟩ => ⟨y, List.mem_cons_of_mem _ hy, d⟩
theorem maxF_spec {g : α → Ra} : ∀ {xs : List α} {z : Ra}, 0 < z.2 → (∀ x ∈ xs, 0 < (g x).2) → 0 < (maxF g xs z).2 ∧ ¬ Lt (maxF g xs z) z ∧ (∀ x ∈ xs, ¬ Lt (maxF g xs z) (g x)) ∧ (maxF g xs z = z ∨ ∃ x ∈ xs, maxF g xs z = g x)
  | [], z, hz, _ => ⟨hz, lt_irr, fun x h => (nomatch h), .inl rfl⟩
  | x :: xs, z, hz, hg => by
    have hx := hg x List.mem_cons_self
    by_cases h : Lt z (g x)
    · have e : maxF g (x :: xs) z = maxF g xs (g x) := by
        show xs.foldl _ (if Lt z (g x) then g x else z) = _
        rw [if_pos h]
        rfl
      obtain ⟨a, b, c, d⟩ := maxF_spec (g := g) (xs := xs) (z := g x) hx fun y hy => hg y (List.mem_cons_of_mem _ hy)
      rw [e]
      refine ⟨a, fun q => b (lt_trans a hz hx q h), fun y hy => ?_, .inr ?_⟩
      · rcases List.mem_cons.mp hy with rfl | hy
        · exact b
        · exact c y hy
      · rcases d with d | ⟨y, hy, d⟩
        · exact ⟨x, List.mem_cons_self, d⟩
        · exact ⟨y, List.mem_cons_of_mem _ hy, d⟩
    · have e : maxF g (x :: xs) z = maxF g xs z := by
        show xs.foldl _ (if Lt z (g x) then g x else z) = _
        rw [if_neg h]
        rfl
      obtain ⟨a, b, c, d⟩ := maxF_spec (g := g) (xs := xs) (z := z) hz fun y hy => hg y (List.mem_cons_of_mem _ hy)
      rw [e]
      refine ⟨a, b, fun y hy => ?_, ?_⟩
      · rcases List.mem_cons.mp hy with rfl | hy
        · exact fun q => b (lt_le_trans a hx hz q h)
        · exact c y hy
      · exact d.imp id fun ⟨y, hy, d⟩ => ⟨y, List.mem_cons_of_mem _ hy, d⟩
theorem minF_pred {g : α → Ra} {q : Ra → Prop} {xs : List α} {z : Ra} (hz : q z) (hg : ∀ x ∈ xs, q (g x)) : q (minF g xs z) := by
  induction xs generalizing z with
  | nil => exact hz
  | cons x xs ih =>
    show q (minF g xs (if Lt (g x) z then g x else z))
    refine ih ?_ fun y hy => hg y (List.mem_cons_of_mem _ hy)
    split
    · exact hg x List.mem_cons_self
    · exact hz
theorem maxF_pred {g : α → Ra} {q : Ra → Prop} {xs : List α} {z : Ra} (hz : q z) (hg : ∀ x ∈ xs, q (g x)) : q (maxF g xs z) := by
  induction xs generalizing z with
  | nil => exact hz
  | cons x xs ih =>
    show q (maxF g xs (if Lt z (g x) then g x else z))
    refine ih ?_ fun y hy => hg y (List.mem_cons_of_mem _ hy)
    split
    · exact hg x List.mem_cons_self
    · exact hz
end
section
variable {Y T : Int → Int} {n : Int}
/-- the greatest of the least, the least of the greatest: the share of the stretch -/
structure Wt (Y T : Int → Int) (n : Int) (w : Int → Int → Ra) : Prop where
  p : ∀ a b, 0 ≤ a → a < b → b ≤ n → 0 < (w a b).2
  e : ∀ a b, 0 ≤ a → a < b → b ≤ n → Eqv (w a b) (sh Y T a b)
def mxn (n k : Int) (w : Int → Int → Ra) (z0 z1 : Ra) : Ra := maxF (fun s => minF (fun e => w s e) (rangeL (k + 1) (n + 1)) z1) (rangeL 0 (k + 1)) z0
def mnx (n k : Int) (w : Int → Int → Ra) (z0 z1 : Ra) : Ra := minF (fun e => maxF (fun s => w s e) (rangeL 0 (k + 1)) z0) (rangeL (k + 1) (n + 1)) z1
theorem not_lt_eqv {x x' y y' : Ra} (hx : 0 < x.2) (hx' : 0 < x'.2) (hy : 0 < y.2) (hy' : 0 < y'.2) (ex : Eqv x x') (ey : Eqv y y') (h : ¬ Lt x' y') : ¬ Lt x y := fun z => h ((lt_congr hx hx' hy hy' ex ey).mp z)
theorem eqv_refl {x : Ra} : Eqv x x := rfl
theorem mxn_eq (P : Pts Y T n) {l : List (Int × Int)} (h : Div Y T n l) {x : Int × Int} (hx : x ∈ l) {k : Int} (h0 : x.1 ≤ k) (h1 : k < x.2) {w : Int → Int → Ra} (W : Wt Y T n w) {z0 z1 : Ra} (p0 : 0 < z0.2) (p1 : 0 < z1.2)
    (u0 : ¬ Lt (sh Y T x.1 x.2) z0) (u1 : ¬ Lt z1 (sh Y T x.1 x.2)) : Eqv (mxn n k w z0 z1) (sh Y T x.1 x.2) ∧ 0 < (mxn n k w z0 z1).2 := by
  obtain ⟨a, b, c, d⟩ := h.at P hx
  have hv : 0 < (sh Y T x.1 x.2).2 := P.pos a b c
  have inn : ∀ s ∈ rangeL 0 (k + 1), 0 < (minF (fun e => w s e) (rangeL (k + 1) (n + 1)) z1).2 ∧ ¬ Lt (sh Y T x.1 x.2) (minF (fun e => w s e) (rangeL (k + 1) (n + 1)) z1) := fun s hs => by
    have hs := mem_rangeL.mp hs
    obtain ⟨m1, m2, m3, m4⟩ := minF_spec (g := fun e => w s e) (xs := rangeL (k + 1) (n + 1)) p1 fun e he => by
      have he := mem_rangeL.mp he
      exact W.p s e hs.1 (by omega) (by omega)
    refine ⟨m1, ?_⟩
    have q := m3 x.2 (mem_rangeL.mpr ⟨by omega, by omega⟩)
    have hw := W.p s x.2 hs.1 (by omega) c
    have hsh := P.pos hs.1 (show s < x.2 by omega) c
    have le : ¬ Lt (sh Y T x.1 x.2) (w s x.2) := not_lt_eqv hv hv hw hsh eqv_refl (W.e s x.2 hs.1 (by omega) c) fun z => by
      rw [sh_lt] at z
      have := d s hs.1 (by omega)
      rw [g_self] at this
      omega
    exact le_trans m1 hw hv q le
  obtain ⟨M1, M2, M3, M4⟩ := maxF_spec (g := fun s => minF (fun e => w s e) (rangeL (k + 1) (n + 1)) z1) (xs := rangeL 0 (k + 1)) p0 fun s hs => (inn s hs).1
  refine ⟨eqv_of ?_ ?_, M1⟩
  · have hs : x.1 ∈ rangeL 0 (k + 1) := mem_rangeL.mpr ⟨a, by omega⟩
    obtain ⟨m1, m2, m3, m4⟩ := minF_spec (g := fun e => w x.1 e) (xs := rangeL (k + 1) (n + 1)) p1 fun e he => by
      have he := mem_rangeL.mp he
      exact W.p x.1 e a (by omega) (by omega)
    have le : ¬ Lt (minF (fun e => w x.1 e) (rangeL (k + 1) (n + 1)) z1) (sh Y T x.1 x.2) := by
      rcases m4 with m4 | ⟨e, he, m4⟩
      · rw [m4]
        exact u1
      · rw [m4]
        have he := mem_rangeL.mp he
        refine not_lt_eqv (W.p x.1 e a (by omega) (by omega)) (P.pos a (show x.1 < e by omega) (by omega)) hv hv (W.e x.1 e a (by omega) (by omega)) eqv_refl fun z => ?_
        rw [lt_sh] at z
        have := d e (by omega) (by omega)
        omega
    exact le_trans hv m1 M1 le (M3 _ hs)
  · rcases M4 with M4 | ⟨s, hs, M4⟩
    · unfold mxn
      rw [M4]
      exact u0
    · unfold mxn
      rw [M4]
      exact (inn s hs).2
theorem mnx_eq (P : Pts Y T n) {l : List (Int × Int)} (h : Div Y T n l) {x : Int × Int} (hx : x ∈ l) {k : Int} (h0 : x.1 ≤ k) (h1 : k < x.2) {w : Int → Int → Ra} (W : Wt Y T n w) {z0 z1 : Ra} (p0 : 0 < z0.2) (p1 : 0 < z1.2)
    (u0 : ¬ Lt (sh Y T x.1 x.2) z0) (u1 : ¬ Lt z1 (sh Y T x.1 x.2)) : Eqv (mnx n k w z0 z1) (sh Y T x.1 x.2) ∧ 0 < (mnx n k w z0 z1).2 := by
  obtain ⟨a, b, c, d⟩ := h.at P hx
  have hv : 0 < (sh Y T x.1 x.2).2 := P.pos a b c
  have inn : ∀ e ∈ rangeL (k + 1) (n + 1), 0 < (maxF (fun s => w s e) (rangeL 0 (k + 1)) z0).2 ∧ ¬ Lt (maxF (fun s => w s e) (rangeL 0 (k + 1)) z0) (sh Y T x.1 x.2) := fun e he => by
    have he := mem_rangeL.mp he
    obtain ⟨m1, m2, m3, m4⟩ := maxF_spec (g := fun s => w s e) (xs := rangeL 0 (k + 1)) p0 fun s hs => by
      have hs := mem_rangeL.mp hs
      exact W.p s e hs.1 (by omega) (by omega)
    refine ⟨m1, ?_⟩
    have q := m3 x.1 (mem_rangeL.mpr ⟨a, by omega⟩)
    have hw := W.p x.1 e a (by omega) (by omega)
    have hsh := P.pos a (show x.1 < e by omega) (by omega)
    have le : ¬ Lt (w x.1 e) (sh Y T x.1 x.2) := not_lt_eqv hw hsh hv hv (W.e x.1 e a (by omega) (by omega)) eqv_refl fun z => by
      rw [lt_sh] at z
      have := d e (by omega) (by omega)
      omega
    exact le_trans hv hw m1 le q
  obtain ⟨M1, M2, M3, M4⟩ := minF_spec (g := fun e => maxF (fun s => w s e) (rangeL 0 (k + 1)) z0) (xs := rangeL (k + 1) (n + 1)) p1 fun s hs => (inn s hs).1
  refine ⟨eqv_of ?_ ?_, M1⟩
  · rcases M4 with M4 | ⟨s, hs, M4⟩
    · unfold mnx
      rw [M4]
      exact u1
    · unfold mnx
      rw [M4]
      exact (inn s hs).2
  · have hs : x.2 ∈ rangeL (k + 1) (n + 1) := mem_rangeL.mpr ⟨by omega, by omega⟩
    obtain ⟨m1, m2, m3, m4⟩ := maxF_spec (g := fun s => w s x.2) (xs := rangeL 0 (k + 1)) p0 fun s hs => by
      have hs := mem_rangeL.mp hs
      exact W.p s x.2 hs.1 (by omega) c
    have le : ¬ Lt (sh Y T x.1 x.2) (maxF (fun s => w s x.2) (rangeL 0 (k + 1)) z0) := by
      rcases m4 with m4 | ⟨s, hs, m4⟩
      · rw [m4]
        exact u0
      · rw [m4]
        have hs := mem_rangeL.mp hs
        refine not_lt_eqv hv hv (W.p s x.2 hs.1 (by omega) c) (P.pos hs.1 (show s < x.2 by omega) c) eqv_refl (W.e s x.2 hs.1 (by omega) c) fun z => ?_
        rw [sh_lt] at z
        have := d s hs.1 (by omega)
        rw [g_self] at this
        omega
    exact le_trans M1 m1 hv (M3 _ hs) le
end
/-! Euclid -/
def Fb : Nat → Nat
  | 0 => 1
  | 1 => 2
  | k + 2 => Fb (k + 1) + Fb k
def egcd : Nat → Nat → Nat → Option Nat
  | 0, _, _ => none
  | k + 1, a, b => if b = 0 then some a else egcd k b (a % b)
theorem egcd_ok : ∀ (m : Nat) {a b : Nat}, b < a → (a < Fb (m + 1) ∨ b < Fb m) → egcd (m + 1) a b = some (Nat.gcd a b)
  | 0, a, b, h, hb => by
    have : b = 0 := by
      rcases hb with hb | hb
      · have : Fb (0 + 1) = 2 := rfl
        omega
      · have : Fb 0 = 1 := rfl
        omega
    subst this
    unfold egcd
    rw [if_pos rfl, Nat.gcd_zero_right]
  | m + 1, a, b, h, hb => by
    unfold egcd
    by_cases h0 : b = 0
    · rw [if_pos h0, h0, Nat.gcd_zero_right]
    · rw [if_neg h0]
      have hm := Nat.mod_lt a (show 0 < b by omega)
      rw [egcd_ok m hm ?_, Nat.gcd_comm b, ← Nat.gcd_rec, Nat.gcd_comm]
      by_cases hb2 : b < Fb (m + 1)
      · exact .inl hb2
      · right
        have ha : a < Fb (m + 2) := hb.resolve_right hb2
        have e : Fb (m + 2) = Fb (m + 1) + Fb m := rfl
        have : a % b ≤ a - b := by
          rw [Nat.mod_eq_sub_mod (by omega)]
          exact Nat.mod_le _ _
        omega
theorem Fb_pos : ∀ m, 0 < Fb m
  | 0 => by decide
  | 1 => by decide
  | m + 2 => Nat.add_pos_left (Fb_pos (m + 1)) _
theorem Fb_le : ∀ m, Fb m ≤ Fb (m + 1)
  | 0 => by decide
  | m + 1 => Nat.le_add_right _ _
theorem Fb_mono {a b : Nat} (h : a ≤ b) : Fb a ≤ Fb b := by
  induction h with
  | refl => exact Nat.le_refl _
  | step _ ih => exact Nat.le_trans ih (Fb_le _)
/-- one more turn where they stand the other way about -/
theorem egcd_any {m a b : Nat} (h : b < Fb m) (h2 : a < Fb m) : egcd (m + 3) a b = some (Nat.gcd a b) := by
  by_cases hab : b < a
  · exact egcd_ok (m + 2) hab (.inr (Nat.lt_of_lt_of_le h (Fb_mono (by omega))))
  · unfold egcd
    by_cases h0 : b = 0
    · rw [if_pos h0, h0, Nat.gcd_zero_right]
    · rw [if_neg h0, egcd_ok (m + 1) (Nat.mod_lt a (by omega)) (.inr ?_), Nat.gcd_comm b, ← Nat.gcd_rec, Nat.gcd_comm]
      exact Nat.lt_of_le_of_lt (Nat.mod_le a b) (Nat.lt_of_lt_of_le h2 (Fb_mono (by omega)))

/-! the groups -/
theorem log2_lt' {n k : Nat} (h : n < 2 ^ k) (hk : 0 < k) : n.log2 < k := by
  by_cases h0 : n = 0
  · subst h0
    exact hk
  · exact (Nat.log2_lt h0).mpr h
theorem mulw {i j : Int} {a b : Nat} (hi : i.natAbs < 2 ^ a) (hj : j.natAbs < 2 ^ b) (h : a + b ≤ 100000) : rMulW i j = .ok (i * j) := by
  have h1 := log2_lt' (k := a + 1) (Nat.lt_of_lt_of_le hi (Nat.pow_le_pow_right (by decide) (Nat.le_succ _))) (by omega)
  have h2 := log2_lt' (k := b + 1) (Nat.lt_of_lt_of_le hj (Nat.pow_le_pow_right (by decide) (Nat.le_succ _))) (by omega)
  exact rMulW_ok (by omega)
abbrev Row := Int × Int
def VG (x : Row) : Prop := 0 ≤ x.1 ∧ x.1 ≤ 100000 ∧ 0 ≤ x.2 ∧ x.2 ≤ 100000 ∧ 0 < x.1 + x.2
structure Val (rows : List Row) : Prop where
  len : rows.length ≤ 24
  pos : 1 ≤ rows.length
  ok : ∀ x ∈ rows, VG x
def sf (f : Row → Int) (rows : List Row) (i : Int) : Int := ((rows.take i.toNat).map f).sum
def Yr (rows : List Row) (i : Int) : Int := sf (fun x => x.1) rows i
def Tr (rows : List Row) (i : Int) : Int := sf (fun x => x.1) rows i + sf (fun x => x.2) rows i
theorem cut_mid {α : Type} {xs : List α} {s e : Int} (h0 : 0 ≤ s) (h : s ≤ e) : cut xs (some s) (some e) = (xs.drop s.toNat).take (e.toNat - s.toNat) := by
  unfold cut
  show (xs.drop (if s < 0 then (s + (xs.length : Int)).toNat else min s.toNat xs.length)).take ((if e < 0 then (e + (xs.length : Int)).toNat else min e.toNat xs.length) - (if s < 0 then (s + (xs.length : Int)).toNat else min s.toNat xs.length)) = _
  rw [if_neg (by omega), if_neg (by omega)]
  by_cases h1 : s.toNat ≤ xs.length
  · rw [Nat.min_eq_left h1]
    by_cases h2 : e.toNat ≤ xs.length
    · rw [Nat.min_eq_left h2]
    · rw [Nat.min_eq_right (by omega), List.take_of_length_le (by rw [List.length_drop]; omega), List.take_of_length_le (by rw [List.length_drop]; omega)]
  · rw [show min s.toNat xs.length = xs.length from Nat.min_eq_right (by omega), List.drop_length, List.drop_eq_nil_of_le (by omega), List.take_nil, List.take_nil]
theorem sum_cut (f : Row → Int) {xs : List Row} {s e : Int} (h0 : 0 ≤ s) (h : s ≤ e) : ((cut xs (some s) (some e)).map f).sum = sf f xs e - sf f xs s := by
  rw [cut_mid h0 h]
  unfold sf
  have : xs.take e.toNat = xs.take s.toNat ++ (xs.drop s.toNat).take (e.toNat - s.toNat) := by
    rw [← List.take_add]
    congr 1
    omega
  rw [this, List.map_append, List.sum_append]
  omega
theorem sum_ge {f : Row → Int} {c : Int} : ∀ {xs : List Row}, (∀ x ∈ xs, c ≤ f x) → c * xs.length ≤ (xs.map f).sum
  | [], _ => by simp
  | x :: xs, h => by
    have a := h x List.mem_cons_self
    have b := sum_ge fun y hy => h y (List.mem_cons_of_mem _ hy)
    rw [List.map_cons, List.sum_cons, List.length_cons, Int.natCast_add, Int.mul_add]
    simp only [Int.cast_ofNat_Int, Int.mul_one]
    omega
theorem sum_le {f : Row → Int} {c : Int} : ∀ {xs : List Row}, (∀ x ∈ xs, f x ≤ c) → (xs.map f).sum ≤ c * xs.length
  | [], _ => by simp
  | x :: xs, h => by
    have a := h x List.mem_cons_self
    have b := sum_le fun y hy => h y (List.mem_cons_of_mem _ hy)
    rw [List.map_cons, List.sum_cons, List.length_cons, Int.natCast_add, Int.mul_add]
    simp only [Int.cast_ofNat_Int, Int.mul_one]
    omega
theorem mem_cut {α : Type} {xs : List α} {a b : Option Int} {x : α} (h : x ∈ cut xs a b) : x ∈ xs := by
  unfold cut at h
  exact List.mem_of_mem_drop (List.mem_of_mem_take h)
theorem cut_len {α : Type} {xs : List α} {s e : Int} (h0 : 0 ≤ s) (h : s ≤ e) (h1 : e ≤ xs.length) : ((cut xs (some s) (some e)).length : Int) = e - s := by
  rw [cut_mid h0 h, List.length_take, List.length_drop]
  omega
/-- what is so of the shares -/
structure Bd (x : Ra) : Prop where
  a : 0 ≤ x.1
  b : x.1 ≤ x.2
  c : 0 < x.2
  d : x.2 ≤ 4800000
theorem tr_sub {rows : List Row} {s e : Int} (h0 : 0 ≤ s) (h : s ≤ e) : Tr rows e - Tr rows s = ((cut rows (some s) (some e)).map fun x => x.1).sum + ((cut rows (some s) (some e)).map fun x => x.2).sum := by
  rw [sum_cut _ h0 h, sum_cut _ h0 h]
  unfold Tr
  omega
theorem Val.bd {rows : List Row} (V : Val rows) {s e : Int} (h0 : 0 ≤ s) (h : s < e) (h1 : e ≤ rows.length) : Bd (sh (Yr rows) (Tr rows) s e) := by
  have hl := cut_len h0 (Int.le_of_lt h) h1
  have y1 := sum_ge (f := fun x : Row => x.1) (c := 0) (xs := cut rows (some s) (some e)) fun x hx => (V.ok x (mem_cut hx)).1
  have y2 := sum_le (f := fun x : Row => x.1) (c := 100000) (xs := cut rows (some s) (some e)) fun x hx => (V.ok x (mem_cut hx)).2.1
  have n1 := sum_ge (f := fun x : Row => x.2) (c := 0) (xs := cut rows (some s) (some e)) fun x hx => (V.ok x (mem_cut hx)).2.2.1
  have n2 := sum_le (f := fun x : Row => x.2) (c := 100000) (xs := cut rows (some s) (some e)) fun x hx => (V.ok x (mem_cut hx)).2.2.2.1
  have t1 := sum_ge (f := fun x : Row => x.1 + x.2) (c := 1) (xs := cut rows (some s) (some e)) fun x hx => (V.ok x (mem_cut hx)).2.2.2.2
  have et : ∀ l : List Row, (l.map fun x : Row => x.1 + x.2).sum = (l.map fun x : Row => x.1).sum + (l.map fun x : Row => x.2).sum := by
    intro l
    induction l with
    | nil => rfl
    | cons x l ih =>
      simp only [List.map_cons, List.sum_cons, ih]
      omega
  rw [et] at t1
  rw [hl] at y1 y2 n1 n2 t1
  have hlen := V.len
  have ey : Yr rows e - Yr rows s = ((cut rows (some s) (some e)).map fun x => x.1).sum := (sum_cut _ h0 (Int.le_of_lt h)).symm
  have etr := tr_sub (rows := rows) h0 (Int.le_of_lt h)
  exact ⟨by show 0 ≤ Yr rows e - Yr rows s; omega, by show Yr rows e - Yr rows s ≤ Tr rows e - Tr rows s; omega, by show 0 < Tr rows e - Tr rows s; omega, by show Tr rows e - Tr rows s ≤ 4800000; omega⟩
theorem Val.pts {rows : List Row} (V : Val rows) : Pts (Yr rows) (Tr rows) rows.length where
  t := fun i j h0 h h1 => by
    have := (V.bd h0 h h1).c
    unfold sh at this
    dsimp only at this
    omega
  y := fun i j h0 h h1 => by
    by_cases e : i = j
    · rw [e]
      exact Int.le_refl _
    · have := (V.bd h0 (show i < j by omega) h1).a
      unfold sh at this
      dsimp only at this
      omega
theorem lshare_eq {rows : List Row} {s e : Int} (h0 : 0 ≤ s) (h : s ≤ e) : m__law_share rows s e = .ok (sh (Yr rows) (Tr rows) s e) := by
  unfold m__law_share
  simp only [someR_ok, slR_ok, Res.bind_ok, un_ok, mapR_okf, sumR_eq, bin_ok, rAdd_eq, pair_ok]
  rw [← tr_sub h0 h, sum_cut _ h0 h]
  rfl
/-- lowest terms -/
def gc (x : Ra) : Int := ((Nat.gcd x.1.natAbs x.2.natAbs : Nat) : Int)
def red (x : Ra) : Ra := (x.1 / gc x, x.2 / gc x)
theorem gc_pos {x : Ra} (h : x.2 ≠ 0) : 0 < gc x := by
  unfold gc
  have := Nat.gcd_pos_of_pos_right x.1.natAbs (show 0 < x.2.natAbs by omega)
  omega
theorem gc_le {x : Ra} (h : 0 < x.2) : gc x ≤ x.2 := by
  unfold gc
  have := Nat.gcd_le_right (n := x.2.natAbs) x.1.natAbs (by omega)
  omega
theorem gc_dvd1 {x : Ra} : gc x ∣ x.1 := by
  unfold gc
  exact Int.ofNat_dvd_left.mpr (Nat.gcd_dvd_left _ _)
theorem gc_dvd2 {x : Ra} : gc x ∣ x.2 := by
  unfold gc
  exact Int.ofNat_dvd_left.mpr (Nat.gcd_dvd_right _ _)
theorem red_mul {x : Ra} : (red x).1 * gc x = x.1 ∧ (red x).2 * gc x = x.2 := ⟨Int.ediv_mul_cancel gc_dvd1, Int.ediv_mul_cancel gc_dvd2⟩
theorem red_eqv {x : Ra} : Eqv (red x) x := by
  obtain ⟨a, b⟩ := red_mul (x := x)
  unfold Eqv
  generalize red x = r at a b ⊢
  rw [← a, ← b]
  grind
theorem red_bd {x : Ra} (h : Bd x) : Bd (red x) := by
  obtain ⟨a, b⟩ := red_mul (x := x)
  have g := gc_pos (x := x) (by have := h.c; omega)
  have ha := h.a
  have hb := h.b
  have hc := h.c
  have hd := h.d
  have e1 : 0 ≤ (red x).1 := Int.ediv_nonneg ha (Int.le_of_lt g)
  have e2 : (red x).1 ≤ (red x).2 := Int.ediv_le_ediv g hb
  have e3 : (red x).2 ≤ x.2 := Int.ediv_le_self _ (Int.le_of_lt hc)
  have e4 : 0 < (red x).2 := by
    by_cases z : 0 < (red x).2
    · exact z
    · have : (red x).2 * gc x ≤ 0 := Int.mul_nonpos_of_nonpos_of_nonneg (by omega) (Int.le_of_lt g)
      omega
  exact ⟨e1, e2, e4, by omega⟩
theorem red_gcd {x : Ra} (h : x.2 ≠ 0) : Nat.gcd (red x).1.natAbs (red x).2.natAbs = 1 := by
  have g := gc_pos h
  have e1 : (red x).1.natAbs = x.1.natAbs / Nat.gcd x.1.natAbs x.2.natAbs := by
    unfold red
    dsimp only
    rw [Int.natAbs_ediv_of_dvd gc_dvd1]
    rfl
  have e2 : (red x).2.natAbs = x.2.natAbs / Nat.gcd x.1.natAbs x.2.natAbs := by
    unfold red
    dsimp only
    rw [Int.natAbs_ediv_of_dvd gc_dvd2]
    rfl
  rw [e1, e2]
  exact Nat.gcd_div_gcd_div_gcd_of_pos_right (by omega)
theorem ratio_eq {x : Ra} (h : Bd x) : m_ratio x.1 x.2 = .ok (red x) := by
  unfold m_ratio
  have hc := h.c
  have hd := h.d
  have g1 := gc_pos (x := x) (by omega)
  have g2 := gc_le hc
  simp only [bin_ok, eqR_eq, ifR_ok, rLt_eq]
  rw [if_neg (by simp; omega), if_neg (by simp; omega)]
  simp only [Res.bind_ok, pair_ok, un_ok, gcdR_eq, bin_ok]
  have lg : (gc x).natAbs.log2 < 9000 := log2_lt' (Nat.lt_trans (show (gc x).natAbs < 2 ^ 23 by omega) (Nat.pow_lt_pow_of_lt (by decide) (by decide))) (by decide)
  first
    | (show ((pair (rDiv x.1 (gc x)) (rDiv x.2 (gc x))).bind fun a => Res.ok a) = _
       rw [rDiv_ok ⟨g1, by omega⟩, rDiv_ok ⟨g1, by omega⟩]
       rfl)
    | (show ((pair (rDivW x.1 (gc x)) (rDivW x.2 (gc x))).bind fun a => Res.ok a) = _
       rw [rDivW_ok ⟨g1, lg⟩, rDivW_ok ⟨g1, lg⟩]
       rfl)
theorem share_eq {rows : List Row} (V : Val rows) {s e : Int} (h0 : 0 ≤ s) (h : s < e) (h1 : e ≤ rows.length) : m_stretch_share rows s e = .ok (red (sh (Yr rows) (Tr rows) s e)) := by
  unfold m_stretch_share
  simp only [someR_ok, slR_ok, Res.bind_ok, un_ok, mapR_okf, sumR_eq, bin_ok, rAdd_eq, pair_ok]
  rw [← tr_sub h0 (Int.le_of_lt h), sum_cut _ h0 (Int.le_of_lt h)]
  show (m_ratio (sh (Yr rows) (Tr rows) s e).1 (sh (Yr rows) (Tr rows) s e).2).bind _ = _
  rw [ratio_eq (V.bd h0 h h1)]
  rfl
/-- ratios that can be compared -/
structure Sm (x : Ra) : Prop where
  p : 0 < x.2
  a : x.2 ≤ 5000000
  b : -5000000 ≤ x.1
  c : x.1 ≤ 5000000
theorem Bd.sm {x : Ra} (h : Bd x) : Sm x := by
  obtain ⟨a, b, c, d⟩ := h
  exact ⟨c, by omega, by omega, by omega⟩
theorem mul_ok {x y : Ra} (h : Sm x) : rMul x.1 y.2 = .ok (x.1 * y.2) := by
  obtain ⟨a, b, c, d⟩ := h
  exact rMul_ok (.inl (by omega))
theorem mulw_ok {x y : Ra} (h : Sm x) (h' : Sm y) : rMulW x.1 y.2 = .ok (x.1 * y.2) := by
  obtain ⟨a, b, c, d⟩ := h
  obtain ⟨a', b', c', d'⟩ := h'
  exact mulw (a := 23) (b := 23) (by omega) (by omega) (by decide)
theorem less_eq {x y : Ra} (hx : Sm x) (hy : Sm y) : m__law_less x y = .ok (decide (Lt x y)) := by
  unfold m__law_less
  simp only [un_ok, bin_ok, mul_ok hx, mul_ok hy, mulw_ok hx hy, mulw_ok hy hx, rLt_eq, Res.bind_ok]
  rfl
theorem compare_eq {x y : Ra} (hx : Sm x) (hy : Sm y) : m_compare x y = .ok (if Lt x y then -1 else if Lt y x then 1 else 0) := by
  unfold m_compare
  simp only [un_ok, bin_ok, mul_ok hx, mul_ok hy, rLt_eq, rGt_eq, Res.bind_ok, ifR_ok, rNeg_eq, decide_eq_true_eq]
  by_cases h1 : x.1 * y.2 < y.1 * x.2
  · rw [if_pos h1, if_pos (show Lt x y from h1)]
  · rw [if_neg h1, if_neg (show ¬ Lt x y from h1)]
    by_cases h2 : y.1 * x.2 < x.1 * y.2
    · rw [if_pos h2, if_pos (show Lt y x from h2)]
    · rw [if_neg h2, if_neg (show ¬ Lt y x from h2)]
theorem cmp_ge {x y : Ra} : decide (0 ≤ (if Lt x y then (-1 : Int) else if Lt y x then 1 else 0)) = !decide (Lt x y) := by
  by_cases h : Lt x y
  · rw [if_pos h, decide_eq_true h]
    rfl
  · rw [if_neg h, decide_eq_false h]
    split <;> rfl
theorem cmp_lt {x y : Ra} : decide ((if Lt x y then (-1 : Int) else if Lt y x then 1 else 0) < 0) = decide (Lt x y) := by
  by_cases h : Lt x y
  · rw [if_pos h, decide_eq_true h]
    rfl
  · rw [if_neg h, decide_eq_false h]
    split <;> rfl
theorem cmp_le {x y : Ra} : decide ((if Lt x y then (-1 : Int) else if Lt y x then 1 else 0) ≤ 0) = !decide (Lt y x) := by
  by_cases h : Lt x y
  · rw [if_pos h, decide_eq_false (lt_as h)]
    rfl
  · rw [if_neg h]
    by_cases h2 : Lt y x
    · rw [if_pos h2, decide_eq_true h2]
      rfl
    · rw [if_neg h2, decide_eq_false h2]
      rfl
/-! the law's chance -/
theorem loop_min {α : Type} {f : α → Ra → Res Ra} {g : α → Ra} {q : Ra → Prop} : ∀ {xs : List α} {z : Ra}, (∀ x ∈ xs, q (g x)) → (∀ x z, x ∈ xs → q z → f x z = .ok (if Lt (g x) z then g x else z)) → q z → loopN f xs z = .ok (minF g xs z)
  | [], z, _, _, _ => rfl
  | x :: xs, z, hg, hf, hz => by
    rw [loopN_cons, hf x z List.mem_cons_self hz, Res.bind_ok]
    refine loop_min (fun y hy => hg y (List.mem_cons_of_mem _ hy)) (fun y z hy => hf y z (List.mem_cons_of_mem _ hy)) ?_
    split
    · exact hg x List.mem_cons_self
    · exact hz
theorem loop_max {α : Type} {f : α → Ra → Res Ra} {g : α → Ra} {q : Ra → Prop} : ∀ {xs : List α} {z : Ra}, (∀ x ∈ xs, q (g x)) → (∀ x z, x ∈ xs → q z → f x z = .ok (if Lt z (g x) then g x else z)) → q z → loopN f xs z = .ok (maxF g xs z)
  | [], z, _, _, _ => rfl
  | x :: xs, z, hg, hf, hz => by
    rw [loopN_cons, hf x z List.mem_cons_self hz, Res.bind_ok]
    refine loop_max (fun y hy => hg y (List.mem_cons_of_mem _ hy)) (fun y z hy => hf y z (List.mem_cons_of_mem _ hy)) ?_
    split
    · exact hg x List.mem_cons_self
    · exact hz
theorem sh_wt {rows : List Row} (V : Val rows) : Wt (Yr rows) (Tr rows) rows.length (sh (Yr rows) (Tr rows)) := ⟨fun a b h0 h h1 => (V.bd h0 h h1).c, fun _ _ _ _ _ => eqv_refl⟩
theorem red_wt {rows : List Row} (V : Val rows) : Wt (Yr rows) (Tr rows) rows.length (fun a b => red (sh (Yr rows) (Tr rows) a b)) := ⟨fun a b h0 h h1 => (red_bd (V.bd h0 h h1)).c, fun _ _ _ _ _ => red_eqv⟩
theorem inner_sm {rows : List Row} (V : Val rows) {k s : Int} (h0 : 0 ≤ s) (hk : s ≤ k) {w : Int → Int → Ra} {q : Ra → Prop} (hw : ∀ a b : Int, 0 ≤ a → a < b → b ≤ (rows.length : Int) → q (w a b)) {z : Ra} (hz : q z) : q (minF (fun e => w s e) (rangeL (k + 1) (rows.length + 1)) z) :=
  minF_pred hz fun e he => by
    have := mem_rangeL.mp he
    exact hw s e h0 (by omega) (by omega)
theorem chance_eq {rows : List Row} (V : Val rows) {k : Int} (h0 : 0 ≤ k) (h1 : k < rows.length) : m__law_chance rows k = .ok (mxn rows.length k (sh (Yr rows) (Tr rows)) (-1, 1) (2, 1)) := by
  unfold m__law_chance
  have hlen := V.len
  have sw : ∀ a b, 0 ≤ a → a < b → b ≤ (rows.length : Int) → Sm (sh (Yr rows) (Tr rows) a b) := fun a b h0 h h1 => (V.bd h0 h h1).sm
  have s1 : Sm (-1, 1) := ⟨by decide, by decide, by decide, by decide⟩
  have s2 : Sm (2, 1) := ⟨by decide, by decide, by decide, by decide⟩
  simp only [un_ok, rNeg_eq, pair_ok, Res.bind_ok, bin_ok, rAdd_eq, rLen_eq, rng1_ok (n := k + 1) (by omega), rng2_ok (a := k + 1) (b := (rows.length : Int) + 1) (by omega)]
  rw [loop_max (g := fun s => minF (fun e => sh (Yr rows) (Tr rows) s e) (rangeL (k + 1) (rows.length + 1)) (2, 1)) (q := Sm) (fun s hs => ?_) (fun s z hs hz => ?_) s1]
  · rfl
  · have := mem_rangeL.mp hs
    exact inner_sm V (by omega) (by omega) sw s2
  · have hs := mem_rangeL.mp hs
    rw [loop_min (g := fun e => sh (Yr rows) (Tr rows) s e) (q := Sm) (fun e he => ?_) (fun e y he hy => ?_) s2]
    · simp only [Res.bind_ok, less_eq hz (inner_sm V (k := k) hs.1 (by omega) sw s2), ifR_ok, decide_eq_true_eq]
      split <;> rfl
    · have he := mem_rangeL.mp he
      exact sw s e hs.1 (by omega) (by omega)
    · have he := mem_rangeL.mp he
      simp only [lshare_eq (rows := rows) (s := s) (e := e) hs.1 (by omega), Res.bind_ok, less_eq (sw s e hs.1 (by omega) (by omega)) hy, ifR_ok, decide_eq_true_eq]
      split <;> rfl

/-! the program's division -/
theorem ix_last {α : Type} {L : List α} {x : α} : ix (L ++ [x]) (-1) = .ok x := by
  unfold ix
  rw [if_neg (by decide), if_pos (by rw [List.length_append, List.length_singleton]; omega)]
  have : ((-1 : Int) + ((L ++ [x]).length : Int)).toNat = L.length := by
    rw [List.length_append, List.length_singleton]
    omega
  rw [this, List.getElem?_append_right (Nat.le_refl _), Nat.sub_self]
  rfl
theorem pop_last {α : Type} {L : List α} {x : α} : popR (L ++ [x]) = .ok (x, L) := by
  unfold popR
  rw [List.getLast?_append, List.dropLast_concat]
  rfl
section
variable {Y T : Int → Int} {n : Int}
theorem run_len : ∀ {l : List (Int × Int)} {s p : Int × Ra}, run Y T n l (some s) = some p → (l.length : Int) ≤ p.1 - s.1
  | [], s, p, h => by
    cases h
    simp
  | x :: l, s, p, h => by
    obtain ⟨ok, h2⟩ := run_cons_some h
    have := run_len h2
    have a := ok.lt
    rw [List.length_cons]
    dsimp only at this
    omega
/-- the stack while one more group is joined to it -/
structure Stk (Y T : Int → Int) (n k : Int) (st : List (Int × Int)) (a : Int) : Prop where
  r : ∃ v, run Y T n st (some (0, (-1, 1))) = some (a, v)
  lt : a < k
  lv : ∀ i, a < i → i < k → ¬ Lt (sh Y T a i) (sh Y T a k)
theorem Stk.last (P : Pts Y T n) {k a : Int} {L : List (Int × Int)} {x : Int × Int} (h : Stk Y T n k (L ++ [x]) a) : 0 ≤ x.1 ∧ x.1 < a ∧ x.2 = a ∧ a ≤ n ∧ (∃ v, run Y T n L (some (0, (-1, 1))) = some (x.1, v) ∧ 0 < v.2) ∧ (∀ i, x.1 < i → i < a → ¬ Lt (sh Y T x.1 i) (sh Y T x.1 a)) ∧ run Y T n (L ++ [x]) (some (0, (-1, 1))) = some (a, sh Y T x.1 a) := by
  obtain ⟨v, r⟩ := h.r
  obtain ⟨s, h1, ok, e⟩ := run_snoc_some r
  cases e
  have a := (run_le h1).1
  have b := ok.st
  have c := ok.lt
  have e1 : s = (x.1, s.2) := by rw [b]
  have ps : 0 < s.2.2 := by
    rcases List.eq_nil_or_concat L with e | ⟨l2, y, e⟩
    · rw [e] at h1
      cases h1
      decide
    · rw [e, List.concat_eq_append] at h1
      have a := (run_le h1).1
      obtain ⟨s3, h3, ok3, e3⟩ := run_snoc_some h1
      subst e3
      have b := (run_le h3).1
      exact P.pos (by rw [ok3.st]; exact b) (by rw [ok3.st]; exact ok3.lt) ok3.le
  dsimp only at a
  exact ⟨by omega, by omega, rfl, ok.le, ⟨s.2, e1 ▸ h1, ps⟩, ok.lv, r⟩
end
theorem while_is {rows : List Row} (V : Val rows) {k1 : Int} (hk : k1 ≤ rows.length) {c : (List Row × Int) → Res Bool} {f : (List Row × Int) → Res (Out (List Row × Int) (List Row))} (hc0 : ∀ a, c ([], a) = .ok false)
    (hc : ∀ L x a, 0 ≤ x.1 → x.1 < a → a < k1 → c (L ++ [x], a) = .ok (!decide (Lt (red (sh (Yr rows) (Tr rows) x.1 a)) (red (sh (Yr rows) (Tr rows) a k1))))) (hf : ∀ L x a, f (L ++ [x], a) = .ok (.nx (L, x.1))) : ∀ (N : Nat) {st : List Row} {a : Int}, st.length < N → Stk (Yr rows) (Tr rows) rows.length k1 st a →
    Is (whileF c f N (st, a))
      fun o => ∃ st' a', o = .nx (st', a') ∧ st'.length ≤ st.length ∧ run (Yr rows) (Tr rows) rows.length (st' ++ [(a', k1)]) (some (0, (-1, 1))) = some (k1, sh (Yr rows) (Tr rows) a' k1)
  | 0, st, a, h, _ => by omega
  | N + 1, st, a, h, S => by
    have P := V.pts
    have lt := S.lt
    unfold whileF
    rcases List.eq_nil_or_concat st with e | ⟨L, x, e⟩
    · subst e
      obtain ⟨v, r⟩ := S.r
      cases r
      rw [hc0, Res.bind_ok, if_neg Bool.false_ne_true]
      refine ⟨[], 0, rfl, Nat.le_refl _, ?_⟩
      rw [List.nil_append, run_cons, stp_of ⟨rfl, lt, hk, ?_, S.lv⟩]
      · rfl
      · have := V.bd (Int.le_refl 0) lt hk
        have h1 := this.a
        have h2 := this.c
        unfold Lt
        dsimp only
        omega
    · rw [List.concat_eq_append] at e
      subst e
      obtain ⟨x0, x1, x2, an, ⟨v, rv, pv⟩, xl, xr⟩ := S.last P
      have b1 := V.bd x0 x1 an
      have b2 := V.bd (s := a) (e := k1) (by omega) lt hk
      rw [hc L x a x0 x1 lt, Res.bind_ok]
      have lc : Lt (red (sh (Yr rows) (Tr rows) x.1 a)) (red (sh (Yr rows) (Tr rows) a k1)) ↔ Lt (sh (Yr rows) (Tr rows) x.1 a) (sh (Yr rows) (Tr rows) a k1) := lt_congr (red_bd b1).c b1.c (red_bd b2).c b2.c red_eqv red_eqv
      by_cases hl : Lt (sh (Yr rows) (Tr rows) x.1 a) (sh (Yr rows) (Tr rows) a k1)
      · rw [decide_eq_true (lc.mpr hl), Bool.not_true, if_neg Bool.false_ne_true]
        refine ⟨_, _, rfl, Nat.le_refl _, ?_⟩
        rw [run_append, xr, run_cons, stp_of ⟨rfl, lt, hk, hl, S.lv⟩]
        rfl
      · rw [decide_eq_false (fun z => hl (lc.mp z)), Bool.not_false, if_pos rfl, hf, Res.bind_ok]
        rw [List.length_append, List.length_singleton] at h ⊢
        exact (while_is V hk hc0 hc hf N (st := L) (a := x.1) (by omega) ⟨⟨v, rv⟩, by omega, join_lv P x0 x1 lt hk xl S.lv hl⟩).imp fun o ⟨st', a', h1, h2, h3⟩ => ⟨st', a', h1, by omega, h3⟩
theorem blocks_is {rows : List Row} (V : Val rows) : Is (m_blocks_of rows) fun l => Div (Yr rows) (Tr rows) rows.length l ∧ l.length ≤ rows.length ∧ 0 < l.length := by
  unfold m_blocks_of
  have hlen := V.len
  have hp := V.pos
  rw [Res.bind_ok, show (un rng1 (un rLen (Res.ok rows))) = Res.ok (rangeL 0 rows.length) from rng1_ok (by omega), Res.bind_ok]
  refine Is.bind (Q := fun l => Div (Yr rows) (Tr rows) rows.length l ∧ l.length ≤ rows.length ∧ 0 < l.length) ?_ fun l hl => hl
  refine (loopN_inv (fun i (st : List Row) => ∃ v, run (Yr rows) (Tr rows) rows.length st (some (0, (-1, 1))) = some ((i : Int), v)) ⟨_, rfl⟩ fun i x st hx ⟨v, r⟩ => ?_).imp fun l ⟨v, r⟩ => ?_
  · have hx2 := mem_rangeL.mp (List.mem_of_getElem? hx)
    have hx3 := rangeL_get hx
    have hx4 : x = (i : Int) := by omega
    subst hx4
    have hl := run_len r
    rw [Res.bind_ok]
    refine Is.bind (while_is V (k1 := (i : Int) + 1) (by omega) (fun a => rfl) (fun L x a h0 h1 h2 => ?_) (fun L x a => ?_) fuel (st := st) (a := (i : Int)) (by rw [fuel_eq]; dsimp only at hl; omega) ⟨⟨v, r⟩, by omega, fun j h1 h2 => by omega⟩) fun o ⟨st', a', h1, h2, h3⟩ => ?_
    · have b1 := V.bd h0 h1 (by omega)
      have b2 := V.bd (s := a) (e := (i : Int) + 1) (by omega) h2 (by omega)
      have ec := compare_eq (red_bd b1).sm (red_bd b2).sm
      have ene : (!(L ++ [x]).isEmpty) = true := by simp
      simp only [un_ok, neR'_eq, rNeg_eq, bin_ok, rAdd_eq, ix_last, pair_ok, share_eq V h0 h1 (by omega), share_eq V (s := a) (e := (i : Int) + 1) (by omega) h2 (by omega), ec, rGe_eq, cmp_ge, ene, andR_true]
    · rw [pop_last]
      rfl
    subst h1
    dsimp only
    rw [bin_ok, rAdd_eq, pair_ok, Res.bind_ok, push_ok (by dsimp only at hl; omega)]
    exact ⟨_, by rw [Int.natCast_add]; exact h3⟩
  · rw [rangeL_length] at r
    have e : (((rows.length : Int) - 0).toNat : Int) = rows.length := by omega
    rw [e] at r
    have := run_len r
    refine ⟨⟨v, r⟩, by dsimp only at this; omega, ?_⟩
    cases l with
    | nil =>
      have := congrArg (fun o => (o.getD (0, (0, 0))).1) r
      simp only [run_nil, Option.getD_some] at this
      omega
    | cons y l => simp
def fb {α : Type} (ok : α → Bool) : List α → Int → Option Int
  | [], _ => none
  | x :: xs, k => if ok x = true then fb ok xs (k + 1) else some k
theorem loop_first {α : Type} {f : Int × α → Unit → Res Unit} {ok : α → Bool} {c : Ec} (h : ∀ k x, f (k, x) () = if ok x = true then .ok () else .exc c k) : ∀ (l : List α) (k : Int), loopN f (enumF k l) () = match fb ok l k with
    | some k => .exc c k
    | none => .ok ()
  | [], k => rfl
  | x :: l, k => by
    rw [enumF, loopN_cons, h, fb]
    cases ok x with
    | true => exact loop_first h l (k + 1)
    | false => rfl
theorem fb_none {α : Type} {ok : α → Bool} : ∀ {l : List α} {k : Int}, (∀ x ∈ l, ok x = true) → fb ok l k = none
  | [], _, _ => rfl
  | x :: l, k, h => by
    rw [fb, if_pos (h x List.mem_cons_self)]
    exact fb_none fun y hy => h y (List.mem_cons_of_mem _ hy)
theorem fb_at {α : Type} {ok : α → Bool} : ∀ {l : List α} {k : Int} {j : Nat} {x : α}, (∀ i y, i < j → l[i]? = some y → ok y = true) → l[j]? = some x → ok x = false → fb ok l k = some (k + j)
  | [], k, j, x, _, h, _ => by cases h
  | y :: l, k, 0, x, _, h, hx => by
    cases h
    rw [fb, hx, if_neg Bool.false_ne_true]
    simp
  | y :: l, k, j + 1, x, hb, h, hx => by
    rw [fb, if_pos (hb 0 y (Nat.succ_pos _) rfl), fb_at (fun i z hi hz => hb (i + 1) z (Nat.succ_lt_succ hi) hz) h hx]
    congr 1
    omega
def okG (x : Row) : Bool := !(decide (x.1 < 0) || (decide (100000 < x.1) || (decide (x.2 < 0) || decide (100000 < x.2)))) && decide (0 < x.1 + x.2)
theorem okG_iff {x : Row} : okG x = true ↔ VG x := by
  unfold okG VG
  simp only [Bool.and_eq_true, Bool.not_eq_true', Bool.or_eq_false_iff, decide_eq_false_iff_not, decide_eq_true_eq]
  omega
theorem chk_any (rows : List Row) : m_check_groups rows = if 24 < rows.length then .exc .TooMany 24 else if rows.length = 0 then .exc .BadSignals 0 else match fb okG rows 0 with
    | some k => .exc .BadSignals k
    | none => .ok () := by
  unfold m_check_groups
  simp only [un_ok, rLen_eq, bin_ok, rGt_eq, ifR_ok, eqR_eq]
  by_cases h1 : 24 < rows.length
  · rw [if_pos h1, if_pos (by rw [decide_eq_true_eq]; omega)]
    rfl
  · rw [if_neg h1, if_neg (by rw [decide_eq_true_eq]; omega)]
    by_cases h2 : rows.length = 0
    · rw [if_pos h2, if_pos (by rw [decide_eq_true_eq]; omega)]
      rfl
    · rw [if_neg h2, if_neg (by rw [decide_eq_true_eq]; omega), enumR_eq, Res.bind_ok]
      rw [loop_first (ok := okG) (c := .BadSignals) fun k x => ?_]
      · cases fb okG rows 0 <;> rfl
      · simp only [un_ok, pair_ok, m_are_counts, bin_ok, rLt_eq, rGt_eq, orR_ok, ifR_ok, rAdd_eq, Res.bind_ok]
        unfold okG
        cases (decide (x.1 < 0) || (decide (100000 < x.1) || (decide (x.2 < 0) || decide (100000 < x.2)))) with
        | true => rfl
        | false =>
          rw [if_neg Bool.false_ne_true]
          cases decide (0 < x.1 + x.2) <;> rfl
theorem chk_eq {rows : List Row} (V : Val rows) : m_check_groups rows = .ok () := by
  have hlen := V.len
  have hp := V.pos
  rw [chk_any, if_neg (by omega), if_neg (by omega), fb_none fun x hx => okG_iff.mpr (V.ok x hx)]
/-! the rising chances -/
theorem rep_get {l : List Ra} {v : Ra} {m : Nat} {i : Nat} : (l ++ List.replicate m v)[i]? = if i < l.length then l[i]? else if i < l.length + m then some v else none := by
  rw [List.getElem?_append]
  split
  · rfl
  · rw [List.getElem?_replicate]
    by_cases h : i < l.length + m
    · rw [if_pos (by omega), if_pos h]
    · rw [if_neg (by omega), if_neg h]
theorem map_const {α β : Type} (v : β) (l : List α) : l.map (fun _ => v) = List.replicate l.length v := by
  induction l with
  | nil => rfl
  | cons x l ih => rw [List.map_cons, ih, List.length_cons, List.replicate_succ]
theorem chances_loop {rows : List Row} (V : Val rows) {f : Row → List Ra → Res (List Ra)} (hf : ∀ (x : Row) (acc : List Ra), 0 ≤ x.1 → x.1 < x.2 → x.2 ≤ (rows.length : Int) → acc.length ≤ 24 → f x acc = .ok (acc ++ List.replicate (x.2 - x.1).toNat (red (sh (Yr rows) (Tr rows) x.1 x.2)))) :
    ∀ {l : List Row} {acc : List Ra} {s p : Int × Ra}, 0 ≤ s.1 → run (Yr rows) (Tr rows) rows.length l (some s) = some p → p.1 ≤ (rows.length : Int) → (acc.length : Int) = s.1 →
      ∃ c, loopN f l acc = .ok c ∧ (c.length : Int) = p.1 ∧ (∀ i : Nat, (i : Int) < s.1 → c[i]? = acc[i]?) ∧ ∀ x ∈ l, ∀ k : Int, x.1 ≤ k → k < x.2 → c[k.toNat]? = some (red (sh (Yr rows) (Tr rows) x.1 x.2))
  | [], acc, s, p, h0, h, hp, ha => by
    cases h
    exact ⟨acc, rfl, ha, fun _ _ => rfl, fun x hx => (nomatch hx)⟩
  | x :: l, acc, s, p, h0, h, hp, ha => by
    obtain ⟨ok, h2⟩ := run_cons_some h
    have st := ok.st
    have lt := ok.lt
    have le := ok.le
    have hlen := V.len
    have ge := (run_le h2).1
    have e := hf x acc (by omega) (by omega) le (by omega)
    obtain ⟨c, e2, l2, i2, b2⟩ := chances_loop V hf (acc := acc ++ List.replicate (x.2 - x.1).toNat (red (sh (Yr rows) (Tr rows) x.1 x.2))) (s := (x.2, sh (Yr rows) (Tr rows) x.1 x.2)) (by dsimp only; omega) h2 hp (by rw [List.length_append, List.length_replicate]; dsimp only; omega)
    refine ⟨c, by rw [loopN_cons, e, Res.bind_ok]; exact e2, l2, fun i hi => ?_, fun y hy k h1 h3 => ?_⟩
    · rw [i2 i (by dsimp only; omega), rep_get, if_pos (by omega)]
    · rcases List.mem_cons.mp hy with rfl | hy
      · rw [i2 k.toNat (by dsimp only; omega), rep_get, if_neg (by omega), if_pos (by omega)]
      · exact b2 y hy k h1 h3
theorem chances_is {rows : List Row} (V : Val rows) {l : List Row} (hl : m_blocks_of rows = .ok l) (hd : Div (Yr rows) (Tr rows) rows.length l) : ∃ c, m_rising_chances rows = .ok c ∧ c.length = rows.length ∧ ∀ x ∈ l, ∀ k : Int, x.1 ≤ k → k < x.2 → c[k.toNat]? = some (red (sh (Yr rows) (Tr rows) x.1 x.2)) := by
  unfold m_rising_chances
  obtain ⟨r, hd⟩ := hd
  have hlen := V.len
  simp only [un_ok, chk_eq V, Res.bind_ok, hl]
  obtain ⟨c, e, l2, _, b2⟩ := chances_loop V (l := l) (acc := []) (f := fun (x_33 : (Int × Int)) (z_21 : (List (Int × Int))) => ((un (fun (p : ((List (Int × Int)) × Int × Int)) => m_stretch_share p.1 p.2.1 p.2.2) (pair (Res.ok rows) (pair (Res.ok x_33.1) (Res.ok x_33.2)))).bind fun (share_47 : (Int × Int)) => ((((un rng2 (pair (Res.ok x_33.1) (Res.ok x_33.2))).bind (mapR (fun (x_54 : Int) => (Res.ok share_47)))).bind fun x => rCatR z_21 x).bind fun (chances_61 : (List (Int × Int))) => (Res.ok chances_61))))
    (fun x acc h0 h1 h2 h3 => by
      simp only [pair_ok, un_ok, share_eq V h0 h1 h2, Res.bind_ok, rng2_ok (a := x.1) (b := x.2) (by omega), mapR_okf, map_const, rangeL_length]
      rw [rCatR_ok (by rw [List.length_replicate]; omega)]
      rfl) (Int.le_refl 0) hd (Int.le_refl _) rfl
  simp only [pair_ok, un_ok] at e ⊢
  refine ⟨c, by rw [e]; rfl, by dsimp only at l2; omega, b2⟩

/-! ratios as numbers -/
def vr (x : Ra) : Rat := (x.1 : Rat) / (x.2 : Rat)
theorem ne0 {d : Int} (h : 0 < d) : (d : Rat) ≠ 0 := fun z => by
  have : d = 0 := by exact_mod_cast z
  omega
theorem eqv_vr {x y : Ra} (hx : 0 < x.2) (hy : 0 < y.2) : Eqv x y ↔ vr x = vr y := by
  have a := ne0 hx
  have b := ne0 hy
  unfold Eqv vr
  constructor
  · intro h
    have : (x.1 : Rat) * y.2 = y.1 * x.2 := by exact_mod_cast h
    grind
  · intro h
    have : (x.1 : Rat) * y.2 = y.1 * x.2 := by grind
    exact_mod_cast this
theorem lt_vr {x y : Ra} (hx : 0 < x.2) (hy : 0 < y.2) : Lt x y ↔ vr x < vr y := by
  have a := ne0 hx
  have b := ne0 hy
  have px : (0 : Rat) < x.2 := Rat.intCast_pos.mpr hx
  have py : (0 : Rat) < y.2 := Rat.intCast_pos.mpr hy
  unfold Lt vr
  rw [Rat.div_lt_iff px]
  have e : (y.1 : Rat) / y.2 * x.2 = y.1 * x.2 / y.2 := by grind
  rw [e, Rat.lt_div_iff py, ← Rat.intCast_lt_intCast, Rat.intCast_mul, Rat.intCast_mul]
structure Bn (a : Nat) (x : Ra) : Prop where
  p : 0 < x.2
  n : x.1.natAbs < 2 ^ a
  d : x.2.natAbs < 2 ^ a
def Lw (x : Ra) : Prop := Nat.gcd x.1.natAbs x.2.natAbs = 1
theorem pow_le {a b : Nat} (h : a ≤ b) : 2 ^ a ≤ 2 ^ b := Nat.pow_le_pow_right (by decide) h
theorem Bn.mono {a b : Nat} {x : Ra} (H : Bn a x) (h : a ≤ b) : Bn b x := ⟨H.p, Nat.lt_of_lt_of_le H.n (pow_le h), Nat.lt_of_lt_of_le H.d (pow_le h)⟩
theorem mul_bd {i j : Int} {a b : Nat} (hi : i.natAbs < 2 ^ a) (hj : j.natAbs < 2 ^ b) : (i * j).natAbs < 2 ^ (a + b) := by
  rw [Int.natAbs_mul, Nat.pow_add]
  exact Nat.mul_lt_mul'' hi hj
theorem add_bd {i j : Int} {a : Nat} (hi : i.natAbs < 2 ^ a) (hj : j.natAbs < 2 ^ a) : (i + j).natAbs < 2 ^ (a + 1) := by
  have := Int.natAbs_add_le i j
  rw [Nat.pow_succ]
  omega
theorem sub_bd {i j : Int} {a : Nat} (hi : i.natAbs < 2 ^ a) (hj : j.natAbs < 2 ^ a) : (i - j).natAbs < 2 ^ (a + 1) := by
  have h : (-j).natAbs < 2 ^ a := by
    rw [Int.natAbs_neg]
    exact hj
  exact add_bd hi h
theorem red_le {x : Ra} (h : 0 < x.2) : 0 < (red x).2 ∧ (red x).2 ≤ x.2 ∧ (red x).1.natAbs ≤ x.1.natAbs := by
  obtain ⟨a, b⟩ := red_mul (x := x)
  have g := gc_pos (x := x) (by omega)
  have p : 0 < (red x).2 := by
    by_cases z : 0 < (red x).2
    · exact z
    · have : (red x).2 * gc x ≤ 0 := Int.mul_nonpos_of_nonpos_of_nonneg (by omega) (Int.le_of_lt g)
      omega
  refine ⟨p, Int.ediv_le_self _ (Int.le_of_lt h), ?_⟩
  have e : (red x).1.natAbs * (gc x).natAbs = x.1.natAbs := by rw [← Int.natAbs_mul, a]
  have h1 : 1 ≤ (gc x).natAbs := by omega
  have := Nat.mul_le_mul_left (red x).1.natAbs h1
  omega
theorem red_bn {a : Nat} {x : Ra} (H : Bn a x) : Bn a (red x) := by
  obtain ⟨p, q, r⟩ := red_le H.p
  have := H.n
  have := H.d
  have := H.p
  exact ⟨p, by omega, by omega⟩
theorem vr_red {x : Ra} (h : 0 < x.2) : vr (red x) = vr x := (eqv_vr (red_le h).1 h).mp red_eqv
theorem lw_red {x : Ra} (h : 0 < x.2) : Lw (red x) := red_gcd (by omega)
/-- lowest terms: the least denominator -/
theorem lw_le {x y : Ra} (hx : 0 < x.2) (hy : 0 < y.2) (h : Lw x) (e : Eqv x y) : x.2 ≤ y.2 := by
  have e2 : x.1 * y.2 = y.1 * x.2 := e
  have d : x.2.natAbs ∣ x.1.natAbs * y.2.natAbs := by
    rw [← Int.natAbs_mul, e2, Int.natAbs_mul]
    exact Nat.dvd_mul_left _ _
  have hc : Nat.Coprime x.2.natAbs x.1.natAbs := by
    have h1 : Nat.gcd x.1.natAbs x.2.natAbs = 1 := h
    rw [Nat.gcd_comm] at h1
    exact h1
  have := Nat.le_of_dvd (by omega) (hc.dvd_of_dvd_mul_left d)
  omega
theorem lw_eq {x y : Ra} (hx : 0 < x.2) (hy : 0 < y.2) (h : Lw x) (h' : Lw y) (e : vr x = vr y) : x = y := by
  have q := (eqv_vr hx hy).mpr e
  have a := lw_le hx hy h q
  have b := lw_le hy hx h' (eqv_symm q)
  have c : x.2 = y.2 := by omega
  have q2 : x.1 * y.2 = y.1 * x.2 := q
  rw [c] at q2
  have d : x.1 = y.1 := Int.eq_of_mul_eq_mul_right (by omega) q2
  exact Prod.ext d c
/-! what the program makes of them -/
theorem ratio_any {a : Nat} {x : Ra} (H : Bn a x) (ha : a ≤ 8000) : m_ratio x.1 x.2 = .ok (red x) := by
  unfold m_ratio
  have hc := H.p
  have g1 := gc_pos (x := x) (by omega)
  have g2 := gc_le hc
  have hd := H.d
  have lg : (gc x).natAbs.log2 < 9000 := log2_lt' (Nat.lt_of_lt_of_le (show (gc x).natAbs < 2 ^ a by omega) (pow_le (by omega))) (by decide)
  simp only [bin_ok, eqR_eq, ifR_ok, rLt_eq]
  rw [if_neg (by simp; omega), if_neg (by simp; omega)]
  simp only [Res.bind_ok, pair_ok, un_ok, gcdR_eq, bin_ok]
  show ((pair (rDivW x.1 (gc x)) (rDivW x.2 (gc x))).bind fun a => Res.ok a) = _
  rw [rDivW_ok ⟨g1, lg⟩, rDivW_ok ⟨g1, lg⟩]
  rfl
theorem pos_mul {i j : Int} (hi : 0 < i) (hj : 0 < j) : 0 < i * j := Int.mul_pos hi hj
theorem ratio_is {a : Nat} {n d : Int} (H : Bn a (n, d)) (ha : a ≤ 8000) {v : Rat} (hv : (n : Rat) / d = v) : ∃ z, m_ratio n d = .ok z ∧ vr z = v ∧ Bn a z ∧ Lw z :=
  ⟨red (n, d), ratio_any (x := (n, d)) H ha, by rw [vr_red H.p]; exact hv, red_bn H, lw_red H.p⟩
theorem times_is {a b : Nat} {x y : Ra} (hx : Bn a x) (hy : Bn b y) (h : a + b ≤ 8000) : ∃ z, m_times x y = .ok z ∧ vr z = vr x * vr y ∧ Bn (a + b) z ∧ Lw z := by
  unfold m_times
  simp only [un_ok, bin_ok, mulw hx.n hy.n (by omega), mulw hx.d hy.d (by omega), pair_ok]
  have p := ne0 hx.p
  have q := ne0 hy.p
  obtain ⟨z, e, r⟩ := ratio_is (n := x.1 * y.1) (d := x.2 * y.2) (v := vr x * vr y) ⟨pos_mul hx.p hy.p, mul_bd hx.n hy.n, mul_bd hx.d hy.d⟩ h (by
    rw [Rat.intCast_mul, Rat.intCast_mul]
    unfold vr
    grind)
  exact ⟨z, by rw [e]; rfl, r⟩
theorem plus_is {a b : Nat} {x y : Ra} (hx : Bn a x) (hy : Bn b y) (h : a + b + 1 ≤ 8000) : ∃ z, m_plus x y = .ok z ∧ vr z = vr x + vr y ∧ Bn (a + b + 1) z ∧ Lw z := by
  unfold m_plus
  simp only [un_ok, bin_ok, mulw hx.n hy.d (by omega), mulw hy.n hx.d (by omega), mulw hx.d hy.d (by omega), pair_ok, rAdd_eq]
  have p := ne0 hx.p
  have q := ne0 hy.p
  have b1 := mul_bd hx.n hy.d
  have b2 := mul_bd hy.n hx.d
  rw [Nat.add_comm b a] at b2
  obtain ⟨z, e, r⟩ := ratio_is (n := x.1 * y.2 + y.1 * x.2) (d := x.2 * y.2) (v := vr x + vr y) ⟨pos_mul hx.p hy.p, add_bd b1 b2, Nat.lt_of_lt_of_le (mul_bd hx.d hy.d) (pow_le (Nat.le_succ _))⟩ h (by
    rw [Rat.intCast_add, Rat.intCast_mul, Rat.intCast_mul, Rat.intCast_mul]
    unfold vr
    grind)
  exact ⟨z, by rw [e]; rfl, r⟩
theorem minus_is {a b : Nat} {x y : Ra} (hx : Bn a x) (hy : Bn b y) (h : a + b + 1 ≤ 8000) : ∃ z, m_minus x y = .ok z ∧ vr z = vr x - vr y ∧ Bn (a + b + 1) z ∧ Lw z := by
  unfold m_minus
  simp only [un_ok, bin_ok, mulw hx.n hy.d (by omega), mulw hy.n hx.d (by omega), mulw hx.d hy.d (by omega), pair_ok, rSub_eq]
  have p := ne0 hx.p
  have q := ne0 hy.p
  have b1 := mul_bd hx.n hy.d
  have b2 := mul_bd hy.n hx.d
  rw [Nat.add_comm b a] at b2
  obtain ⟨z, e, r⟩ := ratio_is (n := x.1 * y.2 - y.1 * x.2) (d := x.2 * y.2) (v := vr x - vr y) ⟨pos_mul hx.p hy.p, sub_bd b1 b2, Nat.lt_of_lt_of_le (mul_bd hx.d hy.d) (pow_le (Nat.le_succ _))⟩ h (by
    rw [Rat.intCast_sub, Rat.intCast_mul, Rat.intCast_mul, Rat.intCast_mul]
    unfold vr
    grind)
  exact ⟨z, by rw [e]; rfl, r⟩
theorem over_is {a b : Nat} {x y : Ra} (hx : Bn a x) (hy : Bn b y) (hp : 0 < y.1) (h : a + b ≤ 8000) : ∃ z, m_over x y = .ok z ∧ vr z = vr x / vr y ∧ Bn (a + b) z ∧ Lw z := by
  unfold m_over
  simp only [un_ok, bin_ok, mulw hx.n hy.d (by omega), mulw hx.d hy.n (by omega), pair_ok]
  have p := ne0 hx.p
  have q := ne0 hy.p
  have r := ne0 hp
  obtain ⟨z, e, r⟩ := ratio_is (n := x.1 * y.2) (d := x.2 * y.1) (v := vr x / vr y) ⟨pos_mul hx.p hp, mul_bd hx.n hy.d, mul_bd hx.d hy.n⟩ h (by
    rw [Rat.intCast_mul, Rat.intCast_mul]
    unfold vr
    grind)
  exact ⟨z, by rw [e]; rfl, r⟩
/-! sums -/
def sumR (f : Nat → Rat) : Nat → Rat
  | 0 => 0
  | k + 1 => sumR f k + f k
theorem sumR_congr {f g : Nat → Rat} : ∀ {n : Nat}, (∀ k, k < n → f k = g k) → sumR f n = sumR g n
  | 0, _ => rfl
  | n + 1, h => by
    show sumR f n + f n = sumR g n + g n
    rw [sumR_congr fun k hk => h k (by omega), h n (by omega)]
theorem sumR_nonneg {f : Nat → Rat} : ∀ {n : Nat}, (∀ k, k < n → 0 ≤ f k) → 0 ≤ sumR f n
  | 0, _ => Rat.le_refl
  | n + 1, h => by
    have a := sumR_nonneg (f := f) (n := n) fun k hk => h k (by omega)
    have b := h n (by omega)
    show 0 ≤ sumR f n + f n
    grind
theorem sumR_pos {f : Nat → Rat} : ∀ {n : Nat}, (∀ k, k < n → 0 ≤ f k) → (∃ k, k < n ∧ 0 < f k) → 0 < sumR f n
  | 0, _, ⟨k, h, _⟩ => by omega
  | n + 1, h, ⟨k, hk, hp⟩ => by
    have a := sumR_nonneg (f := f) (n := n) fun k hk => h k (by omega)
    have b := h n (by omega)
    show 0 < sumR f n + f n
    by_cases e : k = n
    · subst e
      grind
    · have := sumR_pos (f := f) (n := n) (fun k hk => h k (by omega)) ⟨k, by omega, hp⟩
      grind
theorem sq_nonneg (a : Rat) : 0 ≤ a * a := by
  by_cases h : 0 ≤ a
  · exact Rat.mul_nonneg h h
  · have h1 : 0 ≤ -a := by grind
    have := Rat.mul_nonneg h1 h1
    grind
theorem sq_pos {a : Rat} (h : a ≠ 0) : 0 < a * a := by
  have h1 := sq_nonneg a
  have h2 : a * a ≠ 0 := by grind
  grind
/-! the loss of a list of chances -/
def yq (rows : List Row) (k : Nat) : Rat := ((rows.getD k (0, 0)).1 : Rat)
def nq (rows : List Row) (k : Nat) : Rat := ((rows.getD k (0, 0)).2 : Rat)
def vq (cs : List Ra) (k : Nat) : Rat := vr (cs.getD k (0, 1))
def gq (rows : List Row) (cs : List Ra) (k : Nat) : Rat := yq rows k * ((1 - vq cs k) * (1 - vq cs k)) + nq rows k * (vq cs k * vq cs k)
def Lo (rows : List Row) (cs : List Ra) : Rat := sumR (gq rows cs) rows.length
def Wh (rows : List Row) : Int := (rows.map fun x => x.1 + x.2).sum
/-- the chances that are drawn here -/
def Ch (x : Ra) : Prop := Sm x ∧ Lw x
theorem Ch.bn {x : Ra} (h : Ch x) : Bn 23 x := by
  obtain ⟨⟨a, b, c, d⟩, _⟩ := h
  exact ⟨a, by omega, by omega⟩
theorem wh_bd {rows : List Row} (V : Val rows) : 0 < Wh rows ∧ Wh rows ≤ 4800000 := by
  have hlen := V.len
  have hpos := V.pos
  have a := sum_ge (f := fun x : Row => x.1 + x.2) (c := 1) (xs := rows) fun x hx => (V.ok x hx).2.2.2.2
  have b := sum_le (f := fun x : Row => x.1 + x.2) (c := 200000) (xs := rows) fun x hx => by
    obtain ⟨_, p, _, q, _⟩ := V.ok x hx
    omega
  unfold Wh
  exact ⟨by omega, by omega⟩
theorem get_row {rows : List Row} (V : Val rows) {k : Nat} (h : k < rows.length) : rows[k]? = some (rows.getD k (0, 0)) ∧ VG (rows.getD k (0, 0)) := by
  have e : rows[k]? = some rows[k] := by simp [h]
  rw [List.getD_eq_getElem?_getD, e]
  exact ⟨rfl, V.ok _ (List.getElem_mem h)⟩
theorem get_ch {cs : List Ra} (H : ∀ c ∈ cs, Ch c) {k : Nat} (h : k < cs.length) : cs[k]? = some (cs.getD k (0, 1)) ∧ Ch (cs.getD k (0, 1)) := by
  have e : cs[k]? = some cs[k] := by simp [h]
  rw [List.getD_eq_getElem?_getD, e]
  exact ⟨rfl, H _ (List.getElem_mem h)⟩
def sumV : List Ra → Rat
  | [] => 0
  | x :: xs => vr x + sumV xs
theorem sumV_app (x : Ra) : ∀ xs : List Ra, sumV (xs ++ [x]) = sumV xs + vr x
  | [] => by
    show vr x + 0 = 0 + vr x
    grind
  | y :: xs => by
    show vr y + sumV (xs ++ [x]) = vr y + sumV xs + vr x
    rw [sumV_app x xs]
    grind
theorem total_loop {f : Ra → Ra → Res Ra} (hf : ∀ x z, f x z = m_plus z x) : ∀ {l : List Ra} {a : Nat} {z : Ra}, Bn a z → (∀ x ∈ l, Bn 67 x) → a + 68 * l.length ≤ 8000 → ∃ r, loopN f l z = .ok r ∧ vr r = vr z + sumV l ∧ Bn (a + 68 * l.length) r
  | [], a, z, hz, _, _ => ⟨z, rfl, by show _ = vr z + 0; grind, hz⟩
  | x :: l, a, z, hz, hl, h => by
    rw [List.length_cons] at h ⊢
    obtain ⟨w, ew, vw, bw, _⟩ := plus_is hz (hl x List.mem_cons_self) (by omega)
    obtain ⟨r, er, vr', br⟩ := total_loop hf (l := l) (a := a + 68) (z := w) (bw.mono (by omega)) (fun y hy => hl y (List.mem_cons_of_mem _ hy)) (by omega)
    refine ⟨r, ?_, ?_, br.mono (by omega)⟩
    · rw [loopN_cons, hf, ew]
      exact er
    · rw [vr', vw]
      show _ = vr z + (vr x + sumV l)
      grind
theorem mean_is {rows : List Row} (V : Val rows) {cs : List Ra} (hc : cs.length = rows.length) (H : ∀ c ∈ cs, Ch c) : ∃ z, m_mean_loss rows cs = .ok z ∧ vr z = Lo rows cs / (Wh rows : Int) ∧ Bn 4000 z ∧ Lw z := by
  have hlen := V.len
  obtain ⟨w0, w1⟩ := wh_bd V
  have one : Bn 1 (1, 1) := ⟨by decide, by decide, by decide⟩
  have key : Is (m_mean_loss rows cs) fun z => vr z = Lo rows cs / (Wh rows : Int) ∧ Bn 4000 z ∧ Lw z := by
    unfold m_mean_loss
    simp only [un_ok, chk_eq V, Res.bind_ok, rLen_eq, bin_ok, neR_eq, hc, decide_true, Bool.not_true, ifR_ok, if_neg Bool.false_ne_true, pair_ok, zipR_eq]
    refine Is.bind (loopN_inv (fun i (z : List Ra) => z.length = 2 * i ∧ (∀ p ∈ z, Bn 67 p) ∧ sumV z = sumR (gq rows cs) i) ⟨rfl, fun p hp => (nomatch hp), rfl⟩ fun i x z hx ⟨h1, h2, h3⟩ => ?_) fun z ⟨h1, h2, h3⟩ => ?_
    · obtain ⟨x1, x2⟩ := x
      obtain ⟨hx1, hx2⟩ := List.getElem?_zip_eq_some.mp hx
      dsimp only at hx1 hx2
      have hi := (List.getElem?_eq_some_iff.mp hx1).1
      obtain ⟨e1, g1⟩ := get_row V hi
      obtain ⟨e2, g2⟩ := get_ch H (k := i) (by omega)
      rw [hx1] at e1
      rw [hx2] at e2
      have e1 := Option.some.inj e1
      have e2 := Option.some.inj e2
      rw [← e1] at g1
      rw [← e2] at g2
      obtain ⟨a1, a2, a3, a4, a5⟩ := g1
      obtain ⟨o, eo, vo, bo, _⟩ := minus_is one g2.bn (by decide)
      obtain ⟨s, es, vs, bs, _⟩ := times_is bo bo (by decide)
      have by_ : Bn 17 (x1.1, (1 : Int)) := ⟨by show (0 : Int) < 1; decide, by show x1.1.natAbs < 2 ^ 17; omega, by show (1 : Int).natAbs < 2 ^ 17; decide⟩
      have bn_ : Bn 17 (x1.2, (1 : Int)) := ⟨by show (0 : Int) < 1; decide, by show x1.2.natAbs < 2 ^ 17; omega, by show (1 : Int).natAbs < 2 ^ 17; decide⟩
      obtain ⟨p, ep, vp, bp, _⟩ := times_is by_ bs (by decide)
      obtain ⟨t, et, vt, bt, _⟩ := times_is g2.bn g2.bn (by decide)
      obtain ⟨u, eu, vu, bu, _⟩ := times_is bn_ bt (by decide)
      simp only [pair_ok, un_ok, eo, Res.bind_ok, es, ep, et, eu]
      rw [push_ok (by omega), Res.bind_ok, push_ok (by rw [List.length_append, List.length_singleton]; omega), Res.bind_ok]
      refine ⟨by simp [h1]; omega, fun q hq => ?_, ?_⟩
      · rcases List.mem_append.mp hq with hq | hq
        · rcases List.mem_append.mp hq with hq | hq
          · exact h2 q hq
          · rw [List.mem_singleton.mp hq]
            exact bp
        · rw [List.mem_singleton.mp hq]
          exact bu.mono (by decide)
      · rw [sumV_app, sumV_app, h3, vp, vs, vo, vu, vt]
        show _ = sumR (gq rows cs) i + gq rows cs i
        unfold gq yq nq vq
        rw [← e1, ← e2]
        have v1 : vr (1, 1) = 1 := by
          unfold vr
          grind
        have v2 : ∀ n : Int, vr (n, 1) = n := fun n => by
          unfold vr
          grind
        rw [v1, v2, v2]
        grind
    · have hl : (rows.zip cs).length = rows.length := by rw [List.length_zip]; omega
      rw [hl] at h1 h3
      unfold m_total
      simp only [Res.bind_ok, un_ok, pair_ok, mapR_okf, sumR_eq, bin_ok, rAdd_eq]
      obtain ⟨r, er, vr', br⟩ := total_loop (f := fun (x_16 : (Int × Int)) (z_8 : (Int × Int)) => ((m_plus z_8 x_16).bind fun (result_28 : (Int × Int)) => (Res.ok result_28))) (fun x z => by rw [Res.bind_id]) (l := z) (a := 1) (z := (0, 1)) ⟨by decide, by decide, by decide⟩ h2 (by omega)
      rw [er, Res.bind_ok]
      have bw : Bn 23 (Wh rows, 1) := ⟨by show (0 : Int) < 1; decide, by show (Wh rows).natAbs < 2 ^ 23; omega, by show (1 : Int).natAbs < 2 ^ 23; decide⟩
      obtain ⟨o, eo, vo, bo, lo⟩ := over_is br bw w0 (by omega)
      show Is ((m_over r (Wh rows, 1)).bind _) _
      rw [eo]
      refine ⟨?_, bo.mono (by omega), lo⟩
      rw [vo, vr', h3]
      have v2 : ∀ n : Int, vr (n, 1) = n := fun n => by
        unfold vr
        grind
      rw [v2, v2]
      show (((0 : Int) : Rat) + _) / _ = _
      unfold Lo
      have : ((0 : Int) : Rat) = 0 := rfl
      rw [this]
      grind
  exact key.get
theorem loss_alg {t l d n y m : Rat} (hl : l ≠ 0) (hd : d ≠ 0) : (t * d * d + (y * (d - n) * (d - n) + m * n * n) * l) / (l * d * d) = t / l + (y * ((1 - n / d) * (1 - n / d)) + m * (n / d * (n / d))) := by
  have e1 : n / d * d = n := by grind
  have e2 : t / l * l = t := by grind
  have h : l * d * d ≠ 0 := by grind
  generalize n / d = v at *
  generalize t / l = w at *
  subst e1 e2
  have e3 : w * l * d * d + (y * (d - v * d) * (d - v * d) + m * (v * d) * (v * d)) * l = (w + (y * ((1 - v) * (1 - v)) + m * (v * v))) * (l * d * d) := by grind
  rw [e3]
  grind
theorem loss_is {rows : List Row} (V : Val rows) {cs : List Ra} (hc : cs.length = rows.length) (H : ∀ c ∈ cs, Ch c) : ∃ z, m__law_loss rows cs = .ok z ∧ vr z = Lo rows cs / (Wh rows : Int) ∧ Bn 2000 z ∧ z.2.natAbs < 2 ^ 1130 := by
  have hlen := V.len
  obtain ⟨w0, w1⟩ := wh_bd V
  have key : Is (m__law_loss rows cs) fun z => vr z = Lo rows cs / (Wh rows : Int) ∧ Bn 2000 z ∧ z.2.natAbs < 2 ^ 1130 := by
    unfold m__law_loss
    simp only [un_ok, Res.bind_ok, rLen_eq, rng1_ok (n := (rows.length : Int)) (by omega)]
    refine Is.bind (loopN_inv (fun i (z : Int × Int) => 0 < z.2 ∧ z.2.natAbs < 2 ^ (46 * i + 1) ∧ z.1.natAbs < 2 ^ (70 * i + 1) ∧ vr z = sumR (gq rows cs) i) ⟨by decide, by decide, by decide, by unfold vr; show ((0 : Int) : Rat) / _ = 0; grind⟩ fun i x z hx ⟨h1, h2, h3, h4⟩ => ?_) fun z ⟨h1, h2, h3, h4⟩ => ?_
    · have hx0 := mem_rangeL.mp (List.mem_of_getElem? hx)
      have hx2 := rangeL_get hx
      have hxi : x = (i : Int) := by omega
      subst hxi
      have hi : i < rows.length := by omega
      obtain ⟨e1, g1⟩ := get_row V hi
      obtain ⟨e2, g2⟩ := get_ch H (k := i) (by omega)
      have i1 := ix_nat e1
      have i2 := ix_nat e2
      obtain ⟨a1, a2, a3, a4, a5⟩ := g1
      have b2 := g2.bn
      have dn := sub_bd b2.d b2.n
      have yb : (rows.getD i (0, 0)).1.natAbs < 2 ^ 17 := by omega
      have nb : (rows.getD i (0, 0)).2.natAbs < 2 ^ 17 := by omega
      have m1 := mul_bd yb dn
      have m2 := mul_bd m1 dn
      have m3 := mul_bd nb b2.n
      have m4 := mul_bd m3 b2.n
      have m5 := add_bd m2 (Nat.lt_of_lt_of_le m4 (pow_le (b := 17 + (23 + 1) + (23 + 1)) (by decide)))
      have m6 := mul_bd m5 h2
      have m7 := mul_bd h3 b2.d
      have m8 := mul_bd m7 b2.d
      have m9 := mul_bd h2 b2.d
      have m10 := mul_bd m9 b2.d
      simp only [bin_ok, i1, i2, un_ok, rSub_eq, Res.bind_ok, mulw yb dn (by decide), mulw m1 dn (by decide), mulw nb b2.n (by decide), mulw m3 b2.n (by decide), rAdd_eq, mulw m5 h2 (by omega), mulw h3 b2.d (by omega), mulw m7 b2.d (by omega), mulw h2 b2.d (by omega), mulw m9 b2.d (by omega)]
      refine ⟨pos_mul (pos_mul h1 b2.p) b2.p, Nat.lt_of_lt_of_le m10 (pow_le (by omega)), ?_, ?_⟩
      · have q1 := Nat.lt_of_lt_of_le m8 (pow_le (b := 70 * i + 70) (by omega))
        have q2 := Nat.lt_of_lt_of_le m6 (pow_le (b := 70 * i + 70) (by omega))
        exact Nat.lt_of_lt_of_le (add_bd q1 q2) (pow_le (by omega))
      · show _ = sumR (gq rows cs) i + gq rows cs i
        rw [← h4]
        have p := ne0 h1
        have q := ne0 b2.p
        unfold gq yq nq vq vr
        simp only [Rat.intCast_add, Rat.intCast_mul, Rat.intCast_sub]
        exact loss_alg p q
    · rw [rangeL_length] at h2 h3 h4
      have en : ((rows.length : Int) - 0).toNat = rows.length := by omega
      rw [en] at h2 h3 h4
      have ew : (rows.map fun x => x.1 + x.2).sum = Wh rows := rfl
      have wb : (Wh rows).natAbs < 2 ^ 23 := by omega
      simp only [mapR_okf, un_ok, sumR_eq, bin_ok, rAdd_eq, Res.bind_ok, ew, mulw h2 wb (by omega), pair_ok]
      have m1 := mul_bd h2 wb
      refine ⟨?_, ⟨pos_mul h1 w0, Nat.lt_of_lt_of_le h3 (pow_le (by omega)), Nat.lt_of_lt_of_le m1 (pow_le (by omega))⟩, Nat.lt_of_lt_of_le m1 (pow_le (by omega))⟩
      unfold Lo
      rw [← h4]
      have p := ne0 h1
      have q := ne0 w0
      unfold vr
      simp only [Rat.intCast_mul]
      grind
  exact key.get

/-! the rising chances have the least loss -/
section
variable {rows : List Row}
def Fq (rows : List Row) (V : Rat) (s i : Int) : Rat := ((Yr rows i - Yr rows s : Int) : Rat) - V * ((Tr rows i - Tr rows s : Int) : Rat)
theorem sf_succ (f : Row → Int) {k : Nat} (h : k < rows.length) : sf f rows ((k : Int) + 1) = sf f rows k + f (rows.getD k (0, 0)) := by
  unfold sf
  have e : rows[k]? = some rows[k] := by simp [h]
  have e1 : ((k : Int) + 1).toNat = k + 1 := by omega
  rw [e1, Int.toNat_natCast, List.take_add_one, e, List.map_append, List.sum_append, List.getD_eq_getElem?_getD, e]
  simp
theorem yr_succ {k : Nat} (h : k < rows.length) : ((Yr rows ((k : Int) + 1) : Int) : Rat) = (Yr rows k : Int) + yq rows k := by
  unfold Yr yq
  rw [sf_succ _ h, Rat.intCast_add]
theorem tr_succ {k : Nat} (h : k < rows.length) : ((Tr rows ((k : Int) + 1) : Int) : Rat) = (Tr rows k : Int) + (yq rows k + nq rows k) := by
  unfold Tr yq nq
  rw [sf_succ _ h, sf_succ _ h]
  simp only [Rat.intCast_add]
  grind
theorem fq_step {V : Rat} {s : Int} {k : Nat} (h : k < rows.length) : (yq rows k + nq rows k) * V - yq rows k = Fq rows V s k - Fq rows V s ((k : Int) + 1) := by
  unfold Fq
  simp only [Rat.intCast_sub]
  rw [yr_succ h, tr_succ h]
  grind
theorem fq_nonneg (H : Val rows) {l : List Row} (hd : Div (Yr rows) (Tr rows) rows.length l) {x : Row} (hx : x ∈ l) {i : Int} (h0 : 0 ≤ i) (h1 : i ≤ rows.length) : 0 ≤ Fq rows (vr (sh (Yr rows) (Tr rows) x.1 x.2)) x.1 i := by
  obtain ⟨a, b, c, d⟩ := hd.at H.pts hx
  have bd := H.bd a b c
  have g := d i h0 h1
  have pd : (0 : Rat) < (((sh (Yr rows) (Tr rows) x.1 x.2).2 : Int) : Rat) := Rat.intCast_pos.mpr bd.c
  have nd := ne0 bd.c
  have g2 : (0 : Int) ≤ (Yr rows i - Yr rows x.1) * (sh (Yr rows) (Tr rows) x.1 x.2).2 - (sh (Yr rows) (Tr rows) x.1 x.2).1 * (Tr rows i - Tr rows x.1) := by
    unfold Gv at g
    grind
  have g3 : (0 : Rat) ≤ (((Yr rows i - Yr rows x.1) * (sh (Yr rows) (Tr rows) x.1 x.2).2 - (sh (Yr rows) (Tr rows) x.1 x.2).1 * (Tr rows i - Tr rows x.1) : Int) : Rat) := Rat.intCast_nonneg.mpr g2
  refine Rat.le_of_mul_le_mul_right (c := (((sh (Yr rows) (Tr rows) x.1 x.2).2 : Int) : Rat)) ?_ pd
  unfold Fq vr
  rw [Rat.intCast_sub, Rat.intCast_mul, Rat.intCast_mul] at g3
  have e : ∀ A B n d : Rat, d ≠ 0 → (A - n / d * B) * d = A * d - n * B := fun A B n d h => by grind
  rw [e _ _ _ _ nd]
  grind
theorem fq_end (H : Val rows) {a b : Int} (h0 : 0 ≤ a) (h : a < b) (h1 : b ≤ rows.length) : Fq rows (vr (sh (Yr rows) (Tr rows) a b)) a b = 0 ∧ ∀ V, Fq rows V a a = 0 := by
  have bd := H.bd h0 h h1
  have nd := ne0 bd.c
  refine ⟨?_, fun V => ?_⟩
  · unfold Fq vr
    unfold sh at nd ⊢
    dsimp only at nd ⊢
    have e : ∀ n d : Rat, d ≠ 0 → n - n / d * d = 0 := fun n d h => by grind
    exact e _ _ nd
  · unfold Fq
    simp only [Int.sub_self]
    show (0 : Rat) - V * 0 = 0
    grind
/-- t (v - ..) -/
def wq (rows : List Row) (v q : Nat → Rat) (k : Nat) : Rat := ((yq rows k + nq rows k) * v k - yq rows k) * (q k - v k)
theorem block_w (H : Val rows) {l : List Row} (hd : Div (Yr rows) (Tr rows) rows.length l) {x : Row} (hx : x ∈ l) {v q : Nat → Rat} (hv : ∀ k : Nat, x.1 ≤ k → (k : Int) < x.2 → v k = vr (sh (Yr rows) (Tr rows) x.1 x.2))
    (hq : ∀ k : Nat, k + 1 < rows.length → q k ≤ q (k + 1)) {s : Nat} (hs : x.1 = s) : ∀ j : Nat, ((s + j : Nat) : Int) < x.2 → sumR (wq rows v q) (s + j + 1) - sumR (wq rows v q) s ≥ - (Fq rows (vr (sh (Yr rows) (Tr rows) x.1 x.2)) x.1 ((s + j : Nat) + 1) * (q (s + j) - vr (sh (Yr rows) (Tr rows) x.1 x.2))) := by
  obtain ⟨a, b, c, d⟩ := hd.at H.pts hx
  intro j
  induction j with
  | zero =>
    intro hj
    have e := fq_step (rows := rows) (V := vr (sh (Yr rows) (Tr rows) x.1 x.2)) (s := x.1) (k := s) (by omega)
    have z := (fq_end H a b c).2 (vr (sh (Yr rows) (Tr rows) x.1 x.2))
    rw [hs] at z
    have hv0 := hv s (by omega) (by omega)
    show (sumR (wq rows v q) s + wq rows v q s) - sumR (wq rows v q) s ≥ _
    unfold wq
    rw [hv0, e, hs, z, Nat.add_zero]
    grind
  | succ j ih =>
    intro hj
    have ih := ih (by omega)
    have e := fq_step (rows := rows) (V := vr (sh (Yr rows) (Tr rows) x.1 x.2)) (s := x.1) (k := s + (j + 1)) (by omega)
    have hv0 := hv (s + (j + 1)) (by omega) (by omega)
    have f := fq_nonneg H hd hx (i := ((s + j : Nat) : Int) + 1) (by omega) (by omega)
    have m := hq (s + j) (by omega)
    have e2 : ((s + (j + 1) : Nat) : Int) = ((s + j : Nat) : Int) + 1 := by omega
    show (sumR (wq rows v q) (s + j + 1) + wq rows v q (s + (j + 1))) - sumR (wq rows v q) s ≥ _
    unfold wq at *
    rw [hv0, e, e2]
    have e3 : s + (j + 1) = s + j + 1 := by omega
    rw [e3]
    have p := Rat.mul_nonneg f (show 0 ≤ q (s + j + 1) - q (s + j) by grind)
    generalize Fq rows (vr (sh (Yr rows) (Tr rows) x.1 x.2)) x.1 (((s + j : Nat) : Int) + 1) = F1 at *
    generalize Fq rows (vr (sh (Yr rows) (Tr rows) x.1 x.2)) x.1 (((s + j : Nat) : Int) + 1 + 1) = F2 at *
    grind
theorem run_w (H : Val rows) {L : List Row} (hd : Div (Yr rows) (Tr rows) rows.length L) {v q : Nat → Rat} (hv : ∀ x ∈ L, ∀ k : Nat, x.1 ≤ k → (k : Int) < x.2 → v k = vr (sh (Yr rows) (Tr rows) x.1 x.2))
    (hq : ∀ k : Nat, k + 1 < rows.length → q k ≤ q (k + 1)) : ∀ {l : List Row} {s p : Int × Ra}, (∀ x ∈ l, x ∈ L) → 0 ≤ s.1 → run (Yr rows) (Tr rows) rows.length l (some s) = some p → sumR (wq rows v q) s.1.toNat ≤ sumR (wq rows v q) p.1.toNat
  | [], s, p, _, _, h => by
    cases h
    exact Rat.le_refl
  | x :: l, s, p, hL, h0, h => by
    obtain ⟨ok, h2⟩ := run_cons_some h
    have st := ok.st
    have lt := ok.lt
    have le := ok.le
    have ih := run_w H hd hv hq (l := l) (fun y hy => hL y (List.mem_cons_of_mem _ hy)) (s := (x.2, sh (Yr rows) (Tr rows) x.1 x.2)) (by dsimp only; omega) h2
    have hx := hL x List.mem_cons_self
    obtain ⟨a, b, c, d⟩ := hd.at H.pts hx
    have w := block_w H hd hx (hv x hx) hq (s := s.1.toNat) (by omega) (x.2.toNat - s.1.toNat - 1) (by omega)
    have e1 : s.1.toNat + (x.2.toNat - s.1.toNat - 1) + 1 = x.2.toNat := by omega
    have e2 : ((s.1.toNat + (x.2.toNat - s.1.toNat - 1) : Nat) : Int) + 1 = x.2 := by omega
    rw [e1, e2, (fq_end H a b c).1] at w
    dsimp only at ih
    grind
theorem vq_at {cs : List Ra} {k : Nat} {c : Ra} (h : cs[k]? = some c) : vq cs k = vr c := by
  unfold vq
  rw [List.getD_eq_getElem?_getD, h]
  rfl
/-- the least loss -/
theorem best_loss (H : Val rows) {L : List Row} (hd : Div (Yr rows) (Tr rows) rows.length L) {c q : List Ra} (hc : ∀ x ∈ L, ∀ k : Int, x.1 ≤ k → k < x.2 → c[k.toNat]? = some (red (sh (Yr rows) (Tr rows) x.1 x.2)))
    (hq : ∀ k : Nat, k + 1 < rows.length → vq q k ≤ vq q (k + 1)) (hne : ∃ k : Nat, k < rows.length ∧ vq q k ≠ vq c k) : Lo rows c < Lo rows q := by
  have hv : ∀ x ∈ L, ∀ k : Nat, x.1 ≤ k → (k : Int) < x.2 → vq c k = vr (sh (Yr rows) (Tr rows) x.1 x.2) := fun x hx k h0 h1 => by
    have := hc x hx k h0 h1
    rw [Int.toNat_natCast] at this
    rw [vq_at this]
    obtain ⟨a, b, c, _⟩ := hd.at H.pts hx
    exact vr_red (H.bd a b c).c
  have W : 0 ≤ sumR (wq rows (vq c) (vq q)) rows.length := by
    obtain ⟨r, hr⟩ := hd
    have := run_w H ⟨r, hr⟩ hv hq (l := L) (fun x h => h) (s := (0, (-1, 1))) (Int.le_refl _) hr
    have e : ((rows.length : Int)).toNat = rows.length := Int.toNat_natCast _
    dsimp only at this
    rw [e] at this
    exact this
  have split : ∀ n, sumR (gq rows q) n - sumR (gq rows c) n = sumR (fun k => (yq rows k + nq rows k) * ((vq q k - vq c k) * (vq q k - vq c k))) n + 2 * sumR (wq rows (vq c) (vq q)) n := by
    intro n
    induction n with
    | zero =>
      show (0 : Rat) - 0 = 0 + 2 * 0
      grind
    | succ n ih =>
      show (sumR (gq rows q) n + gq rows q n) - (sumR (gq rows c) n + gq rows c n) = (sumR _ n + _) + 2 * (sumR _ n + _)
      unfold gq wq at *
      grind
  have tpos : ∀ k, k < rows.length → 0 < yq rows k + nq rows k := fun k hk => by
    obtain ⟨_, a1, a2, a3, a4, a5⟩ := get_row H hk
    unfold yq nq
    rw [← Rat.intCast_add]
    exact Rat.intCast_pos.mpr a5
  have S : 0 < sumR (fun k => (yq rows k + nq rows k) * ((vq q k - vq c k) * (vq q k - vq c k))) rows.length := by
    refine sumR_pos (fun k hk => Rat.mul_nonneg (Rat.le_of_lt (tpos k hk)) (sq_nonneg _)) ?_
    obtain ⟨k, hk, hne⟩ := hne
    exact ⟨k, hk, Rat.mul_pos (tpos k hk) (sq_pos fun z => hne (by grind))⟩
  have := split rows.length
  unfold Lo
  grind
end
/-! Euclid on either sign -/
theorem Fb_four : ∀ k, 4 ^ k ≤ Fb (3 * k) ∧ 3 * Fb (3 * k) ≤ 2 * Fb (3 * k + 1)
  | 0 => ⟨by decide, by decide⟩
  | k + 1 => by
    obtain ⟨a, b⟩ := Fb_four k
    have e1 : Fb (3 * k + 2) = Fb (3 * k + 1) + Fb (3 * k) := rfl
    have e2 : Fb (3 * (k + 1)) = Fb (3 * k + 2) + Fb (3 * k + 1) := rfl
    have e3 : Fb (3 * (k + 1) + 1) = Fb (3 * (k + 1)) + Fb (3 * k + 2) := rfl
    rw [Nat.pow_succ]
    omega
theorem Fb_big : 2 ^ 1300 ≤ Fb 1990 := by
  have a := (Fb_four 650).1
  have e : (4 : Nat) ^ 650 = 2 ^ 1300 := by
    rw [show (4 : Nat) = 2 ^ 2 from rfl, ← Nat.pow_mul]
  rw [e] at a
  exact Nat.le_trans a (Fb_mono (by decide))
theorem egcd_some {m a b : Nat} (h : a < Fb m) : egcd (m + 3) a b = some (Nat.gcd a b) := by
  by_cases hab : b < a
  · exact egcd_ok (m + 2) hab (.inr (Nat.lt_of_lt_of_le (Nat.lt_trans hab h) (Fb_mono (by omega))))
  · unfold egcd
    by_cases h0 : b = 0
    · rw [if_pos h0, h0, Nat.gcd_zero_right]
    · rw [if_neg h0, egcd_ok (m + 1) (Nat.mod_lt a (by omega)) (.inr ?_), Nat.gcd_comm b, ← Nat.gcd_rec, Nat.gcd_comm]
      exact Nat.lt_of_le_of_lt (Nat.mod_le a b) (Nat.lt_of_lt_of_le h (Fb_mono (by omega)))
theorem egcd_more : ∀ {k m a b g : Nat}, egcd k a b = some g → k ≤ m → egcd m a b = some g
  | 0, m, a, b, g, h, _ => by cases h
  | k + 1, 0, a, b, g, h, hm => by omega
  | k + 1, m + 1, a, b, g, h, hm => by
    unfold egcd at h ⊢
    by_cases hb : b = 0
    · rw [if_pos hb] at h ⊢
      exact h
    · rw [if_neg hb] at h ⊢
      exact egcd_more h (by omega)
section
variable {f : Int → (Int × Int) → Res (Out (Int × Int) Int)}
theorem gcd_loop (h0 : ∀ i (a : Int), f i (a, 0) = .ok (.rt a)) (h1 : ∀ i (a b : Int), b ≠ 0 → f i (a, b) = .ok (.nx (b, a.fmod b))) : ∀ (xs : List Int) (a b g : Nat), egcd xs.length a b = some g → loopR f xs ((a : Int), (b : Int)) = .ok (.rt (g : Int)) ∧ loopR f xs (-(a : Int), -(b : Int)) = .ok (.rt (-(g : Int)))
  | [], a, b, g, h => by cases h
  | x :: xs, a, b, g, h => by
    rw [List.length_cons] at h
    unfold egcd at h
    rw [loopR_cons, loopR_cons]
    by_cases hb : b = 0
    · rw [if_pos hb] at h
      cases h
      subst hb
      have e : (-((0 : Nat) : Int)) = 0 := rfl
      rw [show ((0 : Nat) : Int) = 0 from rfl, h0 x (a : Int), Int.neg_zero, h0 x (-(a : Int))]
      exact ⟨rfl, rfl⟩
    · rw [if_neg hb] at h
      obtain ⟨p, q⟩ := gcd_loop h0 h1 xs b (a % b) g h
      rw [h1 x a b (by omega), h1 x (-a) (-b) (by omega), Res.bind_ok, Res.bind_ok]
      dsimp only
      rw [Int.neg_fmod_neg, Int.fmod_eq_emod_of_nonneg _ (by omega : (0 : Int) ≤ b), ← Int.natCast_emod]
      exact ⟨p, q⟩
end
theorem gcd_nn {a b : Nat} (h : a < 2 ^ 1300) : m__law_gcd a b = .ok ((Nat.gcd a b : Nat) : Int) := by
  unfold m__law_gcd
  have he := egcd_more (egcd_some (m := 1990) (b := b) (Nat.lt_of_lt_of_le h Fb_big)) (show 1993 ≤ 2000 by decide)
  simp only [un_ok, rng1_ok (n := 2000) (by decide), Res.bind_ok]
  rw [(gcd_loop (fun i a => ?_) (fun i a b hb => ?_) (rangeL 0 2000) a b _ (by rw [rangeL_length]; exact he)).1]
  · rfl
  · rfl
  · dsimp only
    rw [bin_ok, eqR_eq, ifR_ok, if_neg (by rw [decide_eq_true_eq]; exact hb), idR_eq, bin_ok, rModN_ok hb]
    rfl
theorem gcd_neg {a b : Nat} (hb : 0 < b) (h : b < 2 ^ 1300) : m__law_gcd a (-(b : Int)) = .ok (-((Nat.gcd a b : Nat) : Int)) := by
  unfold m__law_gcd
  -- the first turn
  obtain ⟨r, hr, hr2, hg⟩ : ∃ r : Nat, (a : Int).fmod (-(b : Int)) = -(r : Int) ∧ r < b ∧ Nat.gcd b r = Nat.gcd a b := by
    have e : (a : Int).fmod (-(b : Int)) = -((-(a : Int)) % (b : Int)) := by
      have := Int.neg_fmod_neg (-(a : Int)) (b : Int)
      rw [Int.neg_neg, Int.fmod_eq_emod_of_nonneg _ (by omega : (0 : Int) ≤ b)] at this
      exact this
    have n0 := Int.emod_nonneg (-(a : Int)) (show (b : Int) ≠ 0 by omega)
    have n1 := Int.emod_lt_of_pos (-(a : Int)) (show 0 < (b : Int) by omega)
    refine ⟨((-(a : Int)) % (b : Int)).toNat, by rw [e]; omega, by omega, ?_⟩
    have d := Int.emod_add_mul_ediv (-(a : Int)) (b : Int)
    generalize (-(a : Int)) % (b : Int) = u at *
    generalize (-(a : Int)) / (b : Int) = w at *
    have hu : u = -(a : Int) - b * w := by omega
    refine Nat.dvd_antisymm (Nat.dvd_gcd ?_ (Nat.gcd_dvd_left _ _)) (Nat.dvd_gcd (Nat.gcd_dvd_right _ _) ?_)
    · have d1 : ((Nat.gcd b u.toNat : Nat) : Int) ∣ (b : Int) := Int.natCast_dvd_natCast.mpr (Nat.gcd_dvd_left _ _)
      have d2 : ((Nat.gcd b u.toNat : Nat) : Int) ∣ u := by
        have := Int.natCast_dvd_natCast.mpr (Nat.gcd_dvd_right b u.toNat)
        rwa [show ((u.toNat : Nat) : Int) = u by omega] at this
      have d3 : ((Nat.gcd b u.toNat : Nat) : Int) ∣ (a : Int) := by
        have : (a : Int) = -(u + b * w) := by omega
        rw [this]
        exact Int.dvd_neg.mpr (Int.dvd_add d2 (Int.dvd_mul_of_dvd_left d1))
      exact Int.natCast_dvd_natCast.mp d3
    · have d1 : ((Nat.gcd a b : Nat) : Int) ∣ (b : Int) := Int.natCast_dvd_natCast.mpr (Nat.gcd_dvd_right _ _)
      have d2 : ((Nat.gcd a b : Nat) : Int) ∣ (a : Int) := Int.natCast_dvd_natCast.mpr (Nat.gcd_dvd_left _ _)
      have d3 : ((Nat.gcd a b : Nat) : Int) ∣ u := by
        rw [hu]
        exact Int.dvd_sub (Int.dvd_neg.mpr d2) (Int.dvd_mul_of_dvd_left d1)
      have : ((Nat.gcd a b : Nat) : Int) ∣ ((u.toNat : Nat) : Int) := by rwa [show ((u.toNat : Nat) : Int) = u by omega]
      exact Int.natCast_dvd_natCast.mp this
  have he := egcd_more (egcd_some (m := 1990) (b := r) (Nat.lt_of_lt_of_le h Fb_big)) (show 1993 ≤ 1999 by decide)
  rw [hg] at he
  have er : rangeL 0 2000 = 0 :: rangeL 1 2000 := by decide +kernel
  simp only [un_ok, rng1_ok (n := 2000) (by decide), Res.bind_ok]
  rw [er, loopR_cons]
  dsimp only
  rw [bin_ok, eqR_eq, ifR_ok, if_neg (by rw [decide_eq_true_eq]; omega), idR_eq, bin_ok, rModN_ok (by omega), hr, Res.bind_ok, Res.bind_ok]
  dsimp only
  rw [(gcd_loop (fun i a => ?_) (fun i a b hb => ?_) (rangeL 1 2000) b r _ (by rw [rangeL_length]; exact he)).2]
  · rfl
  · rfl
  · dsimp only
    rw [bin_ok, eqR_eq, ifR_ok, if_neg (by rw [decide_eq_true_eq]; exact hb), idR_eq, bin_ok, rModN_ok hb]
    rfl
theorem lowest_eq {x : Ra} (h : Sm x) : m__law_lowest x.1 x.2 = .ok (red x) := by
  unfold m__law_lowest
  have hp := h.p
  have ha := h.a
  have hb := h.b
  have hc := h.c
  have g1 := gc_pos (x := x) (by omega)
  have g2 := gc_le hp
  obtain ⟨d, hd⟩ := Int.eq_ofNat_of_zero_le (Int.le_of_lt hp)
  have big : (5000000 : Nat) < 2 ^ 1300 := Nat.lt_of_lt_of_le (show 5000000 < 2 ^ 23 by decide) (pow_le (by decide))
  have fin : ((pair (rDiv x.1 (gc x)) (rDiv x.2 (gc x))).bind fun a => Res.ok a) = .ok (red x) := by
    rw [rDiv_ok ⟨g1, by omega⟩, rDiv_ok ⟨g1, by omega⟩]
    rfl
  by_cases hn : 0 ≤ x.1
  · obtain ⟨n, en⟩ := Int.eq_ofNat_of_zero_le hn
    have eg : gc x = ((Nat.gcd d n : Nat) : Int) := by
      unfold gc
      rw [en, hd, Int.natAbs_natCast, Int.natAbs_natCast, Nat.gcd_comm]
    rw [hd, en, pair_ok, un_ok, gcd_nn (by omega), ← eg, ← hd, ← en, Res.bind_ok, bin_ok, rLt_eq, ifR_ok, if_neg (by rw [decide_eq_true_eq]; omega), Res.bind_ok, bin_ok, bin_ok]
    exact fin
  · obtain ⟨n, en⟩ := Int.eq_ofNat_of_zero_le (show 0 ≤ -x.1 by omega)
    have en2 : x.1 = -(n : Int) := by omega
    have eg : gc x = ((Nat.gcd d n : Nat) : Int) := by
      unfold gc
      rw [en2, hd, Int.natAbs_neg, Int.natAbs_natCast, Int.natAbs_natCast, Nat.gcd_comm]
    rw [hd, en2, pair_ok, un_ok, gcd_neg (by omega) (by omega), ← eg, ← hd, ← en2, Res.bind_ok, bin_ok, rLt_eq, ifR_ok, if_pos (by rw [decide_eq_true_eq]; omega), un_ok, rNeg_eq, Int.neg_neg, Res.bind_ok, Res.bind_ok, bin_ok, bin_ok]
    exact fin
theorem is_ratio_big {x y : Ra} (hx : Bn 4000 x) (h0 : 0 ≤ x.1) (hl : Lw x) (hy : Bn 4000 y) (h2 : y.2.natAbs < 2 ^ 1300) (e : Eqv x y) : m__law_is_ratio x y = .ok true := by
  unfold m__law_is_ratio
  have a := hx.p
  have le := lw_le hx.p hy.p hl e
  simp only [pair_ok, un_ok, notR_eq, bin_ok, neR_eq, m__law_is_int, andR_ok, Bool.not_true, Bool.not_false, Bool.and_self, Res.bind_ok, decide_true, orR_ok, Bool.or_self, ifR_ok, if_neg Bool.false_ne_true, rLt_eq, mulw hx.n hy.d (by decide), mulw hy.n hx.d (by decide)]
  have e2 : x.1 * y.2 = y.1 * x.2 := e
  rw [if_neg (by simp [e2]; omega)]
  obtain ⟨n1, hn1⟩ := Int.eq_ofNat_of_zero_le h0
  obtain ⟨n2, hn2⟩ := Int.eq_ofNat_of_zero_le (Int.le_of_lt a)
  have hl2 : Nat.gcd x.1.natAbs x.2.natAbs = 1 := hl
  rw [hn1, hn2, Int.natAbs_natCast, Int.natAbs_natCast, Nat.gcd_comm] at hl2
  rw [hn1, hn2, gcd_nn (by omega), hl2, rNeg_eq]
  rfl
theorem vr_nonneg {x : Ra} (h : 0 < x.2) : 0 ≤ vr x ↔ 0 ≤ x.1 := by
  have p : (0 : Rat) < x.2 := Rat.intCast_pos.mpr h
  unfold vr
  constructor
  · intro q
    have := Rat.mul_nonneg q (Rat.le_of_lt p)
    rw [show ((x.1 : Rat) / x.2) * x.2 = x.1 by have := ne0 h; grind] at this
    exact Rat.intCast_nonneg.mp this
  · intro q
    have a : (0 : Rat) ≤ x.1 := Rat.intCast_nonneg.mpr q
    refine Rat.le_of_mul_le_mul_right (c := (x.2 : Rat)) ?_ p
    rw [show ((x.1 : Rat) / x.2) * x.2 = x.1 by have := ne0 h; grind]
    grind
theorem div_nn {a b : Rat} (h : 0 ≤ a) (hb : 0 < b) : 0 ≤ a / b := by
  refine Rat.le_of_mul_le_mul_right (c := b) ?_ hb
  rw [show a / b * b = a by grind]
  grind
theorem lo_nonneg {rows : List Row} (V : Val rows) {cs : List Ra} : 0 ≤ Lo rows cs := sumR_nonneg fun k hk => by
  obtain ⟨_, a1, a2, a3, a4, a5⟩ := get_row V hk
  have b1 : (0 : Rat) ≤ yq rows k := Rat.intCast_nonneg.mpr a1
  have b2 : (0 : Rat) ≤ nq rows k := Rat.intCast_nonneg.mpr a3
  have c1 := Rat.mul_nonneg b1 (sq_nonneg (1 - vq cs k))
  have c2 := Rat.mul_nonneg b2 (sq_nonneg (vq cs k))
  unfold gq
  grind
theorem told_ok {rows : List Row} (V : Val rows) {cs : List Ra} (hc : cs.length = rows.length) (H : ∀ c ∈ cs, Ch c) : m__law_loss_told rows cs = .ok true := by
  unfold m__law_loss_told
  obtain ⟨z, ez, vz, bz, lz⟩ := mean_is V hc H
  obtain ⟨y, ey, vy, by_, dy⟩ := loss_is V hc H
  have i0 : ix [rows, cs] 0 = .ok rows := rfl
  have i1 : ix [rows, cs] 1 = .ok cs := rfl
  have nn : 0 ≤ z.1 := by
    rw [← vr_nonneg bz.p, vz]
    have p : (0 : Rat) < (Wh rows : Int) := Rat.intCast_pos.mpr (wh_bd V).1
    exact div_nn (lo_nonneg V (cs := cs)) p
  have e : Eqv z y := (eqv_vr bz.p by_.p).mpr (by rw [vz, vy])
  simp only [un_ok, idR_eq, consR_ok, Res.bind_ok, bin_ok, i0, i1, pair_ok, ez, ey, eqR_eq, is_ratio_big bz nn lz (by_.mono (by decide)) (Nat.lt_of_lt_of_le dy (pow_le (by decide))) e]
  simp

/-! when to act -/
section
variable {Y T : Int → Int} {n : Int}
theorem run_up (P : Pts Y T n) : ∀ {l : List Row} {s p : Int × Ra}, 0 ≤ s.1 → 0 < s.2.2 → run Y T n l (some s) = some p → ∀ y ∈ l, Lt s.2 (sh Y T y.1 y.2) ∧ s.1 ≤ y.1
  | [], s, p, _, _, _, y, hy => by cases hy
  | x :: l, s, p, h0, hp, h, y, hy => by
    obtain ⟨ok, h2⟩ := run_cons_some h
    have st := ok.st
    have lt := ok.lt
    have hx : 0 < (sh Y T x.1 x.2).2 := P.pos (by omega) (by omega) ok.le
    rcases List.mem_cons.mp hy with rfl | hy
    · exact ⟨ok.up, by omega⟩
    · obtain ⟨a, b⟩ := run_up P (s := (x.2, sh Y T x.1 x.2)) (by dsimp only; omega) hx h2 y hy
      dsimp only at a b
      have hy2 : 0 < (sh Y T y.1 y.2).2 := by
        obtain ⟨l1, l2, e⟩ := List.append_of_mem hy
        rw [e, run_append] at h2
        cases q : run Y T n l1 (some (x.2, sh Y T x.1 x.2)) with
        | none =>
          rw [q, run_none] at h2
          cases h2
        | some u =>
          rw [q] at h2
          obtain ⟨ok2, _⟩ := run_cons_some h2
          have := ok2.st
          have := ok2.lt
          exact P.pos (by omega) (by omega) ok2.le
      exact ⟨lt_trans hp hx hy2 ok.up a, by omega⟩
theorem best_at (P : Pts Y T n) {v : Ra} (hv : 0 < v.2) : ∀ {l : List Row} {s p : Int × Ra}, 0 ≤ s.1 → 0 < s.2.2 → run Y T n l (some s) = some p → ∃ b, s.1 ≤ b ∧ b ≤ p.1 ∧ (∀ x ∈ l, (x.2 ≤ b ∧ ¬ Lt v (sh Y T x.1 x.2)) ∨ (b ≤ x.1 ∧ Lt v (sh Y T x.1 x.2))) ∧
    ∀ i, s.1 ≤ i → i ≤ p.1 → Gv Y T v b ≤ Gv Y T v i
  | [], s, p, h0, hp, h => by
    cases h
    refine ⟨s.1, Int.le_refl _, Int.le_refl _, fun x hx => (nomatch hx), fun i h1 h2 => ?_⟩
    have : i = s.1 := by omega
    rw [this]
    exact Int.le_refl _
  | x :: l, s, p, h0, hp, h => by
    obtain ⟨ok, h2⟩ := run_cons_some h
    have st := ok.st
    have lt := ok.lt
    have le := ok.le
    have ge := (run_le h2).1
    dsimp only at ge
    have hx : 0 < (sh Y T x.1 x.2).2 := P.pos (by omega) (by omega) le
    by_cases hl : Lt v (sh Y T x.1 x.2)
    · refine ⟨s.1, Int.le_refl _, by omega, fun y hy => ?_, ?_⟩
      · right
        rcases List.mem_cons.mp hy with rfl | hy
        · exact ⟨by omega, hl⟩
        · obtain ⟨a, b⟩ := run_up P (s := (x.2, sh Y T x.1 x.2)) (by dsimp only; omega) hx h2 y hy
          dsimp only at a b
          refine ⟨by omega, ?_⟩
          have hy2 : 0 < (sh Y T y.1 y.2).2 := by
            obtain ⟨l1, l2, e⟩ := List.append_of_mem hy
            rw [e, run_append] at h2
            cases q : run Y T n l1 (some (x.2, sh Y T x.1 x.2)) with
            | none =>
              rw [q, run_none] at h2
              cases h2
            | some u =>
              rw [q] at h2
              obtain ⟨ok2, _⟩ := run_cons_some h2
              have := ok2.st
              have := ok2.lt
              exact P.pos (by omega) (by omega) ok2.le
          exact lt_trans hv hx hy2 hl a
      · have hr : run Y T n (x :: l) (some (s.1, v)) = some p := by
          rw [run_cons, stp_of (s := (s.1, v)) ⟨st, lt, le, hl, ok.lv⟩]
          exact h2
        exact supR P hv (s := (s.1, v)) h0 hv hr lt_irr
    · obtain ⟨b, b1, b2, b3, b4⟩ := best_at P hv (s := (x.2, sh Y T x.1 x.2)) (by dsimp only; omega) hx h2
      dsimp only at b1 b4
      refine ⟨b, by omega, b2, fun y hy => ?_, fun i h1 h3 => ?_⟩
      · rcases List.mem_cons.mp hy with rfl | hy
        · exact .inl ⟨b1, hl⟩
        · exact b3 y hy
      · by_cases hi : x.2 ≤ i
        · exact b4 i hi h3
        · have g := b4 x.2 (Int.le_refl _) ge
          by_cases hi0 : x.1 < i
          · have a := ok.lv i hi0 (by omega)
            rw [lt_sh, g_self] at a
            have c : ¬ Lt (sh Y T x.1 x.2) (sh Y T i x.2) := by
              rw [sh_lt]
              exact a
            have d : ¬ Lt v (sh Y T i x.2) := fun z => hl (lt_le_trans hv (P.pos (by omega) (by omega) le) hx z c)
            rw [sh_lt] at d
            omega
          · have e : i = x.1 := by omega
            rw [sh_lt] at hl
            rw [e]
            omega
end
theorem filter_len {α : Type} {p : α → Bool} {l : List α} {b : Nat} (hb : b ≤ l.length) (h : ∀ k x, l[k]? = some x → (p x = true ↔ k < b)) : (l.filter p).length = b := by
  have e := List.take_append_drop b l
  have h1 : (l.take b).filter p = l.take b := by
    rw [List.filter_eq_self]
    intro x hx
    obtain ⟨k, hk⟩ := List.mem_iff_getElem?.mp hx
    rw [List.getElem?_take] at hk
    split at hk
    · rename_i hkb
      exact (h k x hk).mpr hkb
    · cases hk
  have h2 : (l.drop b).filter p = [] := by
    rw [List.filter_eq_nil_iff]
    intro x hx hp
    obtain ⟨k, hk⟩ := List.mem_iff_getElem?.mp hx
    rw [List.getElem?_drop] at hk
    have := (h (b + k) x hk).mp hp
    omega
  rw [← e, List.filter_append, h1, h2, List.append_nil, List.length_take]
  omega
def Xp (rows : List Row) (cost loss i : Int) : Int := loss * ((rows.take i.toNat).map fun x => x.1).sum + cost * ((rows.drop i.toNat).map fun x => x.1 + x.2).sum
theorem sum_pair (l : List Row) : (l.map fun x : Row => x.1 + x.2).sum = (l.map fun x : Row => x.1).sum + (l.map fun x : Row => x.2).sum := by
  induction l with
  | nil => rfl
  | cons x l ih =>
    simp only [List.map_cons, List.sum_cons, ih]
    omega
theorem xp_eq {rows : List Row} {cost loss i : Int} (h0 : 0 ≤ i) (h1 : i ≤ rows.length) : Xp rows cost loss i = Gv (Yr rows) (Tr rows) (cost, loss) i + cost * Tr rows rows.length := by
  unfold Xp Gv
  have e1 : ((rows.take i.toNat).map fun x => x.1).sum = Yr rows i := rfl
  have e2 : ((rows.drop i.toNat).map fun x => x.1 + x.2).sum = Tr rows rows.length - Tr rows i := by
    rw [tr_sub h0 h1, ← sum_pair, cut_mid h0 h1, Int.toNat_natCast, List.take_of_length_le (by rw [List.length_drop]; exact Nat.le_refl _)]
  rw [e1, e2]
  grind
/-- where the least expense is -/
theorem least_at {rows : List Row} (V : Val rows) {l : List Row} (hd : Div (Yr rows) (Tr rows) rows.length l) {c : List Ra} (hcl : c.length = rows.length) (hc : ∀ x ∈ l, ∀ k : Int, x.1 ≤ k → k < x.2 → c[k.toNat]? = some (red (sh (Yr rows) (Tr rows) x.1 x.2)))
    {cost loss : Int} (h0 : 0 ≤ cost) (h1 : 0 ≤ loss) : ∃ b : Nat, b ≤ rows.length ∧ (c.filter fun x => decide (loss * x.1 ≤ cost * x.2)).length = b ∧ ∀ i, 0 ≤ i → i ≤ (rows.length : Int) → Xp rows cost loss b ≤ Xp rows cost loss i := by
  have P := V.pts
  by_cases hz : loss = 0
  · subst hz
    refine ⟨rows.length, Nat.le_refl _, filter_len (by omega) fun k x hk => ?_, fun i h2 h3 => ?_⟩
    · have hk2 := (List.getElem?_eq_some_iff.mp hk).1
      obtain ⟨y, hy, h4, h5⟩ := hd.cover (k := (k : Int)) (by omega) (by omega)
      have := hc y hy k h4 h5
      rw [Int.toNat_natCast, hk] at this
      obtain ⟨a, b, d, _⟩ := hd.at P hy
      have p := (red_bd (V.bd a b d)).c
      rw [← Option.some.inj this] at p
      have q := Int.mul_nonneg h0 (Int.le_of_lt p)
      rw [decide_eq_true_eq]
      exact ⟨fun _ => by omega, fun _ => by omega⟩
    · rw [xp_eq (by omega) (by omega), xp_eq h2 h3]
      unfold Gv
      dsimp only
      have t : Tr rows i ≤ Tr rows rows.length := by
        by_cases e : i = rows.length
        · rw [e]
          exact Int.le_refl _
        · exact Int.le_of_lt (P.t i _ h2 (by omega) (Int.le_refl _))
      have := Int.mul_le_mul_of_nonneg_left t h0
      omega
  · have hv : 0 < ((cost, loss) : Ra).2 := by dsimp only; omega
    obtain ⟨r, hr⟩ := hd
    obtain ⟨b, b1, b2, b3, b4⟩ := best_at P hv (s := (0, (-1, 1))) (Int.le_refl _) (by decide) hr
    have hd : Div (Yr rows) (Tr rows) rows.length l := ⟨r, hr⟩
    dsimp only at b1 b2 b4
    refine ⟨b.toNat, by omega, filter_len (by omega) fun k x hk => ?_, fun i h2 h3 => ?_⟩
    · have hk2 := (List.getElem?_eq_some_iff.mp hk).1
      obtain ⟨y, hy, h4, h5⟩ := hd.cover (k := (k : Int)) (by omega) (by omega)
      have := hc y hy k h4 h5
      rw [Int.toNat_natCast, hk] at this
      have e := Option.some.inj this
      obtain ⟨a, b', d, _⟩ := hd.at P hy
      have bd := V.bd a b' d
      have q : Lt (cost, loss) x ↔ Lt (cost, loss) (sh (Yr rows) (Tr rows) y.1 y.2) := by
        rw [e]
        exact lt_congr hv hv (red_bd bd).c bd.c eqv_refl red_eqv
      have e2 : (loss * x.1 ≤ cost * x.2) ↔ ¬ Lt (cost, loss) x := by
        unfold Lt
        dsimp only
        rw [Int.mul_comm x.1 loss]
        omega
      rw [decide_eq_true_eq, e2, q]
      rcases b3 y hy with ⟨c1, c2⟩ | ⟨c1, c2⟩
      · exact ⟨fun _ => by omega, fun _ => c2⟩
      · exact ⟨fun z => absurd c2 z, fun z => by omega⟩
    · rw [xp_eq (by omega) (by omega), xp_eq h2 h3]
      have := b4 i h2 h3
      rw [show ((b.toNat : Nat) : Int) = b by omega]
      omega
theorem loopR_invI {α S ρ : Type} {f : α → S → Res (Out S ρ)} {J : Nat → S → Prop} {xs : List α} {s : S} (h0 : J 0 s) (h : ∀ i x s, xs[i]? = some x → J i s → Is (f x s) fun o => ∃ s', o = .nx s' ∧ J (i + 1) s') : Is (loopR f xs s) fun o => ∃ s', o = .nx s' ∧ J xs.length s' := by
  induction xs generalizing J s with
  | nil => exact ⟨s, rfl, h0⟩
  | cons x xs ih =>
    rw [loopR_cons]
    refine Is.bind (h 0 x s rfl h0) fun o ⟨s', e, h1⟩ => ?_
    subst e
    exact ih (J := fun i => J (i + 1)) h1 fun i y s hy hj => h (i + 1) y s hy hj
/-- costs and losses that are drawn here -/
def Sc (d : Int) : Prop := 0 ≤ d ∧ d ≤ 10000000
theorem sc_mul {d e : Int} (h : Sc d) : rMul d e = .ok (d * e) := rMul_ok (.inl (by obtain ⟨a, b⟩ := h; omega))
theorem expense_eq {rows : List Row} (V : Val rows) {i cost loss : Int} (h0 : 0 ≤ i) (hc : Sc cost) (hl : Sc loss) : m_threshold_expense rows i cost loss = .ok (Xp rows cost loss i) := by
  unfold m_threshold_expense
  simp only [un_ok, chk_eq V, Res.bind_ok, someR_ok, slR_ok, cut_lo h0, cut_hi h0, mapR_okf, sumR_eq, bin_ok, sc_mul hl, sc_mul hc, rAdd_eq]
  rfl
theorem filR_len {c : List Ra} {cost loss : Int} (hc : Sc cost) (hl : Sc loss) : filR (fun (x_8 : (Int × Int)) => (bin rLe (bin rMul (Res.ok loss) (un (fun p => Res.ok p.1) (Res.ok x_8))) (bin rMul (Res.ok cost) (un (fun p => Res.ok p.2) (Res.ok x_8))))) (fun (x_8 : (Int × Int)) => (Res.ok x_8)) c = .ok (c.filter fun x => decide (loss * x.1 ≤ cost * x.2)) :=
  filR_id fun x _ => by simp only [un_ok, bin_ok, sc_mul hc, sc_mul hl, rLe_eq]
theorem best_eq {rows : List Row} (V : Val rows) {c : List Ra} (ec : m_rising_chances rows = .ok c) {cost loss : Int} (hc : Sc cost) (hl : Sc loss) : m_best_start rows cost loss = .ok ((c.filter fun x => decide (loss * x.1 ≤ cost * x.2)).length : Nat) := by
  unfold m_best_start
  rw [un_ok, ec, Res.bind_ok, Res.bind_ok, filR_len hc hl, un_ok, rLen_eq]
  rfl
theorem starts_ok {rows : List Row} (V : Val rows) {l : List Row} (hd : Div (Yr rows) (Tr rows) rows.length l) {c : List Ra} (ec : m_rising_chances rows = .ok c) (hcl : c.length = rows.length) (hcx : ∀ x ∈ l, ∀ k : Int, x.1 ≤ k → k < x.2 → c[k.toNat]? = some (red (sh (Yr rows) (Tr rows) x.1 x.2)))
    {cost loss : Int} (hc : Sc cost) (hl : Sc loss) : m__law_starts_told rows c cost loss = .ok true := by
  refine Is.eq ?_
  unfold m__law_starts_told
  have hlen := V.len
  obtain ⟨b, hb, eb, least⟩ := least_at V hd hcl hcx hc.1 hl.1
  rw [Res.bind_ok, filR_len hc hl]
  simp only [un_ok, rLen_eq, Res.bind_ok, idR_eq, pair_ok, best_eq V ec hc hl, m__law_is_int, notR_eq, andR_ok, Bool.not_true, Bool.not_false, Bool.and_self, bin_ok, neR_eq, decide_true, orR_ok, Bool.or_self, ifR_ok, if_neg Bool.false_ne_true, rAdd_eq, rng1_ok (n := (rows.length : Int) + 1) (by omega)]
  refine Is.bind (loopR_invI (J := fun i (sp : List Int) => sp = (rangeL 0 i).map (Xp rows cost loss)) (by rfl) fun i x sp hx hsp => ?_) ?_
  · have hx2 := rangeL_get hx
    have hx3 := mem_rangeL.mp (List.mem_of_getElem? hx)
    have hxi : x = (i : Int) := by omega
    subst hxi
    have hlsp : sp.length = i := by rw [hsp, List.length_map, rangeL_length]; omega
    simp only [someR_ok, slR_ok, cut_lo (show (0 : Int) ≤ (i : Int) by omega), cut_hi (show (0 : Int) ≤ (i : Int) by omega), Res.bind_ok, mapR_okf, un_ok, sumR_eq, bin_ok, sc_mul hl, sc_mul hc, rAdd_eq]
    rw [push_ok (by omega), Res.bind_ok, expense_eq V (by omega) hc hl, Res.bind_ok]
    have ei : ix (sp ++ [Xp rows cost loss (i : Int)]) (i : Int) = .ok (Xp rows cost loss (i : Int)) := ix_nat (by rw [← hlsp, List.getElem?_append_right (Nat.le_refl _), Nat.sub_self]; rfl)
    have exp : loss * ((rows.take (i : Int).toNat).map fun x => x.1).sum + cost * ((rows.drop (i : Int).toNat).map fun x => x.1 + x.2).sum = Xp rows cost loss (i : Int) := rfl
    rw [exp, ei, bin_ok, neR_eq, decide_eq_true rfl, Bool.not_true, orR_ok, Bool.or_self, ifR_ok, if_neg Bool.false_ne_true]
    refine ⟨_, rfl, ?_⟩
    rw [hsp]
    unfold rangeL
    rw [Int.sub_zero, Int.sub_zero, Int.toNat_natCast, Int.toNat_natCast, List.range_succ, List.map_append, List.map_append, List.map_map, List.map_map]
    simp
  · rintro o ⟨sp, rfl, hsp⟩
    rw [rangeL_length] at hsp
    dsimp only
    have en : (((rows.length : Int) + 1 - 0).toNat : Int) = rows.length + 1 := by omega
    rw [en] at hsp
    have mem : ∀ y ∈ sp, ∃ i, (0 ≤ i ∧ i ≤ (rows.length : Int)) ∧ y = Xp rows cost loss i := fun y hy => by
      rw [hsp] at hy
      obtain ⟨i, hi, e⟩ := List.mem_map.mp hy
      have := mem_rangeL.mp hi
      exact ⟨i, by omega, e.symm⟩
    have at_ : sp[b]? = some (Xp rows cost loss b) := by
      rw [hsp, List.getElem?_map]
      have : (rangeL 0 ((rows.length : Int) + 1))[b]? = some (b : Int) := by
        unfold rangeL
        rw [List.getElem?_map, List.getElem?_range (by omega)]
        simp
      rw [this]
      rfl
    rw [eb, ix_nat at_]
    cases sp with
    | nil => cases at_
    | cons y ys =>
      show Is ((bin eqR (Res.ok _) (Res.ok (ltL y ys))).bind _) _
      obtain ⟨a1, a2, a3⟩ := ltL_spec ys y
      have e : Xp rows cost loss b = ltL y ys := by
        refine Int.le_antisymm ?_ ?_
        · have : ltL y ys ∈ y :: ys := by
            rcases a3 with a3 | a3
            · rw [a3]
              exact List.mem_cons_self
            · exact List.mem_cons_of_mem _ a3
          obtain ⟨i, hi, e⟩ := mem _ this
          rw [e]
          exact least i hi.1 hi.2
        · have := List.mem_of_getElem? at_
          rcases List.mem_cons.mp this with q | q
          · rw [q]
            exact a1
          · exact a2 _ q
      rw [e, bin_ok, eqR_eq, decide_eq_true rfl]
      rfl
/-! chances that are drawn -/
theorem ch_red {x : Ra} (h : Sm x) : Ch (red x) := by
  obtain ⟨p, q, r⟩ := red_le h.p
  obtain ⟨a, b, c, d⟩ := h
  exact ⟨⟨p, by omega, by omega, by omega⟩, lw_red a⟩
theorem drawn_is {p : Pl} (hp : PI_ p) : Is (m__law_drawn_chance () p) fun b => Ch b.1 ∧ PI_ b.2 := by
  unfold m__law_drawn_chance
  obtain ⟨d, ed, hd, pd⟩ := from_ok (lo := 1) (hi := 12) hp (by decide) (by decide)
  obtain ⟨t, et, ht, pt⟩ := take_ok (n := 4) pd (by decide) (by decide)
  simp only [pair_ok, callM_ok, ed, Res.bind_ok, ifMR_eq, binM_eq, et, eqR_eq, liftM_ok]
  refine Is.bind (Q := fun z : Pl × Int => PI_ z.1 ∧ 1 ≤ z.2 ∧ z.2 ≤ 1000) ?_ fun z ⟨hz1, hz2, hz3⟩ => ?_
  · refine Is.if_ (fun _ => ?_) fun _ => ⟨pt, by dsimp only; omega, by dsimp only; omega⟩
    obtain ⟨u, eu, hu, pu⟩ := from_ok (lo := 1) (hi := 1000) pt (by decide) (by decide)
    simp only [eu, Res.bind_ok]
    exact ⟨pu, by dsimp only; omega, by dsimp only; omega⟩
  · obtain ⟨n, en, hn, pn⟩ := take_ok (n := z.2 + 1) hz1 (by omega) (by omega)
    obtain ⟨t, et, ht, pt⟩ := take_ok (n := 6) pn (by decide) (by decide)
    simp only [bin_ok, rAdd_eq, callM_ok, en, Res.bind_ok, et]
    refine Is.bind (Q := fun w : Pl × Int => PI_ w.1 ∧ -1000 ≤ w.2 ∧ w.2 ≤ 2000) ?_ fun w ⟨hw1, hw2, hw3⟩ => ?_
    · refine Is.if_ (fun _ => ?_) fun _ => ⟨pt, by dsimp only; omega, by dsimp only; omega⟩
      obtain ⟨u, eu, hu, pu⟩ := take_ok (n := 3000) pt (by decide) (by decide)
      simp only [eu, Res.bind_ok, rSub_eq]
      exact ⟨pu, by dsimp only; omega, by dsimp only; omega⟩
    · have sm : Sm (w.2, z.2) := ⟨by dsimp only; omega, by dsimp only; omega, by dsimp only; omega, by dsimp only; omega⟩
      have e := lowest_eq sm
      dsimp only at e
      rw [un_ok, e]
      exact ⟨ch_red sm, hw1⟩
theorem ch_11 : Ch (1, 1) := ⟨⟨by decide, by decide, by decide, by decide⟩, by show Nat.gcd 1 1 = 1; decide⟩
theorem cat_ok {α : Type} {xs ys : List α} (h : xs.length ≤ 1000) (h' : ys.length ≤ 1000) : rCatR xs ys = .ok (xs ++ ys) := rCatR_ok (by omega)
theorem ascending_is {rows : List Row} (V : Val rows) {c : List Ra} (hc : c.length = rows.length) (H : ∀ x ∈ c, Ch x) {p : Pl} (hp : PI_ p) : Is (m__law_ascending rows c p) fun b => b.1.length = rows.length ∧ (∀ x ∈ b.1, Ch x) ∧ PI_ b.2 := by
  unfold m__law_ascending
  have hlen := V.len
  have hpos := V.pos
  obtain ⟨k, ek, hk, pk⟩ := take_ok (n := 4) hp (by decide) (by decide)
  simp only [callM_ok, ek, Res.bind_ok, un_ok, rLen_eq, bin_ok, eqR_eq, ifR_ok, pair_ok, rng1_ok (n := (rows.length : Int)) (by omega)]
  refine Is.if_ (fun _ => ?_) fun _ => Is.if_ (fun _ => ?_) fun _ => Is.if_ (fun _ => ?_) fun _ => ?_
  · have bd := V.bd (Int.le_refl 0) (show (0 : Int) < (rows.length : Int) by omega) (Int.le_refl _)
    rw [lshare_eq (Int.le_refl 0) (by omega), Res.bind_ok]
    have e : mapR (fun (x_36 : Int) => m__law_lowest (sh (Yr rows) (Tr rows) 0 rows.length).1 (sh (Yr rows) (Tr rows) 0 rows.length).2) (rangeL 0 rows.length) = .ok ((rangeL 0 rows.length).map fun _ => red (sh (Yr rows) (Tr rows) 0 rows.length)) := mapR_ok fun _ _ => lowest_eq bd.sm
    rw [e]
    refine ⟨by rw [List.length_map, rangeL_length]; omega, fun x hx => ?_, pk⟩
    obtain ⟨_, _, e⟩ := List.mem_map.mp hx
    rw [← e]
    exact ch_red bd.sm
  · obtain ⟨m, em, hm, pm⟩ := from_ok (lo := 1) (hi := 3) pk (by decide) (by decide)
    simp only [idR_eq, Res.bind_ok, unM_eq, callM_ok, em, rng1_ok (n := m.1) (by omega)]
    refine Is.bind (loopN_inv' (fun (z : List Ra × Pl) => z.1.length = rows.length ∧ (∀ x ∈ z.1, Ch x) ∧ PI_ z.2) ⟨hc, H, pm⟩ fun i z _ ⟨h1, h2, h3⟩ => ?_) fun z hz => hz
    obtain ⟨t, et, ht, pt⟩ := take_ok (n := (rows.length : Int)) h3 (by omega) (by omega)
    simp only [callM_ok, et, Res.bind_ok, rAdd_eq, bin_ok, rLt_eq, ifR_ok]
    have put : ∀ y, Ch y → Is ((setR z.1 t.1 y).bind fun (found_132 : (List (Int × Int))) => (Res.ok (found_132, t.2))) fun z => z.1.length = rows.length ∧ (∀ x ∈ z.1, Ch x) ∧ PI_ z.2 := fun y hy => by
      rw [setR_nat ht.1 (by omega)]
      refine ⟨by simp [h1], fun x hx => ?_, pt⟩
      rcases List.mem_or_eq_of_mem_set hx with hx | hx
      · exact h2 x hx
      · rw [hx]
        exact hy
    refine Is.if_ (fun h => ?_) fun _ => put _ ch_11
    have h := of_decide_eq_true h
    obtain ⟨y, ey, hy⟩ := ix_get (xs := z.1) (i := t.1 + 1) (by omega) (by omega)
    rw [ey, Res.bind_ok]
    exact put y (h2 y (List.mem_of_getElem? hy))
  · obtain ⟨a, ea, ha, pa⟩ := take_ok (n := (rows.length : Int)) pk (by omega) (by omega)
    obtain ⟨b, eb, hb, pb⟩ := take_ok (n := a.1 + 1) pa (by omega) (by omega)
    obtain ⟨x, ex, hx⟩ := ix_get (xs := c) hb.1 (by omega)
    obtain ⟨y, ey, hy⟩ := ix_get (xs := c) ha.1 (by omega)
    rw [ea, Res.bind_ok]
    simp only [bin_ok, rAdd_eq, callM_ok, eb, Res.bind_ok, ex, ey, rng1_ok (n := a.1) (by omega), rng2_ok (a := a.1) (b := (rows.length : Int)) (by omega), mapR_okf]
    rw [cat_ok (by rw [List.length_map, rangeL_length]; omega) (by rw [List.length_map, rangeL_length]; omega)]
    refine ⟨by simp; omega, fun u hu => ?_, pb⟩
    rcases List.mem_append.mp hu with hu | hu
    · obtain ⟨_, _, e⟩ := List.mem_map.mp hu
      rw [← e]
      exact H x (List.mem_of_getElem? hx)
    · obtain ⟨_, _, e⟩ := List.mem_map.mp hu
      rw [← e]
      exact H y (List.mem_of_getElem? hy)
  · simp only [liftM_ok, Res.bind_ok]
    obtain ⟨s, es, ls, hs, ps⟩ := (mapM_is (f := fun (x_258 : Int) => (callM m__law_take (liftM (Res.ok (40 : Int))))) (xs := rangeL 0 rows.length) (J := PI_) (B := fun b => 0 ≤ b ∧ b ≤ 39) pk fun x y _ hy => (take_is (n := 40) hy (by decide) (by decide)).imp fun b hb => ⟨⟨hb.1.1, by have := hb.1.2; omega⟩, hb.2⟩).get
    rw [es, Res.bind_ok]
    obtain ⟨w, ew, hw, pw⟩ := from_ok (lo := 1) (hi := 40) ps (by decide) (by decide)
    simp only [binM_eq, liftM_ok, Res.bind_ok, callM_ok, ew, sumR_eq, rAdd_eq]
    rw [rangeL_length] at ls
    have sum_bd : ∀ l : List Int, (∀ b ∈ l, 0 ≤ b ∧ b ≤ 39) → 0 ≤ l.sum ∧ l.sum ≤ 39 * l.length := by
      intro l
      induction l with
      | nil => intro _; simp
      | cons x l ih =>
        intro h
        have a := h x List.mem_cons_self
        have b := ih fun y hy => h y (List.mem_cons_of_mem _ hy)
        rw [List.sum_cons, List.length_cons]
        omega
    have sb := sum_bd s.1 hs
    have tk : ∀ i : Int, 0 ≤ i → Sm ((s.1.take (i + 1).toNat).sum, s.1.sum + w.1) := fun i hi => by
      have := sum_bd (s.1.take (i + 1).toNat) fun b hb => hs b (List.mem_of_mem_take hb)
      have l2 : (s.1.take (i + 1).toNat).length ≤ s.1.length := by rw [List.length_take]; omega
      exact ⟨by dsimp only; omega, by dsimp only; omega, by dsimp only; omega, by dsimp only; omega⟩
    have e : mapR (fun (x_292 : Int) => m__law_lowest (cut s.1 none (some (x_292 + 1))).sum (s.1.sum + w.1)) (rangeL 0 rows.length) = .ok ((rangeL 0 rows.length).map fun i => red ((s.1.take (i + 1).toNat).sum, s.1.sum + w.1)) := mapR_ok fun i hi => by
      have hi := mem_rangeL.mp hi
      rw [cut_lo (by omega)]
      exact lowest_eq (tk i hi.1)
    have e2 : mapR (fun (x_292 : Int) => (un (fun (p : (Int × Int)) => m__law_lowest p.1 p.2) (pair (un Sd.sumR (slR (Res.ok s.1) (Res.ok none) (someR (bin rAdd (Res.ok x_292) (Res.ok (1 : Int)))))) (Res.ok (s.1.sum + w.1))))) (rangeL 0 rows.length) = mapR (fun (x_292 : Int) => m__law_lowest (cut s.1 none (some (x_292 + 1))).sum (s.1.sum + w.1)) (rangeL 0 rows.length) := rfl
    simp only [someR_ok, slR_ok, bin_ok, rAdd_eq] at e2 ⊢
    rw [e2, e]
    refine ⟨by rw [List.length_map, rangeL_length]; omega, fun x hx => ?_, pw⟩
    obtain ⟨i, hi, e⟩ := List.mem_map.mp hx
    rw [← e]
    exact ch_red (tk i (mem_rangeL.mp hi).1)
theorem never_is {q : List Ra} (hl : q.length ≤ 24) (H : ∀ x ∈ q, Ch x) : ∃ b, m__law_never_descends q = .ok b ∧ (b = true → ∀ k : Nat, k + 1 < q.length → vq q k ≤ vq q (k + 1)) := by
  unfold m__law_never_descends
  simp only [un_ok, rLen_eq, pair_ok, rng2_ok (a := 1) (b := (q.length : Int)) (by omega), Res.bind_ok]
  rw [loopR_any (r := false) (p := fun k => decide (Lt (q.getD k.toNat (0, 1)) (q.getD (k - 1).toNat (0, 1)))) fun k hk => ?_]
  · refine ⟨!((rangeL 1 q.length).any fun k => decide (Lt (q.getD k.toNat (0, 1)) (q.getD (k - 1).toNat (0, 1)))), ?_, fun hb k hk => ?_⟩
    · cases (rangeL 1 q.length).any fun k => decide (Lt (q.getD k.toNat (0, 1)) (q.getD (k - 1).toNat (0, 1))) <;> rfl
    · rw [Bool.not_eq_true', List.any_eq_false] at hb
      have h := hb ((k : Int) + 1) (mem_rangeL.mpr ⟨by omega, by omega⟩)
      rw [show ((k : Int) + 1).toNat = k + 1 by omega, show ((k : Int) + 1 - 1).toNat = k by omega, decide_eq_true_eq] at h
      have a := (get_ch H (k := k) (by omega)).2
      have b := (get_ch H (k := k + 1) hk).2
      rw [lt_vr b.1.p a.1.p] at h
      unfold vq
      grind
  · have hk := mem_rangeL.mp hk
    have a := get_ch H (k := k.toNat) (by omega)
    have b := get_ch H (k := (k - 1).toNat) (by omega)
    have i1 := ix_nat a.1
    have i2 := ix_nat b.1
    rw [show ((k.toNat : Nat) : Int) = k by omega] at i1
    rw [show (((k - 1).toNat : Nat) : Int) = k - 1 by omega] at i2
    simp only [bin_ok, rSub_eq, i1, i2, pair_ok, un_ok, less_eq a.2.1 b.2.1, ifR_ok, Res.bind_ok, decide_eq_true_eq]
    split <;> rfl
theorem cost_is {rows : List Row} (V : Val rows) {c : List Ra} (hc : c.length = rows.length) (H : ∀ x ∈ c, Bd x) {p : Pl} (hp : PI_ p) : Is (m__law_cost_and_loss rows c p) fun b => Sc b.1.1 ∧ Sc b.1.2 ∧ PI_ b.2 := by
  unfold m__law_cost_and_loss
  have hlen := V.len
  have hpos := V.pos
  obtain ⟨k, ek, hk, pk⟩ := take_ok (n := 4) hp (by decide) (by decide)
  simp only [callM_ok, ek, Res.bind_ok, un_ok, rLen_eq, bin_ok, eqR_eq, ifR_ok, pairM_eq]
  have sc_bd : ∀ x : Ra, Bd x → Sc x.1 ∧ Sc x.2 := fun x h => by
    obtain ⟨a, b, c, d⟩ := h
    exact ⟨⟨a, by omega⟩, by omega, by omega⟩
  refine Is.if_ (fun _ => ?_) fun _ => Is.if_ (fun _ => ?_) fun _ => ?_
  · obtain ⟨a, ea, ha, pa⟩ := take_ok (n := 10000001) pk (by decide) (by decide)
    obtain ⟨b, eb, hb, pb⟩ := take_ok (n := 10000001) pa (by decide) (by decide)
    simp only [ea, eb, Res.bind_ok]
    exact ⟨⟨ha.1, by dsimp only; omega⟩, ⟨hb.1, by dsimp only; omega⟩, pb⟩
  · obtain ⟨a, ea, ha, pa⟩ := take_ok (n := 6) pk (by decide) (by decide)
    obtain ⟨b, eb, hb, pb⟩ := take_ok (n := 9) pa (by decide) (by decide)
    simp only [ea, eb, Res.bind_ok]
    exact ⟨⟨ha.1, by dsimp only; omega⟩, ⟨hb.1, by dsimp only; omega⟩, pb⟩
  · obtain ⟨a, ea, ha, pa⟩ := take_ok (n := (rows.length : Int)) pk (by omega) (by omega)
    simp only [ea, Res.bind_ok]
    refine Is.if_ (fun _ => ?_) fun _ => ?_
    · obtain ⟨x, ex, hx⟩ := ix_get (xs := c) ha.1 (by omega)
      rw [ex]
      have := sc_bd x (H x (List.mem_of_getElem? hx))
      exact ⟨this.1, this.2, pa⟩
    · obtain ⟨e, ee, he, pe⟩ := from_ok (lo := a.1 + 1) (hi := (rows.length : Int)) pa (by omega) (by omega)
      simp only [liftM_ok, Res.bind_ok, rAdd_eq, pair_ok, callM_ok, ee, unM_eq, pairM_eq, lshare_eq (rows := rows) (s := a.1) (e := e.1) ha.1 (by omega)]
      have := sc_bd _ (V.bd (s := a.1) (e := e.1) ha.1 (by omega) he.2)
      exact ⟨this.1, this.2, pe⟩

/-! the groups are drawn -/
theorem mem_revR {α : Type} {xs : List α} {x : α} (h : x ∈ xs.reverse) : x ∈ xs := List.mem_reverse.mp h
theorem groups_is {p : Pl} (hp : PI_ p) : Is (m__law_groups () p) fun b => Val b.1 ∧ PI_ b.2 := by
  unfold m__law_groups
  obtain ⟨m, em, hm, pm⟩ := from_ok (lo := 1) (hi := 24) hp (by decide) (by decide)
  obtain ⟨t, et, ht, pt⟩ := take_ok (n := 2) pm (by decide) (by decide)
  simp only [pair_ok, callM_ok, em, Res.bind_ok, ifMR_eq, binM_eq, et, eqR_eq, liftM_ok]
  refine Is.bind (Q := fun z : Pl × Int => PI_ z.1 ∧ 1 ≤ z.2 ∧ z.2 ≤ 24) ?_ fun z ⟨hz1, hz2, hz3⟩ => ?_
  · refine Is.if_ (fun _ => ?_) fun _ => ⟨pt, hm.1, hm.2⟩
    obtain ⟨u, eu, hu, pu⟩ := from_ok (lo := 1) (hi := 6) pt (by decide) (by decide)
    simp only [eu, Res.bind_ok]
    exact ⟨pu, hu.1, by dsimp only; omega⟩
  · obtain ⟨u, eu, hu, pu⟩ := take_ok (n := 4) hz1 (by decide) (by decide)
    obtain ⟨y, ey, hy⟩ := ix_get (xs := ([100000, 5, 1, 1000] : List Int)) hu.1 hu.2
    have hy2 : 1 ≤ y ∧ y ≤ 100000 := by
      have key : ∀ y ∈ ([100000, 5, 1, 1000] : List Int), 1 ≤ y ∧ y ≤ 100000 := by decide
      exact key y (List.mem_of_getElem? hy)
    simp only [consR_ok, liftM_ok, eu, Res.bind_ok, ey, un_ok, rng1_ok (n := z.2) (by omega), bin_ok, rAdd_eq, callM_ok]
    refine Is.bind (loopN_inv (fun i (z : List Row × Pl) => z.1.length = i ∧ (∀ x ∈ z.1, VG x) ∧ PI_ z.2) ⟨rfl, fun x hx => (nomatch hx), pu⟩ fun i x w hx ⟨hw1, hw2, hw3⟩ => ?_) fun w ⟨hw1, hw2, hw3⟩ => ?_
    · have hx0 := mem_rangeL.mp (List.mem_of_getElem? hx)
      have hi := rangeL_get hx
      obtain ⟨a, ea, ha, pa⟩ := take_ok (n := y + 1) hw3 (by omega) (by omega)
      obtain ⟨b, eb, hb, pb⟩ := take_ok (n := y + 1) pa (by omega) (by omega)
      obtain ⟨c, ec, hc, pc⟩ := take_ok (n := 2) pb (by decide) (by decide)
      simp only [ea, eb, Res.bind_ok, bin_ok, rAdd_eq, eqR_eq, ifR_ok, ec, rSub_eq]
      refine Is.bind (Q := fun z : Pl × Int × Int => PI_ z.1 ∧ VG z.2) ?_ fun z ⟨hz1, hz2⟩ => ?_
      · refine Is.if_ (fun h => ?_) fun h => ?_
        · exact ⟨pc, by dsimp only; omega, by dsimp only; omega, by dsimp only; omega, by dsimp only; omega, by dsimp only; omega⟩
        · have h := of_decide_eq_false h
          exact ⟨pb, by dsimp only; omega, by dsimp only; omega, by dsimp only; omega, by dsimp only; omega, by dsimp only; omega⟩
      · rw [push_ok (by omega), Res.bind_ok]
        refine ⟨by simp [hw1], fun v hv => ?_, hz1⟩
        rcases List.mem_append.mp hv with hv | hv
        · exact hw2 v hv
        · rw [List.mem_singleton.mp hv]
          exact hz2
    · rw [rangeL_length] at hw1
      have V : Val w.1 := ⟨by omega, by omega, hw2⟩
      obtain ⟨v, ev, hv, pv⟩ := take_ok (n := 4) hw3 (by decide) (by decide)
      rw [ev, Res.bind_ok]
      have at_ : ∀ k : Int, 0 ≤ k → k < z.2 → ix w.1 k = .ok (w.1.getD k.toNat (0, 0)) ∧ VG (w.1.getD k.toNat (0, 0)) := fun k h0 h1 => by
        obtain ⟨x, ex, hx⟩ := ix_get (xs := w.1) h0 (by omega)
        rw [List.getD_eq_getElem?_getD, hx]
        exact ⟨ex, hw2 x (List.mem_of_getElem? hx)⟩
      have e1 : mapR (fun (x_253 : Int) => (pair (bin rDiv (bin rMul (un (fun p => Res.ok p.1) (bin ix (Res.ok w.1) (Res.ok x_253))) (Res.ok (1000000 : Int))) (bin rAdd (un (fun p => Res.ok p.1) (bin ix (Res.ok w.1) (Res.ok x_253))) (un (fun p => Res.ok p.2) (bin ix (Res.ok w.1) (Res.ok x_253))))) (Res.ok x_253))) (rangeL 0 z.2) =
          .ok ((rangeL 0 z.2).map fun k => ((w.1.getD k.toNat (0, 0)).1 * 1000000 / ((w.1.getD k.toNat (0, 0)).1 + (w.1.getD k.toNat (0, 0)).2), k)) := mapR_ok fun k hk => by
        have hk := mem_rangeL.mp hk
        obtain ⟨ek, vk⟩ := at_ k hk.1 hk.2
        obtain ⟨v1, v2, v3, v4, v5⟩ := vk
        simp only [bin_ok, ek, un_ok, rAdd_eq, rMul_ok (.inr (by decide) : (-(2 ^ 64) < (w.1.getD k.toNat (0, 0)).1 ∧ (w.1.getD k.toNat (0, 0)).1 < 2 ^ 64) ∨ (-(2 ^ 64) < (1000000 : Int) ∧ (1000000 : Int) < 2 ^ 64))]
        rw [rDiv_ok ⟨v5, by omega⟩]
        rfl
      simp only [bin_ok, un_ok] at e1 ⊢
      rw [e1]
      simp only [un_ok, sortP_eq, Res.bind_ok, bin_ok, eqR_eq, ifR_ok, revR_eq]
      generalize hS : isortP ((rangeL 0 z.2).map fun k => ((w.1.getD k.toNat (0, 0)).1 * 1000000 / ((w.1.getD k.toNat (0, 0)).1 + (w.1.getD k.toNat (0, 0)).2), k)) = S
      have perm : S.Perm ((rangeL 0 z.2).map fun k => ((w.1.getD k.toNat (0, 0)).1 * 1000000 / ((w.1.getD k.toNat (0, 0)).1 + (w.1.getD k.toNat (0, 0)).2), k)) := by
        rw [← hS]
        exact isortP_perm _
      have hS2 : ∀ x ∈ S, 0 ≤ x.2 ∧ x.2 < z.2 := fun x hx => by
        obtain ⟨k, hk, e⟩ := List.mem_map.mp (perm.mem_iff.mp hx)
        have := mem_rangeL.mp hk
        rw [← e]
        exact this
      have lS : S.length = z.2.toNat := by
        rw [perm.length_eq, List.length_map, rangeL_length]
        omega
      have fin : ∀ S' : List (Int × Int), (∀ x ∈ S', x ∈ S) → S'.length = S.length → Val (S'.map fun x => w.1.getD x.2.toNat (0, 0)) := fun S' h1 h2 => by
        refine ⟨by rw [List.length_map]; omega, by rw [List.length_map]; omega, fun y hy => ?_⟩
        obtain ⟨x, hx, e⟩ := List.mem_map.mp hy
        have := hS2 x (h1 x hx)
        rw [← e]
        exact (at_ x.2 this.1 this.2).2
      have em2 : ∀ S' : List (Int × Int), (∀ x ∈ S', x ∈ S) → mapR (fun (x : Int × Int) => ix w.1 x.2) S' = .ok (S'.map fun x => w.1.getD x.2.toNat (0, 0)) := fun S' h1 => mapR_ok fun x hx => by
        have := hS2 x (h1 x hx)
        exact (at_ x.2 this.1 this.2).1
      refine Is.if_ (fun _ => ?_) fun _ => Is.if_ (fun _ => ?_) fun _ => ⟨V, pv⟩
      · rw [em2 S fun _ h => h]
        exact ⟨fin S (fun _ h => h) rfl, pv⟩
      · rw [em2 S.reverse fun _ h => List.mem_reverse.mp h]
        exact ⟨fin _ (fun _ h => List.mem_reverse.mp h) (List.length_reverse ..), pv⟩

/-! refusals -/
theorem half_ok {cs : List Ra} (h : ∀ x ∈ cs, x = (1, 2)) : ∀ x ∈ cs, Ch x := fun x hx => by
  rw [h x hx]
  exact ⟨⟨by decide, by decide, by decide, by decide⟩, by show Nat.gcd 1 2 = 1; decide⟩
theorem refused_ok {rows : List Row} (V : Val rows) {cs : List Ra} (hc : cs.length = rows.length) (H : ∀ x ∈ cs, Ch x) (k : Int) : m__law_refused rows cs k = .ok ("none", 0) := by
  unfold m__law_refused
  obtain ⟨z, ez, _⟩ := mean_is V hc H
  obtain ⟨l, el, hd, _, _⟩ := (blocks_is V).get
  obtain ⟨c, ec, _, _⟩ := chances_is V el hd
  simp only [bin_ok, eqR_eq, ifR_ok, pair_ok, un_ok, ez, expense_eq V (Int.le_refl 0) (⟨by decide, by decide⟩ : Sc 1) (⟨by decide, by decide⟩ : Sc 2), best_eq V ec (⟨by decide, by decide⟩ : Sc 1) (⟨by decide, by decide⟩ : Sc 2), Res.bind_ok]
  by_cases h0 : k = 0
  · simp [h0]
  · by_cases h1 : k = 1
    · simp [h1]
    · simp [h0, h1]
theorem refused_at {rows : List Row} {cs : List Ra} {c : Ec} {i : Int} (h : m_check_groups rows = .exc c i) (hk : knE c = true) (k : Int) : m__law_refused rows cs k = if isaE c .BadSignals && (!isaE c .TooMany && !isaE c .Unlike) then .ok ("signals", i) else if isaE c .TooMany && (!isaE c .BadSignals && !isaE c .Unlike) then .ok ("many", i) else if isaE c .Unlike && (!isaE c .BadSignals && !isaE c .TooMany) then .ok ("unlike", i) else .ok ("other", 0) := by
  have e1 : m_mean_loss rows cs = .exc c i := by
    unfold m_mean_loss
    rw [un_ok, h]
    rfl
  have e2 : m_threshold_expense rows 0 1 2 = .exc c i := by
    unfold m_threshold_expense
    rw [un_ok, h]
    rfl
  have e3 : m_best_start rows 1 2 = .exc c i := by
    have e4 : m_rising_chances rows = .exc c i := by
      unfold m_rising_chances
      rw [un_ok, h]
      rfl
    unfold m_best_start
    rw [un_ok, e4]
    rfl
  unfold m__law_refused
  simp only [bin_ok, eqR_eq, ifR_ok, pair_ok, un_ok, e1, e2, e3, Res.bind_exc]
  have body : ∀ (α : Type) (b1 b2 : Bool), (if b1 = true then Res.exc c i else if b2 = true then Res.exc c i else Res.exc c i : Res α) = .exc c i := fun α b1 b2 => by
    cases b1 <;> cases b2 <;> rfl
  rw [body, tryR_exc hk (by simp [isaE])]
  simp only [un_ok, notR_eq, andR_ok, ifR_ok, pair_ok, Res.bind_ok]
  split
  · rfl
  · split
    · rfl
    · split <;> rfl
theorem refused_many {rows : List Row} (h : 24 < rows.length) (cs : List Ra) (k : Int) : m__law_refused rows cs k = .ok ("many", 24) := by
  rw [refused_at (c := .TooMany) (i := 24) (by rw [chk_any, if_pos h]) (by decide)]
  rfl
theorem refused_none (cs : List Ra) (k : Int) : m__law_refused [] cs k = .ok ("signals", 0) := by
  rw [refused_at (c := .BadSignals) (i := 0) (by rw [chk_any]; rfl) (by decide)]
  rfl
theorem refused_bad {rows : List Row} {j : Nat} {x : Row} (h : rows.length ≤ 24) (h1 : ∀ i y, i < j → rows[i]? = some y → VG y) (h2 : rows[j]? = some x) (h3 : okG x = false) (cs : List Ra) (k : Int) : m__law_refused rows cs k = .ok ("signals", (j : Int)) := by
  have hj := (List.getElem?_eq_some_iff.mp h2).1
  rw [refused_at (c := .BadSignals) (i := (j : Int)) (by
    rw [chk_any, if_neg (by omega), if_neg (by omega), fb_at (fun i y hi hy => okG_iff.mpr (h1 i y hi hy)) h2 h3]
    simp) (by decide)]
  rfl
theorem refused_unlike {rows : List Row} (V : Val rows) {cs : List Ra} (hc : cs.length ≠ rows.length) : m__law_refused rows cs 0 = .ok ("unlike", 1) := by
  have e1 : m_mean_loss rows cs = .exc .Unlike 1 := by
    unfold m_mean_loss
    simp only [un_ok, chk_eq V, Res.bind_ok, rLen_eq, bin_ok, neR_eq, ifR_ok]
    rw [if_pos (by simp; omega)]
  unfold m__law_refused
  simp only [bin_ok, eqR_eq, ifR_ok, pair_ok, un_ok, e1, Res.bind_exc, decide_true, if_pos]
  rw [tryR_exc (by decide) (by simp [isaE])]
  rfl
theorem put_eq {α : Type} {xs : List α} {k : Nat} {x : α} (h : k < xs.length) : xs.take k ++ [x] ++ xs.drop (k + 1) = xs.set k x := by
  rw [List.set_eq_take_append_cons_drop, if_pos h, List.append_assoc]
  rfl
theorem bads_bad : ∀ x ∈ ([(0, 0), (-1, 5), (5, -1), (100001, 0), (0, 100001), (-3, 4)] : List Row), okG x = false := by decide
theorem refused_right_is {rows : List Row} (V : Val rows) {p : Pl} (hp : PI_ p) : Is (m__law_refused_right rows p) fun b => b.1 = true := by
  unfold m__law_refused_right
  have hl := V.len
  have hpos := V.pos
  simp only [un_ok, rLen_eq, bin_ok, rSub_eq, rng1_ok (n := 24 - (rows.length : Int)) (by omega), Res.bind_ok, pair_ok, mapR_okf]
  have lf : (rows ++ (rangeL 0 (24 - (rows.length : Int))).map fun k => (k, (1 : Int))).length = 24 := by
    rw [List.length_append, List.length_map, rangeL_length]
    omega
  have vf : ∀ x ∈ (rows ++ (rangeL 0 (24 - (rows.length : Int))).map fun k => (k, (1 : Int))), VG x := fun x hx => by
    rcases List.mem_append.mp hx with hx | hx
    · exact V.ok x hx
    · obtain ⟨k, hk, rfl⟩ := List.mem_map.mp hx
      have := mem_rangeL.mp hk
      exact ⟨this.1, by dsimp only; omega, by dsimp only; omega, by dsimp only; omega, by dsimp only; omega⟩
  rw [rCatR_ok (by rw [← List.length_append, lf]; decide)]
  generalize (rows ++ (rangeL 0 (24 - (rows.length : Int))).map fun k => (k, (1 : Int))) = full at lf vf
  have Vf : Val full := ⟨by omega, by omega, vf⟩
  obtain ⟨b, eb, hb, pb⟩ := take_ok (n := 6) hp (by decide) (by decide)
  obtain ⟨y, ey, hy⟩ := ix_get (xs := ([(0, 0), (-1, 5), (5, -1), (100001, 0), (0, 100001), (-3, 4)] : List Row)) hb.1 hb.2
  have yb := bads_bad y (List.mem_of_getElem? hy)
  obtain ⟨a, ea, ha, pa⟩ := take_ok (n := 24) pb (by decide) (by decide)
  obtain ⟨t, et, ht, pt⟩ := take_ok (n := 24) pa (by decide) (by decide)
  simp only [Res.bind_ok, rNeg_eq, pair_ok, consR_ok, binM_eq, liftM_ok, callM_ok, ea, eb, ey, someR_ok, slR_ok, bin_ok, rAdd_eq, un_ok, cut_lo ha.1, cut_hi (show 0 ≤ a.1 + 1 by omega), rng1_ok (n := 24) (by decide), mapR_okf]
  have t1 : (a.1 + 1).toNat = a.1.toNat + 1 := by omega
  have la : a.1.toNat < full.length := by omega
  rw [cat_ok (by rw [List.length_take]; omega) (by simp), bin_ok, cat_ok (by rw [List.length_append, List.length_take]; simp; omega) (by rw [List.length_drop]; omega), t1, put_eq la, Res.bind_ok]
  have lh : ((rangeL 0 24).map fun _ => ((1 : Int), (2 : Int))).length = 24 := by rw [List.length_map, rangeL_length]; rfl
  have hh : ∀ x ∈ (rangeL 0 24).map fun _ => ((1 : Int), (2 : Int)), x = (1, 2) := fun x hx => by
    obtain ⟨_, _, e⟩ := List.mem_map.mp hx
    exact e.symm
  generalize ((rangeL 0 24).map fun _ => ((1 : Int), (2 : Int))) = halves at lh hh
  simp only [slM_eq, liftM_ok, Res.bind_ok, unM_eq, callM_ok, et, cut_lo ht.1, rng1_ok (n := 3) (by decide)]
  have r0 : ∀ k, m__law_refused full halves k = .ok ("none", 0) := refused_ok Vf (by omega) (half_ok hh)
  have r1 : ∀ cs k, m__law_refused (full.set a.1.toNat y) cs k = .ok ("signals", a.1) := fun cs k => by
    have := refused_bad (rows := full.set a.1.toNat y) (j := a.1.toNat) (x := y) (by rw [List.length_set]; omega) (fun i z hi hz => by
      rw [List.getElem?_set, if_neg (by omega)] at hz
      exact vf z (List.mem_of_getElem? hz)) (by rw [List.getElem?_set, if_pos rfl, if_pos la]) yb cs k
    rw [this, show ((a.1.toNat : Nat) : Int) = a.1 by omega]
  have r3 : ∀ cs k, m__law_refused (full.set a.1.toNat y ++ [(0, 0)]) cs k = .ok ("many", 24) := refused_many (by rw [List.length_append, List.length_set, lf]; decide)
  have r4 : m__law_refused full (halves.take t.1.toNat) 0 = .ok ("unlike", 1) := refused_unlike Vf (by rw [List.length_take]; omega)
  have r5 : m__law_refused full (halves ++ [(1, 2)]) 0 = .ok ("unlike", 1) := refused_unlike Vf (by rw [List.length_append, lh, lf]; decide)
  rw [loopR_any (r := (false, t.2)) (p := fun _ => false) (fun k _ => ?_)]
  · rw [cat_ok (by omega) (by simp)]
    simp only [List.any_eq_true, Bool.false_eq_true, and_false, exists_false, if_false, Res.bind_ok, pair_ok, un_ok, r4, r5, bin_ok, eqR_eq, decide_true, andR_ok, Bool.and_self]
    rfl
  · rw [cat_ok (by rw [List.length_set]; omega) (by simp)]
    simp only [r0, refused_none, r1, r3, bin_ok, pair_ok, neR_eq, decide_true, Bool.not_true, orR_ok, Bool.or_self, ifR_ok, if_neg Bool.false_ne_true, un_ok]
theorem less_bn {a b : Nat} {x y : Ra} (hx : Bn a x) (hy : Bn b y) (h : a + b ≤ 100000) : m__law_less x y = .ok (decide (Lt x y)) := by
  unfold m__law_less
  simp only [un_ok, bin_ok, mulw hx.n hy.d h, mulw hy.n hx.d (by omega), rLt_eq, Res.bind_ok]
  rfl
theorem mxn_small {rows : List Row} (V : Val rows) {k : Int} (h0 : 0 ≤ k) (h1 : k < rows.length) {w : Int → Int → Ra} {q : Ra → Prop} (hw : ∀ a b, 0 ≤ a → a < b → b ≤ (rows.length : Int) → q (w a b)) {z0 z1 : Ra} (q0 : q z0) (q1 : q z1) : q (mxn rows.length k w z0 z1) :=
  maxF_pred q0 fun s hs => by
    have := mem_rangeL.mp hs
    exact inner_sm V (by omega) (by omega) hw q1
theorem law_true (ns : List Int) (hns : ns.length ≤ 63) : m_law ns = .ok true := by
  refine Is.eq ?_
  unfold m_law
  have p0 : PI_ (0, 0, 0, cut ns none (some 63)) := ⟨Int.le_refl _, Int.le_refl _⟩
  obtain ⟨r, er, V, pr⟩ := (groups_is p0).get
  have hlen := V.len
  have hpos := V.pos
  have P := V.pts
  obtain ⟨l, el, hd, hl1, hl2⟩ := (blocks_is V).get
  obtain ⟨c, ec, hc1, hc2⟩ := chances_is V el hd
  have sw : ∀ a b, 0 ≤ a → a < b → b ≤ (r.1.length : Int) → Sm (sh (Yr r.1) (Tr r.1) a b) := fun a b h0 h h1 => (V.bd h0 h h1).sm
  have sm0 : Sm (-1, 1) := ⟨by decide, by decide, by decide, by decide⟩
  have s2 : Sm (2, 1) := ⟨by decide, by decide, by decide, by decide⟩
  have cBd : ∀ x ∈ c, Bd x ∧ Ch x := fun x hx => by
    obtain ⟨k, hk⟩ := List.mem_iff_getElem?.mp hx
    have hk2 := (List.getElem?_eq_some_iff.mp hk).1
    obtain ⟨y, hy, h4, h5⟩ := hd.cover (k := (k : Int)) (by omega) (by omega)
    have := hc2 y hy k h4 h5
    rw [Int.toNat_natCast, hk] at this
    obtain ⟨a, b, d, _⟩ := hd.at P hy
    have bd := V.bd a b d
    rw [Option.some.inj this]
    exact ⟨red_bd bd, ch_red bd.sm⟩
  simp only [poolR_eq, Res.bind_ok, er, un_ok, rLen_eq, rng1_ok (n := (r.1.length : Int)) (by omega)]
  refine Is.bind (loopN_inv (fun i (z : List Ra) => z = c.take i) rfl fun i x z hx hz => ?_) fun z hz => ?_
  · have hx2 := rangeL_get hx
    have hx3 := mem_rangeL.mp (List.mem_of_getElem? hx)
    have hxi : x = (i : Int) := by omega
    subst hxi
    obtain ⟨y, hy, h4, h5⟩ := hd.cover (k := (i : Int)) (by omega) (by omega)
    obtain ⟨a, b, d, _⟩ := hd.at P hy
    have bd := V.bd a b d
    have e := hc2 y hy i h4 h5
    rw [Int.toNat_natCast] at e
    obtain ⟨eq, _⟩ := mxn_eq P hd hy h4 h5 (sh_wt V) (z0 := (-1, 1)) (z1 := (2, 1)) (by decide) (by decide) (fun z => by
      have := bd.a
      have := bd.c
      unfold Lt at z
      dsimp only at z
      omega) (fun z => by
      have := bd.b
      have := bd.c
      unfold Lt at z
      dsimp only at z
      omega)
    have sm := mxn_small V hx3.1 hx3.2 sw sm0 s2
    have er2 : red (mxn r.1.length i (sh (Yr r.1) (Tr r.1)) (-1, 1) (2, 1)) = red (sh (Yr r.1) (Tr r.1) y.1 y.2) := lw_eq (ch_red sm).1.p (ch_red bd.sm).1.p (ch_red sm).2 (ch_red bd.sm).2 (by
      rw [vr_red sm.p, vr_red bd.c]
      exact (eqv_vr sm.p bd.c).mp eq)
    have lz : z.length ≤ 24 := by rw [hz, List.length_take]; omega
    rw [pair_ok, un_ok, chance_eq V hx3.1 hx3.2, Res.bind_ok, pair_ok, un_ok, lowest_eq sm, Res.bind_ok, push_ok (by omega), er2]
    show z ++ [_] = c.take (i + 1)
    rw [hz, List.take_add_one, e]
    rfl
  have hz : z = c := by
    rw [hz, rangeL_length, List.take_of_length_le (by omega)]
  subst hz
  have hcH : ∀ x ∈ z, Ch x := fun x hx => (cBd x hx).2
  obtain ⟨lt, elt, vlt, blt, _⟩ := loss_is V hc1 hcH
  simp only [pair_ok, un_ok, told_ok V hc1 hcH, notR_eq, Bool.not_true, ifR_ok, if_neg Bool.false_ne_true, elt, Res.bind_ok, rng1_ok (n := 5) (by decide)]
  refine Is.bind (loopR_inv (J := PI_) pr fun x y hx hy => ?_) ?_
  · obtain ⟨o, eo, lo, ho, po⟩ := (ascending_is V hc1 hcH hy).get
    obtain ⟨nv, env, hnv⟩ := never_is (q := o.1) (by omega) ho
    obtain ⟨lq, elq, vlq, blq, _⟩ := loss_is V lo ho
    simp only [liftM_ok, callM_eq, Res.bind_ok, eo, told_ok V lo ho, un_ok, notR_eq, Bool.not_true, ifR_ok, if_neg Bool.false_ne_true, env, bin_ok, neR_eq, pair_ok, elq, less_bn blt blq (by decide), andR_ok]
    have key : (nv && (!decide (o.1 = z) && !decide (Lt lt lq))) = false := by
      cases nv with
      | false => rfl
      | true =>
        by_cases e : o.1 = z
        · rw [decide_eq_true e]
          rfl
        · have ne : ∃ k : Nat, k < r.1.length ∧ vq o.1 k ≠ vq z k := by
            refine Classical.byContradiction fun hno => e (List.ext_getElem? fun k => ?_)
            by_cases hk : k < r.1.length
            · have a := get_ch ho (k := k) (by omega)
              have b := get_ch hcH (k := k) (by omega)
              have q : vq o.1 k = vq z k := Classical.byContradiction fun h => hno ⟨k, hk, h⟩
              rw [a.1, b.1, lw_eq a.2.1.p b.2.1.p a.2.2 b.2.2 q]
            · rw [List.getElem?_eq_none (by omega), List.getElem?_eq_none (by omega)]
          have bl := best_loss V hd hc2 (fun k hk => hnv rfl k (by omega)) ne
          have w := (wh_bd V).1
          have pw : (0 : Rat) < (Wh r.1 : Int) := Rat.intCast_pos.mpr w
          have : Lt lt lq := by
            rw [lt_vr blt.p blq.p, vlt, vlq, Rat.div_lt_iff pw]
            have := ne0 w
            rw [show Lo r.1 o.1 / ((Wh r.1 : Int) : Rat) * ((Wh r.1 : Int) : Rat) = Lo r.1 o.1 by grind]
            exact bl
          rw [decide_eq_true this]
          simp
    rw [key, if_neg Bool.false_ne_true]
    exact ⟨o.2, rfl, po⟩
  rintro o ⟨y, rfl, hy⟩
  dsimp only
  obtain ⟨d, ed, ld, hdr, pd⟩ := (mapM_is (f := fun (x_217 : (Int × Int)) => (m__law_drawn_chance ())) (xs := r.1) (J := PI_) (B := Ch) hy fun x y _ hy => drawn_is hy).get
  simp only [ifMR_eq, unM_eq, pairM_eq, liftM_ok, Res.bind_ok, ed, told_ok V ld hdr, notR_eq, Bool.not_true, if_neg Bool.false_ne_true, rng1_ok (n := 3) (by decide)]
  refine Is.bind (loopR_inv (J := PI_) pd fun x y hx hy => ?_) ?_
  · obtain ⟨o, eo, h1, h2, po⟩ := (cost_is V hc1 (fun x hx => (cBd x hx).1) hy).get
    simp only [callM_eq, liftM_ok, Res.bind_ok, eo, un_ok, pair_ok, starts_ok V hd ec hc1 hc2 h1 h2, notR_eq, Bool.not_true, ifR_ok, if_neg Bool.false_ne_true]
    exact ⟨o.2, rfl, po⟩
  rintro o ⟨y, rfl, hy⟩
  dsimp only
  obtain ⟨w, ew, hw⟩ := (refused_right_is V hy).get
  simp only [callM_eq, liftM_ok, Res.bind_ok, ew]
  exact hw

end K85
set_option maxHeartbeats 0
namespace K85
open PySem PySem.Spec PyProof.Rows L2 Sd
def dd0 : He.DefD := ⟨("ratio", none), "ratio", "ratio", defArgs s_ratio, defBody s_ratio, defScope s_ratio, [], []⟩
def dd1 : He.DefD := ⟨("plus", none), "plus", "plus", defArgs s_plus, defBody s_plus, defScope s_plus, [], []⟩
def dd2 : He.DefD := ⟨("minus", none), "minus", "minus", defArgs s_minus, defBody s_minus, defScope s_minus, [], []⟩
def dd3 : He.DefD := ⟨("times", none), "times", "times", defArgs s_times, defBody s_times, defScope s_times, [], []⟩
def dd4 : He.DefD := ⟨("over", none), "over", "over", defArgs s_over, defBody s_over, defScope s_over, [], []⟩
def dd5 : He.DefD := ⟨("compare", none), "compare", "compare", defArgs s_compare, defBody s_compare, defScope s_compare, [], []⟩
def dd6 : He.DefD := ⟨("total", none), "total", "total", defArgs s_total, defBody s_total, defScope s_total, [], []⟩
def dd7 : He.DefD := ⟨("are_counts", none), "are_counts", "are_counts", defArgs s_are_counts, defBody s_are_counts, defScope s_are_counts, [], []⟩
def dd8 : He.DefD := ⟨("check_groups", none), "check_groups", "check_groups", defArgs s_check_groups, defBody s_check_groups, defScope s_check_groups, [], []⟩
def dd9 : He.DefD := ⟨("stretch_share", none), "stretch_share", "stretch_share", defArgs s_stretch_share, defBody s_stretch_share, defScope s_stretch_share, [], []⟩
def dd10 : He.DefD := ⟨("blocks_of", none), "blocks_of", "blocks_of", defArgs s_blocks_of, defBody s_blocks_of, defScope s_blocks_of, [], []⟩
def dd11 : He.DefD := ⟨("rising_chances", none), "rising_chances", "rising_chances", defArgs s_rising_chances, defBody s_rising_chances, defScope s_rising_chances, [], []⟩
def dd12 : He.DefD := ⟨("mean_loss", none), "mean_loss", "mean_loss", defArgs s_mean_loss, defBody s_mean_loss, defScope s_mean_loss, [], []⟩
def dd13 : He.DefD := ⟨("threshold_expense", none), "threshold_expense", "threshold_expense", defArgs s_threshold_expense, defBody s_threshold_expense, defScope s_threshold_expense, [], []⟩
def dd14 : He.DefD := ⟨("best_start", none), "best_start", "best_start", defArgs s_best_start, defBody s_best_start, defScope s_best_start, [], []⟩
def dd15 : He.DefD := ⟨("_law_mix", none), "_law_mix", "_law_mix", defArgs s__law_mix, defBody s__law_mix, defScope s__law_mix, [], []⟩
def dd16 : He.DefD := ⟨("_law_pool", none), "_law_pool", "_law_pool", defArgs s__law_pool, defBody s__law_pool, defScope s__law_pool, [], []⟩
def dd17 : He.DefD := ⟨("_law_fill", none), "_law_fill", "_law_fill", defArgs s__law_fill, defBody s__law_fill, defScope s__law_fill, [], []⟩
def dd18 : He.DefD := ⟨("_law_take", none), "_law_take", "_law_take", defArgs s__law_take, defBody s__law_take, defScope s__law_take, [], []⟩
def dd19 : He.DefD := ⟨("_law_from", none), "_law_from", "_law_from", defArgs s__law_from, defBody s__law_from, defScope s__law_from, [], []⟩
def dd20 : He.DefD := ⟨("_law_groups", none), "_law_groups", "_law_groups", defArgs s__law_groups, defBody s__law_groups, defScope s__law_groups, [], []⟩
def dd21 : He.DefD := ⟨("_law_share", none), "_law_share", "_law_share", defArgs s__law_share, defBody s__law_share, defScope s__law_share, [], []⟩
def dd22 : He.DefD := ⟨("_law_less", none), "_law_less", "_law_less", defArgs s__law_less, defBody s__law_less, defScope s__law_less, [], []⟩
def dd23 : He.DefD := ⟨("_law_chance", none), "_law_chance", "_law_chance", defArgs s__law_chance, defBody s__law_chance, defScope s__law_chance, [], []⟩
def dd24 : He.DefD := ⟨("_law_is_int", none), "_law_is_int", "_law_is_int", defArgs s__law_is_int, defBody s__law_is_int, defScope s__law_is_int, [], []⟩
def dd25 : He.DefD := ⟨("_law_gcd", none), "_law_gcd", "_law_gcd", defArgs s__law_gcd, defBody s__law_gcd, defScope s__law_gcd, [], []⟩
def dd26 : He.DefD := ⟨("_law_is_ratio", none), "_law_is_ratio", "_law_is_ratio", defArgs s__law_is_ratio, defBody s__law_is_ratio, defScope s__law_is_ratio, [], []⟩
def dd27 : He.DefD := ⟨("_law_lowest", none), "_law_lowest", "_law_lowest", defArgs s__law_lowest, defBody s__law_lowest, defScope s__law_lowest, [], []⟩
def dd28 : He.DefD := ⟨("_law_loss", none), "_law_loss", "_law_loss", defArgs s__law_loss, defBody s__law_loss, defScope s__law_loss, [], []⟩
def dd29 : He.DefD := ⟨("_law_drawn_chance", none), "_law_drawn_chance", "_law_drawn_chance", defArgs s__law_drawn_chance, defBody s__law_drawn_chance, defScope s__law_drawn_chance, [], []⟩
def dd30 : He.DefD := ⟨("_law_ascending", none), "_law_ascending", "_law_ascending", defArgs s__law_ascending, defBody s__law_ascending, defScope s__law_ascending, [], []⟩
def dd31 : He.DefD := ⟨("_law_never_descends", none), "_law_never_descends", "_law_never_descends", defArgs s__law_never_descends, defBody s__law_never_descends, defScope s__law_never_descends, [], []⟩
def dd32 : He.DefD := ⟨("_law_loss_told", none), "_law_loss_told", "_law_loss_told", defArgs s__law_loss_told, defBody s__law_loss_told, defScope s__law_loss_told, [], []⟩
def dd33 : He.DefD := ⟨("_law_cost_and_loss", none), "_law_cost_and_loss", "_law_cost_and_loss", defArgs s__law_cost_and_loss, defBody s__law_cost_and_loss, defScope s__law_cost_and_loss, [], []⟩
def dd34 : He.DefD := ⟨("_law_starts_told", none), "_law_starts_told", "_law_starts_told", defArgs s__law_starts_told, defBody s__law_starts_told, defScope s__law_starts_told, [], []⟩
def dd35 : He.DefD := ⟨("_law_refused", none), "_law_refused", "_law_refused", defArgs s__law_refused, defBody s__law_refused, defScope s__law_refused, [], []⟩
def dd36 : He.DefD := ⟨("_law_refused_right", none), "_law_refused_right", "_law_refused_right", defArgs s__law_refused_right, defBody s__law_refused_right, defScope s__law_refused_right, [], []⟩
def dd37 : He.DefD := ⟨("law", none), "law", "law", defArgs s_law, defBody s_law, defScope s_law, [], []⟩
def dd38 : He.DefD := ⟨("DeskError", some "__init__"), "__init__", "DeskError.__init__", defArgs s_err, defBody s_err, defScope s_err, [.int 0], []⟩
def dfs : List He.DefD := [dd0, dd1, dd2, dd3, dd4, dd5, dd6, dd7, dd8, dd9, dd10, dd11, dd12, dd13, dd14, dd15, dd16, dd17, dd18, dd19, dd20, dd21, dd22, dd23, dd24, dd25, dd26, dd27, dd28, dd29, dd30, dd31, dd32, dd33, dd34, dd35, dd36, dd37, dd38]
def fas : List He.Fa := [.glo "ratio", .glo "plus", .glo "minus", .glo "times", .glo "over", .glo "compare", .glo "total", .glo "are_counts", .glo "check_groups", .glo "stretch_share", .glo "blocks_of", .glo "rising_chances", .glo "mean_loss", .glo "threshold_expense", .glo "best_start", .glo "_law_mix", .glo "_law_pool", .glo "_law_fill", .glo "_law_take", .glo "_law_from", .glo "_law_groups", .glo "_law_share", .glo "_law_less", .glo "_law_chance", .glo "_law_is_int", .glo "_law_gcd", .glo "_law_is_ratio", .glo "_law_lowest", .glo "_law_loss", .glo "_law_drawn_chance", .glo "_law_ascending", .glo "_law_never_descends", .glo "_law_loss_told", .glo "_law_cost_and_loss", .glo "_law_starts_told", .glo "_law_refused", .glo "_law_refused_right", .glo "law", .free "bool", .free "enumerate", .free "int", .free "isinstance", .free "len", .free "list", .free "min", .free "range", .free "sorted", .free "sum", .free "tuple", .free "zip", .int "MOST_CASES" (100000), .int "MOST_GROUPS" (24), .glo "ONE", .glo "ZERO"]
def exB (K : PySem.W.Frag) : Bool := (errsB [.DeskError, .TooMany, .BadRatio, .BadSignals, .Unlike] K) && ((He.eqO (PySem.W.nsIn K mainGlobals "gcd") (some (some (.builtin "math.gcd")))) && ((He.tupB K "ONE" [.int (1), .int (1)]) && (He.tupB K "ZERO" [.int (0), .int (1)])))
abbrev R : PySem.W.OpenRow := PySem.W.OpenLaw.row PySem.Challenge.rw_stormdesk_k85_losses_and_thresholds
abbrev hk : PySem.W.Hook := He.hookX 6 fas dfs [] [] exB
def ob (s : PySem.W.SharedT) : He.AlX := He.obsX 6 fas dfs [] [] exB (HandSHeadRun.getT s)
theorem ob_eq (s : PySem.W.SharedT) : ob s = hk.obs s.abs := He.obsX_eq (HandSHeadRun.getT_eq s)
def lo0 : List PySem.Str := ["gcd", "DeskError", "TooMany", "BadRatio", "BadSignals", "Unlike", "ZERO", "ONE", "ratio", "plus", "minus", "times", "over", "compare", "total", "MOST_CASES", "are_counts", "MOST_GROUPS", "check_groups", "stretch_share", "blocks_of", "rising_chances", "mean_loss", "threshold_expense", "best_start", "_law_mix", "_law_pool", "_law_fill", "_law_take", "_law_from"]
def lo1 : List PySem.Str := ["_law_groups", "_law_share", "_law_less", "_law_chance", "_law_is_int", "_law_gcd", "_law_is_ratio", "_law_lowest", "_law_loss", "_law_drawn_chance", "_law_ascending", "_law_never_descends", "_law_loss_told", "_law_cost_and_loss", "_law_starts_told", "_law_refused", "_law_refused_right"]
abbrev lo : List PySem.Str := lo0 ++ lo1
theorem hd_run (w : World) : HandSHeadRun.RunEqI R (PySem.W.view R.prog [0, 52]) hk ob 20000 lo w := by
  unfold HandSHeadRun.RunEqI
  kernel_rfl
theorem mk {K : PySem.W.Frag} {w : World} {h : Heap} {mg : Str → Option Value} (X : K.In h) (G : h.Ns mainGlobals mg) (c : He.SaysX fas dfs [] [] exB w h K) : ∃ T : Tx K mg, T.f_law = He.ga K "law" := by
  obtain ⟨d0, F0⟩ := c.t.d.def_ 0 (d := dd0) rfl
  obtain ⟨d1, F1⟩ := c.t.d.def_ 1 (d := dd1) rfl
  obtain ⟨d2, F2⟩ := c.t.d.def_ 2 (d := dd2) rfl
  obtain ⟨d3, F3⟩ := c.t.d.def_ 3 (d := dd3) rfl
  obtain ⟨d4, F4⟩ := c.t.d.def_ 4 (d := dd4) rfl
  obtain ⟨d5, F5⟩ := c.t.d.def_ 5 (d := dd5) rfl
  obtain ⟨d6, F6⟩ := c.t.d.def_ 6 (d := dd6) rfl
  obtain ⟨d7, F7⟩ := c.t.d.def_ 7 (d := dd7) rfl
  obtain ⟨d8, F8⟩ := c.t.d.def_ 8 (d := dd8) rfl
  obtain ⟨d9, F9⟩ := c.t.d.def_ 9 (d := dd9) rfl
  obtain ⟨d10, F10⟩ := c.t.d.def_ 10 (d := dd10) rfl
  obtain ⟨d11, F11⟩ := c.t.d.def_ 11 (d := dd11) rfl
  obtain ⟨d12, F12⟩ := c.t.d.def_ 12 (d := dd12) rfl
  obtain ⟨d13, F13⟩ := c.t.d.def_ 13 (d := dd13) rfl
  obtain ⟨d14, F14⟩ := c.t.d.def_ 14 (d := dd14) rfl
  obtain ⟨d15, F15⟩ := c.t.d.def_ 15 (d := dd15) rfl
  obtain ⟨d16, F16⟩ := c.t.d.def_ 16 (d := dd16) rfl
  obtain ⟨d17, F17⟩ := c.t.d.def_ 17 (d := dd17) rfl
  obtain ⟨d18, F18⟩ := c.t.d.def_ 18 (d := dd18) rfl
  obtain ⟨d19, F19⟩ := c.t.d.def_ 19 (d := dd19) rfl
  obtain ⟨d20, F20⟩ := c.t.d.def_ 20 (d := dd20) rfl
  obtain ⟨d21, F21⟩ := c.t.d.def_ 21 (d := dd21) rfl
  obtain ⟨d22, F22⟩ := c.t.d.def_ 22 (d := dd22) rfl
  obtain ⟨d23, F23⟩ := c.t.d.def_ 23 (d := dd23) rfl
  obtain ⟨d24, F24⟩ := c.t.d.def_ 24 (d := dd24) rfl
  obtain ⟨d25, F25⟩ := c.t.d.def_ 25 (d := dd25) rfl
  obtain ⟨d26, F26⟩ := c.t.d.def_ 26 (d := dd26) rfl
  obtain ⟨d27, F27⟩ := c.t.d.def_ 27 (d := dd27) rfl
  obtain ⟨d28, F28⟩ := c.t.d.def_ 28 (d := dd28) rfl
  obtain ⟨d29, F29⟩ := c.t.d.def_ 29 (d := dd29) rfl
  obtain ⟨d30, F30⟩ := c.t.d.def_ 30 (d := dd30) rfl
  obtain ⟨d31, F31⟩ := c.t.d.def_ 31 (d := dd31) rfl
  obtain ⟨d32, F32⟩ := c.t.d.def_ 32 (d := dd32) rfl
  obtain ⟨d33, F33⟩ := c.t.d.def_ 33 (d := dd33) rfl
  obtain ⟨d34, F34⟩ := c.t.d.def_ 34 (d := dd34) rfl
  obtain ⟨d35, F35⟩ := c.t.d.def_ 35 (d := dd35) rfl
  obtain ⟨d36, F36⟩ := c.t.d.def_ 36 (d := dd36) rfl
  obtain ⟨d37, F37⟩ := c.t.d.def_ 37 (d := dd37) rfl
  obtain ⟨x0, z0⟩ := Bool.and_eq_true_iff.mp (show exB K = true from c.more)
  obtain ⟨x1, z1⟩ := Bool.and_eq_true_iff.mp z0
  obtain ⟨x2, z2⟩ := Bool.and_eq_true_iff.mp z1
  have x3 := z2
  obtain ⟨d38, F38⟩ := c.t.d.def_ 38 (d := dd38) rfl
  obtain ⟨e1, e2, e3⟩ := errsB_ok X G (show errsB [.DeskError, .TooMany, .BadRatio, .BadSignals, .Unlike] K = true from x0)
  exact ⟨{ f_ratio := He.ga K "ratio", d_ratio := d0, F_ratio := F0, g_ratio := He.glo_ok X G (c.t.d.fact 0 (f := .glo "ratio") rfl), f_plus := He.ga K "plus", d_plus := d1, F_plus := F1, g_plus := He.glo_ok X G (c.t.d.fact 1 (f := .glo "plus") rfl), f_minus := He.ga K "minus", d_minus := d2, F_minus := F2, g_minus := He.glo_ok X G (c.t.d.fact 2 (f := .glo "minus") rfl), f_times := He.ga K "times", d_times := d3, F_times := F3, g_times := He.glo_ok X G (c.t.d.fact 3 (f := .glo "times") rfl), f_over := He.ga K "over", d_over := d4, F_over := F4, g_over := He.glo_ok X G (c.t.d.fact 4 (f := .glo "over") rfl), f_compare := He.ga K "compare", d_compare := d5, F_compare := F5, g_compare := He.glo_ok X G (c.t.d.fact 5 (f := .glo "compare") rfl), f_total := He.ga K "total", d_total := d6, F_total := F6, g_total := He.glo_ok X G (c.t.d.fact 6 (f := .glo "total") rfl), f_are_counts := He.ga K "are_counts", d_are_counts := d7, F_are_counts := F7, g_are_counts := He.glo_ok X G (c.t.d.fact 7 (f := .glo "are_counts") rfl), f_check_groups := He.ga K "check_groups", d_check_groups := d8, F_check_groups := F8, g_check_groups := He.glo_ok X G (c.t.d.fact 8 (f := .glo "check_groups") rfl), f_stretch_share := He.ga K "stretch_share", d_stretch_share := d9, F_stretch_share := F9, g_stretch_share := He.glo_ok X G (c.t.d.fact 9 (f := .glo "stretch_share") rfl), f_blocks_of := He.ga K "blocks_of", d_blocks_of := d10, F_blocks_of := F10, g_blocks_of := He.glo_ok X G (c.t.d.fact 10 (f := .glo "blocks_of") rfl), f_rising_chances := He.ga K "rising_chances", d_rising_chances := d11, F_rising_chances := F11, g_rising_chances := He.glo_ok X G (c.t.d.fact 11 (f := .glo "rising_chances") rfl), f_mean_loss := He.ga K "mean_loss", d_mean_loss := d12, F_mean_loss := F12, g_mean_loss := He.glo_ok X G (c.t.d.fact 12 (f := .glo "mean_loss") rfl), f_threshold_expense := He.ga K "threshold_expense", d_threshold_expense := d13, F_threshold_expense := F13, g_threshold_expense := He.glo_ok X G (c.t.d.fact 13 (f := .glo "threshold_expense") rfl), f_best_start := He.ga K "best_start", d_best_start := d14, F_best_start := F14, g_best_start := He.glo_ok X G (c.t.d.fact 14 (f := .glo "best_start") rfl), f__law_mix := He.ga K "_law_mix", d__law_mix := d15, F__law_mix := F15, g__law_mix := He.glo_ok X G (c.t.d.fact 15 (f := .glo "_law_mix") rfl), f__law_pool := He.ga K "_law_pool", d__law_pool := d16, F__law_pool := F16, g__law_pool := He.glo_ok X G (c.t.d.fact 16 (f := .glo "_law_pool") rfl), f__law_fill := He.ga K "_law_fill", d__law_fill := d17, F__law_fill := F17, g__law_fill := He.glo_ok X G (c.t.d.fact 17 (f := .glo "_law_fill") rfl), f__law_take := He.ga K "_law_take", d__law_take := d18, F__law_take := F18, g__law_take := He.glo_ok X G (c.t.d.fact 18 (f := .glo "_law_take") rfl), f__law_from := He.ga K "_law_from", d__law_from := d19, F__law_from := F19, g__law_from := He.glo_ok X G (c.t.d.fact 19 (f := .glo "_law_from") rfl), f__law_groups := He.ga K "_law_groups", d__law_groups := d20, F__law_groups := F20, g__law_groups := He.glo_ok X G (c.t.d.fact 20 (f := .glo "_law_groups") rfl), f__law_share := He.ga K "_law_share", d__law_share := d21, F__law_share := F21, g__law_share := He.glo_ok X G (c.t.d.fact 21 (f := .glo "_law_share") rfl), f__law_less := He.ga K "_law_less", d__law_less := d22, F__law_less := F22, g__law_less := He.glo_ok X G (c.t.d.fact 22 (f := .glo "_law_less") rfl), f__law_chance := He.ga K "_law_chance", d__law_chance := d23, F__law_chance := F23, g__law_chance := He.glo_ok X G (c.t.d.fact 23 (f := .glo "_law_chance") rfl), f__law_is_int := He.ga K "_law_is_int", d__law_is_int := d24, F__law_is_int := F24, g__law_is_int := He.glo_ok X G (c.t.d.fact 24 (f := .glo "_law_is_int") rfl), f__law_gcd := He.ga K "_law_gcd", d__law_gcd := d25, F__law_gcd := F25, g__law_gcd := He.glo_ok X G (c.t.d.fact 25 (f := .glo "_law_gcd") rfl), f__law_is_ratio := He.ga K "_law_is_ratio", d__law_is_ratio := d26, F__law_is_ratio := F26, g__law_is_ratio := He.glo_ok X G (c.t.d.fact 26 (f := .glo "_law_is_ratio") rfl), f__law_lowest := He.ga K "_law_lowest", d__law_lowest := d27, F__law_lowest := F27, g__law_lowest := He.glo_ok X G (c.t.d.fact 27 (f := .glo "_law_lowest") rfl), f__law_loss := He.ga K "_law_loss", d__law_loss := d28, F__law_loss := F28, g__law_loss := He.glo_ok X G (c.t.d.fact 28 (f := .glo "_law_loss") rfl), f__law_drawn_chance := He.ga K "_law_drawn_chance", d__law_drawn_chance := d29, F__law_drawn_chance := F29, g__law_drawn_chance := He.glo_ok X G (c.t.d.fact 29 (f := .glo "_law_drawn_chance") rfl), f__law_ascending := He.ga K "_law_ascending", d__law_ascending := d30, F__law_ascending := F30, g__law_ascending := He.glo_ok X G (c.t.d.fact 30 (f := .glo "_law_ascending") rfl), f__law_never_descends := He.ga K "_law_never_descends", d__law_never_descends := d31, F__law_never_descends := F31, g__law_never_descends := He.glo_ok X G (c.t.d.fact 31 (f := .glo "_law_never_descends") rfl), f__law_loss_told := He.ga K "_law_loss_told", d__law_loss_told := d32, F__law_loss_told := F32, g__law_loss_told := He.glo_ok X G (c.t.d.fact 32 (f := .glo "_law_loss_told") rfl), f__law_cost_and_loss := He.ga K "_law_cost_and_loss", d__law_cost_and_loss := d33, F__law_cost_and_loss := F33, g__law_cost_and_loss := He.glo_ok X G (c.t.d.fact 33 (f := .glo "_law_cost_and_loss") rfl), f__law_starts_told := He.ga K "_law_starts_told", d__law_starts_told := d34, F__law_starts_told := F34, g__law_starts_told := He.glo_ok X G (c.t.d.fact 34 (f := .glo "_law_starts_told") rfl), f__law_refused := He.ga K "_law_refused", d__law_refused := d35, F__law_refused := F35, g__law_refused := He.glo_ok X G (c.t.d.fact 35 (f := .glo "_law_refused") rfl), f__law_refused_right := He.ga K "_law_refused_right", d__law_refused_right := d36, F__law_refused_right := F36, g__law_refused_right := He.glo_ok X G (c.t.d.fact 36 (f := .glo "_law_refused_right") rfl), f_law := He.ga K "law", d_law := d37, F_law := F37, g_law := He.glo_ok X G (c.t.d.fact 37 (f := .glo "law") rfl), gb_bool := He.free_ok X G (c.t.d.fact 38 (f := .free "bool") rfl), gb_enumerate := He.free_ok X G (c.t.d.fact 39 (f := .free "enumerate") rfl), gb_int := He.free_ok X G (c.t.d.fact 40 (f := .free "int") rfl), gb_isinstance := He.free_ok X G (c.t.d.fact 41 (f := .free "isinstance") rfl), gb_len := He.free_ok X G (c.t.d.fact 42 (f := .free "len") rfl), gb_list := He.free_ok X G (c.t.d.fact 43 (f := .free "list") rfl), gb_min := He.free_ok X G (c.t.d.fact 44 (f := .free "min") rfl), gb_range := He.free_ok X G (c.t.d.fact 45 (f := .free "range") rfl), gb_sorted := He.free_ok X G (c.t.d.fact 46 (f := .free "sorted") rfl), gb_sum := He.free_ok X G (c.t.d.fact 47 (f := .free "sum") rfl), gb_tuple := He.free_ok X G (c.t.d.fact 48 (f := .free "tuple") rfl), gb_zip := He.free_ok X G (c.t.d.fact 49 (f := .free "zip") rfl), gi_MOST_CASES := He.int_ok X G (c.t.d.fact 50 (f := .int "MOST_CASES" (100000)) rfl), gi_MOST_GROUPS := He.int_ok X G (c.t.d.fact 51 (f := .int "MOST_GROUPS" (24)) rfl), gt_ONE := ⟨He.glo_ok X G (c.t.d.fact 52 (f := .glo "ONE") rfl), fun H => He.tupB_ok (vs := [.int (1), .int (1)]) x2 H⟩, gt_ZERO := ⟨He.glo_ok X G (c.t.d.fact 53 (f := .glo "ZERO") rfl), fun H => He.tupB_ok (vs := [.int (0), .int (1)]) x3 H⟩, gm_gcd := PySem.W.mg_of X G (He.eqO_ok x1), f_err := He.fAd K ("DeskError", some "__init__"), d_err := d38, F_err := F38, xs := fun c h => e1 c (of_decide_eq_true h), ki := fun c b h h2 => e2 c b (of_decide_eq_true h) (of_decide_eq_true h2), ex := fun c b h h2 => e3 c b (of_decide_eq_true h) (of_decide_eq_true h2) }, rfl⟩
end K85
open PySem PySem.W PySem.Calls PyProof.Rows
theorem PySem.Challenge.cw_stormdesk_k85_losses_and_thresholds_holds : PySem.Challenge.rw_stormdesk_k85_losses_and_thresholds.Holds := by
  w_on; o_law
  refine HandSHeadRun.head_imp (r := OpenLaw.row PySem.Challenge.rw_stormdesk_k85_losses_and_thresholds) (q := view (OpenLaw.row PySem.Challenge.rw_stormdesk_k85_losses_and_thresholds).prog [0, 52]) (H := K85.hk) (ob := K85.ob) (M := 20000) (loose := K85.lo) (d := HandSHeadRun.topDef (OpenLaw.row PySem.Challenge.rw_stormdesk_k85_losses_and_thresholds).prog 52) (kwd := []) K85.ob_eq
    K85.hd_run (by kernel_rfl) (by kernel_rfl) (by kernel_rfl) (by rfl) (by first | assumption | decide +kernel) (by decide +kernel) ⟨rfl, rfl, rfl, rfl, rfl, by decide +kernel⟩ ?hw ?hc
  case hw => w_witness2
  case hc =>
    refine L2.walk_ofE (l := PySem.Challenge.rw_stormdesk_k85_losses_and_thresholds) (n := 63) (k := 10) (x := "script") (CX := L2.CX0) rfl (by decide) (by kernel_rfl) ⟨rfl, by decide, by decide⟩ ?F (fun _ _ _ _ z => z)
    intro w mg fa h Y G hmg0
    obtain ⟨K, KX, c⟩ := Y
    have hmg : mg ("law" : PySem.Str) = some (.ref fa) := by
      have e : (HandSHeadRun.topDef (OpenLaw.row PySem.Challenge.rw_stormdesk_k85_losses_and_thresholds).prog 52).name = ("law" : PySem.Str) := by kernel_rfl
      rw [← e]
      exact hmg0
    obtain ⟨T, hT⟩ := K85.mk KX G c
    have e := hmg.symm.trans T.g_law
    have e2 : fa = T.f_law := by
      have e3 := Option.some.inj e
      injection e3
    subst e2
    have b := L2.FunD.bindsA (ps := ["script"]) T.F_law fun _ _ _ _ _ _ us hl => match us, hl with | [_], _ => rfl
    exact ⟨K, T.d_law, Sd.spLaw K K85.m_law, KX, fun s v => b s [v] rfl, fun H a ns hl _ hS => ⟨a, ns, rfl, hS, Nat.le_trans hl (by decide), by rw [K85.law_true ns hl]; exact fun v H' hv => hv⟩, fun base _ _ => K85.ok_law T⟩

