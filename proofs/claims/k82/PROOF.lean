import PyProof.Rows.All
import Wide.All
import OpenK.AllK
import Wide.FinOn
import HandS.ForMost
import HandS.ForExc
import HandS.Walk
import HandS.Sort
import HandS.SortRule
import HandS.SortInts
import HandS.Flow
import HandS.IsInst
import HandS.Gcd
import HandS.ExcInit
import HandS.ExcIs
import HandS.ExcField
import HandS.TryOnly
import HandS.Defaults
import HandS.TupAny
import HandS.Conv
import HandS.Style
import HandS.HeadHook4
import HandS.HeadEnd
import HandS.Head2
import HandS.Evl
import PySem.Challenge.RW_stormdesk_k82_whole_plan_or_crowd
set_option Elab.async false
set_option linter.all false
set_option maxRecDepth 100000
set_option maxHeartbeats 4000000
namespace Sd
open PySem L2
/-! ### results -/
inductive Ec where
  | DeskError | TooMany | BadName | BadRatio | BadSpan | BadLine | BadWorld | BadArea | BadGauge | BadRun | BadTable | BadSignals | Unlike
  | BadPerson | BadCall | BadTree | BadRule | BadDeed | NoBulletin | BadPair | Unplayable
  deriving DecidableEq, Repr
inductive Res (α : Type) where
  | ok (a : α)
  | exc (c : Ec) (i : Int)
  | bad
namespace Res
variable {α β γ : Type}
def bind (m : Res α) (k : α → Res β) : Res β := match m with
  | .ok a => k a
  | .exc c i => .exc c i
  | .bad => .bad
@[simp] theorem bind_ok (a : α) (k : α → Res β) : (Res.ok a).bind k = k a := rfl
@[simp] theorem bind_exc (c : Ec) (i : Int) (k : α → Res β) : (Res.exc c i).bind k = .exc c i := rfl
@[simp] theorem bind_bad (k : α → Res β) : (Res.bad).bind k = .bad := rfl
@[simp] theorem bind_assoc (m : Res α) (k : α → Res β) (l : β → Res γ) : (m.bind k).bind l = m.bind fun a => (k a).bind l := by cases m <;> rfl
@[simp] theorem bind_id (m : Res α) : m.bind .ok = m := by cases m <;> rfl
end Res
/-- what is wanted of a result -/
def Post {α : Type} (m : Res α) (Q : α → Prop) (X : Ec → Int → Prop) : Prop := match m with
  | .ok a => Q a
  | .exc c i => X c i
  | .bad => False
section
variable {α β : Type} {m : Res α} {k : α → Res β} {Q Q' : α → Prop} {R : β → Prop} {X X' : Ec → Int → Prop}
theorem Post.bind (h : Post (m.bind k) R X) : Post m (fun a => Post (k a) R X) X := by
  cases m with
  | ok a => exact h
  | exc c i => exact h
  | bad => exact h
theorem Post.of_bind (h : Post m (fun a => Post (k a) R X) X) : Post (m.bind k) R X := by
  cases m with
  | ok a => exact h
  | exc c i => exact h
  | bad => exact h
theorem Post.mono (h : Post m Q X) (q : ∀ a, Q a → Q' a) (x : ∀ c i, X c i → X' c i) : Post m Q' X' := by
  cases m with
  | ok a => exact q a h
  | exc c i => exact x c i h
  | bad => exact h
theorem Post.and (h : Post m Q X) (h' : Post m Q' X) : Post m (fun a => Q a ∧ Q' a) X := by
  cases m with
  | ok a => exact ⟨h, h'⟩
  | exc c i => exact h
  | bad => exact h
end
/-! ### the heap: what is known for good (I), what may change (C) -/
abbrev Ex (H H' : Hp) : Prop := ∀ a o, H a = some o → H' a = some o
theorem Ex.refl (H : Hp) : Ex H H := fun _ _ h => h
theorem Ex.trans {H H1 H2 : Hp} (a : Ex H H1) (b : Ex H1 H2) : Ex H H2 := fun x o h => b x o (a x o h)
theorem Ex.new {H : Hp} {p : Addr} {o : HO} (h : H p = none) : Ex H (upd H p o) := fun a u e => by
  rw [upd_ne (ne_of_none e h)]
  exact e
structure St (I C H : Hp) : Prop where
  i : Ex I H
  c : Ex C H
  s : ∀ a, I a = none ∨ C a = none
theorem Ex.free {H H' : Hp} {p : Addr} (e : Ex H H') (h : H' p = none) : H p = none := by
  cases q : H p with
  | none => rfl
  | some o =>
    rw [e p o q] at h
    cases h
section
variable {I I' C C' H H' : Hp} {p : Addr} {o u : HO}
/-- a new object, known for good -/
theorem St.newI (s : St I C H) (h : H p = none) : St (upd I p o) C (upd H p o) := by
  refine ⟨fun a v e => ?_, fun a v e => ?_, fun a => ?_⟩
  · by_cases q : a = p
    · subst q
      rw [upd_same] at e ⊢
      exact e
    · rw [upd_ne q] at e ⊢
      exact s.i a v e
  · rw [upd_ne (ne_of_none (s.c a v e) h)]
    exact s.c a v e
  · by_cases q : a = p
    · subst q
      exact .inr (s.c.free h)
    · rw [upd_ne q]
      exact s.s a
/-- a new object that may change -/
theorem St.newC (s : St I C H) (h : H p = none) : St I (upd C p o) (upd H p o) := by
  refine ⟨fun a v e => ?_, fun a v e => ?_, fun a => ?_⟩
  · rw [upd_ne (ne_of_none (s.i a v e) h)]
    exact s.i a v e
  · by_cases q : a = p
    · subst q
      rw [upd_same] at e ⊢
      exact e
    · rw [upd_ne q] at e ⊢
      exact s.c a v e
  · by_cases q : a = p
    · subst q
      exact .inl (s.i.free h)
    · rw [upd_ne q]
      exact s.s a
/-- a cell changes -/
theorem St.set (s : St I C H) (h : C p = some u) : St I (upd C p o) (upd H p o) := by
  have hi : I p = none := (s.s p).elim id fun z => by
    rw [z] at h
    cases h
  refine ⟨fun a v e => ?_, fun a v e => ?_, fun a => ?_⟩
  · rw [upd_ne (ne_of_none e hi)]
    exact s.i a v e
  · by_cases q : a = p
    · subst q
      rw [upd_same] at e ⊢
      exact e
    · rw [upd_ne q] at e ⊢
      exact s.c a v e
  · by_cases q : a = p
    · subst q
      exact .inl hi
    · rw [upd_ne q]
      exact s.s a
/-- a cell is known for good from now on -/
theorem St.frz (s : St I C H) (h : C p = some o) : St (upd I p o) (fun a => if a = p then none else C a) H := by
  refine ⟨fun a v e => ?_, fun a v e => ?_, fun a => ?_⟩
  · by_cases q : a = p
    · subst q
      rw [upd_same] at e
      cases e
      exact s.c a o h
    · rw [upd_ne q] at e
      exact s.i a v e
  · by_cases q : a = p
    · rw [if_pos q] at e
      cases e
    · rw [if_neg q] at e
      exact s.c a v e
  · by_cases q : a = p
    · exact .inr (if_pos q)
    · rw [upd_ne q, if_neg q]
      exact s.s a
theorem St.less (s : St I C H) (e : Ex C' C) : St I C' H := ⟨s.i, e.trans s.c, fun a => (s.s a).imp id fun z => e.free z⟩
theorem St.freeI (s : St I C H) (h : C p = some u) : I p = none := (s.s p).elim id fun z => by
  rw [z] at h
  cases h
end
/-! ### representation -/
structure Rp (α : Type) where
  r : α → V → Hp → Hp → Prop
  mono : ∀ {a : α} {v : V} {I I' C C' : Hp}, Ex I I' → Ex C C' → r a v I C → r a v I' C'
/-- .. by what is known for good alone -/
class Im {α : Type} (R : Rp α) : Prop where
  im : ∀ {a : α} {v : V} {I C C' : Hp}, R.r a v I C → R.r a v I C'
theorem Rp.to {α : Type} (R : Rp α) [Im R] {a : α} {v : V} {I I' C C' : Hp} (e : Ex I I') (h : R.r a v I C) : R.r a v I' C' := Im.im (R.mono e (Ex.refl C) h)
/-- item by item -/
inductive A2 {α : Type} (f : α → V → Prop) : List α → List V → Prop where
  | nil : A2 f [] []
  | cons {x : α} {v : V} {xs : List α} {vs : List V} : f x v → A2 f xs vs → A2 f (x :: xs) (v :: vs)
section
variable {α β : Type} {f g : α → V → Prop} {xs ys : List α} {vs ws : List V}
theorem A2.imp (h : ∀ x v, f x v → g x v) : ∀ {xs : List α} {vs : List V}, A2 f xs vs → A2 g xs vs
  | _, _, .nil => .nil
  | _, _, .cons r t => .cons (h _ _ r) (A2.imp h t)
theorem A2.len : ∀ {xs : List α} {vs : List V}, A2 f xs vs → vs.length = xs.length
  | _, _, .nil => rfl
  | _, _, .cons _ t => by rw [List.length_cons, List.length_cons, A2.len t]
theorem A2.get : ∀ {xs : List α} {vs : List V} {i : Nat} {v : V}, A2 f xs vs → vs[i]? = some v → ∃ x, xs[i]? = some x ∧ f x v
  | _, _, _, _, .nil, e => by cases e
  | _, _, 0, _, .cons r _, e => ⟨_, rfl, by
    have e2 := Option.some.inj e
    rw [← e2]
    exact r⟩
  | _, _, i + 1, _, .cons _ t, e => A2.get (i := i) t e
theorem A2.get' : ∀ {xs : List α} {vs : List V} {i : Nat} {x : α}, A2 f xs vs → xs[i]? = some x → ∃ v, vs[i]? = some v ∧ f x v
  | _, _, _, _, .nil, e => by cases e
  | _, _, 0, _, .cons r _, e => ⟨_, rfl, by
    have e2 := Option.some.inj e
    rw [← e2]
    exact r⟩
  | _, _, i + 1, _, .cons _ t, e => A2.get' (i := i) t e
theorem A2.append : ∀ {xs : List α} {vs : List V} {ys : List α} {ws : List V}, A2 f xs vs → A2 f ys ws → A2 f (xs ++ ys) (vs ++ ws)
  | _, _, _, _, .nil, s => s
  | _, _, _, _, .cons r t, s => .cons r (A2.append t s)
theorem A2.take : ∀ {xs : List α} {vs : List V} (n : Nat), A2 f xs vs → A2 f (xs.take n) (vs.take n)
  | _, _, 0, _ => .nil
  | _, _, _ + 1, .nil => .nil
  | _, _, n + 1, .cons r t => .cons r (A2.take n t)
theorem A2.drop : ∀ {xs : List α} {vs : List V} (n : Nat), A2 f xs vs → A2 f (xs.drop n) (vs.drop n)
  | _, _, 0, r => r
  | _, _, _ + 1, .nil => .nil
  | _, _, n + 1, .cons _ t => A2.drop n t
theorem A2.set {x : α} {v : V} (r : f x v) : ∀ {xs : List α} {vs : List V} (i : Nat), A2 f xs vs → A2 f (xs.set i x) (vs.set i v)
  | _, _, _, .nil => .nil
  | _, _, 0, .cons _ t => .cons r t
  | _, _, i + 1, .cons q t => .cons q (A2.set r i t)
theorem A2.dropLast : ∀ {xs : List α} {vs : List V}, A2 f xs vs → A2 f xs.dropLast vs.dropLast
  | _, _, .nil => .nil
  | _, _, .cons _ .nil => .nil
  | _, _, .cons r (.cons q t) => .cons r (A2.dropLast (.cons q t))
theorem A2.one {x : α} {v : V} (h : f x v) : A2 f [x] [v] := .cons h .nil
/-- scalars: the values are a map -/
theorem A2.map_iff {h : α → V} (hf : ∀ x v, f x v → v = h x) : ∀ {xs : List α} {vs : List V}, A2 f xs vs → vs = xs.map h
  | _, _, .nil => rfl
  | _, _, .cons r t => by rw [List.map_cons, hf _ _ r, A2.map_iff hf t]
theorem A2.of_map {h : α → V} (hf : ∀ x, f x (h x)) : ∀ xs : List α, A2 f xs (xs.map h)
  | [] => .nil
  | x :: r => .cons (hf x) (A2.of_map hf r)
end
def pI : Rp Int := ⟨fun i v _ _ => v = .int i, fun _ _ h => h⟩
def pB : Rp Bool := ⟨fun b v _ _ => v = .bl b, fun _ _ h => h⟩
def pS : Rp Str := ⟨fun x v _ _ => v = .str x ∧ PyData.strOk x = true, fun _ _ h => h⟩
def pN : Rp Unit := ⟨fun _ v _ _ => v = .non, fun _ _ h => h⟩
instance : Im pI := ⟨fun h => h⟩
instance : Im pB := ⟨fun h => h⟩
instance : Im pS := ⟨fun h => h⟩
instance : Im pN := ⟨fun h => h⟩
def oR {α : Type} (R : Rp α) (I C : Hp) : Option α → V → Prop
  | none, v => v = .non
  | some a, v => R.r a v I C ∧ v ≠ .non
def pO {α : Type} (R : Rp α) : Rp (Option α) := ⟨fun o v I C => oR R I C o v, fun {a v I I' C C'} e e' h => by
  cases a with
  | none => exact h
  | some a => exact ⟨R.mono e e' h.1, h.2⟩⟩
instance {α : Type} {R : Rp α} [Im R] : Im (pO R) := ⟨fun {a v I C C'} h => by
  cases a with
  | none => exact h
  | some a => exact ⟨Im.im h.1, h.2⟩⟩
theorem ex_l {K : PySem.W.Frag} {H H' : Hp} {a : Addr} {xs : List V} (e : Ex H H') (h : SqL K H a xs) : SqL K H' a xs := by
  rcases h with (h | ⟨o, h⟩) | h
  · exact .inl (.inl (e a _ h))
  · exact .inl (.inr ⟨o, e a _ h⟩)
  · exact .inr h
theorem ex_t {K : PySem.W.Frag} {H H' : Hp} {a : Addr} {xs : List V} (e : Ex H H') (h : SqT K H a xs) : SqT K H' a xs := by
  rcases h with (h | ⟨o, h⟩) | h
  · exact .inl (.inl (e a _ h))
  · exact .inl (.inr ⟨o, e a _ h⟩)
  · exact .inr h
/-- the places of a row of values -/
structure Rt (α : Type) where
  r : α → List V → Hp → Hp → Prop
  mono : ∀ {a : α} {vs : List V} {I I' C C' : Hp}, Ex I I' → Ex C C' → r a vs I C → r a vs I' C'
  n : Nat
  len : ∀ {a : α} {vs : List V} {I C : Hp}, r a vs I C → vs.length = n
class It {α : Type} (T : Rt α) : Prop where
  im : ∀ {a : α} {vs : List V} {I C C' : Hp}, T.r a vs I C → T.r a vs I C'
def t1 {α : Type} (R : Rp α) : Rt α := ⟨fun a vs I C => ∃ v, vs = [v] ∧ R.r a v I C, fun e e' ⟨v, h1, h2⟩ => ⟨v, h1, R.mono e e' h2⟩, 1, fun ⟨_, h, _⟩ => by rw [h]; rfl⟩
def tc {α β : Type} (R : Rp α) (T : Rt β) : Rt (α × β) := ⟨fun p vs I C => ∃ v us, vs = v :: us ∧ R.r p.1 v I C ∧ T.r p.2 us I C, fun e e' ⟨v, us, h1, h2, h3⟩ => ⟨v, us, h1, R.mono e e' h2, T.mono e e' h3⟩, T.n + 1,
  fun ⟨_, _, h, _, h3⟩ => by rw [h, List.length_cons, T.len h3]⟩
instance {α : Type} {R : Rp α} [Im R] : It (t1 R) := ⟨fun ⟨v, h1, h2⟩ => ⟨v, h1, Im.im h2⟩⟩
instance {α β : Type} {R : Rp α} {T : Rt β} [Im R] [It T] : It (tc R T) := ⟨fun ⟨v, us, h1, h2, h3⟩ => ⟨v, us, h1, Im.im h2, It.im h3⟩⟩
section
variable (K : PySem.W.Frag) {α : Type}
/-- a list -/
def pL (R : Rp α) : Rp (List α) := ⟨fun xs v I C => ∃ a vs, v = .ref a ∧ I a = some (.lst vs) ∧ vs.length ≤ sizeLine ∧ A2 (fun x u => R.r x u I C) xs vs,
  fun e e' ⟨a, vs, h1, h2, h3, h4⟩ => ⟨a, vs, h1, e a _ h2, h3, h4.imp fun _ _ => R.mono e e'⟩⟩
/-- a tuple of any length -/
def pQ (R : Rp α) : Rp (List α) := ⟨fun xs v I C => ∃ a vs, v = .ref a ∧ SqT K I a vs ∧ vs.length ≤ sizeLine ∧ A2 (fun x u => R.r x u I C) xs vs,
  fun e e' ⟨a, vs, h1, h2, h3, h4⟩ => ⟨a, vs, h1, ex_t e h2, h3, h4.imp fun _ _ => R.mono e e'⟩⟩
/-- a list that is read: known for good, or a cell -/
def pV (R : Rp α) : Rp (List α) := ⟨fun xs v I C => ∃ a vs, v = .ref a ∧ (I a = some (.lst vs) ∨ C a = some (.lst vs)) ∧ vs.length ≤ sizeLine ∧ A2 (fun x u => R.r x u I C) xs vs,
  fun e e' ⟨a, vs, h1, h2, h3, h4⟩ => ⟨a, vs, h1, h2.imp (e a _) (e' a _), h3, h4.imp fun _ _ => R.mono e e'⟩⟩
/-- the script -/
def pW (R : Rp α) : Rp (List α) := ⟨fun xs v I C => ∃ a vs, v = .ref a ∧ SqL K I a vs ∧ vs.length ≤ sizeLine ∧ A2 (fun x u => R.r x u I C) xs vs,
  fun e e' ⟨a, vs, h1, h2, h3, h4⟩ => ⟨a, vs, h1, ex_l e h2, h3, h4.imp fun _ _ => R.mono e e'⟩⟩
/-- a tuple, a list, with fixed places -/
def pT (T : Rt α) : Rp α := ⟨fun x v I C => ∃ a vs, v = .ref a ∧ I a = some (.tup vs) ∧ T.r x vs I C, fun e e' ⟨a, vs, h1, h2, h3⟩ => ⟨a, vs, h1, e a _ h2, T.mono e e' h3⟩⟩
/-- a tuple that may stand in the written part -/
def pU (T : Rt α) : Rp α := ⟨fun x v I C => ∃ a vs, v = .ref a ∧ SqT K I a vs ∧ T.r x vs I C, fun e e' ⟨a, vs, h1, h2, h3⟩ => ⟨a, vs, h1, ex_t e h2, T.mono e e' h3⟩⟩
def pD (T : Rt α) : Rp α := ⟨fun x v I C => ∃ a vs, v = .ref a ∧ I a = some (.lst vs) ∧ T.r x vs I C, fun e e' ⟨a, vs, h1, h2, h3⟩ => ⟨a, vs, h1, e a _ h2, T.mono e e' h3⟩⟩
instance {T : Rt α} [It T] : Im (pU K T) := ⟨fun ⟨a, vs, h1, h2, h3⟩ => ⟨a, vs, h1, h2, It.im h3⟩⟩
instance {R : Rp α} [Im R] : Im (pW K R) := ⟨fun ⟨a, vs, h1, h2, h3, h4⟩ => ⟨a, vs, h1, h2, h3, h4.imp fun _ _ => Im.im⟩⟩
instance {R : Rp α} [Im R] : Im (pL R) := ⟨fun ⟨a, vs, h1, h2, h3, h4⟩ => ⟨a, vs, h1, h2, h3, h4.imp fun _ _ => Im.im⟩⟩
instance {R : Rp α} [Im R] : Im (pQ K R) := ⟨fun ⟨a, vs, h1, h2, h3, h4⟩ => ⟨a, vs, h1, h2, h3, h4.imp fun _ _ => Im.im⟩⟩
instance {T : Rt α} [It T] : Im (pT T) := ⟨fun ⟨a, vs, h1, h2, h3⟩ => ⟨a, vs, h1, h2, It.im h3⟩⟩
instance {T : Rt α} [It T] : Im (pD T) := ⟨fun ⟨a, vs, h1, h2, h3⟩ => ⟨a, vs, h1, h2, It.im h3⟩⟩
end
/-- the k-th place of such a row, its reading f -/
def Pj {α β : Type} (T : Rt α) (k : Nat) (f : α → β) (R : Rp β) : Prop := ∀ x vs I C, T.r x vs I C → ∃ w, vs[k]? = some w ∧ R.r (f x) w I C
theorem pj1 {α : Type} {R : Rp α} : Pj (t1 R) 0 (fun x => x) R := fun x vs I C ⟨v, h1, h2⟩ => ⟨v, by rw [h1]; rfl, h2⟩
theorem pj0 {α β : Type} {R : Rp α} {T : Rt β} : Pj (tc R T) 0 (fun x => x.1) R := fun x vs I C ⟨v, us, h1, h2, _⟩ => ⟨v, by rw [h1]; rfl, h2⟩
theorem pjs {α β γ : Type} {R : Rp α} {T : Rt β} {S : Rp γ} {k : Nat} {f : β → γ} (h : Pj T k f S) : Pj (tc R T) (k + 1) (fun x => f x.2) S := fun x vs I C ⟨v, us, h1, _, h3⟩ => by
  obtain ⟨w, e, r⟩ := h x.2 us I C h3
  exact ⟨w, by rw [h1]; exact e, r⟩
/-- the k-th place stored -/
def Pk {α β : Type} (T : Rt α) (k : Nat) (g : α → β → α) (R : Rp β) : Prop := ∀ x vs I C b w, T.r x vs I C → R.r b w I C → T.r (g x b) (vs.set k w) I C ∧ k < vs.length
theorem pk1 {α : Type} {R : Rp α} : Pk (t1 R) 0 (fun _ b => b) R := fun x vs I C b w ⟨v, h1, h2⟩ r => by
  subst h1
  exact ⟨⟨w, rfl, r⟩, Nat.zero_lt_one⟩
theorem pk0 {α β : Type} {R : Rp α} {T : Rt β} : Pk (tc R T) 0 (fun x b => (b, x.2)) R := fun x vs I C b w ⟨v, us, h1, h2, h3⟩ r => by
  subst h1
  exact ⟨⟨w, us, rfl, r, h3⟩, Nat.succ_pos _⟩
theorem pks {α β γ : Type} {R : Rp α} {T : Rt β} {S : Rp γ} {k : Nat} {g : β → γ → β} (h : Pk T k g S) : Pk (tc R T) (k + 1) (fun x b => (x.1, g x.2 b)) S := fun x vs I C b w ⟨v, us, h1, h2, h3⟩ r => by
  subst h1
  obtain ⟨q, l⟩ := h x.2 us I C b w h3 r
  exact ⟨⟨v, us.set k w, rfl, h2, q⟩, Nat.succ_lt_succ l⟩

/-! ### what an expression gives -/
def Ec.name : Ec → Str
  | .DeskError => "DeskError" | .TooMany => "TooMany" | .BadName => "BadName" | .BadRatio => "BadRatio" | .BadSpan => "BadSpan" | .BadLine => "BadLine"
  | .BadWorld => "BadWorld" | .BadArea => "BadArea" | .BadGauge => "BadGauge" | .BadRun => "BadRun" | .BadTable => "BadTable" | .BadSignals => "BadSignals"
  | .Unlike => "Unlike" | .BadPerson => "BadPerson" | .BadCall => "BadCall" | .BadTree => "BadTree" | .BadRule => "BadRule" | .BadDeed => "BadDeed"
  | .NoBulletin => "NoBulletin" | .BadPair => "BadPair" | .Unplayable => "Unplayable"
/-- what is wanted of an error that leaves: E, where all stands as it was -/
def PX (E : XK) (K : PySem.W.Frag) (I C : Hp) (c : Ec) (i : Int) : Prop := ∀ d I2 H2, Ex I I2 → St I2 C H2 → I2 d = some (.xd [(("at" : Str), .int i)]) → E (.ref (He.ga K c.name)) (some d) H2
theorem PX.mono {E : XK} {K : PySem.W.Frag} {I I' C C' : Hp} {c : Ec} {i : Int} (e : Ex I I') (e' : Ex C C') (h : PX E K I C c i) : PX E K I' C' c i := fun d I2 H2 a s q => h d I2 H2 (e.trans a) (s.less e') q
abbrev PQ {α : Type} (R : Rp α) (I C : Hp) (Q : VK) (a : α) : Prop := ∀ v I2 H2, Ex I I2 → St I2 C H2 → R.r a v I2 C → Q v H2
def EvX (E : XK) (K : PySem.W.Frag) (te : TE) (σ : L2.St) (I C : Hp) {α : Type} (m : Res α) (R : Rp α) : Prop :=
  ∀ I1 C1 H1, Ex I I1 → Ex C C1 → St I1 C1 H1 → ∀ Q : VK, Post m (PQ R I1 C1 Q) (PX E K I1 C1) → te σ H1 Q
def EvT (E : XK) (K : PySem.W.Frag) (tt : TT) (σ : L2.St) (I C : Hp) (m : Res Bool) : Prop :=
  ∀ I1 C1 H1, Ex I I1 → Ex C C1 → St I1 C1 H1 → ∀ Q : Bool → Hp → Prop, Post m (fun b => ∀ I2 H2, Ex I1 I2 → St I2 C1 H2 → Q b H2) (PX E K I1 C1) → tt σ H1 Q
def EvA (E : XK) (K : PySem.W.Frag) (ta : TA) (σ : L2.St) (I C : Hp) {α : Type} (m : Res α) (T : Rt α) : Prop :=
  ∀ I1 C1 H1, Ex I I1 → Ex C C1 → St I1 C1 H1 → ∀ Q : List V → Hp → Prop, Post m (fun a => ∀ vs I2 H2, Ex I1 I2 → St I2 C1 H2 → T.r a vs I2 C1 → Q vs H2) (PX E K I1 C1) → ta σ H1 Q
/-- a rule on values -/
def Op1 (E : XK) (K : PySem.W.Frag) (r : V → Hp → VK → Prop) {α γ : Type} (f : α → Res γ) (R : Rp α) (T : Rp γ) : Prop :=
  ∀ I C H a x, St I C H → R.r a x I C → ∀ Q : VK, Post (f a) (PQ T I C Q) (PX E K I C) → r x H Q
def Op2 (E : XK) (K : PySem.W.Frag) (r : R2) {α β γ : Type} (f : α → β → Res γ) (R : Rp α) (S : Rp β) (T : Rp γ) : Prop :=
  ∀ I C H a b x y, St I C H → R.r a x I C → S.r b y I C → ∀ Q : VK, Post (f a b) (PQ T I C Q) (PX E K I C) → r x y H Q
def OpL (E : XK) (K : PySem.W.Frag) (r : List V → Hp → VK → Prop) {α γ : Type} (f : α → Res γ) (R : Rt α) (T : Rp γ) : Prop :=
  ∀ I C H a vs, St I C H → R.r a vs I C → ∀ Q : VK, Post (f a) (PQ T I C Q) (PX E K I C) → r vs H Q
def un {α γ : Type} (f : α → Res γ) (m : Res α) : Res γ := m.bind f
def bin {α β γ : Type} (f : α → β → Res γ) (m : Res α) (n : Res β) : Res γ := m.bind fun a => n.bind fun b => f a b
def pair {α β : Type} (m : Res α) (n : Res β) : Res (α × β) := m.bind fun a => n.bind fun b => .ok (a, b)
@[simp] theorem un_ok {α γ : Type} (f : α → Res γ) (a : α) : un f (.ok a) = f a := rfl
@[simp] theorem bin_ok {α β γ : Type} (f : α → β → Res γ) (a : α) (b : β) : bin f (.ok a) (.ok b) = f a b := rfl
@[simp] theorem pair_ok {α β : Type} (a : α) (b : β) : pair (.ok a) (.ok b) = .ok (a, b) := rfl
section
variable {E : XK} {K : PySem.W.Frag} {σ : L2.St} {I I' C C' : Hp} {α β γ : Type} {m : Res α} {n : Res β} {R : Rp α} {S : Rp β} {T : Rp γ} {ta tb te : TE} {tt tu : TT}
theorem EvX.mono (e : Ex I I') (e' : Ex C C') (h : EvX E K te σ I C m R) : EvX E K te σ I' C' m R := fun I1 C1 H1 a b s Q q => h I1 C1 H1 (e.trans a) (e'.trans b) s Q q
theorem PQ.ret {I1 C1 H1 : Hp} {Q : VK} {a : α} {v : V} (q : PQ R I1 C1 Q a) (s : St I1 C1 H1) (r : R.r a v I1 C1) : Q v H1 := q v I1 H1 (Ex.refl _) s r
theorem x_var {i : Nat} {v : V} {a : α} (h : σ[i]? = some (some v)) (r : R.r a v I C) : EvX E K (tVar i) σ I C (.ok a) R := fun I1 C1 H1 e e' s Q q => ⟨v, h, PQ.ret (R := R) (a := a) q s (R.mono e e' r)⟩
theorem x_c {v : V} {a : α} (r : ∀ I C, R.r a v I C) : EvX E K (tC v) σ I C (.ok a) R := fun I1 C1 H1 e e' s Q q => PQ.ret (R := R) (a := a) q s (r _ _)
theorem x_int {i : Int} : EvX E K (tC (.int i)) σ I C (.ok i) pI := x_c fun _ _ => rfl
theorem x_bl {b : Bool} : EvX E K (tC (.bl b)) σ I C (.ok b) pB := x_c fun _ _ => rfl
theorem x_str {x : Str} (h : PyData.strOk x = true) : EvX E K (tC (.str x)) σ I C (.ok x) pS := x_c fun _ _ => ⟨rfl, h⟩
theorem x_non : EvX E K (tC .non) σ I C (.ok ()) pN := x_c fun _ _ => rfl
theorem x_un {r : V → Hp → VK → Prop} {f : α → Res γ} (hr : Op1 E K r f R T) (h : EvX E K ta σ I C m R) : EvX E K (tUn r ta) σ I C (un f m) T := fun I1 C1 H1 e e' s Q q =>
  h I1 C1 H1 e e' s _ ((Post.bind q).mono (fun a p v I2 H2 e2 s2 rv => hr I2 C1 H2 a v s2 rv Q (p.mono (fun c z w I3 H3 e3 s3 rw => z w I3 H3 (e2.trans e3) s3 rw) fun c i z => z.mono e2 (Ex.refl _))) fun _ _ z => z)
theorem x_op {r : R2} {f : α → β → Res γ} (hr : Op2 E K r f R S T) (h1 : EvX E K ta σ I C m R) (h2 : EvX E K tb σ I C n S) : EvX E K (tOp r ta tb) σ I C (bin f m n) T := fun I1 C1 H1 e e' s Q q =>
  h1 I1 C1 H1 e e' s _ ((Post.bind q).mono (fun a p x I2 H2 e2 s2 rx =>
    h2 I2 C1 H2 (e.trans e2) e' s2 _ ((Post.bind p).mono (fun b p2 y I3 H3 e3 s3 ry =>
      hr I3 C1 H3 a b x y s3 (R.mono e3 (Ex.refl _) rx) ry Q (p2.mono (fun c z w I4 H4 e4 s4 rw => z w I4 H4 (e2.trans (e3.trans e4)) s4 rw) fun c i z => z.mono (e2.trans e3) (Ex.refl _))) fun c i z => z.mono e2 (Ex.refl _)))
    fun _ _ z => z)
theorem a_nil : EvA E K tNil σ I C (.ok ()) (⟨fun _ vs _ _ => vs = [], fun _ _ h => h, 0, fun h => by rw [h]; rfl⟩ : Rt Unit) := fun I1 C1 H1 e e' s Q q => q [] I1 H1 (Ex.refl _) s rfl
theorem a_one (h : EvX E K ta σ I C m R) : EvA E K (tCons ta tNil) σ I C m (t1 R) := fun I1 C1 H1 e e' s Q q =>
  h I1 C1 H1 e e' s _ (q.mono (fun a p v I2 H2 e2 s2 rv => p [v] I2 H2 e2 s2 ⟨v, rfl, rv⟩) fun _ _ z => z)
theorem a_cons {tr : TA} {T : Rt β} (h1 : EvX E K ta σ I C m R) (h2 : EvA E K tr σ I C n T) : EvA E K (tCons ta tr) σ I C (pair m n) (tc R T) := fun I1 C1 H1 e e' s Q q =>
  h1 I1 C1 H1 e e' s _ ((Post.bind q).mono (fun a p x I2 H2 e2 s2 rx =>
    h2 I2 C1 H2 (e.trans e2) e' s2 _ ((Post.bind p).mono (fun b p2 ys I3 H3 e3 s3 ry => p2 (x :: ys) I3 H3 (e2.trans e3) s3 ⟨x, ys, rfl, R.mono e3 (Ex.refl _) rx, ry⟩) fun c i z => z.mono e2 (Ex.refl _)))
    fun _ _ z => z)
theorem x_cb {r : List V → Hp → VK → Prop} {f : α → Res γ} {A : Rt α} {tr : TA} (hr : OpL E K r f A T) (h : EvA E K tr σ I C m A) : EvX E K (tCB r tr) σ I C (un f m) T := fun I1 C1 H1 e e' s Q q =>
  h I1 C1 H1 e e' s _ ((Post.bind q).mono (fun a p vs I2 H2 e2 s2 rv => hr I2 C1 H2 a vs s2 rv Q (p.mono (fun c z w I3 H3 e3 s3 rw => z w I3 H3 (e2.trans e3) s3 rw) fun c i z => z.mono e2 (Ex.refl _))) fun _ _ z => z)
/-- tuples, lists with fixed places -/
theorem x_tup {A : Rt α} {tr : TA} (h : EvA E K tr σ I C m A) (hn : A.n ≤ 100) : EvX E K (tTup tr) σ I C m (pT A) := fun I1 C1 H1 e e' s Q q =>
  h I1 C1 H1 e e' s _ (q.mono (fun a p vs I2 H2 e2 s2 rv => ⟨by rw [A.len rv]; exact Nat.le_trans hn (by decide), fun t ht => p _ (upd I2 t (.tup vs)) _ (e2.trans (Ex.new (s2.i.free ht))) (s2.newI ht) ⟨t, vs, rfl, upd_same, A.mono (Ex.new (s2.i.free ht)) (Ex.refl _) rv⟩⟩) fun _ _ z => z)
theorem x_lstD {A : Rt α} {tr : TA} (h : EvA E K tr σ I C m A) (hn : A.n ≤ 100) : EvX E K (tLst tr) σ I C m (pD A) := fun I1 C1 H1 e e' s Q q =>
  h I1 C1 H1 e e' s _ (q.mono (fun a p vs I2 H2 e2 s2 rv => ⟨by rw [A.len rv]; exact Nat.le_trans hn (by decide), fun t ht => p _ (upd I2 t (.lst vs)) _ (e2.trans (Ex.new (s2.i.free ht))) (s2.newI ht) ⟨t, vs, rfl, upd_same, A.mono (Ex.new (s2.i.free ht)) (Ex.refl _) rv⟩⟩) fun _ _ z => z)
/-- a row of things of one kind -/
def tL (R : Rp α) (n : Nat) : Rt (List α) := ⟨fun xs vs I C => vs.length = n ∧ A2 (fun x u => R.r x u I C) xs vs, fun e e' ⟨h1, h2⟩ => ⟨h1, h2.imp fun _ _ => R.mono e e'⟩, n, fun h => h.1⟩
def consR (m : Res α) (n : Res (List α)) : Res (List α) := m.bind fun a => n.bind fun b => .ok (a :: b)
theorem al_nil : EvA E K tNil σ I C (.ok []) (tL R 0) := fun I1 C1 H1 e e' s Q q => q [] I1 H1 (Ex.refl _) s ⟨rfl, .nil⟩
theorem al_cons {tr : TA} {k : Nat} {n : Res (List α)} (h1 : EvX E K ta σ I C m R) (h2 : EvA E K tr σ I C n (tL R k)) : EvA E K (tCons ta tr) σ I C (consR m n) (tL R (k + 1)) := fun I1 C1 H1 e e' s Q q =>
  h1 I1 C1 H1 e e' s _ ((Post.bind q).mono (fun a p x I2 H2 e2 s2 rx =>
    h2 I2 C1 H2 (e.trans e2) e' s2 _ ((Post.bind p).mono (fun b p2 ys I3 H3 e3 s3 ry => p2 (x :: ys) I3 H3 (e2.trans e3) s3 ⟨by rw [List.length_cons, ry.1], .cons (R.mono e3 (Ex.refl _) rx) ry.2⟩) fun c i z => z.mono e2 (Ex.refl _)))
    fun _ _ z => z)
theorem x_lst {k : Nat} {m : Res (List α)} {tr : TA} (h : EvA E K tr σ I C m (tL R k)) (hn : k ≤ 100) : EvX E K (tLst tr) σ I C m (pL R) := fun I1 C1 H1 e e' s Q q =>
  h I1 C1 H1 e e' s _ (q.mono (fun a p vs I2 H2 e2 s2 rv => by
    have hl : vs.length ≤ sizeLine := by
      rw [rv.1]
      exact Nat.le_trans hn (by decide)
    exact ⟨hl, fun t ht => p _ (upd I2 t (.lst vs)) _ (e2.trans (Ex.new (s2.i.free ht))) (s2.newI ht) ⟨t, vs, rfl, upd_same, hl, rv.2.imp fun _ _ => R.mono (Ex.new (s2.i.free ht)) (Ex.refl _)⟩⟩) fun _ _ z => z)
/-- a list as one that is read -/
theorem x_v {m : Res (List α)} (h : EvX E K te σ I C m (pL R)) : EvX E K te σ I C m (pV R) := fun I1 C1 H1 e e' s Q q =>
  h I1 C1 H1 e e' s Q (q.mono (fun a p v I2 H2 e2 s2 ⟨a, vs, h1, h2, h3, h4⟩ => p v I2 H2 e2 s2 ⟨a, vs, h1, .inl h2, h3, h4⟩) fun _ _ z => z)
theorem x_is' {β : Type} {T : Rt β} {tr : TA} {m m' : Res β} (h : EvA E K tr σ I C m T) (e : m = m') : EvA E K tr σ I C m' T := e ▸ h
theorem x_is {m' : Res α} (h : EvX E K te σ I C m R) (e : m = m') : EvX E K te σ I C m' R := e ▸ h
/-! tests -/
theorem t_test {m : Res Bool} (h : EvX E K te σ I C m pB) : EvT E K (tTest te) σ I C m := fun I1 C1 H1 e e' s Q q => h I1 C1 H1 e e' s _ (q.mono (fun b p v I2 H2 e2 s2 rv => ⟨b, rv, p I2 H2 e2 s2⟩) fun _ _ z => z)
theorem t_B {m : Res Bool} (h : EvX E K te σ I C m pB) : EvT E K (tB te) σ I C m := fun I1 C1 H1 e e' s Q q => h I1 C1 H1 e e' s _ (q.mono (fun b p v I2 H2 e2 s2 rv => ⟨b, rv, p I2 H2 e2 s2⟩) fun _ _ z => z)
def andR (m n : Res Bool) : Res Bool := m.bind fun b => if b = true then n else .ok false
def orR (m n : Res Bool) : Res Bool := m.bind fun b => if b = true then .ok true else n
def notR (b : Bool) : Res Bool := .ok (!b)
@[simp] theorem andR_ok (a b : Bool) : andR (.ok a) (.ok b) = .ok (a && b) := by cases a <;> rfl
@[simp] theorem orR_ok (a b : Bool) : orR (.ok a) (.ok b) = .ok (a || b) := by cases a <;> rfl
@[simp] theorem andR_true (m : Res Bool) : andR (.ok true) m = m := rfl
@[simp] theorem andR_false (m : Res Bool) : andR (.ok false) m = .ok false := rfl
@[simp] theorem orR_true (m : Res Bool) : orR (.ok true) m = .ok true := rfl
@[simp] theorem orR_false (m : Res Bool) : orR (.ok false) m = m := rfl
@[simp] theorem notR_eq (b : Bool) : notR b = .ok (!b) := rfl
theorem t_and {m n : Res Bool} (h1 : EvT E K tt σ I C m) (h2 : EvT E K tu σ I C n) : EvT E K (tAnd tt tu) σ I C (andR m n) := fun I1 C1 H1 e e' s Q q =>
  h1 I1 C1 H1 e e' s _ ((Post.bind q).mono (fun b p I2 H2 e2 s2 => by
    cases b with
    | true => exact h2 I2 C1 H2 (e.trans e2) e' s2 Q (Post.mono (m := n) p (fun b z I3 H3 e3 s3 => z I3 H3 (e2.trans e3) s3) fun c i z => z.mono e2 (Ex.refl _))
    | false => exact p I2 H2 e2 s2) fun _ _ z => z)
theorem t_or {m n : Res Bool} (h1 : EvT E K tt σ I C m) (h2 : EvT E K tu σ I C n) : EvT E K (tOr tt tu) σ I C (orR m n) := fun I1 C1 H1 e e' s Q q =>
  h1 I1 C1 H1 e e' s _ ((Post.bind q).mono (fun b p I2 H2 e2 s2 => by
    cases b with
    | false => exact h2 I2 C1 H2 (e.trans e2) e' s2 Q (Post.mono (m := n) p (fun b z I3 H3 e3 s3 => z I3 H3 (e2.trans e3) s3) fun c i z => z.mono e2 (Ex.refl _))
    | true => exact p I2 H2 e2 s2) fun _ _ z => z)
theorem t_not {m : Res Bool} (h : EvT E K tt σ I C m) : EvT E K (tNot tt) σ I C (un notR m) := fun I1 C1 H1 e e' s Q q =>
  h I1 C1 H1 e e' s _ ((Post.bind q).mono (fun b p I2 H2 e2 s2 => p I2 H2 e2 s2) fun _ _ z => z)
theorem x_andV {m n : Res Bool} (h1 : EvX E K ta σ I C m pB) (h2 : EvX E K tb σ I C n pB) : EvX E K (tAndV ta tb) σ I C (andR m n) pB := fun I1 C1 H1 e e' s Q q =>
  h1 I1 C1 H1 e e' s _ ((Post.bind q).mono (fun b p v I2 H2 e2 s2 rv => ⟨b, rv, by
    cases b with
    | true => exact h2 I2 C1 H2 (e.trans e2) e' s2 Q (Post.mono (m := n) p (fun b z v I3 H3 e3 s3 => z v I3 H3 (e2.trans e3) s3) fun c i z => z.mono e2 (Ex.refl _))
    | false => exact p (.bl false) I2 H2 e2 s2 rfl⟩) fun _ _ z => z)
theorem x_orV {m n : Res Bool} (h1 : EvX E K ta σ I C m pB) (h2 : EvX E K tb σ I C n pB) : EvX E K (tOrV ta tb) σ I C (orR m n) pB := fun I1 C1 H1 e e' s Q q =>
  h1 I1 C1 H1 e e' s _ ((Post.bind q).mono (fun b p v I2 H2 e2 s2 rv => ⟨b, rv, by
    cases b with
    | false => exact h2 I2 C1 H2 (e.trans e2) e' s2 Q (Post.mono (m := n) p (fun b z v I3 H3 e3 s3 => z v I3 H3 (e2.trans e3) s3) fun c i z => z.mono e2 (Ex.refl _))
    | true => exact p (.bl true) I2 H2 e2 s2 rfl⟩) fun _ _ z => z)
theorem x_notV {m : Res Bool} (h : EvX E K te σ I C m pB) : EvX E K (tNotV te) σ I C (un notR m) pB := fun I1 C1 H1 e e' s Q q =>
  h I1 C1 H1 e e' s _ ((Post.bind q).mono (fun b p v I2 H2 e2 s2 rv => ⟨b, rv, p _ I2 H2 e2 s2 rfl⟩) fun _ _ z => z)
def ifR {α : Type} (c : Res Bool) (m n : Res α) : Res α := c.bind fun b => if b = true then m else n
@[simp] theorem ifR_ok {α : Type} (b : Bool) (m n : Res α) : ifR (.ok b) m n = if b = true then m else n := rfl
theorem x_if {c : Res Bool} {m n : Res α} (h : EvT E K tt σ I C c) (h1 : EvX E K ta σ I C m R) (h2 : EvX E K tb σ I C n R) : EvX E K (tIf tt ta tb) σ I C (ifR c m n) R := fun I1 C1 H1 e e' s Q q =>
  h I1 C1 H1 e e' s _ ((Post.bind q).mono (fun b p I2 H2 e2 s2 => by
    cases b with
    | true => exact h1 I2 C1 H2 (e.trans e2) e' s2 Q (Post.mono (m := m) p (fun b z v I3 H3 e3 s3 => z v I3 H3 (e2.trans e3) s3) fun c i z => z.mono e2 (Ex.refl _))
    | false => exact h2 I2 C1 H2 (e.trans e2) e' s2 Q (Post.mono (m := n) p (fun b z v I3 H3 e3 s3 => z v I3 H3 (e2.trans e3) s3) fun c i z => z.mono e2 (Ex.refl _))) fun _ _ z => z)
end
end Sd

namespace Sd
open PySem L2
/-! ### rules on values -/
section
variable {E : XK} {K : PySem.W.Frag} {α β γ : Type} {R : Rp α}
theorem PQ.now {I C H : Hp} {Q : VK} {a : α} {v : V} (q : PQ R I C Q a) (s : St I C H) (r : R.r a v I C) : Q v H := q v I H (Ex.refl _) s r
def rAdd (a b : Int) : Res Int := .ok (a + b)
def rSub (a b : Int) : Res Int := .ok (a - b)
def rMul (a b : Int) : Res Int := if (-(2 ^ 64) < a ∧ a < 2 ^ 64) ∨ (-(2 ^ 64) < b ∧ b < 2 ^ 64) then .ok (a * b) else .bad
def rMod (a b : Int) : Res Int := if 0 < b then .ok (a % b) else .bad
def rDiv (a b : Int) : Res Int := if 0 < b ∧ b < 1073741824 then .ok (a / b) else .bad
def rPow (a b : Int) : Res Int := if 0 ≤ b ∧ b ≤ 1000000 ∧ a.natAbs < 2 ^ 64 then .ok (a ^ b.toNat) else .bad
def rNeg (a : Int) : Res Int := .ok (-a)
@[simp] theorem rAdd_eq (a b : Int) : rAdd a b = .ok (a + b) := rfl
@[simp] theorem rSub_eq (a b : Int) : rSub a b = .ok (a - b) := rfl
@[simp] theorem rNeg_eq (a : Int) : rNeg a = .ok (-a) := rfl
theorem rMul_ok {a b : Int} (h : (-(2 ^ 64) < a ∧ a < 2 ^ 64) ∨ (-(2 ^ 64) < b ∧ b < 2 ^ 64)) : rMul a b = .ok (a * b) := if_pos h
theorem rMod_ok {a b : Int} (h : 0 < b) : rMod a b = .ok (a % b) := if_pos h
theorem rDiv_ok {a b : Int} (h : 0 < b ∧ b < 1073741824) : rDiv a b = .ok (a / b) := if_pos h
theorem rPow_ok {a b : Int} (h : 0 ≤ b ∧ b ≤ 1000000 ∧ a.natAbs < 2 ^ 64) : rPow a b = .ok (a ^ b.toNat) := if_pos h
theorem o_add : Op2 E K (rI0 fun i j => .int (i + j)) rAdd pI pI pI := fun I C H a b x y s hx hy Q q => ⟨a, b, hx, hy, PQ.now q s rfl⟩
theorem o_sub : Op2 E K (rI0 fun i j => .int (i - j)) rSub pI pI pI := fun I C H a b x y s hx hy Q q => ⟨a, b, hx, hy, PQ.now q s rfl⟩
theorem o_mul : Op2 E K (rI CMul fun i j => .int (i * j)) rMul pI pI pI := fun I C H a b x y s hx hy Q q => by
  unfold rMul at q
  split at q
  · rename_i h
    exact ⟨a, b, hx, hy, h, PQ.now q s rfl⟩
  · exact q.elim
theorem o_mod : Op2 E K (rI (fun _ j => 0 < j) fun i j => .int (i % j)) rMod pI pI pI := fun I C H a b x y s hx hy Q q => by
  unfold rMod at q
  split at q
  · rename_i h
    exact ⟨a, b, hx, hy, h, PQ.now q s rfl⟩
  · exact q.elim
theorem o_fdiv : Op2 E K (rI CDiv fun i j => .int (i / j)) rDiv pI pI pI := fun I C H a b x y s hx hy Q q => by
  unfold rDiv at q
  split at q
  · rename_i h
    exact ⟨a, b, hx, hy, h, PQ.now q s rfl⟩
  · exact q.elim
theorem o_pow : Op2 E K (rI CPow fun i j => .int (i ^ j.toNat)) rPow pI pI pI := fun I C H a b x y s hx hy Q q => by
  unfold rPow at q
  split at q
  · rename_i h
    exact ⟨a, b, hx, hy, h, PQ.now q s rfl⟩
  · exact q.elim
theorem o_neg : Op1 E K (rU fun i => .int (-i)) rNeg pI pI := fun I C H a x s hx Q q => ⟨a, hx, PQ.now q s rfl⟩
/-! comparisons -/
def rLt (a b : Int) : Res Bool := .ok (decide (a < b))
def rLe (a b : Int) : Res Bool := .ok (decide (a ≤ b))
def rGt (a b : Int) : Res Bool := .ok (decide (b < a))
def rGe (a b : Int) : Res Bool := .ok (decide (b ≤ a))
@[simp] theorem rLt_eq (a b : Int) : rLt a b = .ok (decide (a < b)) := rfl
@[simp] theorem rLe_eq (a b : Int) : rLe a b = .ok (decide (a ≤ b)) := rfl
@[simp] theorem rGt_eq (a b : Int) : rGt a b = .ok (decide (b < a)) := rfl
@[simp] theorem rGe_eq (a b : Int) : rGe a b = .ok (decide (b ≤ a)) := rfl
theorem o_lt : Op2 E K (rI0 fun i j => .bl (decide (i < j))) rLt pI pI pB := fun I C H a b x y s hx hy Q q => ⟨a, b, hx, hy, PQ.now q s rfl⟩
theorem o_le : Op2 E K (rI0 fun i j => .bl (decide (i ≤ j))) rLe pI pI pB := fun I C H a b x y s hx hy Q q => ⟨a, b, hx, hy, PQ.now q s rfl⟩
theorem o_gt : Op2 E K (rI0 fun i j => .bl (decide (j < i))) rGt pI pI pB := fun I C H a b x y s hx hy Q q => ⟨a, b, hx, hy, PQ.now q s rfl⟩
theorem o_ge : Op2 E K (rI0 fun i j => .bl (decide (j ≤ i))) rGe pI pI pB := fun I C H a b x y s hx hy Q q => ⟨a, b, hx, hy, PQ.now q s rfl⟩
def eqR {α : Type} [DecidableEq α] (a b : α) : Res Bool := .ok (decide (a = b))
def neR {α : Type} [DecidableEq α] (a b : α) : Res Bool := .ok (!decide (a = b))
@[simp] theorem eqR_eq {α : Type} [DecidableEq α] (a b : α) : eqR a b = .ok (decide (a = b)) := rfl
@[simp] theorem neR_eq {α : Type} [DecidableEq α] (a b : α) : neR a b = .ok (!decide (a = b)) := rfl
theorem dec_congr {p q : Prop} [Decidable p] [Decidable q] (h : p ↔ q) : decide p = decide q := by
  by_cases hp : p
  · rw [decide_eq_true hp, decide_eq_true (h.mp hp)]
  · rw [decide_eq_false hp, decide_eq_false fun z => hp (h.mpr z)]
theorem o_eqI : Op2 E K rEq eqR pI pI pB := fun I C H a b x y s hx hy Q q => by
  subst hx hy
  exact ⟨rfl, PQ.now q s (congrArg V.bl (dec_congr ⟨fun h => V.int.inj h, fun h => by rw [h]⟩))⟩
theorem o_neI : Op2 E K rNe neR pI pI pB := fun I C H a b x y s hx hy Q q => by
  subst hx hy
  exact ⟨rfl, PQ.now q s (congrArg (fun z => V.bl (!z)) (dec_congr ⟨fun h => V.int.inj h, fun h => by rw [h]⟩))⟩
theorem o_eqB : Op2 E K rEq eqR pB pB pB := fun I C H a b x y s hx hy Q q => by
  subst hx hy
  exact ⟨rfl, PQ.now q s (congrArg V.bl (dec_congr ⟨fun h => V.bl.inj h, fun h => by rw [h]⟩))⟩
theorem o_neB : Op2 E K rNe neR pB pB pB := fun I C H a b x y s hx hy Q q => by
  subst hx hy
  exact ⟨rfl, PQ.now q s (congrArg (fun z => V.bl (!z)) (dec_congr ⟨fun h => V.bl.inj h, fun h => by rw [h]⟩))⟩
theorem o_eqS : Op2 E K rEq eqR pS pS pB := fun I C H a b x y s hx hy Q q => by
  obtain ⟨rfl, _⟩ := hx
  obtain ⟨rfl, _⟩ := hy
  exact ⟨rfl, PQ.now q s (congrArg V.bl (dec_congr ⟨fun h => V.str.inj h, fun h => by rw [h]⟩))⟩
theorem o_neS : Op2 E K rNe neR pS pS pB := fun I C H a b x y s hx hy Q q => by
  obtain ⟨rfl, _⟩ := hx
  obtain ⟨rfl, _⟩ := hy
  exact ⟨rfl, PQ.now q s (congrArg (fun z => V.bl (!z)) (dec_congr ⟨fun h => V.str.inj h, fun h => by rw [h]⟩))⟩
def isNone {α : Type} (o : Option α) (_ : Unit) : Res Bool := .ok o.isNone
def notNone {α : Type} (o : Option α) (_ : Unit) : Res Bool := .ok o.isSome
@[simp] theorem isNone_eq {α : Type} (o : Option α) : isNone o () = .ok o.isNone := rfl
@[simp] theorem notNone_eq {α : Type} (o : Option α) : notNone o () = .ok o.isSome := rfl
theorem o_isN : Op2 E K (fun x y H Q => y = .non ∧ Q (.bl (decide (x = .non))) H) isNone (pO R) pN pB := fun I C H a b x y s hx hy Q q => by
  refine ⟨hy, PQ.now q s (congrArg V.bl ?_)⟩
  cases a with
  | none => exact decide_eq_true hx
  | some a => exact decide_eq_false hx.2
theorem o_notN : Op2 E K (fun x y H Q => y = .non ∧ Q (.bl (!decide (x = .non))) H) notNone (pO R) pN pB := fun I C H a b x y s hx hy Q q => by
  refine ⟨hy, PQ.now q s (congrArg V.bl ?_)⟩
  cases a with
  | none =>
    have e : decide (x = V.non) = true := decide_eq_true hx
    rw [e]
    rfl
  | some a =>
    have e : decide (x = V.non) = false := decide_eq_false hx.2
    rw [e]
    rfl
/-! lists that are read -/
theorem pV.at {xs : List α} {v : V} {I C H : Hp} (s : St I C H) (h : (pV R).r xs v I C) : ∃ a vs, v = .ref a ∧ H a = some (.lst vs) ∧ vs.length ≤ sizeLine ∧ A2 (fun x u => R.r x u I C) xs vs := by
  obtain ⟨a, vs, h1, h2, h3, h4⟩ := h
  exact ⟨a, vs, h1, h2.elim (s.i a _) (s.c a _), h3, h4⟩
def rLen (xs : List α) : Res Int := .ok (xs.length : Int)
@[simp] theorem rLen_eq (xs : List α) : rLen xs = .ok (xs.length : Int) := rfl
theorem o_len : OpL E K (fun xs H Q => ∃ p ys, xs = [.ref p] ∧ (SqL K H p ys ∨ SqT K H p ys) ∧ Q (.int ys.length) H) rLen (t1 (pV R)) pI := fun I C H a vs s hv Q q => by
  obtain ⟨v, rfl, h⟩ := hv
  obtain ⟨p, us, rfl, h2, h3, h4⟩ := pV.at s h
  exact ⟨p, us, rfl, .inl (.inl (.inl h2)), PQ.now q s (by rw [h4.len]; rfl)⟩
theorem o_lenQ : OpL E K (fun xs H Q => ∃ p ys, xs = [.ref p] ∧ (SqL K H p ys ∨ SqT K H p ys) ∧ Q (.int ys.length) H) rLen (t1 (pQ K R)) pI := fun I C H a vs s hv Q q => by
  obtain ⟨v, rfl, p, us, rfl, h2, h3, h4⟩ := hv
  exact ⟨p, us, rfl, .inr (ex_t s.i h2), PQ.now q s (by rw [h4.len]; rfl)⟩
/-- xs[i] -/
def ix (xs : List α) (i : Int) : Res α := if 0 ≤ i then (match xs[i.toNat]? with
    | some x => .ok x
    | none => .bad) else if -(xs.length : Int) ≤ i then (match xs[(i + xs.length).toNat]? with
    | some x => .ok x
    | none => .bad) else .bad
theorem ix_atI {f : α → V → Prop} {xs : List α} {vs : List V} {i : Int} {x : α} (h : A2 f xs vs) (e : ix xs i = .ok x) : ∃ v, atI vs i = some v ∧ f x v := by
  have hl := h.len
  unfold ix at e
  unfold atI ixN
  by_cases h0 : 0 ≤ i
  · rw [if_pos h0] at e ⊢
    cases q : xs[i.toNat]? with
    | none =>
      rw [q] at e
      cases e
    | some y =>
      rw [q] at e
      cases e
      have hlt := (List.getElem?_eq_some_iff.mp q).1
      obtain ⟨v, hv, r⟩ := h.get' q
      rw [if_pos (by omega)]
      exact ⟨v, hv, r⟩
  · rw [if_neg h0] at e ⊢
    by_cases h1 : -(xs.length : Int) ≤ i
    · rw [if_pos h1] at e
      rw [if_pos (by omega)]
      cases q : xs[(i + xs.length).toNat]? with
      | none =>
        rw [q] at e
        cases e
      | some y =>
        rw [q] at e
        cases e
        obtain ⟨v, hv, r⟩ := h.get' q
        exact ⟨v, by rw [hl]; exact hv, r⟩
    · rw [if_neg h1] at e
      cases e
theorem o_ix : Op2 E K (rIxL K) ix (pV R) pI R := fun I C H a b x y s hx hy Q q => by
  obtain ⟨p, us, rfl, h2, h3, h4⟩ := pV.at s hx
  subst hy
  cases e : ix a b with
  | ok z =>
    rw [e] at q
    obtain ⟨v, e1, r⟩ := ix_atI h4 e
    exact ⟨p, us, b, v, rfl, rfl, .inl (.inl h2), e1, PQ.now q s r⟩
  | exc c i =>
    unfold ix at e
    split at e <;> (try split at e) <;> (try split at e) <;> cases e
  | bad =>
    rw [e] at q
    exact q.elim
theorem o_ixQ : Op2 E K (rIxT K) ix (pQ K R) pI R := fun I C H a b x y s hx hy Q q => by
  obtain ⟨p, us, rfl, h2, h3, h4⟩ := hx
  subst hy
  cases e : ix a b with
  | ok z =>
    rw [e] at q
    obtain ⟨v, e1, r⟩ := ix_atI h4 e
    exact ⟨p, us, b, v, rfl, rfl, ex_t s.i h2, e1, PQ.now q s r⟩
  | exc c i =>
    unfold ix at e
    split at e <;> (try split at e) <;> (try split at e) <;> cases e
  | bad =>
    rw [e] at q
    exact q.elim
/-- a place of a tuple, of a list with fixed places; k written -/
theorem o_pj {T : Rt α} {k : Nat} {f : α → β} {S : Rp β} (j : Pj T k f S) : Op1 E K (fun x H Q => rIxT K x (.int (k : Int)) H Q) (fun x => .ok (f x)) (pT T) S := fun I C H a x s hx Q q => by
  obtain ⟨p, vs, rfl, h2, h3⟩ := hx
  obtain ⟨w, e, r⟩ := j a vs I C h3
  exact ⟨p, vs, _, w, rfl, rfl, .inl (.inl (s.i p _ h2)), atI_nat e, PQ.now q s r⟩
theorem o_pjU {T : Rt α} {k : Nat} {f : α → β} {S : Rp β} (j : Pj T k f S) : Op1 E K (fun x H Q => rIxT K x (.int (k : Int)) H Q) (fun x => .ok (f x)) (pU K T) S := fun I C H a x s hx Q q => by
  obtain ⟨p, vs, rfl, h2, h3⟩ := hx
  obtain ⟨w, e, r⟩ := j a vs I C h3
  exact ⟨p, vs, _, w, rfl, rfl, ex_t s.i h2, atI_nat e, PQ.now q s r⟩
theorem o_pjD {T : Rt α} {k : Nat} {f : α → β} {S : Rp β} (j : Pj T k f S) : Op1 E K (fun x H Q => rIxL K x (.int (k : Int)) H Q) (fun x => .ok (f x)) (pD T) S := fun I C H a x s hx Q q => by
  obtain ⟨p, vs, rfl, h2, h3⟩ := hx
  obtain ⟨w, e, r⟩ := j a vs I C h3
  exact ⟨p, vs, _, w, rfl, rfl, .inl (.inl (s.i p _ h2)), atI_nat e, PQ.now q s r⟩
/-- e[k], k written, by a rule for this k -/
theorem x_k {r : R2} {te : TE} {σ : L2.St} {I C : Hp} {m : Res α} {f : α → Res γ} {T : Rp γ} {k : Int} (hr : Op1 E K (fun x H Q => r x (.int k) H Q) f R T) (h : EvX E K te σ I C m R) : EvX E K (tOp r te (tC (.int k))) σ I C (un f m) T :=
  fun I1 C1 H1 e e' s Q q => x_un (r := fun x H Q => r x (.int k) H Q) hr h I1 C1 H1 e e' s Q q
end
end Sd

namespace Sd
open PySem L2
/-! ### == of data -/
/-- data of this kind, as == sees them: enc; at most n deep -/
structure De (K : PySem.W.Frag) {α : Type} (R : Rp α) (enc : α → PyData) (n : Nat) : Prop where
  dp : ∀ {a v I C H}, St I C H → R.r a v I C → Dp K H v (enc a)
  ly : ∀ {a v I C}, R.r a v I C → (enc a).canLay0 = true
  de : ∀ {a v I C}, R.r a v I C → (enc a).depth ≤ n
  eq : ∀ a b, PyData.eqv (enc a) (enc b) = true ↔ a = b
section
variable {E : XK} {K : PySem.W.Frag} {α β γ : Type} {R : Rp α} {S : Rp β} {enc : α → PyData} {enb : β → PyData} {n m : Nat}
theorem de_int : De K pI PyData.int 0 := ⟨fun _ h => by cases h; exact .int _, fun _ => by simp only [PyData.canLay0], fun _ => by simp only [PyData.depth]; exact Nat.le_refl _, fun a b => by
  simp only [PyData.eqv, beq_iff_eq]⟩
theorem de_bl : De K pB PyData.bool 0 := ⟨fun _ h => by cases h; exact .bl _, fun _ => by simp only [PyData.canLay0], fun _ => by simp only [PyData.depth]; exact Nat.le_refl _, fun a b => by
  simp only [PyData.eqv, beq_iff_eq]⟩
theorem de_str : De K pS PyData.str 0 := ⟨fun _ h => by obtain ⟨rfl, _⟩ := h; exact .str _, fun h => by simp only [PyData.canLay0]; exact h.2, fun _ => by simp only [PyData.depth]; exact Nat.le_refl _, fun a b => by
  simp only [PyData.eqv, beq_iff_eq]⟩
theorem de_all (d : De K R enc n) : ∀ {xs : List α} {vs : List V} {I C H : Hp}, St I C H → A2 (fun x u => R.r x u I C) xs vs → DpAll K H vs (xs.map enc)
  | _, _, _, _, _, _, .nil => .nil
  | _, _, _, _, _, s, .cons r t => .cons (d.dp s r) (de_all d s t)
theorem ly_all (d : De K R enc n) : ∀ {xs : List α} {vs : List V} {I C : Hp}, A2 (fun x u => R.r x u I C) xs vs → PyData.canLayAll0 (xs.map enc) = true
  | _, _, _, _, .nil => by simp only [List.map_nil, PyData.canLayAll0]
  | _, _, _, _, .cons r t => by
    simp only [List.map_cons, PyData.canLayAll0, Bool.and_eq_true]
    exact ⟨d.ly r, ly_all d t⟩
theorem dp_all (d : De K R enc n) : ∀ {xs : List α} {vs : List V} {I C : Hp}, A2 (fun x u => R.r x u I C) xs vs → PyData.depthAll (xs.map enc) ≤ n
  | _, _, _, _, .nil => by
    simp only [List.map_nil, PyData.depthAll]
    exact Nat.zero_le _
  | _, _, _, _, .cons r t => by
    simp only [List.map_cons, PyData.depthAll]
    exact Nat.max_le.mpr ⟨d.de r, dp_all d t⟩
theorem eq_all (h : ∀ a b, PyData.eqv (enc a) (enc b) = true ↔ a = b) : ∀ xs ys : List α, PyData.eqvAll (xs.map enc) (ys.map enc) = true ↔ xs = ys
  | [], [] => by simp only [List.map_nil, PyData.eqvAll]
  | [], y :: ys => by
    simp only [List.map_nil, List.map_cons, PyData.eqvAll]
    exact ⟨fun q => (nomatch q), fun q => (nomatch q)⟩
  | x :: xs, [] => by
    simp only [List.map_nil, List.map_cons, PyData.eqvAll]
    exact ⟨fun q => (nomatch q), fun q => (nomatch q)⟩
  | x :: xs, y :: ys => by
    simp only [List.map_cons, PyData.eqvAll, Bool.and_eq_true, List.cons.injEq]
    rw [h x y, eq_all h xs ys]
theorem de_lst (d : De K R enc n) : De K (pL R) (fun xs => PyData.list (xs.map enc)) (n + 1) :=
  ⟨fun s ⟨a, vs, h1, h2, h3, h4⟩ => by
    subst h1
    exact .lst (.inl (.inl (s.i _ _ h2))) (de_all d s h4),
  fun ⟨a, vs, h1, h2, h3, h4⟩ => by
    simp only [PyData.canLay0]
    exact ly_all d h4,
  fun ⟨a, vs, h1, h2, h3, h4⟩ => by
    simp only [PyData.depth]
    exact Nat.succ_le_succ (dp_all d h4),
  fun a b => by
    simp only [PyData.eqv]
    exact eq_all d.eq a b⟩
theorem de_vw (d : De K R enc n) : De K (pV R) (fun xs => PyData.list (xs.map enc)) (n + 1) :=
  ⟨fun s h => by
    obtain ⟨a, vs, rfl, h2, h3, h4⟩ := pV.at s h
    exact .lst (.inl (.inl h2)) (de_all d s h4),
  fun ⟨a, vs, h1, h2, h3, h4⟩ => by
    simp only [PyData.canLay0]
    exact ly_all d h4,
  fun ⟨a, vs, h1, h2, h3, h4⟩ => by
    simp only [PyData.depth]
    exact Nat.succ_le_succ (dp_all d h4),
  fun a b => by
    simp only [PyData.eqv]
    exact eq_all d.eq a b⟩
theorem de_seq (d : De K R enc n) : De K (pQ K R) (fun xs => PyData.tuple (xs.map enc)) (n + 1) :=
  ⟨fun s ⟨a, vs, h1, h2, h3, h4⟩ => by
    subst h1
    exact .tup (ex_t s.i h2) (de_all d s h4),
  fun ⟨a, vs, h1, h2, h3, h4⟩ => by
    simp only [PyData.canLay0]
    exact ly_all d h4,
  fun ⟨a, vs, h1, h2, h3, h4⟩ => by
    simp only [PyData.depth]
    exact Nat.succ_le_succ (dp_all d h4),
  fun a b => by
    simp only [PyData.eqv]
    exact eq_all d.eq a b⟩
/-- places -/
structure Dt (K : PySem.W.Frag) {α : Type} (T : Rt α) (enc : α → List PyData) (n : Nat) : Prop where
  dp : ∀ {a vs I C H}, St I C H → T.r a vs I C → DpAll K H vs (enc a)
  ly : ∀ {a vs I C}, T.r a vs I C → PyData.canLayAll0 (enc a) = true
  de : ∀ {a vs I C}, T.r a vs I C → PyData.depthAll (enc a) ≤ n
  eq : ∀ a b, PyData.eqvAll (enc a) (enc b) = true ↔ a = b
theorem dt_one (d : De K R enc n) : Dt K (t1 R) (fun x => [enc x]) n :=
  ⟨fun s ⟨v, h1, h2⟩ => by
    subst h1
    exact .cons (d.dp s h2) .nil,
  fun ⟨v, h1, h2⟩ => by
    simp only [PyData.canLayAll0, Bool.and_true]
    exact d.ly h2,
  fun ⟨v, h1, h2⟩ => by
    simp only [PyData.depthAll]
    exact Nat.max_le.mpr ⟨d.de h2, Nat.zero_le _⟩,
  fun a b => by
    simp only [PyData.eqvAll, Bool.and_true]
    exact d.eq a b⟩
theorem dt_cons {T : Rt β} {ens : β → List PyData} (d : De K R enc n) (t : Dt K T ens m) : Dt K (tc R T) (fun x => enc x.1 :: ens x.2) (max n m) :=
  ⟨fun s ⟨v, us, h1, h2, h3⟩ => by
    subst h1
    exact .cons (d.dp s h2) (t.dp s h3),
  fun ⟨v, us, h1, h2, h3⟩ => by
    simp only [PyData.canLayAll0, Bool.and_eq_true]
    exact ⟨d.ly h2, t.ly h3⟩,
  fun ⟨v, us, h1, h2, h3⟩ => by
    simp only [PyData.depthAll]
    exact Nat.max_le.mpr ⟨Nat.le_trans (d.de h2) (Nat.le_max_left _ _), Nat.le_trans (t.de h3) (Nat.le_max_right _ _)⟩,
  fun a b => by
    simp only [PyData.eqvAll, Bool.and_eq_true]
    rw [d.eq, t.eq]
    exact ⟨fun ⟨h1, h2⟩ => Prod.ext h1 h2, fun h => by
      subst h
      exact ⟨rfl, rfl⟩⟩⟩
theorem de_tup {T : Rt α} {ens : α → List PyData} (t : Dt K T ens n) : De K (pT T) (fun x => PyData.tuple (ens x)) (n + 1) :=
  ⟨fun s ⟨a, vs, h1, h2, h3⟩ => by
    subst h1
    exact .tup (.inl (.inl (s.i _ _ h2))) (t.dp s h3),
  fun ⟨a, vs, h1, h2, h3⟩ => by
    simp only [PyData.canLay0]
    exact t.ly h3,
  fun ⟨a, vs, h1, h2, h3⟩ => by
    simp only [PyData.depth]
    exact Nat.succ_le_succ (t.de h3),
  fun a b => by
    simp only [PyData.eqv]
    exact t.eq a b⟩
theorem de_tupU {T : Rt α} {ens : α → List PyData} (t : Dt K T ens n) : De K (pU K T) (fun x => PyData.tuple (ens x)) (n + 1) :=
  ⟨fun s ⟨a, vs, h1, h2, h3⟩ => by
    subst h1
    exact .tup (ex_t s.i h2) (t.dp s h3),
  fun ⟨a, vs, h1, h2, h3⟩ => by
    simp only [PyData.canLay0]
    exact t.ly h3,
  fun ⟨a, vs, h1, h2, h3⟩ => by
    simp only [PyData.depth]
    exact Nat.succ_le_succ (t.de h3),
  fun a b => by
    simp only [PyData.eqv]
    exact t.eq a b⟩
theorem de_lstD {T : Rt α} {ens : α → List PyData} (t : Dt K T ens n) : De K (pD T) (fun x => PyData.list (ens x)) (n + 1) :=
  ⟨fun s ⟨a, vs, h1, h2, h3⟩ => by
    subst h1
    exact .lst (.inl (.inl (s.i _ _ h2))) (t.dp s h3),
  fun ⟨a, vs, h1, h2, h3⟩ => by
    simp only [PyData.canLay0]
    exact t.ly h3,
  fun ⟨a, vs, h1, h2, h3⟩ => by
    simp only [PyData.depth]
    exact Nat.succ_le_succ (t.de h3),
  fun a b => by
    simp only [PyData.eqv]
    exact t.eq a b⟩
def oEnc (enc : α → PyData) : Option α → PyData
  | none => .none
  | some a => enc a
/-- None or such a thing (that is not None itself) -/
theorem de_opt (d : De K R enc n) (hn : ∀ a, PyData.eqv (enc a) .none = false ∧ PyData.eqv .none (enc a) = false) : De K (pO R) (oEnc enc) n :=
  ⟨fun {a v I C H} s h => by
    cases a with
    | none =>
      have h' : v = .non := h
      subst h'
      exact .non
    | some a => exact d.dp s h.1,
  fun {a v I C} h => by
    cases a with
    | none => simp only [oEnc, PyData.canLay0]
    | some a => exact d.ly h.1,
  fun {a v I C} h => by
    cases a with
    | none =>
      simp only [oEnc, PyData.depth]
      exact Nat.zero_le _
    | some a => exact d.de h.1,
  fun a b => by
    cases a with
    | none =>
      cases b with
      | none => simp only [oEnc, PyData.eqv]
      | some b =>
        simp only [oEnc]
        rw [(hn b).2]
        exact ⟨fun q => (nomatch q), fun q => (nomatch q)⟩
    | some a =>
      cases b with
      | none =>
        simp only [oEnc]
        rw [(hn a).1]
        exact ⟨fun q => (nomatch q), fun q => (nomatch q)⟩
      | some b =>
        simp only [oEnc]
        rw [d.eq, Option.some.injEq]⟩
theorem o_eqD [DecidableEq α] {R' : Rp α} (d : De K R enc n) (d' : De K R' enc n) (hn : n ≤ 64) : Op2 E K (rEqD K) eqR R R' pB := fun I C H a b x y s hx hy Q q =>
  ⟨enc a, enc b, d.dp s hx, d'.dp s hy, Bool.and_eq_true_iff.mpr ⟨d.ly hx, decide_eq_true (Nat.le_trans (d.de hx) hn)⟩, Bool.and_eq_true_iff.mpr ⟨d'.ly hy, decide_eq_true (Nat.le_trans (d'.de hy) hn)⟩,
    PQ.now q s (congrArg V.bl (by
      by_cases e : a = b
      · rw [(d.eq a b).mpr e, decide_eq_true e]
      · rw [decide_eq_false e]
        exact Bool.eq_false_iff.mpr fun z => e ((d.eq a b).mp z)))⟩
theorem o_neD [DecidableEq α] {R' : Rp α} (d : De K R enc n) (d' : De K R' enc n) (hn : n ≤ 64) : Op2 E K (rNeD K) neR R R' pB := fun I C H a b x y s hx hy Q q =>
  ⟨enc a, enc b, d.dp s hx, d'.dp s hy, Bool.and_eq_true_iff.mpr ⟨d.ly hx, decide_eq_true (Nat.le_trans (d.de hx) hn)⟩, Bool.and_eq_true_iff.mpr ⟨d'.ly hy, decide_eq_true (Nat.le_trans (d'.de hy) hn)⟩,
    PQ.now q s (congrArg (fun z => V.bl (!z)) (by
      by_cases e : a = b
      · rw [(d.eq a b).mpr e, decide_eq_true e]
      · rw [decide_eq_false e]
        exact Bool.eq_false_iff.mpr fun z => e ((d.eq a b).mp z)))⟩
/-! ### in -/
def inR {α : Type} [DecidableEq α] (x : α) (xs : List α) : Res Bool := .ok (decide (x ∈ xs))
def ninR {α : Type} [DecidableEq α] (x : α) (xs : List α) : Res Bool := .ok (!decide (x ∈ xs))
@[simp] theorem inR_eq {α : Type} [DecidableEq α] (x : α) (xs : List α) : inR x xs = .ok (decide (x ∈ xs)) := rfl
@[simp] theorem ninR_eq {α : Type} [DecidableEq α] (x : α) (xs : List α) : ninR x xs = .ok (!decide (x ∈ xs)) := rfl
/-- flat things -/
structure Fl {α : Type} (R : Rp α) (f : α → V) : Prop where
  is : ∀ {a v I C}, R.r a v I C → v = f a
  flat : ∀ a, flatV (f a) = true
  eq : ∀ a b, eqV (f a) (f b) = true ↔ a = b
theorem fl_int : Fl pI V.int := ⟨fun h => h, fun _ => rfl, fun a b => by simp only [eqV, beq_iff_eq]⟩
theorem fl_str : Fl pS V.str := ⟨fun h => h.1, fun _ => rfl, fun a b => by simp only [eqV, beq_iff_eq]⟩
theorem inV_iff [DecidableEq α] {f : α → V} (F : Fl R f) (x : α) : ∀ xs : List α, inV (f x) (xs.map f) = decide (x ∈ xs)
  | [] => rfl
  | y :: ys => by
    have ih := inV_iff F x ys
    unfold inV at ih ⊢
    rw [List.map_cons, List.any_cons, ih]
    by_cases e : y = x
    · rw [(F.eq y x).mpr e, Bool.true_or, decide_eq_true (show x ∈ y :: ys by rw [e]; exact List.mem_cons_self)]
    · rw [Bool.eq_false_iff.mpr fun z => e ((F.eq y x).mp z), Bool.false_or]
      exact dec_congr ⟨fun h => List.mem_cons_of_mem _ h, fun h => (List.mem_cons.mp h).resolve_left fun q => e q.symm⟩
theorem allFlat {f : α → V} (F : Fl R f) : ∀ xs : List α, (xs.map f).all flatV = true
  | [] => rfl
  | x :: xs => by rw [List.map_cons, List.all_cons, F.flat, allFlat F xs]; rfl
theorem o_in [DecidableEq α] {f : α → V} (F : Fl R f) : Op2 E K (rIn K false) inR R (pV R) pB := fun I C H a b x y s hx hy Q q => by
  obtain ⟨p, us, rfl, h2, h3, h4⟩ := pV.at s hy
  have ex := F.is hx
  have eu := A2.map_iff (fun _ _ h => F.is h) h4
  subst ex eu
  exact ⟨p, _, rfl, .inl (.inl (.inl h2)), F.flat a, allFlat F b, PQ.now q s (congrArg V.bl (inV_iff F a b))⟩
theorem o_nin [DecidableEq α] {f : α → V} (F : Fl R f) : Op2 E K (rIn K true) ninR R (pV R) pB := fun I C H a b x y s hx hy Q q => by
  obtain ⟨p, us, rfl, h2, h3, h4⟩ := pV.at s hy
  have ex := F.is hx
  have eu := A2.map_iff (fun _ _ h => F.is h) h4
  subst ex eu
  exact ⟨p, _, rfl, .inl (.inl (.inl h2)), F.flat a, allFlat F b, PQ.now q s (congrArg (fun z => V.bl (!z)) (inV_iff F a b))⟩
theorem o_inQ [DecidableEq α] {f : α → V} (F : Fl R f) : Op2 E K (rIn K false) inR R (pQ K R) pB := fun I C H a b x y s hx hy Q q => by
  obtain ⟨p, us, rfl, h2, h3, h4⟩ := hy
  have ex := F.is hx
  have eu := A2.map_iff (fun _ _ h => F.is h) h4
  subst ex eu
  exact ⟨p, _, rfl, .inr (ex_t s.i h2), F.flat a, allFlat F b, PQ.now q s (congrArg V.bl (inV_iff F a b))⟩
theorem o_ninQ [DecidableEq α] {f : α → V} (F : Fl R f) : Op2 E K (rIn K true) ninR R (pQ K R) pB := fun I C H a b x y s hx hy Q q => by
  obtain ⟨p, us, rfl, h2, h3, h4⟩ := hy
  have ex := F.is hx
  have eu := A2.map_iff (fun _ _ h => F.is h) h4
  subst ex eu
  exact ⟨p, _, rfl, .inr (ex_t s.i h2), F.flat a, allFlat F b, PQ.now q s (congrArg (fun z => V.bl (!z)) (inV_iff F a b))⟩
/-! ### slices -/
def cut (xs : List α) (lo hi : Option Int) : List α := (xs.drop (HT.sIx xs.length 0 lo)).take (HT.sIx xs.length xs.length hi - HT.sIx xs.length 0 lo)
theorem A2.cut {f : α → V → Prop} {xs : List α} {vs : List V} (h : A2 f xs vs) (lo hi : Option Int) : A2 f (Sd.cut xs lo hi) (cutV vs lo hi) := by
  unfold Sd.cut cutV
  rw [h.len]
  exact (h.drop _).take _
def EvO (E : XK) (K : PySem.W.Frag) (to : TO) (σ : L2.St) (I C : Hp) (m : Res (Option Int)) : Prop :=
  ∀ I1 C1 H1, Ex I I1 → Ex C C1 → St I1 C1 H1 → ∀ Q : Option Int → Hp → Prop, Post m (fun o => ∀ I2 H2, Ex I1 I2 → St I2 C1 H2 → Q o H2) (PX E K I1 C1) → to σ H1 Q
def someR (m : Res Int) : Res (Option Int) := m.bind fun i => .ok (some i)
@[simp] theorem someR_ok (i : Int) : someR (.ok i) = .ok (some i) := rfl
variable {σ : L2.St} {I C : Hp} {te : TE}
theorem p_none : EvO E K tNoPart σ I C (.ok none) := fun I1 C1 H1 e e' s Q q => q I1 H1 (Ex.refl _) s
theorem p_some {m : Res Int} (h : EvX E K te σ I C m pI) : EvO E K (tPart te) σ I C (someR m) := fun I1 C1 H1 e e' s Q q =>
  h I1 C1 H1 e e' s _ ((Post.bind q).mono (fun i p v I2 H2 e2 s2 rv => ⟨i, rv, p I2 H2 e2 s2⟩) fun _ _ z => z)
def slR (m : Res (List α)) (lo hi : Res (Option Int)) : Res (List α) := m.bind fun xs => lo.bind fun a => hi.bind fun b => .ok (cut xs a b)
@[simp] theorem slR_ok (xs : List α) (a b : Option Int) : slR (.ok xs) (.ok a) (.ok b) = .ok (cut xs a b) := rfl
theorem new_list {xs : List α} {vs : List V} {I C H : Hp} {Q : VK} (q : PQ (pL R) I C Q xs) (s : St I C H) (h : A2 (fun x u => R.r x u I C) xs vs) (hl : vs.length ≤ sizeLine) : ∀ p, H p = none → Q (.ref p) (upd H p (.lst vs)) := fun p hp =>
  q (.ref p) (upd I p (.lst vs)) _ (Ex.new (s.i.free hp)) (s.newI hp) ⟨p, vs, rfl, upd_same, hl, h.imp fun _ _ => R.mono (Ex.new (s.i.free hp)) (Ex.refl _)⟩
theorem x_slW (r0 : V → Option Int → Option Int → Hp → VK → Prop) {V0 : Rp (List α)}
    (hr : ∀ I C H xs x lo hi, St I C H → V0.r xs x I C → ∀ Q, PQ (pL R) I C Q (cut xs lo hi) → r0 x lo hi H Q)
    {tl th : TO} {m : Res (List α)} {lo hi : Res (Option Int)} (h : EvX E K te σ I C m V0) (hl : EvO E K tl σ I C lo) (hh : EvO E K th σ I C hi) : EvX E K (tSl r0 te tl th) σ I C (slR m lo hi) (pL R) := fun I1 C1 H1 e e' s Q q =>
  h I1 C1 H1 e e' s _ ((Post.bind q).mono (fun a p x I2 H2 e2 s2 rx =>
    hl I2 C1 H2 (e.trans e2) e' s2 _ ((Post.bind p).mono (fun o p2 I3 H3 e3 s3 =>
      hh I3 C1 H3 (e.trans (e2.trans e3)) e' s3 _ ((Post.bind p2).mono (fun o2 p3 I4 H4 e4 s4 =>
        hr I4 C1 H4 a x o o2 s4 (V0.mono (e3.trans e4) (Ex.refl _) rx) Q fun v I5 H5 e5 s5 rv => p3 v I5 H5 (e2.trans (e3.trans (e4.trans e5))) s5 rv) fun c i z => z.mono (e2.trans e3) (Ex.refl _))) fun c i z => z.mono e2 (Ex.refl _)))
    fun _ _ z => z)
theorem x_sl {tl th : TO} {m : Res (List α)} {lo hi : Res (Option Int)} (h : EvX E K te σ I C m (pV R)) (hl : EvO E K tl σ I C lo) (hh : EvO E K th σ I C hi) : EvX E K (tSl (rSlL K) te tl th) σ I C (slR m lo hi) (pL R) :=
  x_slW (rSlL K) (fun I C H xs x lo hi s hx Q q => by
    obtain ⟨p, us, rfl, h2, h3, h4⟩ := pV.at s hx
    exact ⟨p, us, rfl, .inl (.inl h2), new_list q s (h4.cut lo hi) (Nat.le_trans (cutV_length _ _ _) h3)⟩) h hl hh
theorem x_slS {tl th : TO} {m : Res (List α)} {lo hi : Res (Option Int)} (h : EvX E K te σ I C m (pW K R)) (hl : EvO E K tl σ I C lo) (hh : EvO E K th σ I C hi) : EvX E K (tSl (rSlL K) te tl th) σ I C (slR m lo hi) (pL R) :=
  x_slW (rSlL K) (fun I C H xs x lo hi s hx Q q => by
    obtain ⟨p, us, rfl, h2, h3, h4⟩ := hx
    exact ⟨p, us, rfl, ex_l s.i h2, new_list q s (h4.cut lo hi) (Nat.le_trans (cutV_length _ _ _) h3)⟩) h hl hh
/-! ### + of lists, list(xs), tuple(xs), [x] * n -/
def rCatR (xs ys : List α) : Res (List α) := if xs.length + ys.length ≤ 1000000 then .ok (xs ++ ys) else .bad
theorem rCatR_ok {xs ys : List α} (h : xs.length + ys.length ≤ 1000000) : rCatR xs ys = .ok (xs ++ ys) := if_pos h
theorem o_cat : Op2 E K rCat rCatR (pV R) (pV R) (pL R) := fun I C H a b x y s hx hy Q q => by
  unfold rCatR at q
  split at q
  · rename_i h
    obtain ⟨p, us, rfl, h2, h3, h4⟩ := pV.at s hx
    obtain ⟨p', us', rfl, h2', h3', h4'⟩ := pV.at s hy
    have hl : us.length + us'.length ≤ sizeLine := by
      rw [h4.len, h4'.len]
      exact Nat.le_trans h (by decide)
    exact ⟨p, p', us, us', rfl, rfl, h2, h2', hl, new_list q s (h4.append h4') (by rw [List.length_append]; exact hl)⟩
  · exact q.elim
def rRepR (xs : List α) (k : Int) : Res (List α) := if k < 1000000 ∧ -1000000 < k ∧ xs.length * k.toNat ≤ 1000000 then .ok (List.replicate k.toNat xs).flatten else .bad
theorem rRepR_ok {xs : List α} {k : Int} (h : k < 1000000 ∧ -1000000 < k ∧ xs.length * k.toNat ≤ 1000000) : rRepR xs k = .ok (List.replicate k.toNat xs).flatten := if_pos h
theorem A2.rep {f : α → V → Prop} {xs : List α} {vs : List V} (h : A2 f xs vs) : ∀ n : Nat, A2 f (List.replicate n xs).flatten (List.replicate n vs).flatten
  | 0 => .nil
  | n + 1 => by
    rw [List.replicate_succ, List.replicate_succ, List.flatten_cons, List.flatten_cons]
    exact h.append (A2.rep h n)
theorem flat_len {vs : List V} : ∀ n : Nat, (List.replicate n vs).flatten.length = vs.length * n
  | 0 => by simp
  | n + 1 => by
    rw [List.replicate_succ, List.flatten_cons, List.length_append, flat_len n, Nat.mul_succ, Nat.add_comm]
theorem o_rep : Op2 E K rRep rRepR (pV R) pI (pL R) := fun I C H a b x y s hx hy Q q => by
  unfold rRepR at q
  split at q
  · rename_i h
    obtain ⟨p, us, rfl, h2, h3, h4⟩ := pV.at s hx
    subst hy
    have hl : us.length * b.toNat ≤ sizeLine := by
      rw [h4.len]
      exact Nat.le_trans h.2.2 (by decide)
    exact ⟨p, b, us, rfl, rfl, h2, by omega, by omega, hl, new_list q s (h4.rep _) (by rw [flat_len]; exact hl)⟩
  · exact q.elim
def idR (xs : α) : Res α := .ok xs
@[simp] theorem idR_eq (xs : α) : idR xs = .ok xs := rfl
theorem o_list : OpL E K (fun xs H Q => ∃ p ys, xs = [.ref p] ∧ (SqL K H p ys ∨ SqT K H p ys) ∧ ∀ l, H l = none → Q (.ref l) (upd H l (.lst ys))) idR (t1 (pV R)) (pL R) := fun I C H a vs s hv Q q => by
  obtain ⟨v, rfl, h⟩ := hv
  obtain ⟨p, us, rfl, h2, h3, h4⟩ := pV.at s h
  exact ⟨p, us, rfl, .inl (.inl (.inl h2)), new_list q s h4 h3⟩
theorem o_listW : OpL E K (fun xs H Q => ∃ p ys, xs = [.ref p] ∧ (SqL K H p ys ∨ SqT K H p ys) ∧ ∀ l, H l = none → Q (.ref l) (upd H l (.lst ys))) idR (t1 (pW K R)) (pL R) := fun I C H a vs s hv Q q => by
  obtain ⟨v, rfl, p, us, rfl, h2, h3, h4⟩ := hv
  exact ⟨p, us, rfl, .inl (ex_l s.i h2), new_list q s h4 h3⟩
theorem o_listQ : OpL E K (fun xs H Q => ∃ p ys, xs = [.ref p] ∧ (SqL K H p ys ∨ SqT K H p ys) ∧ ∀ l, H l = none → Q (.ref l) (upd H l (.lst ys))) idR (t1 (pQ K R)) (pL R) := fun I C H a vs s hv Q q => by
  obtain ⟨v, rfl, p, us, rfl, h2, h3, h4⟩ := hv
  exact ⟨p, us, rfl, .inr (ex_t s.i h2), new_list q s h4 h3⟩
theorem new_tup {xs : List α} {vs : List V} {I C H : Hp} {Q : VK} (q : PQ (pQ K R) I C Q xs) (s : St I C H) (h : A2 (fun x u => R.r x u I C) xs vs) (hl : vs.length ≤ sizeLine) : ∀ p, H p = none → Q (.ref p) (upd H p (.tup vs)) := fun p hp =>
  q (.ref p) (upd I p (.tup vs)) _ (Ex.new (s.i.free hp)) (s.newI hp) ⟨p, vs, rfl, .inl (.inl upd_same), hl, h.imp fun _ _ => R.mono (Ex.new (s.i.free hp)) (Ex.refl _)⟩
theorem o_tuple : OpL E K (fun xs H Q => ∃ p ys, xs = [.ref p] ∧ ((SqL K H p ys ∧ ∀ l, H l = none → Q (.ref l) (upd H l (.tup ys))) ∨ (SqT K H p ys ∧ Q (.ref p) H))) idR (t1 (pV R)) (pQ K R) := fun I C H a vs s hv Q q => by
  obtain ⟨v, rfl, h⟩ := hv
  obtain ⟨p, us, rfl, h2, h3, h4⟩ := pV.at s h
  exact ⟨p, us, rfl, .inl ⟨.inl (.inl h2), new_tup q s h4 h3⟩⟩
theorem o_tupleQ : OpL E K (fun xs H Q => ∃ p ys, xs = [.ref p] ∧ ((SqL K H p ys ∧ ∀ l, H l = none → Q (.ref l) (upd H l (.tup ys))) ∨ (SqT K H p ys ∧ Q (.ref p) H))) idR (t1 (pQ K R)) (pQ K R) := fun I C H a vs s hv Q q => by
  obtain ⟨v, rfl, p, us, rfl, h2, h3, h4⟩ := hv
  exact ⟨p, us, rfl, .inr ⟨ex_t s.i h2, PQ.now q s ⟨p, us, rfl, h2, h3, h4⟩⟩⟩
/-! ### int, max, min, sum, gcd -/
theorem o_int : OpL E K (fun xs H Q => (∃ i, xs = [.int i] ∧ Q (.int i) H) ∨ ∃ k, xs = [.bl k] ∧ Q (.int (if k then 1 else 0)) H) idR (t1 pI) pI := fun I C H a vs s hv Q q => by
  obtain ⟨v, rfl, rfl⟩ := hv
  exact .inl ⟨a, rfl, PQ.now q s rfl⟩
def max2 (p : Int × Int) : Res Int := .ok (if p.2 > p.1 then p.2 else p.1)
def min2 (p : Int × Int) : Res Int := .ok (if p.2 < p.1 then p.2 else p.1)
@[simp] theorem max2_eq (a b : Int) : max2 (a, b) = .ok (max a b) := by
  unfold max2
  congr 1
  show (if b > a then b else a) = max a b
  split <;> omega
@[simp] theorem min2_eq (a b : Int) : min2 (a, b) = .ok (min a b) := by
  unfold min2
  congr 1
  show (if b < a then b else a) = min a b
  split <;> omega
theorem o_max2 : OpL E K (fun xs H Q => ∃ i j, xs = [.int i, .int j] ∧ Q (.int (if j > i then j else i)) H) max2 (tc pI (t1 pI)) pI := fun I C H a vs s hv Q q => by
  obtain ⟨v, us, rfl, rfl, w, rfl, rfl⟩ := hv
  exact ⟨_, _, rfl, PQ.now q s rfl⟩
theorem o_min2 : OpL E K (fun xs H Q => ∃ i j, xs = [.int i, .int j] ∧ Q (.int (if j < i then j else i)) H) min2 (tc pI (t1 pI)) pI := fun I C H a vs s hv Q q => by
  obtain ⟨v, us, rfl, rfl, w, rfl, rfl⟩ := hv
  exact ⟨_, _, rfl, PQ.now q s rfl⟩
def sumR (xs : List Int) : Res Int := .ok xs.sum
@[simp] theorem sumR_eq (xs : List Int) : sumR xs = .ok xs.sum := rfl
theorem o_sum : OpL E K (rSum K) sumR (t1 (pV pI)) pI := fun I C H a vs s hv Q q => by
  obtain ⟨v, rfl, h⟩ := hv
  obtain ⟨p, us, rfl, h2, h3, h4⟩ := pV.at s h
  have eu := A2.map_iff (h := V.int) (fun _ _ h => h) h4
  subst eu
  exact ⟨p, a, rfl, .inl (.inl h2), PQ.now q s rfl⟩
def gcdR (p : Int × Int) : Res Int := .ok ((Nat.gcd p.1.natAbs p.2.natAbs : Nat) : Int)
@[simp] theorem gcdR_eq (a b : Int) : gcdR (a, b) = .ok ((Nat.gcd a.natAbs b.natAbs : Nat) : Int) := rfl
theorem o_gcd : OpL E K rGcd gcdR (tc pI (t1 pI)) pI := fun I C H a vs s hv Q q => by
  obtain ⟨v, us, rfl, rfl, w, rfl, rfl⟩ := hv
  exact ⟨_, _, rfl, PQ.now q s rfl⟩
/-! ### truth of a list -/
def neR' (xs : List α) : Res Bool := .ok (!xs.isEmpty)
@[simp] theorem neR'_eq (xs : List α) : neR' xs = .ok (!xs.isEmpty) := rfl
theorem t_lst {m : Res (List α)} (h : EvX E K te σ I C m (pV R)) : EvT E K (fun σ H Q => te σ H fun x H' => ∃ k, TruV K x H' k ∧ Q k H') σ I C (un neR' m) := fun I1 C1 H1 e e' s Q q =>
  h I1 C1 H1 e e' s _ ((Post.bind q).mono (fun a p v I2 H2 e2 s2 rv => by
    obtain ⟨b, us, rfl, h2, h3, h4⟩ := pV.at s2 rv
    have hb : (!us.isEmpty) = !a.isEmpty := by
      cases h4 <;> rfl
    refine ⟨!a.isEmpty, .inl ⟨us, .inl (.inl h2), hb.symm⟩, p I2 H2 e2 s2⟩) fun _ _ z => z)
/-! ### isinstance, where the kind is known -/
def pY (n : String) : Rp Unit := ⟨fun _ v _ _ => v = .ty n, fun _ _ h => h⟩
instance {n : String} : Im (pY n) := ⟨fun h => h⟩
end
end Sd

namespace Sd
open PySem L2
/-! ### what a for walks -/
def EvI (E : XK) (K : PySem.W.Frag) (wi : TI) (σ : L2.St) (I C : Hp) (kp : Hp → Prop) {α : Type} (m : Res (List α)) (R : Rp α) : Prop :=
  ∀ I1 C1 H1, Ex I I1 → Ex C C1 → St I1 C1 H1 → ∀ Kt : L2.It → Hp → Prop, Post m (fun xs => ∀ J G Y I2 H2, Ex I1 I2 → St I2 C1 H2 → xs.length ≤ sizeLine → Walk J xs.length G Y →
    (∀ I3 C3 H3, Ex I2 I3 → kp C3 → St I3 C3 H3 → G H3) →
    (∀ i x v I3 C3 H3 H4, xs[i]? = some x → Ex I2 I3 → kp C3 → St I3 C3 H3 → Y i H3 v H4 → ∃ I4, Ex I3 I4 ∧ St I4 C3 H4 ∧ R.r x v I4 C3) → Kt J H2) (PX E K I1 C1) → wi σ H1 Kt
abbrev kpT : Hp → Prop := fun _ => True
def rangeL (lo hi : Int) : List Int := (List.range (hi - lo).toNat).map fun i : Nat => lo + ((i : Nat) : Int)
def rng1 (n : Int) : Res (List Int) := if n ≤ 1000000 ∧ -1000000 ≤ n then .ok (rangeL 0 n) else .bad
def rng2 (p : Int × Int) : Res (List Int) := if p.1 ≤ 1000000 ∧ -1000000 ≤ p.1 ∧ p.2 ≤ 1000000 ∧ -1000000 ≤ p.2 then .ok (rangeL p.1 p.2) else .bad
theorem rng1_ok {n : Int} (h : n ≤ 1000000 ∧ -1000000 ≤ n) : rng1 n = .ok (rangeL 0 n) := if_pos h
theorem rng2_ok {a b : Int} (h : a ≤ 1000000 ∧ -1000000 ≤ a ∧ b ≤ 1000000 ∧ -1000000 ≤ b) : rng2 (a, b) = .ok (rangeL a b) := if_pos h
@[simp] theorem rangeL_length (lo hi : Int) : (rangeL lo hi).length = (hi - lo).toNat := by unfold rangeL; rw [List.length_map, List.length_range]
theorem rangeL_get {lo hi : Int} {i : Nat} {x : Int} (h : (rangeL lo hi)[i]? = some x) : x = lo + (i : Int) := by
  unfold rangeL at h
  rw [List.getElem?_map] at h
  cases q : (List.range (hi - lo).toNat)[i]? with
  | none =>
    rw [q] at h
    cases h
  | some j =>
    rw [q] at h
    have hj : j = i := by
      obtain ⟨_, e⟩ := List.getElem?_eq_some_iff.mp q
      rw [List.getElem_range] at e
      exact e.symm
    rw [← hj]
    exact (Option.some.inj h).symm
theorem mem_rangeL {lo hi x : Int} : x ∈ rangeL lo hi ↔ lo ≤ x ∧ x < hi := by
  unfold rangeL
  rw [List.mem_map]
  constructor
  · rintro ⟨i, h, rfl⟩
    rw [List.mem_range] at h
    omega
  · intro h
    exact ⟨(x - lo).toNat, List.mem_range.mpr (by omega), by show lo + (((x - lo).toNat : Nat) : Int) = x; omega⟩
def enumF {α : Type} (k : Int) : List α → List (Int × α)
  | [] => []
  | x :: xs => (k, x) :: enumF (k + 1) xs
def enumR {α : Type} (xs : List α) : Res (List (Int × α)) := .ok (enumF 0 xs)
@[simp] theorem enumR_eq {α : Type} (xs : List α) : enumR xs = .ok (enumF 0 xs) := rfl
@[simp] theorem enumF_length {α : Type} : ∀ (xs : List α) (k : Int), (enumF k xs).length = xs.length
  | [], _ => rfl
  | _ :: xs, k => by rw [enumF, List.length_cons, List.length_cons, enumF_length xs]
theorem enumF_get {α : Type} : ∀ (xs : List α) (k : Int) (i : Nat), (enumF k xs)[i]? = xs[i]?.map fun x => (k + (i : Int), x)
  | [], _, _ => by simp [enumF]
  | x :: xs, k, 0 => by simp [enumF]
  | x :: xs, k, i + 1 => by
    rw [enumF, List.getElem?_cons_succ, List.getElem?_cons_succ, enumF_get xs (k + 1) i]
    cases xs[i]? with
    | none => rfl
    | some y =>
      simp only [Option.map_some, Option.some.injEq, Prod.mk.injEq, and_true]
      omega
def zipR {α β : Type} (p : List α × List β) : Res (List (α × β)) := .ok (p.1.zip p.2)
@[simp] theorem zipR_eq {α β : Type} (a : List α) (b : List β) : zipR (a, b) = .ok (a.zip b) := rfl
section
variable {E : XK} {K : PySem.W.Frag} {σ : L2.St} {I C : Hp} {α β γ : Type} {R : Rp α} {S : Rp β} {T : Rp γ} {te : TE} {ta : TA} {m : Res (List α)}
theorem i_list [Im R] (h : EvX E K te σ I C m (pL R)) : EvI E K (iList K te) σ I C kpT m R := fun I1 C1 H1 e e' s Kt q =>
  h I1 C1 H1 e e' s _ (q.mono (fun xs p v I2 H2 e2 s2 ⟨a, vs, h1, h2, h3, h4⟩ => ⟨a, h1, ⟨vs, .inl (.inl (s2.i a _ h2))⟩, by
    have hl := h4.len
    refine p (Itl K a) (fun H => SqL K H a vs) (YAt vs) I2 H2 e2 s2 (by omega) (by rw [← hl]; exact walk_list) (fun I3 C3 H3 e3 _ s3 => .inl (.inl (s3.i a _ (e3 a _ h2)))) (fun i x v' I3 C3 H3 H4 hx e3 _ s3 y => ?_)
    obtain ⟨rfl, y⟩ := y
    obtain ⟨w, hw, r⟩ := h4.get' hx
    rw [hw] at y
    cases y
    exact ⟨I3, Ex.refl _, s3, R.to e3 r⟩⟩) fun _ _ z => z)
/-- over a list that is a cell: the turns leave it as it is -/
theorem i_cell [Im R] {i : Nat} {a : Addr} {vs : List V} {xs : List α} (h : σ[i]? = some (some (.ref a))) (hc : C a = some (.lst vs)) (hl : vs.length ≤ sizeLine) (hr : A2 (fun x u => R.r x u I C) xs vs) :
    EvI E K (iList K (tVar i)) σ I C (fun C3 => C3 a = some (.lst vs)) (.ok xs) R := fun I1 C1 H1 e e' s Kt q =>
  ⟨.ref a, h, a, rfl, ⟨vs, .inl (.inl (s.c a _ (e' a _ hc)))⟩, by
    have hn := hr.len
    refine q (Itl K a) (fun H => SqL K H a vs) (YAt vs) I1 H1 (Ex.refl _) s (by omega) (by rw [← hn]; exact walk_list) (fun I3 C3 H3 e3 k3 s3 => .inl (.inl (s3.c a _ k3))) (fun i x v' I3 C3 H3 H4 hx e3 _ s3 y => ?_)
    obtain ⟨rfl, y⟩ := y
    obtain ⟨w, hw, r⟩ := hr.get' hx
    rw [hw] at y
    cases y
    exact ⟨I3, Ex.refl _, s3, R.to (e.trans e3) r⟩⟩
theorem i_script [Im R] (h : EvX E K te σ I C m (pW K R)) : EvI E K (iList K te) σ I C kpT m R := fun I1 C1 H1 e e' s Kt q =>
  h I1 C1 H1 e e' s _ (q.mono (fun xs p v I2 H2 e2 s2 ⟨a, vs, h1, h2, h3, h4⟩ => ⟨a, h1, ⟨vs, ex_l s2.i h2⟩, by
    have hl := h4.len
    refine p (Itl K a) (fun H => SqL K H a vs) (YAt vs) I2 H2 e2 s2 (by omega) (by rw [← hl]; exact walk_list) (fun I3 C3 H3 e3 _ s3 => ex_l (e3.trans s3.i) h2) (fun i x v' I3 C3 H3 H4 hx e3 _ s3 y => ?_)
    obtain ⟨rfl, y⟩ := y
    obtain ⟨w, hw, r⟩ := h4.get' hx
    rw [hw] at y
    cases y
    exact ⟨I3, Ex.refl _, s3, R.to e3 r⟩⟩) fun _ _ z => z)
theorem i_tup [Im R] (h : EvX E K te σ I C m (pQ K R)) : EvI E K (iTup K te) σ I C kpT m R := fun I1 C1 H1 e e' s Kt q =>
  h I1 C1 H1 e e' s _ (q.mono (fun xs p v I2 H2 e2 s2 ⟨a, vs, h1, h2, h3, h4⟩ => ⟨a, h1, ⟨vs, ex_t s2.i h2⟩, by
    have hl := h4.len
    refine p (Itt K a) (fun H => SqT K H a vs) (YAt vs) I2 H2 e2 s2 (by omega) (by rw [← hl]; exact walk_tup) (fun I3 C3 H3 e3 _ s3 => ex_t (e3.trans s3.i) h2) (fun i x v' I3 C3 H3 H4 hx e3 _ s3 y => ?_)
    obtain ⟨rfl, y⟩ := y
    obtain ⟨w, hw, r⟩ := h4.get' hx
    rw [hw] at y
    cases y
    exact ⟨I3, Ex.refl _, s3, R.to e3 r⟩⟩) fun _ _ z => z)
theorem i_rng1 {m : Res Int} (h : EvA E K ta σ I C m (t1 pI)) : EvI E K (iRng1 ta) σ I C kpT (un rng1 m) pI := fun I1 C1 H1 e e' s Kt q =>
  h I1 C1 H1 e e' s _ ((Post.bind q).mono (fun n p vs I2 H2 e2 s2 ⟨v, hv, rv⟩ => by
    unfold rng1 at p
    split at p
    · rename_i hn
      have hv1 : v = .int n := rv
      subst hv hv1
      refine ⟨n, rfl, by omega, by omega, p (Itr 0 n.toNat) (fun _ => True) (YFn fun i => .int (0 + i)) I2 H2 e2 s2 (by rw [rangeL_length]; exact Nat.le_trans (show (n - 0).toNat ≤ 1000000 by omega) (by decide)) (by rw [rangeL_length, Int.sub_zero]; exact walk_range) (fun _ _ _ _ _ _ => trivial) (fun i x v' I3 C3 H3 H4 hx e3 _ s3 y => ?_)⟩
      obtain ⟨rfl, rfl⟩ := y
      rw [rangeL_get hx]
      exact ⟨I3, Ex.refl _, s3, rfl⟩
    · exact p.elim) fun _ _ z => z)
theorem i_rng2 {m : Res (Int × Int)} (h : EvA E K ta σ I C m (tc pI (t1 pI))) : EvI E K (iRng2 ta) σ I C kpT (un rng2 m) pI := fun I1 C1 H1 e e' s Kt q =>
  h I1 C1 H1 e e' s _ ((Post.bind q).mono (fun n p vs I2 H2 e2 s2 ⟨v, us, hv, rv, w, hw, rw⟩ => by
    unfold rng2 at p
    split at p
    · rename_i hn
      have hv1 : v = .int n.1 := rv
      have hw1 : w = .int n.2 := rw
      subst hv hw hv1 hw1
      refine ⟨n.1, n.2, rfl, by omega, p (Itr n.1 (n.2 - n.1).toNat) (fun _ => True) (YFn fun i => .int (n.1 + i)) I2 H2 e2 s2 (by rw [rangeL_length]; exact Nat.le_trans (show (n.2 - n.1).toNat ≤ 2000000 by omega) (by decide)) (by rw [rangeL_length]; exact walk_range) (fun _ _ _ _ _ _ => trivial) (fun i x v' I3 C3 H3 H4 hx e3 _ s3 y => ?_)⟩
      obtain ⟨rfl, rfl⟩ := y
      rw [rangeL_get hx]
      exact ⟨I3, Ex.refl _, s3, rfl⟩
    · exact p.elim) fun _ _ z => z)
theorem new_pair {I C H : Hp} {T : Addr} {x y : V} {a : α} {b : β} (s : St I C H) (ht : H T = none) (hx : R.r a x I C) (hy : S.r b y I C) :
    ∃ I4, Ex I I4 ∧ St I4 C (upd H T (.tup [x, y])) ∧ (pT (tc R (t1 S))).r (a, b) (.ref T) I4 C :=
  ⟨upd I T (.tup [x, y]), Ex.new (s.i.free ht), s.newI ht, T, _, rfl, upd_same, x, [y], rfl, R.mono (Ex.new (s.i.free ht)) (Ex.refl _) hx, y, rfl, S.mono (Ex.new (s.i.free ht)) (Ex.refl _) hy⟩
theorem i_enum [Im R] (h : EvA E K ta σ I C m (t1 (pL R))) : EvI E K (iEnum K ta) σ I C kpT (un enumR m) (pT (tc pI (t1 R))) := fun I1 C1 H1 e e' s Kt q =>
  h I1 C1 H1 e e' s _ ((Post.bind q).mono (fun xs p vs I2 H2 e2 s2 ⟨v, hv, a, us, h1, h2, h3, h4⟩ => by
    subst hv h1
    have hl := h4.len
    refine ⟨a, us, rfl, .inl (.inl (s2.i a _ h2)), p (Ite K a) (fun H => SqL K H a us) (YPair (fun i => some (.int (i : Nat))) (fun i => us[i]?)) I2 H2 e2 s2 (by rw [enumF_length]; omega) (by rw [enumF_length, ← hl]; exact walk_enum) (fun I3 C3 H3 e3 _ s3 => .inl (.inl (s3.i a _ (e3 a _ h2)))) (fun i x v' I3 C3 H3 H4 hx e3 _ s3 y => ?_)⟩
    obtain ⟨T, u, w, rfl, hT, rfl, hu, hw⟩ := y
    rw [enumF_get] at hx
    cases hz : xs[i]? with
    | none =>
      rw [hz] at hx
      cases hx
    | some z =>
      rw [hz] at hx
      cases hx
      obtain ⟨w', hw', r⟩ := h4.get' hz
      have hw2 : us[i]? = some w := hw
      rw [hw'] at hw2
      cases hw2
      cases hu
      exact new_pair s3 hT (show V.int (i : Nat) = V.int (0 + (i : Int)) by rw [Int.zero_add]) (R.to e3 r)) fun _ _ z => z)
theorem i_zip [Im R] [Im S] {m : Res (List α × List β)} (h : EvA E K ta σ I C m (tc (pL R) (t1 (pL S)))) : EvI E K (iZip K ta) σ I C kpT (un zipR m) (pT (tc R (t1 S))) := fun I1 C1 H1 e e' s Kt q =>
  h I1 C1 H1 e e' s _ ((Post.bind q).mono (fun xs p vs I2 H2 e2 s2 ⟨v, us0, hv, ⟨a, us, h1, h2, h3, h4⟩, v', hv', a', us', h1', h2', h3', h4'⟩ => by
    subst hv hv' h1 h1'
    have hl := h4.len
    have hl' := h4'.len
    refine ⟨a, a', us, us', rfl, .inl (.inl (s2.i a _ h2)), .inl (.inl (s2.i a' _ h2')), p (Itz K a a') (fun H => SqL K H a us ∧ SqL K H a' us') (YPair (fun i => us[i]?) (fun i => us'[i]?)) I2 H2 e2 s2 (by rw [List.length_zip]; omega) (walk_zip (by rw [List.length_zip, hl, hl']))
      (fun I3 C3 H3 e3 _ s3 => ⟨.inl (.inl (s3.i a _ (e3 a _ h2))), .inl (.inl (s3.i a' _ (e3 a' _ h2')))⟩) (fun i x v' I3 C3 H3 H4 hx e3 _ s3 y => ?_)⟩
    obtain ⟨T, u, w, rfl, hT, rfl, hu, hw⟩ := y
    obtain ⟨x1, x2⟩ := x
    obtain ⟨hx1, hx2⟩ := List.getElem?_zip_eq_some.mp hx
    obtain ⟨w1, hw1, r1⟩ := h4.get' hx1
    obtain ⟨w2, hw2, r2⟩ := h4'.get' hx2
    have hu2 : us[i]? = some u := hu
    have hw3 : us'[i]? = some w := hw
    rw [hw1] at hu2
    cases hu2
    rw [hw2] at hw3
    cases hw3
    exact new_pair s3 hT (R.to e3 r1) (S.to e3 r2)) fun _ _ z => z)
/-! ### targets -/
def Tg (K : PySem.W.Frag) {α : Type} (g : TG) (R : Rp α) (σ : L2.St) (P : α → L2.St → Hp → Hp → Prop) : Prop := ∀ x v I C H Q, St I C H → R.r x v I C → (∀ σ2, P x σ2 I C → Q σ2 H) → g v σ H Q
theorem g_name {i : Nat} : Tg K (gName i) R σ (fun x σ2 I C => ∃ v, σ2 = σ.set i (some v) ∧ R.r x v I C) := fun x v I C H Q s r k => k _ ⟨v, rfl, r⟩
theorem g_two {i j : Nat} : Tg K (gTup K 2 (gCons (gName i) (gCons (gName j) gNil))) (pT (tc R (t1 S))) σ (fun x σ2 I C => ∃ u w, σ2 = (σ.set i (some u)).set j (some w) ∧ R.r x.1 u I C ∧ S.r x.2 w I C) := fun x v I C H Q s r k => by
  obtain ⟨a, vs, rfl, h2, u, us, rfl, h3, w, rfl, h4⟩ := r
  exact ⟨a, _, rfl, .inl (.inl (s.i _ _ h2)), rfl, u, _, rfl, w, _, rfl, rfl, k _ ⟨u, w, rfl, h3, h4⟩⟩
theorem g_three {i j l : Nat} : Tg K (gTup K 3 (gCons (gName i) (gCons (gName j) (gCons (gName l) gNil)))) (pT (tc R (tc S (t1 T)))) σ
    (fun x σ2 I C => ∃ u w z, σ2 = ((σ.set i (some u)).set j (some w)).set l (some z) ∧ R.r x.1 u I C ∧ S.r x.2.1 w I C ∧ T.r x.2.2 z I C) := fun x v I C H Q s r k => by
  obtain ⟨a, vs, rfl, h2, u, us, rfl, h3, w, us', rfl, h4, z, rfl, h5⟩ := r
  exact ⟨a, _, rfl, .inl (.inl (s.i _ _ h2)), rfl, u, _, rfl, w, _, rfl, z, _, rfl, rfl, k _ ⟨u, w, z, rfl, h3, h4, h5⟩⟩
/-! ### comprehensions (an element that raises is not served) -/
def mapR (f : α → Res β) : List α → Res (List β)
  | [] => .ok []
  | x :: xs => match f x with
    | .ok y => (mapR f xs).bind fun ys => .ok (y :: ys)
    | _ => .bad
def filR (p : α → Res Bool) (f : α → Res β) : List α → Res (List β)
  | [] => .ok []
  | x :: xs => match p x with
    | .ok true => (match f x with
      | .ok y => (filR p f xs).bind fun ys => .ok (y :: ys)
      | _ => .bad)
    | .ok false => filR p f xs
    | _ => .bad
theorem mapR_ok {f : α → Res β} {g : α → β} : ∀ {xs : List α}, (∀ x, x ∈ xs → f x = .ok (g x)) → mapR f xs = .ok (xs.map g)
  | [], _ => rfl
  | x :: xs, h => by
    unfold mapR
    rw [h x List.mem_cons_self]
    show (mapR f xs).bind _ = _
    rw [mapR_ok (xs := xs) fun y hy => h y (List.mem_cons_of_mem _ hy)]
    rfl
theorem filR_ok {p : α → Res Bool} {f : α → Res β} {q : α → Bool} {g : α → β} : ∀ {xs : List α}, (∀ x, x ∈ xs → p x = .ok (q x)) → (∀ x, x ∈ xs → q x = true → f x = .ok (g x)) → filR p f xs = .ok ((xs.filter q).map g)
  | [], _, _ => rfl
  | x :: xs, h, h' => by
    have ih := filR_ok (xs := xs) (fun y hy => h y (List.mem_cons_of_mem _ hy)) (fun y hy => h' y (List.mem_cons_of_mem _ hy))
    unfold filR
    rw [h x List.mem_cons_self]
    cases hq : q x with
    | true =>
      show (match f x with
        | .ok y => (filR p f xs).bind fun ys => .ok (y :: ys)
        | _ => .bad) = _
      rw [h' x List.mem_cons_self hq, List.filter_cons, hq]
      show (filR p f xs).bind _ = _
      rw [ih]
      rfl
    | false =>
      show filR p f xs = _
      rw [ih, List.filter_cons, hq]
      rfl
@[simp] theorem mapR_okf (g : α → β) (xs : List α) : mapR (fun x => .ok (g x)) xs = .ok (xs.map g) := mapR_ok fun _ _ => rfl
@[simp] theorem filR_okf (q : α → Bool) (g : α → β) (xs : List α) : filR (fun x => .ok (q x)) (fun x => .ok (g x)) xs = .ok ((xs.filter q).map g) := filR_ok (fun _ _ => rfl) (fun _ _ _ => rfl)
abbrev EZ : XK := fun _ _ _ => False
theorem drop_cons {xs : List α} {i : Nat} {x : α} (h : xs[i]? = some x) : xs.drop i = x :: xs.drop (i + 1) := by
  obtain ⟨hi, e⟩ := List.getElem?_eq_some_iff.mp h
  rw [← e]
  exact List.drop_eq_getElem_cons hi
/-- what stands between two turns: ys made so far, the rest gives what is wanted -/
def Lc (S : Rp β) (I C : Hp) (D : Addr) (rest : Res (List β)) (W : List β → Prop) (n : Nat) (H : Hp) : Prop :=
  ∃ (ys : List β) (vs : List V) (I' : Hp), Ex I I' ∧ St I' (upd C D (.lst vs)) H ∧ vs.length ≤ n ∧ A2 (fun x u => S.r x u I' C) ys vs ∧ Post rest (fun zs => W (ys ++ zs)) (fun _ _ => False)
theorem PX.no {K : PySem.W.Frag} {I C : Hp} {c : Ec} {i : Int} (h : False) : PX EZ K I C c i := h.elim
theorem x_lcg [Im S] {wi : TI} {g : TG} {tt : TT} {vs : List Nat} {p : α → Res Bool} {f : α → Res β} {P : α → L2.St → Hp → Hp → Prop} (hi : EvI E K wi σ I C kpT m R) (hg : Tg K g R (wipe σ vs) P)
    (hw : ∀ x σ2 I' C', P x σ2 I' C' → wipe σ2 vs = wipe σ vs)
    (hp : ∀ x σ2 I' C', Ex I I' → Ex C C' → P x σ2 I' C' → EvT EZ K tt σ2 I' C' (p x))
    (hf : ∀ x σ2 I' C', Ex I I' → Ex C C' → P x σ2 I' C' → EvX EZ K te σ2 I' C' (f x) S)
    (hm : ∀ x σ2 I' I2 C', Ex I' I2 → P x σ2 I' C' → P x σ2 I2 C') : EvX E K (tLc wi g tt te vs) σ I C (m.bind (filR p f)) (pL S) := fun I1 C1 H1 e e' s Q q =>
  hi I1 C1 H1 e e' s _ ((Post.bind q).mono (fun xs q2 J G Y I2 H2 e2 s2 hz w hG hY D hD => by
    have cD : C1 D = none := s2.c.free hD
    refine lc_it w (fun i H => Lc S I2 C1 D (filR p f (xs.drop i)) (PQ (pL S) I1 C1 Q) i H) ⟨[], [], I2, Ex.refl _, s2.newC hD, Nat.le_refl _, .nil, ?_⟩ (fun i H hi ⟨_, vs', I', e3, s3, _⟩ => hG I' _ H e3 trivial s3) (fun i x H H' hi ⟨ys, us, I', e3, s3, hn, r3, po⟩ y => ?_) (fun H ⟨ys, us, I', e3, s3, hn, r3, po⟩ => ?_)
    · cases hfil : filR p f xs with
      | ok zs =>
        rw [hfil] at q2
        show Post (filR p f (xs.drop 0)) _ _
        rw [List.drop_zero, hfil]
        exact q2
      | exc c i =>
        exfalso
        revert hfil
        clear q2 hG hY w hz
        induction xs with
        | nil =>
          intro z
          cases z
        | cons x xs ih =>
          unfold filR
          cases p x with
          | ok b =>
            cases b with
            | true =>
              cases f x with
              | ok y =>
                intro z
                cases hh : filR p f xs with
                | ok zs =>
                  simp only [hh] at z
                  cases z
                | exc c' i' =>
                  simp only [hh] at z
                  have z2 : (Res.exc c' i' : Res (List β)) = .exc c i := z
                  cases z2
                  exact ih hh
                | bad =>
                  simp only [hh] at z
                  cases z
              | exc _ _ => intro z; cases z
              | bad => intro z; cases z
            | false => exact ih
          | exc _ _ => intro z; cases z
          | bad => intro z; cases z
      | bad =>
        rw [hfil] at q2
        exact q2.elim
    · obtain ⟨a, ha⟩ : ∃ a, xs[i]? = some a := ⟨xs[i], by simp [hi]⟩
      rw [drop_cons ha] at po
      obtain ⟨I4, e4, s4, ra⟩ := hY i a x I' _ H H' ha e3 trivial s3 y
      refine hg a x I4 _ H' _ s4 ra fun σ2 pa => ⟨hw _ _ _ _ pa, ?_⟩
      have eI : Ex I I4 := e.trans (e2.trans (e3.trans e4))
      have eC : Ex C (upd C1 D (.lst us)) := e'.trans (Ex.new cD)
      unfold filR at po
      refine hp a σ2 I4 _ eI eC pa I4 _ H' (Ex.refl _) (Ex.refl _) s4 _ ?_
      cases hpa : p a with
      | ok b =>
        rw [hpa] at po
        cases b with
        | true =>
          show ∀ I5 H5, Ex I4 I5 → St I5 (upd C1 D (.lst us)) H5 → te σ2 H5 _
          intro I5 H5 e5 s5
          refine hf a σ2 I5 _ (eI.trans e5) eC (hm _ _ _ _ _ e5 pa) I5 _ H5 (Ex.refl _) (Ex.refl _) s5 _ ?_
          cases hfa : f a with
          | ok b =>
            have po2 : Post ((filR p f (xs.drop (i + 1))).bind fun ys => .ok (b :: ys)) (fun zs => PQ (pL S) I1 C1 Q (ys ++ zs)) (fun _ _ => False) := by
              have z := po
              simp only [hfa] at z
              exact z
            intro v I6 H6 e6 s6 rv
            have hsz : us.length < sizeLine := Nat.lt_of_le_of_lt hn (Nat.lt_of_lt_of_le hi hz)
            refine ⟨us, s6.c D _ upd_same, hsz, ⟨ys ++ [b], us ++ [v], I6, e3.trans (e4.trans (e5.trans e6)), ?_, by rw [List.length_append]; exact Nat.succ_le_succ hn, ?_, ?_⟩⟩
            · have z := s6.set (o := .lst (us ++ [v])) (p := D) upd_same
              rw [upd_upd] at z
              exact z
            · exact (r3.imp fun _ _ => S.mono (e4.trans (e5.trans e6)) (Ex.refl _)).append (.one (Im.im rv))
            · refine (Post.bind po2).mono (fun zs z => ?_) fun _ _ z => z
              rw [List.append_assoc]
              exact z
          | exc c j =>
            have z := po
            simp only [hfa] at z
            exact z.elim
          | bad =>
            have z := po
            simp only [hfa] at z
            exact z.elim
        | false =>
          show ∀ I5 H5, Ex I4 I5 → St I5 (upd C1 D (.lst us)) H5 → Lc S I2 C1 D (filR p f (xs.drop (i + 1))) (PQ (pL S) I1 C1 Q) (i + 1) H5
          intro I5 H5 e5 s5
          exact ⟨ys, us, I5, e3.trans (e4.trans e5), s5, Nat.le_succ_of_le hn, r3.imp fun _ _ => S.mono (e4.trans e5) (Ex.refl _), po⟩
      | exc c j =>
        rw [hpa] at po
        exact po.elim
      | bad =>
        rw [hpa] at po
        exact po.elim
    · rw [List.drop_length] at po
      have po2 : PQ (pL S) I1 C1 Q (ys ++ []) := po
      rw [List.append_nil] at po2
      have sf := s3.frz (p := D) upd_same
      have iD : I' D = none := s3.freeI upd_same
      refine po2 (.ref D) (upd I' D (.lst us)) H (e2.trans (e3.trans (Ex.new iD))) (sf.less fun a o ha => ?_) ⟨D, us, rfl, upd_same, Nat.le_trans hn hz, r3.imp fun _ _ => S.mono (Ex.new iD) (Ex.refl _)⟩
      have hne : a ≠ D := fun z => by
        rw [z, cD] at ha
        cases ha
      show (if a = D then none else upd C1 D (.lst us) a) = some o
      rw [if_neg hne, upd_ne hne]
      exact ha) fun _ _ z => z)
theorem filR_yes (f : α → Res β) : ∀ xs : List α, filR (fun _ => .ok true) f xs = mapR f xs
  | [] => rfl
  | x :: xs => by
    unfold filR mapR
    rw [filR_yes f xs]
theorem t_yes : EvT E K tYes σ I C (.ok true) := fun I1 C1 H1 e e' s Q q => q I1 H1 (Ex.refl _) s
theorem x_lc [Im S] {wi : TI} {g : TG} {vs : List Nat} {f : α → Res β} {P : α → L2.St → Hp → Hp → Prop} (hi : EvI E K wi σ I C kpT m R) (hg : Tg K g R (wipe σ vs) P)
    (hw : ∀ x σ2 I' C', P x σ2 I' C' → wipe σ2 vs = wipe σ vs)
    (hf : ∀ x σ2 I' C', Ex I I' → Ex C C' → P x σ2 I' C' → EvX EZ K te σ2 I' C' (f x) S)
    (hm : ∀ x σ2 I' I2 C', Ex I' I2 → P x σ2 I' C' → P x σ2 I2 C') : EvX E K (tLc wi g tYes te vs) σ I C (m.bind (mapR f)) (pL S) := by
  have z := x_lcg (p := fun _ => .ok true) hi hg hw (fun x σ2 I' C' _ _ _ => t_yes) hf hm
  have e : filR (fun _ => Res.ok true) f = mapR f := funext (filR_yes f)
  rw [e] at z
  exact z
end
end Sd

namespace Sd
open PySem L2
/-! ### promises -/
/-- f(a ..) hands back what the mirror m tells; nothing changes -/
def spP (K : PySem.W.Frag) {α β : Type} (T : Rt α) (m : α → Res β) (R : Rp β) : Sp := fun vs H Q E => ∃ (I C : Hp) (a : α), St I C H ∧ T.r a vs I C ∧ Post (m a) (PQ R I C Q) (PX E K I C)
/-- f(pool, a ..): the list at the first place changes; nothing is raised -/
def spM {α β μ : Type} (M : Rt μ) (T : Rt α) (m : α → μ → Res (β × μ)) (R : Rp β) : Sp := fun vs H Q _ => ∃ (I C : Hp) (p : Addr) (ws us : List V) (x : μ) (a : α), vs = .ref p :: us ∧ St I C H ∧ C p = some (.lst ws) ∧ M.r x ws I C ∧ T.r a us I C ∧
  Post (m a x) (fun b => ∀ v ws' I2 H2, Ex I I2 → St I2 (upd C p (.lst ws')) H2 → M.r b.2 ws' I2 (upd C p (.lst ws')) → R.r b.1 v I2 (upd C p (.lst ws')) → Q v H2) (fun _ _ => False)
inductive Out (S ρ : Type) where
  | nx (s : S)
  | br (s : S)
  | rt (r : ρ)
section
variable {α β S ρ : Type}
def loopN (f : α → S → Res S) : List α → S → Res S
  | [], s => .ok s
  | x :: xs, s => (f x s).bind fun s' => loopN f xs s'
def loopR (f : α → S → Res (Out S ρ)) : List α → S → Res (Out S ρ)
  | [], s => .ok (.nx s)
  | x :: xs, s => (f x s).bind fun o => match o with
    | .nx s' => loopR f xs s'
    | .br s' => .ok (.nx s')
    | .rt r => .ok (.rt r)
def whileF (c : S → Res Bool) (f : S → Res (Out S ρ)) : Nat → S → Res (Out S ρ)
  | 0, _ => .bad
  | n + 1, s => (c s).bind fun b => if b = true then (f s).bind fun o => match o with
    | .nx s' => whileF c f n s'
    | .br s' => .ok (.nx s')
    | .rt r => .ok (.rt r) else .ok (.nx s)
def whileN (c : S → Res Bool) (f : S → Res S) : Nat → S → Res S
  | 0, _ => .bad
  | n + 1, s => (c s).bind fun b => if b = true then (f s).bind fun s' => whileN c f n s' else .ok s
theorem loopN_ok {f : α → S → Res S} {g : S → α → S} : ∀ {xs : List α} {s : S}, (∀ x, x ∈ xs → ∀ s, f x s = .ok (g s x)) → loopN f xs s = .ok (xs.foldl g s)
  | [], s, _ => rfl
  | x :: xs, s, h => by
    unfold loopN
    rw [h x List.mem_cons_self]
    exact loopN_ok (xs := xs) fun y hy => h y (List.mem_cons_of_mem _ hy)
theorem loopN_cons (f : α → S → Res S) (x : α) (xs : List α) (s : S) : loopN f (x :: xs) s = (f x s).bind fun s' => loopN f xs s' := rfl
theorem loopR_cons (f : α → S → Res (Out S ρ)) (x : α) (xs : List α) (s : S) : loopR f (x :: xs) s = (f x s).bind fun o => match o with
    | .nx s' => loopR f xs s'
    | .br s' => .ok (.nx s')
    | .rt r => .ok (.rt r) := rfl
end
abbrev XH (X : Ec → Int → Prop) (E : XK) (K : PySem.W.Frag) (I C : Hp) : Prop := ∀ c i, X c i → PX E K I C c i
section
variable {E : XK} {K : PySem.W.Frag} {σ : L2.St} {I C H : Hp} {α β γ ω S ρ μ : Type} {R : Rp α} {te : TE} {ta : TA} {tt : TT} {tz tu tw : TS} {D : Ends} {m : Res α} {Q : ω → Prop} {X : Ec → Int → Prop}
/-! ### calls of defs -/
theorem x_call {T : Rt α} {f : α → Res β} {R : Rp β} (h : EvA E K ta σ I C m T) : EvX E K (tCall (spP K T f R) [] E ta) σ I C (un f m) R := fun I1 C1 H1 e e' s Q q =>
  h I1 C1 H1 e e' s _ ((Post.bind q).mono (fun a p vs I2 H2 e2 s2 rv => by
    refine ⟨I2, C1, a, s2, by rw [List.append_nil]; exact rv, Post.mono (m := f a) p (fun b z v I3 H3 e3 s3 rw => z v I3 H3 (e2.trans e3) s3 rw) fun c i z => z.mono e2 (Ex.refl _)⟩) fun _ _ z => z)
/-! ### statements -/
theorem s_asg {i : Nat} {k : α → Res ω} (h : EvX E K te σ I C m R) (s : St I C H) (hX : XH X E K I C) (hm : Post (m.bind k) Q X)
    (next : ∀ a v I2 H2, Ex I I2 → St I2 C H2 → R.r a v I2 C → Post (k a) Q X → tz D (σ.set i (some v)) H2) : tSeq (tAsg te (gName i)) tz D σ H :=
  h I C H (Ex.refl _) (Ex.refl _) s _ ((Post.bind hm).mono (fun a p v I2 H2 e2 s2 rv => next a v I2 H2 e2 s2 rv p) hX)
theorem s_asgG {g : TG} {P : α → L2.St → Hp → Hp → Prop} {k : α → Res ω} (hg : Tg K g R σ P) (h : EvX E K te σ I C m R) (s : St I C H) (hX : XH X E K I C) (hm : Post (m.bind k) Q X)
    (next : ∀ a σ2 I2 H2, Ex I I2 → St I2 C H2 → P a σ2 I2 C → Post (k a) Q X → tz D σ2 H2) : tSeq (tAsg te g) tz D σ H :=
  h I C H (Ex.refl _) (Ex.refl _) s _ ((Post.bind hm).mono (fun a p v I2 H2 e2 s2 rv => hg a v I2 C H2 _ s2 rv fun σ2 pa => next a σ2 I2 H2 e2 s2 pa p) hX)
theorem s_ret {k : α → Res ω} (h : EvX E K te σ I C m R) (s : St I C H) (hX : XH X E K I C) (hm : Post (m.bind k) Q X)
    (next : ∀ a v I2 H2, Ex I I2 → St I2 C H2 → R.r a v I2 C → Post (k a) Q X → D.rt v H2) : tSeq (tRet te) tz D σ H :=
  h I C H (Ex.refl _) (Ex.refl _) s _ ((Post.bind hm).mono (fun a p v I2 H2 e2 s2 rv => next a v I2 H2 e2 s2 rv p) hX)
theorem s_expr {k : α → Res ω} (h : EvX E K te σ I C m R) (s : St I C H) (hX : XH X E K I C) (hm : Post (m.bind k) Q X)
    (next : ∀ a I2 H2, Ex I I2 → St I2 C H2 → Post (k a) Q X → tz D σ H2) : tSeq (tDrop te) tz D σ H :=
  h I C H (Ex.refl _) (Ex.refl _) s _ ((Post.bind hm).mono (fun a p v I2 H2 e2 s2 rv => next a I2 H2 e2 s2 p) hX)
theorem s_if {c : Res Bool} {m1 m2 : Res ω} (h : EvT E K tt σ I C c) (s : St I C H) (hX : XH X E K I C) (hm : Post (ifR c m1 m2) Q X)
    (h1 : ∀ I2 H2, Ex I I2 → St I2 C H2 → Post m1 Q X → tu { D with nx := tz D } σ H2) (h2 : ∀ I2 H2, Ex I I2 → St I2 C H2 → Post m2 Q X → tw { D with nx := tz D } σ H2) : tSeq (tIfS tt tu tw) tz D σ H :=
  h I C H (Ex.refl _) (Ex.refl _) s _ ((Post.bind hm).mono (fun b p I2 H2 e2 s2 => by
    cases b with
    | true => exact h1 I2 H2 e2 s2 p
    | false => exact h2 I2 H2 e2 s2 p) hX)
/-- an if whose ways meet: the word P of what stands behind it -/
theorem s_ifj (P : S → L2.St → Hp → Hp → Prop) {c : Res Bool} {m1 m2 : Res S} {k : S → Res ω} (h : EvT E K tt σ I C c) (s : St I C H) (hX : XH X E K I C) (hm : Post ((ifR c m1 m2).bind k) Q X)
    (h1 : ∀ (N : L2.St → Hp → Prop) I2 H2, Ex I I2 → St I2 C H2 → Post m1 (fun s' => ∀ σ2 I3 C3 H3, Ex I I3 → St I3 C3 H3 → P s' σ2 I3 C3 → N σ2 H3) X → tu { D with nx := N } σ H2)
    (h2 : ∀ (N : L2.St → Hp → Prop) I2 H2, Ex I I2 → St I2 C H2 → Post m2 (fun s' => ∀ σ2 I3 C3 H3, Ex I I3 → St I3 C3 H3 → P s' σ2 I3 C3 → N σ2 H3) X → tw { D with nx := N } σ H2)
    (next : ∀ s' σ2 I3 C3 H3, Ex I I3 → St I3 C3 H3 → P s' σ2 I3 C3 → Post (k s') Q X → tz D σ2 H3) : Evl.tCut (tIfS tt tu tw) tz D σ H := by
  refine ⟨fun σ2 H3 => ∃ s' I3 C3, Ex I I3 ∧ St I3 C3 H3 ∧ P s' σ2 I3 C3 ∧ Post (k s') Q X, ?_, fun σ2 H3 ⟨s', I3, C3, e3, s3, p, q⟩ => next s' σ2 I3 C3 H3 e3 s3 p q⟩
  refine h I C H (Ex.refl _) (Ex.refl _) s _ ((Post.bind (Post.bind hm)).mono (fun b p I2 H2 e2 s2 => ?_) hX)
  cases b with
  | true => exact h1 _ I2 H2 e2 s2 (Post.mono (m := m1) p (fun s' z σ2 I3 C3 H3 e3 s3 pp => ⟨s', I3, C3, e3, s3, pp, z⟩) fun _ _ z => z)
  | false => exact h2 _ I2 H2 e2 s2 (Post.mono (m := m2) p (fun s' z σ2 I3 C3 H3 e3 s3 pp => ⟨s', I3, C3, e3, s3, pp, z⟩) fun _ _ z => z)
/-- the same, a way may return -/
theorem s_ifr (P : S → L2.St → Hp → Hp → Prop) {c : Res Bool} {m1 m2 : Res (Out S ρ)} {k : Out S ρ → Res ω} (h : EvT E K tt σ I C c) (s : St I C H) (hX : XH X E K I C) (hm : Post ((ifR c m1 m2).bind k) Q X)
    (h1 : ∀ (N : L2.St → Hp → Prop) I2 H2, Ex I I2 → St I2 C H2 → Post m1 (fun o => match o with
      | .nx s' => ∀ σ2 I3 C3 H3, Ex I I3 → St I3 C3 H3 → P s' σ2 I3 C3 → N σ2 H3
      | o => Post (k o) Q X) X → tu { D with nx := N } σ H2)
    (h2 : ∀ (N : L2.St → Hp → Prop) I2 H2, Ex I I2 → St I2 C H2 → Post m2 (fun o => match o with
      | .nx s' => ∀ σ2 I3 C3 H3, Ex I I3 → St I3 C3 H3 → P s' σ2 I3 C3 → N σ2 H3
      | o => Post (k o) Q X) X → tw { D with nx := N } σ H2)
    (next : ∀ s' σ2 I3 C3 H3, Ex I I3 → St I3 C3 H3 → P s' σ2 I3 C3 → Post (k (.nx s')) Q X → tz D σ2 H3) : Evl.tCut (tIfS tt tu tw) tz D σ H := by
  refine ⟨fun σ2 H3 => ∃ s' I3 C3, Ex I I3 ∧ St I3 C3 H3 ∧ P s' σ2 I3 C3 ∧ Post (k (.nx s')) Q X, ?_, fun σ2 H3 ⟨s', I3, C3, e3, s3, p, q⟩ => next s' σ2 I3 C3 H3 e3 s3 p q⟩
  refine h I C H (Ex.refl _) (Ex.refl _) s _ ((Post.bind (Post.bind hm)).mono (fun b p I2 H2 e2 s2 => ?_) hX)
  cases b with
  | true => exact h1 _ I2 H2 e2 s2 (Post.mono (m := m1) p (fun o z => by
      cases o with
      | nx s' => exact fun σ2 I3 C3 H3 e3 s3 pp => ⟨s', I3, C3, e3, s3, pp, z⟩
      | br s' => exact z
      | rt r => exact z) fun _ _ z => z)
  | false => exact h2 _ I2 H2 e2 s2 (Post.mono (m := m2) p (fun o z => by
      cases o with
      | nx s' => exact fun σ2 I3 C3 H3 e3 s3 pp => ⟨s', I3, C3, e3, s3, pp, z⟩
      | br s' => exact z
      | rt r => exact z) fun _ _ z => z)
/-! ### loops -/
theorem s_forN (P : S → L2.St → Hp → Hp → Prop) {wi : TI} {g : TG} {kp : Hp → Prop} {m : Res (List α)} {f : α → S → Res S} {s0 : S} {k : S → Res ω} (hi : EvI E K wi σ I C kp m R) (s : St I C H) (hX : XH X E K I C) (hm : Post ((m.bind fun xs => loopN f xs s0).bind k) Q X)
    (h0 : ∀ I2, Ex I I2 → P s0 σ I2 C) (hk : ∀ s' σ' I' C', P s' σ' I' C' → kp C') (hP : ∀ s' σ' I' I2 C', Ex I' I2 → P s' σ' I' C' → P s' σ' I2 C')
    (body : ∀ (N : L2.St → Hp → Prop) x v s' σ' I' C' H', Ex I I' → St I' C' H' → P s' σ' I' C' → R.r x v I' C' → Post (f x s') (fun s2 => ∀ σ2 I3 C3 H3, Ex I' I3 → St I3 C3 H3 → P s2 σ2 I3 C3 → N σ2 H3) X →
      g v σ' H' fun σ2 H2 => tu { D with nx := N, ct := N, bk := tz D } σ2 H2)
    (next : ∀ s' σ' I' C' H', Ex I I' → St I' C' H' → P s' σ' I' C' → Post (k s') Q X → tz D σ' H') : tSeq (tFor wi g tu) tz D σ H :=
  hi I C H (Ex.refl _) (Ex.refl _) s _ ((Post.bind (Post.bind hm)).mono (fun xs q2 J G Y I2 H2 e2 s2 hz w hG hY => by
    refine for_it w (fun i σ' H' => ∃ s' I' C', Ex I2 I' ∧ St I' C' H' ∧ P s' σ' I' C' ∧ Post ((loopN f (xs.drop i) s').bind k) Q X) ⟨s0, I2, C, Ex.refl _, s2, h0 I2 e2, by rw [List.drop_zero]; exact Post.of_bind q2⟩
      (fun i σ' H' hi ⟨s', I', C', e3, s3, p, _⟩ => hG I' C' H' e3 (hk _ _ _ _ p) s3) (fun i x σ' H1 H' hi ⟨s', I', C', e3, s3, p, po⟩ y => ?_) (fun σ' H' ⟨s', I', C', e3, s3, p, po⟩ => ?_)
    · obtain ⟨a, ha⟩ : ∃ a, xs[i]? = some a := ⟨xs[i], by simp [hi]⟩
      rw [drop_cons ha] at po
      obtain ⟨I4, e4, s4, ra⟩ := hY i a x I' C' H1 H' ha e3 (hk _ _ _ _ p) s3 y
      exact body _ a x s' σ' I4 C' H' (e2.trans (e3.trans e4)) s4 (hP _ _ _ _ _ e4 p) ra ((Post.bind (Post.bind po)).mono (fun s3 z σ2 I5 C5 H5 e5 s5 p5 => ⟨s3, I5, C5, e3.trans (e4.trans e5), s5, p5, Post.of_bind z⟩) fun _ _ z => z)
    · rw [List.drop_length] at po
      exact next s' σ' I' C' H' (e2.trans e3) s3 p po) hX)
/-- .. a turn may break or return -/
theorem s_forR (P : S → L2.St → Hp → Hp → Prop) {wi : TI} {g : TG} {kp : Hp → Prop} {m : Res (List α)} {f : α → S → Res (Out S ρ)} {s0 : S} {k : Out S ρ → Res ω} (hi : EvI E K wi σ I C kp m R) (s : St I C H) (hX : XH X E K I C) (hm : Post ((m.bind fun xs => loopR f xs s0).bind k) Q X)
    (h0 : ∀ I2, Ex I I2 → P s0 σ I2 C) (hk : ∀ s' σ' I' C', P s' σ' I' C' → kp C') (hP : ∀ s' σ' I' I2 C', Ex I' I2 → P s' σ' I' C' → P s' σ' I2 C')
    (body : ∀ (N : L2.St → Hp → Prop) x v s' σ' I' C' H', Ex I I' → St I' C' H' → P s' σ' I' C' → R.r x v I' C' → Post (f x s') (fun o => match o with
        | .nx s2 => ∀ σ2 I3 C3 H3, Ex I' I3 → St I3 C3 H3 → P s2 σ2 I3 C3 → N σ2 H3
        | .br s2 => ∀ σ2 I3 C3 H3, Ex I' I3 → St I3 C3 H3 → P s2 σ2 I3 C3 → tz D σ2 H3
        | .rt r => Post (k (.rt r)) Q X) X →
      g v σ' H' fun σ2 H2 => tu { D with nx := N, ct := N, bk := tz D } σ2 H2)
    (next : ∀ s' σ' I' C' H', Ex I I' → St I' C' H' → P s' σ' I' C' → Post (k (.nx s')) Q X → tz D σ' H') : tSeq (tFor wi g tu) tz D σ H :=
  hi I C H (Ex.refl _) (Ex.refl _) s _ ((Post.bind (Post.bind hm)).mono (fun xs q2 J G Y I2 H2 e2 s2 hz w hG hY => by
    refine for_it w (fun i σ' H' => ∃ s' I' C', Ex I2 I' ∧ St I' C' H' ∧ P s' σ' I' C' ∧ Post ((loopR f (xs.drop i) s').bind k) Q X) ⟨s0, I2, C, Ex.refl _, s2, h0 I2 e2, by rw [List.drop_zero]; exact Post.of_bind q2⟩
      (fun i σ' H' hi ⟨s', I', C', e3, s3, p, _⟩ => hG I' C' H' e3 (hk _ _ _ _ p) s3) (fun i x σ' H1 H' hi ⟨s', I', C', e3, s3, p, po⟩ y => ?_) (fun σ' H' ⟨s', I', C', e3, s3, p, po⟩ => ?_)
    · obtain ⟨a, ha⟩ : ∃ a, xs[i]? = some a := ⟨xs[i], by simp [hi]⟩
      rw [drop_cons ha] at po
      obtain ⟨I4, e4, s4, ra⟩ := hY i a x I' C' H1 H' ha e3 (hk _ _ _ _ p) s3 y
      refine body _ a x s' σ' I4 C' H' (e2.trans (e3.trans e4)) s4 (hP _ _ _ _ _ e4 p) ra ((Post.bind (Post.bind po)).mono (fun o z => ?_) fun _ _ z => z)
      cases o with
      | nx s3 => exact fun σ2 I5 C5 H5 e5 s5 p5 => ⟨s3, I5, C5, e3.trans (e4.trans e5), s5, p5, Post.of_bind z⟩
      | br s3 => exact fun σ2 I5 C5 H5 e5 s5 p5 => next s3 σ2 I5 C5 H5 (e2.trans (e3.trans (e4.trans e5))) s5 p5 z
      | rt r => exact z
    · rw [List.drop_length] at po
      exact next s' σ' I' C' H' (e2.trans e3) s3 p po) hX)
theorem s_while (P : S → L2.St → Hp → Hp → Prop) {n : Nat} {c : S → Res Bool} {f : S → Res (Out S ρ)} {s0 : S} {k : Out S ρ → Res ω} (s : St I C H) (hm : Post ((whileF c f n s0).bind k) Q X)
    (h0 : P s0 σ I C)
    (cond : ∀ s' σ' I' C', Ex I I' → P s' σ' I' C' → EvT E K tt σ' I' C' (c s') ∧ XH X E K I' C') (hP : ∀ s' σ' I' I2 C', Ex I' I2 → P s' σ' I' C' → P s' σ' I2 C')
    (body : ∀ (N : L2.St → Hp → Prop) s' σ' I' C' H', Ex I I' → St I' C' H' → P s' σ' I' C' → Post (f s') (fun o => match o with
        | .nx s2 => ∀ σ2 I3 C3 H3, Ex I' I3 → St I3 C3 H3 → P s2 σ2 I3 C3 → N σ2 H3
        | .br s2 => ∀ σ2 I3 C3 H3, Ex I' I3 → St I3 C3 H3 → P s2 σ2 I3 C3 → tz D σ2 H3
        | .rt r => Post (k (.rt r)) Q X) X → tu { D with nx := N, ct := N, bk := tz D } σ' H')
    (next : ∀ s' σ' I' C' H', Ex I I' → St I' C' H' → P s' σ' I' C' → Post (k (.nx s')) Q X → tz D σ' H') : tSeq (tWhile tt tu) tz D σ H := by
  refine ⟨fun n σ' H' => ∃ s' I' C', Ex I I' ∧ St I' C' H' ∧ P s' σ' I' C' ∧ Post ((whileF c f n s').bind k) Q X, ⟨n, s0, I, C, Ex.refl _, s, h0, hm⟩, ?_⟩
  rintro n σ' H' ⟨s', I', C', e1, s1, p, po⟩
  cases n with
  | zero => exact po.elim
  | succ n =>
    obtain ⟨hc, hx⟩ := cond s' σ' I' C' e1 p
    refine hc I' C' H' (Ex.refl _) (Ex.refl _) s1 _ ((Post.bind (Post.bind po)).mono (fun b q I2 H2 e2 s2 => ?_) hx)
    cases b with
    | true =>
      refine ⟨fun σ2 H3 => ∃ s' I' C', Ex I I' ∧ St I' C' H3 ∧ P s' σ2 I' C' ∧ Post ((whileF c f n s').bind k) Q X, fun σ2 H3 z => ⟨n, Nat.lt_succ_self _, z⟩, ?_⟩
      refine body _ s' σ' I2 C' H2 (e1.trans e2) s2 (hP _ _ _ _ _ e2 p) ((Post.bind q).mono (fun o z => ?_) fun _ _ z => z)
      cases o with
      | nx s3 => exact fun σ2 I5 C5 H5 e5 s5 p5 => ⟨s3, I5, C5, e1.trans (e2.trans e5), s5, p5, Post.of_bind z⟩
      | br s3 => exact fun σ2 I5 C5 H5 e5 s5 p5 => next s3 σ2 I5 C5 H5 (e1.trans (e2.trans e5)) s5 p5 z
      | rt r => exact z
    | false => exact next s' σ' I2 C' H2 (e1.trans e2) s2 (hP _ _ _ _ _ e2 p) q
/-! ### cells -/
/-- xs = []  (xs will change) -/
theorem s_newL {i : Nat} (s : St I C H) (next : ∀ p H2, C p = none → H p = none → St I (upd C p (.lst [])) H2 → tz D (σ.set i (some (.ref p))) H2) : tSeq (tAsg (tLst tNil) (gName i)) tz D σ H :=
  ⟨Nat.zero_le _, fun p hp => next p _ (s.c.free hp) hp (s.newC hp)⟩
/-- xs = e, a new list of e's (xs will change) -/
theorem s_asgC {i : Nat} {k : List α → Res ω} {m : Res (List α)} {te : TE} (h : EvX E K te σ I C m (pL R)) (s : St I C H) (hX : XH X E K I C) (hm : Post (m.bind k) Q X)
    (fresh : True) (next : ∀ a v I2 H2, Ex I I2 → St I2 C H2 → (pL R).r a v I2 C → Post (k a) Q X → tz D (σ.set i (some v)) H2) : tSeq (tAsg te (gName i)) tz D σ H :=
  s_asg h s hX hm next
/-- xs.append(e) -/
def push (xs : List α) (x : α) : Res (List α) := if xs.length < 1000000 then .ok (xs ++ [x]) else .bad
theorem push_ok {xs : List α} {x : α} (h : xs.length < 1000000) : push xs x = .ok (xs ++ [x]) := if_pos h
theorem s_app {i : Nat} {p : Addr} {xs : List α} {vs : List V} {k : List α → Res ω} [Im R] {m : Res α} (hv : σ[i]? = some (some (.ref p))) (hc : C p = some (.lst vs)) (hr : A2 (fun x u => R.r x u I C) xs vs) (h : EvX E K te σ I C m R) (s : St I C H) (hX : XH X E K I C)
    (hm : Post ((m.bind fun x => push xs x).bind k) Q X)
    (next : ∀ ys vs' I2 H2, Ex I I2 → St I2 (upd C p (.lst vs')) H2 → vs'.length ≤ sizeLine → A2 (fun x u => R.r x u I2 (upd C p (.lst vs'))) ys vs' → Post (k ys) Q X → tz D σ H2) :
    tSeq (tDrop (tBM K "list" rAppend (tVar i) (tCons te tNil))) tz D σ H :=
  ⟨.ref p, hv, .inl ⟨rfl, vs, .inl (.inl (s.c p _ hc))⟩, h I C H (Ex.refl _) (Ex.refl _) s _ ((Post.bind (Post.bind hm)).mono (fun a po v I2 H2 e2 s2 rv => by
    unfold push at po
    split at po
    · rename_i hl
      have hn := hr.len
      have hl2 : vs.length < sizeLine := by
        rw [hn]
        exact Nat.lt_of_lt_of_le hl (by decide)
      refine ⟨p, vs, v, rfl, rfl, s2.c p _ hc, hl2, next (xs ++ [a]) (vs ++ [v]) I2 _ e2 (s2.set hc) (by rw [List.length_append]; exact hl2) ?_ po⟩
      exact (hr.imp fun _ _ h => R.to e2 h).append (.one (Im.im rv))
    · exact po.elim) hX)⟩
/-- xs[e1] = e2 -/
def setR (xs : List α) (i : Int) (x : α) : Res (List α) := match ixN xs.length i with
  | some j => .ok (xs.set j x)
  | none => .bad
theorem s_setL {i : Nat} {p : Addr} {xs : List α} {vs : List V} {k : List α → Res ω} [Im R] {ti : TE} {m : Res α} {mi : Res Int} (hv : σ[i]? = some (some (.ref p))) (hc : C p = some (.lst vs)) (hl : vs.length ≤ sizeLine) (hr : A2 (fun x u => R.r x u I C) xs vs)
    (h : EvX E K te σ I C m R) (hi : EvX E K ti σ I C mi pI) (s : St I C H) (hX : XH X E K I C) (hm : Post ((m.bind fun x => mi.bind fun j => setR xs j x).bind k) Q X)
    (next : ∀ ys vs' I2 H2, Ex I I2 → St I2 (upd C p (.lst vs')) H2 → vs'.length ≤ sizeLine → A2 (fun x u => R.r x u I2 (upd C p (.lst vs'))) ys vs' → Post (k ys) Q X → tz D σ H2) :
    tSeq (tAsg te (gSub (tVar i) ti rSetL)) tz D σ H :=
  h I C H (Ex.refl _) (Ex.refl _) s _ ((Post.bind (Post.bind hm)).mono (fun a po v I2 H2 e2 s2 rv => by
    refine ⟨.ref p, hv, hi I2 C H2 e2 (Ex.refl _) s2 _ ((Post.bind po).mono (fun j po2 w I3 H3 e3 s3 rw => ?_) fun c i z => (hX c i z).mono e2 (Ex.refl _))⟩
    have hw : w = .int j := rw
    subst hw
    unfold setR at po2
    have hn := hr.len
    cases hj : ixN xs.length j with
    | none =>
      rw [hj] at po2
      exact po2.elim
    | some l =>
      rw [hj] at po2
      refine ⟨p, vs, j, l, rfl, rfl, s3.c p _ hc, by rw [hn]; exact hj, next (xs.set l a) (vs.set l v) I3 _ (e2.trans e3) (s3.set hc) (by rw [List.length_set]; exact hl) ?_ po2⟩
      exact A2.set (Im.im (R.mono e3 (Ex.refl _) rv)) l (hr.imp fun _ _ h => R.to (e2.trans e3) h)) hX)
end
end Sd

namespace Sd
open PySem L2
/-! ### what draws from the pool (the list at p, its places M) -/
def off (C : Hp) (p : Addr) : Hp := fun a => if a = p then none else C a
theorem off_same {C : Hp} {p : Addr} : off C p p = none := if_pos rfl
theorem off_ne {C : Hp} {p q : Addr} (h : q ≠ p) : off C p q = C q := if_neg h
theorem off_ex {C : Hp} {p : Addr} : Ex (off C p) C := fun a o h => by
  unfold off at h
  split at h
  · cases h
  · exact h
theorem off_upd {C : Hp} {p : Addr} {o : HO} : Ex (off C p) (upd C p o) := fun a u h => by
  unfold off at h
  split at h
  · cases h
  · rename_i hne
    rw [upd_ne hne]
    exact h
theorem Ex.over {C C1 : Hp} {p : Addr} {o : HO} (h : Ex C C1) (hp : C p = none) : Ex C (upd C1 p o) := fun a u e => by
  rw [upd_ne (ne_of_none e hp)]
  exact h a u e
theorem upd_id {C : Hp} {p : Addr} {o : HO} (h : C p = some o) : upd C p o = C := by
  funext a
  by_cases q : a = p
  · rw [q, upd_same, h]
  · exact upd_ne q
def EvM (E : XK) (K : PySem.W.Frag) (p : Addr) {μ : Type} (M : Rt μ) (te : TE) (σ : L2.St) (I Cp : Hp) {β : Type} (m : μ → Res (β × μ)) (R : Rp β) : Prop :=
  ∀ x ws I1 C1 H1, Ex I I1 → Ex Cp C1 → St I1 C1 H1 → C1 p = some (.lst ws) → M.r x ws I1 C1 → ∀ Q : VK, Post (m x) (fun b => ∀ v ws' I2 H2, Ex I1 I2 → St I2 (upd C1 p (.lst ws')) H2 → M.r b.2 ws' I2 (upd C1 p (.lst ws')) → R.r b.1 v I2 (upd C1 p (.lst ws')) → Q v H2) (fun _ _ => False) → te σ H1 Q
def EvTM (E : XK) (K : PySem.W.Frag) (p : Addr) {μ : Type} (M : Rt μ) (tt : TT) (σ : L2.St) (I Cp : Hp) (m : μ → Res (Bool × μ)) : Prop :=
  ∀ x ws I1 C1 H1, Ex I I1 → Ex Cp C1 → St I1 C1 H1 → C1 p = some (.lst ws) → M.r x ws I1 C1 → ∀ Q : Bool → Hp → Prop, Post (m x) (fun b => ∀ ws' I2 H2, Ex I1 I2 → St I2 (upd C1 p (.lst ws')) H2 → M.r b.2 ws' I2 (upd C1 p (.lst ws')) → Q b.1 H2) (fun _ _ => False) → tt σ H1 Q
def EvAM (E : XK) (K : PySem.W.Frag) (p : Addr) {μ : Type} (M : Rt μ) (ta : TA) (σ : L2.St) (I Cp : Hp) {α : Type} (m : μ → Res (α × μ)) (T : Rt α) : Prop :=
  ∀ x ws I1 C1 H1, Ex I I1 → Ex Cp C1 → St I1 C1 H1 → C1 p = some (.lst ws) → M.r x ws I1 C1 → ∀ Q : List V → Hp → Prop, Post (m x) (fun b => ∀ vs ws' I2 H2, Ex I1 I2 → St I2 (upd C1 p (.lst ws')) H2 → M.r b.2 ws' I2 (upd C1 p (.lst ws')) → T.r b.1 vs I2 (upd C1 p (.lst ws')) → Q vs H2) (fun _ _ => False) → ta σ H1 Q
def EvIM (E : XK) (K : PySem.W.Frag) (p : Addr) {μ : Type} (M : Rt μ) (wi : TI) (σ : L2.St) (I Cp : Hp) {α : Type} (m : μ → Res (List α × μ)) (R : Rp α) : Prop :=
  ∀ x ws I1 C1 H1, Ex I I1 → Ex Cp C1 → St I1 C1 H1 → C1 p = some (.lst ws) → M.r x ws I1 C1 → ∀ Kt : L2.It → Hp → Prop, Post (m x) (fun b => ∀ ws' J G Y I2 H2, Ex I1 I2 → St I2 (upd C1 p (.lst ws')) H2 → M.r b.2 ws' I2 (upd C1 p (.lst ws')) → b.1.length ≤ sizeLine → Walk J b.1.length G Y →
    (∀ I3 C3 H3, Ex I2 I3 → St I3 C3 H3 → G H3) →
    (∀ i x v I3 C3 H3 H4, b.1[i]? = some x → Ex I2 I3 → St I3 C3 H3 → Y i H3 v H4 → ∃ I4, Ex I3 I4 ∧ St I4 C3 H4 ∧ R.r x v I4 C3) → Kt J H2) (fun _ _ => False) → wi σ H1 Kt
section
variable {μ α β γ : Type}
def liftM (m : Res α) : μ → Res (α × μ) := fun x => m.bind fun a => .ok (a, x)
def unM (f : α → Res γ) (m : μ → Res (α × μ)) : μ → Res (γ × μ) := fun x => (m x).bind fun b => (f b.1).bind fun c => .ok (c, b.2)
def binM (f : α → β → Res γ) (m : μ → Res (α × μ)) (n : μ → Res (β × μ)) : μ → Res (γ × μ) := fun x => (m x).bind fun b => (n b.2).bind fun d => (f b.1 d.1).bind fun c => .ok (c, d.2)
def pairM (m : μ → Res (α × μ)) (n : μ → Res (β × μ)) : μ → Res ((α × β) × μ) := fun x => (m x).bind fun b => (n b.2).bind fun d => .ok ((b.1, d.1), d.2)
def consM (m : μ → Res (α × μ)) (n : μ → Res (List α × μ)) : μ → Res (List α × μ) := fun x => (m x).bind fun b => (n b.2).bind fun d => .ok (b.1 :: d.1, d.2)
def callM (f : α → μ → Res (β × μ)) (m : μ → Res (α × μ)) : μ → Res (β × μ) := fun x => (m x).bind fun b => f b.1 b.2
def andM (m n : μ → Res (Bool × μ)) : μ → Res (Bool × μ) := fun x => (m x).bind fun b => if b.1 = true then n b.2 else .ok (false, b.2)
def orM (m n : μ → Res (Bool × μ)) : μ → Res (Bool × μ) := fun x => (m x).bind fun b => if b.1 = true then .ok (true, b.2) else n b.2
def ifM (c : μ → Res (Bool × μ)) (m n : μ → Res (α × μ)) : μ → Res (α × μ) := fun x => (c x).bind fun b => if b.1 = true then m b.2 else n b.2
@[simp] theorem liftM_ok (a : α) (x : μ) : liftM (.ok a) x = .ok (a, x) := rfl
theorem liftM_eq (m : Res α) (x : μ) : liftM m x = m.bind fun a => .ok (a, x) := rfl
end
section
variable {E : XK} {K : PySem.W.Frag} {p : Addr} {μ : Type} {M : Rt μ} {σ : L2.St} {I Cp : Hp} {α β γ : Type} {R : Rp α} {S : Rp β} {T : Rp γ} {te ta tb : TE} {tt tu : TT} {m : μ → Res (α × μ)} {n : μ → Res (β × μ)}
theorem m_pure {m : Res α} (h : EvX E K te σ I Cp m R) : EvM E K p M te σ I Cp (liftM m) R := fun x ws I1 C1 H1 e e' s hc hx Q q =>
  h I1 C1 H1 e e' s Q ((Post.bind q).mono (fun a z v I2 H2 e2 s2 rv => by
    have z2 := z v ws I2 H2 e2
    rw [upd_id hc] at z2
    exact z2 s2 (M.mono e2 (Ex.refl _) hx) rv) fun _ _ z => z.elim)
theorem m_un [It M] {r : V → Hp → VK → Prop} {f : α → Res γ} (hr : ∀ E, Op1 E K r f R T) (hp : Cp p = none) (h : EvM E K p M ta σ I Cp m R) : EvM E K p M (tUn r ta) σ I Cp (unM f m) T := fun x ws I1 C1 H1 e e' s hc hx Q q =>
  h x ws I1 C1 H1 e e' s hc hx _ ((Post.bind q).mono (fun b z v ws' I2 H2 e2 s2 hx2 rv => hr E I2 _ H2 b.1 v s2 rv Q ((Post.bind z).mono (fun c z w I3 H3 e3 s3 rw => z w ws' I3 H3 (e2.trans e3) s3 (M.mono e3 (Ex.refl _) hx2) rw) fun _ _ z => z.elim)) fun _ _ z => z)
theorem m_op [It M] [Im R] {r : R2} {f : α → β → Res γ} (hr : ∀ E, Op2 E K r f R S T) (hp : Cp p = none) (h1 : EvM E K p M ta σ I Cp m R) (h2 : EvM E K p M tb σ I Cp n S) : EvM E K p M (tOp r ta tb) σ I Cp (binM f m n) T := fun x ws I1 C1 H1 e e' s hc hx Q q =>
  h1 x ws I1 C1 H1 e e' s hc hx _ ((Post.bind q).mono (fun b z v ws' I2 H2 e2 s2 hx2 rv =>
    h2 b.2 ws' I2 _ H2 (e.trans e2) (e'.over hp) s2 upd_same hx2 _ ((Post.bind z).mono (fun d z2 w ws2 I3 H3 e3 s3 hx3 rw => by
      rw [upd_upd] at s3 hx3 rw
      exact hr E I3 _ H3 b.1 d.1 v w s3 (R.to e3 rv) rw Q ((Post.bind z2).mono (fun c z3 w I4 H4 e4 s4 rw => z3 w ws2 I4 H4 (e2.trans (e3.trans e4)) s4 (M.mono e4 (Ex.refl _) hx3) rw) fun _ _ z => z.elim)) fun _ _ z => z)) fun _ _ z => z)
theorem m_k [It M] {r : R2} {f : α → Res γ} {k : Int} (hr : ∀ E, Op1 E K (fun x H Q => r x (.int k) H Q) f R T) (hp : Cp p = none) (h : EvM E K p M te σ I Cp m R) : EvM E K p M (tOp r te (tC (.int k))) σ I Cp (unM f m) T :=
  fun x ws I1 C1 H1 e e' s hc hx Q q => m_un (r := fun x H Q => r x (.int k) H Q) hr hp h x ws I1 C1 H1 e e' s hc hx Q q
theorem am_one (h : EvM E K p M te σ I Cp m R) : EvAM E K p M (tCons te tNil) σ I Cp m (t1 R) := fun x ws I1 C1 H1 e e' s hc hx Q q =>
  h x ws I1 C1 H1 e e' s hc hx _ (q.mono (fun b z v ws' I2 H2 e2 s2 hx2 rv => z [v] ws' I2 H2 e2 s2 hx2 ⟨v, rfl, rv⟩) fun _ _ z => z)
theorem am_cons [Im R] {tr : TA} {A : Rt β} (hp : Cp p = none) (h1 : EvM E K p M te σ I Cp m R) (h2 : EvAM E K p M tr σ I Cp n A) : EvAM E K p M (tCons te tr) σ I Cp (pairM m n) (tc R A) := fun x ws I1 C1 H1 e e' s hc hx Q q =>
  h1 x ws I1 C1 H1 e e' s hc hx _ ((Post.bind q).mono (fun b z v ws' I2 H2 e2 s2 hx2 rv =>
    h2 b.2 ws' I2 _ H2 (e.trans e2) (e'.over hp) s2 upd_same hx2 _ ((Post.bind z).mono (fun d z2 vs ws2 I3 H3 e3 s3 hx3 rw => by
      rw [upd_upd] at s3 hx3 rw
      exact z2 (v :: vs) ws2 I3 H3 (e2.trans e3) s3 hx3 ⟨v, vs, rfl, R.to e3 rv, rw⟩) fun _ _ z => z)) fun _ _ z => z)
/-- a name's value, whatever the draws change -/
theorem am_var {tr : TA} {A : Rt β} {i : Nat} {v : V} {a : α} (hv : σ[i]? = some (some v)) (r : R.r a v I Cp) (hp : Cp p = none) (h2 : EvAM E K p M tr σ I Cp n A) : EvAM E K p M (tCons (tVar i) tr) σ I Cp (pairM (liftM (.ok a)) n) (tc R A) := fun x ws I1 C1 H1 e e' s hc hx Q q =>
  ⟨v, hv, h2 x ws I1 C1 H1 e e' s hc hx _ ((Post.bind (m := n x) (k := fun d => .ok ((a, d.1), d.2)) q).mono (fun d z2 vs ws2 I3 H3 e3 s3 hx3 rw => z2 (v :: vs) ws2 I3 H3 e3 s3 hx3 ⟨v, vs, rfl, R.mono (e.trans e3) (e'.over hp) r, rw⟩) fun _ _ z => z)⟩
theorem am_var1 {i : Nat} {v : V} {a : α} (hv : σ[i]? = some (some v)) (r : R.r a v I Cp) : EvAM E K p M (tCons (tVar i) tNil) σ I Cp (liftM (.ok a) : μ → Res (α × μ)) (t1 R) := am_one (m_pure (x_var hv r))
theorem am_pure {tr : TA} {A : Rt α} {m : Res α} (h : EvA E K tr σ I Cp m A) : EvAM E K p M tr σ I Cp (liftM m) A := fun x ws I1 C1 H1 e e' s hc hx Q q =>
  h I1 C1 H1 e e' s Q ((Post.bind q).mono (fun a z v I2 H2 e2 s2 rv => by
    have z2 := z v ws I2 H2 e2
    rw [upd_id hc] at z2
    exact z2 s2 (M.mono e2 (Ex.refl _) hx) rv) fun _ _ z => z.elim)
theorem alm_nil : EvAM E K p M tNil σ I Cp (liftM (.ok ([] : List α)) : μ → Res (List α × μ)) (tL R 0) := am_pure al_nil
theorem alm_cons [Im R] {tr : TA} {k : Nat} {n : μ → Res (List α × μ)} (hp : Cp p = none) (h1 : EvM E K p M te σ I Cp m R) (h2 : EvAM E K p M tr σ I Cp n (tL R k)) : EvAM E K p M (tCons te tr) σ I Cp (consM m n) (tL R (k + 1)) := fun x ws I1 C1 H1 e e' s hc hx Q q =>
  h1 x ws I1 C1 H1 e e' s hc hx _ ((Post.bind q).mono (fun b z v ws' I2 H2 e2 s2 hx2 rv =>
    h2 b.2 ws' I2 _ H2 (e.trans e2) (e'.over hp) s2 upd_same hx2 _ ((Post.bind z).mono (fun d z2 vs ws2 I3 H3 e3 s3 hx3 rw => by
      rw [upd_upd] at s3 hx3 rw
      exact z2 (v :: vs) ws2 I3 H3 (e2.trans e3) s3 hx3 ⟨by rw [List.length_cons, rw.1], .cons (R.to e3 rv) rw.2⟩) fun _ _ z => z)) fun _ _ z => z)
theorem m_lst [It M] {tr : TA} {k : Nat} {m : μ → Res (List α × μ)} (h : EvAM E K p M tr σ I Cp m (tL R k)) (hn : k ≤ 100) : EvM E K p M (tLst tr) σ I Cp m (pL R) := fun x ws I1 C1 H1 e e' s hc hx Q q =>
  h x ws I1 C1 H1 e e' s hc hx _ (q.mono (fun b z vs ws' I2 H2 e2 s2 hx2 rv => by
    have hl : vs.length ≤ sizeLine := by
      rw [rv.1]
      exact Nat.le_trans hn (by decide)
    refine ⟨hl, fun t ht => z (.ref t) ws' (upd I2 t (.lst vs)) _ (e2.trans (Ex.new (s2.i.free ht))) (s2.newI ht) (M.mono (Ex.new (s2.i.free ht)) (Ex.refl _) hx2) ⟨t, vs, rfl, upd_same, hl, rv.2.imp fun _ _ => R.mono (Ex.new (s2.i.free ht)) (Ex.refl _)⟩⟩) fun _ _ z => z)
theorem m_tup [It M] {tr : TA} {A : Rt α} (h : EvAM E K p M tr σ I Cp m A) (hn : A.n ≤ 100) : EvM E K p M (tTup tr) σ I Cp m (pT A) := fun x ws I1 C1 H1 e e' s hc hx Q q =>
  h x ws I1 C1 H1 e e' s hc hx _ (q.mono (fun b z vs ws' I2 H2 e2 s2 hx2 rv => ⟨by rw [A.len rv]; exact Nat.le_trans hn (by decide), fun t ht => z (.ref t) ws' (upd I2 t (.tup vs)) _ (e2.trans (Ex.new (s2.i.free ht))) (s2.newI ht) (M.mono (Ex.new (s2.i.free ht)) (Ex.refl _) hx2) ⟨t, vs, rfl, upd_same, A.mono (Ex.new (s2.i.free ht)) (Ex.refl _) rv⟩⟩) fun _ _ z => z)
theorem m_lstD [It M] {tr : TA} {A : Rt α} (h : EvAM E K p M tr σ I Cp m A) (hn : A.n ≤ 100) : EvM E K p M (tLst tr) σ I Cp m (pD A) := fun x ws I1 C1 H1 e e' s hc hx Q q =>
  h x ws I1 C1 H1 e e' s hc hx _ (q.mono (fun b z vs ws' I2 H2 e2 s2 hx2 rv => ⟨by rw [A.len rv]; exact Nat.le_trans hn (by decide), fun t ht => z (.ref t) ws' (upd I2 t (.lst vs)) _ (e2.trans (Ex.new (s2.i.free ht))) (s2.newI ht) (M.mono (Ex.new (s2.i.free ht)) (Ex.refl _) hx2) ⟨t, vs, rfl, upd_same, A.mono (Ex.new (s2.i.free ht)) (Ex.refl _) rv⟩⟩) fun _ _ z => z)
theorem m_cb [It M] {r : List V → Hp → VK → Prop} {f : α → Res γ} {A : Rt α} {tr : TA} (hr : ∀ E, OpL E K r f A T) (h : EvAM E K p M tr σ I Cp m A) : EvM E K p M (tCB r tr) σ I Cp (unM f m) T := fun x ws I1 C1 H1 e e' s hc hx Q q =>
  h x ws I1 C1 H1 e e' s hc hx _ ((Post.bind q).mono (fun b z vs ws' I2 H2 e2 s2 hx2 rv => hr E I2 _ H2 b.1 vs s2 rv Q ((Post.bind z).mono (fun c z w I3 H3 e3 s3 rw => z w ws' I3 H3 (e2.trans e3) s3 (M.mono e3 (Ex.refl _) hx2) rw) fun _ _ z => z.elim)) fun _ _ z => z)
/-- f(a ..), f a def that draws nothing -/
theorem m_callP [It M] {A : Rt α} {f : α → Res γ} {tr : TA} (h : EvAM E K p M tr σ I Cp m A) : EvM E K p M (tCall (spP K A f T) [] E tr) σ I Cp (unM f m) T := fun x ws I1 C1 H1 e e' s hc hx Q q =>
  h x ws I1 C1 H1 e e' s hc hx _ ((Post.bind q).mono (fun b z vs ws' I2 H2 e2 s2 hx2 rv => by
    refine ⟨I2, _, b.1, s2, by rw [List.append_nil]; exact rv, (Post.bind z).mono (fun c z w I3 H3 e3 s3 rw => z w ws' I3 H3 (e2.trans e3) s3 (M.mono e3 (Ex.refl _) hx2) rw) fun _ _ z => z.elim⟩) fun _ _ z => z)
/-- f(pool, a ..) -/
theorem m_callM {A : Rt α} {f : α → μ → Res (β × μ)} {tr : TA} {i : Nat} (hv : σ[i]? = some (some (.ref p))) (h : EvAM E K p M tr σ I Cp m A) : EvM E K p M (tCall (spM M A f S) [] E (tCons (tVar i) tr)) σ I Cp (callM f m) S := fun x ws I1 C1 H1 e e' s hc hx Q q =>
  ⟨.ref p, hv, h x ws I1 C1 H1 e e' s hc hx _ ((Post.bind q).mono (fun b z vs ws' I2 H2 e2 s2 hx2 rv => by
    refine ⟨I2, _, p, ws', vs, b.2, b.1, by rw [List.append_nil], s2, upd_same, hx2, rv, Post.mono (m := f b.1 b.2) z (fun c z w ws2 I3 H3 e3 s3 hx3 rw => ?_) fun _ _ z => z⟩
    rw [upd_upd] at s3 hx3 rw
    exact z w ws2 I3 H3 (e2.trans e3) s3 hx3 rw) fun _ _ z => z)⟩
theorem m_callM0 {f : Unit → μ → Res (β × μ)} {i : Nat} (hv : σ[i]? = some (some (.ref p))) : EvM E K p M (tCall (spM M (⟨fun _ vs _ _ => vs = [], fun _ _ h => h, 0, fun h => by rw [h]; rfl⟩ : Rt Unit) f S) [] E (tCons (tVar i) tNil)) σ I Cp (fun x => f () x) S := fun x ws I1 C1 H1 e e' s hc hx Q q =>
  ⟨.ref p, hv, I1, C1, p, ws, [], x, (), rfl, s, hc, hx, rfl, q⟩
theorem tm_pure {m : Res Bool} (h : EvT E K tt σ I Cp m) : EvTM E K p M tt σ I Cp (liftM m) := fun x ws I1 C1 H1 e e' s hc hx Q q =>
  h I1 C1 H1 e e' s Q ((Post.bind q).mono (fun a z I2 H2 e2 s2 => by
    have z2 := z ws I2 H2 e2
    rw [upd_id hc] at z2
    exact z2 s2 (M.mono e2 (Ex.refl _) hx)) fun _ _ z => z.elim)
theorem tm_test {m : μ → Res (Bool × μ)} (h : EvM E K p M te σ I Cp m pB) : EvTM E K p M (tTest te) σ I Cp m := fun x ws I1 C1 H1 e e' s hc hx Q q => h x ws I1 C1 H1 e e' s hc hx _ (q.mono (fun b z v ws' I2 H2 e2 s2 hx2 rv => ⟨b.1, rv, z ws' I2 H2 e2 s2 hx2⟩) fun _ _ z => z)
theorem tm_B {m : μ → Res (Bool × μ)} (h : EvM E K p M te σ I Cp m pB) : EvTM E K p M (tB te) σ I Cp m := fun x ws I1 C1 H1 e e' s hc hx Q q => h x ws I1 C1 H1 e e' s hc hx _ (q.mono (fun b z v ws' I2 H2 e2 s2 hx2 rv => ⟨b.1, rv, z ws' I2 H2 e2 s2 hx2⟩) fun _ _ z => z)
theorem tm_and {m n : μ → Res (Bool × μ)} (hp : Cp p = none) (h1 : EvTM E K p M tt σ I Cp m) (h2 : EvTM E K p M tu σ I Cp n) : EvTM E K p M (tAnd tt tu) σ I Cp (andM m n) := fun x ws I1 C1 H1 e e' s hc hx Q q =>
  h1 x ws I1 C1 H1 e e' s hc hx _ ((Post.bind q).mono (fun b z ws' I2 H2 e2 s2 hx2 => by
    obtain ⟨c, y⟩ := b
    cases c with
    | true => exact h2 y ws' I2 _ H2 (e.trans e2) (e'.over hp) s2 upd_same hx2 Q (Post.mono (m := n y) z (fun b z ws2 I3 H3 e3 s3 hx3 => by
        rw [upd_upd] at s3 hx3
        exact z ws2 I3 H3 (e2.trans e3) s3 hx3) fun _ _ z => z)
    | false => exact z ws' I2 H2 e2 s2 hx2) fun _ _ z => z)
theorem tm_or {m n : μ → Res (Bool × μ)} (hp : Cp p = none) (h1 : EvTM E K p M tt σ I Cp m) (h2 : EvTM E K p M tu σ I Cp n) : EvTM E K p M (tOr tt tu) σ I Cp (orM m n) := fun x ws I1 C1 H1 e e' s hc hx Q q =>
  h1 x ws I1 C1 H1 e e' s hc hx _ ((Post.bind q).mono (fun b z ws' I2 H2 e2 s2 hx2 => by
    obtain ⟨c, y⟩ := b
    cases c with
    | false => exact h2 y ws' I2 _ H2 (e.trans e2) (e'.over hp) s2 upd_same hx2 Q (Post.mono (m := n y) z (fun b z ws2 I3 H3 e3 s3 hx3 => by
        rw [upd_upd] at s3 hx3
        exact z ws2 I3 H3 (e2.trans e3) s3 hx3) fun _ _ z => z)
    | true => exact z ws' I2 H2 e2 s2 hx2) fun _ _ z => z)
theorem tm_not {m : μ → Res (Bool × μ)} (h : EvTM E K p M tt σ I Cp m) : EvTM E K p M (tNot tt) σ I Cp (unM notR m) := fun x ws I1 C1 H1 e e' s hc hx Q q =>
  h x ws I1 C1 H1 e e' s hc hx _ ((Post.bind q).mono (fun b z ws' I2 H2 e2 s2 hx2 => z ws' I2 H2 e2 s2 hx2) fun _ _ z => z)
/-! sources -/
theorem im_pure {wi : TI} {m : Res (List α)} (h : EvI E K wi σ I Cp kpT m R) : EvIM E K p M wi σ I Cp (liftM m) R := fun x ws I1 C1 H1 e e' s hc hx Q q =>
  h I1 C1 H1 e e' s Q ((Post.bind q).mono (fun a z J G Y I2 H2 e2 s2 hz w hG hY => by
    have z2 := z ws J G Y I2 H2 e2
    rw [upd_id hc] at z2
    exact z2 s2 (M.mono e2 (Ex.refl _) hx) hz w (fun I3 C3 H3 e3 s3 => hG I3 C3 H3 e3 trivial s3) (fun i x v I3 C3 H3 H4 hx e3 s3 y => hY i x v I3 C3 H3 H4 hx e3 trivial s3 y)) fun _ _ z => z.elim)
theorem im_rng1 [It M] {tr : TA} {m : μ → Res (Int × μ)} (h : EvAM E K p M tr σ I Cp m (t1 pI)) : EvIM E K p M (iRng1 tr) σ I Cp (unM rng1 m) pI := fun x ws I1 C1 H1 e e' s hc hx Q q =>
  h x ws I1 C1 H1 e e' s hc hx _ ((Post.bind q).mono (fun b z vs ws' I2 H2 e2 s2 hx2 ⟨v, hv, rv⟩ => by
    have z := Post.bind z
    unfold rng1 at z
    split at z
    · rename_i hn
      have hv1 : v = .int b.1 := rv
      subst hv hv1
      refine ⟨b.1, rfl, by omega, by omega, z ws' (Itr 0 b.1.toNat) (fun _ => True) (YFn fun i => .int (0 + i)) I2 H2 e2 s2 hx2 (by rw [rangeL_length]; exact Nat.le_trans (show (b.1 - 0).toNat ≤ 1000000 by omega) (by decide)) (by rw [rangeL_length, Int.sub_zero]; exact walk_range) (fun _ _ _ _ _ => trivial) (fun i x v' I3 C3 H3 H4 hx e3 s3 y => ?_)⟩
      obtain ⟨rfl, rfl⟩ := y
      rw [rangeL_get hx]
      exact ⟨I3, Ex.refl _, s3, rfl⟩
    · exact z.elim) fun _ _ z => z)
/-! ### comprehensions that draw -/
def mapM (f : α → μ → Res (β × μ)) : List α → μ → Res (List β × μ)
  | [], x => .ok ([], x)
  | a :: as, x => (f a x).bind fun b => (mapM f as b.2).bind fun c => .ok (b.1 :: c.1, c.2)
def LcM (p : Addr) (M : Rt μ) (S : Rp β) (I C : Hp) (D : Addr) (rest : μ → Res (List β × μ)) (W : List β × μ → Prop) (n : Nat) (H : Hp) : Prop :=
  ∃ (ys : List β) (vs ws : List V) (x : μ) (I' : Hp), Ex I I' ∧ St I' (upd (upd C p (.lst ws)) D (.lst vs)) H ∧ M.r x ws I' C ∧ vs.length ≤ n ∧ A2 (fun x u => S.r x u I' C) ys vs ∧ Post (rest x) (fun zs => W (ys ++ zs.1, zs.2)) (fun _ _ => False)
theorem m_lc [It M] [Im S] {wi : TI} {g : TG} {vs : List Nat} {m : μ → Res (List α × μ)} {f : α → μ → Res (β × μ)} {P : α → L2.St → Hp → Hp → Prop} (hp : Cp p = none) (hi : EvIM E K p M wi σ I Cp m R) (hg : Tg K g R (wipe σ vs) P)
    (hw : ∀ x σ2 I' C', P x σ2 I' C' → wipe σ2 vs = wipe σ vs)
    (hf : ∀ x σ2 I' C', Ex I I' → Ex Cp C' → P x σ2 I' C' → EvM EZ K p M te σ2 I' (off C' p) (f x) S) : EvM E K p M (tLc wi g tYes te vs) σ I Cp (fun x => (m x).bind fun b => mapM f b.1 b.2) (pL S) := fun x ws I1 C1 H1 e e' s hc hx Q q =>
  hi x ws I1 C1 H1 e e' s hc hx _ ((Post.bind q).mono (fun b q2 ws2 J G Y I2 H2 e2 s2 hx2 hz w hG hY D hD => by
    have cD2 : upd C1 p (.lst ws2) D = none := s2.c.free hD
    have hDp : D ≠ p := fun z => by
      rw [z, upd_same] at cD2
      cases cD2
    have cD : C1 D = none := by
      rw [upd_ne hDp] at cD2
      exact cD2
    refine lc_it w (fun i H => LcM p M S I2 C1 D (mapM f (b.1.drop i)) (fun c => ∀ v ws' I2 H2, Ex I1 I2 → St I2 (upd C1 p (.lst ws')) H2 → M.r c.2 ws' I2 (upd C1 p (.lst ws')) → (pL S).r c.1 v I2 (upd C1 p (.lst ws')) → Q v H2) i H) ⟨[], [], ws2, b.2, I2, Ex.refl _, s2.newC hD, It.im hx2, Nat.le_refl _, .nil, ?_⟩
      (fun i H hi ⟨_, _, _, _, I', e3, s3, _⟩ => hG I' _ H e3 s3) (fun i v H H' hi ⟨ys, us, ws3, x3, I', e3, s3, hx3, hn, r3, po⟩ y => ?_) (fun H ⟨ys, us, ws3, x3, I', e3, s3, hx3, hn, r3, po⟩ => ?_)
    · rw [List.drop_zero]
      exact q2
    · obtain ⟨a, ha⟩ : ∃ a, b.1[i]? = some a := ⟨b.1[i], by simp [hi]⟩
      rw [drop_cons ha] at po
      obtain ⟨I4, e4, s4, ra⟩ := hY i a v I' _ H H' ha e3 s3 y
      refine hg a v I4 _ H' _ s4 ra fun σ2 pa => ⟨hw _ _ _ _ pa, ?_⟩
      have eI : Ex I I4 := e.trans (e2.trans (e3.trans e4))
      have eC : Ex Cp (upd (upd C1 p (.lst ws3)) D (.lst us)) := (e'.over hp).trans (Ex.new (by rw [upd_ne hDp]; exact cD))
      have hcp : upd (upd C1 p (.lst ws3)) D (.lst us) p = some (.lst ws3) := by rw [upd_ne hDp.symm, upd_same]
      show te σ2 H' _
      refine hf a σ2 I4 _ eI eC pa x3 ws3 I4 _ H' (Ex.refl _) off_ex s4 hcp (It.im (M.mono e4 (Ex.refl _) hx3)) _ ((Post.bind po).mono (fun c po2 v2 ws4 I6 H6 e6 s6 hx6 rv => ?_) fun _ _ z => z)
      have hswap : upd (upd (upd C1 p (.lst ws3)) D (.lst us)) p (.lst ws4) = upd (upd C1 p (.lst ws4)) D (.lst us) := by
        funext a
        by_cases h1 : a = p
        · rw [h1, upd_same, upd_ne hDp.symm, upd_same]
        · rw [upd_ne h1]
          by_cases h2 : a = D
          · rw [h2, upd_same, upd_same]
          · rw [upd_ne h2, upd_ne h2, upd_ne h1, upd_ne h1]
      rw [hswap] at s6 hx6 rv
      have hsz : us.length < sizeLine := Nat.lt_of_le_of_lt hn (Nat.lt_of_lt_of_le hi hz)
      refine ⟨us, s6.c D _ upd_same, hsz, ⟨ys ++ [c.1], us ++ [v2], ws4, c.2, I6, e3.trans (e4.trans e6), ?_, It.im hx6, by rw [List.length_append]; exact Nat.succ_le_succ hn, ?_, ?_⟩⟩
      · have z := s6.set (o := .lst (us ++ [v2])) (p := D) upd_same
        rw [upd_upd] at z
        exact z
      · exact (r3.imp fun _ _ => S.mono (e4.trans e6) (Ex.refl _)).append (.one (Im.im rv))
      · refine (Post.bind po2).mono (fun zs z => ?_) fun _ _ z => z
        show ∀ v ws' I2 H2, Ex I1 I2 → St I2 (upd C1 p (.lst ws')) H2 → M.r zs.2 ws' I2 (upd C1 p (.lst ws')) → (pL S).r (ys ++ [c.1] ++ zs.1) v I2 (upd C1 p (.lst ws')) → Q v H2
        rw [List.append_assoc]
        exact z
    · rw [List.drop_length] at po
      have po2 : ∀ v ws' I2 H2, Ex I1 I2 → St I2 (upd C1 p (.lst ws')) H2 → M.r x3 ws' I2 (upd C1 p (.lst ws')) → (pL S).r (ys ++ []) v I2 (upd C1 p (.lst ws')) → Q v H2 := po
      rw [List.append_nil] at po2
      have sf := s3.frz (p := D) upd_same
      have iD : I' D = none := s3.freeI upd_same
      refine po2 (.ref D) ws3 (upd I' D (.lst us)) H (e2.trans (e3.trans (Ex.new iD))) (sf.less fun a o ha => ?_) (It.im (M.mono (Ex.new iD) (Ex.refl _) hx3)) ⟨D, us, rfl, upd_same, Nat.le_trans hn hz, r3.imp fun _ _ h => Im.im (S.mono (Ex.new iD) (Ex.refl _) h)⟩
      have hne : a ≠ D := fun z => by
        rw [z, upd_ne hDp, cD] at ha
        cases ha
      show (if a = D then none else upd (upd C1 p (.lst ws3)) D (.lst us) a) = some o
      rw [if_neg hne, upd_ne hne]
      exact ha) fun _ _ z => z)
end
section
variable {E : XK} {K : PySem.W.Frag} {p : Addr} {μ : Type} {M : Rt μ} {σ : L2.St} {I C H : Hp} {α β ω S ρ : Type} {R : Rp α} {te : TE} {tt : TT} {tz tu tw : TS} {D : Ends} {m : μ → Res (α × μ)} {Q : ω → Prop} {x : μ} {ws : List V}
abbrev XF : Ec → Int → Prop := fun _ _ => False
theorem sm_asg {i : Nat} {k : α × μ → Res ω} (h : EvM E K p M te σ I (off C p) m R) (s : St I C H) (hc : C p = some (.lst ws)) (hx : M.r x ws I C) (hm : Post ((m x).bind k) Q XF)
    (next : ∀ b v ws' I2 H2, Ex I I2 → St I2 (upd C p (.lst ws')) H2 → M.r b.2 ws' I2 (upd C p (.lst ws')) → R.r b.1 v I2 (upd C p (.lst ws')) → Post (k b) Q XF → tz D (σ.set i (some v)) H2) : tSeq (tAsg te (gName i)) tz D σ H :=
  h x ws I C H (Ex.refl _) off_ex s hc hx _ ((Post.bind hm).mono (fun b z v ws' I2 H2 e2 s2 hx2 rv => next b v ws' I2 H2 e2 s2 hx2 rv z) fun _ _ z => z)
theorem sm_ret {k : α × μ → Res ω} (h : EvM E K p M te σ I (off C p) m R) (s : St I C H) (hc : C p = some (.lst ws)) (hx : M.r x ws I C) (hm : Post ((m x).bind k) Q XF)
    (next : ∀ b v ws' I2 H2, Ex I I2 → St I2 (upd C p (.lst ws')) H2 → M.r b.2 ws' I2 (upd C p (.lst ws')) → R.r b.1 v I2 (upd C p (.lst ws')) → Post (k b) Q XF → D.rt v H2) : tSeq (tRet te) tz D σ H :=
  h x ws I C H (Ex.refl _) off_ex s hc hx _ ((Post.bind hm).mono (fun b z v ws' I2 H2 e2 s2 hx2 rv => next b v ws' I2 H2 e2 s2 hx2 rv z) fun _ _ z => z)
theorem sm_expr {k : α × μ → Res ω} (h : EvM E K p M te σ I (off C p) m R) (s : St I C H) (hc : C p = some (.lst ws)) (hx : M.r x ws I C) (hm : Post ((m x).bind k) Q XF)
    (next : ∀ b ws' I2 H2, Ex I I2 → St I2 (upd C p (.lst ws')) H2 → M.r b.2 ws' I2 (upd C p (.lst ws')) → Post (k b) Q XF → tz D σ H2) : tSeq (tDrop te) tz D σ H :=
  h x ws I C H (Ex.refl _) off_ex s hc hx _ ((Post.bind hm).mono (fun b z v ws' I2 H2 e2 s2 hx2 rv => next b ws' I2 H2 e2 s2 hx2 z) fun _ _ z => z)
def ifMR (c : μ → Res (Bool × μ)) (x : μ) (m n : μ → Res α) : Res α := (c x).bind fun b => if b.1 = true then m b.2 else n b.2
theorem sm_if {c : μ → Res (Bool × μ)} {m1 m2 : μ → Res ω} (h : EvTM E K p M tt σ I (off C p) c) (s : St I C H) (hc : C p = some (.lst ws)) (hx : M.r x ws I C) (hm : Post (ifMR c x m1 m2) Q XF)
    (h1 : ∀ y ws' I2 H2, Ex I I2 → St I2 (upd C p (.lst ws')) H2 → M.r y ws' I2 (upd C p (.lst ws')) → Post (m1 y) Q XF → tu { D with nx := tz D } σ H2)
    (h2 : ∀ y ws' I2 H2, Ex I I2 → St I2 (upd C p (.lst ws')) H2 → M.r y ws' I2 (upd C p (.lst ws')) → Post (m2 y) Q XF → tw { D with nx := tz D } σ H2) : tSeq (tIfS tt tu tw) tz D σ H :=
  h x ws I C H (Ex.refl _) off_ex s hc hx _ ((Post.bind hm).mono (fun b z ws' I2 H2 e2 s2 hx2 => by
    obtain ⟨c, y⟩ := b
    cases c with
    | true => exact h1 y ws' I2 H2 e2 s2 hx2 z
    | false => exact h2 y ws' I2 H2 e2 s2 hx2 z) fun _ _ z => z)
theorem sm_ifj (P : S → L2.St → Hp → Hp → Prop) {c : μ → Res (Bool × μ)} {m1 m2 : μ → Res S} {k : S → Res ω} (h : EvTM E K p M tt σ I (off C p) c) (s : St I C H) (hc : C p = some (.lst ws)) (hx : M.r x ws I C) (hm : Post ((ifMR c x m1 m2).bind k) Q XF)
    (h1 : ∀ (N : L2.St → Hp → Prop) y ws' I2 H2, Ex I I2 → St I2 (upd C p (.lst ws')) H2 → M.r y ws' I2 (upd C p (.lst ws')) → Post (m1 y) (fun s' => ∀ σ2 I3 C3 H3, Ex I I3 → St I3 C3 H3 → P s' σ2 I3 C3 → N σ2 H3) XF → tu { D with nx := N } σ H2)
    (h2 : ∀ (N : L2.St → Hp → Prop) y ws' I2 H2, Ex I I2 → St I2 (upd C p (.lst ws')) H2 → M.r y ws' I2 (upd C p (.lst ws')) → Post (m2 y) (fun s' => ∀ σ2 I3 C3 H3, Ex I I3 → St I3 C3 H3 → P s' σ2 I3 C3 → N σ2 H3) XF → tw { D with nx := N } σ H2)
    (next : ∀ s' σ2 I3 C3 H3, Ex I I3 → St I3 C3 H3 → P s' σ2 I3 C3 → Post (k s') Q XF → tz D σ2 H3) : Evl.tCut (tIfS tt tu tw) tz D σ H := by
  refine ⟨fun σ2 H3 => ∃ s' I3 C3, Ex I I3 ∧ St I3 C3 H3 ∧ P s' σ2 I3 C3 ∧ Post (k s') Q XF, ?_, fun σ2 H3 ⟨s', I3, C3, e3, s3, p, q⟩ => next s' σ2 I3 C3 H3 e3 s3 p q⟩
  refine h x ws I C H (Ex.refl _) off_ex s hc hx _ ((Post.bind (Post.bind hm)).mono (fun b z ws' I2 H2 e2 s2 hx2 => ?_) fun _ _ z => z)
  obtain ⟨c, y⟩ := b
  cases c with
  | true => exact h1 _ y ws' I2 H2 e2 s2 hx2 (Post.mono (m := m1 y) z (fun s' z σ2 I3 C3 H3 e3 s3 pp => ⟨s', I3, C3, e3, s3, pp, z⟩) fun _ _ z => z)
  | false => exact h2 _ y ws' I2 H2 e2 s2 hx2 (Post.mono (m := m2 y) z (fun s' z σ2 I3 C3 H3 e3 s3 pp => ⟨s', I3, C3, e3, s3, pp, z⟩) fun _ _ z => z)
/-- a for whose source draws -/
theorem sm_forN (P : S → L2.St → Hp → Hp → Prop) {wi : TI} {g : TG} {m : μ → Res (List α × μ)} {f : α → S → Res S} {s0 : μ → S} {k : S → Res ω} (hi : EvIM E K p M wi σ I (off C p) m R) (s : St I C H) (hc : C p = some (.lst ws)) (hx : M.r x ws I C) (hm : Post (((m x).bind fun b => loopN f b.1 (s0 b.2)).bind k) Q XF)
    (h0 : ∀ y ws' I2, Ex I I2 → M.r y ws' I2 (upd C p (.lst ws')) → P (s0 y) σ I2 (upd C p (.lst ws'))) (hP : ∀ s' σ' I' I2 C', Ex I' I2 → P s' σ' I' C' → P s' σ' I2 C')
    (body : ∀ (N : L2.St → Hp → Prop) x v s' σ' I' C' H', Ex I I' → St I' C' H' → P s' σ' I' C' → R.r x v I' C' → Post (f x s') (fun s2 => ∀ σ2 I3 C3 H3, Ex I' I3 → St I3 C3 H3 → P s2 σ2 I3 C3 → N σ2 H3) XF →
      g v σ' H' fun σ2 H2 => tu { D with nx := N, ct := N, bk := tz D } σ2 H2)
    (next : ∀ s' σ' I' C' H', Ex I I' → St I' C' H' → P s' σ' I' C' → Post (k s') Q XF → tz D σ' H') : tSeq (tFor wi g tu) tz D σ H :=
  hi x ws I C H (Ex.refl _) off_ex s hc hx _ ((Post.bind (Post.bind hm)).mono (fun b q2 ws2 J G Y I2 H2 e2 s2 hx2 hz w hG hY => by
    refine for_it w (fun i σ' H' => ∃ s' I' C', Ex I2 I' ∧ St I' C' H' ∧ P s' σ' I' C' ∧ Post ((loopN f (b.1.drop i) s').bind k) Q XF) ⟨s0 b.2, I2, _, Ex.refl _, s2, h0 _ _ I2 e2 hx2, by rw [List.drop_zero]; exact Post.of_bind q2⟩
      (fun i σ' H' hi ⟨s', I', C', e3, s3, p, _⟩ => hG I' C' H' e3 s3) (fun i x σ' H1 H' hi ⟨s', I', C', e3, s3, p, po⟩ y => ?_) (fun σ' H' ⟨s', I', C', e3, s3, p, po⟩ => ?_)
    · obtain ⟨a, ha⟩ : ∃ a, b.1[i]? = some a := ⟨b.1[i], by simp [hi]⟩
      rw [drop_cons ha] at po
      obtain ⟨I4, e4, s4, ra⟩ := hY i a x I' C' H1 H' ha e3 s3 y
      exact body _ a x s' σ' I4 C' H' (e2.trans (e3.trans e4)) s4 (hP _ _ _ _ _ e4 p) ra ((Post.bind (Post.bind po)).mono (fun s3 z σ2 I5 C5 H5 e5 s5 p5 => ⟨s3, I5, C5, e3.trans (e4.trans e5), s5, p5, Post.of_bind z⟩) fun _ _ z => z)
    · rw [List.drop_length] at po
      exact next s' σ' I' C' H' (e2.trans e3) s3 p po) fun _ _ z => z)
/-- pool[k] = e, k written -/
theorem sm_set [It M] {i k : Nat} {g : μ → α → μ} {kk : μ → Res ω} {m : Res α} (hv : σ[i]? = some (some (.ref p))) (h : EvX E K te σ I C m R) (j : Pk M k g R) (s : St I C H) (hc : C p = some (.lst ws)) (hx : M.r x ws I C) (hm : Post (m.bind fun a => kk (g x a)) Q XF)
    (next : ∀ y ws' I2 H2, Ex I I2 → St I2 (upd C p (.lst ws')) H2 → M.r y ws' I2 (upd C p (.lst ws')) → Post (kk y) Q XF → tz D σ H2) : tSeq (tAsg te (gSub (tVar i) (tC (.int (k : Int))) rSetL)) tz D σ H :=
  h I C H (Ex.refl _) (Ex.refl _) s _ ((Post.bind hm).mono (fun a z v I2 H2 e2 s2 rv => by
    obtain ⟨q, hl⟩ := j x ws I2 C a v (M.mono e2 (Ex.refl _) hx) rv
    refine ⟨.ref p, hv, p, ws, k, k, rfl, rfl, s2.c p _ hc, ?_, next (g x a) (ws.set k v) I2 _ e2 (s2.set hc) (It.im q) z⟩
    unfold ixN
    rw [if_pos (by omega), if_pos (by omega)]
    rfl) fun _ _ z => z.elim)
/-- pool[k], k written -/
theorem x_pool {i k : Nat} {f : μ → β} {S : Rp β} (hv : σ[i]? = some (some (.ref p))) (hc : C p = some (.lst ws)) (hx : M.r x ws I C) (j : Pj M k f S) : EvX E K (tOp (rIxL K) (tVar i) (tC (.int (k : Int)))) σ I C (.ok (f x)) S := fun I1 C1 H1 e e' s Q q => by
  obtain ⟨w, hw, r⟩ := j x ws I1 C1 (M.mono e e' hx)
  exact ⟨.ref p, hv, p, ws, k, w, rfl, rfl, .inl (.inl (s.c p _ (e' p _ hc))), atI_nat hw, PQ.now (R := S) (a := f x) q s r⟩
end
end Sd

namespace Sd
open PySem L2
/-! ### forms for the printed proofs -/
abbrev Z : Hp := fun _ => none
theorem exz {C : Hp} : Ex Z C := fun _ _ h => nomatch h
theorem Im.z {α : Type} {R : Rp α} [Im R] {a : α} {v : V} {I C : Hp} (h : R.r a v I C) : R.r a v I Z := Im.im h
/-- a new list of one's own -/
abbrev PN {α : Type} (R : Rp α) (I C : Hp) (Q : VK) (xs : List α) : Prop := ∀ p vs I2 H2, Ex I I2 → C p = none → St I2 (upd C p (.lst vs)) H2 → vs.length ≤ sizeLine → A2 (fun x u => R.r x u I2 C) xs vs → Q (.ref p) H2
def EvN (E : XK) (K : PySem.W.Frag) (te : TE) (σ : L2.St) (I C : Hp) {α : Type} (m : Res (List α)) (R : Rp α) : Prop :=
  ∀ I1 C1 H1, Ex I I1 → Ex C C1 → St I1 C1 H1 → ∀ Q : VK, Post m (PN R I1 C1 Q) (PX E K I1 C1) → te σ H1 Q
def Op2N (E : XK) (K : PySem.W.Frag) (r : R2) {α β γ : Type} (f : α → β → Res (List γ)) (R : Rp α) (S : Rp β) (T : Rp γ) : Prop :=
  ∀ I C H a b x y, St I C H → R.r a x I C → S.r b y I C → ∀ Q : VK, Post (f a b) (PN T I C Q) (PX E K I C) → r x y H Q
def OpLN (E : XK) (K : PySem.W.Frag) (r : List V → Hp → VK → Prop) {α γ : Type} (f : α → Res (List γ)) (R : Rt α) (T : Rp γ) : Prop :=
  ∀ I C H a vs, St I C H → R.r a vs I C → ∀ Q : VK, Post (f a) (PN T I C Q) (PX E K I C) → r vs H Q
/-- f(a ..) hands back a new list of its own -/
def spO (K : PySem.W.Frag) {α β : Type} (T : Rt α) (m : α → Res (List β)) (R : Rp β) : Sp := fun vs H Q E => ∃ (I C : Hp) (a : α), St I C H ∧ T.r a vs I C ∧ Post (m a) (PN R I C Q) (PX E K I C)
section
variable {E : XK} {K : PySem.W.Frag} {σ : L2.St} {I I' C C' H : Hp} {α β γ : Type} {R : Rp α} {S : Rp β} {T : Rp γ} {te ta tb : TE} {tt : TT}
theorem PN.of {I1 C1 : Hp} {Q : VK} {xs : List α} [Im R] (q : PQ (pL R) I1 C1 Q xs) : PN R I1 C1 Q xs := fun p vs I2 H2 e hp s hl hr => by
  have sf := s.frz (p := p) upd_same
  have iD : I2 p = none := s.freeI upd_same
  refine q (.ref p) (upd I2 p (.lst vs)) H2 (e.trans (Ex.new iD)) (sf.less fun a o ha => ?_) ⟨p, vs, rfl, upd_same, hl, hr.imp fun _ _ => R.mono (Ex.new iD) (Ex.refl _)⟩
  have hne : a ≠ p := fun z => by
    rw [z, hp] at ha
    cases ha
  show (if a = p then none else upd C1 p (.lst vs) a) = some o
  rw [if_neg hne, upd_ne hne]
  exact ha
theorem x_own [Im R] {m : Res (List α)} (h : EvN E K te σ I C m R) : EvX E K te σ I C m (pL R) := fun I1 C1 H1 e e' s Q q => h I1 C1 H1 e e' s Q (q.mono (fun xs z => PN.of z) fun _ _ z => z)
theorem PN.new {I1 C1 H1 : Hp} {Q : VK} {xs : List α} {vs : List V} (q : PN R I1 C1 Q xs) (s : St I1 C1 H1) (h : A2 (fun x u => R.r x u I1 C1) xs vs) (hl : vs.length ≤ sizeLine) : ∀ p, H1 p = none → Q (.ref p) (upd H1 p (.lst vs)) := fun p hp =>
  q p vs I1 _ (Ex.refl _) (s.c.free hp) (s.newC hp) hl h
theorem PN.up {I1 I2 C1 : Hp} {Q : VK} {xs : List α} (e : Ex I1 I2) (q : PN R I1 C1 Q xs) : PN R I2 C1 Q xs := fun p vs I3 H3 e3 hp s hl hr => q p vs I3 H3 (e.trans e3) hp s hl hr
theorem n_op {r : R2} {f : α → β → Res (List γ)} {m : Res α} {n : Res β} (hr : Op2N E K r f R S T) (h1 : EvX E K ta σ I C m R) (h2 : EvX E K tb σ I C n S) : EvN E K (tOp r ta tb) σ I C (bin f m n) T := fun I1 C1 H1 e e' s Q q =>
  h1 I1 C1 H1 e e' s _ ((Post.bind q).mono (fun a p x I2 H2 e2 s2 rx =>
    h2 I2 C1 H2 (e.trans e2) e' s2 _ ((Post.bind p).mono (fun b p2 y I3 H3 e3 s3 ry =>
      hr I3 C1 H3 a b x y s3 (R.mono e3 (Ex.refl _) rx) ry Q (p2.mono (fun c z => z.up (e2.trans e3)) fun c i z => z.mono (e2.trans e3) (Ex.refl _))) fun c i z => z.mono e2 (Ex.refl _)))
    fun _ _ z => z)
theorem n_cb {r : List V → Hp → VK → Prop} {f : α → Res (List γ)} {A : Rt α} {tr : TA} {m : Res α} (hr : OpLN E K r f A T) (h : EvA E K tr σ I C m A) : EvN E K (tCB r tr) σ I C (un f m) T := fun I1 C1 H1 e e' s Q q =>
  h I1 C1 H1 e e' s _ ((Post.bind q).mono (fun a p vs I2 H2 e2 s2 rv => hr I2 C1 H2 a vs s2 rv Q (p.mono (fun c z => z.up e2) fun c i z => z.mono e2 (Ex.refl _))) fun _ _ z => z)
theorem n_call {A : Rt α} {f : α → Res (List β)} {m : Res α} {tr : TA} (h : EvA E K tr σ I C m A) : EvN E K (tCall (spO K A f S) [] E tr) σ I C (un f m) S := fun I1 C1 H1 e e' s Q q =>
  h I1 C1 H1 e e' s _ ((Post.bind q).mono (fun a p vs I2 H2 e2 s2 rv => ⟨I2, C1, a, s2, by rw [List.append_nil]; exact rv, Post.mono (m := f a) p (fun b z => z.up e2) fun c i z => z.mono e2 (Ex.refl _)⟩) fun _ _ z => z)
theorem n_lst {k : Nat} {m : Res (List α)} {tr : TA} (h : EvA E K tr σ I C m (tL R k)) (hn : k ≤ 100) : EvN E K (tLst tr) σ I C m R := fun I1 C1 H1 e e' s Q q =>
  h I1 C1 H1 e e' s _ (q.mono (fun a p vs I2 H2 e2 s2 rv => by
    have hl : vs.length ≤ sizeLine := by
      rw [rv.1]
      exact Nat.le_trans hn (by decide)
    exact ⟨hl, PN.new (PN.up e2 p) s2 rv.2 hl⟩) fun _ _ z => z)
theorem n_list : OpLN E K (fun xs H Q => ∃ p ys, xs = [.ref p] ∧ (SqL K H p ys ∨ SqT K H p ys) ∧ ∀ l, H l = none → Q (.ref l) (upd H l (.lst ys))) idR (t1 (pV R)) R := fun I C H a vs s hv Q q => by
  obtain ⟨v, rfl, h⟩ := hv
  obtain ⟨p, us, rfl, h2, h3, h4⟩ := pV.at s h
  exact ⟨p, us, rfl, .inl (.inl (.inl h2)), PN.new q s h4 h3⟩
theorem n_listQ : OpLN E K (fun xs H Q => ∃ p ys, xs = [.ref p] ∧ (SqL K H p ys ∨ SqT K H p ys) ∧ ∀ l, H l = none → Q (.ref l) (upd H l (.lst ys))) idR (t1 (pQ K R)) R := fun I C H a vs s hv Q q => by
  obtain ⟨v, rfl, p, us, rfl, h2, h3, h4⟩ := hv
  exact ⟨p, us, rfl, .inr (ex_t s.i h2), PN.new q s h4 h3⟩
theorem n_cat : Op2N E K rCat rCatR (pV R) (pV R) R := fun I C H a b x y s hx hy Q q => by
  unfold rCatR at q
  split at q
  · rename_i h
    obtain ⟨p, us, rfl, h2, h3, h4⟩ := pV.at s hx
    obtain ⟨p', us', rfl, h2', h3', h4'⟩ := pV.at s hy
    have hl : us.length + us'.length ≤ sizeLine := by
      rw [h4.len, h4'.len]
      exact Nat.le_trans h (by decide)
    exact ⟨p, p', us, us', rfl, rfl, h2, h2', hl, PN.new q s (h4.append h4') (by rw [List.length_append]; exact hl)⟩
  · exact q.elim
theorem n_rep : Op2N E K rRep rRepR (pV R) pI R := fun I C H a b x y s hx hy Q q => by
  unfold rRepR at q
  split at q
  · rename_i h
    obtain ⟨p, us, rfl, h2, h3, h4⟩ := pV.at s hx
    subst hy
    have hl : us.length * b.toNat ≤ sizeLine := by
      rw [h4.len]
      exact Nat.le_trans h.2.2 (by decide)
    exact ⟨p, b, us, rfl, rfl, h2, by omega, by omega, hl, PN.new q s (h4.rep _) (by rw [flat_len]; exact hl)⟩
  · exact q.elim
theorem n_sl {tl th : TO} {m : Res (List α)} {lo hi : Res (Option Int)} (h : EvX E K te σ I C m (pV R)) (hl : EvO E K tl σ I C lo) (hh : EvO E K th σ I C hi) : EvN E K (tSl (rSlL K) te tl th) σ I C (slR m lo hi) R := fun I1 C1 H1 e e' s Q q =>
  h I1 C1 H1 e e' s _ ((Post.bind q).mono (fun a p x I2 H2 e2 s2 rx =>
    hl I2 C1 H2 (e.trans e2) e' s2 _ ((Post.bind p).mono (fun o p2 I3 H3 e3 s3 =>
      hh I3 C1 H3 (e.trans (e2.trans e3)) e' s3 _ ((Post.bind p2).mono (fun o2 p3 I4 H4 e4 s4 => by
        obtain ⟨b, us, rfl, h2, h3, h4⟩ := pV.at s4 ((pV R).mono (e3.trans e4) (Ex.refl _) rx)
        exact ⟨b, us, rfl, .inl (.inl h2), PN.new (PN.up (e2.trans (e3.trans e4)) p3) s4 (h4.cut o o2) (Nat.le_trans (cutV_length _ _ _) h3)⟩) fun c i z => z.mono (e2.trans e3) (Ex.refl _))) fun c i z => z.mono e2 (Ex.refl _)))
    fun _ _ z => z)
theorem n_lcg [Im S] {wi : TI} {g : TG} {tt : TT} {vs : List Nat} {p : α → Res Bool} {f : α → Res β} {P : α → L2.St → Hp → Hp → Prop} (hi : EvI E K wi σ I C kpT m R) (hg : Tg K g R (wipe σ vs) P)
    (hw : ∀ x σ2 I' C', P x σ2 I' C' → wipe σ2 vs = wipe σ vs)
    (hp : ∀ x σ2 I' C', Ex I I' → Ex C C' → P x σ2 I' C' → EvT EZ K tt σ2 I' C' (p x))
    (hf : ∀ x σ2 I' C', Ex I I' → Ex C C' → P x σ2 I' C' → EvX EZ K te σ2 I' C' (f x) S)
    (hm : ∀ x σ2 I' I2 C', Ex I' I2 → P x σ2 I' C' → P x σ2 I2 C') : EvN E K (tLc wi g tt te vs) σ I C (m.bind (filR p f)) S := fun I1 C1 H1 e e' s Q q =>
  hi I1 C1 H1 e e' s _ ((Post.bind q).mono (fun xs q2 J G Y I2 H2 e2 s2 hz w hG hY D hD => by
    have cD : C1 D = none := s2.c.free hD
    refine lc_it w (fun i H => Lc S I2 C1 D (filR p f (xs.drop i)) (PN S I1 C1 Q) i H) ⟨[], [], I2, Ex.refl _, s2.newC hD, Nat.le_refl _, .nil, ?_⟩ (fun i H hi ⟨_, vs', I', e3, s3, _⟩ => hG I' _ H e3 trivial s3) (fun i x H H' hi ⟨ys, us, I', e3, s3, hn, r3, po⟩ y => ?_) (fun H ⟨ys, us, I', e3, s3, hn, r3, po⟩ => ?_)
    · cases hfil : filR p f xs with
      | ok zs =>
        rw [hfil] at q2
        show Post (filR p f (xs.drop 0)) _ _
        rw [List.drop_zero, hfil]
        exact q2
      | exc c i =>
        exfalso
        revert hfil
        clear q2 hG hY w hz
        induction xs with
        | nil =>
          intro z
          cases z
        | cons x xs ih =>
          unfold filR
          cases p x with
          | ok b =>
            cases b with
            | true =>
              cases f x with
              | ok y =>
                intro z
                cases hh : filR p f xs with
                | ok zs =>
                  simp only [hh] at z
                  cases z
                | exc c' i' =>
                  simp only [hh] at z
                  have z2 : (Res.exc c' i' : Res (List β)) = .exc c i := z
                  cases z2
                  exact ih hh
                | bad =>
                  simp only [hh] at z
                  cases z
              | exc _ _ => intro z; cases z
              | bad => intro z; cases z
            | false => exact ih
          | exc _ _ => intro z; cases z
          | bad => intro z; cases z
      | bad =>
        rw [hfil] at q2
        exact q2.elim
    · obtain ⟨a, ha⟩ : ∃ a, xs[i]? = some a := ⟨xs[i], by simp [hi]⟩
      rw [drop_cons ha] at po
      obtain ⟨I4, e4, s4, ra⟩ := hY i a x I' _ H H' ha e3 trivial s3 y
      refine hg a x I4 _ H' _ s4 ra fun σ2 pa => ⟨hw _ _ _ _ pa, ?_⟩
      have eI : Ex I I4 := e.trans (e2.trans (e3.trans e4))
      have eC : Ex C (upd C1 D (.lst us)) := e'.trans (Ex.new cD)
      unfold filR at po
      refine hp a σ2 I4 _ eI eC pa I4 _ H' (Ex.refl _) (Ex.refl _) s4 _ ?_
      cases hpa : p a with
      | ok b =>
        rw [hpa] at po
        cases b with
        | true =>
          show ∀ I5 H5, Ex I4 I5 → St I5 (upd C1 D (.lst us)) H5 → te σ2 H5 _
          intro I5 H5 e5 s5
          refine hf a σ2 I5 _ (eI.trans e5) eC (hm _ _ _ _ _ e5 pa) I5 _ H5 (Ex.refl _) (Ex.refl _) s5 _ ?_
          cases hfa : f a with
          | ok b =>
            have po2 : Post ((filR p f (xs.drop (i + 1))).bind fun ys => .ok (b :: ys)) (fun zs => PN S I1 C1 Q (ys ++ zs)) (fun _ _ => False) := by
              have z := po
              simp only [hfa] at z
              exact z
            intro v I6 H6 e6 s6 rv
            have hsz : us.length < sizeLine := Nat.lt_of_le_of_lt hn (Nat.lt_of_lt_of_le hi hz)
            refine ⟨us, s6.c D _ upd_same, hsz, ⟨ys ++ [b], us ++ [v], I6, e3.trans (e4.trans (e5.trans e6)), ?_, by rw [List.length_append]; exact Nat.succ_le_succ hn, ?_, ?_⟩⟩
            · have z := s6.set (o := .lst (us ++ [v])) (p := D) upd_same
              rw [upd_upd] at z
              exact z
            · exact (r3.imp fun _ _ => S.mono (e4.trans (e5.trans e6)) (Ex.refl _)).append (.one (Im.im rv))
            · refine (Post.bind po2).mono (fun zs z => ?_) fun _ _ z => z
              rw [List.append_assoc]
              exact z
          | exc c j =>
            have z := po
            simp only [hfa] at z
            exact z.elim
          | bad =>
            have z := po
            simp only [hfa] at z
            exact z.elim
        | false =>
          show ∀ I5 H5, Ex I4 I5 → St I5 (upd C1 D (.lst us)) H5 → Lc S I2 C1 D (filR p f (xs.drop (i + 1))) (PN S I1 C1 Q) (i + 1) H5
          intro I5 H5 e5 s5
          exact ⟨ys, us, I5, e3.trans (e4.trans e5), s5, Nat.le_succ_of_le hn, r3.imp fun _ _ => S.mono (e4.trans e5) (Ex.refl _), po⟩
      | exc c j =>
        rw [hpa] at po
        exact po.elim
      | bad =>
        rw [hpa] at po
        exact po.elim
    · rw [List.drop_length] at po
      have po2 : PN S I1 C1 Q (ys ++ []) := po
      rw [List.append_nil] at po2
      exact po2 D us I' H (e2.trans e3) cD s3 (Nat.le_trans hn hz) r3) fun _ _ z => z)

theorem n_lc [Im S] {wi : TI} {g : TG} {vs : List Nat} {m : Res (List α)} {f : α → Res β} {P : α → L2.St → Hp → Hp → Prop} (hi : EvI E K wi σ I C kpT m R) (hg : Tg K g R (wipe σ vs) P)
    (hw : ∀ x σ2 I' C', P x σ2 I' C' → wipe σ2 vs = wipe σ vs)
    (hf : ∀ x σ2 I' C', Ex I I' → Ex C C' → P x σ2 I' C' → EvX EZ K te σ2 I' C' (f x) S)
    (hm : ∀ x σ2 I' I2 C', Ex I' I2 → P x σ2 I' C' → P x σ2 I2 C') : EvN E K (tLc wi g tYes te vs) σ I C (m.bind (mapR f)) S := by
  have z := n_lcg (p := fun _ => .ok true) hi hg hw (fun x σ2 I' C' _ _ _ => t_yes) hf hm
  have e : filR (fun _ => Res.ok true) f = mapR f := funext (filR_yes f)
  rw [e] at z
  exact z
/-- sorted(pairs of ints) -/
def leP (a b : Int × Int) : Bool := decide (a.1 < b.1) || (decide (a.1 = b.1) && decide (a.2 ≤ b.2))
def insP (x : Int × Int) : List (Int × Int) → List (Int × Int)
  | [] => [x]
  | y :: ys => if leP x y = true then x :: y :: ys else y :: insP x ys
def isortP : List (Int × Int) → List (Int × Int)
  | [] => []
  | x :: xs => insP x (isortP xs)
def sortP (xs : List (Int × Int)) : Res (List (Int × Int)) := .ok (isortP xs)
@[simp] theorem sortP_eq (xs : List (Int × Int)) : sortP xs = .ok (isortP xs) := rfl
theorem leP_iff {a b : Int × Int} : leP a b = true ↔ a.1 < b.1 ∨ (a.1 = b.1 ∧ a.2 ≤ b.2) := by
  unfold leP
  simp only [Bool.or_eq_true, Bool.and_eq_true, decide_eq_true_eq]
theorem insP_perm (x : Int × Int) : ∀ ys, (insP x ys).Perm (x :: ys)
  | [] => .refl _
  | y :: ys => by
    unfold insP
    split
    · exact .refl _
    · exact ((insP_perm x ys).cons y).trans (.swap x y ys)
theorem isortP_perm : ∀ xs, (isortP xs).Perm xs
  | [] => .refl _
  | x :: xs => (insP_perm x _).trans ((isortP_perm xs).cons x)
theorem leP_total (a b : Int × Int) : leP a b = true ∨ leP b a = true := by
  rw [leP_iff, leP_iff]
  omega
theorem leP_trans {a b c : Int × Int} (h : leP a b = true) (h' : leP b c = true) : leP a c = true := by
  rw [leP_iff] at *
  omega
theorem leP_anti {a b : Int × Int} (h : leP a b = true) (h' : leP b a = true) : a = b := by
  rw [leP_iff] at *
  exact Prod.ext (by omega) (by omega)
theorem insP_sorted (x : Int × Int) : ∀ {ys : List (Int × Int)}, ys.Pairwise (fun a b => leP a b = true) → (insP x ys).Pairwise (fun a b => leP a b = true)
  | [], _ => List.pairwise_singleton _ _
  | y :: ys, h => by
    obtain ⟨h1, h2⟩ := List.pairwise_cons.mp h
    unfold insP
    split
    · rename_i hx
      exact List.pairwise_cons.mpr ⟨fun z hz => by
        rcases List.mem_cons.mp hz with e | hz
        · rw [e]
          exact hx
        · exact leP_trans hx (h1 z hz), h⟩
    · rename_i hx
      refine List.pairwise_cons.mpr ⟨fun z hz => ?_, insP_sorted x h2⟩
      rcases List.mem_cons.mp ((insP_perm x ys).mem_iff.mp hz) with e | hz
      · rw [e]
        exact (leP_total y x).resolve_right hx
      · exact h1 z hz
theorem isortP_sorted : ∀ xs, (isortP xs).Pairwise (fun a b => leP a b = true)
  | [] => .nil
  | x :: xs => insP_sorted x (isortP_sorted xs)
theorem sorted_unique : ∀ {xs ys : List (Int × Int)}, xs.Perm ys → xs.Pairwise (fun a b => leP a b = true) → ys.Pairwise (fun a b => leP a b = true) → xs = ys
  | [], ys, p, _, _ => by rw [List.nil_perm.mp p]
  | x :: xs, [], p, _, _ => by cases List.perm_nil.mp p
  | x :: xs, y :: ys, p, h, h' => by
    obtain ⟨h1, h2⟩ := List.pairwise_cons.mp h
    obtain ⟨h1', h2'⟩ := List.pairwise_cons.mp h'
    have e : x = y := by
      by_cases e : x = y
      · exact e
      · have hy : y ∈ xs := (List.mem_cons.mp (p.mem_iff.mpr List.mem_cons_self)).resolve_left fun z => e z.symm
        have hx : x ∈ ys := (List.mem_cons.mp (p.mem_iff.mp List.mem_cons_self)).resolve_left e
        exact leP_anti (h1 y hy) (h1' x hx)
    subst e
    rw [sorted_unique (List.Perm.cons_inv p) h2 h2']
end
end Sd

namespace Sd
open PySem L2
section
variable {E : XK} {K : PySem.W.Frag} {σ : L2.St} {I I' C C' H : Hp} {α β γ μ ω S ρ : Type} {R : Rp α} {S1 : Rp β} {te ta tb : TE} {tt : TT} {tz tu tw : TS} {D : Ends} {Q : ω → Prop} {X : Ec → Int → Prop}
/-! ### sorted -/
def kP (H : Hp) (v : V) : Int × Int := match v with
  | .ref t => (match H t with
    | some (.tup [.int i, .int j]) => (i, j)
    | _ => (0, 0))
  | _ => (0, 0)
theorem kP_of {a : Int × Int} {v : V} (s : St I C H) (h : (pT (tc pI (t1 pI))).r a v I C) : (∃ t, v = .ref t ∧ H t = some (.tup [.int a.1, .int a.2])) ∧ kP H v = a := by
  obtain ⟨t, vs, rfl, h2, u, us, rfl, h3, w, rfl, h4⟩ := h
  have e1 : u = .int a.1 := h3
  have e2 : w = .int a.2 := h4
  subst e1 e2
  have ht := s.i _ _ h2
  refine ⟨⟨t, rfl, ht⟩, ?_⟩
  show (match H t with
    | some (.tup [.int i, .int j]) => (i, j)
    | _ => (0, 0)) = a
  rw [ht]
theorem kP_map (s : St I C H) : ∀ {xs : List (Int × Int)} {vs : List V}, A2 (fun x u => (pT (tc pI (t1 pI))).r x u I C) xs vs → vs.map (kP H) = xs
  | _, _, .nil => rfl
  | _, _, .cons r t => by rw [List.map_cons, (kP_of s r).2, kP_map s t]
theorem a2_mem {f : α → V → Prop} : ∀ {xs : List α} {vs : List V} {v : V}, A2 f xs vs → v ∈ vs → ∃ x, x ∈ xs ∧ f x v
  | _, _, _, .nil, h => by cases h
  | _, _, _, .cons r t, h => by
    rcases List.mem_cons.mp h with e | h
    · exact ⟨_, List.mem_cons_self, by rw [e]; exact r⟩
    · obtain ⟨x, hx, r⟩ := a2_mem t h
      exact ⟨x, List.mem_cons_of_mem _ hx, r⟩
theorem a2_of_k {f : β → V → Prop} {k : V → β} : ∀ {ys : List V}, (∀ v, v ∈ ys → f (k v) v) → A2 f (ys.map k) ys
  | [], _ => .nil
  | y :: ys, h => .cons (h y List.mem_cons_self) (a2_of_k fun v hv => h v (List.mem_cons_of_mem _ hv))
theorem n_sortP : OpLN E K (rSortedPO K) sortP (t1 (pV (pT (tc pI (t1 pI))))) (pT (tc pI (t1 pI))) := fun I C H a vs s hv Q q => by
  obtain ⟨v, rfl, h⟩ := hv
  obtain ⟨p, us, rfl, h2, h3, h4⟩ := pV.at s h
  refine ⟨p, us, kP H, rfl, .inl (.inl h2), fun x hx => ?_, fun ys l hs hb hl => ?_⟩
  · obtain ⟨z, _, r⟩ := a2_mem h4 hx
    obtain ⟨⟨t, e, ht⟩, ek⟩ := kP_of s r
    exact ⟨t, e, by rw [ek]; exact ht⟩
  · have ep : (ys.map (kP H)).Perm a := by
      have z := hb.perm.map (kP H)
      rw [kP_map s h4] at z
      exact z
    have es : (ys.map (kP H)).Pairwise (fun a b => leP a b = true) := by
      refine List.pairwise_map.mpr (hs.imp fun {x y} z => ?_)
      rw [leP_iff]
      have z2 : ¬ SrtO.lexB (kP H y) (kP H x) = true := by
        intro z3
        have z4 : SrtO.lexB (kP H y) (kP H x) = false := z
        rw [z3] at z4
        cases z4
      rw [SrtO.lexB_iff] at z2
      omega
    have e := sorted_unique (ep.trans (isortP_perm a).symm) es (isortP_sorted a)
    have q2 : PN (pT (tc pI (t1 pI))) I C Q (isortP a) := q
    rw [← e] at q2
    refine PN.new q2 s (a2_of_k fun v hv => ?_) (by rw [hb.perm.length_eq]; exact h3) l hl
    obtain ⟨z, _, r⟩ := a2_mem h4 (hb.perm.mem_iff.mp hv)
    rw [(kP_of s r).2]
    exact r
def insI (x : Int) : List Int → List Int
  | [] => [x]
  | y :: ys => if x ≤ y then x :: y :: ys else y :: insI x ys
def isortI : List Int → List Int
  | [] => []
  | x :: xs => insI x (isortI xs)
def sortI (xs : List Int) : Res (List Int) := .ok (isortI xs)
@[simp] theorem sortI_eq (xs : List Int) : sortI xs = .ok (isortI xs) := rfl
theorem insI_perm (x : Int) : ∀ ys, (insI x ys).Perm (x :: ys)
  | [] => .refl _
  | y :: ys => by
    unfold insI
    split
    · exact .refl _
    · exact ((insI_perm x ys).cons y).trans (.swap x y ys)
theorem isortI_perm : ∀ xs, (isortI xs).Perm xs
  | [] => .refl _
  | x :: xs => (insI_perm x _).trans ((isortI_perm xs).cons x)
theorem insI_sorted (x : Int) : ∀ {ys : List Int}, ys.Pairwise (· ≤ ·) → (insI x ys).Pairwise (· ≤ ·)
  | [], _ => List.pairwise_singleton _ _
  | y :: ys, h => by
    obtain ⟨h1, h2⟩ := List.pairwise_cons.mp h
    unfold insI
    split
    · rename_i hx
      exact List.pairwise_cons.mpr ⟨fun z hz => by
        rcases List.mem_cons.mp hz with e | hz
        · rw [e]
          exact hx
        · exact Int.le_trans hx (h1 z hz), h⟩
    · rename_i hx
      refine List.pairwise_cons.mpr ⟨fun z hz => ?_, insI_sorted x h2⟩
      rcases List.mem_cons.mp ((insI_perm x ys).mem_iff.mp hz) with e | hz
      · rw [e]
        omega
      · exact h1 z hz
theorem isortI_sorted : ∀ xs, (isortI xs).Pairwise (· ≤ ·)
  | [] => .nil
  | x :: xs => insI_sorted x (isortI_sorted xs)
theorem sortedI_unique : ∀ {xs ys : List Int}, xs.Perm ys → xs.Pairwise (· ≤ ·) → ys.Pairwise (· ≤ ·) → xs = ys
  | [], ys, p, _, _ => by rw [List.nil_perm.mp p]
  | x :: xs, [], p, _, _ => by cases List.perm_nil.mp p
  | x :: xs, y :: ys, p, h, h' => by
    obtain ⟨h1, h2⟩ := List.pairwise_cons.mp h
    obtain ⟨h1', h2'⟩ := List.pairwise_cons.mp h'
    have e : x = y := by
      by_cases e : x = y
      · exact e
      · have hy : y ∈ xs := (List.mem_cons.mp (p.mem_iff.mpr List.mem_cons_self)).resolve_left fun z => e z.symm
        have hx : x ∈ ys := (List.mem_cons.mp (p.mem_iff.mp List.mem_cons_self)).resolve_left e
        exact Int.le_antisymm (h1 y hy) (h1' x hx)
    subst e
    rw [sortedI_unique (List.Perm.cons_inv p) h2 h2']
theorem n_sortI : OpLN E K (rSortedI K) sortI (t1 (pV pI)) pI := fun I C H a vs s hv Q q => by
  obtain ⟨v, rfl, h⟩ := hv
  obtain ⟨p, us, rfl, h2, h3, h4⟩ := pV.at s h
  have eu := A2.map_iff (h := V.int) (fun _ _ h => h) h4
  subst eu
  refine ⟨p, a, rfl, .inl (.inl h2), fun ns l hp hs hl => ?_⟩
  have e := sortedI_unique (hp.trans (isortI_perm a).symm) hs (isortI_sorted a)
  have q2 : PN pI I C Q (isortI a) := q
  rw [← e] at q2
  refine PN.new q2 s (A2.of_map (f := fun x u => pI.r x u I C) (h := V.int) (fun _ => rfl) ns) (by rw [List.length_map, hp.length_eq, ← List.length_map (f := V.int)]; exact h3) l hl
/-! ### chains, is of bools -/
theorem x_chain {r r' : R2} {f : α → β → Res Bool} {g : β → γ → Res Bool} {T : Rp γ} {tc : TE} {m : Res α} {n : Res β} {l : Res γ} (hr : Op2 E K r f R S1 pB) (hr' : Op2 E K r' g S1 T pB) (h1 : EvX E K ta σ I C m R) (h2 : EvX E K tb σ I C n S1) (h3 : EvX E K tc σ I C l T) :
    EvX E K (tChain r r' ta tb tc) σ I C (m.bind fun a => n.bind fun b => (f a b).bind fun k => if k = true then l.bind fun c => g b c else .ok false) pB := fun I1 C1 H1 e e' s Q q =>
  h1 I1 C1 H1 e e' s _ ((Post.bind q).mono (fun a p x I2 H2 e2 s2 rx =>
    h2 I2 C1 H2 (e.trans e2) e' s2 _ ((Post.bind p).mono (fun b p2 y I3 H3 e3 s3 ry =>
      hr I3 C1 H3 a b x y s3 (R.mono e3 (Ex.refl _) rx) ry _ ((Post.bind p2).mono (fun k p3 z I4 H4 e4 s4 rz => ⟨k, rz, by
        cases k with
        | true =>
          exact h3 I4 C1 H4 (e.trans (e2.trans (e3.trans e4))) e' s4 _ ((Post.bind p3).mono (fun c p4 w I5 H5 e5 s5 rw => hr' I5 C1 H5 b c y w s5 (S1.mono (e4.trans e5) (Ex.refl _) ry) rw Q
            (p4.mono (fun d z v I6 H6 e6 s6 rv => z v I6 H6 (e2.trans (e3.trans (e4.trans (e5.trans e6)))) s6 rv) fun c i z => z.mono (e2.trans (e3.trans (e4.trans e5))) (Ex.refl _))) fun c i z => z.mono (e2.trans (e3.trans e4)) (Ex.refl _))
        | false => exact p3 (.bl false) I4 H4 (e2.trans (e3.trans e4)) s4 rfl⟩) fun c i z => z.mono (e2.trans e3) (Ex.refl _))) fun c i z => z.mono e2 (Ex.refl _)))
    fun _ _ z => z)
theorem o_isB : Op2 E K rIsB eqR pB pB pB := fun I C H a b x y s hx hy Q q => ⟨a, b, hx, hy, PQ.now q s rfl⟩
theorem o_notB : Op2 E K rNotB neR pB pB pB := fun I C H a b x y s hx hy Q q => ⟨a, b, hx, hy, PQ.now q s rfl⟩
/-! ### a cell as a list that is read -/
theorem x_cell [Im R] {i : Nat} {a : Addr} {xs : List α} {vs : List V} (h : σ[i]? = some (some (.ref a))) (hc : C a = some (.lst vs)) (hl : vs.length ≤ sizeLine) (hr : A2 (fun x u => R.r x u I Z) xs vs) : EvX E K (tVar i) σ I C (.ok xs) (pV R) :=
  x_var h ⟨a, vs, rfl, .inr hc, hl, hr.imp fun _ _ h => Im.im h⟩
/-! ### keeping -/
theorem fr_keep {B C C2 : Hp} {p : Addr} (h : Ex B C) (hp : B p = none) (k : ∀ q, q ≠ p → C2 q = C q) : Ex B C2 := fun a o e => by
  rw [k a (ne_of_none e hp)]
  exact h a o e
theorem fr_pool {C0 C C2 : Hp} {p : Addr} (h : Ex (off C0 p) C) (k : ∀ q, q ≠ p → C2 q = C q) : Ex (off C0 p) C2 := fr_keep h off_same k
theorem ex_pool {C0 C : Hp} {p : Addr} {o : HO} (h : Ex (off C0 p) C) (hc : C p = some o) : Ex (upd C0 p o) C := fun a u e => by
  by_cases q : a = p
  · rw [q, upd_same] at e
    rw [q, hc]
    exact e
  · rw [upd_ne q] at e
    exact h a u ((off_ne q).trans e)
theorem freeze {a : Addr} {o : HO} (s : St I C H) (hc : C a = some o) : ∃ I2 C2, Ex I I2 ∧ St I2 C2 H ∧ I2 a = some o ∧ ∀ q, q ≠ a → C2 q = C q :=
  ⟨_, _, Ex.new (s.freeI hc), s.frz hc, upd_same, fun q h => if_neg h⟩
theorem frz_list [Im R] {I2 : Hp} {a : Addr} {xs : List α} {vs : List V} (e : Ex I I2) (h : I2 a = some (.lst vs)) (hl : vs.length ≤ sizeLine) (hr : A2 (fun x u => R.r x u I Z) xs vs) : (pL R).r xs (.ref a) I2 Z := ⟨a, vs, rfl, h, hl, hr.imp fun _ _ => R.mono e (Ex.refl _)⟩
theorem ne_new {p q : Addr} {o : HO} (h : C p = some o) (h' : C q = none) : p ≠ q := ne_of_none h h'
/-! ### statements, as they are printed -/
theorem q_asg [Im R] {i : Nat} {m : Res α} {k : α → Res ω} (h : EvX E K te σ I C m R) (s : St I C H) (hX : XH X E K I C) (hm : Post (m.bind k) Q X)
    (next : ∀ a v I2 H2, Ex I I2 → St I2 C H2 → R.r a v I2 Z → Post (k a) Q X → tz D (σ.set i (some v)) H2) : tSeq (tAsg te (gName i)) tz D σ H :=
  s_asg h s hX hm fun a v I2 H2 e2 s2 rv hm => next a v I2 H2 e2 s2 (Im.im rv) hm
theorem q_ret [Im R] {m : Res α} {k : α → Res ω} (h : EvX E K te σ I C m R) (s : St I C H) (hX : XH X E K I C) (hm : Post (m.bind k) Q X)
    (next : ∀ a v I2 H2, Ex I I2 → St I2 C H2 → R.r a v I2 Z → Post (k a) Q X → D.rt v H2) : tSeq (tRet te) tz D σ H :=
  s_ret h s hX hm fun a v I2 H2 e2 s2 rv hm => next a v I2 H2 e2 s2 (Im.im rv) hm
theorem q_retN {m : Res (List α)} {k : List α → Res ω} (h : EvN E K te σ I C m R) (s : St I C H) (hX : XH X E K I C) (hm : Post (m.bind k) Q X)
    (next : ∀ xs p vs I2 H2, Ex I I2 → C p = none → St I2 (upd C p (.lst vs)) H2 → vs.length ≤ sizeLine → A2 (fun x u => R.r x u I2 C) xs vs → Post (k xs) Q X → D.rt (.ref p) H2) : tSeq (tRet te) tz D σ H :=
  h I C H (Ex.refl _) (Ex.refl _) s _ ((Post.bind hm).mono (fun a z p vs I2 H2 e2 hp s2 hl hr => next a p vs I2 H2 e2 hp s2 hl hr z) hX)
/-- xs = e, a new list that will change -/
theorem q_asgN [Im R] {i : Nat} {m : Res (List α)} {k : List α → Res ω} (h : EvN E K te σ I C m R) (s : St I C H) (hX : XH X E K I C) (hm : Post (m.bind k) Q X)
    (next : ∀ xs p vs I2 C2 H2, Ex I I2 → C p = none → St I2 C2 H2 → C2 p = some (.lst vs) → (∀ q, q ≠ p → C2 q = C q) → vs.length ≤ sizeLine → A2 (fun x u => R.r x u I2 Z) xs vs → Post (k xs) Q X → tz D (σ.set i (some (.ref p))) H2) : tSeq (tAsg te (gName i)) tz D σ H :=
  h I C H (Ex.refl _) (Ex.refl _) s _ ((Post.bind hm).mono (fun a z p vs I2 H2 e2 hp s2 hl hr => next a p vs I2 _ H2 e2 hp s2 upd_same (fun q h => upd_ne h) hl (hr.imp fun _ _ h => Im.im h) z) hX)
theorem q_nil {i : Nat} (s : St I C H) (next : ∀ p C2 H2, C p = none → St I C2 H2 → C2 p = some (.lst []) → (∀ q, q ≠ p → C2 q = C q) → tz D (σ.set i (some (.ref p))) H2) : tSeq (tAsg (tLst tNil) (gName i)) tz D σ H :=
  s_newL s fun p H2 hp _ s2 => next p _ H2 hp s2 upd_same fun q h => upd_ne h
theorem q_app [Im R] {i : Nat} {p : Addr} {xs : List α} {vs : List V} {k : List α → Res ω} {m : Res α} (hv : σ[i]? = some (some (.ref p))) (hc : C p = some (.lst vs)) (hr : A2 (fun x u => R.r x u I Z) xs vs) (h : EvX E K te σ I C m R) (s : St I C H) (hX : XH X E K I C)
    (hm : Post ((m.bind fun x => push xs x).bind k) Q X)
    (next : ∀ ys vs' I2 C2 H2, Ex I I2 → St I2 C2 H2 → C2 p = some (.lst vs') → (∀ q, q ≠ p → C2 q = C q) → vs'.length ≤ sizeLine → A2 (fun x u => R.r x u I2 Z) ys vs' → Post (k ys) Q X → tz D σ H2) :
    tSeq (tDrop (tBM K "list" rAppend (tVar i) (tCons te tNil))) tz D σ H :=
  s_app hv hc (hr.imp fun _ _ h => Im.im h) h s hX hm fun ys vs' I2 H2 e2 s2 hl hr hm => next ys vs' I2 _ H2 e2 s2 upd_same (fun q h => upd_ne h) hl (hr.imp fun _ _ h => Im.im h) hm
theorem q_setL [Im R] {i : Nat} {p : Addr} {xs : List α} {vs : List V} {k : List α → Res ω} {ti : TE} {m : Res α} {mi : Res Int} (hv : σ[i]? = some (some (.ref p))) (hc : C p = some (.lst vs)) (hl : vs.length ≤ sizeLine) (hr : A2 (fun x u => R.r x u I Z) xs vs)
    (h : EvX E K te σ I C m R) (hi : EvX E K ti σ I C mi pI) (s : St I C H) (hX : XH X E K I C) (hm : Post ((m.bind fun x => mi.bind fun j => setR xs j x).bind k) Q X)
    (next : ∀ ys vs' I2 C2 H2, Ex I I2 → St I2 C2 H2 → C2 p = some (.lst vs') → (∀ q, q ≠ p → C2 q = C q) → vs'.length ≤ sizeLine → A2 (fun x u => R.r x u I2 Z) ys vs' → Post (k ys) Q X → tz D σ H2) :
    tSeq (tAsg te (gSub (tVar i) ti rSetL)) tz D σ H :=
  s_setL hv hc hl (hr.imp fun _ _ h => Im.im h) h hi s hX hm fun ys vs' I2 H2 e2 s2 hl hr hm => next ys vs' I2 _ H2 e2 s2 upd_same (fun q h => upd_ne h) hl (hr.imp fun _ _ h => Im.im h) hm
/-- xs.extend(e) -/
theorem q_ext [Im R] {i : Nat} {p : Addr} {xs : List α} {vs : List V} {k : List α → Res ω} {m : Res (List α)} (hv : σ[i]? = some (some (.ref p))) (hc : C p = some (.lst vs)) (hr : A2 (fun x u => R.r x u I Z) xs vs) (h : EvX E K te σ I C m (pL R)) (s : St I C H) (hX : XH X E K I C)
    (hm : Post ((m.bind fun x => rCatR xs x).bind k) Q X)
    (next : ∀ ys vs' I2 C2 H2, Ex I I2 → St I2 C2 H2 → C2 p = some (.lst vs') → (∀ q, q ≠ p → C2 q = C q) → vs'.length ≤ sizeLine → A2 (fun x u => R.r x u I2 Z) ys vs' → Post (k ys) Q X → tz D σ H2) :
    tSeq (tDrop (tBM K "list" rExtend (tVar i) (tCons te tNil))) tz D σ H :=
  ⟨.ref p, hv, .inl ⟨rfl, vs, .inl (.inl (s.c p _ hc))⟩, h I C H (Ex.refl _) (Ex.refl _) s _ ((Post.bind (Post.bind hm)).mono (fun a po v I2 H2 e2 s2 rv => by
    obtain ⟨b, us, rfl, h2, h3, h4⟩ := rv
    unfold rCatR at po
    split at po
    · rename_i hl
      have hn := hr.len
      have hl2 : vs.length + us.length ≤ sizeLine := by
        rw [hn, h4.len]
        exact Nat.le_trans hl (by decide)
      exact ⟨p, b, vs, us, rfl, rfl, s2.c p _ hc, s2.i b _ h2, hl2, next (xs ++ a) (vs ++ us) I2 _ _ e2 (s2.set hc) upd_same (fun q h => upd_ne h) (by rw [List.length_append]; exact hl2) ((hr.imp fun _ _ h => R.to e2 h).append (h4.imp fun _ _ h => Im.im h)) po⟩
    · exact po.elim) hX)⟩
/-- xs.pop(): the last item and the rest -/
def popR (xs : List α) : Res (α × List α) := match xs.getLast? with
  | some x => .ok (x, xs.dropLast)
  | none => .bad
theorem e_pop [Im R] {i : Nat} {p : Addr} {xs : List α} {vs : List V} {k : α × List α → Res ω} {Q2 : VK} (hv : σ[i]? = some (some (.ref p))) (hc : C p = some (.lst vs)) (hl : vs.length ≤ sizeLine) (hr : A2 (fun x u => R.r x u I Z) xs vs) (s : St I C H) (hm : Post ((popR xs).bind k) Q X)
    (next : ∀ a v C2 H2, St I C2 H2 → C2 p = some (.lst vs.dropLast) → (∀ q, q ≠ p → C2 q = C q) → vs.dropLast.length ≤ sizeLine → A2 (fun x u => R.r x u I Z) a.2 vs.dropLast → R.r a.1 v I Z → Post (k a) Q X → Q2 v H2) : tBM0 K "list" rPop (tVar i) σ H Q2 := by
  have po := Post.bind hm
  unfold popR at po
  cases hx : xs.getLast? with
  | none =>
    rw [hx] at po
    exact po.elim
  | some x =>
    rw [hx] at po
    have hn := hr.len
    have hx2 : xs[xs.length - 1]? = some x := by
      rw [← List.getLast?_eq_getElem?]
      exact hx
    obtain ⟨v, hv2, r⟩ := hr.get' hx2
    rw [← hn] at hv2
    exact ⟨.ref p, hv, .inl ⟨rfl, vs, .inl (.inl (s.c p _ hc))⟩, p, vs, v, rfl, rfl, s.c p _ hc, hv2, next (x, xs.dropLast) v _ _ (s.set hc) upd_same (fun q h => upd_ne h) (by rw [List.length_dropLast]; omega) hr.dropLast r po⟩
/-! the pool -/
variable {p : Addr} {M : Rt μ} {x : μ} {ws : List V}
theorem qm_asg [It M] [Im R] {i : Nat} {m : μ → Res (α × μ)} {k : α × μ → Res ω} (h : EvM E K p M te σ I (off C p) m R) (s : St I C H) (hc : C p = some (.lst ws)) (hx : M.r x ws I Z) (hm : Post ((m x).bind k) Q XF)
    (next : ∀ b v ws' I2 C2 H2, Ex I I2 → St I2 C2 H2 → C2 p = some (.lst ws') → (∀ q, q ≠ p → C2 q = C q) → M.r b.2 ws' I2 Z → R.r b.1 v I2 Z → Post (k b) Q XF → tz D (σ.set i (some v)) H2) : tSeq (tAsg te (gName i)) tz D σ H :=
  sm_asg h s hc (It.im hx) hm fun b v ws' I2 H2 e2 s2 hx2 rv hm => next b v ws' I2 _ H2 e2 s2 upd_same (fun q h => upd_ne h) (It.im hx2) (Im.im rv) hm
theorem qm_ret [It M] [Im R] {m : μ → Res (α × μ)} {k : α × μ → Res ω} (h : EvM E K p M te σ I (off C p) m R) (s : St I C H) (hc : C p = some (.lst ws)) (hx : M.r x ws I Z) (hm : Post ((m x).bind k) Q XF)
    (next : ∀ b v ws' I2 C2 H2, Ex I I2 → St I2 C2 H2 → C2 p = some (.lst ws') → (∀ q, q ≠ p → C2 q = C q) → M.r b.2 ws' I2 Z → R.r b.1 v I2 Z → Post (k b) Q XF → D.rt v H2) : tSeq (tRet te) tz D σ H :=
  sm_ret h s hc (It.im hx) hm fun b v ws' I2 H2 e2 s2 hx2 rv hm => next b v ws' I2 _ H2 e2 s2 upd_same (fun q h => upd_ne h) (It.im hx2) (Im.im rv) hm
theorem qm_expr [It M] [Im R] {m : μ → Res (α × μ)} {k : α × μ → Res ω} (h : EvM E K p M te σ I (off C p) m R) (s : St I C H) (hc : C p = some (.lst ws)) (hx : M.r x ws I Z) (hm : Post ((m x).bind k) Q XF)
    (next : ∀ b ws' I2 C2 H2, Ex I I2 → St I2 C2 H2 → C2 p = some (.lst ws') → (∀ q, q ≠ p → C2 q = C q) → M.r b.2 ws' I2 Z → Post (k b) Q XF → tz D σ H2) : tSeq (tDrop te) tz D σ H :=
  sm_expr h s hc (It.im hx) hm fun b ws' I2 H2 e2 s2 hx2 hm => next b ws' I2 _ H2 e2 s2 upd_same (fun q h => upd_ne h) (It.im hx2) hm
theorem qm_if [It M] {c : μ → Res (Bool × μ)} {m1 m2 : μ → Res ω} (h : EvTM E K p M tt σ I (off C p) c) (s : St I C H) (hc : C p = some (.lst ws)) (hx : M.r x ws I Z) (hm : Post (ifMR c x m1 m2) Q XF)
    (h1 : ∀ y ws' I2 C2 H2, Ex I I2 → St I2 C2 H2 → C2 p = some (.lst ws') → (∀ q, q ≠ p → C2 q = C q) → M.r y ws' I2 Z → Post (m1 y) Q XF → tu { D with nx := tz D } σ H2)
    (h2 : ∀ y ws' I2 C2 H2, Ex I I2 → St I2 C2 H2 → C2 p = some (.lst ws') → (∀ q, q ≠ p → C2 q = C q) → M.r y ws' I2 Z → Post (m2 y) Q XF → tw { D with nx := tz D } σ H2) : tSeq (tIfS tt tu tw) tz D σ H :=
  sm_if h s hc (It.im hx) hm (fun y ws' I2 H2 e2 s2 hx2 hm => h1 y ws' I2 _ H2 e2 s2 upd_same (fun q h => upd_ne h) (It.im hx2) hm) (fun y ws' I2 H2 e2 s2 hx2 hm => h2 y ws' I2 _ H2 e2 s2 upd_same (fun q h => upd_ne h) (It.im hx2) hm)
theorem qm_ifj [It M] (P : S → L2.St → Hp → Hp → Prop) {c : μ → Res (Bool × μ)} {m1 m2 : μ → Res S} {k : S → Res ω} (h : EvTM E K p M tt σ I (off C p) c) (s : St I C H) (hc : C p = some (.lst ws)) (hx : M.r x ws I Z) (hm : Post ((ifMR c x m1 m2).bind k) Q XF)
    (h1 : ∀ (N : L2.St → Hp → Prop) y ws' I2 C2 H2, Ex I I2 → St I2 C2 H2 → C2 p = some (.lst ws') → (∀ q, q ≠ p → C2 q = C q) → M.r y ws' I2 Z → Post (m1 y) (fun s' => ∀ σ2 I3 C3 H3, Ex I I3 → St I3 C3 H3 → P s' σ2 I3 C3 → N σ2 H3) XF → tu { D with nx := N } σ H2)
    (h2 : ∀ (N : L2.St → Hp → Prop) y ws' I2 C2 H2, Ex I I2 → St I2 C2 H2 → C2 p = some (.lst ws') → (∀ q, q ≠ p → C2 q = C q) → M.r y ws' I2 Z → Post (m2 y) (fun s' => ∀ σ2 I3 C3 H3, Ex I I3 → St I3 C3 H3 → P s' σ2 I3 C3 → N σ2 H3) XF → tw { D with nx := N } σ H2)
    (next : ∀ s' σ2 I3 C3 H3, Ex I I3 → St I3 C3 H3 → P s' σ2 I3 C3 → Post (k s') Q XF → tz D σ2 H3) : Evl.tCut (tIfS tt tu tw) tz D σ H :=
  sm_ifj P h s hc (It.im hx) hm (fun N y ws' I2 H2 e2 s2 hx2 hm => h1 N y ws' I2 _ H2 e2 s2 upd_same (fun q h => upd_ne h) (It.im hx2) hm) (fun N y ws' I2 H2 e2 s2 hx2 hm => h2 N y ws' I2 _ H2 e2 s2 upd_same (fun q h => upd_ne h) (It.im hx2) hm) next
theorem qm_forN [It M] (P : S → L2.St → Hp → Hp → Prop) {wi : TI} {g : TG} {m : μ → Res (List α × μ)} {f : α → S → Res S} {s0 : μ → S} {k : S → Res ω} (hi : EvIM E K p M wi σ I (off C p) m R) (s : St I C H) (hc : C p = some (.lst ws)) (hx : M.r x ws I Z) (hm : Post (((m x).bind fun b => loopN f b.1 (s0 b.2)).bind k) Q XF)
    (h0 : ∀ y ws' I2 C2, Ex I I2 → C2 p = some (.lst ws') → (∀ q, q ≠ p → C2 q = C q) → M.r y ws' I2 Z → P (s0 y) σ I2 C2) (hP : ∀ s' σ' I' I2 C', Ex I' I2 → P s' σ' I' C' → P s' σ' I2 C')
    (body : ∀ (N : L2.St → Hp → Prop) x v s' σ' I' C' H', Ex I I' → St I' C' H' → P s' σ' I' C' → R.r x v I' C' → Post (f x s') (fun s2 => ∀ σ2 I3 C3 H3, Ex I' I3 → St I3 C3 H3 → P s2 σ2 I3 C3 → N σ2 H3) XF →
      g v σ' H' fun σ2 H2 => tu { D with nx := N, ct := N, bk := tz D } σ2 H2)
    (next : ∀ s' σ' I' C' H', Ex I I' → St I' C' H' → P s' σ' I' C' → Post (k s') Q XF → tz D σ' H') : tSeq (tFor wi g tu) tz D σ H :=
  sm_forN P hi s hc (It.im hx) hm (fun y ws' I2 e2 hx2 => h0 y ws' I2 _ e2 upd_same (fun q h => upd_ne h) (It.im hx2)) hP body next
theorem q_set [It M] [Im S1] {i k : Nat} {g : μ → β → μ} {kk : μ → Res ω} {m : Res β} (hv : σ[i]? = some (some (.ref p))) (h : EvX E K te σ I C m S1) (j : Pk M k g S1) (s : St I C H) (hc : C p = some (.lst ws)) (hx : M.r x ws I Z) (hm : Post (m.bind fun a => kk (g x a)) Q XF)
    (next : ∀ y ws' I2 C2 H2, Ex I I2 → St I2 C2 H2 → C2 p = some (.lst ws') → (∀ q, q ≠ p → C2 q = C q) → M.r y ws' I2 Z → Post (kk y) Q XF → tz D σ H2) : tSeq (tAsg te (gSub (tVar i) (tC (.int (k : Int))) rSetL)) tz D σ H :=
  sm_set hv h j s hc (It.im hx) hm fun y ws' I2 H2 e2 s2 hx2 hm => next y ws' I2 _ H2 e2 s2 upd_same (fun q h => upd_ne h) (It.im hx2) hm
theorem q_pool {i k : Nat} {f : μ → β} [It M] (hv : σ[i]? = some (some (.ref p))) (hc : C p = some (.lst ws)) (hx : M.r x ws I Z) (j : Pj M k f S1) : EvX E K (tOp (rIxL K) (tVar i) (tC (.int (k : Int)))) σ I C (.ok (f x)) S1 := x_pool hv hc (It.im hx) j
/-! targets -/
theorem g1 [Im R] {i : Nat} : Tg K (gName i) R σ (fun x σ2 I _ => ∃ v, σ2 = σ.set i (some v) ∧ R.r x v I Z) := fun x v I C H Q s r k => k _ ⟨v, rfl, Im.im r⟩
theorem g2 [Im R] [Im S1] {i j : Nat} : Tg K (gTup K 2 (gCons (gName i) (gCons (gName j) gNil))) (pT (tc R (t1 S1))) σ (fun x σ2 I _ => ∃ u w, σ2 = (σ.set i (some u)).set j (some w) ∧ R.r x.1 u I Z ∧ S1.r x.2 w I Z) := fun x v I C H Q s r k =>
  g_two x v I C H Q s r fun σ2 ⟨u, w, e, h1, h2⟩ => k σ2 ⟨u, w, e, Im.im h1, Im.im h2⟩
theorem g3 {T : Rp γ} [Im R] [Im S1] [Im T] {i j l : Nat} : Tg K (gTup K 3 (gCons (gName i) (gCons (gName j) (gCons (gName l) gNil)))) (pT (tc R (tc S1 (t1 T)))) σ
    (fun x σ2 I _ => ∃ u w z, σ2 = ((σ.set i (some u)).set j (some w)).set l (some z) ∧ R.r x.1 u I Z ∧ S1.r x.2.1 w I Z ∧ T.r x.2.2 z I Z) := fun x v I C H Q s r k =>
  g_three x v I C H Q s r fun σ2 ⟨u, w, z, e, h1, h2, h3⟩ => k σ2 ⟨u, w, z, e, Im.im h1, Im.im h2, Im.im h3⟩
end
end Sd

namespace Sd
open PySem L2
/-- no places -/
def t0 : Rt Unit := ⟨fun _ vs _ _ => vs = [], fun _ _ h => h, 0, fun h => by rw [h]; rfl⟩
instance : It t0 := ⟨fun h => h⟩
abbrev Pl := Int × Int × Int × List Int
/-- the pool's places -/
abbrev pM : Rt Pl := tc pI (tc pI (tc pI (t1 (pL pI))))
theorem a2up {α : Type} {R : Rp α} {I I' : Hp} {xs : List α} {vs : List V} (e : Ex I I') (h : A2 (fun x u => R.r x u I Z) xs vs) : A2 (fun x u => R.r x u I' Z) xs vs := h.imp fun _ _ => R.mono e (Ex.refl _)
section
variable {E : XK} {K : PySem.W.Frag} {σ : L2.St} {I I' C C' H B : Hp} {α β γ μ ω S ρ : Type} {R : Rp α} {S1 : Rp β} {te ta tb : TE} {tt : TT} {tz tu tw : TS} {D : Ends} {Q : ω → Prop} {X : Ec → Int → Prop}
/-- a cell that is returned, known for good from then on -/
theorem q_retC [Im R] {i : Nat} {p : Addr} {xs : List α} {vs : List V} (hv : σ[i]? = some (some (.ref p))) (s : St I C H) (fr : Ex B C) (hB : B p = none) (hc : C p = some (.lst vs)) (hl : vs.length ≤ sizeLine) (hr : A2 (fun x u => R.r x u I Z) xs vs)
    (next : ∀ I2, Ex I I2 → St I2 B H → (pL R).r xs (.ref p) I2 Z → D.rt (.ref p) H) : tSeq (tRet (tVar i)) tz D σ H := by
  obtain ⟨I2, C2, e, s2, h, k⟩ := freeze s hc
  exact ⟨.ref p, hv, next I2 e (s2.less (fr_keep fr hB k)) (frz_list e h hl hr)⟩
/-- a cell that is returned as a new list of one's own -/
theorem q_retO [Im R] {i : Nat} {p : Addr} {xs : List α} {vs : List V} (hv : σ[i]? = some (some (.ref p))) (s : St I C H) (fr : Ex B C) (hB : B p = none) (hc : C p = some (.lst vs)) (hl : vs.length ≤ sizeLine) (hr : A2 (fun x u => R.r x u I Z) xs vs)
    (next : St I (upd B p (.lst vs)) H → A2 (fun x u => R.r x u I B) xs vs → D.rt (.ref p) H) : tSeq (tRet (tVar i)) tz D σ H :=
  ⟨.ref p, hv, next (s.less fun a u e => by
    by_cases q : a = p
    · rw [q, upd_same] at e
      rw [q, hc]
      exact e
    · rw [upd_ne q] at e
      exact fr a u e) (hr.imp fun _ _ h => Im.im h)⟩
/-- x += e, x -= e -/
theorem q_aug {i : Nat} {f : Int → Int → Int} {v : V} {a : Int} {m : Res Int} {k : Int → Res ω} (hv : σ[i]? = some (some v)) (r : pI.r a v I Z) (h : EvX E K te σ I C m pI) (s : St I C H) (hX : XH X E K I C) (hm : Post ((m.bind fun b => .ok (f a b)).bind k) Q X)
    (next : ∀ a v I2 H2, Ex I I2 → St I2 C H2 → pI.r a v I2 Z → Post (k a) Q X → tz D (σ.set i (some v)) H2) : tSeq (tAug i te (ipI f)) tz D σ H :=
  ⟨v, hv, h I C H (Ex.refl _) (Ex.refl _) s _ ((Post.bind (Post.bind hm)).mono (fun b p w I2 H2 e2 s2 rv => ⟨a, b, r, rv, next _ _ I2 H2 e2 s2 rfl p⟩) hX)⟩
/-- xs.append(e), e draws -/
theorem qm_app {M : Rt μ} [It M] [Im R] {i : Nat} {p q : Addr} {x : μ} {ws vs : List V} {xs : List α} {k : List α × μ → Res ω} {m : μ → Res (α × μ)} (hv : σ[i]? = some (some (.ref q))) (hq : C q = some (.lst vs)) (hqp : q ≠ p) (hr : A2 (fun x u => R.r x u I Z) xs vs) (h : EvM E K p M te σ I (off C p) m R)
    (s : St I C H) (hc : C p = some (.lst ws)) (hx : M.r x ws I Z) (hm : Post (((m x).bind fun b => (push xs b.1).bind fun ys => .ok (ys, b.2)).bind k) Q XF)
    (next : ∀ (b : List α × μ) vs' ws' I2 C2 H2, Ex I I2 → St I2 C2 H2 → C2 q = some (.lst vs') → C2 p = some (.lst ws') → (∀ r, r ≠ p → r ≠ q → C2 r = C r) → vs'.length ≤ sizeLine → A2 (fun x u => R.r x u I2 Z) b.1 vs' → M.r b.2 ws' I2 Z → Post (k b) Q XF → tz D σ H2) :
    tSeq (tDrop (tBM K "list" rAppend (tVar i) (tCons te tNil))) tz D σ H := by
  refine ⟨.ref q, hv, .inl ⟨rfl, vs, .inl (.inl (s.c q _ hq))⟩, ?_⟩
  refine h x ws I C H (Ex.refl _) off_ex s hc (It.im hx) _ ((Post.bind (Post.bind hm)).mono (fun b po v ws' I2 H2 e2 s2 hx2 rv => ?_) fun _ _ z => z)
  unfold push at po
  split at po
  · rename_i hl
    have hn := hr.len
    have hl2 : vs.length < sizeLine := by
      rw [hn]
      exact Nat.lt_of_lt_of_le hl (by decide)
    have hq2 : upd C p (.lst ws') q = some (.lst vs) := by
      rw [upd_ne hqp]
      exact hq
    refine ⟨q, vs, v, rfl, rfl, s2.c q _ hq2, hl2, next (xs ++ [b.1], b.2) (vs ++ [v]) ws' I2 _ _ e2 (s2.set hq2) upd_same ?_ (fun r h1 h2 => ?_) (by rw [List.length_append]; exact hl2) ?_ (It.im hx2) po⟩
    · rw [upd_ne (Ne.symm hqp), upd_same]
    · rw [upd_ne h2, upd_ne h1]
    · exact (hr.imp fun _ _ h => R.mono e2 (Ex.refl _) h).append (.one (Im.im rv))
  · exact po.elim
/-- pool[k] = e -/
def thenR (m : Res α) (g : α → β) (k : β → Res γ) : Res γ := m.bind fun a => k (g a)
@[simp] theorem thenR_eq (m : Res α) (g : α → β) (k : β → Res γ) : thenR m g k = m.bind fun a => k (g a) := rfl
theorem q_setT {p : Addr} {M : Rt μ} {x : μ} {ws : List V} [It M] [Im S1] {i k : Nat} {g : μ → β → μ} {kk : μ → Res ω} {m : Res β} (hv : σ[i]? = some (some (.ref p))) (h : EvX E K te σ I C m S1) (j : Pk M k g S1) (s : St I C H) (hc : C p = some (.lst ws)) (hx : M.r x ws I Z) (hm : Post (thenR m (fun a => g x a) kk) Q XF)
    (next : ∀ y ws' I2 C2 H2, Ex I I2 → St I2 C2 H2 → C2 p = some (.lst ws') → (∀ q, q ≠ p → C2 q = C q) → M.r y ws' I2 Z → Post (kk y) Q XF → tz D σ H2) : tSeq (tAsg te (gSub (tVar i) (tC (.int (k : Int))) rSetL)) tz D σ H := q_set hv h j s hc hx hm next
/-! None, or a thing -/
class NN {α : Type} (R : Rp α) : Prop where
  nn : ∀ {a : α} {v : V} {I C : Hp}, R.r a v I C → v ≠ .non
instance : NN pI := ⟨fun h z => by rw [show _ = V.int _ from h] at z; cases z⟩
instance : NN pB := ⟨fun h z => by rw [show _ = V.bl _ from h] at z; cases z⟩
instance : NN pS := ⟨fun h z => by rw [show _ = V.str _ from h.1] at z; cases z⟩
instance {T : Rt α} : NN (pT T) := ⟨fun ⟨a, vs, h, _⟩ z => by rw [h] at z; cases z⟩
instance {T : Rt α} : NN (pD T) := ⟨fun ⟨a, vs, h, _⟩ z => by rw [h] at z; cases z⟩
instance {T : Rt α} : NN (pU K T) := ⟨fun ⟨a, vs, h, _⟩ z => by rw [h] at z; cases z⟩
instance : NN (pL R) := ⟨fun ⟨a, vs, h, _⟩ z => by rw [h] at z; cases z⟩
instance : NN (pQ K R) := ⟨fun ⟨a, vs, h, _⟩ z => by rw [h] at z; cases z⟩
def someR' (a : α) : Res (Option α) := .ok (some a)
@[simp] theorem someR'_eq (a : α) : someR' a = .ok (some a) := rfl
theorem x_some [NN R] {m : Res α} (h : EvX E K te σ I C m R) : EvX E K te σ I C (un someR' m) (pO R) := fun I1 C1 H1 e e' s Q q =>
  h I1 C1 H1 e e' s Q ((Post.bind q).mono (fun a p v I2 H2 e2 s2 rv => p v I2 H2 e2 s2 ⟨rv, NN.nn rv⟩) fun _ _ z => z)
theorem x_none : EvX E K (tC .non) σ I C (.ok none) (pO R) := x_c fun _ _ => rfl
/-- it is there -/
def getO : Option α → Res α
  | some a => .ok a
  | none => .bad
@[simp] theorem getO_some (a : α) : getO (some a) = .ok a := rfl
theorem x_get {m : Res (Option α)} (h : EvX E K te σ I C m (pO R)) : EvX E K te σ I C (un getO m) R := fun I1 C1 H1 e e' s Q q =>
  h I1 C1 H1 e e' s Q ((Post.bind q).mono (fun a p v I2 H2 e2 s2 rv => by
    cases a with
    | none => exact p.elim
    | some a => exact p v I2 H2 e2 s2 rv.1) fun _ _ z => z)
/-! one of two -/
def pX (R : Rp α) (S : Rp β) : Rp (α ⊕ β) := ⟨fun x v I C => match x with
  | .inl a => R.r a v I C
  | .inr b => S.r b v I C, fun {a v I I' C C'} e e' h => by
  cases a with
  | inl a => exact R.mono e e' h
  | inr a => exact S.mono e e' h⟩
instance [Im R] [Im S1] : Im (pX R S1) := ⟨fun {a v I C C'} h => by
  cases a with
  | inl a => exact Im.im (R := R) h
  | inr a => exact Im.im (R := S1) h⟩
def getL : α ⊕ β → Res α
  | .inl a => .ok a
  | .inr _ => .bad
def getR : α ⊕ β → Res β
  | .inl _ => .bad
  | .inr a => .ok a
def inlR (a : α) : Res (α ⊕ β) := .ok (.inl a)
def inrR (a : β) : Res (α ⊕ β) := .ok (.inr a)
@[simp] theorem getL_eq (a : α) : getL (.inl a : α ⊕ β) = .ok a := rfl
@[simp] theorem getR_eq (a : β) : getR (.inr a : α ⊕ β) = .ok a := rfl
@[simp] theorem inlR_eq (a : α) : (inlR a : Res (α ⊕ β)) = .ok (.inl a) := rfl
@[simp] theorem inrR_eq (a : β) : (inrR a : Res (α ⊕ β)) = .ok (.inr a) := rfl
theorem x_getL {m : Res (α ⊕ β)} (h : EvX E K te σ I C m (pX R S1)) : EvX E K te σ I C (un getL m) R := fun I1 C1 H1 e e' s Q q =>
  h I1 C1 H1 e e' s Q ((Post.bind q).mono (fun a p v I2 H2 e2 s2 rv => by
    cases a with
    | inl a => exact p v I2 H2 e2 s2 rv
    | inr a => exact p.elim) fun _ _ z => z)
theorem x_getR {m : Res (α ⊕ β)} (h : EvX E K te σ I C m (pX R S1)) : EvX E K te σ I C (un getR m) S1 := fun I1 C1 H1 e e' s Q q =>
  h I1 C1 H1 e e' s Q ((Post.bind q).mono (fun a p v I2 H2 e2 s2 rv => by
    cases a with
    | inl a => exact p.elim
    | inr a => exact p v I2 H2 e2 s2 rv) fun _ _ z => z)
theorem x_inl {m : Res α} (h : EvX E K te σ I C m R) : EvX E K te σ I C (un inlR m) (pX R S1) := fun I1 C1 H1 e e' s Q q =>
  h I1 C1 H1 e e' s Q ((Post.bind q).mono (fun a p v I2 H2 e2 s2 rv => p v I2 H2 e2 s2 rv) fun _ _ z => z)
theorem x_inr {m : Res β} (h : EvX E K te σ I C m S1) : EvX E K te σ I C (un inrR m) (pX R S1) := fun I1 C1 H1 e e' s Q q =>
  h I1 C1 H1 e e' s Q ((Post.bind q).mono (fun a p v I2 H2 e2 s2 rv => p v I2 H2 e2 s2 rv) fun _ _ z => z)
/-! the kinds, for isinstance -/
class TyR (K : PySem.W.Frag) {α : Type} (R : Rp α) (n : String) : Prop where
  ty : ∀ {a : α} {v : V} {I C H : Hp}, St I C H → R.r a v I C → TyX K H v (.type n)
instance : TyR K pI "int" := ⟨fun s h => by rw [show _ = V.int _ from h]; exact .base (.int _)⟩
instance : TyR K pB "bool" := ⟨fun s h => by rw [show _ = V.bl _ from h]; exact .base (.bl _)⟩
instance : TyR K pS "str" := ⟨fun s h => by rw [show _ = V.str _ from h.1]; exact .base (.str _)⟩
instance {T : Rt α} : TyR K (pT T) "tuple" := ⟨fun s ⟨a, vs, e, h, _⟩ => by rw [e]; exact .base (.tup (s.i _ _ h))⟩
instance {T : Rt α} : TyR K (pD T) "list" := ⟨fun s ⟨a, vs, e, h, _⟩ => by rw [e]; exact .base (.lst (s.i _ _ h))⟩
instance : TyR K (pL R) "list" := ⟨fun s ⟨a, vs, e, h, _⟩ => by rw [e]; exact .base (.lst (s.i _ _ h))⟩
instance : TyR K (pV R) "list" := ⟨fun s h => by
  obtain ⟨a, vs, rfl, h, _⟩ := pV.at s h
  exact .base (.lst h)⟩
theorem o_isi {n c : String} {b : Bool} [TyR K R n] (hk : kitB n c = some b) : OpL E K (rIsi K) (fun _ => .ok b) (tc R (t1 (pY c))) pB := fun I C H a vs s hv Q q => by
  obtain ⟨v, us, rfl, r, w, rfl, rw⟩ := hv
  have hw : w = .ty c := rw
  subst hw
  exact ⟨v, .ty c, _, _, b, rfl, .ty c, TyR.ty s r, kit_ty hk, PQ.now q s rfl⟩
theorem o_lenT {T : Rt α} : OpL E K (fun xs H Q => ∃ p ys, xs = [.ref p] ∧ (SqL K H p ys ∨ SqT K H p ys) ∧ Q (.int ys.length) H) (fun _ => .ok (T.n : Int)) (t1 (pT T)) pI := fun I C H a vs s hv Q q => by
  obtain ⟨v, rfl, p, us, rfl, h, r⟩ := hv
  exact ⟨p, us, rfl, .inr (.inl (.inl (s.i _ _ h))), by rw [T.len r]; exact PQ.now q s rfl⟩
end
end Sd

namespace Sd
open PySem L2
theorem passE {P : Program} {w : World} {K : PySem.W.Frag} {mg : Str → Option Value} {base : Heap} {N : List Str} {qual : Str} {scope : Scope} {f : Addr} {cdv : Value} {A : Around} {outer : List Env} {s : Shared} {H : Hp} {E : XK} :
    Passes (L2.CX P w) (cxOf (L2.CX P w) P w K mg base N qual scope f cdv A outer s H E) E := passes_call (takes_of rfl rfl rfl rfl) fun _ _ _ _ h => h
/-! the built-ins -/
theorem bt_len : bootBuiltins "len" = some (.builtin "len") := by decide +kernel
theorem bt_max : bootBuiltins "max" = some (.builtin "max") := by decide +kernel
theorem bt_min : bootBuiltins "min" = some (.builtin "min") := by decide +kernel
theorem bt_sum : bootBuiltins "sum" = some (.builtin "sum") := by decide +kernel
theorem bt_sorted : bootBuiltins "sorted" = some (.builtin "sorted") := by decide +kernel
theorem bt_isinstance : bootBuiltins "isinstance" = some (.builtin "isinstance") := by decide +kernel
theorem bt_int : bootBuiltins "int" = some (.type "int") := by decide +kernel
theorem bt_str : bootBuiltins "str" = some (.type "str") := by decide +kernel
theorem bt_bool : bootBuiltins "bool" = some (.type "bool") := by decide +kernel
theorem bt_list : bootBuiltins "list" = some (.type "list") := by decide +kernel
theorem bt_tuple : bootBuiltins "tuple" = some (.type "tuple") := by decide +kernel
theorem bt_ValueError : bootBuiltins "ValueError" = some (.type "ValueError") := by decide +kernel
theorem bt_range : bootBuiltins "range" = some (.type "range") := by decide +kernel
section
variable {E : XK} {K : PySem.W.Frag} {σ : L2.St} {I I' C C' H B C0 : Hp} {α β γ μ ω S ρ : Type} {R : Rp α} {S1 : Rp β} {te ta tb : TE} {tt : TT} {tz tu tw : TS} {D : Ends} {Q : ω → Prop} {X : Ec → Int → Prop} {p q : Addr}
abbrev rLen1 (K : PySem.W.Frag) : List V → Hp → VK → Prop := fun xs H Q => ∃ p ys, xs = [.ref p] ∧ (SqL K H p ys ∨ SqT K H p ys) ∧ Q (.int ys.length) H
abbrev rList1 (K : PySem.W.Frag) : List V → Hp → VK → Prop := fun xs H Q => ∃ p ys, xs = [.ref p] ∧ (SqL K H p ys ∨ SqT K H p ys) ∧ ∀ l, H l = none → Q (.ref l) (upd H l (.lst ys))
abbrev rTuple1 (K : PySem.W.Frag) : List V → Hp → VK → Prop := fun xs H Q => ∃ p ys, xs = [.ref p] ∧ ((SqL K H p ys ∧ ∀ l, H l = none → Q (.ref l) (upd H l (.tup ys))) ∨ (SqT K H p ys ∧ Q (.ref p) H))
theorem Op2.ofL {r : R2} {f : List α → β → Res γ} {T : Rp γ} (h : Op2 E K r f (pV R) S1 T) : Op2 E K r f (pL R) S1 T := fun I C H a b x y s ⟨p, vs, h1, h2, h3, h4⟩ hy Q q => h I C H a b x y s ⟨p, vs, h1, .inl h2, h3, h4⟩ hy Q q
/-! the end of a def -/
abbrev PM {α μ : Type} (p : Addr) (M : Rt μ) (R : Rp α) (I C : Hp) (Q : VK) (b : α × μ) : Prop := ∀ v ws' I2 H2, Ex I I2 → St I2 (upd C p (.lst ws')) H2 → M.r b.2 ws' I2 (upd C p (.lst ws')) → R.r b.1 v I2 (upd C p (.lst ws')) → Q v H2
theorem ret_pool [Im R] {M : Rt μ} [It M] {I0 : Hp} {Q : VK} {b : α × μ} {ws : List V} {v : V} (hm : PM p M R I0 C0 Q b) (e : Ex I0 I) (fr : Ex (off C0 p) C) (s : St I C H) (hc : C p = some (.lst ws)) (hx : M.r b.2 ws I Z) (r : R.r b.1 v I Z) : Q v H :=
  hm v ws I H e (s.less (ex_pool fr hc)) (It.im hx) (Im.im r)
theorem ret_poolN {M : Rt μ} [It M] {I0 : Hp} {Q : VK} {b : Unit × μ} {ws : List V} (hm : PM p M pN I0 C0 Q b) (e : Ex I0 I) (fr : Ex (off C0 p) C) (s : St I C H) (hc : C p = some (.lst ws)) (hx : M.r b.2 ws I Z) : Q .non H :=
  hm .non ws I H e (s.less (ex_pool fr hc)) (It.im hx) rfl
theorem ret_own [Im R] {I0 : Hp} {Q : VK} {xs : List α} {vs : List V} (hm : PN R I0 C0 Q xs) (e : Ex I0 I) (fr : Ex C0 C) (hp : C p = none) (s : St I (upd C p (.lst vs)) H) (hl : vs.length ≤ sizeLine) (hr : A2 (fun x u => R.r x u I C) xs vs) : Q (.ref p) H :=
  hm p vs I H e (Ex.free fr hp) (s.less fun a u h => by
    by_cases z : a = p
    · rw [z, upd_same] at h
      rw [z, upd_same]
      exact h
    · rw [upd_ne z] at h ⊢
      exact fr a u h) hl (hr.imp fun _ _ h => Im.im h)
theorem fr_pool2 {C2 : Hp} (h : Ex (off C0 p) C) (hq : off C0 p q = none) (k : ∀ r, r ≠ p → r ≠ q → C2 r = C r) : Ex (off C0 p) C2 := fun a o e => by
  have h1 : a ≠ p := fun z => by rw [z, off_same] at e; cases e
  rw [k a h1 (ne_of_none e hq)]
  exact h a o e
theorem i_cellZ [Im R] {i : Nat} {a : Addr} {vs : List V} {xs : List α} (h : σ[i]? = some (some (.ref a))) (hc : C a = some (.lst vs)) (hl : vs.length ≤ sizeLine) (hr : A2 (fun x u => R.r x u I Z) xs vs) :
    EvI E K (iList K (tVar i)) σ I C (fun C3 => C3 a = some (.lst vs)) (.ok xs) R := i_cell h hc hl (hr.imp fun _ _ h => Im.im h)
theorem im_rng2 {M : Rt μ} [It M] {Cp : Hp} {tr : TA} {m : μ → Res ((Int × Int) × μ)} (h : EvAM E K p M tr σ I Cp m (tc pI (t1 pI))) : EvIM E K p M (iRng2 tr) σ I Cp (unM rng2 m) pI := fun x ws I1 C1 H1 e e' s hc hx Kt q =>
  h x ws I1 C1 H1 e e' s hc hx _ ((Post.bind q).mono (fun b z vs ws' I2 H2 e2 s2 hx2 ⟨v, us, hv, rv, w, hw, rw⟩ => by
    have z := Post.bind z
    unfold rng2 at z
    split at z
    · rename_i hn
      have hv1 : v = .int b.1.1 := rv
      have hw1 : w = .int b.1.2 := rw
      subst hv hw hv1 hw1
      refine ⟨b.1.1, b.1.2, rfl, by omega, z ws' (Itr b.1.1 (b.1.2 - b.1.1).toNat) (fun _ => True) (YFn fun i => .int (b.1.1 + i)) I2 H2 e2 s2 hx2 (by rw [rangeL_length]; exact Nat.le_trans (show (b.1.2 - b.1.1).toNat ≤ 2000000 by omega) (by decide)) (by rw [rangeL_length]; exact walk_range) (fun _ _ _ _ _ => trivial) (fun i x v' I3 C3 H3 H4 hx e3 s3 y => ?_)⟩
      obtain ⟨rfl, rfl⟩ := y
      rw [rangeL_get hx]
      exact ⟨I3, Ex.refl _, s3, rfl⟩
    · exact z.elim) fun _ _ z => z)
theorem im_list {M : Rt μ} [It M] [Im R] {Cp : Hp} {m : μ → Res (List α × μ)} (h : EvM E K p M te σ I Cp m (pL R)) : EvIM E K p M (iList K te) σ I Cp m R := fun x ws I1 C1 H1 e e' s hc hx Kt q =>
  h x ws I1 C1 H1 e e' s hc hx _ (q.mono (fun b z v ws' I2 H2 e2 s2 hx2 ⟨a, us, h1, h2, h3, h4⟩ => ⟨a, h1, ⟨us, .inl (.inl (s2.i a _ h2))⟩, by
    have hn := h4.len
    refine z ws' (Itl K a) (fun H => SqL K H a us) (YAt us) I2 H2 e2 s2 hx2 (by omega) (by rw [← hn]; exact walk_list) (fun I3 C3 H3 e3 s3 => .inl (.inl (s3.i a _ (e3 a _ h2)))) (fun i x v' I3 C3 H3 H4 hx e3 s3 y => ?_)
    obtain ⟨rfl, y⟩ := y
    obtain ⟨w, hw, r⟩ := h4.get' hx
    rw [hw] at y
    cases y
    exact ⟨I3, Ex.refl _, s3, R.to e3 r⟩⟩) fun _ _ z => z)
theorem m_v {M : Rt μ} {Cp : Hp} {m : μ → Res (List α × μ)} (h : EvM E K p M te σ I Cp m (pL R)) : EvM E K p M te σ I Cp m (pV R) := fun x ws I1 C1 H1 e e' s hc hx Q q =>
  h x ws I1 C1 H1 e e' s hc hx Q (q.mono (fun b z v ws' I2 H2 e2 s2 hx2 ⟨a, vs, h1, h2, h3, h4⟩ => z v ws' I2 H2 e2 s2 hx2 ⟨a, vs, h1, .inl h2, h3, h4⟩) fun _ _ z => z)
/-! slices whose ends draw -/
def EvOM (E : XK) (K : PySem.W.Frag) (p : Addr) {μ : Type} (M : Rt μ) (to : TO) (σ : L2.St) (I Cp : Hp) (m : μ → Res (Option Int × μ)) : Prop :=
  ∀ x ws I1 C1 H1, Ex I I1 → Ex Cp C1 → St I1 C1 H1 → C1 p = some (.lst ws) → M.r x ws I1 C1 → ∀ Q : Option Int → Hp → Prop, Post (m x) (fun b => ∀ ws' I2 H2, Ex I1 I2 → St I2 (upd C1 p (.lst ws')) H2 → M.r b.2 ws' I2 (upd C1 p (.lst ws')) → Q b.1 H2) (fun _ _ => False) → to σ H1 Q
theorem pm_pure {M : Rt μ} {Cp : Hp} {to : TO} {m : Res (Option Int)} (h : EvO E K to σ I Cp m) : EvOM E K p M to σ I Cp (liftM m) := fun x ws I1 C1 H1 e e' s hc hx Q q =>
  h I1 C1 H1 e e' s Q ((Post.bind q).mono (fun a z I2 H2 e2 s2 => by
    have e3 : upd C1 p (.lst ws) = C1 := upd_id hc
    exact z ws I2 H2 e2 (by rw [e3]; exact s2) (by rw [e3]; exact M.mono e2 (Ex.refl _) hx)) fun _ _ z => z.elim)
theorem pm_some {M : Rt μ} {Cp : Hp} {m : μ → Res (Int × μ)} (h : EvM E K p M te σ I Cp m pI) : EvOM E K p M (tPart te) σ I Cp (unM (fun i => .ok (some i)) m) := fun x ws I1 C1 H1 e e' s hc hx Q q =>
  h x ws I1 C1 H1 e e' s hc hx _ ((Post.bind q).mono (fun b z v ws' I2 H2 e2 s2 hx2 rv => ⟨b.1, rv, z ws' I2 H2 e2 s2 hx2⟩) fun _ _ z => z)
def slM (m : Res (List α)) (lo hi : μ → Res (Option Int × μ)) : μ → Res (List α × μ) := fun x => m.bind fun xs => (lo x).bind fun a => (hi a.2).bind fun b => .ok (cut xs a.1 b.1, b.2)
theorem m_sl {M : Rt μ} [It M] [Im R] {Cp : Hp} {tl th : TO} {m : Res (List α)} {lo hi : μ → Res (Option Int × μ)} (hp : Cp p = none) (h : EvX E K te σ I Cp m (pL R)) (hl : EvOM E K p M tl σ I Cp lo) (hh : EvOM E K p M th σ I Cp hi) :
    EvM E K p M (tSl (rSlL K) te tl th) σ I Cp (slM m lo hi) (pL R) := fun x ws I1 C1 H1 e e' s hc hx Q q =>
  h I1 C1 H1 e e' s _ ((Post.bind q).mono (fun xs z v I2 H2 e2 s2 ⟨a, vs, h1, h2, h3, h4⟩ =>
    hl x ws I2 C1 H2 (e.trans e2) e' s2 hc (M.mono e2 (Ex.refl _) hx) _ ((Post.bind z).mono (fun b z2 ws' I3 H3 e3 s3 hx3 =>
      hh b.2 ws' I3 _ H3 (e.trans (e2.trans e3)) (e'.over hp) s3 upd_same hx3 _ ((Post.bind z2).mono (fun c z3 ws2 I4 H4 e4 s4 hx4 => by
        refine ⟨a, vs, h1, .inl (.inl (s4.i a _ (e4 a _ (e3 a _ h2)))), fun t ht => ?_⟩
        have eu : upd (upd C1 p (.lst ws')) p (.lst ws2) = upd C1 p (.lst ws2) := by
          funext r
          by_cases hr : r = p
          · rw [hr, upd_same, upd_same]
          · rw [upd_ne hr, upd_ne hr, upd_ne hr]
        rw [eu] at s4 hx4
        have ex := Ex.new (o := HO.lst (cutV vs b.1 c.1)) (s4.i.free ht)
        refine z3 (.ref t) ws2 (upd I4 t (.lst (cutV vs b.1 c.1))) _ (e2.trans (e3.trans (e4.trans ex))) (s4.newI ht) (M.mono ex (Ex.refl _) hx4) ⟨t, _, rfl, upd_same, ?_, ?_⟩
        · unfold cutV
          rw [List.length_take, List.length_drop]
          omega
        · exact (A2.cut (h4.imp fun _ _ r => R.to (e3.trans (e4.trans ex)) r) b.1 c.1)) fun _ _ z => z)) fun _ _ z => z)) fun _ _ z => z.elim)
theorem m_notV {M : Rt μ} {Cp : Hp} {m : μ → Res (Bool × μ)} (h : EvM E K p M te σ I Cp m pB) : EvM E K p M (tNotV te) σ I Cp (unM notR m) pB := fun x ws I1 C1 H1 e e' s hc hx Q q =>
  h x ws I1 C1 H1 e e' s hc hx _ ((Post.bind q).mono (fun b z v ws' I2 H2 e2 s2 hx2 rv => ⟨b.1, rv, z _ ws' I2 H2 e2 s2 hx2 rfl⟩) fun _ _ z => z)
theorem m_andV {M : Rt μ} {Cp : Hp} {m n : μ → Res (Bool × μ)} (hp : Cp p = none) (h1 : EvM E K p M ta σ I Cp m pB) (h2 : EvM E K p M tb σ I Cp n pB) : EvM E K p M (tAndV ta tb) σ I Cp (andM m n) pB := fun x ws I1 C1 H1 e e' s hc hx Q q =>
  h1 x ws I1 C1 H1 e e' s hc hx _ ((Post.bind q).mono (fun b z v ws' I2 H2 e2 s2 hx2 rv => by
    obtain ⟨c, y⟩ := b
    refine ⟨c, rv, ?_⟩
    cases c with
    | true =>
      rw [if_pos rfl]
      refine h2 y ws' I2 _ H2 (e.trans e2) (e'.over hp) s2 upd_same hx2 Q (Post.mono (m := n y) z (fun d z2 v ws2 I3 H3 e3 s3 hx3 rw => ?_) fun _ _ z => z)
      have eu : upd (upd C1 p (.lst ws')) p (.lst ws2) = upd C1 p (.lst ws2) := by
        funext r
        by_cases hr : r = p
        · rw [hr, upd_same, upd_same]
        · rw [upd_ne hr, upd_ne hr, upd_ne hr]
      rw [eu] at s3 hx3
      exact z2 v ws2 I3 H3 (e2.trans e3) s3 hx3 rw
    | false => exact z (.bl false) ws' I2 H2 e2 s2 hx2 rfl) fun _ _ z => z)
theorem m_orV {M : Rt μ} {Cp : Hp} {m n : μ → Res (Bool × μ)} (hp : Cp p = none) (h1 : EvM E K p M ta σ I Cp m pB) (h2 : EvM E K p M tb σ I Cp n pB) : EvM E K p M (tOrV ta tb) σ I Cp (orM m n) pB := fun x ws I1 C1 H1 e e' s hc hx Q q =>
  h1 x ws I1 C1 H1 e e' s hc hx _ ((Post.bind q).mono (fun b z v ws' I2 H2 e2 s2 hx2 rv => by
    obtain ⟨c, y⟩ := b
    refine ⟨c, rv, ?_⟩
    cases c with
    | false =>
      rw [if_neg (by decide)]
      refine h2 y ws' I2 _ H2 (e.trans e2) (e'.over hp) s2 upd_same hx2 Q (Post.mono (m := n y) z (fun d z2 v ws2 I3 H3 e3 s3 hx3 rw => ?_) fun _ _ z => z)
      have eu : upd (upd C1 p (.lst ws')) p (.lst ws2) = upd C1 p (.lst ws2) := by
        funext r
        by_cases hr : r = p
        · rw [hr, upd_same, upd_same]
        · rw [upd_ne hr, upd_ne hr, upd_ne hr]
      rw [eu] at s3 hx3
      exact z2 v ws2 I3 H3 (e2.trans e3) s3 hx3 rw
    | true => exact z (.bl true) ws' I2 H2 e2 s2 hx2 rfl) fun _ _ z => z)
/-- a for whose source draws, a turn of it may break or return -/
theorem qm_forR {M : Rt μ} {x : μ} {ws : List V} [It M] (P : S → L2.St → Hp → Hp → Prop) {wi : TI} {g : TG} {m : μ → Res (List α × μ)} {f : α → S → Res (Out S ρ)} {s0 : μ → S} {k : Out S ρ → Res ω} (hi : EvIM E K p M wi σ I (off C p) m R) (s : St I C H) (hc : C p = some (.lst ws)) (hx : M.r x ws I Z) (hm : Post (((m x).bind fun b => loopR f b.1 (s0 b.2)).bind k) Q XF)
    (h0 : ∀ y ws' I2 C2, Ex I I2 → C2 p = some (.lst ws') → (∀ q, q ≠ p → C2 q = C q) → M.r y ws' I2 Z → P (s0 y) σ I2 C2) (hP : ∀ s' σ' I' I2 C', Ex I' I2 → P s' σ' I' C' → P s' σ' I2 C')
    (body : ∀ (N : L2.St → Hp → Prop) x v s' σ' I' C' H', Ex I I' → St I' C' H' → P s' σ' I' C' → R.r x v I' C' → Post (f x s') (fun o => match o with
        | .nx s2 => ∀ σ2 I3 C3 H3, Ex I' I3 → St I3 C3 H3 → P s2 σ2 I3 C3 → N σ2 H3
        | .br s2 => ∀ σ2 I3 C3 H3, Ex I' I3 → St I3 C3 H3 → P s2 σ2 I3 C3 → tz D σ2 H3
        | .rt r => Post (k (.rt r)) Q XF) XF →
      g v σ' H' fun σ2 H2 => tu { D with nx := N, ct := N, bk := tz D } σ2 H2)
    (next : ∀ s' σ' I' C' H', Ex I I' → St I' C' H' → P s' σ' I' C' → Post (k (.nx s')) Q XF → tz D σ' H') : tSeq (tFor wi g tu) tz D σ H :=
  hi x ws I C H (Ex.refl _) off_ex s hc (It.im hx) _ ((Post.bind (Post.bind hm)).mono (fun b q2 ws2 J G Y I2 H2 e2 s2 hx2 hz w hG hY => by
    refine for_it w (fun i σ' H' => ∃ s' I' C', Ex I2 I' ∧ St I' C' H' ∧ P s' σ' I' C' ∧ Post ((loopR f (b.1.drop i) s').bind k) Q XF) ⟨s0 b.2, I2, _, Ex.refl _, s2, h0 _ _ I2 _ e2 upd_same (fun q h => upd_ne h) (It.im hx2), by rw [List.drop_zero]; exact Post.of_bind q2⟩
      (fun i σ' H' hi ⟨s', I', C', e3, s3, p, _⟩ => hG I' C' H' e3 s3) (fun i x σ' H1 H' hi ⟨s', I', C', e3, s3, p, po⟩ y => ?_) (fun σ' H' ⟨s', I', C', e3, s3, p, po⟩ => ?_)
    · obtain ⟨a, ha⟩ : ∃ a, b.1[i]? = some a := ⟨b.1[i], by simp [hi]⟩
      rw [drop_cons ha] at po
      obtain ⟨I4, e4, s4, ra⟩ := hY i a x I' C' H1 H' ha e3 s3 y
      refine body _ a x s' σ' I4 C' H' (e2.trans (e3.trans e4)) s4 (hP _ _ _ _ _ e4 p) ra ((Post.bind (Post.bind po)).mono (fun o z => ?_) fun _ _ z => z)
      cases o with
      | nx s3 => exact fun σ2 I5 C5 H5 e5 s5 p5 => ⟨s3, I5, C5, e3.trans (e4.trans e5), s5, p5, Post.of_bind z⟩
      | br s3 => exact fun σ2 I5 C5 H5 e5 s5 p5 => next s3 σ2 I5 C5 H5 (e2.trans (e3.trans (e4.trans e5))) s5 p5 z
      | rt r => exact z
    · rw [List.drop_length] at po
      exact next s' σ' I' C' H' (e2.trans e3) s3 p po) fun _ _ z => z)
end
end Sd

namespace PySem.W
open PySem PySem.Spec PySem.Calls PyProof.Rows
section
variable {prog : Program} {w : World} {A : Around} {E : Value → Shared → Prop} {s : Shared} {K : Frag} {y D0 : Addr} {oy dct : Obj}
/-- what a caught error with a dict of its own answers to __class__ -/
theorem sd_class {G : Option Value → Shared → Prop} (T : L2.ExcC K D0) (hK : K.In s.heap) (J : InstAt s.heap y oy D0 (some dct)) (hG : G (some (.ref D0)) { s with toks := s.toks + 1 }) :
    wpAny (model prog w) A (getAttr? (.ref y) "__class__") G E s := by
  have hfind : findObj K D0 (some dct) "__class__" = some (.bind (.builtin "getset_descriptor.__get__") (.builtin "object.__class__")) := by
    obtain ⟨cd, hcd, _⟩ := any_some T.hd
    unfold findObj
    rw [hcd, Option.bind_some, T.ha, Option.bind_some]
    simp [T.hn, T.ht]
  obtain ⟨heap, gens, drw, tk, osx⟩ := s
  have kT := J.type (M := model prog w)
  have kA := looks_findIn (M := model prog w) hK T.hg
  have kB := looks_findIn (M := model prog w) hK T.hk
  have kF := looks_find (M := model prog w) hK J hfind
  have kS : Looks (model prog w) heap (isInstance (.ref y) (.type "BaseException")) true := kT.andThen (looks_subIn hK T.hs)
  have n0 : (false && onTheHeap (Value.builtin "BaseException.__getattribute__")) = false := rfl
  have n1 : (Value.builtin "BaseException.__getattribute__" == Value.builtin "object.__getattribute__") = false := by decide +kernel
  have n2 : (onTheHeap (Value.ref D0) && Value.builtin "BaseException.__getattribute__" == Value.builtin "object.__getattribute__") = false := by
    rw [n1]
    rfl
  unfold getAttr? getAttrBy? getAttrBy
  refine wpAny_bind (wpAny_mkText (wpAny_bind (wpAny_attempt (wpAny_holding (wpAny_bind (kT.at (wpAny_bind (kA.at ?_))))))))
  show wpAny _ _ (if (onTheHeap (Value.ref D0) && Value.builtin "BaseException.__getattribute__" == Value.builtin "object.__getattribute__") = true then _ else _) _ _ _
  rw [n2, if_neg Bool.false_ne_true]
  unfold getAttrByItsOwn hookBefore
  refine wpAny_bind ?_
  rw [if_pos (show onTheHeap (Value.ref D0) = true from rfl)]
  refine kB.at ?_
  refine wpAny_bind (wpAny_attempt (wpAny_holding ?_))
  unfold callGetattribute
  rw [n0, if_neg Bool.false_ne_true]
  unfold boundAndCalled
  rw [PySem.F.excAttr_ValueError.ga.bind (.ref y)]
  refine wpAny_bind (wpAny_pure ?_)
  show wpAny _ _ (call (.builtin "BaseException.__getattribute__") [.ref y, .str "__class__" tk]) _ _ _
  refine wpAny_call (codeAny_call_builtin PySem.F.excAttr_ValueError.ga.plain PySem.F.entry_bexc_ga ?_)
  refine @check_slot (model prog w) _ _ ⟨heap, gens, drw, tk + 1, osx⟩ "BaseException.__getattribute__" "BaseException" "__getattribute__" (.ref y) [.str "__class__" tk] [] _ (by decide +kernel) (by decide +kernel) kS (PySem.F.args_bexc_ga (.ref y) (.str "__class__" tk)) ?_
  unfold Builtin.«object.__getattribute__»
  refine wpAny_bind (wpAny_of_eq (a := ((Value.ref y : Value), [Value.str "__class__" tk])) (by first | rfl | (simp only [slotArgs]; rfl)) ?_)
  refine wpAny_bind (wpAny_pure (wpAny_bind (kT.at (wpAny_bind (kF.at ?_)))))
  show wpAny _ _ (holding [Value.builtin "object.__class__"] (call (.builtin "getset_descriptor.__get__") [.builtin "object.__class__", .ref y, .ref D0]) >>= ret) _ _ _
  refine wpAny_bind (wpAny_holding (wpAny_call (class_get (s := ⟨heap, gens, drw, tk + 1, osx⟩) (ox := oy) (od := some dct) hK J T.hm ?_)))
  refine wpAny_pure ?_
  show wpAny _ _ (handedOut (.ref D0)) _ _ _
  rw [handedOut_of (v := .ref D0) rfl]
  first
    | exact wpAny_pure (wpAny_pure hG)
    | exact wpAny_pure hG
    | exact wpAny_pure (wpAny_bind (wpAny_pure (wpAny_pure hG)))
theorem sd_kit (T : L2.ExcC K D0) : KitX K (.ref y) (.ref D0) (fun h => InstAt h y oy D0 (some dct)) where
  ty := fun _ _ _ J => J.type
  it := fun _ _ hK _ => by
    obtain ⟨cd, hcd, _⟩ := any_some T.hd
    unfold clsIn at hcd
    split at hcd
    · rename_i c1 d1 cd1 sl1 ho1
      intro A1 Q1 E1 s1 k1 q1
      unfold isType loadHead
      exact wpAny_bind (wpAny_loadPart (k1 _ _ (hK _ _ ho1)) (wpAny_pure q1))
    · cases hcd
  ne := fun h tp dd its n sl hK htp => by
    obtain ⟨cd, hcd, _⟩ := any_some T.hd
    refine Bool.eq_false_iff.mpr fun z => ?_
    have e : D0 = tp := Value.ref.inj (beq_iff_eq.mp z)
    subst e
    unfold clsIn at hcd
    split at hcd
    · rename_i c1 d1 cd1 sl1 ho1
      cases (hK _ _ ho1).symm.trans htp
    · cases hcd
  ca := fun hK J k => sd_class T hK J k
end
end PySem.W
namespace Sd
open PySem L2
/-! ### own errors -/
def mth : Stmt → Stmt
  | .ClassDef _ _ _ body _ _ _ _ _ _ _ => body.getD 0 (.Pass ⟨0, 0, 0, 0⟩)
  | s => s
def isaE (c b : Ec) : Bool := decide (c = b) || decide (b = .DeskError)
/-- what the written part says of an own error -/
structure ErrC (K : PySem.W.Frag) (mg : Str → Option Value) (fI : Addr) (c : Ec) : Prop where
  o : OexC K (He.ga K c.name)
  ic : PySem.W.findIn K (.ref (He.ga K c.name)) "__init__" = some (some (.ref fI))
  ti : PySem.W.typeIn K (.ref fI) = some (.type "function")
  g : mg c.name = some (.ref (He.ga K c.name))
  na : PySem.W.findIn K (.ref (He.ga K c.name)) "at" = some none
  xf : XfC K (He.ga K c.name)
  is : ExcC K (He.ga K c.name)
  ve : PySem.W.kitOne K (.ref (He.ga K c.name)) (.type "ValueError") = some true
/-- self.at = at -/
def spInit (K : PySem.W.Frag) : Sp := fun vs H Q _ => ∃ (a C : Addr) (i : Int), vs = [.ref a, .int i] ∧ OexC K C ∧ PySem.W.findIn K (.ref C) "at" = some none ∧ H a = some (exo a C none) ∧
  ∀ dx, H dx = none → dx ≠ a → Q .non (upd (upd H dx (exd dx [(("at" : Str), .int i)])) a (exo a C (some dx)))
section
variable {P : Program} {w : World} {K : PySem.W.Frag} {mg : Str → Option Value} {base : Heap}
abbrev ErrF (K : PySem.W.Frag) (st : Stmt) (f : Addr) (fd : FuncData) : Prop := FunD K "__init__" "DeskError.__init__" (defArgs st) (defBody st) (defScope st) [.int 0] [] f fd
end
section
variable {E : XK} {K : PySem.W.Frag} {mg : Str → Option Value} {fI : Addr} {σ : L2.St} {I C H : Hp} {α β ω S ρ : Type} {ta : TA} {te : TE} {tz : TS} {D : Ends} {Q : ω → Prop} {X : Ec → Int → Prop}
theorem s_raise {c : Ec} {m : Res Int} (x : ErrC K mg fI c) (h : EvA E K ta σ I C m (t1 pI)) (s : St I C H) (hX : XH X E K I C) (hm : Post (m.bind fun i => Res.exc c i : Res ω) Q X) :
    tSeq (fun _ σ H => tMkO (He.ga K c.name) (spInit K) [] ta σ H fun cls d H' => E cls d H') tz D σ H :=
  h I C H (Ex.refl _) (Ex.refl _) s _ ((Post.bind hm).mono (fun i q vs I2 H2 e2 s2 ⟨v, hv, rv⟩ => by
    have hv1 : v = .int i := rv
    subst hv hv1
    have po : PX E K I2 C c i := (hX c i q).mono e2 (Ex.refl _)
    refine ⟨Nat.le_of_ble_eq_true rfl, fun a ha => ⟨a, He.ga K c.name, i, rfl, x.o, x.na, upd_same, fun dx hdx hne => ⟨rfl, dx, [(("at" : Str), .int i)], upd_same, ?_, ?_, ?_⟩⟩⟩
    · rw [upd_ne hne, upd_same]
    · rw [upd_ne hne] at hdx
      exact hdx
    · rw [upd_ne hne] at hdx
      have eh : upd (del (upd (upd (upd H2 a (exo a (He.ga K c.name) none)) dx (exd dx [(("at" : Str), .int i)])) a (exo a (He.ga K c.name) (some dx))) a) dx (.xd [(("at" : Str), .int i)]) = upd H2 dx (.xd [(("at" : Str), .int i)]) := by
        funext b
        by_cases h1 : b = dx
        · rw [h1, upd_same, upd_same]
        · rw [upd_ne h1, upd_ne h1]
          by_cases h2 : b = a
          · rw [h2, del_same, ha]
          · rw [del_ne h2, upd_ne h2, upd_ne h1, upd_ne h2]
      rw [eh]
      exact po dx (upd I2 dx (.xd [(("at" : Str), .int i)])) _ (Ex.new (s2.i.free hdx)) (s2.newI hdx) upd_same) hX)
/-! in an except suite -/
def tXfX (K : PySem.W.Frag) (a : Addr) (cls : Value) (d : Option Addr) (f : Str) (te : TE) : TE := fun σ H Q => ∃ C, (XfC K C ∧ PySem.W.findIn K (.ref C) f = some none) ∧ tXf a cls d C f te σ H Q
theorem pe_xfX {X : Cx} {a : Addr} {oe : Obj} {cls : Value} {d : Option Addr} {pn : List (Addr × Obj)} {e : Expr} {te : TE} {pos : Pos} {n : Str}
    (hz : Zc cls d oe) (hf : ∃ vs, oe.data = .fields vs) (he : PE (X.suite a ((a, oe) :: pn)) e te) (hb : attributeBase e n X.env (eval e X.env) = eval e X.env := by rfl) :
    PE (X.suite a ((a, oe) :: pn)) (.Attribute e n pos) (tXfX X.K a cls d n te) :=
  ⟨fun pins s σ H Q I ⟨C, ⟨T, hno⟩, h⟩ => (pe_xf (C := C) T hno hz hf he hb).run pins s σ H Q I h⟩
def rIsX (K : PySem.W.Frag) (a : Addr) (cls : Value) (d : Option Addr) : List V → Hp → VK → Prop := fun xs H Q => ∃ (D dd : Addr) (fs : List (Str × V)) (c : V) (cv : Value) (b : Bool), ExcC K D ∧ cls = .ref D ∧ d = some dd ∧ H dd = some (.xd fs) ∧ xs = [.ref a, c] ∧
  (∀ u, RelV c u → u = cv) ∧ PySem.W.kitOne K (.ref D) cv = some b ∧ Q (.bl b) H
theorem call_isX {Y : Cx} {a : Addr} {cls : Value} {d : Option Addr} {oe : Obj} {pn : List (Addr × Obj)} (hz : Zc cls d oe) (hf : ∃ vs, oe.data = .fields vs) : CallR (Y.suite a ((a, oe) :: pn)) (.builtin "isinstance") (rIsX Y.K a cls d) := by
  intro pins s σ H xs us Q I r h
  obtain ⟨D, dd, fs, c, cv, b, T, rfl, rfl, hd, rfl, hcv, e, q⟩ := h
  cases r with
  | cons r1 rr =>
    cases rr with
    | cons r2 rr =>
      cases rr
      cases r1
      have ec := hcv _ r2
      subst ec
      obtain ⟨hget, _⟩ := I.pin (a, oe) (List.mem_append.mpr (.inl List.mem_cons_self))
      obtain ⟨vs, hv⟩ := hf
      have hx : ObjOk Y.prog Y.w H s.heap dd (.xd fs) := I.hok dd _ hd
      obtain ⟨mA, hns, _⟩ := hx
      obtain ⟨od, ho, _⟩ := lookIn_ns hns
      have J : PySem.W.InstAt s.heap a oe D (some od) := ⟨hget, hz.1, by unfold PySem.W.notCls; rw [hv] <;> rfl, by rw [hz.2]; exact ho⟩
      exact PySem.W.kia_one (PySem.W.sd_kit T) I.kIn J e (fun z => nomatch z) fun tk => ⟨.bl b, H, I.kept (t' := tk) fun _ _ z => z, rfl, q⟩
/-- the caught error: its class, its number, where it stands -/
structure Cg (K : PySem.W.Frag) (mg : Str → Option Value) (fI : Addr) (I : Hp) (cls : Value) (d : Option Addr) (c : Ec) (i : Int) : Prop where
  x : ErrC K mg fI c
  cl : cls = .ref (He.ga K c.name)
  dd : ∃ dd, d = some dd ∧ I dd = some (.xd [(("at" : Str), .int i)])
theorem Cg.up {I2 : Hp} {cls : Value} {d : Option Addr} {c : Ec} {i : Int} (e : Ex I I2) (g : Cg K mg fI I cls d c i) : Cg K mg fI I2 cls d c i := ⟨g.x, g.cl, by
  obtain ⟨dd, h1, h2⟩ := g.dd
  exact ⟨dd, h1, e _ _ h2⟩⟩
theorem x_at {a : Addr} {j : Nat} {cls : Value} {d : Option Addr} {c : Ec} {i : Int} (g : Cg K mg fI I cls d c i) (hv : σ[j]? = some (some (.ref a))) : EvX E K (tXfX K a cls d "at" (tVar j)) σ I C (.ok i) pI := fun I1 C1 H1 e e' s Q q => by
  obtain ⟨dd, h1, h2⟩ := g.dd
  exact ⟨_, ⟨g.x.xf, g.x.na⟩, _, hv, rfl, g.cl, dd, _, .int i, h1, s.i _ _ (e _ _ h2), by simp [List.lookup], PQ.now (R := pI) (a := i) q s rfl⟩
theorem x_isE {a : Addr} {j : Nat} {cls : Value} {d : Option Addr} {c c2 : Ec} {i : Int} (g : Cg K mg fI I cls d c i) (hk : PySem.W.kitOne K (.ref (He.ga K c.name)) (.ref (He.ga K c2.name)) = some (isaE c c2)) (hv : σ[j]? = some (some (.ref a))) :
    EvX E K (tCB (rIsX K a cls d) (tCons (tVar j) (tCons (tC (.ref (He.ga K c2.name))) tNil))) σ I C (.ok (isaE c c2)) pB := fun I1 C1 H1 e e' s Q q => by
  obtain ⟨dd, h1, h2⟩ := g.dd
  exact ⟨_, hv, _, dd, _, _, _, _, g.x.is, g.cl, h1, s.i _ _ (e _ _ h2), rfl, fun u r => r, hk, PQ.now (R := pB) (a := isaE c c2) q s rfl⟩
theorem x_isVE {a : Addr} {j : Nat} {cls : Value} {d : Option Addr} {c : Ec} {i : Int} (g : Cg K mg fI I cls d c i) (hv : σ[j]? = some (some (.ref a))) :
    EvX E K (tCB (rIsX K a cls d) (tCons (tVar j) (tCons (tC (.ty "ValueError")) tNil))) σ I C (.ok true) pB := fun I1 C1 H1 e e' s Q q => by
  obtain ⟨dd, h1, h2⟩ := g.dd
  exact ⟨_, hv, _, dd, _, _, _, _, g.x.is, g.cl, h1, s.i _ _ (e _ _ h2), rfl, fun u r => r, g.x.ve, PQ.now (R := pB) (a := true) q s rfl⟩
/-! a call in the body of a try -/
theorem x_callS {W : WX} {T : Rt α} {f : α → Res β} {R : Rp β} {m : Res α} (h : EvA (WE W σ) K ta σ I C m T) : EvX (WE W σ) K (tCallS (spP K T f R) (WE W) ta) σ I C (un f m) R := fun I1 C1 H1 e e' s Q q =>
  h I1 C1 H1 e e' s _ ((Post.bind q).mono (fun a p vs I2 H2 e2 s2 rv => ⟨I2, C1, a, s2, rv, Post.mono (m := f a) p (fun b z v I3 H3 e3 s3 rw => z v I3 H3 (e2.trans e3) s3 rw) fun c i z => z.mono e2 (Ex.refl _)⟩) fun _ _ z => z)
theorem n_callS {W : WX} {T : Rt α} {f : α → Res (List β)} {R : Rp β} {m : Res α} (h : EvA (WE W σ) K ta σ I C m T) : EvN (WE W σ) K (tCallS (spO K T f R) (WE W) ta) σ I C (un f m) R := fun I1 C1 H1 e e' s Q q =>
  h I1 C1 H1 e e' s _ ((Post.bind q).mono (fun a p vs I2 H2 e2 s2 rv => ⟨I2, C1, a, s2, rv, Post.mono (m := f a) p (fun b z => z.up e2) fun c i z => z.mono e2 (Ex.refl _)⟩) fun _ _ z => z)
/-! try: body, except the errors in L as e: suite -/
def tryR {α : Type} (Kn L : Ec → Bool) (m : Res α) (f : Ec → Int → Res α) : Res α := match m with
  | .ok a => .ok a
  | .exc c i => if Kn c = true then (if L c = true then f c i else .exc c i) else .bad
  | .bad => .bad
@[simp] theorem tryR_ok {α : Type} (Kn L : Ec → Bool) (a : α) (f : Ec → Int → Res α) : tryR Kn L (.ok a) f = .ok a := rfl
theorem tryR_exc {α : Type} {Kn L : Ec → Bool} {c : Ec} {i : Int} (h : Kn c = true) (h2 : L c = true) (f : Ec → Int → Res α) : tryR Kn L (.exc c i) f = f c i := by
  show (if Kn c = true then (if L c = true then f c i else .exc c i) else .bad) = f c i
  rw [if_pos h, if_pos h2]
abbrev Xb {σ' ρ' ω' : Type} (Kn L : Ec → Bool) (ms : Ec → Int → Res (Out σ' ρ')) (k : Out σ' ρ' → Res ω') (Q : ω' → Prop) (X : Ec → Int → Prop) (c : Ec) (j : Int) : Prop := Kn c = true ∧ (if L c = true then Post ((ms c j).bind k) Q X else X c j)
/-- try: .. except c as e: .. -/
def tTry (K : PySem.W.Frag) (c : Value) (i : Nat) (tb : WX → TS) (ts : Addr → Value → Option Addr → TS) (Wout : WX) : TS := fun D σ H => tb (wAs K c i ts Wout D) D σ H
theorem ps_tryS {X : Cx} {x n : Str} {c : Value} {i : Nat} {body suite : List Stmt} {b₀ : Stmt} {np pos pos' : Pos} {tb : WX → TS} {ts : Addr → Value → Option Addr → TS} {Wout : WX} (hs : X.stack = X.env :: X.outer) (hf : X.env.frame = some X.env.locals) (hN : X.N.Nodup) (hi : X.N[i]? = some n) (hln : X.env.kindOf n = some .local) (hc : Names X x c) (tk : Takes X Wout)
    (hb : ∀ (W : WX) (pn : List (Addr × Obj)) (xe : Value → Shared → Prop), Takes (X.tr pn xe) W → PassesOwn (model X.prog X.w) X.A X.env xe → PSs (X.tr pn xe) body (tb W))
    (hsu : ∀ (a : Addr) (oe : Obj) (cls : Value) (d : Option Addr) (pn : List (Addr × Obj)), Zc cls d oe → (∃ vs, oe.data = .fields vs) → PSs (X.suite a ((a, oe) :: pn)) (b₀ :: suite) (ts a cls d)) :
    PS X (.Try body [.ExceptHandler (some (.Name x np)) (some n) (b₀ :: suite) pos'] [] [] pos) (tTry X.K c i tb ts Wout) := ps_try_as hs hf hN hi hln hc tk hb hsu
/-- the word P of what stands behind it (slot i of e is empty then), Pe of where the body may break off -/
theorem s_try (P : S → L2.St → Hp → Hp → Prop) (Pe : L2.St → Hp → Hp → Prop) {i : Nat} {tb : WX → TS} {ts : Addr → Value → Option Addr → TS} {cv : Value} {Kn L : Ec → Bool} {mb : Res (Out S ρ)} {ms : Ec → Int → Res (Out S ρ)} {k : Out S ρ → Res ω}
    (hexm : ∀ c, Kn c = true → PySem.W.exmOne K (.ref (He.ga K c.name)) cv = some (L c) ∧ ErrC K mg fI c)
    (hX : ∀ σ' I' C', Ex I I' → Pe σ' I' C' → XH X E K I' C')
    (hP : ∀ σ' I' I2 C', Ex I' I2 → Pe σ' I' C' → Pe σ' I2 C')
    (hm : Post ((tryR Kn L mb ms).bind k) Q X)
    (body : ∀ (N : L2.St → Hp → Prop) (W : WX), (∀ σ' I' C', Ex I I' → Pe σ' I' C' → XH (Xb Kn L ms k Q X) (WE W σ') K I' C') →
      Post mb (fun o => match o with
        | .nx s' => ∀ σ2 I3 C3 H3, Ex I I3 → St I3 C3 H3 → P s' σ2 I3 C3 → N σ2 H3
        | o => Post (k o) Q X) (Xb Kn L ms k Q X) → tb W { D with nx := N } σ H)
    (suite : ∀ (N : L2.St → Hp → Prop) c j a cls d σ' I' C' H', Kn c = true → Cg K mg fI I' cls d c j → Ex I I' → St I' C' H' → Pe σ' I' C' → Post (ms c j) (fun o => match o with
        | .nx s' => ∀ (σ2 : L2.St) I3 C3 H3, Ex I' I3 → St I3 C3 H3 → P s' (σ2.set i none) I3 C3 → N (σ2.set i none) H3
        | o => Post (k o) Q X) X → ts a cls d { nx := fun σ1 H1 => N (σ1.set i none) H1, rt := D.rt, bk := fun σ1 H1 => D.bk (σ1.set i none) H1, ct := fun σ1 H1 => D.ct (σ1.set i none) H1 } (σ'.set i (some (.ref a))) H')
    (next : ∀ s' σ2 I3 C3 H3, Ex I I3 → St I3 C3 H3 → P s' σ2 I3 C3 → Post (k (.nx s')) Q X → tz D σ2 H3) :
    Evl.tCut (tTry K cv i tb ts (fun cls d _ H => E cls d H)) tz D σ H := by
  refine ⟨fun σ2 H3 => ∃ s' I3 C3, Ex I I3 ∧ St I3 C3 H3 ∧ P s' σ2 I3 C3 ∧ Post (k (.nx s')) Q X, ?_, fun σ2 H3 ⟨s', I3, C3, e3, s3, p, q⟩ => next s' σ2 I3 C3 H3 e3 s3 p q⟩
  refine body _ _ (fun σ' I' C' e p c j hx d I2 H2 e2 s2 hd => ?_) ?_
  · obtain ⟨kn, hx⟩ := hx
    obtain ⟨he, x⟩ := hexm c kn
    refine ⟨L c, he, fun hl a ha => ?_, fun hl => ?_⟩
    · rw [if_pos hl] at hx
      refine suite _ c j a _ (some d) σ' I2 C' H2 kn ⟨x, rfl, d, rfl, hd⟩ (e.trans e2) s2 (hP _ _ _ _ e2 p) ((Post.bind hx).mono (fun o z => ?_) fun _ _ z => z)
      cases o with
      | nx s' => exact fun (σ2 : L2.St) I3 C3 H3 e3 s3 pp => ⟨s', I3, C3, e.trans (e2.trans e3), s3, pp, z⟩
      | br s' => exact z
      | rt r => exact z
    · rw [if_neg (by rw [hl]; decide)] at hx
      exact hX σ' I' C' e p c j hx d I2 H2 e2 s2 hd
  · cases mb with
    | ok o =>
      have z : Post (k o) Q X := hm
      cases o with
      | nx s' => exact fun σ2 I3 C3 H3 e3 s3 pp => ⟨s', I3, C3, e3, s3, pp, z⟩
      | br s' => exact z
      | rt r => exact z
    | exc c j =>
      show Xb Kn L ms k Q X c j
      by_cases kn : Kn c = true
      · refine ⟨kn, ?_⟩
        have z : Post ((if Kn c = true then (if L c = true then ms c j else Res.exc c j) else .bad).bind k) Q X := hm
        rw [if_pos kn] at z
        by_cases hl : L c = true
        · rw [if_pos hl] at z
          rw [if_pos hl]
          exact z
        · rw [if_neg hl] at z
          rw [if_neg hl]
          exact z
      · have z : Post ((if Kn c = true then (if L c = true then ms c j else Res.exc c j) else .bad).bind k) Q X := hm
        rw [if_neg kn] at z
        exact z.elim
    | bad => exact hm
/-! the law -/
def spLaw (K : PySem.W.Frag) (m : List Int → Res Bool) : Sp := fun vs H Q _ => ∃ (a : Addr) (ns : List Int), vs = [.ref a] ∧ SqL K H a (ns.map V.int) ∧ ns.length ≤ 1000 ∧ Post (m ns) (fun b => ∀ v H', v = V.bl b → Q v H') XF
theorem law_start {a : Addr} {ns : List Int} (hS : SqL K H a (ns.map V.int)) (hz : ns.length ≤ 1000) : ∃ I0, St I0 Z H ∧ (pW K pI).r ns (.ref a) I0 Z := by
  refine ⟨fun b => if b = a then H a else none, ⟨fun b o h => ?_, exz, fun _ => .inr rfl⟩, a, ns.map V.int, rfl, ?_, ?_, A2.of_map (f := fun x u => pI.r x u _ Z) (h := V.int) (fun _ => rfl) ns⟩
  · by_cases q : b = a
    · rw [if_pos q] at h
      rw [q]
      exact h
    · rw [if_neg q] at h
      cases h
  · rcases hS with (h | ⟨o, h⟩) | h
    · exact .inl (.inl (by show (if a = a then H a else none) = _; rw [if_pos rfl]; exact h))
    · exact .inl (.inr ⟨o, by show (if a = a then H a else none) = _; rw [if_pos rfl]; exact h⟩)
    · exact .inr h
  · rw [List.length_map]
    exact Nat.le_trans hz (by decide)
def poolR (ns : List Int) : Res Pl := .ok (0, 0, 0, cut ns none (some 63))
@[simp] theorem poolR_eq (ns : List Int) : poolR ns = .ok (0, 0, 0, cut ns none (some 63)) := rfl
def spPool (K : PySem.W.Frag) : Sp := fun vs H Q _ => ∃ (I C : Hp) (ns : List Int) (v : V), vs = [v] ∧ St I C H ∧ (pW K pI).r ns v I Z ∧
  ∀ p ws I2 H2, Ex I I2 → C p = none → St I2 (upd C p (.lst ws)) H2 → pM.r (0, 0, 0, cut ns none (some 63)) ws I2 Z → Q (.ref p) H2
theorem n_lstP {A : Rt α} [It A] {tr : TA} {m : Res α} (h : EvA E K tr σ I C m A) (hn : A.n ≤ 100) (s : St I C H) {Q : VK} (q : Post m (fun a => ∀ p ws I2 H2, Ex I I2 → C p = none → St I2 (upd C p (.lst ws)) H2 → A.r a ws I2 Z → Q (.ref p) H2) (PX E K I C)) : tLst tr σ H Q :=
  h I C H (Ex.refl _) (Ex.refl _) s _ (q.mono (fun a p vs I2 H2 e2 s2 rv => ⟨by rw [A.len rv]; exact Nat.le_trans hn (by decide), fun t ht => p t vs I2 _ e2 (s2.c.free ht) (s2.newC ht) (It.im rv)⟩) fun _ _ z => z)
theorem q_mkpool {i j : Nat} {v : V} {ns : List Int} {k : Pl → Res ω} (hv : σ[j]? = some (some v)) (hr : (pW K pI).r ns v I Z) (s : St I C H) (hm : Post ((poolR ns).bind k) Q XF)
    (next : ∀ y p ws I2 C2 H2, Ex I I2 → St I2 C2 H2 → C2 p = some (.lst ws) → pM.r y ws I2 Z → Post (k y) Q XF → tz D (σ.set i (some (.ref p))) H2) : tSeq (tAsg (tCall (spPool K) [] E (tCons (tVar j) tNil)) (gName i)) tz D σ H :=
  ⟨v, hv, I, C, ns, v, rfl, s, hr, fun p ws I2 H2 e hp s2 hx => next _ p ws I2 _ H2 e s2 upd_same hx hm⟩
/-! a list that was not there at B -/
def pLn (B : Hp) (R : Rp α) : Rp (List α) := ⟨fun xs v I C => (pL R).r xs v I C ∧ ∀ a, v = .ref a → B a = none, fun e e' h => ⟨(pL R).mono e e' h.1, h.2⟩⟩
instance {B : Hp} {R : Rp α} [Im R] : Im (pLn B R) := ⟨fun h => ⟨Im.im h.1, h.2⟩⟩
instance {B : Hp} {R : Rp α} : NN (pLn B R) := ⟨fun h => NN.nn h.1⟩
instance {B : Hp} {R : Rp α} : TyR K (pLn B R) "list" := ⟨fun s h => TyR.ty s h.1⟩
theorem x_n2l {B : Hp} {R : Rp α} {m : Res (List α)} (h : EvX E K te σ I C m (pLn B R)) : EvX E K te σ I C m (pL R) := fun I1 C1 H1 e e' s Q q =>
  h I1 C1 H1 e e' s Q (q.mono (fun a p v I2 H2 e2 s2 rv => p v I2 H2 e2 s2 rv.1) fun _ _ z => z)
/-- f(a ..) hands back a thing of R, which looks at what was known before -/
def spPd (K : PySem.W.Frag) {α β : Type} (T : Rt α) (m : α → Res β) (R : Hp → Rp β) : Sp := fun vs H Q E => ∃ (I C : Hp) (a : α), St I C H ∧ T.r a vs I C ∧ Post (m a) (PQ (R I) I C Q) (PX E K I C)
theorem x_callD {T : Rt α} {f : α → Res β} {R : Hp → Rp β} {m : Res α} (hR : ∀ {I I2 a v I3 C3}, Ex I I2 → (R I2).r a v I3 C3 → (R I).r a v I3 C3) (h : EvA E K ta σ I C m T) : EvX E K (tCall (spPd K T f R) [] E ta) σ I C (un f m) (R I) := fun I1 C1 H1 e e' s Q q =>
  h I1 C1 H1 e e' s _ ((Post.bind q).mono (fun a p vs I2 H2 e2 s2 rv => by
    refine ⟨I2, C1, a, s2, by rw [List.append_nil]; exact rv, Post.mono (m := f a) p (fun b z v I3 H3 e3 s3 rw => z v I3 H3 (e2.trans e3) s3 (hR (e.trans e2) rw)) fun c i z => z.mono e2 (Ex.refl _)⟩) fun _ _ z => z)
theorem x_callDS {W : WX} {T : Rt α} {f : α → Res β} {R : Hp → Rp β} {m : Res α} (hR : ∀ {I I2 a v I3 C3}, Ex I I2 → (R I2).r a v I3 C3 → (R I).r a v I3 C3) (h : EvA (WE W σ) K ta σ I C m T) : EvX (WE W σ) K (tCallS (spPd K T f R) (WE W) ta) σ I C (un f m) (R I) := fun I1 C1 H1 e e' s Q q =>
  h I1 C1 H1 e e' s _ ((Post.bind q).mono (fun a p vs I2 H2 e2 s2 rv => ⟨I2, C1, a, s2, rv, Post.mono (m := f a) p (fun b z v I3 H3 e3 s3 rw => z v I3 H3 (e2.trans e3) s3 (hR (e.trans e2) rw)) fun c i z => z.mono e2 (Ex.refl _)⟩) fun _ _ z => z)
theorem paper_up {R : Rp α} {S1 : Rp β} {B B2 : Hp} {x : Str × (List α ⊕ β)} {v : V} {I C : Hp} (e : Ex B B2) (h : (pT (tc pS (t1 (pX (pLn B2 R) S1)))).r x v I C) : (pT (tc pS (t1 (pX (pLn B R) S1)))).r x v I C := by
  obtain ⟨a, vs, h1, h2, u, us, h3, h4, w, h5, h6⟩ := h
  refine ⟨a, vs, h1, h2, u, us, h3, h4, w, h5, ?_⟩
  obtain ⟨x1, x2⟩ := x
  cases x2 with
  | inl xs => exact ⟨h6.1, fun a z => e.free (h6.2 a z)⟩
  | inr b => exact h6
/-- told[1].append(0): the list of the told thing changes, none of what was known before it does -/
theorem q_appN {R : Rp Int} {S1 : Rp β} {B It : Hp} {i : Nat} {told : Str × (List Int ⊕ β)} {v : V} {b : Addr} {us : List V} {k : List Int → Res ω} (hv : σ[i]? = some (some v)) (r : (pT (tc pS (t1 (pX (pLn B R) S1)))).r told v It Z) (et : Ex It I) (eB : Ex B I) (hb : I b = some (.lst us)) (hbt : It b = none)
    (s : St I C H) (hm : Post (((getL told.2).bind fun xs => push xs 0).bind k) Q XF) (next : ∀ xs I3 H3, Ex B I3 → St I3 C H3 → I3 b = some (.lst us) → Post (k xs) Q XF → tz D σ H3) :
    tSeq (tDrop (tBM K "list" rAppend (tOp (rIxT K) (tVar i) (tC (.int ((1 : Nat) : Int)))) (tCons (tC (.int 0)) tNil))) tz D σ H := by
  obtain ⟨a, vs, rfl, h2, u, us2, rfl, h4, w, rfl, h6⟩ := r
  obtain ⟨x1, x2⟩ := told
  cases x2 with
  | inr y => exact hm.elim
  | inl xs =>
    obtain ⟨⟨p, ws, rfl, h7, h8, h9⟩, h10⟩ := h6
    have hp : I p = some (.lst ws) := et _ _ h7
    have hne : b ≠ p := fun z => by
      rw [z, h7] at hbt
      cases hbt
    have hm2 : Post ((push xs 0).bind k) Q XF := hm
    unfold push at hm2
    split at hm2
    · rename_i hlen
      have hl : ws.length < sizeLine := by
        rw [h9.len]
        exact Nat.lt_of_lt_of_le hlen (by decide)
      refine ⟨.ref a, hv, a, [u, .ref p], 1, .ref p, rfl, rfl, .inl (.inl (s.i _ _ (et _ _ h2))), rfl, .inl ⟨rfl, ws, .inl (.inl (s.i _ _ hp))⟩, p, ws, .int 0, rfl, rfl, s.i _ _ hp, hl, ?_⟩
      refine next (xs ++ [0]) (fun c => if c = p then none else I c) _ (fun c o h => ?_) ⟨fun c o h => ?_, fun c o h => ?_, fun c => ?_⟩ ?_ hm2
      · have hc : c ≠ p := fun z => by
          rw [z, h10 p rfl] at h
          cases h
        show (if c = p then none else I c) = some o
        rw [if_neg hc]
        exact eB c o h
      · by_cases hc : c = p
        · rw [if_pos hc] at h
          cases h
        · rw [if_neg hc] at h
          rw [upd_ne hc]
          exact s.i c o h
      · have hc : c ≠ p := fun z => by
          rw [z] at h
          have z2 := s.freeI h
          rw [hp] at z2
          cases z2
        rw [upd_ne hc]
        exact s.c c o h
      · by_cases hc : c = p
        · exact .inl (if_pos hc)
        · rcases s.s c with h | h
          · exact .inl (by show (if c = p then none else I c) = none; rw [if_neg hc]; exact h)
          · exact .inr h
      · show (if b = p then none else I b) = some (.lst us)
        rw [if_neg hne]
        exact hb
    · exact hm2.elim
/-- s_ifr where only what was known at J is kept -/
theorem s_ifrB (P : S → L2.St → Hp → Hp → Prop) {J : Hp} (eJ : Ex J I) {tt : TT} {tu tw : TS} {c : Res Bool} {m1 m2 : Res (Out S ρ)} {k : Out S ρ → Res ω} (h : EvT E K tt σ I C c) (s : St I C H) (hX : XH X E K I C) (hm : Post ((ifR c m1 m2).bind k) Q X)
    (h1 : ∀ (N : L2.St → Hp → Prop) I2 H2, Ex I I2 → St I2 C H2 → Post m1 (fun o => match o with
      | .nx s' => ∀ σ2 I3 C3 H3, Ex J I3 → St I3 C3 H3 → P s' σ2 I3 C3 → N σ2 H3
      | o => Post (k o) Q X) X → tu { D with nx := N } σ H2)
    (h2 : ∀ (N : L2.St → Hp → Prop) I2 H2, Ex I I2 → St I2 C H2 → Post m2 (fun o => match o with
      | .nx s' => ∀ σ2 I3 C3 H3, Ex J I3 → St I3 C3 H3 → P s' σ2 I3 C3 → N σ2 H3
      | o => Post (k o) Q X) X → tw { D with nx := N } σ H2)
    (next : ∀ s' σ2 I3 C3 H3, Ex J I3 → St I3 C3 H3 → P s' σ2 I3 C3 → Post (k (.nx s')) Q X → tz D σ2 H3) : Evl.tCut (tIfS tt tu tw) tz D σ H := by
  refine ⟨fun σ2 H3 => ∃ s' I3 C3, Ex J I3 ∧ St I3 C3 H3 ∧ P s' σ2 I3 C3 ∧ Post (k (.nx s')) Q X, ?_, fun σ2 H3 ⟨s', I3, C3, e3, s3, p, q⟩ => next s' σ2 I3 C3 H3 e3 s3 p q⟩
  refine h I C H (Ex.refl _) (Ex.refl _) s _ ((Post.bind (Post.bind hm)).mono (fun b p I2 H2 e2 s2 => ?_) hX)
  cases b with
  | true => exact h1 _ I2 H2 e2 s2 (Post.mono (m := m1) p (fun o z => by
      cases o with
      | nx s' => exact fun σ2 I3 C3 H3 e3 s3 pp => ⟨s', I3, C3, e3, s3, pp, z⟩
      | br s' => exact z
      | rt r => exact z) fun _ _ z => z)
  | false => exact h2 _ I2 H2 e2 s2 (Post.mono (m := m2) p (fun o z => by
      cases o with
      | nx s' => exact fun σ2 I3 C3 H3 e3 s3 pp => ⟨s', I3, C3, e3, s3, pp, z⟩
      | br s' => exact z
      | rt r => exact z) fun _ _ z => z)
/-! data: new lists, one of two -/
theorem de_new {B : Hp} {R : Rp α} {enc : α → PyData} {n : Nat} (d : De K R enc n) : De K (pLn B R) (fun xs => PyData.list (xs.map enc)) (n + 1) :=
  ⟨fun s h => (de_lst d).dp s h.1, fun h => (de_lst d).ly h.1, fun h => (de_lst d).de h.1, (de_lst d).eq⟩
def sEnc (f : α → PyData) (g : β → PyData) : α ⊕ β → PyData
  | .inl a => f a
  | .inr b => g b
theorem de_sum {R : Rp α} {S1 : Rp β} {f : α → PyData} {g : β → PyData} {n m : Nat} (d : De K R f n) (d' : De K S1 g m) (hd : ∀ a b, PyData.eqv (f a) (g b) = false ∧ PyData.eqv (g b) (f a) = false) : De K (pX R S1) (sEnc f g) (max n m) :=
  ⟨fun {a v I C H} s h => by
    cases a with
    | inl a => exact d.dp s h
    | inr a => exact d'.dp s h,
  fun {a v I C} h => by
    cases a with
    | inl a => exact d.ly h
    | inr a => exact d'.ly h,
  fun {a v I C} h => by
    cases a with
    | inl a => exact Nat.le_trans (d.de h) (Nat.le_max_left _ _)
    | inr a => exact Nat.le_trans (d'.de h) (Nat.le_max_right _ _),
  fun a b => by
    cases a with
    | inl a =>
      cases b with
      | inl b =>
        simp only [sEnc, Sum.inl.injEq]
        exact d.eq a b
      | inr b =>
        simp only [sEnc, (hd a b).1]
        exact ⟨fun q => (nomatch q), fun q => (nomatch q)⟩
    | inr a =>
      cases b with
      | inl b =>
        simp only [sEnc, (hd b a).2]
        exact ⟨fun q => (nomatch q), fun q => (nomatch q)⟩
      | inr b =>
        simp only [sEnc, Sum.inr.injEq]
        exact d'.eq a b⟩
theorem oEnc_no {f : α → PyData} {x : PyData} (h : ∀ a, PyData.eqv x (f a) = false ∧ PyData.eqv (f a) x = false) (h0 : PyData.eqv x .none = false ∧ PyData.eqv .none x = false) (o : Option α) : PyData.eqv x (oEnc f o) = false ∧ PyData.eqv (oEnc f o) x = false := by
  cases o with
  | none => exact h0
  | some a => exact h a
/-! isinstance of what may be None, of one of two -/
def isO {α : Type} (b : Bool) : Option α → Bool
  | some _ => b
  | none => false
def isX {α β : Type} (b : Bool) (f : β → Bool) : α ⊕ β → Bool
  | .inl _ => b
  | .inr y => f y
@[simp] theorem isO_some (b : Bool) (a : α) : isO b (some a) = b := rfl
@[simp] theorem isO_none (b : Bool) : isO b (none : Option α) = false := rfl
@[simp] theorem isX_inl (b : Bool) (f : β → Bool) (a : α) : isX b f (.inl a) = b := rfl
@[simp] theorem isX_inr (b : Bool) (f : β → Bool) (y : β) : isX b f (.inr y : α ⊕ β) = f y := rfl
theorem ty_opt {R : Rp α} {n c : String} {b : Bool} [TyR K R n] (hk : kitB n c = some b) (hn : kitB "NoneType" c = some false) {o : Option α} {v : V} {I C H : Hp} (s : St I C H) (r : (pO R).r o v I C) : ∃ t, TyX K H v t ∧ PySem.W.kitOne K t (.type c) = some (isO b o) := by
  cases o with
  | none =>
    have h : v = .non := r
    subst h
    exact ⟨_, .base .non, kit_ty hn⟩
  | some a => exact ⟨_, TyR.ty s r.1, kit_ty hk⟩
theorem o_isiO {R : Rp α} {n c : String} {b : Bool} [TyR K R n] (hk : kitB n c = some b) (hn : kitB "NoneType" c = some false) : OpL E K (rIsi K) (fun p => .ok (isO b p.1)) (tc (pO R) (t1 (pY c))) pB := fun I C H a vs s hv Q q => by
  obtain ⟨v, us, rfl, r, w, rfl, rw⟩ := hv
  have hw : w = .ty c := rw
  subst hw
  obtain ⟨t, h1, h2⟩ := ty_opt (K := K) hk hn s r
  exact ⟨v, .ty c, _, _, _, rfl, .ty c, h1, h2, PQ.now q s rfl⟩
theorem o_isiXO {R : Rp α} {S1 : Rp β} {n n2 c : String} {b b2 : Bool} [TyR K R n] [TyR K S1 n2] (hk : kitB n c = some b) (hk2 : kitB n2 c = some b2) (hn : kitB "NoneType" c = some false) : OpL E K (rIsi K) (fun p => .ok (isX b (isO b2) p.1)) (tc (pX R (pO S1)) (t1 (pY c))) pB := fun I C H a vs s hv Q q => by
  obtain ⟨v, us, rfl, r, w, rfl, rw⟩ := hv
  have hw : w = .ty c := rw
  subst hw
  obtain ⟨x, y⟩ := a
  cases x with
  | inl x => exact ⟨v, .ty c, _, _, b, rfl, .ty c, TyR.ty (R := R) s r, kit_ty hk, PQ.now q s rfl⟩
  | inr x =>
    obtain ⟨t, h1, h2⟩ := ty_opt (K := K) (R := S1) hk2 hn s r
    exact ⟨v, .ty c, _, _, _, rfl, .ty c, h1, h2, PQ.now q s rfl⟩
theorem o_isiX {R : Rp α} {S1 : Rp β} {n n2 c : String} {b b2 : Bool} [TyR K R n] [TyR K S1 n2] (hk : kitB n c = some b) (hk2 : kitB n2 c = some b2) : OpL E K (rIsi K) (fun p => .ok (isX b (fun _ => b2) p.1)) (tc (pX R S1) (t1 (pY c))) pB := fun I C H a vs s hv Q q => by
  obtain ⟨v, us, rfl, r, w, rfl, rw⟩ := hv
  have hw : w = .ty c := rw
  subst hw
  obtain ⟨x, y⟩ := a
  cases x with
  | inl x => exact ⟨v, .ty c, _, _, b, rfl, .ty c, TyR.ty (R := R) s r, kit_ty hk, PQ.now q s rfl⟩
  | inr x => exact ⟨v, .ty c, _, _, b2, rfl, .ty c, TyR.ty (R := S1) s r, kit_ty hk2, PQ.now q s rfl⟩
end
end Sd

namespace Sd
open PySem PySem.Spec PyProof.Rows L2
/-! ### the head: own errors, read by a Bool -/
def oexB (K : PySem.W.Frag) (C : Addr) : Bool := match K.lookup C with
  | some ⟨.type "type", _, .cls cd, sl⟩ => (match cd.mro, sl.toList with
    | .ref C1 :: bm, [_, _, _, _, some (.builtin n), _] => decide (C1 = C) && (decide (n = "ValueError.__new__") && (!cd.hasDel && (cd.hasDict && PySem.HandSPX.refsVE bm)))
    | _, _ => false)
  | _ => false
theorem oexB_ok {K : PySem.W.Frag} {C : Addr} (h : oexB K C = true) : ∃ nm q N bs bm sn sub ab col dd k0 k1 k2 k3 k5, K.lookup C = some (excClassObj nm q C N bs bm true sn sub ab col dd k0 k1 k2 k3 k5 "ValueError.__new__") ∧ PySem.HandSPX.refsVE bm = true := by
  unfold oexB at h
  split at h
  · rename_i dd cd sl ho
    split at h
    · rename_i C1 bm k0 k1 k2 k3 n k5 e1 e2
      obtain ⟨h1, h⟩ := Bool.and_eq_true_iff.mp h
      obtain ⟨h2, h⟩ := Bool.and_eq_true_iff.mp h
      obtain ⟨h3, h⟩ := Bool.and_eq_true_iff.mp h
      obtain ⟨h4, h5⟩ := Bool.and_eq_true_iff.mp h
      have h1 := of_decide_eq_true h1
      have h2 := of_decide_eq_true h2
      subst h1 h2
      obtain ⟨nm, bs, mro, ns, qn, hd, sn, sub, ab, col, del⟩ := cd
      simp only [Bool.not_eq_true'] at e1 e2 h3 h4
      subst e1 h3 h4
      obtain ⟨l⟩ := sl
      simp only at e2
      subst e2
      exact ⟨_, _, _, _, _, _, _, _, _, _, _, _, _, _, _, ho, h5⟩
    · cases h
  · cases h
def errB (K : PySem.W.Frag) (fI : Addr) (c : Ec) : Bool :=
  oexB K (He.ga K c.name) && (decide (PySem.W.findIn K (.ref (He.ga K c.name)) "__setattr__" = some (some (.builtin "object.__setattr__"))) && (decide (PySem.W.typeIn K (.ref (He.ga K c.name)) = some (.type "type")) && (PySem.W.keepIn K (.ref (He.ga K c.name)) &&
    (decide (PySem.W.findIn K (.ref (He.ga K c.name)) "__init__" = some (some (.ref fI))) && (decide (PySem.W.typeIn K (.ref fI) = some (.type "function")) && (decide (PySem.W.findIn K (.ref (He.ga K c.name)) "at" = some none) && (xfB K (He.ga K c.name) &&
      (decide (PySem.W.findIn K (.ref (He.ga K c.name)) "__class__" = some (some (.builtin "object.__class__"))) && (decide (PySem.W.specialIn K (.builtin "object.__class__") "__get__" = some (some (.builtin "getset_descriptor.__get__"))) && (decide (PySem.W.takesIn K (.builtin "object.__class__") = some true) &&
        (decide (PySem.W.mroIn K (He.ga K c.name) (.type "object") = some true) && (decide (PySem.W.kitOne K (.ref (He.ga K c.name)) (.type "ValueError") = some true) && He.eqO (PySem.W.nsIn K mainGlobals c.name) (some (some (.ref (He.ga K c.name))))))))))))))))
theorem errB_ok {K : PySem.W.Frag} {h : Heap} {mg : Str → Option Value} {fI : Addr} {c : Ec} (X : K.In h) (G : h.Ns mainGlobals mg) (e : errB K fI c = true) : ErrC K mg fI c := by
  unfold errB at e
  obtain ⟨h1, e⟩ := Bool.and_eq_true_iff.mp e
  obtain ⟨h2, e⟩ := Bool.and_eq_true_iff.mp e
  obtain ⟨h3, e⟩ := Bool.and_eq_true_iff.mp e
  obtain ⟨h4, e⟩ := Bool.and_eq_true_iff.mp e
  obtain ⟨h5, e⟩ := Bool.and_eq_true_iff.mp e
  obtain ⟨h6, e⟩ := Bool.and_eq_true_iff.mp e
  obtain ⟨h7, e⟩ := Bool.and_eq_true_iff.mp e
  obtain ⟨h8, e⟩ := Bool.and_eq_true_iff.mp e
  obtain ⟨h9, e⟩ := Bool.and_eq_true_iff.mp e
  obtain ⟨ha, e⟩ := Bool.and_eq_true_iff.mp e
  obtain ⟨hb, e⟩ := Bool.and_eq_true_iff.mp e
  obtain ⟨hc, e⟩ := Bool.and_eq_true_iff.mp e
  obtain ⟨hd, he⟩ := Bool.and_eq_true_iff.mp e
  have xf := xfB_ok h8
  exact ⟨⟨oexB_ok h1, of_decide_eq_true h2, xf.exC, of_decide_eq_true h3, h4⟩, of_decide_eq_true h5, of_decide_eq_true h6, PySem.W.mg_of X G (He.eqO_ok he), of_decide_eq_true h7, xf,
    ⟨xf.ga, xf.gg, xf.exC, xf.hdC, of_decide_eq_true h9, of_decide_eq_true ha, of_decide_eq_true hb, of_decide_eq_true hc⟩, of_decide_eq_true hd⟩
def errsB (cs : List Ec) (K : PySem.W.Frag) : Bool := cs.all (fun c => errB K (He.fAd K ("DeskError", some "__init__")) c) &&
  cs.all fun c => cs.all fun b => decide (PySem.W.kitOne K (.ref (He.ga K c.name)) (.ref (He.ga K b.name)) = some (isaE c b)) && decide (PySem.W.exmOne K (.ref (He.ga K c.name)) (.ref (He.ga K b.name)) = some (isaE c b))
theorem errsB_ok {cs : List Ec} {K : PySem.W.Frag} {h : Heap} {mg : Str → Option Value} (X : K.In h) (G : h.Ns mainGlobals mg) (e : errsB cs K = true) :
    (∀ c, c ∈ cs → ErrC K mg (He.fAd K ("DeskError", some "__init__")) c) ∧ (∀ c b, c ∈ cs → b ∈ cs → PySem.W.kitOne K (.ref (He.ga K c.name)) (.ref (He.ga K b.name)) = some (isaE c b)) ∧ ∀ c b, c ∈ cs → b ∈ cs → PySem.W.exmOne K (.ref (He.ga K c.name)) (.ref (He.ga K b.name)) = some (isaE c b) := by
  obtain ⟨h1, h2⟩ := Bool.and_eq_true_iff.mp e
  have h1 := List.all_eq_true.mp h1
  have h2 := List.all_eq_true.mp h2
  refine ⟨fun c hc => errB_ok X G (h1 c hc), fun c b hc hb => ?_, fun c b hc hb => ?_⟩
  · exact of_decide_eq_true (Bool.and_eq_true_iff.mp (List.all_eq_true.mp (h2 c hc) b hb)).1
  · exact of_decide_eq_true (Bool.and_eq_true_iff.mp (List.all_eq_true.mp (h2 c hc) b hb)).2
end Sd

namespace Sd
open PySem L2
/-! ### plain laws of the mirrors -/
/-- m comes to an answer that is so -/
abbrev Is {α : Type} (m : Res α) (Q : α → Prop) : Prop := Post m Q XF
theorem is_iff {α : Type} {m : Res α} {Q : α → Prop} : Is m Q ↔ ∃ a, m = .ok a ∧ Q a := by
  cases m with
  | ok a => exact ⟨fun h => ⟨a, rfl, h⟩, fun ⟨b, e, h⟩ => by cases e; exact h⟩
  | exc c i => exact ⟨fun h => h.elim, fun ⟨b, e, h⟩ => by cases e⟩
  | bad => exact ⟨fun h => h.elim, fun ⟨b, e, h⟩ => by cases e⟩
theorem Is.ok {α : Type} {a : α} {Q : α → Prop} (h : Q a) : Is (.ok a) Q := h
theorem Is.eq {α : Type} {m : Res α} {a : α} (h : Is m (· = a)) : m = .ok a := by
  obtain ⟨b, e, h⟩ := is_iff.mp h
  rw [e, h]
theorem Is.of {α : Type} {m : Res α} {a : α} {Q : α → Prop} (e : m = .ok a) (h : Q a) : Is m Q := by
  rw [e]
  exact h
theorem Is.get {α : Type} {m : Res α} {Q : α → Prop} (h : Is m Q) : ∃ a, m = .ok a ∧ Q a := is_iff.mp h
theorem Is.bind {α β : Type} {m : Res α} {k : α → Res β} {Q : α → Prop} {R : β → Prop} (h : Is m Q) (hk : ∀ a, Q a → Is (k a) R) : Is (m.bind k) R := by
  obtain ⟨a, e, h⟩ := h.get
  rw [e]
  exact hk a h
theorem Is.imp {α : Type} {m : Res α} {Q R : α → Prop} (h : Is m Q) (hk : ∀ a, Q a → R a) : Is m R := Post.mono h hk fun _ _ z => z
section
variable {α β γ S ρ : Type}
/-- a loop keeps a word -/
theorem loopN_inv {f : α → S → Res S} (J : Nat → S → Prop) {xs : List α} {s : S} (h0 : J 0 s) (h : ∀ i x s, xs[i]? = some x → J i s → Is (f x s) (J (i + 1))) : Is (loopN f xs s) (J xs.length) := by
  induction xs generalizing J s with
  | nil => exact h0
  | cons x xs ih =>
    rw [loopN_cons]
    refine Is.bind (h 0 x s rfl h0) fun s' h1 => ?_
    exact ih (fun i => J (i + 1)) h1 fun i y s hy hj => h (i + 1) y s hy hj
theorem loopN_pure {f : α → S → Res S} {g : S → α → S} {xs : List α} {s : S} (h : ∀ x s, f x s = .ok (g s x)) : loopN f xs s = .ok (xs.foldl g s) := loopN_ok fun x _ s => h x s
/-- a loop that may return: the first turn that does -/
theorem loopR_find {f : α → Unit → Res (Out Unit ρ)} {g : α → Option ρ} : ∀ {xs : List α}, (∀ x, x ∈ xs → f x () = .ok (match g x with | some r => .rt r | none => .nx ())) → loopR f xs () = .ok (match xs.findSome? g with | some r => .rt r | none => .nx ())
  | [], _ => rfl
  | x :: xs, h => by
    rw [loopR_cons, h x List.mem_cons_self, List.findSome?_cons]
    cases q : g x with
    | some r => rfl
    | none => exact loopR_find fun y hy => h y (List.mem_cons_of_mem _ hy)
theorem loopR_any {f : α → Unit → Res (Out Unit ρ)} {p : α → Bool} {r : ρ} : ∀ {xs : List α}, (∀ x, x ∈ xs → f x () = .ok (if p x = true then .rt r else .nx ())) → loopR f xs () = .ok (if xs.any p = true then .rt r else .nx ())
  | [], _ => rfl
  | x :: xs, h => by
    rw [loopR_cons, h x List.mem_cons_self, List.any_cons]
    cases q : p x with
    | true => rfl
    | false => exact loopR_any fun y hy => h y (List.mem_cons_of_mem _ hy)
theorem filR_id {p : α → Res Bool} {q : α → Bool} {xs : List α} (h : ∀ x, x ∈ xs → p x = .ok (q x)) : filR p (fun x => .ok x) xs = .ok (xs.filter q) := by
  rw [filR_ok (g := fun x => x) h fun _ _ _ => rfl, List.map_id']
theorem findSome_none {g : α → Option β} {xs : List α} (h : xs.findSome? g = none) : ∀ x, x ∈ xs → g x = none := List.findSome?_eq_none_iff.mp h
theorem findSome_some {g : α → Option β} {b : β} : ∀ {xs : List α}, xs.findSome? g = some b → ∃ x, x ∈ xs ∧ g x = some b
  | [], h => by cases h
  | x :: xs, h => by
    rw [List.findSome?_cons] at h
    cases q : g x with
    | some c =>
      rw [q] at h
      exact ⟨x, List.mem_cons_self, q.trans h⟩
    | none =>
      rw [q] at h
      obtain ⟨y, hy, e⟩ := findSome_some h
      exact ⟨y, List.mem_cons_of_mem _ hy, e⟩
/-- a loop that appends -/
theorem loopN_app {f : α → List β → Res (List β)} {q : α → Bool} {g : α → β} : ∀ {xs : List α} {acc : List β}, (∀ x a, x ∈ xs → a.length < 1000000 → f x a = .ok (if q x = true then a ++ [g x] else a)) → acc.length + xs.length < 1000000 → loopN f xs acc = .ok (acc ++ (xs.filter q).map g)
  | [], acc, _, _ => by rw [List.filter_nil, List.map_nil, List.append_nil]; rfl
  | x :: xs, acc, h, hl => by
    rw [List.length_cons] at hl
    rw [loopN_cons, h x acc List.mem_cons_self (by omega)]
    cases q1 : q x with
    | true =>
      rw [if_pos rfl, Res.bind_ok, loopN_app (fun y a hy => h y a (List.mem_cons_of_mem _ hy)) (by rw [List.length_append, List.length_singleton]; omega), List.filter_cons, if_pos q1, List.map_cons, List.append_assoc]
      rfl
    | false =>
      rw [if_neg (by decide), Res.bind_ok, loopN_app (fun y a hy => h y a (List.mem_cons_of_mem _ hy)) (by omega), List.filter_cons, if_neg (by rw [q1]; decide)]
theorem mem_enumF {xs : List α} {y : Int × α} : y ∈ enumF 0 xs ↔ ∃ i : Nat, xs[i]? = some y.2 ∧ y.1 = (i : Int) := by
  rw [List.mem_iff_getElem?]
  constructor
  · rintro ⟨i, h⟩
    rw [enumF_get] at h
    cases q : xs[i]? with
    | none =>
      rw [q] at h
      cases h
    | some x =>
      rw [q] at h
      cases h
      exact ⟨i, q, by simp⟩
  · rintro ⟨i, h1, h2⟩
    refine ⟨i, ?_⟩
    rw [enumF_get, h1]
    obtain ⟨a, b⟩ := y
    simp only at h2
    subst h2
    simp
theorem enumF_lt : ∀ (xs : List α) (k : Int), (enumF k xs).Pairwise fun a b => a.1 < b.1
  | [], _ => .nil
  | x :: xs, k => by
    rw [enumF, List.pairwise_cons]
    refine ⟨fun y hy => ?_, enumF_lt xs (k + 1)⟩
    obtain ⟨i, h⟩ := List.mem_iff_getElem?.mp hy
    rw [enumF_get] at h
    cases q : xs[i]? with
    | none =>
      rw [q] at h
      cases h
    | some z =>
      rw [q] at h
      cases h
      dsimp only
      omega
/-- a loop that might return, but does not -/
theorem loopR_inv {f : α → S → Res (Out S ρ)} {J : S → Prop} : ∀ {xs : List α} {s : S}, J s → (∀ x s, x ∈ xs → J s → Is (f x s) fun o => ∃ s', o = .nx s' ∧ J s') → Is (loopR f xs s) fun o => ∃ s', o = .nx s' ∧ J s'
  | [], s, h0, _ => ⟨s, rfl, h0⟩
  | x :: xs, s, h0, h => by
    rw [loopR_cons]
    refine Is.bind (h x s List.mem_cons_self h0) fun o ⟨s', e, h1⟩ => ?_
    subst e
    exact loopR_inv h1 fun y s hy => h y s (List.mem_cons_of_mem _ hy)
theorem ix_nat {xs : List α} {i : Nat} {x : α} (h : xs[i]? = some x) : ix xs (i : Int) = .ok x := by
  unfold ix
  rw [if_pos (by omega), Int.toNat_natCast, h]
theorem ix_get {xs : List α} {i : Int} (h0 : 0 ≤ i) (h1 : i < xs.length) : ∃ x, ix xs i = .ok x ∧ xs[i.toNat]? = some x := by
  obtain ⟨n, rfl⟩ := Int.eq_ofNat_of_zero_le h0
  have hn : n < xs.length := by omega
  exact ⟨xs[n], ix_nat (by simp [hn]), by simp [hn]⟩
theorem ix_getD {xs : List α} {i : Int} {d : α} (h0 : 0 ≤ i) (h1 : i < xs.length) : ix xs i = .ok (xs.getD i.toNat d) := by
  obtain ⟨x, e, h⟩ := ix_get h0 h1
  rw [e, List.getD_eq_getElem?_getD, h]
  rfl
theorem setR_nat {xs : List α} {i : Int} {x : α} (h0 : 0 ≤ i) (h1 : i < xs.length) : setR xs i x = .ok (xs.set i.toNat x) := by
  unfold setR ixN
  rw [if_pos h0, if_pos h1]
theorem cut_lo {xs : List α} {k : Int} (h : 0 ≤ k) : cut xs none (some k) = xs.take k.toNat := by
  unfold cut
  rw [HT.sIx_none]
  show (xs.drop 0).take ((if k < 0 then (k + (xs.length : Int)).toNat else min k.toNat xs.length) - 0) = _
  rw [if_neg (by omega), List.drop_zero, Nat.sub_zero, ← List.take_eq_take_min]
theorem cut_hi {xs : List α} {k : Int} (h : 0 ≤ k) : cut xs (some k) none = xs.drop k.toNat := by
  unfold cut
  rw [HT.sIx_none]
  show (xs.drop (if k < 0 then (k + (xs.length : Int)).toNat else min k.toNat xs.length)).take (xs.length - (if k < 0 then (k + (xs.length : Int)).toNat else min k.toNat xs.length)) = _
  rw [if_neg (by omega), List.take_of_length_le (by rw [List.length_drop]; exact Nat.le_refl _)]
  by_cases hk : k.toNat ≤ xs.length
  · rw [Nat.min_eq_left hk]
  · rw [Nat.min_eq_right (by omega), List.drop_length, List.drop_eq_nil_of_le (by omega)]
theorem cut_last {xs : List α} : cut xs none (some (-1)) = xs.dropLast := by
  unfold cut
  rw [HT.sIx_none]
  show (xs.drop 0).take ((if (-1 : Int) < 0 then ((-1 : Int) + (xs.length : Int)).toNat else min (-1 : Int).toNat xs.length) - 0) = _
  rw [if_pos (by decide), List.drop_zero, Nat.sub_zero, List.dropLast_eq_take]
  congr 1
  omega
theorem rangeL_nat (n : Int) : rangeL 0 n = (List.range n.toNat).map fun i : Nat => (i : Int) := by
  unfold rangeL
  rw [Int.sub_zero]
  exact List.map_congr_left fun i _ => by omega
theorem loopN_inv' {f : α → S → Res S} (J : S → Prop) {xs : List α} {s : S} (h0 : J s) (h : ∀ x s, x ∈ xs → J s → Is (f x s) J) : Is (loopN f xs s) J :=
  loopN_inv (fun _ => J) h0 fun i x s hx hj => h x s (List.mem_of_getElem? hx) hj
theorem mapM_is {μ : Type} {f : α → μ → Res (β × μ)} {J : μ → Prop} {B : β → Prop} : ∀ {xs : List α} {y : μ}, J y → (∀ x y, x ∈ xs → J y → Is (f x y) fun b => B b.1 ∧ J b.2) → Is (mapM f xs y) fun c => c.1.length = xs.length ∧ (∀ b ∈ c.1, B b) ∧ J c.2
  | [], y, h0, _ => ⟨rfl, fun _ h => (nomatch h), h0⟩
  | x :: xs, y, h0, h => by
    refine Is.bind (h x y List.mem_cons_self h0) fun b hb => ?_
    refine Is.bind (mapM_is (xs := xs) hb.2 fun z w hz hw => h z w (List.mem_cons_of_mem _ hz) hw) fun c hc => ?_
    exact ⟨by simp [hc.1], fun d hd => by
      rcases List.mem_cons.mp hd with rfl | hd
      · exact hb.1
      · exact hc.2.1 d hd, hc.2.2⟩
variable {μ : Type}
@[simp] theorem callM_ok (f : α → μ → Res (β × μ)) (a : α) (x : μ) : callM f (liftM (.ok a)) x = f a x := rfl
theorem callM_eq (f : α → μ → Res (β × μ)) (m : μ → Res (α × μ)) (x : μ) : callM f m x = (m x).bind fun b => f b.1 b.2 := rfl
theorem unM_eq (f : α → Res γ) (m : μ → Res (α × μ)) (x : μ) : unM f m x = (m x).bind fun b => (f b.1).bind fun c => .ok (c, b.2) := rfl
theorem binM_eq (f : α → β → Res γ) (m : μ → Res (α × μ)) (n : μ → Res (β × μ)) (x : μ) : binM f m n x = (m x).bind fun b => (n b.2).bind fun d => (f b.1 d.1).bind fun c => .ok (c, d.2) := rfl
theorem pairM_eq (m : μ → Res (α × μ)) (n : μ → Res (β × μ)) (x : μ) : pairM m n x = (m x).bind fun b => (n b.2).bind fun d => .ok ((b.1, d.1), d.2) := rfl
theorem consM_eq (m : μ → Res (α × μ)) (n : μ → Res (List α × μ)) (x : μ) : consM m n x = (m x).bind fun b => (n b.2).bind fun d => .ok (b.1 :: d.1, d.2) := rfl
theorem ifMR_eq (c : μ → Res (Bool × μ)) (x : μ) (m n : μ → Res α) : ifMR c x m n = (c x).bind fun b => if b.1 = true then m b.2 else n b.2 := rfl
theorem andM_eq (m n : μ → Res (Bool × μ)) (x : μ) : andM m n x = (m x).bind fun b => if b.1 = true then n b.2 else .ok (false, b.2) := rfl
theorem slM_eq (m : Res (List α)) (lo hi : μ → Res (Option Int × μ)) (x : μ) : slM m lo hi x = m.bind fun xs => (lo x).bind fun a => (hi a.2).bind fun b => .ok (cut xs a.1 b.1, b.2) := rfl
@[simp] theorem consR_ok (a : α) (xs : List α) : consR (.ok a) (.ok xs) = .ok (a :: xs) := rfl
theorem Is.if_ {α : Type} {c : Bool} {m n : Res α} {Q : α → Prop} (h1 : c = true → Is m Q) (h2 : c = false → Is n Q) : Is (if c = true then m else n) Q := by
  cases c with
  | true => exact h1 rfl
  | false => exact h2 rfl
end
end Sd

namespace K82
open PySem L2 Sd
def top (i : Nat) : Stmt := PySem.Challenge.pw_stormdesk_k82_whole_plan_or_crowd.main.body.getD i (.Pass ⟨0, 0, 0, 0⟩)

abbrev s_check_wishes : Stmt := top 7
abbrev s_is_plan : Stmt := top 8
abbrev s_inside : Stmt := top 9
abbrev s_is_crowd : Stmt := top 10
abbrev s_earliest_plan : Stmt := top 11
abbrev s_first_crowd : Stmt := top 12
abbrev s_phone_paper : Stmt := top 13
abbrev s__law_mix : Stmt := top 15
abbrev s__law_pool : Stmt := top 16
abbrev s__law_fill : Stmt := top 17
abbrev s__law_take : Stmt := top 18
abbrev s__law_from : Stmt := top 19
abbrev s__law_wishes : Stmt := top 20
abbrev s__law_inside : Stmt := top 21
abbrev s__law_first_crowd : Stmt := top 22
abbrev s__law_is_int : Stmt := top 23
abbrev s__law_is_right_plan : Stmt := top 24
abbrev s__law_changed_plans : Stmt := top 25
abbrev s__law_refused : Stmt := top 26
abbrev s__law_refused_right : Stmt := top 27
abbrev s_law : Stmt := top 28
abbrev s_err : Stmt := mth (top 1)
def knE (c : Ec) : Bool := decide (c ∈ ([.DeskError, .TooMany, .BadPair] : List Ec))
structure Tx (K : PySem.W.Frag) (mg : Str → Option Value) where
  f_check_wishes : Addr
  d_check_wishes : FuncData
  f_is_plan : Addr
  d_is_plan : FuncData
  f_inside : Addr
  d_inside : FuncData
  f_is_crowd : Addr
  d_is_crowd : FuncData
  f_earliest_plan : Addr
  d_earliest_plan : FuncData
  f_first_crowd : Addr
  d_first_crowd : FuncData
  f_phone_paper : Addr
  d_phone_paper : FuncData
  f__law_mix : Addr
  d__law_mix : FuncData
  f__law_pool : Addr
  d__law_pool : FuncData
  f__law_fill : Addr
  d__law_fill : FuncData
  f__law_take : Addr
  d__law_take : FuncData
  f__law_from : Addr
  d__law_from : FuncData
  f__law_wishes : Addr
  d__law_wishes : FuncData
  f__law_inside : Addr
  d__law_inside : FuncData
  f__law_first_crowd : Addr
  d__law_first_crowd : FuncData
  f__law_is_int : Addr
  d__law_is_int : FuncData
  f__law_is_right_plan : Addr
  d__law_is_right_plan : FuncData
  f__law_changed_plans : Addr
  d__law_changed_plans : FuncData
  f__law_refused : Addr
  d__law_refused : FuncData
  f__law_refused_right : Addr
  d__law_refused_right : FuncData
  f_law : Addr
  d_law : FuncData
  F_check_wishes : FunD K "check_wishes" "check_wishes" (defArgs s_check_wishes) (defBody s_check_wishes) (defScope s_check_wishes) [] [] f_check_wishes d_check_wishes
  g_check_wishes : mg "check_wishes" = some (.ref f_check_wishes)
  F_is_plan : FunD K "is_plan" "is_plan" (defArgs s_is_plan) (defBody s_is_plan) (defScope s_is_plan) [] [] f_is_plan d_is_plan
  g_is_plan : mg "is_plan" = some (.ref f_is_plan)
  F_inside : FunD K "inside" "inside" (defArgs s_inside) (defBody s_inside) (defScope s_inside) [] [] f_inside d_inside
  g_inside : mg "inside" = some (.ref f_inside)
  F_is_crowd : FunD K "is_crowd" "is_crowd" (defArgs s_is_crowd) (defBody s_is_crowd) (defScope s_is_crowd) [] [] f_is_crowd d_is_crowd
  g_is_crowd : mg "is_crowd" = some (.ref f_is_crowd)
  F_earliest_plan : FunD K "earliest_plan" "earliest_plan" (defArgs s_earliest_plan) (defBody s_earliest_plan) (defScope s_earliest_plan) [] [] f_earliest_plan d_earliest_plan
  g_earliest_plan : mg "earliest_plan" = some (.ref f_earliest_plan)
  F_first_crowd : FunD K "first_crowd" "first_crowd" (defArgs s_first_crowd) (defBody s_first_crowd) (defScope s_first_crowd) [] [] f_first_crowd d_first_crowd
  g_first_crowd : mg "first_crowd" = some (.ref f_first_crowd)
  F_phone_paper : FunD K "phone_paper" "phone_paper" (defArgs s_phone_paper) (defBody s_phone_paper) (defScope s_phone_paper) [] [] f_phone_paper d_phone_paper
  g_phone_paper : mg "phone_paper" = some (.ref f_phone_paper)
  F__law_mix : FunD K "_law_mix" "_law_mix" (defArgs s__law_mix) (defBody s__law_mix) (defScope s__law_mix) [] [] f__law_mix d__law_mix
  g__law_mix : mg "_law_mix" = some (.ref f__law_mix)
  F__law_pool : FunD K "_law_pool" "_law_pool" (defArgs s__law_pool) (defBody s__law_pool) (defScope s__law_pool) [] [] f__law_pool d__law_pool
  g__law_pool : mg "_law_pool" = some (.ref f__law_pool)
  F__law_fill : FunD K "_law_fill" "_law_fill" (defArgs s__law_fill) (defBody s__law_fill) (defScope s__law_fill) [] [] f__law_fill d__law_fill
  g__law_fill : mg "_law_fill" = some (.ref f__law_fill)
  F__law_take : FunD K "_law_take" "_law_take" (defArgs s__law_take) (defBody s__law_take) (defScope s__law_take) [] [] f__law_take d__law_take
  g__law_take : mg "_law_take" = some (.ref f__law_take)
  F__law_from : FunD K "_law_from" "_law_from" (defArgs s__law_from) (defBody s__law_from) (defScope s__law_from) [] [] f__law_from d__law_from
  g__law_from : mg "_law_from" = some (.ref f__law_from)
  F__law_wishes : FunD K "_law_wishes" "_law_wishes" (defArgs s__law_wishes) (defBody s__law_wishes) (defScope s__law_wishes) [] [] f__law_wishes d__law_wishes
  g__law_wishes : mg "_law_wishes" = some (.ref f__law_wishes)
  F__law_inside : FunD K "_law_inside" "_law_inside" (defArgs s__law_inside) (defBody s__law_inside) (defScope s__law_inside) [] [] f__law_inside d__law_inside
  g__law_inside : mg "_law_inside" = some (.ref f__law_inside)
  F__law_first_crowd : FunD K "_law_first_crowd" "_law_first_crowd" (defArgs s__law_first_crowd) (defBody s__law_first_crowd) (defScope s__law_first_crowd) [] [] f__law_first_crowd d__law_first_crowd
  g__law_first_crowd : mg "_law_first_crowd" = some (.ref f__law_first_crowd)
  F__law_is_int : FunD K "_law_is_int" "_law_is_int" (defArgs s__law_is_int) (defBody s__law_is_int) (defScope s__law_is_int) [] [] f__law_is_int d__law_is_int
  g__law_is_int : mg "_law_is_int" = some (.ref f__law_is_int)
  F__law_is_right_plan : FunD K "_law_is_right_plan" "_law_is_right_plan" (defArgs s__law_is_right_plan) (defBody s__law_is_right_plan) (defScope s__law_is_right_plan) [] [] f__law_is_right_plan d__law_is_right_plan
  g__law_is_right_plan : mg "_law_is_right_plan" = some (.ref f__law_is_right_plan)
  F__law_changed_plans : FunD K "_law_changed_plans" "_law_changed_plans" (defArgs s__law_changed_plans) (defBody s__law_changed_plans) (defScope s__law_changed_plans) [] [] f__law_changed_plans d__law_changed_plans
  g__law_changed_plans : mg "_law_changed_plans" = some (.ref f__law_changed_plans)
  F__law_refused : FunD K "_law_refused" "_law_refused" (defArgs s__law_refused) (defBody s__law_refused) (defScope s__law_refused) [] [] f__law_refused d__law_refused
  g__law_refused : mg "_law_refused" = some (.ref f__law_refused)
  F__law_refused_right : FunD K "_law_refused_right" "_law_refused_right" (defArgs s__law_refused_right) (defBody s__law_refused_right) (defScope s__law_refused_right) [] [] f__law_refused_right d__law_refused_right
  g__law_refused_right : mg "_law_refused_right" = some (.ref f__law_refused_right)
  F_law : FunD K "law" "law" (defArgs s_law) (defBody s_law) (defScope s_law) [] [] f_law d_law
  g_law : mg "law" = some (.ref f_law)
  gb_bool : mg "bool" = none
  gb_enumerate : mg "enumerate" = none
  gb_int : mg "int" = none
  gb_isinstance : mg "isinstance" = none
  gb_len : mg "len" = none
  gb_list : mg "list" = none
  gb_min : mg "min" = none
  gb_range : mg "range" = none
  gb_sorted : mg "sorted" = none
  gb_tuple : mg "tuple" = none
  gb_zip : mg "zip" = none
  gi_LAST_MINUTE : ∃ t, mg "LAST_MINUTE" = some (.int (60) t)
  gi_MOST_WISHES : ∃ t, mg "MOST_WISHES" = some (.int (20) t)
  f_err : Addr
  d_err : FuncData
  F_err : ErrF K s_err f_err d_err
  xs : ∀ c, knE c = true → ErrC K mg f_err c
  ki : ∀ c b, knE c = true → knE b = true → PySem.W.kitOne K (.ref (He.ga K c.name)) (.ref (He.ga K b.name)) = some (isaE c b)
  ex : ∀ c b, knE c = true → knE b = true → PySem.W.exmOne K (.ref (He.ga K c.name)) (.ref (He.ga K b.name)) = some (isaE c b)
section
variable {P : Program} {w : World} {K : PySem.W.Frag} {mg : Str → Option Value} {base : Heap}
theorem sc_err : FnScope ["self", "at"] ["self", "at"] (defScope s_err) := ⟨rfl, rfl, rfl, by decide +kernel, rfl, by decide +kernel, by decide +kernel⟩
theorem bind_err {K : PySem.W.Frag} {mg : Str → Option Value} {T : Tx K mg} : Binds K T.d_err ["self", "at"] [] := by
  obtain ⟨ds, h1, h2⟩ := FunD.binds1 T.F_err (ps := ["self", "at"]) 2 1 (by decide) rfl fun _ _ _ _ _ _ _ us its hu hi => match us, its, hu, hi with | [_, _], [_], _, _ => ⟨_, rfl, rfl⟩
  cases h1
  exact h2
theorem ok_err (T : Tx K mg) : FnOk P w K mg base (L2.CX P w) 1 T.f_err T.d_err ["self", "at"] (spInit K) := by
  refine T.F_err.ok sc_err (fun vs H Q E h => ?_) (fun cdv A outer s H vs Q E hr h => ?_)
  · obtain ⟨a, C, i, rfl, _⟩ := h
    rfl
  · obtain ⟨a, C, i, rfl, ho, hn, ha, hq⟩ := h
    exact ⟨_, pss_cons (ps_ost (pv 0) (pv 1)) pss_nil, _, rfl, _, rfl, a, C, rfl, ho, hn, .inl ⟨ha, fun dx h1 h2 => hq dx h1 h2⟩⟩
def m_check_wishes (a_wishes : (List (Int × Int))) : Res Unit :=
  (ifR (bin rGt (un rLen (Res.ok a_wishes)) (Res.ok (20 : Int))) ((Res.ok (20 : Int)).bind fun i => Res.exc .TooMany i) (((un enumR (Res.ok a_wishes)).bind fun xs => loopN (fun (x_16 : (Int × (Int × Int))) (z_9 : Unit) => (ifR (orR (bin rLt (un (fun p => Res.ok p.1) (Res.ok x_16.2)) (Res.ok (0 : Int))) (orR (bin rGe (un (fun p => Res.ok p.1) (Res.ok x_16.2)) (un (fun p => Res.ok p.2) (Res.ok x_16.2))) (bin rGt (un (fun p => Res.ok p.2) (Res.ok x_16.2)) (Res.ok (60 : Int))))) ((Res.ok x_16.1).bind fun i => Res.exc .BadPair i) (Res.ok ()))) xs ()).bind fun (z_43 : Unit) => (Res.ok ())))
abbrev N_check_wishes : List Str := ["wishes", "k", "wish"]
theorem sc_check_wishes : FnScope N_check_wishes ["wishes"] (defScope s_check_wishes) := ⟨rfl, rfl, rfl, by decide +kernel, rfl, by decide +kernel, by decide +kernel⟩
theorem bind_check_wishes {K : PySem.W.Frag} {mg : Str → Option Value} {T : Tx K mg} : Binds K T.d_check_wishes ["wishes"] [] := FunD.bindsN T.F_check_wishes fun _ _ _ _ _ _ us hl => match us, hl with | [_], _ => rfl
abbrev sp_check_wishes (K : PySem.W.Frag) : Sp := spP K (t1 (pL (pT (tc pI (t1 pI))))) m_check_wishes pN
theorem ok_check_wishes (T : Tx K mg) : FnOk P w K mg base (L2.CX P w) 3 T.f_check_wishes T.d_check_wishes ["wishes"] (sp_check_wishes K) := by
  refine T.F_check_wishes.ok sc_check_wishes (fun vs H Q E h => ?_) (fun cdv A outer s H vs Q E hr h => ?_)
  · obtain ⟨I, C, a, _, hr, _⟩ := h
    exact Rt.len _ hr
  · obtain ⟨I0, C0, a_wishes, hs, ⟨v_wishes, rfl, r_wishes⟩, hm⟩ := h
    have hm : Post (m_check_wishes a_wishes) (PQ pN I0 C0 Q) (PX E K I0 C0) := hm
    replace r_wishes : Rp.r (pL (pT (tc pI (t1 pI)))) a_wishes v_wishes I0 Z := Im.im r_wishes
    unfold m_check_wishes at hm
    refine ⟨_, (pss_cons (ps_if (pt_cmpR op_gt (pe_callB (r := rLen1 K) call_len_seq (by rfl) T.gb_len bt_len (pa_cons (pv 0) pa_nil)) (pe_glob (v := .int (20)) rfl T.gi_MOST_WISHES.choose_spec ⟨_, rfl⟩) (nomark _)) (pss_cons (ps_raise rfl (takes_of rfl rfl rfl rfl) (pmk_oex (T.xs .TooMany (by decide)).o (T.xs .TooMany (by decide)).ic (T.xs .TooMany (by decide)).ti (ok_err T) (hr.mono (by decide)) bind_err .nil passL rfl (T.xs .TooMany (by decide)).g (pa_cons (pe_glob (v := .int (20)) rfl T.gi_MOST_WISHES.choose_spec ⟨_, rfl⟩) pa_nil))) pss_nil) pss_nil) (pss_cons (ps_for (passes_of rfl) rfl (show PI _ _ _ (iEnum K _) from pi_enum (by rfl) T.gb_enumerate (pa_cons (pv 0) pa_nil)) (show PG _ _ (gTup K 2 _) from pg_tup rfl (pgs_cons (pg_name (i := 1) sc_check_wishes.nd rfl (Or.inl rfl)) (pgs_cons (pg_name (i := 2) sc_check_wishes.nd rfl (Or.inl rfl)) pgs_nil))) (pss_cons (ps_if (PW.pt (pw_or (pt_cmpR op_lt (pe_ix (r := rIxT K) ix_tup (pv 2) pe_int (fun _ _ => rfl)) pe_int (nomark _)) (pw_or (pt_cmpR op_ge (pe_ix (r := rIxT K) ix_tup (pv 2) pe_int (fun _ _ => rfl)) (pe_ix (r := rIxT K) ix_tup (pv 2) pe_int (fun _ _ => rfl)) (nomark _)) (pw_or1 (pt_cmpR op_gt (pe_ix (r := rIxT K) ix_tup (pv 2) pe_int (fun _ _ => rfl)) (pe_glob (v := .int (60)) rfl T.gi_LAST_MINUTE.choose_spec ⟨_, rfl⟩) (nomark _)))))) (pss_cons (ps_raise rfl (takes_of rfl rfl rfl rfl) (pmk_oex (T.xs .BadPair (by decide)).o (T.xs .BadPair (by decide)).ic (T.xs .BadPair (by decide)).ti (ok_err T) (hr.mono (by decide)) bind_err .nil passL rfl (T.xs .BadPair (by decide)).g (pa_cons (pv 1) pa_nil))) pss_nil) pss_nil) pss_nil)) pss_nil)), ?_⟩
    refine s_if (E := E) (K := K) (σ := [some v_wishes, none, none]) (t_test (x_op o_gt (x_cb o_len (a_one (x_v (x_var (i := 0) rfl (Rp.mono _ (Ex.refl _) exz r_wishes))))) (x_int (i := 20)))) hs (fun _ _ h => PX.mono (Ex.refl _) (Ex.refl _) h) hm (fun I_1 H_2 e_3 s_4 hm => ?_) (fun I_5 H_6 e_7 s_8 hm => ?_)
    · exact s_raise (E := E) (K := K) (σ := [some v_wishes, none, none]) (T.xs .TooMany (by decide)) (a_one (x_int (i := 20))) s_4 (fun _ _ h => PX.mono e_3 (Ex.refl _) h) hm
    · refine s_forN (E := E) (K := K) (σ := [some v_wishes, none, none]) (fun (z_9 : Unit) σ2 I_13 C_14 => ∃ w_11 : Option V, ∃ w_12 : Option V, σ2 = [some v_wishes, w_11, w_12] ∧ Ex C0 C_14) (i_enum (a_one (x_var (i := 0) rfl (Rp.mono _ e_7 exz r_wishes)))) s_8 (fun _ _ h => PX.mono e_7 (Ex.refl _) h) hm (fun _ e_24 => ⟨none, none, rfl, (Ex.refl _)⟩) (fun _ _ _ _ _ => trivial) (fun _ _ _ _ _ e ⟨w_11, w_12, hs_10, fr_15⟩ => ⟨w_11, w_12, hs_10, fr_15⟩) (fun N x_16 v_17 z_9 σ2 I_18 C_19 H_20 e_21 s_22 ⟨w_11, w_12, hs_10, fr_15⟩ r_23 hm => ?_) (fun z_43 σ2 I_38 C_39 H_40 e_41 s_42 ⟨w_45, w_46, hs_44, fr_49⟩ hm => ?_)
      · subst hs_10
        refine g2 (K := K) x_16 v_17 I_18 C_19 H_20 _ s_22 r_23 fun σ2 ⟨v_25, v_26, hs_29, r_27, r_28⟩ => ?_
        subst hs_29
        refine s_if (E := E) (K := K) (σ := [some v_wishes, some v_25, some v_26]) (t_or (t_test (x_op o_lt (x_k (k := ((0 : Nat) : Int)) (o_pj pj0) (x_var (i := 2) rfl (Rp.mono _ (Ex.refl _) exz r_28))) (x_int (i := 0)))) (t_or (t_test (x_op o_ge (x_k (k := ((0 : Nat) : Int)) (o_pj pj0) (x_var (i := 2) rfl (Rp.mono _ (Ex.refl _) exz r_28))) (x_k (k := ((1 : Nat) : Int)) (o_pj (pjs pj1)) (x_var (i := 2) rfl (Rp.mono _ (Ex.refl _) exz r_28))))) (t_test (x_op o_gt (x_k (k := ((1 : Nat) : Int)) (o_pj (pjs pj1)) (x_var (i := 2) rfl (Rp.mono _ (Ex.refl _) exz r_28))) (x_int (i := 60)))))) s_22 (fun _ _ h => PX.mono (e_7.trans e_21) fr_15 h) hm (fun I_30 H_31 e_32 s_33 hm => ?_) (fun I_34 H_35 e_36 s_37 hm => ?_)
        · exact s_raise (E := E) (K := K) (σ := [some v_wishes, some v_25, some v_26]) (T.xs .BadPair (by decide)) (a_one (x_var (i := 1) rfl (Rp.mono _ e_32 exz r_27))) s_33 (fun _ _ h => PX.mono (e_7.trans (e_21.trans e_32)) fr_15 h) hm
        · exact hm _ _ _ _ e_36 s_37 ⟨some v_25, some v_26, rfl, fr_15⟩
      subst hs_44
      exact hm .non _ _ (e_7.trans e_41) (St.less s_42 fr_49) rfl
def m_is_plan (a_wishes : (List (Int × Int))) (a_desks : Int) (a_plan : (List Int)) : Res Bool :=
  ((un m_check_wishes (Res.ok a_wishes)).bind fun (b_1 : Unit) => (ifR (bin neR (un rLen (Res.ok a_plan)) (un rLen (Res.ok a_wishes))) ((Res.ok false).bind fun a_14 => Res.ok a_14) (((un zipR (pair (Res.ok a_wishes) (Res.ok a_plan))).bind fun xs => loopR (fun (x_28 : ((Int × Int) × Int)) (z_21 : Unit) => (ifR (andR (bin neR (Res.ok x_28.2) (un rNeg (Res.ok (1 : Int)))) (orR (bin rLt (Res.ok x_28.2) (un (fun p => Res.ok p.1) (Res.ok x_28.1))) (bin rGe (Res.ok x_28.2) (un (fun p => Res.ok p.2) (Res.ok x_28.1))))) ((Res.ok false).bind fun a_50 => Res.ok (Out.rt a_50)) (Res.ok (Out.nx ())))) xs ()).bind fun (o : Out Unit Bool) => match o with | .nx z_62 => (((Res.ok a_plan).bind fun xs => loopR (fun (x_75 : Int) (z_69 : Unit) => (ifR (andR (bin neR (Res.ok x_75) (un rNeg (Res.ok (1 : Int)))) (bin rGt (un rLen ((Res.ok a_plan).bind (filR (fun (x_87 : Int) => (bin eqR (Res.ok x_87) (Res.ok x_75))) (fun (x_87 : Int) => (Res.ok x_87))))) (Res.ok a_desks))) ((Res.ok false).bind fun a_102 => Res.ok (Out.rt a_102)) (Res.ok (Out.nx ())))) xs ()).bind fun (o : Out Unit Bool) => match o with | .nx z_114 => ((Res.ok true).bind fun a_120 => Res.ok a_120) | .br _ => Res.bad | .rt r => Res.ok r) | .br _ => Res.bad | .rt r => Res.ok r)))
abbrev N_is_plan : List Str := ["wishes", "desks", "plan", "wish", "minute", "other"]
theorem sc_is_plan : FnScope N_is_plan ["wishes", "desks", "plan"] (defScope s_is_plan) := ⟨rfl, rfl, rfl, by decide +kernel, rfl, by decide +kernel, by decide +kernel⟩
theorem bind_is_plan {K : PySem.W.Frag} {mg : Str → Option Value} {T : Tx K mg} : Binds K T.d_is_plan ["wishes", "desks", "plan"] [] := FunD.bindsN T.F_is_plan fun _ _ _ _ _ _ us hl => match us, hl with | [_, _, _], _ => rfl
abbrev sp_is_plan (K : PySem.W.Frag) : Sp := spP K (tc (pL (pT (tc pI (t1 pI)))) (tc pI (t1 (pL pI)))) (fun (p : ((List (Int × Int)) × Int × (List Int))) => m_is_plan p.1 p.2.1 p.2.2) pB
theorem ok_is_plan (T : Tx K mg) : FnOk P w K mg base (L2.CX P w) 4 T.f_is_plan T.d_is_plan ["wishes", "desks", "plan"] (sp_is_plan K) := by
  refine T.F_is_plan.ok sc_is_plan (fun vs H Q E h => ?_) (fun cdv A outer s H vs Q E hr h => ?_)
  · obtain ⟨I, C, a, _, hr, _⟩ := h
    exact Rt.len _ hr
  · obtain ⟨I0, C0, ⟨a_wishes, a_desks, a_plan⟩, hs, ⟨v_wishes, us0, rfl, r_wishes, v_desks, us1, rfl, r_desks, v_plan, rfl, r_plan⟩, hm⟩ := h
    have hm : Post (m_is_plan a_wishes a_desks a_plan) (PQ pB I0 C0 Q) (PX E K I0 C0) := hm
    replace r_wishes : Rp.r (pL (pT (tc pI (t1 pI)))) a_wishes v_wishes I0 Z := Im.im r_wishes
    replace r_desks : Rp.r pI a_desks v_desks I0 Z := Im.im r_desks
    replace r_plan : Rp.r (pL pI) a_plan v_plan I0 Z := Im.im r_plan
    unfold m_is_plan at hm
    refine ⟨_, (pss_cons (ps_expr (pe_call (ok_check_wishes T) (hr.mono (by decide)) rfl T.g_check_wishes T.F_check_wishes.kp bind_check_wishes .nil passE (pa_cons (pv 0) pa_nil))) (pss_cons (ps_if (pt_cmpR op_ne (pe_callB (r := rLen1 K) call_len_seq (by rfl) T.gb_len bt_len (pa_cons (pv 2) pa_nil)) (pe_callB (r := rLen1 K) call_len_seq (by rfl) T.gb_len bt_len (pa_cons (pv 0) pa_nil)) (nomark _)) (pss_cons (ps_ret pe_bl) pss_nil) pss_nil) (pss_cons (ps_for (passes_of rfl) rfl (show PI _ _ _ (iZip K _) from pi_zip (by rfl) T.gb_zip (pa_cons (pv 0) (pa_cons (pv 2) pa_nil))) (show PG _ _ (gTup K 2 _) from pg_tup rfl (pgs_cons (pg_name (i := 3) sc_is_plan.nd rfl (Or.inl rfl)) (pgs_cons (pg_name (i := 4) sc_is_plan.nd rfl (Or.inr rfl)) pgs_nil))) (pss_cons (ps_if (PW.pt (pw_and (pt_cmpR op_ne (pv 4) (pe_un un_neg pe_int) (nomark _)) (pw_and1 (PW.pt (pw_or (pt_cmpR op_lt (pv 4) (pe_ix (r := rIxT K) ix_tup (pv 3) pe_int (fun _ _ => rfl)) (nomark _)) (pw_or1 (pt_cmpR op_ge (pv 4) (pe_ix (r := rIxT K) ix_tup (pv 3) pe_int (fun _ _ => rfl)) (nomark _)))))))) (pss_cons (ps_ret pe_bl) pss_nil) pss_nil) pss_nil)) (pss_cons (ps_for (passes_of rfl) rfl (show PI _ _ _ (iList K _) from pi_list (pv 2)) (pg_name (i := 4) sc_is_plan.nd rfl (Or.inr rfl)) (pss_cons (ps_if (PW.pt (pw_and (pt_cmpR op_ne (pv 4) (pe_un un_neg pe_int) (nomark _)) (pw_and1 (pt_cmpR op_gt (pe_callB (r := rLen1 K) call_len_seq (by rfl) T.gb_len bt_len (pa_cons (pe_lc (own := [("other", 5)]) rfl sc_is_plan.nd (show PI _ _ _ (iList K _) from pi_list (pv 2)) (blkOk_by (own := [("other", 5)]) (N := N_is_plan) (sc := defScope s_is_plan) (by decide +kernel)) (fun _ _ _ _ _ => (pg_name (i := 5) sc_is_plan.nd rfl (Or.inl rfl))) (fun _ _ _ _ _ => (pts_one (pt_cmpR op_eq (pv 5) (pv 4) (nomark _)))) (fun _ _ _ _ _ => (pv 5))) pa_nil)) (pv 1) (nomark _))))) (pss_cons (ps_ret pe_bl) pss_nil) pss_nil) pss_nil)) (pss_cons (ps_ret pe_bl) pss_nil))))), ?_⟩
    refine s_expr (E := E) (K := K) (σ := [some v_wishes, some v_desks, some v_plan, none, none, none]) (x_call (a_one (x_var (i := 0) rfl (Rp.mono _ (Ex.refl _) exz r_wishes)))) hs (fun _ _ h => PX.mono (Ex.refl _) (Ex.refl _) h) hm fun b_1 I_2 H_3 e_4 s_5 hm => ?_
    refine s_if (E := E) (K := K) (σ := [some v_wishes, some v_desks, some v_plan, none, none, none]) (t_test (x_op o_neI (x_cb o_len (a_one (x_v (x_var (i := 2) rfl (Rp.mono _ e_4 exz r_plan))))) (x_cb o_len (a_one (x_v (x_var (i := 0) rfl (Rp.mono _ e_4 exz r_wishes))))))) s_5 (fun _ _ h => PX.mono e_4 (Ex.refl _) h) hm (fun I_6 H_7 e_8 s_9 hm => ?_) (fun I_10 H_11 e_12 s_13 hm => ?_)
    · refine q_ret (E := E) (K := K) (σ := [some v_wishes, some v_desks, some v_plan, none, none, none]) x_bl s_9 (fun _ _ h => PX.mono (e_4.trans e_8) (Ex.refl _) h) hm fun a_14 v_15 I_16 H_17 e_18 s_19 r_20 hm => ?_
      exact hm v_15 I_16 H_17 (e_4.trans (e_8.trans e_18)) (St.less s_19 (Ex.refl _)) (Im.im r_20)
    · refine s_forR (E := E) (K := K) (σ := [some v_wishes, some v_desks, some v_plan, none, none, none]) (fun (z_21 : Unit) σ2 I_25 C_26 => ∃ w_23 : Option V, ∃ w_24 : Option V, σ2 = [some v_wishes, some v_desks, some v_plan, w_23, w_24, none] ∧ Ex C0 C_26) (i_zip (a_cons (x_var (i := 0) rfl (Rp.mono _ (e_4.trans e_12) exz r_wishes)) (a_one (x_var (i := 2) rfl (Rp.mono _ (e_4.trans e_12) exz r_plan))))) s_13 (fun _ _ h => PX.mono (e_4.trans e_12) (Ex.refl _) h) hm (fun _ e_36 => ⟨none, none, rfl, (Ex.refl _)⟩) (fun _ _ _ _ _ => trivial) (fun _ _ _ _ _ e ⟨w_23, w_24, hs_22, fr_27⟩ => ⟨w_23, w_24, hs_22, fr_27⟩) (fun N x_28 v_29 z_21 σ2 I_30 C_31 H_32 e_33 s_34 ⟨w_23, w_24, hs_22, fr_27⟩ r_35 hm => ?_) (fun z_62 σ2 I_57 C_58 H_59 e_60 s_61 ⟨w_64, w_65, hs_63, fr_68⟩ hm => ?_)
      · subst hs_22
        refine g2 (K := K) x_28 v_29 I_30 C_31 H_32 _ s_34 r_35 fun σ2 ⟨v_37, v_38, hs_41, r_39, r_40⟩ => ?_
        subst hs_41
        refine s_if (E := E) (K := K) (σ := [some v_wishes, some v_desks, some v_plan, some v_37, some v_38, none]) (t_and (t_test (x_op o_neI (x_var (i := 4) rfl (Rp.mono _ (Ex.refl _) exz r_40)) (x_un o_neg (x_int (i := 1))))) (t_or (t_test (x_op o_lt (x_var (i := 4) rfl (Rp.mono _ (Ex.refl _) exz r_40)) (x_k (k := ((0 : Nat) : Int)) (o_pj pj0) (x_var (i := 3) rfl (Rp.mono _ (Ex.refl _) exz r_39))))) (t_test (x_op o_ge (x_var (i := 4) rfl (Rp.mono _ (Ex.refl _) exz r_40)) (x_k (k := ((1 : Nat) : Int)) (o_pj (pjs pj1)) (x_var (i := 3) rfl (Rp.mono _ (Ex.refl _) exz r_39))))))) s_34 (fun _ _ h => PX.mono (e_4.trans (e_12.trans e_33)) fr_27 h) hm (fun I_42 H_43 e_44 s_45 hm => ?_) (fun I_46 H_47 e_48 s_49 hm => ?_)
        · refine q_ret (E := E) (K := K) (σ := [some v_wishes, some v_desks, some v_plan, some v_37, some v_38, none]) x_bl s_45 (fun _ _ h => PX.mono (e_4.trans (e_12.trans (e_33.trans e_44))) fr_27 h) hm fun a_50 v_51 I_52 H_53 e_54 s_55 r_56 hm => ?_
          exact hm v_51 I_52 H_53 (e_4.trans (e_12.trans (e_33.trans (e_44.trans e_54)))) (St.less s_55 fr_27) (Im.im r_56)
        · exact hm _ _ _ _ e_48 s_49 ⟨some v_37, some v_38, rfl, fr_27⟩
      subst hs_63
      refine s_forR (E := E) (K := K) (σ := [some v_wishes, some v_desks, some v_plan, w_64, w_65, none]) (fun (z_69 : Unit) σ2 I_72 C_73 => ∃ w_71 : Option V, σ2 = [some v_wishes, some v_desks, some v_plan, w_64, w_71, none] ∧ Ex C0 C_73) (i_list (x_var (i := 2) rfl (Rp.mono _ (e_4.trans (e_12.trans e_60)) exz r_plan))) s_61 (fun _ _ h => PX.mono (e_4.trans (e_12.trans e_60)) fr_68 h) hm (fun _ e_83 => ⟨w_65, rfl, fr_68⟩) (fun _ _ _ _ _ => trivial) (fun _ _ _ _ _ e ⟨w_71, hs_70, fr_74⟩ => ⟨w_71, hs_70, fr_74⟩) (fun N x_75 v_76 z_69 σ2 I_77 C_78 H_79 e_80 s_81 ⟨w_71, hs_70, fr_74⟩ r_82 hm => ?_) (fun z_114 σ2 I_109 C_110 H_111 e_112 s_113 ⟨w_116, hs_115, fr_119⟩ hm => ?_)
      · subst hs_70
        refine g1 (K := K) x_75 v_76 I_77 C_78 H_79 _ s_81 r_82 fun σ2 ⟨v_84, hs_86, r_85⟩ => ?_
        subst hs_86
        refine s_if (E := E) (K := K) (σ := [some v_wishes, some v_desks, some v_plan, w_64, some v_84, none]) (t_and (t_test (x_op o_neI (x_var (i := 4) rfl (Rp.mono _ (Ex.refl _) exz r_85)) (x_un o_neg (x_int (i := 1))))) (t_test (x_op o_gt (x_cb o_len (a_one (x_v (x_lcg (i_list (x_var (i := 2) rfl (Rp.mono _ (e_4.trans (e_12.trans (e_60.trans e_80))) exz r_plan))) g1 (fun _ _ _ _ ⟨_, h, _⟩ => by rw [h]; rfl) (fun x_87 σ2 I_88 C_89 e_90 c_91 ⟨v_92, h, r_93⟩ => by subst h; exact (t_test (x_op o_eqI (x_var (i := 5) rfl (Rp.mono _ (Ex.refl _) exz r_93)) (x_var (i := 4) rfl (Rp.mono _ e_90 exz r_85))))) (fun x_87 σ2 I_88 C_89 e_90 c_91 ⟨v_92, h, r_93⟩ => by subst h; exact (x_var (i := 5) rfl (Rp.mono _ (Ex.refl _) exz r_93))) (fun _ _ _ _ _ e ⟨v_92, h, r_93⟩ => ⟨v_92, h, Rp.mono _ e exz r_93⟩))))) (x_var (i := 1) rfl (Rp.mono _ (e_4.trans (e_12.trans (e_60.trans e_80))) exz r_desks))))) s_81 (fun _ _ h => PX.mono (e_4.trans (e_12.trans (e_60.trans e_80))) fr_74 h) hm (fun I_94 H_95 e_96 s_97 hm => ?_) (fun I_98 H_99 e_100 s_101 hm => ?_)
        · refine q_ret (E := E) (K := K) (σ := [some v_wishes, some v_desks, some v_plan, w_64, some v_84, none]) x_bl s_97 (fun _ _ h => PX.mono (e_4.trans (e_12.trans (e_60.trans (e_80.trans e_96)))) fr_74 h) hm fun a_102 v_103 I_104 H_105 e_106 s_107 r_108 hm => ?_
          exact hm v_103 I_104 H_105 (e_4.trans (e_12.trans (e_60.trans (e_80.trans (e_96.trans e_106))))) (St.less s_107 fr_74) (Im.im r_108)
        · exact hm _ _ _ _ e_100 s_101 ⟨some v_84, rfl, fr_74⟩
      subst hs_115
      refine q_ret (E := E) (K := K) (σ := [some v_wishes, some v_desks, some v_plan, w_64, w_116, none]) x_bl s_113 (fun _ _ h => PX.mono (e_4.trans (e_12.trans (e_60.trans e_112))) fr_119 h) hm fun a_120 v_121 I_122 H_123 e_124 s_125 r_126 hm => ?_
      exact hm v_121 I_122 H_123 (e_4.trans (e_12.trans (e_60.trans (e_112.trans e_124)))) (St.less s_125 fr_119) (Im.im r_126)
def m_inside (a_wishes : (List (Int × Int))) (a_start : Int) (a_end : Int) : Res Int :=
  ((un rLen ((Res.ok a_wishes).bind (filR (fun (x_1 : (Int × Int)) => (andR (bin rLe (Res.ok a_start) (un (fun p => Res.ok p.1) (Res.ok x_1))) (bin rLe (un (fun p => Res.ok p.2) (Res.ok x_1)) (Res.ok a_end)))) (fun (x_1 : (Int × Int)) => (Res.ok x_1))))).bind fun a_8 => Res.ok a_8)
abbrev N_inside : List Str := ["wishes", "start", "end", "wish"]
theorem sc_inside : FnScope N_inside ["wishes", "start", "end"] (defScope s_inside) := ⟨rfl, rfl, rfl, by decide +kernel, rfl, by decide +kernel, by decide +kernel⟩
theorem bind_inside {K : PySem.W.Frag} {mg : Str → Option Value} {T : Tx K mg} : Binds K T.d_inside ["wishes", "start", "end"] [] := FunD.bindsN T.F_inside fun _ _ _ _ _ _ us hl => match us, hl with | [_, _, _], _ => rfl
abbrev sp_inside (K : PySem.W.Frag) : Sp := spP K (tc (pL (pT (tc pI (t1 pI)))) (tc pI (t1 pI))) (fun (p : ((List (Int × Int)) × Int × Int)) => m_inside p.1 p.2.1 p.2.2) pI
theorem ok_inside (T : Tx K mg) : FnOk P w K mg base (L2.CX P w) 1 T.f_inside T.d_inside ["wishes", "start", "end"] (sp_inside K) := by
  refine T.F_inside.ok sc_inside (fun vs H Q E h => ?_) (fun cdv A outer s H vs Q E hr h => ?_)
  · obtain ⟨I, C, a, _, hr, _⟩ := h
    exact Rt.len _ hr
  · obtain ⟨I0, C0, ⟨a_wishes, a_start, a_end⟩, hs, ⟨v_wishes, us0, rfl, r_wishes, v_start, us1, rfl, r_start, v_end, rfl, r_end⟩, hm⟩ := h
    have hm : Post (m_inside a_wishes a_start a_end) (PQ pI I0 C0 Q) (PX E K I0 C0) := hm
    replace r_wishes : Rp.r (pL (pT (tc pI (t1 pI)))) a_wishes v_wishes I0 Z := Im.im r_wishes
    replace r_start : Rp.r pI a_start v_start I0 Z := Im.im r_start
    replace r_end : Rp.r pI a_end v_end I0 Z := Im.im r_end
    unfold m_inside at hm
    refine ⟨_, (pss_cons (ps_ret (pe_callB (r := rLen1 K) call_len_seq (by rfl) T.gb_len bt_len (pa_cons (pe_lc (own := [("wish", 3)]) rfl sc_inside.nd (show PI _ _ _ (iList K _) from pi_list (pv 0)) (blkOk_by (own := [("wish", 3)]) (N := N_inside) (sc := defScope s_inside) (by decide +kernel)) (fun _ _ _ _ _ => (pg_name (i := 3) sc_inside.nd rfl (Or.inl rfl))) (fun _ _ _ _ _ => (pts_one (PW.pt (pw_and (pt_cmpR op_le (pv 1) (pe_ix (r := rIxT K) ix_tup (pv 3) pe_int (fun _ _ => rfl)) (nomark _)) (pw_and1 (pt_cmpR op_le (pe_ix (r := rIxT K) ix_tup (pv 3) pe_int (fun _ _ => rfl)) (pv 2) (nomark _))))))) (fun _ _ _ _ _ => (pv 3))) pa_nil))) pss_nil), ?_⟩
    refine q_ret (E := E) (K := K) (σ := [some v_wishes, some v_start, some v_end, none]) (x_cb o_len (a_one (x_v (x_lcg (i_list (x_var (i := 0) rfl (Rp.mono _ (Ex.refl _) exz r_wishes))) g1 (fun _ _ _ _ ⟨_, h, _⟩ => by rw [h]; rfl) (fun x_1 σ2 I_2 C_3 e_4 c_5 ⟨v_6, h, r_7⟩ => by subst h; exact (t_and (t_test (x_op o_le (x_var (i := 1) rfl (Rp.mono _ e_4 exz r_start)) (x_k (k := ((0 : Nat) : Int)) (o_pj pj0) (x_var (i := 3) rfl (Rp.mono _ (Ex.refl _) exz r_7))))) (t_test (x_op o_le (x_k (k := ((1 : Nat) : Int)) (o_pj (pjs pj1)) (x_var (i := 3) rfl (Rp.mono _ (Ex.refl _) exz r_7))) (x_var (i := 2) rfl (Rp.mono _ e_4 exz r_end)))))) (fun x_1 σ2 I_2 C_3 e_4 c_5 ⟨v_6, h, r_7⟩ => by subst h; exact (x_var (i := 3) rfl (Rp.mono _ (Ex.refl _) exz r_7))) (fun _ _ _ _ _ e ⟨v_6, h, r_7⟩ => ⟨v_6, h, Rp.mono _ e exz r_7⟩))))) hs (fun _ _ h => PX.mono (Ex.refl _) (Ex.refl _) h) hm fun a_8 v_9 I_10 H_11 e_12 s_13 r_14 hm => ?_
    exact hm v_9 I_10 H_11 e_12 (St.less s_13 (Ex.refl _)) (Im.im r_14)
def m_is_crowd (a_wishes : (List (Int × Int))) (a_desks : Int) (a_start : Int) (a_end : Int) : Res Bool :=
  ((un m_check_wishes (Res.ok a_wishes)).bind fun (b_1 : Unit) => ((andR (bin rLt (Res.ok a_start) (Res.ok a_end)) (bin rGt (un (fun (p : ((List (Int × Int)) × Int × Int)) => m_inside p.1 p.2.1 p.2.2) (pair (Res.ok a_wishes) (pair (Res.ok a_start) (Res.ok a_end)))) (bin rMul (Res.ok a_desks) (bin rSub (Res.ok a_end) (Res.ok a_start))))).bind fun a_6 => Res.ok a_6))
abbrev N_is_crowd : List Str := ["wishes", "desks", "start", "end"]
theorem sc_is_crowd : FnScope N_is_crowd ["wishes", "desks", "start", "end"] (defScope s_is_crowd) := ⟨rfl, rfl, rfl, by decide +kernel, rfl, by decide +kernel, by decide +kernel⟩
theorem bind_is_crowd {K : PySem.W.Frag} {mg : Str → Option Value} {T : Tx K mg} : Binds K T.d_is_crowd ["wishes", "desks", "start", "end"] [] := FunD.bindsN T.F_is_crowd fun _ _ _ _ _ _ us hl => match us, hl with | [_, _, _, _], _ => rfl
abbrev sp_is_crowd (K : PySem.W.Frag) : Sp := spP K (tc (pL (pT (tc pI (t1 pI)))) (tc pI (tc pI (t1 pI)))) (fun (p : ((List (Int × Int)) × Int × Int × Int)) => m_is_crowd p.1 p.2.1 p.2.2.1 p.2.2.2) pB
theorem ok_is_crowd (T : Tx K mg) : FnOk P w K mg base (L2.CX P w) 4 T.f_is_crowd T.d_is_crowd ["wishes", "desks", "start", "end"] (sp_is_crowd K) := by
  refine T.F_is_crowd.ok sc_is_crowd (fun vs H Q E h => ?_) (fun cdv A outer s H vs Q E hr h => ?_)
  · obtain ⟨I, C, a, _, hr, _⟩ := h
    exact Rt.len _ hr
  · obtain ⟨I0, C0, ⟨a_wishes, a_desks, a_start, a_end⟩, hs, ⟨v_wishes, us0, rfl, r_wishes, v_desks, us1, rfl, r_desks, v_start, us2, rfl, r_start, v_end, rfl, r_end⟩, hm⟩ := h
    have hm : Post (m_is_crowd a_wishes a_desks a_start a_end) (PQ pB I0 C0 Q) (PX E K I0 C0) := hm
    replace r_wishes : Rp.r (pL (pT (tc pI (t1 pI)))) a_wishes v_wishes I0 Z := Im.im r_wishes
    replace r_desks : Rp.r pI a_desks v_desks I0 Z := Im.im r_desks
    replace r_start : Rp.r pI a_start v_start I0 Z := Im.im r_start
    replace r_end : Rp.r pI a_end v_end I0 Z := Im.im r_end
    unfold m_is_crowd at hm
    refine ⟨_, (pss_cons (ps_expr (pe_call (ok_check_wishes T) (hr.mono (by decide)) rfl T.g_check_wishes T.F_check_wishes.kp bind_check_wishes .nil passE (pa_cons (pv 0) pa_nil))) (pss_cons (ps_ret (pe_and (pe_cmpR op_lt (pv 2) (pv 3) (nomark _)) (pe_one (pe_cmpR op_gt (pe_call (ok_inside T) (hr.mono (by decide)) rfl T.g_inside T.F_inside.kp bind_inside .nil passE (pa_cons (pv 0) (pa_cons (pv 2) (pa_cons (pv 3) pa_nil)))) (pe_op op_mul (pv 1) (pe_op op_sub (pv 3) (pv 2))) (nomark _))))) pss_nil)), ?_⟩
    refine s_expr (E := E) (K := K) (σ := [some v_wishes, some v_desks, some v_start, some v_end]) (x_call (a_one (x_var (i := 0) rfl (Rp.mono _ (Ex.refl _) exz r_wishes)))) hs (fun _ _ h => PX.mono (Ex.refl _) (Ex.refl _) h) hm fun b_1 I_2 H_3 e_4 s_5 hm => ?_
    refine q_ret (E := E) (K := K) (σ := [some v_wishes, some v_desks, some v_start, some v_end]) (x_andV (x_op o_lt (x_var (i := 2) rfl (Rp.mono _ e_4 exz r_start)) (x_var (i := 3) rfl (Rp.mono _ e_4 exz r_end))) (x_op o_gt (x_call (a_cons (x_var (i := 0) rfl (Rp.mono _ e_4 exz r_wishes)) (a_cons (x_var (i := 2) rfl (Rp.mono _ e_4 exz r_start)) (a_one (x_var (i := 3) rfl (Rp.mono _ e_4 exz r_end)))))) (x_op o_mul (x_var (i := 1) rfl (Rp.mono _ e_4 exz r_desks)) (x_op o_sub (x_var (i := 3) rfl (Rp.mono _ e_4 exz r_end)) (x_var (i := 2) rfl (Rp.mono _ e_4 exz r_start)))))) s_5 (fun _ _ h => PX.mono e_4 (Ex.refl _) h) hm fun a_6 v_7 I_8 H_9 e_10 s_11 r_12 hm => ?_
    exact hm v_7 I_8 H_9 (e_4.trans e_10) (St.less s_11 (Ex.refl _)) (Im.im r_12)
def m_earliest_plan (a_wishes : (List (Int × Int))) (a_desks : Int) : Res (List Int) :=
  (((Res.ok a_wishes).bind (mapR (fun (x_1 : (Int × Int)) => (un rNeg (Res.ok (1 : Int)))))).bind fun (plan_8 : (List Int)) => (((un rng1 (Res.ok (60 : Int))).bind fun xs => loopN (fun (x_37 : Int) (z_23 : (List Int)) => ((Res.ok ([] : List (Int × Int))).bind fun (waiting_49 : (List (Int × Int))) => (((un enumR (Res.ok a_wishes)).bind fun xs => loopN (fun (x_78 : (Int × (Int × Int))) (z_66 : (List (Int × Int))) => (ifR (andR (bin rLt (bin ix (Res.ok z_23) (Res.ok x_78.1)) (Res.ok (0 : Int))) (andR (bin rLe (un (fun p => Res.ok p.1) (Res.ok x_78.2)) (Res.ok x_37)) (bin rLt (Res.ok x_37) (un (fun p => Res.ok p.2) (Res.ok x_78.2))))) (((pair (un (fun p => Res.ok p.2) (Res.ok x_78.2)) (Res.ok x_78.1)).bind fun x => push z_66 x).bind fun (waiting_100 : (List (Int × Int))) => (Res.ok waiting_100)) (Res.ok z_66))) xs waiting_49).bind fun (z_118 : (List (Int × Int))) => (((slR (un sortP (Res.ok z_118)) (Res.ok none) (someR (Res.ok a_desks))).bind fun xs => loopN (fun (x_150 : (Int × Int)) (z_140 : (List Int)) => (((Res.ok x_37).bind fun x => (un (fun p => Res.ok p.2) (Res.ok x_150)).bind fun j => setR z_140 j x).bind fun (plan_162 : (List Int)) => (Res.ok plan_162))) xs z_23).bind fun (z_179 : (List Int)) => (Res.ok z_179))))) xs plan_8).bind fun (z_194 : (List Int)) => (Res.ok z_194)))
abbrev N_earliest_plan : List Str := ["wishes", "desks", "plan", "minute", "waiting", "k", "wish", "pair", "_"]
theorem sc_earliest_plan : FnScope N_earliest_plan ["wishes", "desks"] (defScope s_earliest_plan) := ⟨rfl, rfl, rfl, by decide +kernel, rfl, by decide +kernel, by decide +kernel⟩
theorem bind_earliest_plan {K : PySem.W.Frag} {mg : Str → Option Value} {T : Tx K mg} : Binds K T.d_earliest_plan ["wishes", "desks"] [] := FunD.bindsN T.F_earliest_plan fun _ _ _ _ _ _ us hl => match us, hl with | [_, _], _ => rfl
abbrev sp_earliest_plan (K : PySem.W.Frag) : Sp := spO K (tc (pL (pT (tc pI (t1 pI)))) (t1 pI)) (fun (p : ((List (Int × Int)) × Int)) => m_earliest_plan p.1 p.2) pI
theorem ok_earliest_plan (T : Tx K mg) : FnOk P w K mg base (L2.CX P w) 1 T.f_earliest_plan T.d_earliest_plan ["wishes", "desks"] (sp_earliest_plan K) := by
  refine T.F_earliest_plan.ok sc_earliest_plan (fun vs H Q E h => ?_) (fun cdv A outer s H vs Q E hr h => ?_)
  · obtain ⟨I, C, a, _, hr, _⟩ := h
    exact Rt.len _ hr
  · obtain ⟨I0, C0, ⟨a_wishes, a_desks⟩, hs, ⟨v_wishes, us0, rfl, r_wishes, v_desks, rfl, r_desks⟩, hm⟩ := h
    have hm : Post (m_earliest_plan a_wishes a_desks) (PN pI I0 C0 Q) (PX E K I0 C0) := hm
    replace r_wishes : Rp.r (pL (pT (tc pI (t1 pI)))) a_wishes v_wishes I0 Z := Im.im r_wishes
    replace r_desks : Rp.r pI a_desks v_desks I0 Z := Im.im r_desks
    unfold m_earliest_plan at hm
    refine ⟨_, (pss_cons (ps_setLc (i := 2) (own := [("_", 8)]) rfl sc_earliest_plan.nd rfl rfl (sw_true rfl rfl rfl (by decide +kernel)) (show PI _ _ _ (iList K _) from pi_list (pv 0)) (blkOk_by (own := [("_", 8)]) (N := N_earliest_plan) (sc := defScope s_earliest_plan) (by decide +kernel)) (fun _ _ _ _ _ => (pg_name (i := 8) sc_earliest_plan.nd rfl (Or.inl rfl))) (fun _ _ _ _ _ => pts_nil) (fun _ _ _ _ _ => (pe_un un_neg pe_int))) (pss_cons (ps_for (passes_of rfl) rfl (pi_range1 (by rfl) T.gb_range (pa_cons (pe_glob (v := .int (60)) rfl T.gi_LAST_MINUTE.choose_spec ⟨_, rfl⟩) pa_nil)) (pg_name (i := 3) sc_earliest_plan.nd rfl (Or.inl rfl)) (pss_cons (ps_set (i := 4) sc_earliest_plan.nd rfl (Or.inl rfl) (pe_lst pa_nil)) (pss_cons (ps_for (passes_of rfl) rfl (show PI _ _ _ (iEnum K _) from pi_enum (by rfl) T.gb_enumerate (pa_cons (pv 0) pa_nil)) (show PG _ _ (gTup K 2 _) from pg_tup rfl (pgs_cons (pg_name (i := 5) sc_earliest_plan.nd rfl (Or.inl rfl)) (pgs_cons (pg_name (i := 6) sc_earliest_plan.nd rfl (Or.inl rfl)) pgs_nil))) (pss_cons (ps_if (PW.pt (pw_and (pt_cmpR op_lt (pe_ix (r := rIxL K) ix_list (pv 2) (pv 5) (fun _ _ => rfl)) pe_int (nomark _)) (pw_and (pt_cmpR op_le (pe_ix (r := rIxT K) ix_tup (pv 6) pe_int (fun _ _ => rfl)) (pv 3) (nomark _)) (pw_and1 (pt_cmpR op_lt (pv 3) (pe_ix (r := rIxT K) ix_tup (pv 6) pe_int (fun _ _ => rfl)) (nomark _)))))) (pss_cons (ps_expr (show PE _ _ (tBM K "list" rAppend _ _) from pe_bm PySem.F.plainAttrs_list PySem.F.slot_list_append PySem.F.type_list_append mt_append (pv 4) (pa_cons (pe_tup (pa_cons (pe_ix (r := rIxT K) ix_tup (pv 6) pe_int (fun _ _ => rfl)) (pa_cons (pv 5) pa_nil))) pa_nil))) pss_nil) pss_nil) pss_nil)) (pss_cons (ps_for (passes_of rfl) rfl (show PI _ _ _ (iList K _) from pi_list (pe_slice (r := rSlL K) sl_list (pe_callB (r := rSortedPO K) cr_sortedPO (by rfl) T.gb_sorted bt_sorted (pa_cons (pv 4) pa_nil)) po_none (po_some (pv 1)))) (pg_name (i := 7) sc_earliest_plan.nd rfl (Or.inl rfl)) (pss_cons (ps_asg (pv 3) (pg_sub (pv 2) (pe_ix (r := rIxT K) ix_tup (pv 7) pe_int (fun _ _ => rfl)) set_list)) pss_nil)) pss_nil)))) (pss_cons (ps_ret (pv 2)) pss_nil))), ?_⟩
    refine q_asgN (E := E) (K := K) (σ := [some v_wishes, some v_desks, none, none, none, none, none, none, none]) (i := 2) (n_lc (i_list (x_var (i := 0) rfl (Rp.mono _ (Ex.refl _) exz r_wishes))) g1 (fun _ _ _ _ ⟨_, h, _⟩ => by rw [h]; rfl) (fun x_1 σ2 I_2 C_3 e_4 c_5 ⟨v_6, h, r_7⟩ => by subst h; exact (x_un o_neg (x_int (i := 1)))) (fun _ _ _ _ _ e ⟨v_6, h, r_7⟩ => ⟨v_6, h, Rp.mono _ e exz r_7⟩)) hs (fun _ _ h => PX.mono (Ex.refl _) (Ex.refl _) h) hm fun plan_8 p_9 vs_10 I_11 C_12 H_13 e_14 hp_15 s_16 hc_17 k_18 hl_19 hr_20 hm => ?_
    have hB_21 := Ex.free (Ex.refl _) hp_15
    have fr_22 := fr_keep (Ex.refl _) hB_21 k_18
    refine s_forN (E := E) (K := K) (σ := [some v_wishes, some v_desks, some (.ref p_9), none, none, none, none, none, none]) (fun (z_23 : (List Int)) σ2 I_30 C_31 => ∃ w_25 : Option V, ∃ w_26 : Option V, ∃ w_27 : Option V, ∃ w_28 : Option V, ∃ w_29 : Option V, σ2 = [some v_wishes, some v_desks, some (.ref p_9), w_25, w_26, w_27, w_28, w_29, none] ∧ (∃ vs_32 : List V, C_31 p_9 = some (.lst vs_32) ∧ vs_32.length ≤ sizeLine ∧ A2 (fun x u => Rp.r pI x u I_30 Z) z_23 vs_32) ∧ Ex C0 C_31) (i_rng1 (a_one (x_int (i := 60)))) s_16 (fun _ _ h => PX.mono e_14 fr_22 h) hm (fun _ e_45 => ⟨none, none, none, none, none, rfl, ⟨_, hc_17, hl_19, a2up (Ex.trans (Ex.refl _) e_45) hr_20⟩, fr_22⟩) (fun _ _ _ _ _ => trivial) (fun _ _ _ _ _ e ⟨w_25, w_26, w_27, w_28, w_29, hs_24, ⟨vs_32, hc_33, hl_34, hr_35⟩, fr_36⟩ => ⟨w_25, w_26, w_27, w_28, w_29, hs_24, ⟨vs_32, hc_33, hl_34, a2up e hr_35⟩, fr_36⟩) (fun N x_37 v_38 z_23 σ2 I_39 C_40 H_41 e_42 s_43 ⟨w_25, w_26, w_27, w_28, w_29, hs_24, ⟨vs_32, hc_33, hl_34, hr_35⟩, fr_36⟩ r_44 hm => ?_) (fun z_194 σ2 I_189 C_190 H_191 e_192 s_193 ⟨w_196, w_197, w_198, w_199, w_200, hs_195, ⟨vs_203, hc_204, hl_205, hr_206⟩, fr_207⟩ hm => ?_)
    · subst hs_24
      refine g1 (K := K) x_37 v_38 I_39 C_40 H_41 _ s_43 r_44 fun σ2 ⟨v_46, hs_48, r_47⟩ => ?_
      subst hs_48
      refine q_asgN (E := E) (K := K) (σ := [some v_wishes, some v_desks, some (.ref p_9), some v_46, w_26, w_27, w_28, w_29, none]) (i := 4) (n_lst (R := (pT (tc pI (t1 pI)))) al_nil (by decide)) s_43 (fun _ _ h => PX.mono (e_14.trans e_42) fr_36 h) hm fun waiting_49 p_50 vs_51 I_52 C_53 H_54 e_55 hp_56 s_57 hc_58 k_59 hl_60 hr_61 hm => ?_
      have ne_62 := ne_new hc_33 hp_56
      have hB_63 := Ex.free fr_36 hp_56
      have hc_64 := (k_59 _ ne_62).trans hc_33
      have fr_65 := fr_keep fr_36 hB_63 k_59
      refine s_forN (E := E) (K := K) (σ := [some v_wishes, some v_desks, some (.ref p_9), some v_46, some (.ref p_50), w_27, w_28, w_29, none]) (fun (z_66 : (List (Int × Int))) σ2 I_70 C_71 => ∃ w_68 : Option V, ∃ w_69 : Option V, σ2 = [some v_wishes, some v_desks, some (.ref p_9), some v_46, some (.ref p_50), w_68, w_69, w_29, none] ∧ (∃ vs_72 : List V, C_71 p_50 = some (.lst vs_72) ∧ vs_72.length ≤ sizeLine ∧ A2 (fun x u => Rp.r (pT (tc pI (t1 pI))) x u I_70 Z) z_66 vs_72) ∧ C_71 p_9 = some (.lst vs_32) ∧ Ex C0 C_71) (i_enum (a_one (x_var (i := 0) rfl (Rp.mono _ (e_14.trans (e_42.trans e_55)) exz r_wishes)))) s_57 (fun _ _ h => PX.mono (e_14.trans (e_42.trans e_55)) fr_65 h) hm (fun _ e_86 => ⟨w_27, w_28, rfl, ⟨_, hc_58, hl_60, a2up (Ex.trans (Ex.refl _) e_86) hr_61⟩, hc_64, fr_65⟩) (fun _ _ _ _ _ => trivial) (fun _ _ _ _ _ e ⟨w_68, w_69, hs_67, ⟨vs_72, hc_73, hl_74, hr_75⟩, hc_76, fr_77⟩ => ⟨w_68, w_69, hs_67, ⟨vs_72, hc_73, hl_74, a2up e hr_75⟩, hc_76, fr_77⟩) (fun N x_78 v_79 z_66 σ2 I_80 C_81 H_82 e_83 s_84 ⟨w_68, w_69, hs_67, ⟨vs_72, hc_73, hl_74, hr_75⟩, hc_76, fr_77⟩ r_85 hm => ?_) (fun z_118 σ2 I_113 C_114 H_115 e_116 s_117 ⟨w_120, w_121, hs_119, ⟨vs_124, hc_125, hl_126, hr_127⟩, hc_128, fr_129⟩ hm => ?_)
      · subst hs_67
        refine g2 (K := K) x_78 v_79 I_80 C_81 H_82 _ s_84 r_85 fun σ2 ⟨v_87, v_88, hs_91, r_89, r_90⟩ => ?_
        subst hs_91
        refine s_if (E := E) (K := K) (σ := [some v_wishes, some v_desks, some (.ref p_9), some v_46, some (.ref p_50), some v_87, some v_88, w_29, none]) (t_and (t_test (x_op o_lt (x_op o_ix (x_cell (i := 2) rfl hc_76 hl_34 (a2up (e_55.trans e_83) hr_35)) (x_var (i := 5) rfl (Rp.mono _ (Ex.refl _) exz r_89))) (x_int (i := 0)))) (t_and (t_test (x_op o_le (x_k (k := ((0 : Nat) : Int)) (o_pj pj0) (x_var (i := 6) rfl (Rp.mono _ (Ex.refl _) exz r_90))) (x_var (i := 3) rfl (Rp.mono _ (e_55.trans e_83) exz r_47)))) (t_test (x_op o_lt (x_var (i := 3) rfl (Rp.mono _ (e_55.trans e_83) exz r_47)) (x_k (k := ((1 : Nat) : Int)) (o_pj (pjs pj1)) (x_var (i := 6) rfl (Rp.mono _ (Ex.refl _) exz r_90))))))) s_84 (fun _ _ h => PX.mono (e_14.trans (e_42.trans (e_55.trans e_83))) fr_77 h) hm (fun I_92 H_93 e_94 s_95 hm => ?_) (fun I_96 H_97 e_98 s_99 hm => ?_)
        · refine q_app (E := E) (K := K) (σ := [some v_wishes, some v_desks, some (.ref p_9), some v_46, some (.ref p_50), some v_87, some v_88, w_29, none]) (i := 4) rfl hc_73 (a2up e_94 hr_75) (x_tup (a_cons (x_k (k := ((1 : Nat) : Int)) (o_pj (pjs pj1)) (x_var (i := 6) rfl (Rp.mono _ e_94 exz r_90))) (a_one (x_var (i := 5) rfl (Rp.mono _ e_94 exz r_89)))) (Nat.le_of_ble_eq_true rfl)) s_95 (fun _ _ h => PX.mono (e_14.trans (e_42.trans (e_55.trans (e_83.trans e_94)))) fr_77 h) hm fun waiting_100 vs_101 I_102 C_103 H_104 e_105 s_106 hc_107 k_108 hl_109 hr_110 hm => ?_
          have hc_111 := (k_108 _ ne_62).trans hc_76
          have fr_112 := fr_keep fr_77 hB_63 k_108
          exact hm _ _ _ _ (e_94.trans e_105) s_106 ⟨some v_87, some v_88, rfl, ⟨_, hc_107, hl_109, a2up (Ex.refl _) hr_110⟩, hc_111, fr_112⟩
        · exact hm _ _ _ _ e_98 s_99 ⟨some v_87, some v_88, rfl, ⟨_, hc_73, hl_74, a2up e_98 hr_75⟩, hc_76, fr_77⟩
      subst hs_119
      obtain ⟨I_130, C_131, e_132, s_133, h_134, k_135⟩ := freeze s_117 hc_125
      have r_137 := frz_list e_132 h_134 hl_126 hr_127
      have hc_138 := (k_135 _ ne_62).trans hc_128
      have fr_139 := fr_keep fr_129 hB_63 k_135
      refine s_forN (E := E) (K := K) (σ := [some v_wishes, some v_desks, some (.ref p_9), some v_46, some (.ref p_50), w_120, w_121, w_29, none]) (fun (z_140 : (List Int)) σ2 I_143 C_144 => ∃ w_142 : Option V, σ2 = [some v_wishes, some v_desks, some (.ref p_9), some v_46, some (.ref p_50), w_120, w_121, w_142, none] ∧ (∃ vs_145 : List V, C_144 p_9 = some (.lst vs_145) ∧ vs_145.length ≤ sizeLine ∧ A2 (fun x u => Rp.r pI x u I_143 Z) z_140 vs_145) ∧ Ex C0 C_144) (i_list (x_sl (x_v (x_own (n_cb n_sortP (a_one (x_v (x_var (i := 4) rfl (Rp.mono _ (Ex.refl _) exz r_137))))))) p_none (p_some (x_var (i := 1) rfl (Rp.mono _ (e_14.trans (e_42.trans (e_55.trans (e_116.trans e_132)))) exz r_desks))))) s_133 (fun _ _ h => PX.mono (e_14.trans (e_42.trans (e_55.trans (e_116.trans e_132)))) fr_139 h) hm (fun _ e_158 => ⟨w_29, rfl, ⟨_, hc_138, hl_34, a2up (Ex.trans (e_55.trans (e_116.trans e_132)) e_158) hr_35⟩, fr_139⟩) (fun _ _ _ _ _ => trivial) (fun _ _ _ _ _ e ⟨w_142, hs_141, ⟨vs_145, hc_146, hl_147, hr_148⟩, fr_149⟩ => ⟨w_142, hs_141, ⟨vs_145, hc_146, hl_147, a2up e hr_148⟩, fr_149⟩) (fun N x_150 v_151 z_140 σ2 I_152 C_153 H_154 e_155 s_156 ⟨w_142, hs_141, ⟨vs_145, hc_146, hl_147, hr_148⟩, fr_149⟩ r_157 hm => ?_) (fun z_179 σ2 I_174 C_175 H_176 e_177 s_178 ⟨w_181, hs_180, ⟨vs_184, hc_185, hl_186, hr_187⟩, fr_188⟩ hm => ?_)
      · subst hs_141
        refine g1 (K := K) x_150 v_151 I_152 C_153 H_154 _ s_156 r_157 fun σ2 ⟨v_159, hs_161, r_160⟩ => ?_
        subst hs_161
        refine q_setL (E := E) (K := K) (σ := [some v_wishes, some v_desks, some (.ref p_9), some v_46, some (.ref p_50), w_120, w_121, some v_159, none]) (i := 2) rfl hc_146 hl_147 (a2up (Ex.refl _) hr_148) (x_var (i := 3) rfl (Rp.mono _ (e_55.trans (e_116.trans (e_132.trans e_155))) exz r_47)) (x_k (k := ((1 : Nat) : Int)) (o_pj (pjs pj1)) (x_var (i := 7) rfl (Rp.mono _ (Ex.refl _) exz r_160))) s_156 (fun _ _ h => PX.mono (e_14.trans (e_42.trans (e_55.trans (e_116.trans (e_132.trans e_155))))) fr_149 h) hm fun plan_162 vs_163 I_164 C_165 H_166 e_167 s_168 hc_169 k_170 hl_171 hr_172 hm => ?_
        have fr_173 := fr_keep fr_149 hB_21 k_170
        exact hm _ _ _ _ e_167 s_168 ⟨some v_159, rfl, ⟨_, hc_169, hl_171, a2up (Ex.refl _) hr_172⟩, fr_173⟩
      subst hs_180
      exact hm _ _ _ _ (e_55.trans (e_116.trans (e_132.trans e_177))) s_178 ⟨some v_46, some (.ref p_50), w_120, w_121, w_181, rfl, ⟨_, hc_185, hl_186, a2up (Ex.refl _) hr_187⟩, fr_188⟩
    subst hs_195
    refine q_retO (i := 2) rfl s_193 fr_207 hB_21 hc_204 hl_205 (a2up (Ex.refl _) hr_206) fun s hr => ?_
    exact hm _ _ _ _ (e_14.trans e_192) hB_21 s hl_205 hr
def m_first_crowd (a_wishes : (List (Int × Int))) (a_desks : Int) : Res (Option (Int × Int)) :=
  (((un rng1 (Res.ok (60 : Int))).bind fun xs => loopR (fun (x_8 : Int) (z_1 : Unit) => (((un rng2 (pair (bin rAdd (Res.ok x_8) (Res.ok (1 : Int))) (bin rAdd (Res.ok (60 : Int)) (Res.ok (1 : Int))))).bind fun xs => loopR (fun (x_26 : Int) (z_20 : Unit) => (ifR (bin rGt (un (fun (p : ((List (Int × Int)) × Int × Int)) => m_inside p.1 p.2.1 p.2.2) (pair (Res.ok a_wishes) (pair (Res.ok x_8) (Res.ok x_26)))) (bin rMul (Res.ok a_desks) (bin rSub (Res.ok x_26) (Res.ok x_8)))) ((un someR' (pair (Res.ok x_8) (Res.ok x_26))).bind fun a_46 => Res.ok (Out.rt a_46)) (Res.ok (Out.nx ())))) xs ()).bind fun (o : Out Unit (Option (Int × Int))) => match o with | .nx z_58 => (Res.ok (Out.nx ())) | .br _ => Res.bad | .rt r => Res.ok (Out.rt r))) xs ()).bind fun (o : Out Unit (Option (Int × Int))) => match o with | .nx z_69 => ((Res.ok none).bind fun a_76 => Res.ok a_76) | .br _ => Res.bad | .rt r => Res.ok r)
abbrev N_first_crowd : List Str := ["wishes", "desks", "start", "end"]
theorem sc_first_crowd : FnScope N_first_crowd ["wishes", "desks"] (defScope s_first_crowd) := ⟨rfl, rfl, rfl, by decide +kernel, rfl, by decide +kernel, by decide +kernel⟩
theorem bind_first_crowd {K : PySem.W.Frag} {mg : Str → Option Value} {T : Tx K mg} : Binds K T.d_first_crowd ["wishes", "desks"] [] := FunD.bindsN T.F_first_crowd fun _ _ _ _ _ _ us hl => match us, hl with | [_, _], _ => rfl
abbrev sp_first_crowd (K : PySem.W.Frag) : Sp := spP K (tc (pL (pT (tc pI (t1 pI)))) (t1 pI)) (fun (p : ((List (Int × Int)) × Int)) => m_first_crowd p.1 p.2) (pO (pT (tc pI (t1 pI))))
theorem ok_first_crowd (T : Tx K mg) : FnOk P w K mg base (L2.CX P w) 2 T.f_first_crowd T.d_first_crowd ["wishes", "desks"] (sp_first_crowd K) := by
  refine T.F_first_crowd.ok sc_first_crowd (fun vs H Q E h => ?_) (fun cdv A outer s H vs Q E hr h => ?_)
  · obtain ⟨I, C, a, _, hr, _⟩ := h
    exact Rt.len _ hr
  · obtain ⟨I0, C0, ⟨a_wishes, a_desks⟩, hs, ⟨v_wishes, us0, rfl, r_wishes, v_desks, rfl, r_desks⟩, hm⟩ := h
    have hm : Post (m_first_crowd a_wishes a_desks) (PQ (pO (pT (tc pI (t1 pI)))) I0 C0 Q) (PX E K I0 C0) := hm
    replace r_wishes : Rp.r (pL (pT (tc pI (t1 pI)))) a_wishes v_wishes I0 Z := Im.im r_wishes
    replace r_desks : Rp.r pI a_desks v_desks I0 Z := Im.im r_desks
    unfold m_first_crowd at hm
    refine ⟨_, (pss_cons (ps_for (passes_of rfl) rfl (pi_range1 (by rfl) T.gb_range (pa_cons (pe_glob (v := .int (60)) rfl T.gi_LAST_MINUTE.choose_spec ⟨_, rfl⟩) pa_nil)) (pg_name (i := 2) sc_first_crowd.nd rfl (Or.inl rfl)) (pss_cons (ps_for (passes_of rfl) rfl (pi_range2 (by rfl) T.gb_range (pa_cons (pe_op op_add (pv 2) pe_int) (pa_cons (pe_op op_add (pe_glob (v := .int (60)) rfl T.gi_LAST_MINUTE.choose_spec ⟨_, rfl⟩) pe_int) pa_nil))) (pg_name (i := 3) sc_first_crowd.nd rfl (Or.inl rfl)) (pss_cons (ps_if (pt_cmpR op_gt (pe_call (ok_inside T) (hr.mono (by decide)) rfl T.g_inside T.F_inside.kp bind_inside .nil passE (pa_cons (pv 0) (pa_cons (pv 2) (pa_cons (pv 3) pa_nil)))) (pe_op op_mul (pv 1) (pe_op op_sub (pv 3) (pv 2))) (nomark _)) (pss_cons (ps_ret (pe_tup (pa_cons (pv 2) (pa_cons (pv 3) pa_nil)))) pss_nil) pss_nil) pss_nil)) pss_nil)) (pss_cons (ps_ret pe_non) pss_nil)), ?_⟩
    refine s_forR (E := E) (K := K) (σ := [some v_wishes, some v_desks, none, none]) (fun (z_1 : Unit) σ2 I_5 C_6 => ∃ w_3 : Option V, ∃ w_4 : Option V, σ2 = [some v_wishes, some v_desks, w_3, w_4] ∧ Ex C0 C_6) (i_rng1 (a_one (x_int (i := 60)))) hs (fun _ _ h => PX.mono (Ex.refl _) (Ex.refl _) h) hm (fun _ e_16 => ⟨none, none, rfl, (Ex.refl _)⟩) (fun _ _ _ _ _ => trivial) (fun _ _ _ _ _ e ⟨w_3, w_4, hs_2, fr_7⟩ => ⟨w_3, w_4, hs_2, fr_7⟩) (fun N x_8 v_9 z_1 σ2 I_10 C_11 H_12 e_13 s_14 ⟨w_3, w_4, hs_2, fr_7⟩ r_15 hm => ?_) (fun z_69 σ2 I_64 C_65 H_66 e_67 s_68 ⟨w_71, w_72, hs_70, fr_75⟩ hm => ?_)
    · subst hs_2
      refine g1 (K := K) x_8 v_9 I_10 C_11 H_12 _ s_14 r_15 fun σ2 ⟨v_17, hs_19, r_18⟩ => ?_
      subst hs_19
      refine s_forR (E := E) (K := K) (σ := [some v_wishes, some v_desks, some v_17, w_4]) (fun (z_20 : Unit) σ2 I_23 C_24 => ∃ w_22 : Option V, σ2 = [some v_wishes, some v_desks, some v_17, w_22] ∧ Ex C0 C_24) (i_rng2 (a_cons (x_op o_add (x_var (i := 2) rfl (Rp.mono _ (Ex.refl _) exz r_18)) (x_int (i := 1))) (a_one (x_op o_add (x_int (i := 60)) (x_int (i := 1)))))) s_14 (fun _ _ h => PX.mono e_13 fr_7 h) hm (fun _ e_34 => ⟨w_4, rfl, fr_7⟩) (fun _ _ _ _ _ => trivial) (fun _ _ _ _ _ e ⟨w_22, hs_21, fr_25⟩ => ⟨w_22, hs_21, fr_25⟩) (fun N x_26 v_27 z_20 σ2 I_28 C_29 H_30 e_31 s_32 ⟨w_22, hs_21, fr_25⟩ r_33 hm => ?_) (fun z_58 σ2 I_53 C_54 H_55 e_56 s_57 ⟨w_60, hs_59, fr_63⟩ hm => ?_)
      · subst hs_21
        refine g1 (K := K) x_26 v_27 I_28 C_29 H_30 _ s_32 r_33 fun σ2 ⟨v_35, hs_37, r_36⟩ => ?_
        subst hs_37
        refine s_if (E := E) (K := K) (σ := [some v_wishes, some v_desks, some v_17, some v_35]) (t_test (x_op o_gt (x_call (a_cons (x_var (i := 0) rfl (Rp.mono _ (e_13.trans e_31) exz r_wishes)) (a_cons (x_var (i := 2) rfl (Rp.mono _ e_31 exz r_18)) (a_one (x_var (i := 3) rfl (Rp.mono _ (Ex.refl _) exz r_36)))))) (x_op o_mul (x_var (i := 1) rfl (Rp.mono _ (e_13.trans e_31) exz r_desks)) (x_op o_sub (x_var (i := 3) rfl (Rp.mono _ (Ex.refl _) exz r_36)) (x_var (i := 2) rfl (Rp.mono _ e_31 exz r_18)))))) s_32 (fun _ _ h => PX.mono (e_13.trans e_31) fr_25 h) hm (fun I_38 H_39 e_40 s_41 hm => ?_) (fun I_42 H_43 e_44 s_45 hm => ?_)
        · refine q_ret (E := E) (K := K) (σ := [some v_wishes, some v_desks, some v_17, some v_35]) (x_some (x_tup (a_cons (x_var (i := 2) rfl (Rp.mono _ (e_31.trans e_40) exz r_18)) (a_one (x_var (i := 3) rfl (Rp.mono _ e_40 exz r_36)))) (Nat.le_of_ble_eq_true rfl))) s_41 (fun _ _ h => PX.mono (e_13.trans (e_31.trans e_40)) fr_25 h) hm fun a_46 v_47 I_48 H_49 e_50 s_51 r_52 hm => ?_
          exact hm v_47 I_48 H_49 (e_13.trans (e_31.trans (e_40.trans e_50))) (St.less s_51 fr_25) (Im.im r_52)
        · exact hm _ _ _ _ e_44 s_45 ⟨some v_35, rfl, fr_25⟩
      subst hs_59
      exact hm _ _ _ _ e_56 s_57 ⟨some v_17, w_60, rfl, fr_63⟩
    subst hs_70
    refine q_ret (E := E) (K := K) (σ := [some v_wishes, some v_desks, w_71, w_72]) (x_none (R := (pT (tc pI (t1 pI))))) s_68 (fun _ _ h => PX.mono e_67 fr_75 h) hm fun a_76 v_77 I_78 H_79 e_80 s_81 r_82 hm => ?_
    exact hm v_77 I_78 H_79 (e_67.trans e_80) (St.less s_81 fr_75) (Im.im r_82)
def m_phone_paper (a_wishes : (List (Int × Int))) (a_desks : Int) : Res (Str × ((List Int) ⊕ (Option (Int × Int)))) :=
  ((un m_check_wishes (Res.ok a_wishes)).bind fun (b_1 : Unit) => ((un (fun (p : ((List (Int × Int)) × Int)) => m_earliest_plan p.1 p.2) (pair (Res.ok a_wishes) (Res.ok a_desks))).bind fun (plan_6 : (List Int)) => (ifR (bin ninR (un rNeg (Res.ok (1 : Int))) (Res.ok plan_6)) ((pair (Res.ok ("plan" : Str)) (un inlR (Res.ok plan_6))).bind fun a_38 => Res.ok a_38) ((pair (Res.ok ("crowd" : Str)) (un inrR (un (fun (p : ((List (Int × Int)) × Int)) => m_first_crowd p.1 p.2) (pair (Res.ok a_wishes) (Res.ok a_desks))))).bind fun a_45 => Res.ok a_45))))
abbrev N_phone_paper : List Str := ["wishes", "desks", "plan"]
theorem sc_phone_paper : FnScope N_phone_paper ["wishes", "desks"] (defScope s_phone_paper) := ⟨rfl, rfl, rfl, by decide +kernel, rfl, by decide +kernel, by decide +kernel⟩
theorem bind_phone_paper {K : PySem.W.Frag} {mg : Str → Option Value} {T : Tx K mg} : Binds K T.d_phone_paper ["wishes", "desks"] [] := FunD.bindsN T.F_phone_paper fun _ _ _ _ _ _ us hl => match us, hl with | [_, _], _ => rfl
abbrev sp_phone_paper (K : PySem.W.Frag) : Sp := spPd K (tc (pL (pT (tc pI (t1 pI)))) (t1 pI)) (fun (p : ((List (Int × Int)) × Int)) => m_phone_paper p.1 p.2) (fun B => (pT (tc pS (t1 (pX (pLn B pI) (pO (pT (tc pI (t1 pI)))))))))
theorem ok_phone_paper (T : Tx K mg) : FnOk P w K mg base (L2.CX P w) 4 T.f_phone_paper T.d_phone_paper ["wishes", "desks"] (sp_phone_paper K) := by
  refine T.F_phone_paper.ok sc_phone_paper (fun vs H Q E h => ?_) (fun cdv A outer s H vs Q E hr h => ?_)
  · obtain ⟨I, C, a, _, hr, _⟩ := h
    exact Rt.len _ hr
  · obtain ⟨I0, C0, ⟨a_wishes, a_desks⟩, hs, ⟨v_wishes, us0, rfl, r_wishes, v_desks, rfl, r_desks⟩, hm⟩ := h
    have hm : Post (m_phone_paper a_wishes a_desks) (PQ (pT (tc pS (t1 (pX (pLn I0 pI) (pO (pT (tc pI (t1 pI)))))))) I0 C0 Q) (PX E K I0 C0) := hm
    replace r_wishes : Rp.r (pL (pT (tc pI (t1 pI)))) a_wishes v_wishes I0 Z := Im.im r_wishes
    replace r_desks : Rp.r pI a_desks v_desks I0 Z := Im.im r_desks
    unfold m_phone_paper at hm
    refine ⟨_, (pss_cons (ps_expr (pe_call (ok_check_wishes T) (hr.mono (by decide)) rfl T.g_check_wishes T.F_check_wishes.kp bind_check_wishes .nil passE (pa_cons (pv 0) pa_nil))) (pss_cons (ps_set (i := 2) sc_phone_paper.nd rfl (Or.inl rfl) (pe_call (ok_earliest_plan T) (hr.mono (by decide)) rfl T.g_earliest_plan T.F_earliest_plan.kp bind_earliest_plan .nil passE (pa_cons (pv 0) (pa_cons (pv 1) pa_nil)))) (pss_cons (ps_if (pt_cmpR (r := rIn K true) op_notIn_seq (pe_un un_neg pe_int) (pv 2) rfl) (pss_cons (ps_ret (pe_tup (pa_cons pe_str (pa_cons (pv 2) pa_nil)))) pss_nil) pss_nil) (pss_cons (ps_ret (pe_tup (pa_cons pe_str (pa_cons (pe_call (ok_first_crowd T) (hr.mono (by decide)) rfl T.g_first_crowd T.F_first_crowd.kp bind_first_crowd .nil passE (pa_cons (pv 0) (pa_cons (pv 1) pa_nil))) pa_nil)))) pss_nil)))), ?_⟩
    refine s_expr (E := E) (K := K) (σ := [some v_wishes, some v_desks, none]) (x_call (a_one (x_var (i := 0) rfl (Rp.mono _ (Ex.refl _) exz r_wishes)))) hs (fun _ _ h => PX.mono (Ex.refl _) (Ex.refl _) h) hm fun b_1 I_2 H_3 e_4 s_5 hm => ?_
    refine q_asgN (E := E) (K := K) (σ := [some v_wishes, some v_desks, none]) (i := 2) (n_call (a_cons (x_var (i := 0) rfl (Rp.mono _ e_4 exz r_wishes)) (a_one (x_var (i := 1) rfl (Rp.mono _ e_4 exz r_desks))))) s_5 (fun _ _ h => PX.mono e_4 (Ex.refl _) h) hm fun plan_6 p_7 vs_8 I_9 C_10 H_11 e_12 hp_13 s_14 hc_15 k_16 hl_17 hr_18 hm => ?_
    have hB_19 := Ex.free (Ex.refl _) hp_13
    have fr_20 := fr_keep (Ex.refl _) hB_19 k_16
    have fi_27 := St.freeI s_14 hc_15
    obtain ⟨I_21, C_22, e_23, s_24, h_25, k_26⟩ := freeze s_14 hc_15
    have r_28 := frz_list e_23 h_25 hl_17 hr_18
    have fr_29 := fr_keep fr_20 hB_19 k_26
    refine s_if (E := E) (K := K) (σ := [some v_wishes, some v_desks, some (.ref p_7)]) (t_test (x_op (o_nin fl_int) (x_un o_neg (x_int (i := 1))) (x_v (x_var (i := 2) rfl (Rp.mono _ (Ex.refl _) exz r_28))))) s_24 (fun _ _ h => PX.mono (e_4.trans (e_12.trans e_23)) fr_29 h) hm (fun I_30 H_31 e_32 s_33 hm => ?_) (fun I_34 H_35 e_36 s_37 hm => ?_)
    · refine q_ret (E := E) (K := K) (σ := [some v_wishes, some v_desks, some (.ref p_7)]) (x_tup (a_cons (x_str (by decide +kernel)) (a_one (x_inl (S1 := (pO (pT (tc pI (t1 pI))))) (x_var (R := (pLn I0 pI)) (i := 2) rfl ⟨(Rp.mono _ e_32 exz r_28), fun a h => by cases h; exact (Ex.free (e_4.trans e_12) fi_27)⟩)))) (Nat.le_of_ble_eq_true rfl)) s_33 (fun _ _ h => PX.mono (e_4.trans (e_12.trans (e_23.trans e_32))) fr_29 h) hm fun a_38 v_39 I_40 H_41 e_42 s_43 r_44 hm => ?_
      exact hm v_39 I_40 H_41 (e_4.trans (e_12.trans (e_23.trans (e_32.trans e_42)))) (St.less s_43 fr_29) (Im.im r_44)
    · refine q_ret (E := E) (K := K) (σ := [some v_wishes, some v_desks, some (.ref p_7)]) (x_tup (a_cons (x_str (by decide +kernel)) (a_one (x_inr (R := (pLn I0 pI)) (x_call (a_cons (x_var (i := 0) rfl (Rp.mono _ (e_4.trans (e_12.trans (e_23.trans e_36))) exz r_wishes)) (a_one (x_var (i := 1) rfl (Rp.mono _ (e_4.trans (e_12.trans (e_23.trans e_36))) exz r_desks)))))))) (Nat.le_of_ble_eq_true rfl)) s_37 (fun _ _ h => PX.mono (e_4.trans (e_12.trans (e_23.trans e_36))) fr_29 h) hm fun a_45 v_46 I_47 H_48 e_49 s_50 r_51 hm => ?_
      exact hm v_46 I_47 H_48 (e_4.trans (e_12.trans (e_23.trans (e_36.trans e_49)))) (St.less s_50 fr_29) (Im.im r_51)
def m__law_mix (a_cell : Int) (a_turn : Int) : Res Int :=
  ((bin rMod (un idR (bin rAdd (bin rAdd (bin rMul (Res.ok a_cell) (Res.ok (69621 : Int))) (bin rMul (Res.ok a_turn) (Res.ok (48271 : Int)))) (Res.ok (12345 : Int)))) (Res.ok (2147483647 : Int))).bind fun (x_1 : Int) => ((bin rMod (un idR (bin rAdd (bin rMul (Res.ok x_1) (Res.ok (16807 : Int))) (Res.ok (97 : Int)))) (Res.ok (2147483629 : Int))).bind fun (x_8 : Int) => ((bin rMod (un idR (bin rAdd (bin rAdd (bin rMul (Res.ok x_8) (Res.ok (69069 : Int))) (Res.ok a_cell)) (bin rMul (Res.ok a_turn) (Res.ok (7 : Int))))) (Res.ok (2147483587 : Int))).bind fun (y_15 : Int) => ((bin rMod (un idR (bin rAdd (bin rMul (Res.ok y_15) (Res.ok (39373 : Int))) (Res.ok (7 : Int)))) (Res.ok (2147483579 : Int))).bind fun (y_22 : Int) => ((bin rAdd (bin rMul (Res.ok x_8) (Res.ok (2147483647 : Int))) (Res.ok y_22)).bind fun a_29 => Res.ok a_29)))))
abbrev N__law_mix : List Str := ["cell", "turn", "x", "y"]
theorem sc__law_mix : FnScope N__law_mix ["cell", "turn"] (defScope s__law_mix) := ⟨rfl, rfl, rfl, by decide +kernel, rfl, by decide +kernel, by decide +kernel⟩
theorem bind__law_mix {K : PySem.W.Frag} {mg : Str → Option Value} {T : Tx K mg} : Binds K T.d__law_mix ["cell", "turn"] [] := FunD.bindsN T.F__law_mix fun _ _ _ _ _ _ us hl => match us, hl with | [_, _], _ => rfl
abbrev sp__law_mix (K : PySem.W.Frag) : Sp := spP K (tc pI (t1 pI)) (fun (p : (Int × Int)) => m__law_mix p.1 p.2) pI
theorem ok__law_mix (T : Tx K mg) : FnOk P w K mg base (L2.CX P w) 1 T.f__law_mix T.d__law_mix ["cell", "turn"] (sp__law_mix K) := by
  refine T.F__law_mix.ok sc__law_mix (fun vs H Q E h => ?_) (fun cdv A outer s H vs Q E hr h => ?_)
  · obtain ⟨I, C, a, _, hr, _⟩ := h
    exact Rt.len _ hr
  · obtain ⟨I0, C0, ⟨a_cell, a_turn⟩, hs, ⟨v_cell, us0, rfl, r_cell, v_turn, rfl, r_turn⟩, hm⟩ := h
    have hm : Post (m__law_mix a_cell a_turn) (PQ pI I0 C0 Q) (PX E K I0 C0) := hm
    replace r_cell : Rp.r pI a_cell v_cell I0 Z := Im.im r_cell
    replace r_turn : Rp.r pI a_turn v_turn I0 Z := Im.im r_turn
    unfold m__law_mix at hm
    refine ⟨_, (pss_cons (ps_set (i := 2) sc__law_mix.nd rfl (Or.inl rfl) (pe_op op_mod (pe_callTy call_int1 (by rfl) T.gb_int bt_int (pa_cons (pe_op op_add (pe_op op_add (pe_op op_mul (pv 0) pe_int) (pe_op op_mul (pv 1) pe_int)) pe_int) pa_nil)) pe_int)) (pss_cons (ps_set (i := 2) sc__law_mix.nd rfl (Or.inl rfl) (pe_op op_mod (pe_callTy call_int1 (by rfl) T.gb_int bt_int (pa_cons (pe_op op_add (pe_op op_mul (pv 2) pe_int) pe_int) pa_nil)) pe_int)) (pss_cons (ps_set (i := 3) sc__law_mix.nd rfl (Or.inl rfl) (pe_op op_mod (pe_callTy call_int1 (by rfl) T.gb_int bt_int (pa_cons (pe_op op_add (pe_op op_add (pe_op op_mul (pv 2) pe_int) (pv 0)) (pe_op op_mul (pv 1) pe_int)) pa_nil)) pe_int)) (pss_cons (ps_set (i := 3) sc__law_mix.nd rfl (Or.inl rfl) (pe_op op_mod (pe_callTy call_int1 (by rfl) T.gb_int bt_int (pa_cons (pe_op op_add (pe_op op_mul (pv 3) pe_int) pe_int) pa_nil)) pe_int)) (pss_cons (ps_ret (pe_op op_add (pe_op op_mul (pv 2) pe_int) (pv 3))) pss_nil))))), ?_⟩
    refine q_asg (E := E) (K := K) (σ := [some v_cell, some v_turn, none, none]) (i := 2) (x_op o_mod (x_cb o_int (a_one (x_op o_add (x_op o_add (x_op o_mul (x_var (i := 0) rfl (Rp.mono _ (Ex.refl _) exz r_cell)) (x_int (i := 69621))) (x_op o_mul (x_var (i := 1) rfl (Rp.mono _ (Ex.refl _) exz r_turn)) (x_int (i := 48271)))) (x_int (i := 12345))))) (x_int (i := 2147483647))) hs (fun _ _ h => PX.mono (Ex.refl _) (Ex.refl _) h) hm fun x_1 v_2 I_3 H_4 e_5 s_6 r_7 hm => ?_
    refine q_asg (E := E) (K := K) (σ := [some v_cell, some v_turn, some v_2, none]) (i := 2) (x_op o_mod (x_cb o_int (a_one (x_op o_add (x_op o_mul (x_var (i := 2) rfl (Rp.mono _ (Ex.refl _) exz r_7)) (x_int (i := 16807))) (x_int (i := 97))))) (x_int (i := 2147483629))) s_6 (fun _ _ h => PX.mono e_5 (Ex.refl _) h) hm fun x_8 v_9 I_10 H_11 e_12 s_13 r_14 hm => ?_
    refine q_asg (E := E) (K := K) (σ := [some v_cell, some v_turn, some v_9, none]) (i := 3) (x_op o_mod (x_cb o_int (a_one (x_op o_add (x_op o_add (x_op o_mul (x_var (i := 2) rfl (Rp.mono _ (Ex.refl _) exz r_14)) (x_int (i := 69069))) (x_var (i := 0) rfl (Rp.mono _ (e_5.trans e_12) exz r_cell))) (x_op o_mul (x_var (i := 1) rfl (Rp.mono _ (e_5.trans e_12) exz r_turn)) (x_int (i := 7)))))) (x_int (i := 2147483587))) s_13 (fun _ _ h => PX.mono (e_5.trans e_12) (Ex.refl _) h) hm fun y_15 v_16 I_17 H_18 e_19 s_20 r_21 hm => ?_
    refine q_asg (E := E) (K := K) (σ := [some v_cell, some v_turn, some v_9, some v_16]) (i := 3) (x_op o_mod (x_cb o_int (a_one (x_op o_add (x_op o_mul (x_var (i := 3) rfl (Rp.mono _ (Ex.refl _) exz r_21)) (x_int (i := 39373))) (x_int (i := 7))))) (x_int (i := 2147483579))) s_20 (fun _ _ h => PX.mono (e_5.trans (e_12.trans e_19)) (Ex.refl _) h) hm fun y_22 v_23 I_24 H_25 e_26 s_27 r_28 hm => ?_
    refine q_ret (E := E) (K := K) (σ := [some v_cell, some v_turn, some v_9, some v_23]) (x_op o_add (x_op o_mul (x_var (i := 2) rfl (Rp.mono _ (e_19.trans e_26) exz r_14)) (x_int (i := 2147483647))) (x_var (i := 3) rfl (Rp.mono _ (Ex.refl _) exz r_28))) s_27 (fun _ _ h => PX.mono (e_5.trans (e_12.trans (e_19.trans e_26))) (Ex.refl _) h) hm fun a_29 v_30 I_31 H_32 e_33 s_34 r_35 hm => ?_
    exact hm v_30 I_31 H_32 (e_5.trans (e_12.trans (e_19.trans (e_26.trans e_33)))) (St.less s_34 (Ex.refl _)) (Im.im r_35)
abbrev N__law_pool : List Str := ["script"]
theorem sc__law_pool : FnScope N__law_pool ["script"] (defScope s__law_pool) := ⟨rfl, rfl, rfl, by decide +kernel, rfl, by decide +kernel, by decide +kernel⟩
theorem bind__law_pool {K : PySem.W.Frag} {mg : Str → Option Value} {T : Tx K mg} : Binds K T.d__law_pool ["script"] [] := FunD.bindsN T.F__law_pool fun _ _ _ _ _ _ us hl => match us, hl with | [_], _ => rfl
theorem ok__law_pool (T : Tx K mg) : FnOk P w K mg base (L2.CX P w) 1 T.f__law_pool T.d__law_pool ["script"] (spPool K) := by
  refine T.F__law_pool.ok sc__law_pool (fun vs H Q E h => ?_) (fun cdv A outer s H vs Q E hr h => ?_)
  · obtain ⟨I, C, ns, v, rfl, _⟩ := h
    rfl
  · obtain ⟨I0, C0, ns, v, rfl, hs, r, hm⟩ := h
    refine ⟨_, pss_cons (ps_ret (pe_lst (pa_cons pe_int (pa_cons pe_int (pa_cons pe_int (pa_cons (pe_callTy (r := rList1 K) call_list_of (by rfl) T.gb_list bt_list (pa_cons (pe_slice (r := rSlL K) sl_list (pv 0) po_none (po_some pe_int)) pa_nil)) pa_nil)))))) pss_nil, ?_⟩
    exact n_lstP (E := E) (A := pM) (m := .ok (0, 0, 0, cut ns none (some 63))) (x_is' (a_cons x_int (a_cons x_int (a_cons x_int (a_one (x_cb o_list (a_one (x_v (x_slS (x_var (i := 0) rfl (Im.im r)) p_none (p_some x_int))))))))) rfl) (by decide) hs fun p ws I2 H2 e hp s2 hx => hm p ws I2 H2 e hp s2 hx
def m__law_fill (_ : Unit) (a_pool : Pl) : Res (Unit × Pl) :=
  ((Res.ok a_pool.2.2.2).bind fun (numbers_1 : (List Int)) => ((Res.ok (0 : Int)).bind fun (cell_8 : Int) => ((ifR (bin rLt (Res.ok a_pool.2.1) (un rLen (Res.ok numbers_1))) ((bin ix (Res.ok numbers_1) (Res.ok a_pool.2.1)).bind fun (cell_33 : Int) => (Res.ok (a_pool, cell_33))) (ifR (bin rGt (un rLen (Res.ok numbers_1)) (Res.ok (0 : Int))) ((bin ix (Res.ok numbers_1) (bin rMod (un idR (Res.ok a_pool.2.2.1)) (un rLen (Res.ok numbers_1)))).bind fun (cell_48 : Int) => (Res.ok (a_pool, cell_48))) (Res.ok (a_pool, cell_8)))).bind fun (z_23 : (Pl × Int)) => ((ifR (bin rLt (Res.ok z_23.2) (Res.ok (0 : Int))) ((bin rSub (Res.ok (1 : Int)) (bin rMul (Res.ok (2 : Int)) (Res.ok z_23.2))).bind fun (cell_76 : Int) => (Res.ok cell_76)) (Res.ok z_23.2)).bind fun (z_68 : Int) => (thenR (bin rAdd (Res.ok z_23.1.2.1) (Res.ok (1 : Int))) (fun (a_98 : Int) => (z_23.1.1, (a_98, z_23.1.2.2))) (fun (y_88 : Pl) => (thenR (bin rAdd (Res.ok y_88.2.2.1) (Res.ok (1 : Int))) (fun (a_110 : Int) => (y_88.1, (y_88.2.1, (a_110, y_88.2.2.2)))) (fun (y_100 : Pl) => (ifR (andR (bin rGe (Res.ok z_68) (bin rPow (Res.ok (10 : Int)) (Res.ok (18 : Int)))) (bin rLe (Res.ok y_100.2.1) (un rLen (Res.ok numbers_1)))) (thenR (Res.ok z_68) (fun (a_130 : Int) => (a_130, y_100.2)) (fun (y_120 : Pl) => (Res.ok ((), y_120)))) (thenR (un (fun (p : (Int × Int)) => m__law_mix p.1 p.2) (pair (Res.ok z_68) (Res.ok y_100.2.2.1))) (fun (a_142 : Int) => (a_142, y_100.2)) (fun (y_132 : Pl) => (Res.ok ((), y_132)))))))))))))
abbrev N__law_fill : List Str := ["pool", "numbers", "cell"]
theorem sc__law_fill : FnScope N__law_fill ["pool"] (defScope s__law_fill) := ⟨rfl, rfl, rfl, by decide +kernel, rfl, by decide +kernel, by decide +kernel⟩
theorem bind__law_fill {K : PySem.W.Frag} {mg : Str → Option Value} {T : Tx K mg} : Binds K T.d__law_fill ["pool"] [] := FunD.bindsN T.F__law_fill fun _ _ _ _ _ _ us hl => match us, hl with | [_], _ => rfl
abbrev sp__law_fill (K : PySem.W.Frag) : Sp := spM pM t0 m__law_fill pN
theorem ok__law_fill (T : Tx K mg) : FnOk P w K mg base (L2.CX P w) 2 T.f__law_fill T.d__law_fill ["pool"] (sp__law_fill K) := by
  refine T.F__law_fill.ok sc__law_fill (fun vs H Q E h => ?_) (fun cdv A outer s H vs Q E hr h => ?_)
  · obtain ⟨I, C, p, ws, us, x, a, rfl, _, _, _, hr, _⟩ := h
    exact congrArg (· + 1) (Rt.len _ hr)
  · obtain ⟨I0, C0, p0, ws0, us, a_pool, ⟨⟩, rfl, hs, hc0, hx1, rfl, hm⟩ := h
    have hx0 := It.im (C' := Z) hx1
    have hm : Post (m__law_fill () a_pool) (PM p0 pM pN I0 C0 Q) XF := hm
    unfold m__law_fill at hm
    refine ⟨_, (pss_cons (ps_set (i := 1) sc__law_fill.nd rfl (Or.inl rfl) (pe_ix (r := rIxL K) ix_list (pv 0) pe_int (fun _ _ => rfl))) (pss_cons (ps_set (i := 2) sc__law_fill.nd rfl (Or.inl rfl) pe_int) (Evl.pss_cut (ps_if (pt_cmpR op_lt (pe_ix (r := rIxL K) ix_list (pv 0) pe_int (fun _ _ => rfl)) (pe_callB (r := rLen1 K) call_len_seq (by rfl) T.gb_len bt_len (pa_cons (pv 1) pa_nil)) (nomark _)) (pss_cons (ps_set (i := 2) sc__law_fill.nd rfl (Or.inl rfl) (pe_ix (r := rIxL K) ix_list (pv 1) (pe_ix (r := rIxL K) ix_list (pv 0) pe_int (fun _ _ => rfl)) (fun _ _ => rfl))) pss_nil) (pss_cons (ps_if (pt_cmpR op_gt (pe_callB (r := rLen1 K) call_len_seq (by rfl) T.gb_len bt_len (pa_cons (pv 1) pa_nil)) pe_int (nomark _)) (pss_cons (ps_set (i := 2) sc__law_fill.nd rfl (Or.inl rfl) (pe_ix (r := rIxL K) ix_list (pv 1) (pe_op op_mod (pe_callTy call_int1 (by rfl) T.gb_int bt_int (pa_cons (pe_ix (r := rIxL K) ix_list (pv 0) pe_int (fun _ _ => rfl)) pa_nil)) (pe_callB (r := rLen1 K) call_len_seq (by rfl) T.gb_len bt_len (pa_cons (pv 1) pa_nil))) (fun _ _ => rfl))) pss_nil) pss_nil) pss_nil)) (Evl.pss_cut (ps_if (pt_cmpR op_lt (pv 2) pe_int (nomark _)) (pss_cons (ps_set (i := 2) sc__law_fill.nd rfl (Or.inl rfl) (pe_op op_sub pe_int (pe_op op_mul pe_int (pv 2)))) pss_nil) pss_nil) (pss_cons (ps_asg (pe_op op_add (pe_ix (r := rIxL K) ix_list (pv 0) pe_int (fun _ _ => rfl)) pe_int) (pg_sub (pv 0) pe_int set_list)) (pss_cons (ps_asg (pe_op op_add (pe_ix (r := rIxL K) ix_list (pv 0) pe_int (fun _ _ => rfl)) pe_int) (pg_sub (pv 0) pe_int set_list)) (pss_cons (ps_if (PW.pt (pw_and (pt_cmpR op_ge (pv 2) (pe_op op_pow pe_int pe_int) (nomark _)) (pw_and1 (pt_cmpR op_le (pe_ix (r := rIxL K) ix_list (pv 0) pe_int (fun _ _ => rfl)) (pe_callB (r := rLen1 K) call_len_seq (by rfl) T.gb_len bt_len (pa_cons (pv 1) pa_nil)) (nomark _))))) (pss_cons (ps_asg (pv 2) (pg_sub (pv 0) pe_int set_list)) pss_nil) (pss_cons (ps_asg (pe_call (ok__law_mix T) (hr.mono (by decide)) rfl T.g__law_mix T.F__law_mix.kp bind__law_mix .nil passE (pa_cons (pv 2) (pa_cons (pe_ix (r := rIxL K) ix_list (pv 0) pe_int (fun _ _ => rfl)) pa_nil))) (pg_sub (pv 0) pe_int set_list)) pss_nil)) pss_nil))))))), ?_⟩
    refine q_asg (E := E) (K := K) (σ := [some (.ref p0), none, none]) (i := 1) (q_pool (i := 0) (k := 3) rfl hc0 (Rt.mono _ (Ex.refl _) exz hx0) (pjs (pjs (pjs pj1)))) hs (fun _ _ h => h.elim) hm fun numbers_1 v_2 I_3 H_4 e_5 s_6 r_7 hm => ?_
    refine q_asg (E := E) (K := K) (σ := [some (.ref p0), some v_2, none]) (i := 2) (x_int (i := 0)) s_6 (fun _ _ h => h.elim) hm fun cell_8 v_9 I_10 H_11 e_12 s_13 r_14 hm => ?_
    refine s_ifj (E := E) (K := K) (σ := [some (.ref p0), some v_2, some v_9]) (fun (z_23 : (Pl × Int)) σ2 I_25 C_26 => ∃ v_30 : V, σ2 = [some (.ref p0), some v_2, some v_30] ∧ (∃ ws_27 : List V, C_26 p0 = some (.lst ws_27) ∧ Rt.r pM z_23.1 ws_27 I_25 Z) ∧ Rp.r pI z_23.2 v_30 I_25 Z ∧ Ex (off C0 p0) C_26) (t_test (x_op o_lt (q_pool (i := 0) (k := 1) rfl hc0 (Rt.mono _ (e_5.trans e_12) exz hx0) (pjs pj0)) (x_cb o_len (a_one (x_v (x_var (i := 1) rfl (Rp.mono _ e_12 exz r_7))))))) s_13 (fun _ _ h => h.elim) hm (fun N I_15 H_16 e_17 s_18 hm => ?_) (fun N I_19 H_20 e_21 s_22 hm => ?_) (fun z_23 σ2 I_55 C_56 H_57 e_58 s_59 ⟨v_30, hs_24, ⟨ws_27, hc_28, hx_29⟩, r_31, fr_32⟩ hm => ?_)
    · refine q_asg (E := E) (K := K) (σ := [some (.ref p0), some v_2, some v_9]) (i := 2) (x_op o_ix (x_v (x_var (i := 1) rfl (Rp.mono _ (e_12.trans e_17) exz r_7))) (q_pool (i := 0) (k := 1) rfl hc0 (Rt.mono _ (e_5.trans (e_12.trans e_17)) exz hx0) (pjs pj0))) s_18 (fun _ _ h => h.elim) hm fun cell_33 v_34 I_35 H_36 e_37 s_38 r_39 hm => ?_
      exact hm _ _ _ _ (e_17.trans e_37) s_38 ⟨v_34, rfl, ⟨_, hc0, Rt.mono _ (e_5.trans (e_12.trans (e_17.trans e_37))) exz hx0⟩, Rp.mono _ (Ex.refl _) exz r_39, (off_ex (C := C0) (p := p0))⟩
    · refine s_if (E := E) (K := K) (σ := [some (.ref p0), some v_2, some v_9]) (t_test (x_op o_gt (x_cb o_len (a_one (x_v (x_var (i := 1) rfl (Rp.mono _ (e_12.trans e_21) exz r_7))))) (x_int (i := 0)))) s_22 (fun _ _ h => h.elim) hm (fun I_40 H_41 e_42 s_43 hm => ?_) (fun I_44 H_45 e_46 s_47 hm => ?_)
      · refine q_asg (E := E) (K := K) (σ := [some (.ref p0), some v_2, some v_9]) (i := 2) (x_op o_ix (x_v (x_var (i := 1) rfl (Rp.mono _ (e_12.trans (e_21.trans e_42)) exz r_7))) (x_op o_mod (x_cb o_int (a_one (q_pool (i := 0) (k := 2) rfl hc0 (Rt.mono _ (e_5.trans (e_12.trans (e_21.trans e_42))) exz hx0) (pjs (pjs pj0))))) (x_cb o_len (a_one (x_v (x_var (i := 1) rfl (Rp.mono _ (e_12.trans (e_21.trans e_42)) exz r_7))))))) s_43 (fun _ _ h => h.elim) hm fun cell_48 v_49 I_50 H_51 e_52 s_53 r_54 hm => ?_
        exact hm _ _ _ _ (e_21.trans (e_42.trans e_52)) s_53 ⟨v_49, rfl, ⟨_, hc0, Rt.mono _ (e_5.trans (e_12.trans (e_21.trans (e_42.trans e_52)))) exz hx0⟩, Rp.mono _ (Ex.refl _) exz r_54, (off_ex (C := C0) (p := p0))⟩
      · exact hm _ _ _ _ (e_21.trans e_46) s_47 ⟨v_9, rfl, ⟨_, hc0, Rt.mono _ (e_5.trans (e_12.trans (e_21.trans e_46))) exz hx0⟩, Rp.mono _ (e_21.trans e_46) exz r_14, (off_ex (C := C0) (p := p0))⟩
    subst hs_24
    refine s_ifj (E := E) (K := K) (σ := [some (.ref p0), some v_2, some v_30]) (fun (z_68 : Int) σ2 I_70 C_71 => ∃ v_72 : V, σ2 = [some (.ref p0), some v_2, some v_72] ∧ Rp.r pI z_68 v_72 I_70 Z ∧ C_71 p0 = some (.lst ws_27) ∧ Ex (off C0 p0) C_71) (t_test (x_op o_lt (x_var (i := 2) rfl (Rp.mono _ (Ex.refl _) exz r_31)) (x_int (i := 0)))) s_59 (fun _ _ h => h.elim) hm (fun N I_60 H_61 e_62 s_63 hm => ?_) (fun N I_64 H_65 e_66 s_67 hm => ?_) (fun z_68 σ2 I_83 C_84 H_85 e_86 s_87 ⟨v_72, hs_69, r_73, hc_74, fr_75⟩ hm => ?_)
    · refine q_asg (E := E) (K := K) (σ := [some (.ref p0), some v_2, some v_30]) (i := 2) (x_op o_sub (x_int (i := 1)) (x_op o_mul (x_int (i := 2)) (x_var (i := 2) rfl (Rp.mono _ e_62 exz r_31)))) s_63 (fun _ _ h => h.elim) hm fun cell_76 v_77 I_78 H_79 e_80 s_81 r_82 hm => ?_
      exact hm _ _ _ _ (e_62.trans e_80) s_81 ⟨v_77, rfl, Rp.mono _ (Ex.refl _) exz r_82, hc_28, fr_32⟩
    · exact hm _ _ _ _ e_66 s_67 ⟨v_30, rfl, Rp.mono _ e_66 exz r_31, hc_28, fr_32⟩
    subst hs_69
    refine q_setT (E := E) (K := K) (σ := [some (.ref p0), some v_2, some v_72]) (i := 0) (k := 1) rfl (x_op o_add (q_pool (i := 0) (k := 1) rfl hc_74 (Rt.mono _ e_86 exz hx_29) (pjs pj0)) (x_int (i := 1))) (pks pk0) s_87 hc_74 (Rt.mono _ e_86 exz hx_29) hm fun y_88 ws_89 I_90 C_91 H_92 e_93 s_94 hc_95 k_96 hx_97 hm => ?_
    have fr_99 := fr_pool fr_75 k_96
    refine q_setT (E := E) (K := K) (σ := [some (.ref p0), some v_2, some v_72]) (i := 0) (k := 2) rfl (x_op o_add (q_pool (i := 0) (k := 2) rfl hc_95 (Rt.mono _ (Ex.refl _) exz hx_97) (pjs (pjs pj0))) (x_int (i := 1))) (pks (pks pk0)) s_94 hc_95 (Rt.mono _ (Ex.refl _) exz hx_97) hm fun y_100 ws_101 I_102 C_103 H_104 e_105 s_106 hc_107 k_108 hx_109 hm => ?_
    have fr_111 := fr_pool fr_99 k_108
    refine s_if (E := E) (K := K) (σ := [some (.ref p0), some v_2, some v_72]) (t_and (t_test (x_op o_ge (x_var (i := 2) rfl (Rp.mono _ (e_93.trans e_105) exz r_73)) (x_op o_pow (x_int (i := 10)) (x_int (i := 18))))) (t_test (x_op o_le (q_pool (i := 0) (k := 1) rfl hc_107 (Rt.mono _ (Ex.refl _) exz hx_109) (pjs pj0)) (x_cb o_len (a_one (x_v (x_var (i := 1) rfl (Rp.mono _ (e_12.trans (e_58.trans (e_86.trans (e_93.trans e_105)))) exz r_7)))))))) s_106 (fun _ _ h => h.elim) hm (fun I_112 H_113 e_114 s_115 hm => ?_) (fun I_116 H_117 e_118 s_119 hm => ?_)
    · refine q_setT (E := E) (K := K) (σ := [some (.ref p0), some v_2, some v_72]) (i := 0) (k := 0) rfl (x_var (i := 2) rfl (Rp.mono _ (e_93.trans (e_105.trans e_114)) exz r_73)) pk0 s_115 hc_107 (Rt.mono _ e_114 exz hx_109) hm fun y_120 ws_121 I_122 C_123 H_124 e_125 s_126 hc_127 k_128 hx_129 hm => ?_
      have fr_131 := fr_pool fr_111 k_128
      exact ret_poolN hm (e_5.trans (e_12.trans (e_58.trans (e_86.trans (e_93.trans (e_105.trans (e_114.trans e_125))))))) fr_131 s_126 hc_127 (Rt.mono _ (Ex.refl _) exz hx_129)
    · refine q_setT (E := E) (K := K) (σ := [some (.ref p0), some v_2, some v_72]) (i := 0) (k := 0) rfl (x_call (a_cons (x_var (i := 2) rfl (Rp.mono _ (e_93.trans (e_105.trans e_118)) exz r_73)) (a_one (q_pool (i := 0) (k := 2) rfl hc_107 (Rt.mono _ e_118 exz hx_109) (pjs (pjs pj0)))))) pk0 s_119 hc_107 (Rt.mono _ e_118 exz hx_109) hm fun y_132 ws_133 I_134 C_135 H_136 e_137 s_138 hc_139 k_140 hx_141 hm => ?_
      have fr_143 := fr_pool fr_111 k_140
      exact ret_poolN hm (e_5.trans (e_12.trans (e_58.trans (e_86.trans (e_93.trans (e_105.trans (e_118.trans e_137))))))) fr_143 s_138 hc_139 (Rt.mono _ (Ex.refl _) exz hx_141)
def m__law_take (a_many : Int) (a_pool : Pl) : Res (Int × Pl) :=
  ((ifR (bin rLt (Res.ok a_pool.1) (Res.ok a_many)) (((m__law_fill ()) a_pool).bind fun (b_17 : Unit × Pl) => (Res.ok b_17.2)) (Res.ok a_pool)).bind fun (z_9 : Pl) => ((bin rMod (un idR (Res.ok z_9.1)) (Res.ok a_many)).bind fun (value_33 : Int) => (thenR (bin rDiv (Res.ok z_9.1) (Res.ok a_many)) (fun (a_50 : Int) => (a_50, z_9.2)) (fun (y_40 : Pl) => ((Res.ok value_33).bind fun a_52 => Res.ok (a_52, y_40))))))
abbrev N__law_take : List Str := ["pool", "many", "value"]
theorem sc__law_take : FnScope N__law_take ["pool", "many"] (defScope s__law_take) := ⟨rfl, rfl, rfl, by decide +kernel, rfl, by decide +kernel, by decide +kernel⟩
theorem bind__law_take {K : PySem.W.Frag} {mg : Str → Option Value} {T : Tx K mg} : Binds K T.d__law_take ["pool", "many"] [] := FunD.bindsN T.F__law_take fun _ _ _ _ _ _ us hl => match us, hl with | [_, _], _ => rfl
abbrev sp__law_take (K : PySem.W.Frag) : Sp := spM pM (t1 pI) m__law_take pI
theorem ok__law_take (T : Tx K mg) : FnOk P w K mg base (L2.CX P w) 3 T.f__law_take T.d__law_take ["pool", "many"] (sp__law_take K) := by
  refine T.F__law_take.ok sc__law_take (fun vs H Q E h => ?_) (fun cdv A outer s H vs Q E hr h => ?_)
  · obtain ⟨I, C, p, ws, us, x, a, rfl, _, _, _, hr, _⟩ := h
    exact congrArg (· + 1) (Rt.len _ hr)
  · obtain ⟨I0, C0, p0, ws0, us, a_pool, a_many, rfl, hs, hc0, hx1, ⟨v_many, rfl, r_many⟩, hm⟩ := h
    have hx0 := It.im (C' := Z) hx1
    have hm : Post (m__law_take a_many a_pool) (PM p0 pM pI I0 C0 Q) XF := hm
    replace r_many : Rp.r pI a_many v_many I0 Z := Im.im r_many
    unfold m__law_take at hm
    refine ⟨_, (Evl.pss_cut (ps_if (pt_cmpR op_lt (pe_ix (r := rIxL K) ix_list (pv 0) pe_int (fun _ _ => rfl)) (pv 1) (nomark _)) (pss_cons (ps_expr (pe_call (ok__law_fill T) (hr.mono (by decide)) rfl T.g__law_fill T.F__law_fill.kp bind__law_fill .nil passE (pa_cons (pv 0) pa_nil))) pss_nil) pss_nil) (pss_cons (ps_set (i := 2) sc__law_take.nd rfl (Or.inl rfl) (pe_op op_mod (pe_callTy call_int1 (by rfl) T.gb_int bt_int (pa_cons (pe_ix (r := rIxL K) ix_list (pv 0) pe_int (fun _ _ => rfl)) pa_nil)) (pv 1))) (pss_cons (ps_asg (pe_op op_fdiv (pe_ix (r := rIxL K) ix_list (pv 0) pe_int (fun _ _ => rfl)) (pv 1)) (pg_sub (pv 0) pe_int set_list)) (pss_cons (ps_ret (pv 2)) pss_nil)))), ?_⟩
    refine s_ifj (E := E) (K := K) (σ := [some (.ref p0), some v_many, none]) (fun (z_9 : Pl) σ2 I_11 C_12 => σ2 = [some (.ref p0), some v_many, none] ∧ (∃ ws_13 : List V, C_12 p0 = some (.lst ws_13) ∧ Rt.r pM z_9 ws_13 I_11 Z) ∧ Ex (off C0 p0) C_12) (t_test (x_op o_lt (q_pool (i := 0) (k := 0) rfl hc0 (Rt.mono _ (Ex.refl _) exz hx0) pj0) (x_var (i := 1) rfl (Rp.mono _ (Ex.refl _) exz r_many)))) hs (fun _ _ h => h.elim) hm (fun N I_1 H_2 e_3 s_4 hm => ?_) (fun N I_5 H_6 e_7 s_8 hm => ?_) (fun z_9 σ2 I_28 C_29 H_30 e_31 s_32 ⟨hs_10, ⟨ws_13, hc_14, hx_15⟩, fr_16⟩ hm => ?_)
    · refine qm_expr (E := E) (K := K) (σ := [some (.ref p0), some v_many, none]) (m_callM0 (i := 0) rfl) s_4 hc0 (Rt.mono _ e_3 exz hx0) hm fun b_17 ws_18 I_19 C_20 H_21 e_22 s_23 hc_24 k_25 hx_26 hm => ?_
      have fr_27 := fr_pool (off_ex (C := C0) (p := p0)) k_25
      exact hm _ _ _ _ (e_3.trans e_22) s_23 ⟨rfl, ⟨_, hc_24, Rt.mono _ (Ex.refl _) exz hx_26⟩, fr_27⟩
    · exact hm _ _ _ _ e_7 s_8 ⟨rfl, ⟨_, hc0, Rt.mono _ e_7 exz hx0⟩, (off_ex (C := C0) (p := p0))⟩
    subst hs_10
    refine q_asg (E := E) (K := K) (σ := [some (.ref p0), some v_many, none]) (i := 2) (x_op o_mod (x_cb o_int (a_one (q_pool (i := 0) (k := 0) rfl hc_14 (Rt.mono _ (Ex.refl _) exz hx_15) pj0))) (x_var (i := 1) rfl (Rp.mono _ e_31 exz r_many))) s_32 (fun _ _ h => h.elim) hm fun value_33 v_34 I_35 H_36 e_37 s_38 r_39 hm => ?_
    refine q_setT (E := E) (K := K) (σ := [some (.ref p0), some v_many, some v_34]) (i := 0) (k := 0) rfl (x_op o_fdiv (q_pool (i := 0) (k := 0) rfl hc_14 (Rt.mono _ e_37 exz hx_15) pj0) (x_var (i := 1) rfl (Rp.mono _ (e_31.trans e_37) exz r_many))) pk0 s_38 hc_14 (Rt.mono _ e_37 exz hx_15) hm fun y_40 ws_41 I_42 C_43 H_44 e_45 s_46 hc_47 k_48 hx_49 hm => ?_
    have fr_51 := fr_pool fr_16 k_48
    refine q_ret (E := E) (K := K) (σ := [some (.ref p0), some v_many, some v_34]) (x_var (i := 2) rfl (Rp.mono _ e_45 exz r_39)) s_46 (fun _ _ h => h.elim) hm fun a_52 v_53 I_54 H_55 e_56 s_57 r_58 hm => ?_
    exact ret_pool hm (e_31.trans (e_37.trans (e_45.trans e_56))) fr_51 s_57 hc_47 (Rt.mono _ e_56 exz hx_49) r_58
def m__law_from (a_low : Int) (a_high : Int) (a_pool : Pl) : Res (Int × Pl) :=
  (((binM rAdd (liftM (Res.ok a_low)) (callM m__law_take (liftM (bin rAdd (bin rSub (Res.ok a_high) (Res.ok a_low)) (Res.ok (1 : Int)))))) a_pool).bind fun a_1 => Res.ok (a_1.1, a_1.2))
abbrev N__law_from : List Str := ["pool", "low", "high"]
theorem sc__law_from : FnScope N__law_from ["pool", "low", "high"] (defScope s__law_from) := ⟨rfl, rfl, rfl, by decide +kernel, rfl, by decide +kernel, by decide +kernel⟩
theorem bind__law_from {K : PySem.W.Frag} {mg : Str → Option Value} {T : Tx K mg} : Binds K T.d__law_from ["pool", "low", "high"] [] := FunD.bindsN T.F__law_from fun _ _ _ _ _ _ us hl => match us, hl with | [_, _, _], _ => rfl
abbrev sp__law_from (K : PySem.W.Frag) : Sp := spM pM (tc pI (t1 pI)) (fun (p : (Int × Int)) => m__law_from p.1 p.2) pI
theorem ok__law_from (T : Tx K mg) : FnOk P w K mg base (L2.CX P w) 4 T.f__law_from T.d__law_from ["pool", "low", "high"] (sp__law_from K) := by
  refine T.F__law_from.ok sc__law_from (fun vs H Q E h => ?_) (fun cdv A outer s H vs Q E hr h => ?_)
  · obtain ⟨I, C, p, ws, us, x, a, rfl, _, _, _, hr, _⟩ := h
    exact congrArg (· + 1) (Rt.len _ hr)
  · obtain ⟨I0, C0, p0, ws0, us, a_pool, ⟨a_low, a_high⟩, rfl, hs, hc0, hx1, ⟨v_low, us0, rfl, r_low, v_high, rfl, r_high⟩, hm⟩ := h
    have hx0 := It.im (C' := Z) hx1
    have hm : Post (m__law_from a_low a_high a_pool) (PM p0 pM pI I0 C0 Q) XF := hm
    replace r_low : Rp.r pI a_low v_low I0 Z := Im.im r_low
    replace r_high : Rp.r pI a_high v_high I0 Z := Im.im r_high
    unfold m__law_from at hm
    refine ⟨_, (pss_cons (ps_ret (pe_op op_add (pv 1) (pe_call (ok__law_take T) (hr.mono (by decide)) rfl T.g__law_take T.F__law_take.kp bind__law_take .nil passE (pa_cons (pv 0) (pa_cons (pe_op op_add (pe_op op_sub (pv 2) (pv 1)) pe_int) pa_nil))))) pss_nil), ?_⟩
    refine qm_ret (E := E) (K := K) (σ := [some (.ref p0), some v_low, some v_high]) (m_op (fun _ => o_add) off_same (m_pure (x_var (i := 1) rfl (Rp.mono _ (Ex.refl _) exz r_low))) (m_callM (i := 0) rfl (am_pure (a_one (x_op o_add (x_op o_sub (x_var (i := 2) rfl (Rp.mono _ (Ex.refl _) exz r_high)) (x_var (i := 1) rfl (Rp.mono _ (Ex.refl _) exz r_low))) (x_int (i := 1))))))) hs hc0 (Rt.mono _ (Ex.refl _) exz hx0) hm fun a_1 v_2 ws_8 I_3 C_9 H_4 e_5 s_6 hc_10 k_11 hx_12 r_7 hm => ?_
    have fr_13 := fr_pool (off_ex (C := C0) (p := p0)) k_11
    exact ret_pool hm e_5 fr_13 s_6 hc_10 hx_12 r_7
def m__law_wishes (a_desks : Int) (a_pool : Pl) : Res ((List (Int × Int)) × Pl) :=
  (((callM m__law_take (liftM (Res.ok (3 : Int)))) a_pool).bind fun (kind_1 : Int × Pl) => ((Res.ok ([] : List (Int × Int))).bind fun (wishes_14 : (List (Int × Int))) => (ifR (bin eqR (Res.ok kind_1.1) (Res.ok (2 : Int))) (((callM (fun (p : (Int × Int)) => m__law_from p.1 p.2) (liftM (pair (Res.ok (1 : Int)) (bin rDiv (Res.ok (20 : Int)) (Res.ok a_desks))))) kind_1.2).bind fun (width_39 : Int × Pl) => (((callM m__law_take (liftM (bin rSub (Res.ok (61 : Int)) (Res.ok width_39.1)))) width_39.2).bind fun (base_53 : Int × Pl) => (((un rng1 (bin rMul (Res.ok a_desks) (Res.ok width_39.1))).bind fun xs => loopN (fun (x_82 : Int) (z_67 : ((List (Int × Int)) × Pl)) => ((bin rDiv (Res.ok x_82) (Res.ok a_desks)).bind fun (minute_94 : Int) => (((callM (fun (p : (Int × Int)) => m__law_from p.1 p.2) (liftM (pair (bin rAdd (Res.ok minute_94) (Res.ok (1 : Int))) (Res.ok width_39.1)))) z_67.2).bind fun (closes_101 : Int × Pl) => ((((pairM (binM rAdd (liftM (Res.ok base_53.1)) (callM m__law_take (liftM (bin rAdd (Res.ok minute_94) (Res.ok (1 : Int)))))) (liftM (bin rAdd (Res.ok base_53.1) (Res.ok closes_101.1)))) closes_101.2).bind fun b => (push z_67.1 b.1).bind fun ys => Res.ok (ys, b.2)).bind fun (wishes_115 : (List (Int × Int)) × Pl) => (Res.ok (wishes_115.1, wishes_115.2)))))) xs (wishes_14, base_53.2)).bind fun (z_135 : ((List (Int × Int)) × Pl)) => ((ifMR (andM (liftM (bin rLt (un rLen (Res.ok z_135.1)) (Res.ok (20 : Int)))) (binM eqR (callM m__law_take (liftM (Res.ok (2 : Int)))) (liftM (Res.ok (0 : Int))))) z_135.2 (fun (y_158 : Pl) => (((callM m__law_take (liftM (Res.ok width_39.1))) y_158).bind fun (opens_185 : Int × Pl) => ((((pairM (liftM (bin rAdd (Res.ok base_53.1) (Res.ok opens_185.1))) (binM rAdd (liftM (Res.ok base_53.1)) (callM (fun (p : (Int × Int)) => m__law_from p.1 p.2) (liftM (pair (bin rAdd (Res.ok opens_185.1) (Res.ok (1 : Int))) (Res.ok width_39.1)))))) opens_185.2).bind fun b => (push z_135.1 b.1).bind fun ys => Res.ok (ys, b.2)).bind fun (wishes_199 : (List (Int × Int)) × Pl) => (Res.ok (wishes_199.2, wishes_199.1))))) (fun (y_164 : Pl) => (Res.ok (y_164, z_135.1)))).bind fun (z_170 : (Pl × (List (Int × Int)))) => (((callM m__law_take (liftM (un rLen (Res.ok z_170.2)))) z_170.1).bind fun (shift_231 : Int × Pl) => ((bin rCatR (slR (Res.ok z_170.2) (someR (Res.ok shift_231.1)) (Res.ok none)) (slR (Res.ok z_170.2) (Res.ok none) (someR (Res.ok shift_231.1)))).bind fun a_244 => Res.ok (a_244, shift_231.2))))))) ((Res.ok (60 : Int)).bind fun (width_251 : Int) => ((ifR (bin eqR (Res.ok kind_1.1) (Res.ok (1 : Int))) (((callM (fun (p : (Int × Int)) => m__law_from p.1 p.2) (liftM (pair (Res.ok (1 : Int)) (Res.ok (8 : Int))))) kind_1.2).bind fun (width_277 : Int × Pl) => (Res.ok (width_277.2, width_277.1))) (Res.ok (kind_1.2, width_251))).bind fun (z_266 : (Pl × Int)) => (((callM m__law_take (liftM (bin rSub (Res.ok (61 : Int)) (Res.ok z_266.2)))) z_266.1).bind fun (base_296 : Int × Pl) => ((((unM rng1 (callM m__law_take (liftM (Res.ok (21 : Int))))) base_296.2).bind fun b => loopN (fun (x_324 : Int) (z_310 : ((List (Int × Int)) × Pl)) => (((callM m__law_take (liftM (Res.ok z_266.2))) z_310.2).bind fun (opens_345 : Int × Pl) => ((((pairM (liftM (bin rAdd (Res.ok base_296.1) (Res.ok opens_345.1))) (binM rAdd (liftM (Res.ok base_296.1)) (callM (fun (p : (Int × Int)) => m__law_from p.1 p.2) (liftM (pair (bin rAdd (Res.ok opens_345.1) (Res.ok (1 : Int))) (Res.ok z_266.2)))))) opens_345.2).bind fun b => (push z_310.1 b.1).bind fun ys => Res.ok (ys, b.2)).bind fun (wishes_359 : (List (Int × Int)) × Pl) => (Res.ok (wishes_359.1, wishes_359.2))))) b.1 ((fun (y_333 : Pl) => (wishes_14, y_333)) b.2)).bind fun (z_379 : ((List (Int × Int)) × Pl)) => ((Res.ok z_379.1).bind fun a_403 => Res.ok (a_403, z_379.2)))))))))
abbrev N__law_wishes : List Str := ["pool", "desks", "kind", "wishes", "width", "base", "k", "minute", "closes", "opens", "shift"]
theorem sc__law_wishes : FnScope N__law_wishes ["pool", "desks"] (defScope s__law_wishes) := ⟨rfl, rfl, rfl, by decide +kernel, rfl, by decide +kernel, by decide +kernel⟩
theorem bind__law_wishes {K : PySem.W.Frag} {mg : Str → Option Value} {T : Tx K mg} : Binds K T.d__law_wishes ["pool", "desks"] [] := FunD.bindsN T.F__law_wishes fun _ _ _ _ _ _ us hl => match us, hl with | [_, _], _ => rfl
abbrev sp__law_wishes (K : PySem.W.Frag) : Sp := spM pM (t1 pI) m__law_wishes (pL (pT (tc pI (t1 pI))))
theorem ok__law_wishes (T : Tx K mg) : FnOk P w K mg base (L2.CX P w) 5 T.f__law_wishes T.d__law_wishes ["pool", "desks"] (sp__law_wishes K) := by
  refine T.F__law_wishes.ok sc__law_wishes (fun vs H Q E h => ?_) (fun cdv A outer s H vs Q E hr h => ?_)
  · obtain ⟨I, C, p, ws, us, x, a, rfl, _, _, _, hr, _⟩ := h
    exact congrArg (· + 1) (Rt.len _ hr)
  · obtain ⟨I0, C0, p0, ws0, us, a_pool, a_desks, rfl, hs, hc0, hx1, ⟨v_desks, rfl, r_desks⟩, hm⟩ := h
    have hx0 := It.im (C' := Z) hx1
    have hm : Post (m__law_wishes a_desks a_pool) (PM p0 pM (pL (pT (tc pI (t1 pI)))) I0 C0 Q) XF := hm
    replace r_desks : Rp.r pI a_desks v_desks I0 Z := Im.im r_desks
    unfold m__law_wishes at hm
    refine ⟨_, (pss_cons (ps_set (i := 2) sc__law_wishes.nd rfl (Or.inl rfl) (pe_call (ok__law_take T) (hr.mono (by decide)) rfl T.g__law_take T.F__law_take.kp bind__law_take .nil passE (pa_cons (pv 0) (pa_cons pe_int pa_nil)))) (pss_cons (ps_set (i := 3) sc__law_wishes.nd rfl (Or.inl rfl) (pe_lst pa_nil)) (pss_cons (ps_if (pt_cmpR op_eq (pv 2) pe_int (nomark _)) (pss_cons (ps_set (i := 4) sc__law_wishes.nd rfl (Or.inl rfl) (pe_call (ok__law_from T) (hr.mono (by decide)) rfl T.g__law_from T.F__law_from.kp bind__law_from .nil passE (pa_cons (pv 0) (pa_cons pe_int (pa_cons (pe_op op_fdiv pe_int (pv 1)) pa_nil))))) (pss_cons (ps_set (i := 5) sc__law_wishes.nd rfl (Or.inl rfl) (pe_call (ok__law_take T) (hr.mono (by decide)) rfl T.g__law_take T.F__law_take.kp bind__law_take .nil passE (pa_cons (pv 0) (pa_cons (pe_op op_sub pe_int (pv 4)) pa_nil)))) (pss_cons (ps_for (passes_of rfl) rfl (pi_range1 (by rfl) T.gb_range (pa_cons (pe_op op_mul (pv 1) (pv 4)) pa_nil)) (pg_name (i := 6) sc__law_wishes.nd rfl (Or.inl rfl)) (pss_cons (ps_set (i := 7) sc__law_wishes.nd rfl (Or.inl rfl) (pe_op op_fdiv (pv 6) (pv 1))) (pss_cons (ps_set (i := 8) sc__law_wishes.nd rfl (Or.inl rfl) (pe_call (ok__law_from T) (hr.mono (by decide)) rfl T.g__law_from T.F__law_from.kp bind__law_from .nil passE (pa_cons (pv 0) (pa_cons (pe_op op_add (pv 7) pe_int) (pa_cons (pv 4) pa_nil))))) (pss_cons (ps_expr (show PE _ _ (tBM K "list" rAppend _ _) from pe_bm PySem.F.plainAttrs_list PySem.F.slot_list_append PySem.F.type_list_append mt_append (pv 3) (pa_cons (pe_tup (pa_cons (pe_op op_add (pv 5) (pe_call (ok__law_take T) (hr.mono (by decide)) rfl T.g__law_take T.F__law_take.kp bind__law_take .nil passE (pa_cons (pv 0) (pa_cons (pe_op op_add (pv 7) pe_int) pa_nil)))) (pa_cons (pe_op op_add (pv 5) (pv 8)) pa_nil))) pa_nil))) pss_nil)))) (Evl.pss_cut (ps_if (PW.pt (pw_and (pt_cmpR op_lt (pe_callB (r := rLen1 K) call_len_seq (by rfl) T.gb_len bt_len (pa_cons (pv 3) pa_nil)) pe_int (nomark _)) (pw_and1 (pt_cmpR op_eq (pe_call (ok__law_take T) (hr.mono (by decide)) rfl T.g__law_take T.F__law_take.kp bind__law_take .nil passE (pa_cons (pv 0) (pa_cons pe_int pa_nil))) pe_int (nomark _))))) (pss_cons (ps_set (i := 9) sc__law_wishes.nd rfl (Or.inl rfl) (pe_call (ok__law_take T) (hr.mono (by decide)) rfl T.g__law_take T.F__law_take.kp bind__law_take .nil passE (pa_cons (pv 0) (pa_cons (pv 4) pa_nil)))) (pss_cons (ps_expr (show PE _ _ (tBM K "list" rAppend _ _) from pe_bm PySem.F.plainAttrs_list PySem.F.slot_list_append PySem.F.type_list_append mt_append (pv 3) (pa_cons (pe_tup (pa_cons (pe_op op_add (pv 5) (pv 9)) (pa_cons (pe_op op_add (pv 5) (pe_call (ok__law_from T) (hr.mono (by decide)) rfl T.g__law_from T.F__law_from.kp bind__law_from .nil passE (pa_cons (pv 0) (pa_cons (pe_op op_add (pv 9) pe_int) (pa_cons (pv 4) pa_nil))))) pa_nil))) pa_nil))) pss_nil)) pss_nil) (pss_cons (ps_set (i := 10) sc__law_wishes.nd rfl (Or.inl rfl) (pe_call (ok__law_take T) (hr.mono (by decide)) rfl T.g__law_take T.F__law_take.kp bind__law_take .nil passE (pa_cons (pv 0) (pa_cons (pe_callB (r := rLen1 K) call_len_seq (by rfl) T.gb_len bt_len (pa_cons (pv 3) pa_nil)) pa_nil)))) (pss_cons (ps_ret (pe_op op_cat (pe_slice (r := rSlL K) sl_list (pv 3) (po_some (pv 10)) po_none) (pe_slice (r := rSlL K) sl_list (pv 3) po_none (po_some (pv 10))))) pss_nil)))))) pss_nil) (pss_cons (ps_set (i := 4) sc__law_wishes.nd rfl (Or.inl rfl) pe_int) (Evl.pss_cut (ps_if (pt_cmpR op_eq (pv 2) pe_int (nomark _)) (pss_cons (ps_set (i := 4) sc__law_wishes.nd rfl (Or.inl rfl) (pe_call (ok__law_from T) (hr.mono (by decide)) rfl T.g__law_from T.F__law_from.kp bind__law_from .nil passE (pa_cons (pv 0) (pa_cons pe_int (pa_cons pe_int pa_nil))))) pss_nil) pss_nil) (pss_cons (ps_set (i := 5) sc__law_wishes.nd rfl (Or.inl rfl) (pe_call (ok__law_take T) (hr.mono (by decide)) rfl T.g__law_take T.F__law_take.kp bind__law_take .nil passE (pa_cons (pv 0) (pa_cons (pe_op op_sub pe_int (pv 4)) pa_nil)))) (pss_cons (ps_for (passes_of rfl) rfl (pi_range1 (by rfl) T.gb_range (pa_cons (pe_call (ok__law_take T) (hr.mono (by decide)) rfl T.g__law_take T.F__law_take.kp bind__law_take .nil passE (pa_cons (pv 0) (pa_cons pe_int pa_nil))) pa_nil)) (pg_name (i := 6) sc__law_wishes.nd rfl (Or.inl rfl)) (pss_cons (ps_set (i := 9) sc__law_wishes.nd rfl (Or.inl rfl) (pe_call (ok__law_take T) (hr.mono (by decide)) rfl T.g__law_take T.F__law_take.kp bind__law_take .nil passE (pa_cons (pv 0) (pa_cons (pv 4) pa_nil)))) (pss_cons (ps_expr (show PE _ _ (tBM K "list" rAppend _ _) from pe_bm PySem.F.plainAttrs_list PySem.F.slot_list_append PySem.F.type_list_append mt_append (pv 3) (pa_cons (pe_tup (pa_cons (pe_op op_add (pv 5) (pv 9)) (pa_cons (pe_op op_add (pv 5) (pe_call (ok__law_from T) (hr.mono (by decide)) rfl T.g__law_from T.F__law_from.kp bind__law_from .nil passE (pa_cons (pv 0) (pa_cons (pe_op op_add (pv 9) pe_int) (pa_cons (pv 4) pa_nil))))) pa_nil))) pa_nil))) pss_nil))) (pss_cons (ps_ret (pv 3)) pss_nil)))))))), ?_⟩
    refine qm_asg (E := E) (K := K) (σ := [some (.ref p0), some v_desks, none, none, none, none, none, none, none, none, none]) (i := 2) (m_callM (i := 0) rfl (am_pure (a_one (x_int (i := 3))))) hs hc0 (Rt.mono _ (Ex.refl _) exz hx0) hm fun kind_1 v_2 ws_8 I_3 C_9 H_4 e_5 s_6 hc_10 k_11 hx_12 r_7 hm => ?_
    have fr_13 := fr_pool (off_ex (C := C0) (p := p0)) k_11
    refine q_asgN (E := E) (K := K) (σ := [some (.ref p0), some v_desks, some v_2, none, none, none, none, none, none, none, none]) (i := 3) (n_lst (R := (pT (tc pI (t1 pI)))) al_nil (by decide)) s_6 (fun _ _ h => h.elim) hm fun wishes_14 p_15 vs_16 I_17 C_18 H_19 e_20 hp_21 s_22 hc_23 k_24 hl_25 hr_26 hm => ?_
    have ne_27 := ne_new hc_10 hp_21
    have hB_28 := Ex.free fr_13 hp_21
    have hc_29 := (k_24 _ ne_27).trans hc_10
    have fr_30 := fr_keep fr_13 hB_28 k_24
    refine s_if (E := E) (K := K) (σ := [some (.ref p0), some v_desks, some v_2, some (.ref p_15), none, none, none, none, none, none, none]) (t_test (x_op o_eqI (x_var (i := 2) rfl (Rp.mono _ e_20 exz r_7)) (x_int (i := 2)))) s_22 (fun _ _ h => h.elim) hm (fun I_31 H_32 e_33 s_34 hm => ?_) (fun I_35 H_36 e_37 s_38 hm => ?_)
    · refine qm_asg (E := E) (K := K) (σ := [some (.ref p0), some v_desks, some v_2, some (.ref p_15), none, none, none, none, none, none, none]) (i := 4) (m_callM (i := 0) rfl (am_pure (a_cons (x_int (i := 1)) (a_one (x_op o_fdiv (x_int (i := 20)) (x_var (i := 1) rfl (Rp.mono _ (e_5.trans (e_20.trans e_33)) exz r_desks))))))) s_34 hc_29 (Rt.mono _ (e_20.trans e_33) exz hx_12) hm fun width_39 v_40 ws_46 I_41 C_47 H_42 e_43 s_44 hc_48 k_49 hx_50 r_45 hm => ?_
      have hc_51 := (k_49 _ (Ne.symm ne_27)).trans hc_23
      have fr_52 := fr_pool fr_30 k_49
      refine qm_asg (E := E) (K := K) (σ := [some (.ref p0), some v_desks, some v_2, some (.ref p_15), some v_40, none, none, none, none, none, none]) (i := 5) (m_callM (i := 0) rfl (am_pure (a_one (x_op o_sub (x_int (i := 61)) (x_var (i := 4) rfl (Rp.mono _ (Ex.refl _) exz r_45)))))) s_44 hc_48 (Rt.mono _ (Ex.refl _) exz hx_50) hm fun base_53 v_54 ws_60 I_55 C_61 H_56 e_57 s_58 hc_62 k_63 hx_64 r_59 hm => ?_
      have hc_65 := (k_63 _ (Ne.symm ne_27)).trans hc_51
      have fr_66 := fr_pool fr_52 k_63
      refine s_forN (E := E) (K := K) (σ := [some (.ref p0), some v_desks, some v_2, some (.ref p_15), some v_40, some v_54, none, none, none, none, none]) (fun (z_67 : ((List (Int × Int)) × Pl)) σ2 I_72 C_73 => ∃ w_69 : Option V, ∃ w_70 : Option V, ∃ w_71 : Option V, σ2 = [some (.ref p0), some v_desks, some v_2, some (.ref p_15), some v_40, some v_54, w_69, w_70, w_71, none, none] ∧ (∃ vs_74 : List V, C_73 p_15 = some (.lst vs_74) ∧ vs_74.length ≤ sizeLine ∧ A2 (fun x u => Rp.r (pT (tc pI (t1 pI))) x u I_72 Z) z_67.1 vs_74) ∧ (∃ ws_78 : List V, C_73 p0 = some (.lst ws_78) ∧ Rt.r pM z_67.2 ws_78 I_72 Z) ∧ Ex (off C0 p0) C_73) (i_rng1 (a_one (x_op o_mul (x_var (i := 1) rfl (Rp.mono _ (e_5.trans (e_20.trans (e_33.trans (e_43.trans e_57)))) exz r_desks)) (x_var (i := 4) rfl (Rp.mono _ e_57 exz r_45))))) s_58 (fun _ _ h => h.elim) hm (fun _ e_90 => ⟨none, none, none, rfl, ⟨_, hc_65, hl_25, a2up (Ex.trans (e_33.trans (e_43.trans e_57)) e_90) hr_26⟩, ⟨_, hc_62, Rt.mono _ (Ex.trans (Ex.refl _) e_90) exz hx_64⟩, fr_66⟩) (fun _ _ _ _ _ => trivial) (fun _ _ _ _ _ e ⟨w_69, w_70, w_71, hs_68, ⟨vs_74, hc_75, hl_76, hr_77⟩, ⟨ws_78, hc_79, hx_80⟩, fr_81⟩ => ⟨w_69, w_70, w_71, hs_68, ⟨vs_74, hc_75, hl_76, a2up e hr_77⟩, ⟨ws_78, hc_79, Rt.mono _ e exz hx_80⟩, fr_81⟩) (fun N x_82 v_83 z_67 σ2 I_84 C_85 H_86 e_87 s_88 ⟨w_69, w_70, w_71, hs_68, ⟨vs_74, hc_75, hl_76, hr_77⟩, ⟨ws_78, hc_79, hx_80⟩, fr_81⟩ r_89 hm => ?_) (fun z_135 σ2 I_130 C_131 H_132 e_133 s_134 ⟨w_137, w_138, w_139, hs_136, ⟨vs_142, hc_143, hl_144, hr_145⟩, ⟨ws_146, hc_147, hx_148⟩, fr_149⟩ hm => ?_)
      · subst hs_68
        refine g1 (K := K) x_82 v_83 I_84 C_85 H_86 _ s_88 r_89 fun σ2 ⟨v_91, hs_93, r_92⟩ => ?_
        subst hs_93
        refine q_asg (E := E) (K := K) (σ := [some (.ref p0), some v_desks, some v_2, some (.ref p_15), some v_40, some v_54, some v_91, w_70, w_71, none, none]) (i := 7) (x_op o_fdiv (x_var (i := 6) rfl (Rp.mono _ (Ex.refl _) exz r_92)) (x_var (i := 1) rfl (Rp.mono _ (e_5.trans (e_20.trans (e_33.trans (e_43.trans (e_57.trans e_87))))) exz r_desks))) s_88 (fun _ _ h => h.elim) hm fun minute_94 v_95 I_96 H_97 e_98 s_99 r_100 hm => ?_
        refine qm_asg (E := E) (K := K) (σ := [some (.ref p0), some v_desks, some v_2, some (.ref p_15), some v_40, some v_54, some v_91, some v_95, w_71, none, none]) (i := 8) (m_callM (i := 0) rfl (am_pure (a_cons (x_op o_add (x_var (i := 7) rfl (Rp.mono _ (Ex.refl _) exz r_100)) (x_int (i := 1))) (a_one (x_var (i := 4) rfl (Rp.mono _ (e_57.trans (e_87.trans e_98)) exz r_45)))))) s_99 hc_79 (Rt.mono _ e_98 exz hx_80) hm fun closes_101 v_102 ws_108 I_103 C_109 H_104 e_105 s_106 hc_110 k_111 hx_112 r_107 hm => ?_
        have hc_113 := (k_111 _ (Ne.symm ne_27)).trans hc_75
        have fr_114 := fr_pool fr_81 k_111
        refine qm_app (E := E) (K := K) (σ := [some (.ref p0), some v_desks, some v_2, some (.ref p_15), some v_40, some v_54, some v_91, some v_95, some v_102, none, none]) (i := 3) rfl hc_113 (Ne.symm ne_27) (a2up (e_98.trans e_105) hr_77) (m_tup (am_cons off_same (m_op (fun _ => o_add) off_same (m_pure (x_var (i := 5) rfl (Rp.mono _ (e_87.trans (e_98.trans e_105)) exz r_59))) (m_callM (i := 0) rfl (am_pure (a_one (x_op o_add (x_var (i := 7) rfl (Rp.mono _ e_105 exz r_100)) (x_int (i := 1))))))) (am_one (m_pure (x_op o_add (x_var (i := 5) rfl (Rp.mono _ (e_87.trans (e_98.trans e_105)) exz r_59)) (x_var (i := 8) rfl (Rp.mono _ (Ex.refl _) exz r_107)))))) (Nat.le_of_ble_eq_true rfl)) s_106 hc_110 (Rt.mono _ (Ex.refl _) exz hx_112) hm fun wishes_115 vs_116 ws_117 I_118 C_119 H_120 e_121 s_122 hc_123 hc_124 k_125 hl_126 hr_127 hx_128 hm => ?_
        have fr_129 := fr_pool2 fr_114 hB_28 k_125
        exact hm _ _ _ _ (e_98.trans (e_105.trans e_121)) s_122 ⟨some v_91, some v_95, some v_102, rfl, ⟨_, hc_123, hl_126, a2up (Ex.refl _) hr_127⟩, ⟨_, hc_124, Rt.mono _ (Ex.refl _) exz hx_128⟩, fr_129⟩
      subst hs_136
      refine qm_ifj (E := E) (K := K) (σ := [some (.ref p0), some v_desks, some v_2, some (.ref p_15), some v_40, some v_54, w_137, w_138, w_139, none, none]) (fun (z_170 : (Pl × (List (Int × Int)))) σ2 I_173 C_174 => ∃ w_172 : Option V, σ2 = [some (.ref p0), some v_desks, some v_2, some (.ref p_15), some v_40, some v_54, w_137, w_138, w_139, w_172, none] ∧ (∃ ws_175 : List V, C_174 p0 = some (.lst ws_175) ∧ Rt.r pM z_170.1 ws_175 I_173 Z) ∧ (∃ vs_178 : List V, C_174 p_15 = some (.lst vs_178) ∧ vs_178.length ≤ sizeLine ∧ A2 (fun x u => Rp.r (pT (tc pI (t1 pI))) x u I_173 Z) z_170.2 vs_178) ∧ Ex (off C0 p0) C_174) (tm_and off_same (tm_pure (t_test (x_op o_lt (x_cb o_len (a_one (x_cell (i := 3) rfl ((off_ne (Ne.symm ne_27)).trans hc_143) hl_144 (a2up (Ex.refl _) hr_145)))) (x_int (i := 20))))) (tm_test (m_op (fun _ => o_eqI) off_same (m_callM (i := 0) rfl (am_pure (a_one (x_int (i := 2))))) (m_pure (x_int (i := 0)))))) s_134 hc_147 (Rt.mono _ (Ex.refl _) exz hx_148) hm (fun N y_158 ws_159 I_150 C_160 H_151 e_152 s_153 hc_161 k_162 hx_163 hm => ?_) (fun N y_164 ws_165 I_154 C_166 H_155 e_156 s_157 hc_167 k_168 hx_169 hm => ?_) (fun z_170 σ2 I_216 C_217 H_218 e_219 s_220 ⟨w_172, hs_171, ⟨ws_175, hc_176, hx_177⟩, ⟨vs_178, hc_179, hl_180, hr_181⟩, fr_182⟩ hm => ?_)
      · have hc_183 := (k_162 _ (Ne.symm ne_27)).trans hc_143
        have fr_184 := fr_pool fr_149 k_162
        refine qm_asg (E := E) (K := K) (σ := [some (.ref p0), some v_desks, some v_2, some (.ref p_15), some v_40, some v_54, w_137, w_138, w_139, none, none]) (i := 9) (m_callM (i := 0) rfl (am_pure (a_one (x_var (i := 4) rfl (Rp.mono _ (e_57.trans (e_133.trans e_152)) exz r_45))))) s_153 hc_161 (Rt.mono _ (Ex.refl _) exz hx_163) hm fun opens_185 v_186 ws_192 I_187 C_193 H_188 e_189 s_190 hc_194 k_195 hx_196 r_191 hm => ?_
        have hc_197 := (k_195 _ (Ne.symm ne_27)).trans hc_183
        have fr_198 := fr_pool fr_184 k_195
        refine qm_app (E := E) (K := K) (σ := [some (.ref p0), some v_desks, some v_2, some (.ref p_15), some v_40, some v_54, w_137, w_138, w_139, some v_186, none]) (i := 3) rfl hc_197 (Ne.symm ne_27) (a2up (e_152.trans e_189) hr_145) (m_tup (am_cons off_same (m_pure (x_op o_add (x_var (i := 5) rfl (Rp.mono _ (e_133.trans (e_152.trans e_189)) exz r_59)) (x_var (i := 9) rfl (Rp.mono _ (Ex.refl _) exz r_191)))) (am_one (m_op (fun _ => o_add) off_same (m_pure (x_var (i := 5) rfl (Rp.mono _ (e_133.trans (e_152.trans e_189)) exz r_59))) (m_callM (i := 0) rfl (am_pure (a_cons (x_op o_add (x_var (i := 9) rfl (Rp.mono _ (Ex.refl _) exz r_191)) (x_int (i := 1))) (a_one (x_var (i := 4) rfl (Rp.mono _ (e_57.trans (e_133.trans (e_152.trans e_189))) exz r_45))))))))) (Nat.le_of_ble_eq_true rfl)) s_190 hc_194 (Rt.mono _ (Ex.refl _) exz hx_196) hm fun wishes_199 vs_200 ws_201 I_202 C_203 H_204 e_205 s_206 hc_207 hc_208 k_209 hl_210 hr_211 hx_212 hm => ?_
        have fr_213 := fr_pool2 fr_198 hB_28 k_209
        exact hm _ _ _ _ (e_152.trans (e_189.trans e_205)) s_206 ⟨some v_186, rfl, ⟨_, hc_208, Rt.mono _ (Ex.refl _) exz hx_212⟩, ⟨_, hc_207, hl_210, a2up (Ex.refl _) hr_211⟩, fr_213⟩
      · have hc_214 := (k_168 _ (Ne.symm ne_27)).trans hc_143
        have fr_215 := fr_pool fr_149 k_168
        exact hm _ _ _ _ e_156 s_157 ⟨none, rfl, ⟨_, hc_167, Rt.mono _ (Ex.refl _) exz hx_169⟩, ⟨_, hc_214, hl_144, a2up e_156 hr_145⟩, fr_215⟩
      subst hs_171
      obtain ⟨I_221, C_222, e_223, s_224, h_225, k_226⟩ := freeze s_220 hc_179
      have r_228 := frz_list e_223 h_225 hl_180 hr_181
      have hc_229 := (k_226 _ ne_27).trans hc_176
      have fr_230 := fr_keep fr_182 hB_28 k_226
      refine qm_asg (E := E) (K := K) (σ := [some (.ref p0), some v_desks, some v_2, some (.ref p_15), some v_40, some v_54, w_137, w_138, w_139, w_172, none]) (i := 10) (m_callM (i := 0) rfl (am_pure (a_one (x_cb o_len (a_one (x_v (x_var (i := 3) rfl (Rp.mono _ (Ex.refl _) exz r_228)))))))) s_224 hc_229 (Rt.mono _ e_223 exz hx_177) hm fun shift_231 v_232 ws_238 I_233 C_239 H_234 e_235 s_236 hc_240 k_241 hx_242 r_237 hm => ?_
      have fr_243 := fr_pool fr_230 k_241
      refine q_ret (E := E) (K := K) (σ := [some (.ref p0), some v_desks, some v_2, some (.ref p_15), some v_40, some v_54, w_137, w_138, w_139, w_172, some v_232]) (x_op o_cat (x_v (x_sl (x_v (x_var (i := 3) rfl (Rp.mono _ e_235 exz r_228))) (p_some (x_var (i := 10) rfl (Rp.mono _ (Ex.refl _) exz r_237))) p_none)) (x_v (x_sl (x_v (x_var (i := 3) rfl (Rp.mono _ e_235 exz r_228))) p_none (p_some (x_var (i := 10) rfl (Rp.mono _ (Ex.refl _) exz r_237)))))) s_236 (fun _ _ h => h.elim) hm fun a_244 v_245 I_246 H_247 e_248 s_249 r_250 hm => ?_
      exact ret_pool hm (e_5.trans (e_20.trans (e_33.trans (e_43.trans (e_57.trans (e_133.trans (e_219.trans (e_223.trans (e_235.trans e_248))))))))) fr_243 s_249 hc_240 (Rt.mono _ e_248 exz hx_242) r_250
    · refine q_asg (E := E) (K := K) (σ := [some (.ref p0), some v_desks, some v_2, some (.ref p_15), none, none, none, none, none, none, none]) (i := 4) (x_int (i := 60)) s_38 (fun _ _ h => h.elim) hm fun width_251 v_252 I_253 H_254 e_255 s_256 r_257 hm => ?_
      refine s_ifj (E := E) (K := K) (σ := [some (.ref p0), some v_desks, some v_2, some (.ref p_15), some v_252, none, none, none, none, none, none]) (fun (z_266 : (Pl × Int)) σ2 I_268 C_269 => ∃ v_273 : V, σ2 = [some (.ref p0), some v_desks, some v_2, some (.ref p_15), some v_273, none, none, none, none, none, none] ∧ (∃ ws_270 : List V, C_269 p0 = some (.lst ws_270) ∧ Rt.r pM z_266.1 ws_270 I_268 Z) ∧ Rp.r pI z_266.2 v_273 I_268 Z ∧ C_269 p_15 = some (.lst vs_16) ∧ Ex (off C0 p0) C_269) (t_test (x_op o_eqI (x_var (i := 2) rfl (Rp.mono _ (e_20.trans (e_37.trans e_255)) exz r_7)) (x_int (i := 1)))) s_256 (fun _ _ h => h.elim) hm (fun N I_258 H_259 e_260 s_261 hm => ?_) (fun N I_262 H_263 e_264 s_265 hm => ?_) (fun z_266 σ2 I_291 C_292 H_293 e_294 s_295 ⟨v_273, hs_267, ⟨ws_270, hc_271, hx_272⟩, r_274, hc_275, fr_276⟩ hm => ?_)
      · refine qm_asg (E := E) (K := K) (σ := [some (.ref p0), some v_desks, some v_2, some (.ref p_15), some v_252, none, none, none, none, none, none]) (i := 4) (m_callM (i := 0) rfl (am_pure (a_cons (x_int (i := 1)) (a_one (x_int (i := 8)))))) s_261 hc_29 (Rt.mono _ (e_20.trans (e_37.trans (e_255.trans e_260))) exz hx_12) hm fun width_277 v_278 ws_284 I_279 C_285 H_280 e_281 s_282 hc_286 k_287 hx_288 r_283 hm => ?_
        have hc_289 := (k_287 _ (Ne.symm ne_27)).trans hc_23
        have fr_290 := fr_pool fr_30 k_287
        exact hm _ _ _ _ (e_260.trans e_281) s_282 ⟨v_278, rfl, ⟨_, hc_286, Rt.mono _ (Ex.refl _) exz hx_288⟩, Rp.mono _ (Ex.refl _) exz r_283, hc_289, fr_290⟩
      · exact hm _ _ _ _ e_264 s_265 ⟨v_252, rfl, ⟨_, hc_29, Rt.mono _ (e_20.trans (e_37.trans (e_255.trans e_264))) exz hx_12⟩, Rp.mono _ e_264 exz r_257, hc_23, fr_30⟩
      subst hs_267
      refine qm_asg (E := E) (K := K) (σ := [some (.ref p0), some v_desks, some v_2, some (.ref p_15), some v_273, none, none, none, none, none, none]) (i := 5) (m_callM (i := 0) rfl (am_pure (a_one (x_op o_sub (x_int (i := 61)) (x_var (i := 4) rfl (Rp.mono _ (Ex.refl _) exz r_274)))))) s_295 hc_271 (Rt.mono _ (Ex.refl _) exz hx_272) hm fun base_296 v_297 ws_303 I_298 C_304 H_299 e_300 s_301 hc_305 k_306 hx_307 r_302 hm => ?_
      have hc_308 := (k_306 _ (Ne.symm ne_27)).trans hc_275
      have fr_309 := fr_pool fr_276 k_306
      refine qm_forN (E := E) (K := K) (σ := [some (.ref p0), some v_desks, some v_2, some (.ref p_15), some v_273, some v_297, none, none, none, none, none]) (s0 := fun (y_333 : Pl) => (wishes_14, y_333)) (fun (z_310 : ((List (Int × Int)) × Pl)) σ2 I_314 C_315 => ∃ w_312 : Option V, ∃ w_313 : Option V, σ2 = [some (.ref p0), some v_desks, some v_2, some (.ref p_15), some v_273, some v_297, w_312, none, none, w_313, none] ∧ (∃ vs_316 : List V, C_315 p_15 = some (.lst vs_316) ∧ vs_316.length ≤ sizeLine ∧ A2 (fun x u => Rp.r (pT (tc pI (t1 pI))) x u I_314 Z) z_310.1 vs_316) ∧ (∃ ws_320 : List V, C_315 p0 = some (.lst ws_320) ∧ Rt.r pM z_310.2 ws_320 I_314 Z) ∧ Ex (off C0 p0) C_315) (im_rng1 (am_one (m_callM (i := 0) rfl (am_pure (a_one (x_int (i := 21))))))) s_301 hc_305 (Rt.mono _ (Ex.refl _) exz hx_307) hm (fun y_333 ws_334 I_335 C_336 e_332 hc_337 k_338 hx_339 => by
      have hc_340 := (k_338 _ (Ne.symm ne_27)).trans hc_308
      have fr_341 := fr_pool fr_309 k_338
      exact ⟨none, none, rfl, ⟨_, hc_340, hl_25, a2up (e_37.trans (e_255.trans (e_294.trans (e_300.trans e_332)))) hr_26⟩, ⟨_, hc_337, Rt.mono _ (Ex.refl _) exz hx_339⟩, fr_341⟩) (fun _ _ _ _ _ e ⟨w_312, w_313, hs_311, ⟨vs_316, hc_317, hl_318, hr_319⟩, ⟨ws_320, hc_321, hx_322⟩, fr_323⟩ => ⟨w_312, w_313, hs_311, ⟨vs_316, hc_317, hl_318, a2up e hr_319⟩, ⟨ws_320, hc_321, Rt.mono _ e exz hx_322⟩, fr_323⟩) (fun N x_324 v_325 z_310 σ2 I_326 C_327 H_328 e_329 s_330 ⟨w_312, w_313, hs_311, ⟨vs_316, hc_317, hl_318, hr_319⟩, ⟨ws_320, hc_321, hx_322⟩, fr_323⟩ r_331 hm => ?_) (fun z_379 σ2 I_374 C_375 H_376 e_377 s_378 ⟨w_381, w_382, hs_380, ⟨vs_385, hc_386, hl_387, hr_388⟩, ⟨ws_389, hc_390, hx_391⟩, fr_392⟩ hm => ?_)
      · subst hs_311
        refine g1 (K := K) x_324 v_325 I_326 C_327 H_328 _ s_330 r_331 fun σ2 ⟨v_342, hs_344, r_343⟩ => ?_
        subst hs_344
        refine qm_asg (E := E) (K := K) (σ := [some (.ref p0), some v_desks, some v_2, some (.ref p_15), some v_273, some v_297, some v_342, none, none, w_313, none]) (i := 9) (m_callM (i := 0) rfl (am_pure (a_one (x_var (i := 4) rfl (Rp.mono _ (e_300.trans e_329) exz r_274))))) s_330 hc_321 (Rt.mono _ (Ex.refl _) exz hx_322) hm fun opens_345 v_346 ws_352 I_347 C_353 H_348 e_349 s_350 hc_354 k_355 hx_356 r_351 hm => ?_
        have hc_357 := (k_355 _ (Ne.symm ne_27)).trans hc_317
        have fr_358 := fr_pool fr_323 k_355
        refine qm_app (E := E) (K := K) (σ := [some (.ref p0), some v_desks, some v_2, some (.ref p_15), some v_273, some v_297, some v_342, none, none, some v_346, none]) (i := 3) rfl hc_357 (Ne.symm ne_27) (a2up e_349 hr_319) (m_tup (am_cons off_same (m_pure (x_op o_add (x_var (i := 5) rfl (Rp.mono _ (e_329.trans e_349) exz r_302)) (x_var (i := 9) rfl (Rp.mono _ (Ex.refl _) exz r_351)))) (am_one (m_op (fun _ => o_add) off_same (m_pure (x_var (i := 5) rfl (Rp.mono _ (e_329.trans e_349) exz r_302))) (m_callM (i := 0) rfl (am_pure (a_cons (x_op o_add (x_var (i := 9) rfl (Rp.mono _ (Ex.refl _) exz r_351)) (x_int (i := 1))) (a_one (x_var (i := 4) rfl (Rp.mono _ (e_300.trans (e_329.trans e_349)) exz r_274))))))))) (Nat.le_of_ble_eq_true rfl)) s_350 hc_354 (Rt.mono _ (Ex.refl _) exz hx_356) hm fun wishes_359 vs_360 ws_361 I_362 C_363 H_364 e_365 s_366 hc_367 hc_368 k_369 hl_370 hr_371 hx_372 hm => ?_
        have fr_373 := fr_pool2 fr_358 hB_28 k_369
        exact hm _ _ _ _ (e_349.trans e_365) s_366 ⟨some v_342, some v_346, rfl, ⟨_, hc_367, hl_370, a2up (Ex.refl _) hr_371⟩, ⟨_, hc_368, Rt.mono _ (Ex.refl _) exz hx_372⟩, fr_373⟩
      subst hs_380
      obtain ⟨I_393, C_394, e_395, s_396, h_397, k_398⟩ := freeze s_378 hc_386
      have r_400 := frz_list e_395 h_397 hl_387 hr_388
      have hc_401 := (k_398 _ ne_27).trans hc_390
      have fr_402 := fr_keep fr_392 hB_28 k_398
      refine q_ret (E := E) (K := K) (σ := [some (.ref p0), some v_desks, some v_2, some (.ref p_15), some v_273, some v_297, w_381, none, none, w_382, none]) (x_var (i := 3) rfl (Rp.mono _ (Ex.refl _) exz r_400)) s_396 (fun _ _ h => h.elim) hm fun a_403 v_404 I_405 H_406 e_407 s_408 r_409 hm => ?_
      exact ret_pool hm (e_5.trans (e_20.trans (e_37.trans (e_255.trans (e_294.trans (e_300.trans (e_377.trans (e_395.trans e_407)))))))) fr_402 s_408 hc_401 (Rt.mono _ (e_395.trans e_407) exz hx_391) r_409
def m__law_inside (a_wishes : (List (Int × Int))) (a_start : Int) (a_end : Int) : Res Int :=
  ((un rLen ((Res.ok a_wishes).bind (filR (fun (x_1 : (Int × Int)) => (andR (bin rLe (Res.ok a_start) (un (fun p => Res.ok p.1) (Res.ok x_1))) (bin rLe (un (fun p => Res.ok p.2) (Res.ok x_1)) (Res.ok a_end)))) (fun (x_1 : (Int × Int)) => (Res.ok x_1))))).bind fun a_8 => Res.ok a_8)
abbrev N__law_inside : List Str := ["wishes", "start", "end", "wish"]
theorem sc__law_inside : FnScope N__law_inside ["wishes", "start", "end"] (defScope s__law_inside) := ⟨rfl, rfl, rfl, by decide +kernel, rfl, by decide +kernel, by decide +kernel⟩
theorem bind__law_inside {K : PySem.W.Frag} {mg : Str → Option Value} {T : Tx K mg} : Binds K T.d__law_inside ["wishes", "start", "end"] [] := FunD.bindsN T.F__law_inside fun _ _ _ _ _ _ us hl => match us, hl with | [_, _, _], _ => rfl
abbrev sp__law_inside (K : PySem.W.Frag) : Sp := spP K (tc (pL (pT (tc pI (t1 pI)))) (tc pI (t1 pI))) (fun (p : ((List (Int × Int)) × Int × Int)) => m__law_inside p.1 p.2.1 p.2.2) pI
theorem ok__law_inside (T : Tx K mg) : FnOk P w K mg base (L2.CX P w) 1 T.f__law_inside T.d__law_inside ["wishes", "start", "end"] (sp__law_inside K) := by
  refine T.F__law_inside.ok sc__law_inside (fun vs H Q E h => ?_) (fun cdv A outer s H vs Q E hr h => ?_)
  · obtain ⟨I, C, a, _, hr, _⟩ := h
    exact Rt.len _ hr
  · obtain ⟨I0, C0, ⟨a_wishes, a_start, a_end⟩, hs, ⟨v_wishes, us0, rfl, r_wishes, v_start, us1, rfl, r_start, v_end, rfl, r_end⟩, hm⟩ := h
    have hm : Post (m__law_inside a_wishes a_start a_end) (PQ pI I0 C0 Q) (PX E K I0 C0) := hm
    replace r_wishes : Rp.r (pL (pT (tc pI (t1 pI)))) a_wishes v_wishes I0 Z := Im.im r_wishes
    replace r_start : Rp.r pI a_start v_start I0 Z := Im.im r_start
    replace r_end : Rp.r pI a_end v_end I0 Z := Im.im r_end
    unfold m__law_inside at hm
    refine ⟨_, (pss_cons (ps_ret (pe_callB (r := rLen1 K) call_len_seq (by rfl) T.gb_len bt_len (pa_cons (pe_lc (own := [("wish", 3)]) rfl sc__law_inside.nd (show PI _ _ _ (iList K _) from pi_list (pv 0)) (blkOk_by (own := [("wish", 3)]) (N := N__law_inside) (sc := defScope s__law_inside) (by decide +kernel)) (fun _ _ _ _ _ => (pg_name (i := 3) sc__law_inside.nd rfl (Or.inl rfl))) (fun _ _ _ _ _ => (pts_one (PW.pt (pw_and (pt_cmpR op_le (pv 1) (pe_ix (r := rIxT K) ix_tup (pv 3) pe_int (fun _ _ => rfl)) (nomark _)) (pw_and1 (pt_cmpR op_le (pe_ix (r := rIxT K) ix_tup (pv 3) pe_int (fun _ _ => rfl)) (pv 2) (nomark _))))))) (fun _ _ _ _ _ => (pv 3))) pa_nil))) pss_nil), ?_⟩
    refine q_ret (E := E) (K := K) (σ := [some v_wishes, some v_start, some v_end, none]) (x_cb o_len (a_one (x_v (x_lcg (i_list (x_var (i := 0) rfl (Rp.mono _ (Ex.refl _) exz r_wishes))) g1 (fun _ _ _ _ ⟨_, h, _⟩ => by rw [h]; rfl) (fun x_1 σ2 I_2 C_3 e_4 c_5 ⟨v_6, h, r_7⟩ => by subst h; exact (t_and (t_test (x_op o_le (x_var (i := 1) rfl (Rp.mono _ e_4 exz r_start)) (x_k (k := ((0 : Nat) : Int)) (o_pj pj0) (x_var (i := 3) rfl (Rp.mono _ (Ex.refl _) exz r_7))))) (t_test (x_op o_le (x_k (k := ((1 : Nat) : Int)) (o_pj (pjs pj1)) (x_var (i := 3) rfl (Rp.mono _ (Ex.refl _) exz r_7))) (x_var (i := 2) rfl (Rp.mono _ e_4 exz r_end)))))) (fun x_1 σ2 I_2 C_3 e_4 c_5 ⟨v_6, h, r_7⟩ => by subst h; exact (x_var (i := 3) rfl (Rp.mono _ (Ex.refl _) exz r_7))) (fun _ _ _ _ _ e ⟨v_6, h, r_7⟩ => ⟨v_6, h, Rp.mono _ e exz r_7⟩))))) hs (fun _ _ h => PX.mono (Ex.refl _) (Ex.refl _) h) hm fun a_8 v_9 I_10 H_11 e_12 s_13 r_14 hm => ?_
    exact hm v_9 I_10 H_11 e_12 (St.less s_13 (Ex.refl _)) (Im.im r_14)
def m__law_first_crowd (a_wishes : (List (Int × Int))) (a_desks : Int) : Res (Option (Int × Int)) :=
  (((un rng1 (Res.ok (60 : Int))).bind fun xs => loopR (fun (x_8 : Int) (z_1 : Unit) => (((un rng2 (pair (bin rAdd (Res.ok x_8) (Res.ok (1 : Int))) (Res.ok (61 : Int)))).bind fun xs => loopR (fun (x_26 : Int) (z_20 : Unit) => (ifR (bin rGt (un (fun (p : ((List (Int × Int)) × Int × Int)) => m__law_inside p.1 p.2.1 p.2.2) (pair (Res.ok a_wishes) (pair (Res.ok x_8) (Res.ok x_26)))) (bin rMul (Res.ok a_desks) (bin rSub (Res.ok x_26) (Res.ok x_8)))) ((un someR' (pair (Res.ok x_8) (Res.ok x_26))).bind fun a_46 => Res.ok (Out.rt a_46)) (Res.ok (Out.nx ())))) xs ()).bind fun (o : Out Unit (Option (Int × Int))) => match o with | .nx z_58 => (Res.ok (Out.nx ())) | .br _ => Res.bad | .rt r => Res.ok (Out.rt r))) xs ()).bind fun (o : Out Unit (Option (Int × Int))) => match o with | .nx z_69 => ((Res.ok none).bind fun a_76 => Res.ok a_76) | .br _ => Res.bad | .rt r => Res.ok r)
abbrev N__law_first_crowd : List Str := ["wishes", "desks", "start", "end"]
theorem sc__law_first_crowd : FnScope N__law_first_crowd ["wishes", "desks"] (defScope s__law_first_crowd) := ⟨rfl, rfl, rfl, by decide +kernel, rfl, by decide +kernel, by decide +kernel⟩
theorem bind__law_first_crowd {K : PySem.W.Frag} {mg : Str → Option Value} {T : Tx K mg} : Binds K T.d__law_first_crowd ["wishes", "desks"] [] := FunD.bindsN T.F__law_first_crowd fun _ _ _ _ _ _ us hl => match us, hl with | [_, _], _ => rfl
abbrev sp__law_first_crowd (K : PySem.W.Frag) : Sp := spP K (tc (pL (pT (tc pI (t1 pI)))) (t1 pI)) (fun (p : ((List (Int × Int)) × Int)) => m__law_first_crowd p.1 p.2) (pO (pT (tc pI (t1 pI))))
theorem ok__law_first_crowd (T : Tx K mg) : FnOk P w K mg base (L2.CX P w) 2 T.f__law_first_crowd T.d__law_first_crowd ["wishes", "desks"] (sp__law_first_crowd K) := by
  refine T.F__law_first_crowd.ok sc__law_first_crowd (fun vs H Q E h => ?_) (fun cdv A outer s H vs Q E hr h => ?_)
  · obtain ⟨I, C, a, _, hr, _⟩ := h
    exact Rt.len _ hr
  · obtain ⟨I0, C0, ⟨a_wishes, a_desks⟩, hs, ⟨v_wishes, us0, rfl, r_wishes, v_desks, rfl, r_desks⟩, hm⟩ := h
    have hm : Post (m__law_first_crowd a_wishes a_desks) (PQ (pO (pT (tc pI (t1 pI)))) I0 C0 Q) (PX E K I0 C0) := hm
    replace r_wishes : Rp.r (pL (pT (tc pI (t1 pI)))) a_wishes v_wishes I0 Z := Im.im r_wishes
    replace r_desks : Rp.r pI a_desks v_desks I0 Z := Im.im r_desks
    unfold m__law_first_crowd at hm
    refine ⟨_, (pss_cons (ps_for (passes_of rfl) rfl (pi_range1 (by rfl) T.gb_range (pa_cons pe_int pa_nil)) (pg_name (i := 2) sc__law_first_crowd.nd rfl (Or.inl rfl)) (pss_cons (ps_for (passes_of rfl) rfl (pi_range2 (by rfl) T.gb_range (pa_cons (pe_op op_add (pv 2) pe_int) (pa_cons pe_int pa_nil))) (pg_name (i := 3) sc__law_first_crowd.nd rfl (Or.inl rfl)) (pss_cons (ps_if (pt_cmpR op_gt (pe_call (ok__law_inside T) (hr.mono (by decide)) rfl T.g__law_inside T.F__law_inside.kp bind__law_inside .nil passE (pa_cons (pv 0) (pa_cons (pv 2) (pa_cons (pv 3) pa_nil)))) (pe_op op_mul (pv 1) (pe_op op_sub (pv 3) (pv 2))) (nomark _)) (pss_cons (ps_ret (pe_tup (pa_cons (pv 2) (pa_cons (pv 3) pa_nil)))) pss_nil) pss_nil) pss_nil)) pss_nil)) (pss_cons (ps_ret pe_non) pss_nil)), ?_⟩
    refine s_forR (E := E) (K := K) (σ := [some v_wishes, some v_desks, none, none]) (fun (z_1 : Unit) σ2 I_5 C_6 => ∃ w_3 : Option V, ∃ w_4 : Option V, σ2 = [some v_wishes, some v_desks, w_3, w_4] ∧ Ex C0 C_6) (i_rng1 (a_one (x_int (i := 60)))) hs (fun _ _ h => PX.mono (Ex.refl _) (Ex.refl _) h) hm (fun _ e_16 => ⟨none, none, rfl, (Ex.refl _)⟩) (fun _ _ _ _ _ => trivial) (fun _ _ _ _ _ e ⟨w_3, w_4, hs_2, fr_7⟩ => ⟨w_3, w_4, hs_2, fr_7⟩) (fun N x_8 v_9 z_1 σ2 I_10 C_11 H_12 e_13 s_14 ⟨w_3, w_4, hs_2, fr_7⟩ r_15 hm => ?_) (fun z_69 σ2 I_64 C_65 H_66 e_67 s_68 ⟨w_71, w_72, hs_70, fr_75⟩ hm => ?_)
    · subst hs_2
      refine g1 (K := K) x_8 v_9 I_10 C_11 H_12 _ s_14 r_15 fun σ2 ⟨v_17, hs_19, r_18⟩ => ?_
      subst hs_19
      refine s_forR (E := E) (K := K) (σ := [some v_wishes, some v_desks, some v_17, w_4]) (fun (z_20 : Unit) σ2 I_23 C_24 => ∃ w_22 : Option V, σ2 = [some v_wishes, some v_desks, some v_17, w_22] ∧ Ex C0 C_24) (i_rng2 (a_cons (x_op o_add (x_var (i := 2) rfl (Rp.mono _ (Ex.refl _) exz r_18)) (x_int (i := 1))) (a_one (x_int (i := 61))))) s_14 (fun _ _ h => PX.mono e_13 fr_7 h) hm (fun _ e_34 => ⟨w_4, rfl, fr_7⟩) (fun _ _ _ _ _ => trivial) (fun _ _ _ _ _ e ⟨w_22, hs_21, fr_25⟩ => ⟨w_22, hs_21, fr_25⟩) (fun N x_26 v_27 z_20 σ2 I_28 C_29 H_30 e_31 s_32 ⟨w_22, hs_21, fr_25⟩ r_33 hm => ?_) (fun z_58 σ2 I_53 C_54 H_55 e_56 s_57 ⟨w_60, hs_59, fr_63⟩ hm => ?_)
      · subst hs_21
        refine g1 (K := K) x_26 v_27 I_28 C_29 H_30 _ s_32 r_33 fun σ2 ⟨v_35, hs_37, r_36⟩ => ?_
        subst hs_37
        refine s_if (E := E) (K := K) (σ := [some v_wishes, some v_desks, some v_17, some v_35]) (t_test (x_op o_gt (x_call (a_cons (x_var (i := 0) rfl (Rp.mono _ (e_13.trans e_31) exz r_wishes)) (a_cons (x_var (i := 2) rfl (Rp.mono _ e_31 exz r_18)) (a_one (x_var (i := 3) rfl (Rp.mono _ (Ex.refl _) exz r_36)))))) (x_op o_mul (x_var (i := 1) rfl (Rp.mono _ (e_13.trans e_31) exz r_desks)) (x_op o_sub (x_var (i := 3) rfl (Rp.mono _ (Ex.refl _) exz r_36)) (x_var (i := 2) rfl (Rp.mono _ e_31 exz r_18)))))) s_32 (fun _ _ h => PX.mono (e_13.trans e_31) fr_25 h) hm (fun I_38 H_39 e_40 s_41 hm => ?_) (fun I_42 H_43 e_44 s_45 hm => ?_)
        · refine q_ret (E := E) (K := K) (σ := [some v_wishes, some v_desks, some v_17, some v_35]) (x_some (x_tup (a_cons (x_var (i := 2) rfl (Rp.mono _ (e_31.trans e_40) exz r_18)) (a_one (x_var (i := 3) rfl (Rp.mono _ e_40 exz r_36)))) (Nat.le_of_ble_eq_true rfl))) s_41 (fun _ _ h => PX.mono (e_13.trans (e_31.trans e_40)) fr_25 h) hm fun a_46 v_47 I_48 H_49 e_50 s_51 r_52 hm => ?_
          exact hm v_47 I_48 H_49 (e_13.trans (e_31.trans (e_40.trans e_50))) (St.less s_51 fr_25) (Im.im r_52)
        · exact hm _ _ _ _ e_44 s_45 ⟨some v_35, rfl, fr_25⟩
      subst hs_59
      exact hm _ _ _ _ e_56 s_57 ⟨some v_17, w_60, rfl, fr_63⟩
    subst hs_70
    refine q_ret (E := E) (K := K) (σ := [some v_wishes, some v_desks, w_71, w_72]) (x_none (R := (pT (tc pI (t1 pI))))) s_68 (fun _ _ h => PX.mono e_67 fr_75 h) hm fun a_76 v_77 I_78 H_79 e_80 s_81 r_82 hm => ?_
    exact hm v_77 I_78 H_79 (e_67.trans e_80) (St.less s_81 fr_75) (Im.im r_82)
def m__law_is_int (a_value : Int) : Res Bool :=
  ((andR (un (fun _ => Res.ok true) (pair (Res.ok a_value) (Res.ok ()))) (un notR (un (fun _ => Res.ok false) (pair (Res.ok a_value) (Res.ok ()))))).bind fun a_1 => Res.ok a_1)
abbrev N__law_is_int : List Str := ["value"]
theorem sc__law_is_int : FnScope N__law_is_int ["value"] (defScope s__law_is_int) := ⟨rfl, rfl, rfl, by decide +kernel, rfl, by decide +kernel, by decide +kernel⟩
theorem bind__law_is_int {K : PySem.W.Frag} {mg : Str → Option Value} {T : Tx K mg} : Binds K T.d__law_is_int ["value"] [] := FunD.bindsN T.F__law_is_int fun _ _ _ _ _ _ us hl => match us, hl with | [_], _ => rfl
abbrev sp__law_is_int (K : PySem.W.Frag) : Sp := spP K (t1 pI) m__law_is_int pB
theorem ok__law_is_int (T : Tx K mg) : FnOk P w K mg base (L2.CX P w) 1 T.f__law_is_int T.d__law_is_int ["value"] (sp__law_is_int K) := by
  refine T.F__law_is_int.ok sc__law_is_int (fun vs H Q E h => ?_) (fun cdv A outer s H vs Q E hr h => ?_)
  · obtain ⟨I, C, a, _, hr, _⟩ := h
    exact Rt.len _ hr
  · obtain ⟨I0, C0, a_value, hs, ⟨v_value, rfl, r_value⟩, hm⟩ := h
    have hm : Post (m__law_is_int a_value) (PQ pB I0 C0 Q) (PX E K I0 C0) := hm
    replace r_value : Rp.r pI a_value v_value I0 Z := Im.im r_value
    unfold m__law_is_int at hm
    refine ⟨_, (pss_cons (ps_ret (pe_and (pe_callB (r := rIsi K) call_isi (by rfl) T.gb_isinstance bt_isinstance (pa_cons (pv 0) (pa_cons (pe_bltn (v := .ty "int") rfl T.gb_int bt_int rfl) pa_nil))) (pe_one (pe_not (pe_callB (r := rIsi K) call_isi (by rfl) T.gb_isinstance bt_isinstance (pa_cons (pv 0) (pa_cons (pe_bltn (v := .ty "bool") rfl T.gb_bool bt_bool rfl) pa_nil))))))) pss_nil), ?_⟩
    refine q_ret (E := E) (K := K) (σ := [some v_value]) (x_andV (x_cb (o_isi (n := "int") (by decide +kernel)) (a_cons (x_var (i := 0) rfl (Rp.mono _ (Ex.refl _) exz r_value)) (a_one (x_c (R := pY "int") (a := ()) fun _ _ => rfl)))) (x_notV (x_cb (o_isi (n := "int") (by decide +kernel)) (a_cons (x_var (i := 0) rfl (Rp.mono _ (Ex.refl _) exz r_value)) (a_one (x_c (R := pY "bool") (a := ()) fun _ _ => rfl)))))) hs (fun _ _ h => PX.mono (Ex.refl _) (Ex.refl _) h) hm fun a_1 v_2 I_3 H_4 e_5 s_6 r_7 hm => ?_
    exact hm v_2 I_3 H_4 e_5 (St.less s_6 (Ex.refl _)) (Im.im r_7)
def m__law_is_right_plan (a_wishes : (List (Int × Int))) (a_desks : Int) (a_plan : (List Int)) : Res Bool :=
  (ifR (bin neR (un rLen (Res.ok a_plan)) (un rLen (Res.ok a_wishes))) ((Res.ok false).bind fun a_9 => Res.ok a_9) (((un rng1 (un rLen (Res.ok a_plan))).bind fun xs => loopR (fun (x_22 : Int) (z_16 : Unit) => (ifR (bin neR (bin ix (Res.ok a_plan) (Res.ok x_22)) (un rNeg (Res.ok (1 : Int)))) (ifR (orR (bin rLt (bin ix (Res.ok a_plan) (Res.ok x_22)) (un (fun p => Res.ok p.1) (bin ix (Res.ok a_wishes) (Res.ok x_22)))) (bin rGe (bin ix (Res.ok a_plan) (Res.ok x_22)) (un (fun p => Res.ok p.2) (bin ix (Res.ok a_wishes) (Res.ok x_22))))) ((Res.ok false).bind fun a_50 => Res.ok (Out.rt a_50)) (ifR (bin rGt (un rLen ((Res.ok a_plan).bind (filR (fun (x_57 : Int) => (bin eqR (Res.ok x_57) (bin ix (Res.ok a_plan) (Res.ok x_22)))) (fun (x_57 : Int) => (Res.ok x_57))))) (Res.ok a_desks)) ((Res.ok false).bind fun a_72 => Res.ok (Out.rt a_72)) (Res.ok (Out.nx ())))) (Res.ok (Out.nx ())))) xs ()).bind fun (o : Out Unit Bool) => match o with | .nx z_84 => ((Res.ok true).bind fun a_90 => Res.ok a_90) | .br _ => Res.bad | .rt r => Res.ok r))
abbrev N__law_is_right_plan : List Str := ["wishes", "desks", "plan", "k", "minute"]
theorem sc__law_is_right_plan : FnScope N__law_is_right_plan ["wishes", "desks", "plan"] (defScope s__law_is_right_plan) := ⟨rfl, rfl, rfl, by decide +kernel, rfl, by decide +kernel, by decide +kernel⟩
theorem bind__law_is_right_plan {K : PySem.W.Frag} {mg : Str → Option Value} {T : Tx K mg} : Binds K T.d__law_is_right_plan ["wishes", "desks", "plan"] [] := FunD.bindsN T.F__law_is_right_plan fun _ _ _ _ _ _ us hl => match us, hl with | [_, _, _], _ => rfl
abbrev sp__law_is_right_plan (K : PySem.W.Frag) : Sp := spP K (tc (pL (pT (tc pI (t1 pI)))) (tc pI (t1 (pL pI)))) (fun (p : ((List (Int × Int)) × Int × (List Int))) => m__law_is_right_plan p.1 p.2.1 p.2.2) pB
theorem ok__law_is_right_plan (T : Tx K mg) : FnOk P w K mg base (L2.CX P w) 1 T.f__law_is_right_plan T.d__law_is_right_plan ["wishes", "desks", "plan"] (sp__law_is_right_plan K) := by
  refine T.F__law_is_right_plan.ok sc__law_is_right_plan (fun vs H Q E h => ?_) (fun cdv A outer s H vs Q E hr h => ?_)
  · obtain ⟨I, C, a, _, hr, _⟩ := h
    exact Rt.len _ hr
  · obtain ⟨I0, C0, ⟨a_wishes, a_desks, a_plan⟩, hs, ⟨v_wishes, us0, rfl, r_wishes, v_desks, us1, rfl, r_desks, v_plan, rfl, r_plan⟩, hm⟩ := h
    have hm : Post (m__law_is_right_plan a_wishes a_desks a_plan) (PQ pB I0 C0 Q) (PX E K I0 C0) := hm
    replace r_wishes : Rp.r (pL (pT (tc pI (t1 pI)))) a_wishes v_wishes I0 Z := Im.im r_wishes
    replace r_desks : Rp.r pI a_desks v_desks I0 Z := Im.im r_desks
    replace r_plan : Rp.r (pL pI) a_plan v_plan I0 Z := Im.im r_plan
    unfold m__law_is_right_plan at hm
    refine ⟨_, (pss_cons (ps_if (pt_cmpR op_ne (pe_callB (r := rLen1 K) call_len_seq (by rfl) T.gb_len bt_len (pa_cons (pv 2) pa_nil)) (pe_callB (r := rLen1 K) call_len_seq (by rfl) T.gb_len bt_len (pa_cons (pv 0) pa_nil)) (nomark _)) (pss_cons (ps_ret pe_bl) pss_nil) pss_nil) (pss_cons (ps_for (passes_of rfl) rfl (pi_range1 (by rfl) T.gb_range (pa_cons (pe_callB (r := rLen1 K) call_len_seq (by rfl) T.gb_len bt_len (pa_cons (pv 2) pa_nil)) pa_nil)) (pg_name (i := 3) sc__law_is_right_plan.nd rfl (Or.inr rfl)) (pss_cons (ps_if (pt_cmpR op_ne (pe_ix (r := rIxL K) ix_list (pv 2) (pv 3) (fun _ _ => rfl)) (pe_un un_neg pe_int) (nomark _)) (pss_cons (ps_if (PW.pt (pw_or (pt_cmpR op_lt (pe_ix (r := rIxL K) ix_list (pv 2) (pv 3) (fun _ _ => rfl)) (pe_ix (r := rIxT K) ix_tup (pe_ix (r := rIxL K) ix_list (pv 0) (pv 3) (fun _ _ => rfl)) pe_int (fun _ _ => rfl)) (nomark _)) (pw_or1 (pt_cmpR op_ge (pe_ix (r := rIxL K) ix_list (pv 2) (pv 3) (fun _ _ => rfl)) (pe_ix (r := rIxT K) ix_tup (pe_ix (r := rIxL K) ix_list (pv 0) (pv 3) (fun _ _ => rfl)) pe_int (fun _ _ => rfl)) (nomark _))))) (pss_cons (ps_ret pe_bl) pss_nil) pss_nil) (pss_cons (ps_if (pt_cmpR op_gt (pe_callB (r := rLen1 K) call_len_seq (by rfl) T.gb_len bt_len (pa_cons (pe_lc (own := [("minute", 4)]) rfl sc__law_is_right_plan.nd (show PI _ _ _ (iList K _) from pi_list (pv 2)) (blkOk_by (own := [("minute", 4)]) (N := N__law_is_right_plan) (sc := defScope s__law_is_right_plan) (by decide +kernel)) (fun _ _ _ _ _ => (pg_name (i := 4) sc__law_is_right_plan.nd rfl (Or.inl rfl))) (fun _ _ _ _ _ => (pts_one (pt_cmpR op_eq (pv 4) (pe_ix (r := rIxL K) ix_list (pv 2) (pv 3) (fun _ _ => rfl)) (nomark _)))) (fun _ _ _ _ _ => (pv 4))) pa_nil)) (pv 1) (nomark _)) (pss_cons (ps_ret pe_bl) pss_nil) pss_nil) pss_nil)) pss_nil) pss_nil)) (pss_cons (ps_ret pe_bl) pss_nil))), ?_⟩
    refine s_if (E := E) (K := K) (σ := [some v_wishes, some v_desks, some v_plan, none, none]) (t_test (x_op o_neI (x_cb o_len (a_one (x_v (x_var (i := 2) rfl (Rp.mono _ (Ex.refl _) exz r_plan))))) (x_cb o_len (a_one (x_v (x_var (i := 0) rfl (Rp.mono _ (Ex.refl _) exz r_wishes))))))) hs (fun _ _ h => PX.mono (Ex.refl _) (Ex.refl _) h) hm (fun I_1 H_2 e_3 s_4 hm => ?_) (fun I_5 H_6 e_7 s_8 hm => ?_)
    · refine q_ret (E := E) (K := K) (σ := [some v_wishes, some v_desks, some v_plan, none, none]) x_bl s_4 (fun _ _ h => PX.mono e_3 (Ex.refl _) h) hm fun a_9 v_10 I_11 H_12 e_13 s_14 r_15 hm => ?_
      exact hm v_10 I_11 H_12 (e_3.trans e_13) (St.less s_14 (Ex.refl _)) (Im.im r_15)
    · refine s_forR (E := E) (K := K) (σ := [some v_wishes, some v_desks, some v_plan, none, none]) (fun (z_16 : Unit) σ2 I_19 C_20 => ∃ w_18 : Option V, σ2 = [some v_wishes, some v_desks, some v_plan, w_18, none] ∧ Ex C0 C_20) (i_rng1 (a_one (x_cb o_len (a_one (x_v (x_var (i := 2) rfl (Rp.mono _ e_7 exz r_plan))))))) s_8 (fun _ _ h => PX.mono e_7 (Ex.refl _) h) hm (fun _ e_30 => ⟨none, rfl, (Ex.refl _)⟩) (fun _ _ _ _ _ => trivial) (fun _ _ _ _ _ e ⟨w_18, hs_17, fr_21⟩ => ⟨w_18, hs_17, fr_21⟩) (fun N x_22 v_23 z_16 σ2 I_24 C_25 H_26 e_27 s_28 ⟨w_18, hs_17, fr_21⟩ r_29 hm => ?_) (fun z_84 σ2 I_79 C_80 H_81 e_82 s_83 ⟨w_86, hs_85, fr_89⟩ hm => ?_)
      · subst hs_17
        refine g1 (K := K) x_22 v_23 I_24 C_25 H_26 _ s_28 r_29 fun σ2 ⟨v_31, hs_33, r_32⟩ => ?_
        subst hs_33
        refine s_if (E := E) (K := K) (σ := [some v_wishes, some v_desks, some v_plan, some v_31, none]) (t_test (x_op o_neI (x_op o_ix (x_v (x_var (i := 2) rfl (Rp.mono _ (e_7.trans e_27) exz r_plan))) (x_var (i := 3) rfl (Rp.mono _ (Ex.refl _) exz r_32))) (x_un o_neg (x_int (i := 1))))) s_28 (fun _ _ h => PX.mono (e_7.trans e_27) fr_21 h) hm (fun I_34 H_35 e_36 s_37 hm => ?_) (fun I_38 H_39 e_40 s_41 hm => ?_)
        · refine s_if (E := E) (K := K) (σ := [some v_wishes, some v_desks, some v_plan, some v_31, none]) (t_or (t_test (x_op o_lt (x_op o_ix (x_v (x_var (i := 2) rfl (Rp.mono _ (e_7.trans (e_27.trans e_36)) exz r_plan))) (x_var (i := 3) rfl (Rp.mono _ e_36 exz r_32))) (x_k (k := ((0 : Nat) : Int)) (o_pj pj0) (x_op o_ix (x_v (x_var (i := 0) rfl (Rp.mono _ (e_7.trans (e_27.trans e_36)) exz r_wishes))) (x_var (i := 3) rfl (Rp.mono _ e_36 exz r_32)))))) (t_test (x_op o_ge (x_op o_ix (x_v (x_var (i := 2) rfl (Rp.mono _ (e_7.trans (e_27.trans e_36)) exz r_plan))) (x_var (i := 3) rfl (Rp.mono _ e_36 exz r_32))) (x_k (k := ((1 : Nat) : Int)) (o_pj (pjs pj1)) (x_op o_ix (x_v (x_var (i := 0) rfl (Rp.mono _ (e_7.trans (e_27.trans e_36)) exz r_wishes))) (x_var (i := 3) rfl (Rp.mono _ e_36 exz r_32))))))) s_37 (fun _ _ h => PX.mono (e_7.trans (e_27.trans e_36)) fr_21 h) hm (fun I_42 H_43 e_44 s_45 hm => ?_) (fun I_46 H_47 e_48 s_49 hm => ?_)
          · refine q_ret (E := E) (K := K) (σ := [some v_wishes, some v_desks, some v_plan, some v_31, none]) x_bl s_45 (fun _ _ h => PX.mono (e_7.trans (e_27.trans (e_36.trans e_44))) fr_21 h) hm fun a_50 v_51 I_52 H_53 e_54 s_55 r_56 hm => ?_
            exact hm v_51 I_52 H_53 (e_7.trans (e_27.trans (e_36.trans (e_44.trans e_54)))) (St.less s_55 fr_21) (Im.im r_56)
          · refine s_if (E := E) (K := K) (σ := [some v_wishes, some v_desks, some v_plan, some v_31, none]) (t_test (x_op o_gt (x_cb o_len (a_one (x_v (x_lcg (i_list (x_var (i := 2) rfl (Rp.mono _ (e_7.trans (e_27.trans (e_36.trans e_48))) exz r_plan))) g1 (fun _ _ _ _ ⟨_, h, _⟩ => by rw [h]; rfl) (fun x_57 σ2 I_58 C_59 e_60 c_61 ⟨v_62, h, r_63⟩ => by subst h; exact (t_test (x_op o_eqI (x_var (i := 4) rfl (Rp.mono _ (Ex.refl _) exz r_63)) (x_op o_ix (x_v (x_var (i := 2) rfl (Rp.mono _ (e_7.trans (e_27.trans (e_36.trans (e_48.trans e_60)))) exz r_plan))) (x_var (i := 3) rfl (Rp.mono _ (e_36.trans (e_48.trans e_60)) exz r_32)))))) (fun x_57 σ2 I_58 C_59 e_60 c_61 ⟨v_62, h, r_63⟩ => by subst h; exact (x_var (i := 4) rfl (Rp.mono _ (Ex.refl _) exz r_63))) (fun _ _ _ _ _ e ⟨v_62, h, r_63⟩ => ⟨v_62, h, Rp.mono _ e exz r_63⟩))))) (x_var (i := 1) rfl (Rp.mono _ (e_7.trans (e_27.trans (e_36.trans e_48))) exz r_desks)))) s_49 (fun _ _ h => PX.mono (e_7.trans (e_27.trans (e_36.trans e_48))) fr_21 h) hm (fun I_64 H_65 e_66 s_67 hm => ?_) (fun I_68 H_69 e_70 s_71 hm => ?_)
            · refine q_ret (E := E) (K := K) (σ := [some v_wishes, some v_desks, some v_plan, some v_31, none]) x_bl s_67 (fun _ _ h => PX.mono (e_7.trans (e_27.trans (e_36.trans (e_48.trans e_66)))) fr_21 h) hm fun a_72 v_73 I_74 H_75 e_76 s_77 r_78 hm => ?_
              exact hm v_73 I_74 H_75 (e_7.trans (e_27.trans (e_36.trans (e_48.trans (e_66.trans e_76))))) (St.less s_77 fr_21) (Im.im r_78)
            · exact hm _ _ _ _ (e_36.trans (e_48.trans e_70)) s_71 ⟨some v_31, rfl, fr_21⟩
        · exact hm _ _ _ _ e_40 s_41 ⟨some v_31, rfl, fr_21⟩
      subst hs_85
      refine q_ret (E := E) (K := K) (σ := [some v_wishes, some v_desks, some v_plan, w_86, none]) x_bl s_83 (fun _ _ h => PX.mono (e_7.trans e_82) fr_89 h) hm fun a_90 v_91 I_92 H_93 e_94 s_95 r_96 hm => ?_
      exact hm v_91 I_92 H_93 (e_7.trans (e_82.trans e_94)) (St.less s_95 fr_89) (Im.im r_96)
def m__law_changed_plans (a_wishes : (List (Int × Int))) (a_plan : (List Int)) (a_pool : Pl) : Res ((List (List Int)) × Pl) :=
  ((consR ((Res.ok a_wishes).bind (mapR (fun (x_1 : (Int × Int)) => (un rNeg (Res.ok (1 : Int)))))) (consR (slR (Res.ok a_plan) (Res.ok none) (someR (un rNeg (Res.ok (1 : Int))))) (consR (bin rCatR (Res.ok a_plan) (consR (un rNeg (Res.ok (1 : Int))) (Res.ok []))) (consR ((Res.ok a_wishes).bind (mapR (fun (x_8 : (Int × Int)) => (un (fun p => Res.ok p.1) (Res.ok x_8))))) (Res.ok []))))).bind fun (plans_15 : (List (List Int))) => (((un rng1 (Res.ok (6 : Int))).bind fun xs => loopN (fun (x_50 : Int) (z_32 : ((List (List Int)) × Pl)) => (ifR (bin rGt (un rLen (Res.ok a_wishes)) (Res.ok (0 : Int))) (((callM m__law_take (liftM (un rLen (Res.ok a_wishes)))) z_32.2).bind fun (k_70 : Int × Pl) => (((binM ix (liftM (consR (un rNeg (Res.ok (2 : Int))) (consR (un rNeg (Res.ok (1 : Int))) (consR (bin rSub (un (fun p => Res.ok p.1) (bin ix (Res.ok a_wishes) (Res.ok k_70.1))) (Res.ok (1 : Int))) (consR (un (fun p => Res.ok p.1) (bin ix (Res.ok a_wishes) (Res.ok k_70.1))) (consR (bin rSub (un (fun p => Res.ok p.2) (bin ix (Res.ok a_wishes) (Res.ok k_70.1))) (Res.ok (1 : Int))) (consR (un (fun p => Res.ok p.2) (bin ix (Res.ok a_wishes) (Res.ok k_70.1))) (Res.ok [])))))))) (callM m__law_take (liftM (Res.ok (6 : Int))))) k_70.2).bind fun (minute_84 : Int × Pl) => (((bin rCatR (bin rCatR (slR (Res.ok a_plan) (Res.ok none) (someR (Res.ok k_70.1))) (consR (Res.ok minute_84.1) (Res.ok []))) (slR (Res.ok a_plan) (someR (bin rAdd (Res.ok k_70.1) (Res.ok (1 : Int)))) (Res.ok none))).bind fun x => push z_32.1 x).bind fun (plans_98 : (List (List Int))) => (((un rng1 (un rLen (Res.ok a_wishes))).bind (filR (fun (x_111 : Int) => ((un (fun p => Res.ok p.1) (bin ix (Res.ok a_wishes) (Res.ok x_111))).bind fun a => (bin ix (Res.ok a_plan) (Res.ok k_70.1)).bind fun b => (rLe a b).bind fun k => if k = true then (un (fun p => Res.ok p.2) (bin ix (Res.ok a_wishes) (Res.ok x_111))).bind fun c => rLt b c else Res.ok false)) (fun (x_111 : Int) => (Res.ok x_111)))).bind fun (near_118 : (List Int)) => ((un idR (Res.ok a_plan)).bind fun (crowded_125 : (List Int)) => ((((slM (Res.ok near_118) (liftM (Res.ok none)) (unM (fun i => Res.ok (some i)) (callM m__law_take (liftM (Res.ok (8 : Int)))))) minute_84.2).bind fun b => loopN (fun (x_158 : Int) (z_144 : ((List Int) × Pl)) => (((bin ix (Res.ok a_plan) (Res.ok k_70.1)).bind fun x => (Res.ok x_158).bind fun j => setR z_144.1 j x).bind fun (crowded_180 : (List Int)) => (Res.ok (crowded_180, z_144.2)))) b.1 ((fun (y_167 : Pl) => (crowded_125, y_167)) b.2)).bind fun (z_199 : ((List Int) × Pl)) => (((Res.ok z_199.1).bind fun x => push plans_98 x).bind fun (plans_224 : (List (List Int))) => (Res.ok (plans_224, z_199.2))))))))) (Res.ok (z_32.1, z_32.2)))) xs (plans_15, a_pool)).bind fun (z_243 : ((List (List Int)) × Pl)) => ((Res.ok z_243.1).bind fun a_271 => Res.ok (a_271, z_243.2))))
abbrev N__law_changed_plans : List Str := ["pool", "wishes", "plan", "plans", "turn", "k", "minute", "near", "crowded", "other", "wish"]
theorem sc__law_changed_plans : FnScope N__law_changed_plans ["pool", "wishes", "plan"] (defScope s__law_changed_plans) := ⟨rfl, rfl, rfl, by decide +kernel, rfl, by decide +kernel, by decide +kernel⟩
theorem bind__law_changed_plans {K : PySem.W.Frag} {mg : Str → Option Value} {T : Tx K mg} : Binds K T.d__law_changed_plans ["pool", "wishes", "plan"] [] := FunD.bindsN T.F__law_changed_plans fun _ _ _ _ _ _ us hl => match us, hl with | [_, _, _], _ => rfl
abbrev sp__law_changed_plans (K : PySem.W.Frag) : Sp := spM pM (tc (pL (pT (tc pI (t1 pI)))) (t1 (pL pI))) (fun (p : ((List (Int × Int)) × (List Int))) => m__law_changed_plans p.1 p.2) (pL (pL pI))
theorem ok__law_changed_plans (T : Tx K mg) : FnOk P w K mg base (L2.CX P w) 4 T.f__law_changed_plans T.d__law_changed_plans ["pool", "wishes", "plan"] (sp__law_changed_plans K) := by
  refine T.F__law_changed_plans.ok sc__law_changed_plans (fun vs H Q E h => ?_) (fun cdv A outer s H vs Q E hr h => ?_)
  · obtain ⟨I, C, p, ws, us, x, a, rfl, _, _, _, hr, _⟩ := h
    exact congrArg (· + 1) (Rt.len _ hr)
  · obtain ⟨I0, C0, p0, ws0, us, a_pool, ⟨a_wishes, a_plan⟩, rfl, hs, hc0, hx1, ⟨v_wishes, us0, rfl, r_wishes, v_plan, rfl, r_plan⟩, hm⟩ := h
    have hx0 := It.im (C' := Z) hx1
    have hm : Post (m__law_changed_plans a_wishes a_plan a_pool) (PM p0 pM (pL (pL pI)) I0 C0 Q) XF := hm
    replace r_wishes : Rp.r (pL (pT (tc pI (t1 pI)))) a_wishes v_wishes I0 Z := Im.im r_wishes
    replace r_plan : Rp.r (pL pI) a_plan v_plan I0 Z := Im.im r_plan
    unfold m__law_changed_plans at hm
    refine ⟨_, (pss_cons (ps_set (i := 3) sc__law_changed_plans.nd rfl (Or.inl rfl) (pe_lst (pa_cons (pe_lc (own := [("wish", 10)]) rfl sc__law_changed_plans.nd (show PI _ _ _ (iList K _) from pi_list (pv 1)) (blkOk_by (own := [("wish", 10)]) (N := N__law_changed_plans) (sc := defScope s__law_changed_plans) (by decide +kernel)) (fun _ _ _ _ _ => (pg_name (i := 10) sc__law_changed_plans.nd rfl (Or.inl rfl))) (fun _ _ _ _ _ => pts_nil) (fun _ _ _ _ _ => (pe_un un_neg pe_int))) (pa_cons (pe_slice (r := rSlL K) sl_list (pv 2) po_none (po_some (pe_un un_neg pe_int))) (pa_cons (pe_op op_cat (pv 2) (pe_lst (pa_cons (pe_un un_neg pe_int) pa_nil))) (pa_cons (pe_lc (own := [("wish", 10)]) rfl sc__law_changed_plans.nd (show PI _ _ _ (iList K _) from pi_list (pv 1)) (blkOk_by (own := [("wish", 10)]) (N := N__law_changed_plans) (sc := defScope s__law_changed_plans) (by decide +kernel)) (fun _ _ _ _ _ => (pg_name (i := 10) sc__law_changed_plans.nd rfl (Or.inl rfl))) (fun _ _ _ _ _ => pts_nil) (fun _ _ _ _ _ => (pe_ix (r := rIxT K) ix_tup (pv 10) pe_int (fun _ _ => rfl)))) pa_nil)))))) (pss_cons (ps_for (passes_of rfl) rfl (pi_range1 (by rfl) T.gb_range (pa_cons pe_int pa_nil)) (pg_name (i := 4) sc__law_changed_plans.nd rfl (Or.inl rfl)) (pss_cons (ps_if (pt_cmpR op_gt (pe_callB (r := rLen1 K) call_len_seq (by rfl) T.gb_len bt_len (pa_cons (pv 1) pa_nil)) pe_int (nomark _)) (pss_cons (ps_set (i := 5) sc__law_changed_plans.nd rfl (Or.inr rfl) (pe_call (ok__law_take T) (hr.mono (by decide)) rfl T.g__law_take T.F__law_take.kp bind__law_take .nil passE (pa_cons (pv 0) (pa_cons (pe_callB (r := rLen1 K) call_len_seq (by rfl) T.gb_len bt_len (pa_cons (pv 1) pa_nil)) pa_nil)))) (pss_cons (ps_set (i := 6) sc__law_changed_plans.nd rfl (Or.inl rfl) (pe_ix (r := rIxL K) ix_list (pe_lst (pa_cons (pe_un un_neg pe_int) (pa_cons (pe_un un_neg pe_int) (pa_cons (pe_op op_sub (pe_ix (r := rIxT K) ix_tup (pe_ix (r := rIxL K) ix_list (pv 1) (pv 5) (fun _ _ => rfl)) pe_int (fun _ _ => rfl)) pe_int) (pa_cons (pe_ix (r := rIxT K) ix_tup (pe_ix (r := rIxL K) ix_list (pv 1) (pv 5) (fun _ _ => rfl)) pe_int (fun _ _ => rfl)) (pa_cons (pe_op op_sub (pe_ix (r := rIxT K) ix_tup (pe_ix (r := rIxL K) ix_list (pv 1) (pv 5) (fun _ _ => rfl)) pe_int (fun _ _ => rfl)) pe_int) (pa_cons (pe_ix (r := rIxT K) ix_tup (pe_ix (r := rIxL K) ix_list (pv 1) (pv 5) (fun _ _ => rfl)) pe_int (fun _ _ => rfl)) pa_nil))))))) (pe_call (ok__law_take T) (hr.mono (by decide)) rfl T.g__law_take T.F__law_take.kp bind__law_take .nil passE (pa_cons (pv 0) (pa_cons pe_int pa_nil))) (fun _ _ => rfl))) (pss_cons (ps_expr (show PE _ _ (tBM K "list" rAppend _ _) from pe_bm PySem.F.plainAttrs_list PySem.F.slot_list_append PySem.F.type_list_append mt_append (pv 3) (pa_cons (pe_op op_cat (pe_op op_cat (pe_slice (r := rSlL K) sl_list (pv 2) po_none (po_some (pv 5))) (pe_lst (pa_cons (pv 6) pa_nil))) (pe_slice (r := rSlL K) sl_list (pv 2) (po_some (pe_op op_add (pv 5) pe_int)) po_none)) pa_nil))) (pss_cons (ps_setLc (i := 7) (own := [("other", 9)]) rfl sc__law_changed_plans.nd rfl rfl (sw_true rfl rfl rfl (by decide +kernel)) (pi_range1 (by rfl) T.gb_range (pa_cons (pe_callB (r := rLen1 K) call_len_seq (by rfl) T.gb_len bt_len (pa_cons (pv 1) pa_nil)) pa_nil)) (blkOk_by (own := [("other", 9)]) (N := N__law_changed_plans) (sc := defScope s__law_changed_plans) (by decide +kernel)) (fun _ _ _ _ _ => (pg_name (i := 9) sc__law_changed_plans.nd rfl (Or.inl rfl))) (fun _ _ _ _ _ => (pts_one (pt_chain op_le op_lt (pe_ix (r := rIxT K) ix_tup (pe_ix (r := rIxL K) ix_list (pv 1) (pv 9) (fun _ _ => rfl)) pe_int (fun _ _ => rfl)) (pe_ix (r := rIxL K) ix_list (pv 2) (pv 5) (fun _ _ => rfl)) (pe_ix (r := rIxT K) ix_tup (pe_ix (r := rIxL K) ix_list (pv 1) (pv 9) (fun _ _ => rfl)) pe_int (fun _ _ => rfl))))) (fun _ _ _ _ _ => (pv 9))) (pss_cons (ps_set (i := 8) sc__law_changed_plans.nd rfl (Or.inl rfl) (pe_callTy (r := rList1 K) call_list_of (by rfl) T.gb_list bt_list (pa_cons (pv 2) pa_nil))) (pss_cons (ps_for (passes_of rfl) rfl (show PI _ _ _ (iList K _) from pi_list (pe_slice (r := rSlL K) sl_list (pv 7) po_none (po_some (pe_call (ok__law_take T) (hr.mono (by decide)) rfl T.g__law_take T.F__law_take.kp bind__law_take .nil passE (pa_cons (pv 0) (pa_cons pe_int pa_nil)))))) (pg_name (i := 9) sc__law_changed_plans.nd rfl (Or.inl rfl)) (pss_cons (ps_asg (pe_ix (r := rIxL K) ix_list (pv 2) (pv 5) (fun _ _ => rfl)) (pg_sub (pv 8) (pv 9) set_list)) pss_nil)) (pss_cons (ps_expr (show PE _ _ (tBM K "list" rAppend _ _) from pe_bm PySem.F.plainAttrs_list PySem.F.slot_list_append PySem.F.type_list_append mt_append (pv 3) (pa_cons (pv 8) pa_nil))) pss_nil))))))) pss_nil) pss_nil)) (pss_cons (ps_ret (pv 3)) pss_nil))), ?_⟩
    refine q_asgN (E := E) (K := K) (σ := [some (.ref p0), some v_wishes, some v_plan, none, none, none, none, none, none, none, none]) (i := 3) (n_lst (al_cons (x_lc (i_list (x_var (i := 1) rfl (Rp.mono _ (Ex.refl _) exz r_wishes))) g1 (fun _ _ _ _ ⟨_, h, _⟩ => by rw [h]; rfl) (fun x_1 σ2 I_2 C_3 e_4 c_5 ⟨v_6, h, r_7⟩ => by subst h; exact (x_un o_neg (x_int (i := 1)))) (fun _ _ _ _ _ e ⟨v_6, h, r_7⟩ => ⟨v_6, h, Rp.mono _ e exz r_7⟩)) (al_cons (x_sl (x_v (x_var (i := 2) rfl (Rp.mono _ (Ex.refl _) exz r_plan))) p_none (p_some (x_un o_neg (x_int (i := 1))))) (al_cons (x_op o_cat (x_v (x_var (i := 2) rfl (Rp.mono _ (Ex.refl _) exz r_plan))) (x_v (x_lst (al_cons (x_un o_neg (x_int (i := 1))) al_nil) (Nat.le_of_ble_eq_true rfl)))) (al_cons (x_lc (i_list (x_var (i := 1) rfl (Rp.mono _ (Ex.refl _) exz r_wishes))) g1 (fun _ _ _ _ ⟨_, h, _⟩ => by rw [h]; rfl) (fun x_8 σ2 I_9 C_10 e_11 c_12 ⟨v_13, h, r_14⟩ => by subst h; exact (x_k (k := ((0 : Nat) : Int)) (o_pj pj0) (x_var (i := 10) rfl (Rp.mono _ (Ex.refl _) exz r_14)))) (fun _ _ _ _ _ e ⟨v_13, h, r_14⟩ => ⟨v_13, h, Rp.mono _ e exz r_14⟩)) al_nil)))) (Nat.le_of_ble_eq_true rfl)) hs (fun _ _ h => h.elim) hm fun plans_15 p_16 vs_17 I_18 C_19 H_20 e_21 hp_22 s_23 hc_24 k_25 hl_26 hr_27 hm => ?_
    have ne_28 := ne_new hc0 hp_22
    have hB_29 := Ex.free (off_ex (C := C0) (p := p0)) hp_22
    have hc_30 := (k_25 _ ne_28).trans hc0
    have fr_31 := fr_keep (off_ex (C := C0) (p := p0)) hB_29 k_25
    refine s_forN (E := E) (K := K) (σ := [some (.ref p0), some v_wishes, some v_plan, some (.ref p_16), none, none, none, none, none, none, none]) (fun (z_32 : ((List (List Int)) × Pl)) σ2 I_40 C_41 => ∃ w_34 : Option V, ∃ w_35 : Option V, ∃ w_36 : Option V, ∃ w_37 : Option V, ∃ w_38 : Option V, ∃ w_39 : Option V, σ2 = [some (.ref p0), some v_wishes, some v_plan, some (.ref p_16), w_34, w_35, w_36, w_37, w_38, w_39, none] ∧ (∃ vs_42 : List V, C_41 p_16 = some (.lst vs_42) ∧ vs_42.length ≤ sizeLine ∧ A2 (fun x u => Rp.r (pL pI) x u I_40 Z) z_32.1 vs_42) ∧ (∃ ws_46 : List V, C_41 p0 = some (.lst ws_46) ∧ Rt.r pM z_32.2 ws_46 I_40 Z) ∧ Ex (off C0 p0) C_41) (i_rng1 (a_one (x_int (i := 6)))) s_23 (fun _ _ h => h.elim) hm (fun _ e_58 => ⟨none, none, none, none, none, none, rfl, ⟨_, hc_24, hl_26, a2up (Ex.trans (Ex.refl _) e_58) hr_27⟩, ⟨_, hc_30, Rt.mono _ (Ex.trans e_21 e_58) exz hx0⟩, fr_31⟩) (fun _ _ _ _ _ => trivial) (fun _ _ _ _ _ e ⟨w_34, w_35, w_36, w_37, w_38, w_39, hs_33, ⟨vs_42, hc_43, hl_44, hr_45⟩, ⟨ws_46, hc_47, hx_48⟩, fr_49⟩ => ⟨w_34, w_35, w_36, w_37, w_38, w_39, hs_33, ⟨vs_42, hc_43, hl_44, a2up e hr_45⟩, ⟨ws_46, hc_47, Rt.mono _ e exz hx_48⟩, fr_49⟩) (fun N x_50 v_51 z_32 σ2 I_52 C_53 H_54 e_55 s_56 ⟨w_34, w_35, w_36, w_37, w_38, w_39, hs_33, ⟨vs_42, hc_43, hl_44, hr_45⟩, ⟨ws_46, hc_47, hx_48⟩, fr_49⟩ r_57 hm => ?_) (fun z_243 σ2 I_238 C_239 H_240 e_241 s_242 ⟨w_245, w_246, w_247, w_248, w_249, w_250, hs_244, ⟨vs_253, hc_254, hl_255, hr_256⟩, ⟨ws_257, hc_258, hx_259⟩, fr_260⟩ hm => ?_)
    · subst hs_33
      refine g1 (K := K) x_50 v_51 I_52 C_53 H_54 _ s_56 r_57 fun σ2 ⟨v_59, hs_61, r_60⟩ => ?_
      subst hs_61
      refine s_if (E := E) (K := K) (σ := [some (.ref p0), some v_wishes, some v_plan, some (.ref p_16), some v_59, w_35, w_36, w_37, w_38, w_39, none]) (t_test (x_op o_gt (x_cb o_len (a_one (x_v (x_var (i := 1) rfl (Rp.mono _ (e_21.trans e_55) exz r_wishes))))) (x_int (i := 0)))) s_56 (fun _ _ h => h.elim) hm (fun I_62 H_63 e_64 s_65 hm => ?_) (fun I_66 H_67 e_68 s_69 hm => ?_)
      · refine qm_asg (E := E) (K := K) (σ := [some (.ref p0), some v_wishes, some v_plan, some (.ref p_16), some v_59, w_35, w_36, w_37, w_38, w_39, none]) (i := 5) (m_callM (i := 0) rfl (am_pure (a_one (x_cb o_len (a_one (x_v (x_var (i := 1) rfl (Rp.mono _ (e_21.trans (e_55.trans e_64)) exz r_wishes)))))))) s_65 hc_47 (Rt.mono _ e_64 exz hx_48) hm fun k_70 v_71 ws_77 I_72 C_78 H_73 e_74 s_75 hc_79 k_80 hx_81 r_76 hm => ?_
        have hc_82 := (k_80 _ (Ne.symm ne_28)).trans hc_43
        have fr_83 := fr_pool fr_49 k_80
        refine qm_asg (E := E) (K := K) (σ := [some (.ref p0), some v_wishes, some v_plan, some (.ref p_16), some v_59, some v_71, w_36, w_37, w_38, w_39, none]) (i := 6) (m_op (fun _ => (Op2.ofL o_ix)) off_same (m_pure (x_lst (al_cons (x_un o_neg (x_int (i := 2))) (al_cons (x_un o_neg (x_int (i := 1))) (al_cons (x_op o_sub (x_k (k := ((0 : Nat) : Int)) (o_pj pj0) (x_op o_ix (x_v (x_var (i := 1) rfl (Rp.mono _ (e_21.trans (e_55.trans (e_64.trans e_74))) exz r_wishes))) (x_var (i := 5) rfl (Rp.mono _ (Ex.refl _) exz r_76)))) (x_int (i := 1))) (al_cons (x_k (k := ((0 : Nat) : Int)) (o_pj pj0) (x_op o_ix (x_v (x_var (i := 1) rfl (Rp.mono _ (e_21.trans (e_55.trans (e_64.trans e_74))) exz r_wishes))) (x_var (i := 5) rfl (Rp.mono _ (Ex.refl _) exz r_76)))) (al_cons (x_op o_sub (x_k (k := ((1 : Nat) : Int)) (o_pj (pjs pj1)) (x_op o_ix (x_v (x_var (i := 1) rfl (Rp.mono _ (e_21.trans (e_55.trans (e_64.trans e_74))) exz r_wishes))) (x_var (i := 5) rfl (Rp.mono _ (Ex.refl _) exz r_76)))) (x_int (i := 1))) (al_cons (x_k (k := ((1 : Nat) : Int)) (o_pj (pjs pj1)) (x_op o_ix (x_v (x_var (i := 1) rfl (Rp.mono _ (e_21.trans (e_55.trans (e_64.trans e_74))) exz r_wishes))) (x_var (i := 5) rfl (Rp.mono _ (Ex.refl _) exz r_76)))) al_nil)))))) (Nat.le_of_ble_eq_true rfl))) (m_callM (i := 0) rfl (am_pure (a_one (x_int (i := 6)))))) s_75 hc_79 (Rt.mono _ (Ex.refl _) exz hx_81) hm fun minute_84 v_85 ws_91 I_86 C_92 H_87 e_88 s_89 hc_93 k_94 hx_95 r_90 hm => ?_
        have hc_96 := (k_94 _ (Ne.symm ne_28)).trans hc_82
        have fr_97 := fr_pool fr_83 k_94
        refine q_app (E := E) (K := K) (σ := [some (.ref p0), some v_wishes, some v_plan, some (.ref p_16), some v_59, some v_71, some v_85, w_37, w_38, w_39, none]) (i := 3) rfl hc_96 (a2up (e_64.trans (e_74.trans e_88)) hr_45) (x_op o_cat (x_v (x_op o_cat (x_v (x_sl (x_v (x_var (i := 2) rfl (Rp.mono _ (e_21.trans (e_55.trans (e_64.trans (e_74.trans e_88)))) exz r_plan))) p_none (p_some (x_var (i := 5) rfl (Rp.mono _ e_88 exz r_76))))) (x_v (x_lst (al_cons (x_var (i := 6) rfl (Rp.mono _ (Ex.refl _) exz r_90)) al_nil) (Nat.le_of_ble_eq_true rfl))))) (x_v (x_sl (x_v (x_var (i := 2) rfl (Rp.mono _ (e_21.trans (e_55.trans (e_64.trans (e_74.trans e_88)))) exz r_plan))) (p_some (x_op o_add (x_var (i := 5) rfl (Rp.mono _ e_88 exz r_76)) (x_int (i := 1)))) p_none))) s_89 (fun _ _ h => h.elim) hm fun plans_98 vs_99 I_100 C_101 H_102 e_103 s_104 hc_105 k_106 hl_107 hr_108 hm => ?_
        have hc_109 := (k_106 _ ne_28).trans hc_93
        have fr_110 := fr_keep fr_97 hB_29 k_106
        refine q_asg (E := E) (K := K) (σ := [some (.ref p0), some v_wishes, some v_plan, some (.ref p_16), some v_59, some v_71, some v_85, w_37, w_38, w_39, none]) (i := 7) (x_lcg (i_rng1 (a_one (x_cb o_len (a_one (x_v (x_var (i := 1) rfl (Rp.mono _ (e_21.trans (e_55.trans (e_64.trans (e_74.trans (e_88.trans e_103))))) exz r_wishes))))))) g1 (fun _ _ _ _ ⟨_, h, _⟩ => by rw [h]; rfl) (fun x_111 σ2 I_112 C_113 e_114 c_115 ⟨v_116, h, r_117⟩ => by subst h; exact (t_test (x_chain o_le o_lt (x_k (k := ((0 : Nat) : Int)) (o_pj pj0) (x_op o_ix (x_v (x_var (i := 1) rfl (Rp.mono _ (e_21.trans (e_55.trans (e_64.trans (e_74.trans (e_88.trans (e_103.trans e_114)))))) exz r_wishes))) (x_var (i := 9) rfl (Rp.mono _ (Ex.refl _) exz r_117)))) (x_op o_ix (x_v (x_var (i := 2) rfl (Rp.mono _ (e_21.trans (e_55.trans (e_64.trans (e_74.trans (e_88.trans (e_103.trans e_114)))))) exz r_plan))) (x_var (i := 5) rfl (Rp.mono _ (e_88.trans (e_103.trans e_114)) exz r_76))) (x_k (k := ((1 : Nat) : Int)) (o_pj (pjs pj1)) (x_op o_ix (x_v (x_var (i := 1) rfl (Rp.mono _ (e_21.trans (e_55.trans (e_64.trans (e_74.trans (e_88.trans (e_103.trans e_114)))))) exz r_wishes))) (x_var (i := 9) rfl (Rp.mono _ (Ex.refl _) exz r_117))))))) (fun x_111 σ2 I_112 C_113 e_114 c_115 ⟨v_116, h, r_117⟩ => by subst h; exact (x_var (i := 9) rfl (Rp.mono _ (Ex.refl _) exz r_117))) (fun _ _ _ _ _ e ⟨v_116, h, r_117⟩ => ⟨v_116, h, Rp.mono _ e exz r_117⟩)) s_104 (fun _ _ h => h.elim) hm fun near_118 v_119 I_120 H_121 e_122 s_123 r_124 hm => ?_
        refine q_asgN (E := E) (K := K) (σ := [some (.ref p0), some v_wishes, some v_plan, some (.ref p_16), some v_59, some v_71, some v_85, some v_119, w_38, w_39, none]) (i := 8) (n_cb n_list (a_one (x_v (x_var (i := 2) rfl (Rp.mono _ (e_21.trans (e_55.trans (e_64.trans (e_74.trans (e_88.trans (e_103.trans e_122)))))) exz r_plan))))) s_123 (fun _ _ h => h.elim) hm fun crowded_125 p_126 vs_127 I_128 C_129 H_130 e_131 hp_132 s_133 hc_134 k_135 hl_136 hr_137 hm => ?_
        have ne_138 := ne_new hc_109 hp_132
        have ne_139 := ne_new hc_105 hp_132
        have hB_140 := Ex.free fr_110 hp_132
        have hc_141 := (k_135 _ ne_138).trans hc_109
        have hc_142 := (k_135 _ ne_139).trans hc_105
        have fr_143 := fr_keep fr_110 hB_140 k_135
        refine qm_forN (E := E) (K := K) (σ := [some (.ref p0), some v_wishes, some v_plan, some (.ref p_16), some v_59, some v_71, some v_85, some v_119, some (.ref p_126), w_39, none]) (s0 := fun (y_167 : Pl) => (crowded_125, y_167)) (fun (z_144 : ((List Int) × Pl)) σ2 I_147 C_148 => ∃ w_146 : Option V, σ2 = [some (.ref p0), some v_wishes, some v_plan, some (.ref p_16), some v_59, some v_71, some v_85, some v_119, some (.ref p_126), w_146, none] ∧ (∃ vs_149 : List V, C_148 p_126 = some (.lst vs_149) ∧ vs_149.length ≤ sizeLine ∧ A2 (fun x u => Rp.r pI x u I_147 Z) z_144.1 vs_149) ∧ (∃ ws_153 : List V, C_148 p0 = some (.lst ws_153) ∧ Rt.r pM z_144.2 ws_153 I_147 Z) ∧ C_148 p_16 = some (.lst vs_99) ∧ Ex (off C0 p0) C_148) (im_list (m_sl off_same (x_var (i := 7) rfl (Rp.mono _ e_131 exz r_124)) (pm_pure p_none) (pm_some (m_callM (i := 0) rfl (am_pure (a_one (x_int (i := 8)))))))) s_133 hc_141 (Rt.mono _ (e_103.trans (e_122.trans e_131)) exz hx_95) hm (fun y_167 ws_168 I_169 C_170 e_166 hc_171 k_172 hx_173 => by
      have hc_174 := (k_172 _ (Ne.symm ne_28)).trans hc_142
      have hc_175 := (k_172 _ (Ne.symm ne_138)).trans hc_134
      have fr_176 := fr_pool fr_143 k_172
      exact ⟨w_39, rfl, ⟨_, hc_175, hl_136, a2up e_166 hr_137⟩, ⟨_, hc_171, Rt.mono _ (Ex.refl _) exz hx_173⟩, hc_174, fr_176⟩) (fun _ _ _ _ _ e ⟨w_146, hs_145, ⟨vs_149, hc_150, hl_151, hr_152⟩, ⟨ws_153, hc_154, hx_155⟩, hc_156, fr_157⟩ => ⟨w_146, hs_145, ⟨vs_149, hc_150, hl_151, a2up e hr_152⟩, ⟨ws_153, hc_154, Rt.mono _ e exz hx_155⟩, hc_156, fr_157⟩) (fun N x_158 v_159 z_144 σ2 I_160 C_161 H_162 e_163 s_164 ⟨w_146, hs_145, ⟨vs_149, hc_150, hl_151, hr_152⟩, ⟨ws_153, hc_154, hx_155⟩, hc_156, fr_157⟩ r_165 hm => ?_) (fun z_199 σ2 I_194 C_195 H_196 e_197 s_198 ⟨w_201, hs_200, ⟨vs_204, hc_205, hl_206, hr_207⟩, ⟨ws_208, hc_209, hx_210⟩, hc_211, fr_212⟩ hm => ?_)
        · subst hs_145
          refine g1 (K := K) x_158 v_159 I_160 C_161 H_162 _ s_164 r_165 fun σ2 ⟨v_177, hs_179, r_178⟩ => ?_
          subst hs_179
          refine q_setL (E := E) (K := K) (σ := [some (.ref p0), some v_wishes, some v_plan, some (.ref p_16), some v_59, some v_71, some v_85, some v_119, some (.ref p_126), some v_177, none]) (i := 8) rfl hc_150 hl_151 (a2up (Ex.refl _) hr_152) (x_op o_ix (x_v (x_var (i := 2) rfl (Rp.mono _ (e_21.trans (e_55.trans (e_64.trans (e_74.trans (e_88.trans (e_103.trans (e_122.trans (e_131.trans e_163)))))))) exz r_plan))) (x_var (i := 5) rfl (Rp.mono _ (e_88.trans (e_103.trans (e_122.trans (e_131.trans e_163)))) exz r_76))) (x_var (i := 9) rfl (Rp.mono _ (Ex.refl _) exz r_178)) s_164 (fun _ _ h => h.elim) hm fun crowded_180 vs_181 I_182 C_183 H_184 e_185 s_186 hc_187 k_188 hl_189 hr_190 hm => ?_
          have hc_191 := (k_188 _ ne_138).trans hc_154
          have hc_192 := (k_188 _ ne_139).trans hc_156
          have fr_193 := fr_keep fr_157 hB_140 k_188
          exact hm _ _ _ _ e_185 s_186 ⟨some v_177, rfl, ⟨_, hc_187, hl_189, a2up (Ex.refl _) hr_190⟩, ⟨_, hc_191, Rt.mono _ e_185 exz hx_155⟩, hc_192, fr_193⟩
        subst hs_200
        obtain ⟨I_213, C_214, e_215, s_216, h_217, k_218⟩ := freeze s_198 hc_205
        have r_220 := frz_list e_215 h_217 hl_206 hr_207
        have hc_221 := (k_218 _ ne_138).trans hc_209
        have hc_222 := (k_218 _ ne_139).trans hc_211
        have fr_223 := fr_keep fr_212 hB_140 k_218
        refine q_app (E := E) (K := K) (σ := [some (.ref p0), some v_wishes, some v_plan, some (.ref p_16), some v_59, some v_71, some v_85, some v_119, some (.ref p_126), w_201, none]) (i := 3) rfl hc_222 (a2up (e_122.trans (e_131.trans (e_197.trans e_215))) hr_108) (x_var (i := 8) rfl (Rp.mono _ (Ex.refl _) exz r_220)) s_216 (fun _ _ h => h.elim) hm fun plans_224 vs_225 I_226 C_227 H_228 e_229 s_230 hc_231 k_232 hl_233 hr_234 hm => ?_
        have hc_235 := (k_232 _ ne_28).trans hc_221
        have fr_236 := fr_keep fr_223 hB_29 k_232
        exact hm _ _ _ _ (e_64.trans (e_74.trans (e_88.trans (e_103.trans (e_122.trans (e_131.trans (e_197.trans (e_215.trans e_229)))))))) s_230 ⟨some v_59, some v_71, some v_85, some v_119, some (.ref p_126), w_201, rfl, ⟨_, hc_231, hl_233, a2up (Ex.refl _) hr_234⟩, ⟨_, hc_235, Rt.mono _ (e_215.trans e_229) exz hx_210⟩, fr_236⟩
      · exact hm _ _ _ _ e_68 s_69 ⟨some v_59, w_35, w_36, w_37, w_38, w_39, rfl, ⟨_, hc_43, hl_44, a2up e_68 hr_45⟩, ⟨_, hc_47, Rt.mono _ e_68 exz hx_48⟩, fr_49⟩
    subst hs_244
    obtain ⟨I_261, C_262, e_263, s_264, h_265, k_266⟩ := freeze s_242 hc_254
    have r_268 := frz_list e_263 h_265 hl_255 hr_256
    have hc_269 := (k_266 _ ne_28).trans hc_258
    have fr_270 := fr_keep fr_260 hB_29 k_266
    refine q_ret (E := E) (K := K) (σ := [some (.ref p0), some v_wishes, some v_plan, some (.ref p_16), w_245, w_246, w_247, w_248, w_249, w_250, none]) (x_var (i := 3) rfl (Rp.mono _ (Ex.refl _) exz r_268)) s_264 (fun _ _ h => h.elim) hm fun a_271 v_272 I_273 H_274 e_275 s_276 r_277 hm => ?_
    exact ret_pool hm (e_21.trans (e_241.trans (e_263.trans e_275))) fr_270 s_276 hc_269 (Rt.mono _ (e_263.trans e_275) exz hx_259) r_277
def m__law_refused (a_wishes : (List (Int × Int))) (a_which : Int) : Res (Str × Int) :=
  ((tryR knE (fun c => isaE c .DeskError) (ifR (bin eqR (Res.ok a_which) (Res.ok (0 : Int))) ((un (fun (p : ((List (Int × Int)) × Int × (List Int))) => m_is_plan p.1 p.2.1 p.2.2) (pair (Res.ok a_wishes) (pair (Res.ok (1 : Int)) ((Res.ok a_wishes).bind (mapR (fun (x_21 : (Int × Int)) => (un rNeg (Res.ok (1 : Int))))))))).bind fun (b_28 : Bool) => (Res.ok (Out.nx ()))) (ifR (bin eqR (Res.ok a_which) (Res.ok (1 : Int))) ((un (fun (p : ((List (Int × Int)) × Int × Int × Int)) => m_is_crowd p.1 p.2.1 p.2.2.1 p.2.2.2) (pair (Res.ok a_wishes) (pair (Res.ok (1 : Int)) (pair (Res.ok (0 : Int)) (Res.ok (60 : Int)))))).bind fun (b_41 : Bool) => (Res.ok (Out.nx ()))) ((un (fun (p : ((List (Int × Int)) × Int)) => m_phone_paper p.1 p.2) (pair (Res.ok a_wishes) (Res.ok (1 : Int)))).bind fun (b_46 : (Str × ((List Int) ⊕ (Option (Int × Int))))) => (Res.ok (Out.nx ()))))) (fun c_58 j_59 => (ifR (andR (Res.ok (isaE c_58 .BadPair)) (un notR (Res.ok (isaE c_58 .TooMany)))) ((pair (Res.ok ("pair" : Str)) (Res.ok j_59)).bind fun a_71 => Res.ok (Out.rt a_71)) (ifR (andR (Res.ok (isaE c_58 .TooMany)) (un notR (Res.ok (isaE c_58 .BadPair)))) ((pair (Res.ok ("many" : Str)) (Res.ok j_59)).bind fun a_86 => Res.ok (Out.rt a_86)) ((pair (Res.ok ("other" : Str)) (Res.ok (0 : Int))).bind fun a_93 => Res.ok (Out.rt a_93)))))).bind fun (o : Out Unit (Str × Int)) => match o with | .nx z_2 => ((pair (Res.ok ("none" : Str)) (Res.ok (0 : Int))).bind fun a_105 => Res.ok a_105) | .br _ => Res.bad | .rt r => Res.ok r)
abbrev N__law_refused : List Str := ["wishes", "which", "e", "wish"]
theorem sc__law_refused : FnScope N__law_refused ["wishes", "which"] (defScope s__law_refused) := ⟨rfl, rfl, rfl, by decide +kernel, rfl, by decide +kernel, by decide +kernel⟩
theorem bind__law_refused {K : PySem.W.Frag} {mg : Str → Option Value} {T : Tx K mg} : Binds K T.d__law_refused ["wishes", "which"] [] := FunD.bindsN T.F__law_refused fun _ _ _ _ _ _ us hl => match us, hl with | [_, _], _ => rfl
abbrev sp__law_refused (K : PySem.W.Frag) : Sp := spP K (tc (pL (pT (tc pI (t1 pI)))) (t1 pI)) (fun (p : ((List (Int × Int)) × Int)) => m__law_refused p.1 p.2) (pT (tc pS (t1 pI)))
theorem ok__law_refused (T : Tx K mg) : FnOk P w K mg base (L2.CX P w) 5 T.f__law_refused T.d__law_refused ["wishes", "which"] (sp__law_refused K) := by
  refine T.F__law_refused.ok sc__law_refused (fun vs H Q E h => ?_) (fun cdv A outer s H vs Q E hr h => ?_)
  · obtain ⟨I, C, a, _, hr, _⟩ := h
    exact Rt.len _ hr
  · obtain ⟨I0, C0, ⟨a_wishes, a_which⟩, hs, ⟨v_wishes, us0, rfl, r_wishes, v_which, rfl, r_which⟩, hm⟩ := h
    have hm : Post (m__law_refused a_wishes a_which) (PQ (pT (tc pS (t1 pI))) I0 C0 Q) (PX E K I0 C0) := hm
    replace r_wishes : Rp.r (pL (pT (tc pI (t1 pI)))) a_wishes v_wishes I0 Z := Im.im r_wishes
    replace r_which : Rp.r pI a_which v_which I0 Z := Im.im r_which
    unfold m__law_refused at hm
    refine ⟨_, (Evl.pss_cut (ps_tryS (c := .ref (He.ga K "DeskError")) (i := 2) rfl rfl sc__law_refused.nd rfl rfl ⟨rfl, by decide, Or.inl (T.xs .DeskError (by decide)).g⟩ (takes_of rfl rfl rfl rfl) (fun W pn xe tk hp => (pss_cons (ps_if (pt_cmpR op_eq (pv 1) pe_int (nomark _)) (pss_cons (ps_expr (by exact (pe_callS (ok_is_plan T) (hr.mono (by decide)) rfl T.g_is_plan T.F_is_plan.kp bind_is_plan (fun σ => passAt tk σ) (by exact (pa_cons (pv 0) (pa_cons pe_int (pa_cons (pe_lc (own := [("wish", 3)]) rfl sc__law_refused.nd (show PI _ _ _ (iList K _) from pi_list (pv 0)) (blkOk_by (own := [("wish", 3)]) (N := N__law_refused) (sc := defScope s__law_refused) (by decide +kernel)) (fun _ _ _ _ _ => (pg_name (i := 3) sc__law_refused.nd rfl (Or.inl rfl))) (fun _ _ _ _ _ => pts_nil) (fun _ _ _ _ _ => (pe_un un_neg pe_int))) pa_nil))))))) pss_nil) (pss_cons (ps_if (pt_cmpR op_eq (pv 1) pe_int (nomark _)) (pss_cons (ps_expr (by exact (pe_callS (ok_is_crowd T) (hr.mono (by decide)) rfl T.g_is_crowd T.F_is_crowd.kp bind_is_crowd (fun σ => passAt tk σ) (by exact (pa_cons (pv 0) (pa_cons pe_int (pa_cons pe_int (pa_cons pe_int pa_nil)))))))) pss_nil) (pss_cons (ps_expr (by exact (pe_callS (ok_phone_paper T) (hr.mono (by decide)) rfl T.g_phone_paper T.F_phone_paper.kp bind_phone_paper (fun σ => passAt tk σ) (by exact (pa_cons (pv 0) (pa_cons pe_int pa_nil)))))) pss_nil)) pss_nil)) pss_nil)) (fun a oe cls d pn hz hf => (pss_cons (ps_if (PW.pt (pw_and (pt_val (pe_callB (r := rIsX K a cls d) (call_isX hz hf) (by rfl) T.gb_isinstance bt_isinstance (pa_cons (pv 2) (pa_cons (pe_glob (v := .ref (He.ga K "BadPair")) rfl (T.xs .BadPair (by decide)).g rfl) pa_nil)))) (pw_and1 (pt_not (pt_val (pe_callB (r := rIsX K a cls d) (call_isX hz hf) (by rfl) T.gb_isinstance bt_isinstance (pa_cons (pv 2) (pa_cons (pe_glob (v := .ref (He.ga K "TooMany")) rfl (T.xs .TooMany (by decide)).g rfl) pa_nil)))))))) (pss_cons (ps_ret (pe_tup (pa_cons pe_str (pa_cons (pe_xfX hz hf (pv 2)) pa_nil)))) pss_nil) pss_nil) (pss_cons (ps_if (PW.pt (pw_and (pt_val (pe_callB (r := rIsX K a cls d) (call_isX hz hf) (by rfl) T.gb_isinstance bt_isinstance (pa_cons (pv 2) (pa_cons (pe_glob (v := .ref (He.ga K "TooMany")) rfl (T.xs .TooMany (by decide)).g rfl) pa_nil)))) (pw_and1 (pt_not (pt_val (pe_callB (r := rIsX K a cls d) (call_isX hz hf) (by rfl) T.gb_isinstance bt_isinstance (pa_cons (pv 2) (pa_cons (pe_glob (v := .ref (He.ga K "BadPair")) rfl (T.xs .BadPair (by decide)).g rfl) pa_nil)))))))) (pss_cons (ps_ret (pe_tup (pa_cons pe_str (pa_cons (pe_xfX hz hf (pv 2)) pa_nil)))) pss_nil) pss_nil) (pss_cons (ps_ret (pe_tup (pa_cons pe_str (pa_cons pe_int pa_nil)))) pss_nil))))) (pss_cons (ps_ret (pe_tup (pa_cons pe_str (pa_cons pe_int pa_nil)))) pss_nil)), ?_⟩
    refine s_try (E := E) (K := K) (σ := [some v_wishes, some v_which, none, none]) (mg := mg) (fun (z_2 : Unit) σ2 I_9 C_10 => ∃ w_8 : Option V, σ2 = [some v_wishes, some v_which, w_8, none] ∧ Ex C0 C_10) ((fun (z_1 : Unit) σ2 I_4 C_5 => σ2 = [some v_wishes, some v_which, none, none] ∧ Ex C0 C_5) ()) (fun c h => ⟨T.ex c .DeskError h (by decide), T.xs c h⟩) (fun _ _ _ e ⟨hs_3, fr_6⟩ => fun _ _ h => PX.mono (Ex.trans (Ex.refl _) e) fr_6 h) (fun _ _ _ _ e ⟨hs_3, fr_6⟩ => ⟨hs_3, fr_6⟩) hm (fun N W hW_12 hm => ?_) (fun N c_58 j_59 a_60 cls_62 d_61 σ2 I_51 C_52 H_53 kn_57 cg_56 e_54 s_55 ⟨hs_3, fr_6⟩ hm => ?_) (fun z_2 σ2 I_100 C_101 H_102 e_103 s_104 ⟨w_8, hs_7, fr_11⟩ hm => ?_)
    · refine s_if (E := WE W _) (K := K) (σ := [some v_wishes, some v_which, none, none]) (t_test (x_op o_eqI (x_var (i := 1) rfl (Rp.mono _ (Ex.refl _) exz r_which)) (x_int (i := 0)))) hs (hW_12 _ _ _ (Ex.refl _) ⟨rfl, (Ex.refl _)⟩) hm (fun I_13 H_14 e_15 s_16 hm => ?_) (fun I_17 H_18 e_19 s_20 hm => ?_)
      · refine s_expr (E := WE W _) (K := K) (σ := [some v_wishes, some v_which, none, none]) (x_callS (a_cons (x_var (i := 0) rfl (Rp.mono _ e_15 exz r_wishes)) (a_cons (x_int (i := 1)) (a_one (x_lc (i_list (x_var (i := 0) rfl (Rp.mono _ e_15 exz r_wishes))) g1 (fun _ _ _ _ ⟨_, h, _⟩ => by rw [h]; rfl) (fun x_21 σ2 I_22 C_23 e_24 c_25 ⟨v_26, h, r_27⟩ => by subst h; exact (x_un o_neg (x_int (i := 1)))) (fun _ _ _ _ _ e ⟨v_26, h, r_27⟩ => ⟨v_26, h, Rp.mono _ e exz r_27⟩)))))) s_16 (hW_12 _ _ _ e_15 ⟨rfl, (Ex.refl _)⟩) hm fun b_28 I_29 H_30 e_31 s_32 hm => ?_
        exact hm _ _ _ _ (e_15.trans e_31) s_32 ⟨none, rfl, (Ex.refl _)⟩
      · refine s_if (E := WE W _) (K := K) (σ := [some v_wishes, some v_which, none, none]) (t_test (x_op o_eqI (x_var (i := 1) rfl (Rp.mono _ e_19 exz r_which)) (x_int (i := 1)))) s_20 (hW_12 _ _ _ e_19 ⟨rfl, (Ex.refl _)⟩) hm (fun I_33 H_34 e_35 s_36 hm => ?_) (fun I_37 H_38 e_39 s_40 hm => ?_)
        · refine s_expr (E := WE W _) (K := K) (σ := [some v_wishes, some v_which, none, none]) (x_callS (a_cons (x_var (i := 0) rfl (Rp.mono _ (e_19.trans e_35) exz r_wishes)) (a_cons (x_int (i := 1)) (a_cons (x_int (i := 0)) (a_one (x_int (i := 60))))))) s_36 (hW_12 _ _ _ (e_19.trans e_35) ⟨rfl, (Ex.refl _)⟩) hm fun b_41 I_42 H_43 e_44 s_45 hm => ?_
          exact hm _ _ _ _ (e_19.trans (e_35.trans e_44)) s_45 ⟨none, rfl, (Ex.refl _)⟩
        · refine s_expr (E := WE W _) (K := K) (σ := [some v_wishes, some v_which, none, none]) (x_callDS paper_up (a_cons (x_var (i := 0) rfl (Rp.mono _ (e_19.trans e_39) exz r_wishes)) (a_one (x_int (i := 1))))) s_40 (hW_12 _ _ _ (e_19.trans e_39) ⟨rfl, (Ex.refl _)⟩) hm fun b_46 I_47 H_48 e_49 s_50 hm => ?_
          exact hm _ _ _ _ (e_19.trans (e_39.trans e_49)) s_50 ⟨none, rfl, (Ex.refl _)⟩
    · subst hs_3
      refine s_if (E := E) (K := K) (σ := [some v_wishes, some v_which, some (.ref a_60), none]) (t_and (t_B (x_isE (Cg.up (Ex.refl _) cg_56) (T.ki _ .BadPair kn_57 (by decide)) (by rfl))) (t_not (t_B (x_isE (Cg.up (Ex.refl _) cg_56) (T.ki _ .TooMany kn_57 (by decide)) (by rfl))))) s_55 (fun _ _ h => PX.mono e_54 fr_6 h) hm (fun I_63 H_64 e_65 s_66 hm => ?_) (fun I_67 H_68 e_69 s_70 hm => ?_)
      · refine q_ret (E := E) (K := K) (σ := [some v_wishes, some v_which, some (.ref a_60), none]) (x_tup (a_cons (x_str (by decide +kernel)) (a_one (x_at (Cg.up e_65 cg_56) (by rfl)))) (Nat.le_of_ble_eq_true rfl)) s_66 (fun _ _ h => PX.mono (e_54.trans e_65) fr_6 h) hm fun a_71 v_72 I_73 H_74 e_75 s_76 r_77 hm => ?_
        exact hm v_72 I_73 H_74 (e_54.trans (e_65.trans e_75)) (St.less s_76 fr_6) (Im.im r_77)
      · refine s_if (E := E) (K := K) (σ := [some v_wishes, some v_which, some (.ref a_60), none]) (t_and (t_B (x_isE (Cg.up e_69 cg_56) (T.ki _ .TooMany kn_57 (by decide)) (by rfl))) (t_not (t_B (x_isE (Cg.up e_69 cg_56) (T.ki _ .BadPair kn_57 (by decide)) (by rfl))))) s_70 (fun _ _ h => PX.mono (e_54.trans e_69) fr_6 h) hm (fun I_78 H_79 e_80 s_81 hm => ?_) (fun I_82 H_83 e_84 s_85 hm => ?_)
        · refine q_ret (E := E) (K := K) (σ := [some v_wishes, some v_which, some (.ref a_60), none]) (x_tup (a_cons (x_str (by decide +kernel)) (a_one (x_at (Cg.up (e_69.trans e_80) cg_56) (by rfl)))) (Nat.le_of_ble_eq_true rfl)) s_81 (fun _ _ h => PX.mono (e_54.trans (e_69.trans e_80)) fr_6 h) hm fun a_86 v_87 I_88 H_89 e_90 s_91 r_92 hm => ?_
          exact hm v_87 I_88 H_89 (e_54.trans (e_69.trans (e_80.trans e_90))) (St.less s_91 fr_6) (Im.im r_92)
        · refine q_ret (E := E) (K := K) (σ := [some v_wishes, some v_which, some (.ref a_60), none]) (x_tup (a_cons (x_str (by decide +kernel)) (a_one (x_int (i := 0)))) (Nat.le_of_ble_eq_true rfl)) s_85 (fun _ _ h => PX.mono (e_54.trans (e_69.trans e_84)) fr_6 h) hm fun a_93 v_94 I_95 H_96 e_97 s_98 r_99 hm => ?_
          exact hm v_94 I_95 H_96 (e_54.trans (e_69.trans (e_84.trans e_97))) (St.less s_98 fr_6) (Im.im r_99)
    subst hs_7
    refine q_ret (E := E) (K := K) (σ := [some v_wishes, some v_which, w_8, none]) (x_tup (a_cons (x_str (by decide +kernel)) (a_one (x_int (i := 0)))) (Nat.le_of_ble_eq_true rfl)) s_104 (fun _ _ h => PX.mono e_103 fr_11 h) hm fun a_105 v_106 I_107 H_108 e_109 s_110 r_111 hm => ?_
    exact hm v_106 I_107 H_108 (e_103.trans e_109) (St.less s_110 fr_11) (Im.im r_111)
def m__law_refused_right (a_wishes : (List (Int × Int))) (a_pool : Pl) : Res (Bool × Pl) :=
  ((bin rCatR (Res.ok a_wishes) ((un rng1 (bin rSub (Res.ok (20 : Int)) (un rLen (Res.ok a_wishes)))).bind (mapR (fun (x_1 : Int) => (pair (Res.ok x_1) (Res.ok (60 : Int))))))).bind fun (full_8 : (List (Int × Int))) => (((binM ix (liftM (consR (pair (un rNeg (Res.ok (1 : Int))) (Res.ok (3 : Int))) (consR (pair (Res.ok (3 : Int)) (Res.ok (3 : Int))) (consR (pair (Res.ok (4 : Int)) (Res.ok (2 : Int))) (consR (pair (Res.ok (0 : Int)) (Res.ok (61 : Int))) (consR (pair (Res.ok (60 : Int)) (Res.ok (60 : Int))) (consR (pair (Res.ok (59 : Int)) (Res.ok (61 : Int))) (consR (pair (un rNeg (Res.ok (2 : Int))) (un rNeg (Res.ok (1 : Int)))) (Res.ok []))))))))) (callM m__law_take (liftM (Res.ok (7 : Int))))) a_pool).bind fun (bad_15 : (Int × Int) × Pl) => (((callM m__law_take (liftM (Res.ok (20 : Int)))) bad_15.2).bind fun (at_28 : Int × Pl) => (((callM m__law_take (liftM (Res.ok (20 : Int)))) at_28.2).bind fun (later_41 : Int × Pl) => ((bin rCatR (bin rCatR (slR (Res.ok full_8) (Res.ok none) (someR (Res.ok at_28.1))) (consR (Res.ok bad_15.1) (Res.ok []))) (slR (Res.ok full_8) (someR (bin rAdd (Res.ok at_28.1) (Res.ok (1 : Int)))) (Res.ok none))).bind fun (spoilt_54 : (List (Int × Int))) => ((bin rCatR (bin rCatR (slR (Res.ok spoilt_54) (Res.ok none) (someR (Res.ok later_41.1))) (consR (pair (Res.ok (5 : Int)) (Res.ok (5 : Int))) (Res.ok []))) (slR (Res.ok spoilt_54) (someR (bin rAdd (Res.ok later_41.1) (Res.ok (1 : Int)))) (Res.ok none))).bind fun (both_61 : (List (Int × Int))) => (((un rng1 (Res.ok (3 : Int))).bind fun xs => loopR (fun (x_75 : Int) (z_68 : Unit) => (ifR (orR (bin neR (un (fun (p : ((List (Int × Int)) × Int)) => m__law_refused p.1 p.2) (pair (Res.ok full_8) (Res.ok x_75))) (pair (Res.ok ("none" : Str)) (Res.ok (0 : Int)))) (bin neR (un (fun (p : ((List (Int × Int)) × Int)) => m__law_refused p.1 p.2) (pair (Res.ok spoilt_54) (Res.ok x_75))) (pair (Res.ok ("pair" : Str)) (Res.ok at_28.1)))) ((Res.ok false).bind fun a_95 => Res.ok (Out.rt (a_95, later_41.2))) (ifR (bin neR (un (fun (p : ((List (Int × Int)) × Int)) => m__law_refused p.1 p.2) (pair (Res.ok both_61) (Res.ok x_75))) (pair (Res.ok ("pair" : Str)) (un min2 (pair (Res.ok at_28.1) (Res.ok later_41.1))))) ((Res.ok false).bind fun a_110 => Res.ok (Out.rt (a_110, later_41.2))) (ifR (orR (bin neR (un (fun (p : ((List (Int × Int)) × Int)) => m__law_refused p.1 p.2) (pair (bin rCatR (Res.ok full_8) (consR (pair (Res.ok (0 : Int)) (Res.ok (1 : Int))) (Res.ok []))) (Res.ok x_75))) (pair (Res.ok ("many" : Str)) (Res.ok (20 : Int)))) (bin neR (un (fun (p : ((List (Int × Int)) × Int)) => m__law_refused p.1 p.2) (pair (bin rCatR (Res.ok both_61) (consR (pair (Res.ok (2 : Int)) (Res.ok (1 : Int))) (Res.ok []))) (Res.ok x_75))) (pair (Res.ok ("many" : Str)) (Res.ok (20 : Int))))) ((Res.ok false).bind fun a_125 => Res.ok (Out.rt (a_125, later_41.2))) (Res.ok (Out.nx ())))))) xs ()).bind fun (o : Out Unit (Bool × Pl)) => match o with | .nx z_137 => ((Res.ok true).bind fun a_144 => Res.ok (a_144, later_41.2)) | .br _ => Res.bad | .rt r => Res.ok r)))))))
abbrev N__law_refused_right : List Str := ["pool", "wishes", "full", "bad", "at", "later", "spoilt", "both", "which", "k"]
theorem sc__law_refused_right : FnScope N__law_refused_right ["pool", "wishes"] (defScope s__law_refused_right) := ⟨rfl, rfl, rfl, by decide +kernel, rfl, by decide +kernel, by decide +kernel⟩
theorem bind__law_refused_right {K : PySem.W.Frag} {mg : Str → Option Value} {T : Tx K mg} : Binds K T.d__law_refused_right ["pool", "wishes"] [] := FunD.bindsN T.F__law_refused_right fun _ _ _ _ _ _ us hl => match us, hl with | [_, _], _ => rfl
abbrev sp__law_refused_right (K : PySem.W.Frag) : Sp := spM pM (t1 (pL (pT (tc pI (t1 pI))))) m__law_refused_right pB
theorem ok__law_refused_right (T : Tx K mg) : FnOk P w K mg base (L2.CX P w) 6 T.f__law_refused_right T.d__law_refused_right ["pool", "wishes"] (sp__law_refused_right K) := by
  refine T.F__law_refused_right.ok sc__law_refused_right (fun vs H Q E h => ?_) (fun cdv A outer s H vs Q E hr h => ?_)
  · obtain ⟨I, C, p, ws, us, x, a, rfl, _, _, _, hr, _⟩ := h
    exact congrArg (· + 1) (Rt.len _ hr)
  · obtain ⟨I0, C0, p0, ws0, us, a_pool, a_wishes, rfl, hs, hc0, hx1, ⟨v_wishes, rfl, r_wishes⟩, hm⟩ := h
    have hx0 := It.im (C' := Z) hx1
    have hm : Post (m__law_refused_right a_wishes a_pool) (PM p0 pM pB I0 C0 Q) XF := hm
    replace r_wishes : Rp.r (pL (pT (tc pI (t1 pI)))) a_wishes v_wishes I0 Z := Im.im r_wishes
    unfold m__law_refused_right at hm
    refine ⟨_, (pss_cons (ps_set (i := 2) sc__law_refused_right.nd rfl (Or.inl rfl) (pe_op op_cat (pv 1) (pe_lc (own := [("k", 9)]) rfl sc__law_refused_right.nd (pi_range1 (by rfl) T.gb_range (pa_cons (pe_op op_sub pe_int (pe_callB (r := rLen1 K) call_len_seq (by rfl) T.gb_len bt_len (pa_cons (pv 1) pa_nil))) pa_nil)) (blkOk_by (own := [("k", 9)]) (N := N__law_refused_right) (sc := defScope s__law_refused_right) (by decide +kernel)) (fun _ _ _ _ _ => (pg_name (i := 9) sc__law_refused_right.nd rfl (Or.inl rfl))) (fun _ _ _ _ _ => pts_nil) (fun _ _ _ _ _ => (pe_tup (pa_cons (pv 9) (pa_cons pe_int pa_nil))))))) (pss_cons (ps_set (i := 3) sc__law_refused_right.nd rfl (Or.inl rfl) (pe_ix (r := rIxL K) ix_list (pe_lst (pa_cons (pe_tup (pa_cons (pe_un un_neg pe_int) (pa_cons pe_int pa_nil))) (pa_cons (pe_tup (pa_cons pe_int (pa_cons pe_int pa_nil))) (pa_cons (pe_tup (pa_cons pe_int (pa_cons pe_int pa_nil))) (pa_cons (pe_tup (pa_cons pe_int (pa_cons pe_int pa_nil))) (pa_cons (pe_tup (pa_cons pe_int (pa_cons pe_int pa_nil))) (pa_cons (pe_tup (pa_cons pe_int (pa_cons pe_int pa_nil))) (pa_cons (pe_tup (pa_cons (pe_un un_neg pe_int) (pa_cons (pe_un un_neg pe_int) pa_nil))) pa_nil)))))))) (pe_call (ok__law_take T) (hr.mono (by decide)) rfl T.g__law_take T.F__law_take.kp bind__law_take .nil passE (pa_cons (pv 0) (pa_cons pe_int pa_nil))) (fun _ _ => rfl))) (pss_cons (ps_set (i := 4) sc__law_refused_right.nd rfl (Or.inl rfl) (pe_call (ok__law_take T) (hr.mono (by decide)) rfl T.g__law_take T.F__law_take.kp bind__law_take .nil passE (pa_cons (pv 0) (pa_cons pe_int pa_nil)))) (pss_cons (ps_set (i := 5) sc__law_refused_right.nd rfl (Or.inl rfl) (pe_call (ok__law_take T) (hr.mono (by decide)) rfl T.g__law_take T.F__law_take.kp bind__law_take .nil passE (pa_cons (pv 0) (pa_cons pe_int pa_nil)))) (pss_cons (ps_set (i := 6) sc__law_refused_right.nd rfl (Or.inl rfl) (pe_op op_cat (pe_op op_cat (pe_slice (r := rSlL K) sl_list (pv 2) po_none (po_some (pv 4))) (pe_lst (pa_cons (pv 3) pa_nil))) (pe_slice (r := rSlL K) sl_list (pv 2) (po_some (pe_op op_add (pv 4) pe_int)) po_none))) (pss_cons (ps_set (i := 7) sc__law_refused_right.nd rfl (Or.inl rfl) (pe_op op_cat (pe_op op_cat (pe_slice (r := rSlL K) sl_list (pv 6) po_none (po_some (pv 5))) (pe_lst (pa_cons (pe_tup (pa_cons pe_int (pa_cons pe_int pa_nil))) pa_nil))) (pe_slice (r := rSlL K) sl_list (pv 6) (po_some (pe_op op_add (pv 5) pe_int)) po_none))) (pss_cons (ps_for (passes_of rfl) rfl (pi_range1 (by rfl) T.gb_range (pa_cons pe_int pa_nil)) (pg_name (i := 8) sc__law_refused_right.nd rfl (Or.inl rfl)) (pss_cons (ps_if (PW.pt (pw_or (pt_cmpR (r := rNeD K) (op_neD hr.units) (pe_call (ok__law_refused T) (hr.mono (by decide)) rfl T.g__law_refused T.F__law_refused.kp bind__law_refused .nil passE (pa_cons (pv 2) (pa_cons (pv 8) pa_nil))) (pe_tup (pa_cons pe_str (pa_cons pe_int pa_nil))) (nomark _)) (pw_or1 (pt_cmpR (r := rNeD K) (op_neD hr.units) (pe_call (ok__law_refused T) (hr.mono (by decide)) rfl T.g__law_refused T.F__law_refused.kp bind__law_refused .nil passE (pa_cons (pv 6) (pa_cons (pv 8) pa_nil))) (pe_tup (pa_cons pe_str (pa_cons (pv 4) pa_nil))) (nomark _))))) (pss_cons (ps_ret pe_bl) pss_nil) pss_nil) (pss_cons (ps_if (pt_cmpR (r := rNeD K) (op_neD hr.units) (pe_call (ok__law_refused T) (hr.mono (by decide)) rfl T.g__law_refused T.F__law_refused.kp bind__law_refused .nil passE (pa_cons (pv 7) (pa_cons (pv 8) pa_nil))) (pe_tup (pa_cons pe_str (pa_cons (pe_callB (call_min2 rfl) (by rfl) T.gb_min bt_min (pa_cons (pv 4) (pa_cons (pv 5) pa_nil))) pa_nil))) (nomark _)) (pss_cons (ps_ret pe_bl) pss_nil) pss_nil) (pss_cons (ps_if (PW.pt (pw_or (pt_cmpR (r := rNeD K) (op_neD hr.units) (pe_call (ok__law_refused T) (hr.mono (by decide)) rfl T.g__law_refused T.F__law_refused.kp bind__law_refused .nil passE (pa_cons (pe_op op_cat (pv 2) (pe_lst (pa_cons (pe_tup (pa_cons pe_int (pa_cons pe_int pa_nil))) pa_nil))) (pa_cons (pv 8) pa_nil))) (pe_tup (pa_cons pe_str (pa_cons pe_int pa_nil))) (nomark _)) (pw_or1 (pt_cmpR (r := rNeD K) (op_neD hr.units) (pe_call (ok__law_refused T) (hr.mono (by decide)) rfl T.g__law_refused T.F__law_refused.kp bind__law_refused .nil passE (pa_cons (pe_op op_cat (pv 7) (pe_lst (pa_cons (pe_tup (pa_cons pe_int (pa_cons pe_int pa_nil))) pa_nil))) (pa_cons (pv 8) pa_nil))) (pe_tup (pa_cons pe_str (pa_cons pe_int pa_nil))) (nomark _))))) (pss_cons (ps_ret pe_bl) pss_nil) pss_nil) pss_nil)))) (pss_cons (ps_ret pe_bl) pss_nil)))))))), ?_⟩
    refine q_asg (E := E) (K := K) (σ := [some (.ref p0), some v_wishes, none, none, none, none, none, none, none, none]) (i := 2) (x_op o_cat (x_v (x_var (i := 1) rfl (Rp.mono _ (Ex.refl _) exz r_wishes))) (x_v (x_lc (i_rng1 (a_one (x_op o_sub (x_int (i := 20)) (x_cb o_len (a_one (x_v (x_var (i := 1) rfl (Rp.mono _ (Ex.refl _) exz r_wishes)))))))) g1 (fun _ _ _ _ ⟨_, h, _⟩ => by rw [h]; rfl) (fun x_1 σ2 I_2 C_3 e_4 c_5 ⟨v_6, h, r_7⟩ => by subst h; exact (x_tup (a_cons (x_var (i := 9) rfl (Rp.mono _ (Ex.refl _) exz r_7)) (a_one (x_int (i := 60)))) (Nat.le_of_ble_eq_true rfl))) (fun _ _ _ _ _ e ⟨v_6, h, r_7⟩ => ⟨v_6, h, Rp.mono _ e exz r_7⟩)))) hs (fun _ _ h => h.elim) hm fun full_8 v_9 I_10 H_11 e_12 s_13 r_14 hm => ?_
    refine qm_asg (E := E) (K := K) (σ := [some (.ref p0), some v_wishes, some v_9, none, none, none, none, none, none, none]) (i := 3) (m_op (fun _ => (Op2.ofL o_ix)) off_same (m_pure (x_lst (al_cons (x_tup (a_cons (x_un o_neg (x_int (i := 1))) (a_one (x_int (i := 3)))) (Nat.le_of_ble_eq_true rfl)) (al_cons (x_tup (a_cons (x_int (i := 3)) (a_one (x_int (i := 3)))) (Nat.le_of_ble_eq_true rfl)) (al_cons (x_tup (a_cons (x_int (i := 4)) (a_one (x_int (i := 2)))) (Nat.le_of_ble_eq_true rfl)) (al_cons (x_tup (a_cons (x_int (i := 0)) (a_one (x_int (i := 61)))) (Nat.le_of_ble_eq_true rfl)) (al_cons (x_tup (a_cons (x_int (i := 60)) (a_one (x_int (i := 60)))) (Nat.le_of_ble_eq_true rfl)) (al_cons (x_tup (a_cons (x_int (i := 59)) (a_one (x_int (i := 61)))) (Nat.le_of_ble_eq_true rfl)) (al_cons (x_tup (a_cons (x_un o_neg (x_int (i := 2))) (a_one (x_un o_neg (x_int (i := 1))))) (Nat.le_of_ble_eq_true rfl)) al_nil))))))) (Nat.le_of_ble_eq_true rfl))) (m_callM (i := 0) rfl (am_pure (a_one (x_int (i := 7)))))) s_13 hc0 (Rt.mono _ e_12 exz hx0) hm fun bad_15 v_16 ws_22 I_17 C_23 H_18 e_19 s_20 hc_24 k_25 hx_26 r_21 hm => ?_
    have fr_27 := fr_pool (off_ex (C := C0) (p := p0)) k_25
    refine qm_asg (E := E) (K := K) (σ := [some (.ref p0), some v_wishes, some v_9, some v_16, none, none, none, none, none, none]) (i := 4) (m_callM (i := 0) rfl (am_pure (a_one (x_int (i := 20))))) s_20 hc_24 (Rt.mono _ (Ex.refl _) exz hx_26) hm fun at_28 v_29 ws_35 I_30 C_36 H_31 e_32 s_33 hc_37 k_38 hx_39 r_34 hm => ?_
    have fr_40 := fr_pool fr_27 k_38
    refine qm_asg (E := E) (K := K) (σ := [some (.ref p0), some v_wishes, some v_9, some v_16, some v_29, none, none, none, none, none]) (i := 5) (m_callM (i := 0) rfl (am_pure (a_one (x_int (i := 20))))) s_33 hc_37 (Rt.mono _ (Ex.refl _) exz hx_39) hm fun later_41 v_42 ws_48 I_43 C_49 H_44 e_45 s_46 hc_50 k_51 hx_52 r_47 hm => ?_
    have fr_53 := fr_pool fr_40 k_51
    refine q_asg (E := E) (K := K) (σ := [some (.ref p0), some v_wishes, some v_9, some v_16, some v_29, some v_42, none, none, none, none]) (i := 6) (x_op o_cat (x_v (x_op o_cat (x_v (x_sl (x_v (x_var (i := 2) rfl (Rp.mono _ (e_19.trans (e_32.trans e_45)) exz r_14))) p_none (p_some (x_var (i := 4) rfl (Rp.mono _ e_45 exz r_34))))) (x_v (x_lst (al_cons (x_var (i := 3) rfl (Rp.mono _ (e_32.trans e_45) exz r_21)) al_nil) (Nat.le_of_ble_eq_true rfl))))) (x_v (x_sl (x_v (x_var (i := 2) rfl (Rp.mono _ (e_19.trans (e_32.trans e_45)) exz r_14))) (p_some (x_op o_add (x_var (i := 4) rfl (Rp.mono _ e_45 exz r_34)) (x_int (i := 1)))) p_none))) s_46 (fun _ _ h => h.elim) hm fun spoilt_54 v_55 I_56 H_57 e_58 s_59 r_60 hm => ?_
    refine q_asg (E := E) (K := K) (σ := [some (.ref p0), some v_wishes, some v_9, some v_16, some v_29, some v_42, some v_55, none, none, none]) (i := 7) (x_op o_cat (x_v (x_op o_cat (x_v (x_sl (x_v (x_var (i := 6) rfl (Rp.mono _ (Ex.refl _) exz r_60))) p_none (p_some (x_var (i := 5) rfl (Rp.mono _ e_58 exz r_47))))) (x_v (x_lst (al_cons (x_tup (a_cons (x_int (i := 5)) (a_one (x_int (i := 5)))) (Nat.le_of_ble_eq_true rfl)) al_nil) (Nat.le_of_ble_eq_true rfl))))) (x_v (x_sl (x_v (x_var (i := 6) rfl (Rp.mono _ (Ex.refl _) exz r_60))) (p_some (x_op o_add (x_var (i := 5) rfl (Rp.mono _ e_58 exz r_47)) (x_int (i := 1)))) p_none))) s_59 (fun _ _ h => h.elim) hm fun both_61 v_62 I_63 H_64 e_65 s_66 r_67 hm => ?_
    refine s_forR (E := E) (K := K) (σ := [some (.ref p0), some v_wishes, some v_9, some v_16, some v_29, some v_42, some v_55, some v_62, none, none]) (fun (z_68 : Unit) σ2 I_71 C_72 => ∃ w_70 : Option V, σ2 = [some (.ref p0), some v_wishes, some v_9, some v_16, some v_29, some v_42, some v_55, some v_62, w_70, none] ∧ C_72 p0 = some (.lst ws_48) ∧ Ex (off C0 p0) C_72) (i_rng1 (a_one (x_int (i := 3)))) s_66 (fun _ _ h => h.elim) hm (fun _ e_83 => ⟨none, rfl, hc_50, fr_53⟩) (fun _ _ _ _ _ => trivial) (fun _ _ _ _ _ e ⟨w_70, hs_69, hc_73, fr_74⟩ => ⟨w_70, hs_69, hc_73, fr_74⟩) (fun N x_75 v_76 z_68 σ2 I_77 C_78 H_79 e_80 s_81 ⟨w_70, hs_69, hc_73, fr_74⟩ r_82 hm => ?_) (fun z_137 σ2 I_132 C_133 H_134 e_135 s_136 ⟨w_139, hs_138, hc_142, fr_143⟩ hm => ?_)
    · subst hs_69
      refine g1 (K := K) x_75 v_76 I_77 C_78 H_79 _ s_81 r_82 fun σ2 ⟨v_84, hs_86, r_85⟩ => ?_
      subst hs_86
      refine s_if (E := E) (K := K) (σ := [some (.ref p0), some v_wishes, some v_9, some v_16, some v_29, some v_42, some v_55, some v_62, some v_84, none]) (t_or (t_test (x_op (o_neD (de_tup (dt_cons de_str (dt_one de_int))) (de_tup (dt_cons de_str (dt_one de_int))) (by decide)) (x_call (a_cons (x_var (i := 2) rfl (Rp.mono _ (e_19.trans (e_32.trans (e_45.trans (e_58.trans (e_65.trans e_80))))) exz r_14)) (a_one (x_var (i := 8) rfl (Rp.mono _ (Ex.refl _) exz r_85))))) (x_tup (a_cons (x_str (by decide +kernel)) (a_one (x_int (i := 0)))) (Nat.le_of_ble_eq_true rfl)))) (t_test (x_op (o_neD (de_tup (dt_cons de_str (dt_one de_int))) (de_tup (dt_cons de_str (dt_one de_int))) (by decide)) (x_call (a_cons (x_var (i := 6) rfl (Rp.mono _ (e_65.trans e_80) exz r_60)) (a_one (x_var (i := 8) rfl (Rp.mono _ (Ex.refl _) exz r_85))))) (x_tup (a_cons (x_str (by decide +kernel)) (a_one (x_var (i := 4) rfl (Rp.mono _ (e_45.trans (e_58.trans (e_65.trans e_80))) exz r_34)))) (Nat.le_of_ble_eq_true rfl))))) s_81 (fun _ _ h => h.elim) hm (fun I_87 H_88 e_89 s_90 hm => ?_) (fun I_91 H_92 e_93 s_94 hm => ?_)
      · refine q_ret (E := E) (K := K) (σ := [some (.ref p0), some v_wishes, some v_9, some v_16, some v_29, some v_42, some v_55, some v_62, some v_84, none]) x_bl s_90 (fun _ _ h => h.elim) hm fun a_95 v_96 I_97 H_98 e_99 s_100 r_101 hm => ?_
        exact ret_pool hm (e_12.trans (e_19.trans (e_32.trans (e_45.trans (e_58.trans (e_65.trans (e_80.trans (e_89.trans e_99)))))))) fr_74 s_100 hc_73 (Rt.mono _ (e_58.trans (e_65.trans (e_80.trans (e_89.trans e_99)))) exz hx_52) r_101
      · refine s_if (E := E) (K := K) (σ := [some (.ref p0), some v_wishes, some v_9, some v_16, some v_29, some v_42, some v_55, some v_62, some v_84, none]) (t_test (x_op (o_neD (de_tup (dt_cons de_str (dt_one de_int))) (de_tup (dt_cons de_str (dt_one de_int))) (by decide)) (x_call (a_cons (x_var (i := 7) rfl (Rp.mono _ (e_80.trans e_93) exz r_67)) (a_one (x_var (i := 8) rfl (Rp.mono _ e_93 exz r_85))))) (x_tup (a_cons (x_str (by decide +kernel)) (a_one (x_cb o_min2 (a_cons (x_var (i := 4) rfl (Rp.mono _ (e_45.trans (e_58.trans (e_65.trans (e_80.trans e_93)))) exz r_34)) (a_one (x_var (i := 5) rfl (Rp.mono _ (e_58.trans (e_65.trans (e_80.trans e_93))) exz r_47))))))) (Nat.le_of_ble_eq_true rfl)))) s_94 (fun _ _ h => h.elim) hm (fun I_102 H_103 e_104 s_105 hm => ?_) (fun I_106 H_107 e_108 s_109 hm => ?_)
        · refine q_ret (E := E) (K := K) (σ := [some (.ref p0), some v_wishes, some v_9, some v_16, some v_29, some v_42, some v_55, some v_62, some v_84, none]) x_bl s_105 (fun _ _ h => h.elim) hm fun a_110 v_111 I_112 H_113 e_114 s_115 r_116 hm => ?_
          exact ret_pool hm (e_12.trans (e_19.trans (e_32.trans (e_45.trans (e_58.trans (e_65.trans (e_80.trans (e_93.trans (e_104.trans e_114))))))))) fr_74 s_115 hc_73 (Rt.mono _ (e_58.trans (e_65.trans (e_80.trans (e_93.trans (e_104.trans e_114))))) exz hx_52) r_116
        · refine s_if (E := E) (K := K) (σ := [some (.ref p0), some v_wishes, some v_9, some v_16, some v_29, some v_42, some v_55, some v_62, some v_84, none]) (t_or (t_test (x_op (o_neD (de_tup (dt_cons de_str (dt_one de_int))) (de_tup (dt_cons de_str (dt_one de_int))) (by decide)) (x_call (a_cons (x_op o_cat (x_v (x_var (i := 2) rfl (Rp.mono _ (e_19.trans (e_32.trans (e_45.trans (e_58.trans (e_65.trans (e_80.trans (e_93.trans e_108))))))) exz r_14))) (x_v (x_lst (al_cons (x_tup (a_cons (x_int (i := 0)) (a_one (x_int (i := 1)))) (Nat.le_of_ble_eq_true rfl)) al_nil) (Nat.le_of_ble_eq_true rfl)))) (a_one (x_var (i := 8) rfl (Rp.mono _ (e_93.trans e_108) exz r_85))))) (x_tup (a_cons (x_str (by decide +kernel)) (a_one (x_int (i := 20)))) (Nat.le_of_ble_eq_true rfl)))) (t_test (x_op (o_neD (de_tup (dt_cons de_str (dt_one de_int))) (de_tup (dt_cons de_str (dt_one de_int))) (by decide)) (x_call (a_cons (x_op o_cat (x_v (x_var (i := 7) rfl (Rp.mono _ (e_80.trans (e_93.trans e_108)) exz r_67))) (x_v (x_lst (al_cons (x_tup (a_cons (x_int (i := 2)) (a_one (x_int (i := 1)))) (Nat.le_of_ble_eq_true rfl)) al_nil) (Nat.le_of_ble_eq_true rfl)))) (a_one (x_var (i := 8) rfl (Rp.mono _ (e_93.trans e_108) exz r_85))))) (x_tup (a_cons (x_str (by decide +kernel)) (a_one (x_int (i := 20)))) (Nat.le_of_ble_eq_true rfl))))) s_109 (fun _ _ h => h.elim) hm (fun I_117 H_118 e_119 s_120 hm => ?_) (fun I_121 H_122 e_123 s_124 hm => ?_)
          · refine q_ret (E := E) (K := K) (σ := [some (.ref p0), some v_wishes, some v_9, some v_16, some v_29, some v_42, some v_55, some v_62, some v_84, none]) x_bl s_120 (fun _ _ h => h.elim) hm fun a_125 v_126 I_127 H_128 e_129 s_130 r_131 hm => ?_
            exact ret_pool hm (e_12.trans (e_19.trans (e_32.trans (e_45.trans (e_58.trans (e_65.trans (e_80.trans (e_93.trans (e_108.trans (e_119.trans e_129)))))))))) fr_74 s_130 hc_73 (Rt.mono _ (e_58.trans (e_65.trans (e_80.trans (e_93.trans (e_108.trans (e_119.trans e_129)))))) exz hx_52) r_131
          · exact hm _ _ _ _ (e_93.trans (e_108.trans e_123)) s_124 ⟨some v_84, rfl, hc_73, fr_74⟩
    subst hs_138
    refine q_ret (E := E) (K := K) (σ := [some (.ref p0), some v_wishes, some v_9, some v_16, some v_29, some v_42, some v_55, some v_62, w_139, none]) x_bl s_136 (fun _ _ h => h.elim) hm fun a_144 v_145 I_146 H_147 e_148 s_149 r_150 hm => ?_
    exact ret_pool hm (e_12.trans (e_19.trans (e_32.trans (e_45.trans (e_58.trans (e_65.trans (e_135.trans e_148))))))) fr_143 s_149 hc_142 (Rt.mono _ (e_58.trans (e_65.trans (e_135.trans e_148))) exz hx_52) r_150
def m_law (a_script : List Int) : Res Bool :=
  ((poolR a_script).bind fun (pool_10 : Pl) => (((callM (fun (p : (Int × Int)) => m__law_from p.1 p.2) (liftM (pair (Res.ok (1 : Int)) (Res.ok (5 : Int))))) pool_10).bind fun (desks_11 : Int × Pl) => (((callM m__law_wishes (liftM (Res.ok desks_11.1))) desks_11.2).bind fun (wishes_23 : (List (Int × Int)) × Pl) => ((un (fun (p : ((List (Int × Int)) × Int)) => m__law_first_crowd p.1 p.2) (pair (Res.ok wishes_23.1) (Res.ok desks_11.1))).bind fun (due_35 : (Option (Int × Int))) => ((un idR (Res.ok wishes_23.1)).bind fun (passed_42 : (List (Int × Int))) => ((un (fun (p : ((List (Int × Int)) × Int)) => m_phone_paper p.1 p.2) (pair (Res.ok passed_42) (Res.ok desks_11.1))).bind fun (told_49 : (Str × ((List Int) ⊕ (Option (Int × Int))))) => (ifR (orR (un notR (un (fun _ => Res.ok true) (pair (Res.ok told_49) (Res.ok ())))) (orR (bin neR (un (fun _ => Res.ok (2 : Int)) (Res.ok told_49)) (Res.ok (2 : Int))) (bin neR (Res.ok passed_42) (Res.ok wishes_23.1)))) ((Res.ok false).bind fun a_64 => Res.ok a_64) (((Res.ok wishes_23.1).bind (mapR (fun (x_71 : (Int × Int)) => (un (fun p => Res.ok p.1) (Res.ok x_71))))).bind fun (plan_78 : (List Int)) => ((ifR (bin isNone (Res.ok due_35) (Res.ok ())) (ifR (orR (bin neR (un (fun p => Res.ok p.1) (Res.ok told_49)) (Res.ok ("plan" : Str))) (orR (un notR (un (fun p => Res.ok (isX true (isO false) p.1)) (pair (un (fun p => Res.ok p.2) (Res.ok told_49)) (Res.ok ())))) (bin rGt (un rLen ((un getL (un (fun p => Res.ok p.2) (Res.ok told_49))).bind (filR (fun (x_101 : Int) => (un notR (un m__law_is_int (Res.ok x_101)))) (fun (x_101 : Int) => (Res.ok x_101))))) (Res.ok (0 : Int))))) ((Res.ok false).bind fun a_116 => Res.ok (Out.rt a_116)) ((un idR (un getL (un (fun p => Res.ok p.2) (Res.ok told_49)))).bind fun (plan_123 : (List Int)) => (ifR (orR (un notR (un (fun (p : ((List (Int × Int)) × Int × (List Int))) => m__law_is_right_plan p.1 p.2.1 p.2.2) (pair (Res.ok wishes_23.1) (pair (Res.ok desks_11.1) (Res.ok plan_123))))) (bin inR (un rNeg (Res.ok (1 : Int))) (Res.ok plan_123))) ((Res.ok false).bind fun a_156 => Res.ok (Out.rt a_156)) (ifR (bin neR (un (fun (p : ((List (Int × Int)) × Int × (List Int))) => m_is_plan p.1 p.2.1 p.2.2) (pair (un idR (Res.ok wishes_23.1)) (pair (Res.ok desks_11.1) (un idR (Res.ok plan_123))))) (Res.ok true)) ((Res.ok false).bind fun a_171 => Res.ok (Out.rt a_171)) (((getL told_49.2).bind fun xs => push xs 0).bind fun (xs_178 : List Int) => (ifR (bin neR (un (fun (p : ((List (Int × Int)) × Int)) => m_phone_paper p.1 p.2) (pair (un idR (Res.ok wishes_23.1)) (Res.ok desks_11.1))) (pair (Res.ok ("plan" : Str)) (un inlR (Res.ok plan_123)))) ((Res.ok false).bind fun a_193 => Res.ok (Out.rt a_193)) (Res.ok (Out.nx plan_123)))))))) (ifR (orR (bin neR (un (fun p => Res.ok p.1) (Res.ok told_49)) (Res.ok ("crowd" : Str))) (orR (un notR (un (fun p => Res.ok (isX false (isO true) p.1)) (pair (un (fun p => Res.ok p.2) (Res.ok told_49)) (Res.ok ())))) (bin neR (un (fun p => Res.ok p.2) (Res.ok told_49)) (un inrR (Res.ok due_35))))) ((Res.ok false).bind fun a_208 => Res.ok (Out.rt a_208)) (ifR (orR (un notR (un m__law_is_int (un (fun p => Res.ok p.1) (un getO (un getR (un (fun p => Res.ok p.2) (Res.ok told_49))))))) (un notR (un m__law_is_int (un (fun p => Res.ok p.2) (un getO (un getR (un (fun p => Res.ok p.2) (Res.ok told_49)))))))) ((Res.ok false).bind fun a_223 => Res.ok (Out.rt a_223)) (ifR (bin neR (un (fun (p : ((List (Int × Int)) × Int × Int × Int)) => m_is_crowd p.1 p.2.1 p.2.2.1 p.2.2.2) (pair (un idR (Res.ok wishes_23.1)) (pair (Res.ok desks_11.1) (pair (un (fun p => Res.ok p.1) (un getO (Res.ok due_35))) (un (fun p => Res.ok p.2) (un getO (Res.ok due_35))))))) (Res.ok true)) ((Res.ok false).bind fun a_238 => Res.ok (Out.rt a_238)) (Res.ok (Out.nx plan_78)))))).bind fun (o : Out (List Int) Bool) => match o with | .nx z_93 => ((((callM (fun (p : ((List (Int × Int)) × (List Int))) => m__law_changed_plans p.1 p.2) (liftM (pair (Res.ok wishes_23.1) (Res.ok z_93)))) wishes_23.2).bind fun b => loopR (fun (x_261 : (List Int)) (z_250 : Pl) => ((un idR (Res.ok x_261)).bind fun (kept_280 : (List Int)) => ((un (fun (p : ((List (Int × Int)) × Int × (List Int))) => m_is_plan p.1 p.2.1 p.2.2) (pair (Res.ok passed_42) (pair (Res.ok desks_11.1) (Res.ok kept_280)))).bind fun (answer_287 : Bool) => (ifR (orR (un notR (un (fun _ => Res.ok true) (pair (Res.ok answer_287) (Res.ok ())))) (orR (bin neR (Res.ok answer_287) (un (fun (p : ((List (Int × Int)) × Int × (List Int))) => m__law_is_right_plan p.1 p.2.1 p.2.2) (pair (Res.ok wishes_23.1) (pair (Res.ok desks_11.1) (Res.ok x_261))))) (bin neR (Res.ok kept_280) (Res.ok x_261)))) ((Res.ok false).bind fun a_302 => Res.ok (Out.rt a_302)) (Res.ok (Out.nx z_250)))))) b.1 ((fun (y_270 : Pl) => y_270) b.2)).bind fun (o : Out Pl Bool) => match o with | .nx z_314 => (((un rng1 (Res.ok (10 : Int))).bind fun xs => loopR (fun (x_338 : Int) (z_325 : Pl) => (((callM m__law_take (liftM (Res.ok (61 : Int)))) z_325).bind fun (start_350 : Int × Pl) => (((callM m__law_take (liftM (Res.ok (61 : Int)))) start_350.2).bind fun (end_362 : Int × Pl) => ((ifR (andR (bin rLt (Res.ok x_338) (Res.ok (6 : Int))) (bin rGt (un rLen (Res.ok wishes_23.1)) (Res.ok (0 : Int)))) (((unM (fun p => Res.ok p.1) (binM ix (liftM (Res.ok wishes_23.1)) (callM m__law_take (liftM (un rLen (Res.ok wishes_23.1)))))) end_362.2).bind fun (start_394 : Int × Pl) => (((unM (fun p => Res.ok p.2) (binM ix (liftM (Res.ok wishes_23.1)) (callM m__law_take (liftM (un rLen (Res.ok wishes_23.1)))))) start_394.2).bind fun (end_406 : Int × Pl) => (Res.ok (end_406.2, start_394.1, end_406.1)))) (Res.ok (end_362.2, start_350.1, end_362.1))).bind fun (z_382 : (Pl × Int × Int)) => ((un (fun (p : ((List (Int × Int)) × Int × Int × Int)) => m_is_crowd p.1 p.2.1 p.2.2.1 p.2.2.2) (pair (Res.ok passed_42) (pair (Res.ok desks_11.1) (pair (Res.ok z_382.2.1) (Res.ok z_382.2.2))))).bind fun (answer_423 : Bool) => ((andR (bin rLt (Res.ok z_382.2.1) (Res.ok z_382.2.2)) (bin rGt (un (fun (p : ((List (Int × Int)) × Int × Int)) => m__law_inside p.1 p.2.1 p.2.2) (pair (Res.ok wishes_23.1) (pair (Res.ok z_382.2.1) (Res.ok z_382.2.2)))) (bin rMul (Res.ok desks_11.1) (bin rSub (Res.ok z_382.2.2) (Res.ok z_382.2.1))))).bind fun (full_430 : Bool) => (ifR (orR (un notR (un (fun _ => Res.ok true) (pair (Res.ok answer_423) (Res.ok ())))) (bin neR (Res.ok answer_423) (Res.ok full_430))) ((Res.ok false).bind fun a_445 => Res.ok (Out.rt a_445)) (Res.ok (Out.nx z_382.1))))))))) xs z_314).bind fun (o : Out Pl Bool) => match o with | .nx z_457 => (((andM (liftM (bin eqR (Res.ok passed_42) (Res.ok wishes_23.1))) (callM m__law_refused_right (liftM (Res.ok wishes_23.1)))) z_457).bind fun a_470 => Res.ok a_470.1) | .br _ => Res.bad | .rt r => Res.ok r) | .br _ => Res.bad | .rt r => Res.ok r) | .br _ => Res.bad | .rt r => Res.ok r)))))))))
abbrev N_law : List Str := ["script", "pool", "desks", "wishes", "due", "passed", "told", "plan", "other", "kept", "answer", "turn", "start", "end", "full", "wish", "m"]
theorem sc_law : FnScope N_law ["script"] (defScope s_law) := ⟨rfl, rfl, rfl, by decide +kernel, rfl, by decide +kernel, by decide +kernel⟩
theorem ok_law (T : Tx K mg) : FnOk P w K mg base CX0 7 T.f_law T.d_law ["script"] (spLaw K m_law) := by
  refine T.F_law.ok sc_law (fun vs H Q E h => ?_) (fun cdv A outer s H vs Q E hr h => ?_)
  · obtain ⟨a, ns, rfl, _⟩ := h
    rfl
  · obtain ⟨a0, a_script, rfl, hS, hz, hm⟩ := h
    obtain ⟨I0, hs, r_script⟩ := law_start hS hz
    unfold m_law at hm
    refine ⟨_, (pss_cons (ps_set (i := 1) sc_law.nd rfl (Or.inl rfl) (pe_call (ok__law_pool T) (hr.mono (by decide)) rfl T.g__law_pool T.F__law_pool.kp bind__law_pool .nil passL (pa_cons (pv 0) pa_nil))) (pss_cons (ps_set (i := 2) sc_law.nd rfl (Or.inl rfl) (pe_call (ok__law_from T) (hr.mono (by decide)) rfl T.g__law_from T.F__law_from.kp bind__law_from .nil passL (pa_cons (pv 1) (pa_cons pe_int (pa_cons pe_int pa_nil))))) (pss_cons (ps_set (i := 3) sc_law.nd rfl (Or.inl rfl) (pe_call (ok__law_wishes T) (hr.mono (by decide)) rfl T.g__law_wishes T.F__law_wishes.kp bind__law_wishes .nil passL (pa_cons (pv 1) (pa_cons (pv 2) pa_nil)))) (pss_cons (ps_set (i := 4) sc_law.nd rfl (Or.inl rfl) (pe_call (ok__law_first_crowd T) (hr.mono (by decide)) rfl T.g__law_first_crowd T.F__law_first_crowd.kp bind__law_first_crowd .nil passL (pa_cons (pv 3) (pa_cons (pv 2) pa_nil)))) (pss_cons (ps_set (i := 5) sc_law.nd rfl (Or.inl rfl) (pe_callTy (r := rList1 K) call_list_of (by rfl) T.gb_list bt_list (pa_cons (pv 3) pa_nil))) (pss_cons (ps_set (i := 6) sc_law.nd rfl (Or.inl rfl) (pe_call (ok_phone_paper T) (hr.mono (by decide)) rfl T.g_phone_paper T.F_phone_paper.kp bind_phone_paper .nil passL (pa_cons (pv 5) (pa_cons (pv 2) pa_nil)))) (pss_cons (ps_if (PW.pt (pw_or (pt_not (pt_val (pe_callB (r := rIsi K) call_isi (by rfl) T.gb_isinstance bt_isinstance (pa_cons (pv 6) (pa_cons (pe_bltn (v := .ty "tuple") rfl T.gb_tuple bt_tuple rfl) pa_nil))))) (pw_or (pt_cmpR op_ne (pe_callB (r := rLen1 K) call_len_seq (by rfl) T.gb_len bt_len (pa_cons (pv 6) pa_nil)) pe_int (nomark _)) (pw_or1 (pt_cmpR (r := rNeD K) (op_neD hr.units) (pv 5) (pv 3) (nomark _)))))) (pss_cons (ps_ret pe_bl) pss_nil) pss_nil) (pss_cons (ps_setLc (i := 7) (own := [("wish", 15)]) rfl sc_law.nd rfl rfl (sw_true rfl rfl rfl (by decide +kernel)) (show PI _ _ _ (iList K _) from pi_list (pv 3)) (blkOk_by (own := [("wish", 15)]) (N := N_law) (sc := defScope s_law) (by decide +kernel)) (fun _ _ _ _ _ => (pg_name (i := 15) sc_law.nd rfl (Or.inl rfl))) (fun _ _ _ _ _ => pts_nil) (fun _ _ _ _ _ => (pe_ix (r := rIxT K) ix_tup (pv 15) pe_int (fun _ _ => rfl)))) (Evl.pss_cut (ps_if (pt_cmpR op_isN (pv 4) pe_non (nomark _)) (pss_cons (ps_if (PW.pt (pw_or (pt_cmpR op_ne (pe_ix (r := rIxT K) ix_tup (pv 6) pe_int (fun _ _ => rfl)) pe_str (nomark _)) (pw_or (pt_not (pt_val (pe_callB (r := rIsi K) call_isi (by rfl) T.gb_isinstance bt_isinstance (pa_cons (pe_ix (r := rIxT K) ix_tup (pv 6) pe_int (fun _ _ => rfl)) (pa_cons (pe_bltn (v := .ty "list") rfl T.gb_list bt_list rfl) pa_nil))))) (pw_or1 (pt_cmpR op_gt (pe_callB (r := rLen1 K) call_len_seq (by rfl) T.gb_len bt_len (pa_cons (pe_lc (own := [("m", 16)]) rfl sc_law.nd (show PI _ _ _ (iList K _) from pi_list (pe_ix (r := rIxT K) ix_tup (pv 6) pe_int (fun _ _ => rfl))) (blkOk_by (own := [("m", 16)]) (N := N_law) (sc := defScope s_law) (by decide +kernel)) (fun _ _ _ _ _ => (pg_name (i := 16) sc_law.nd rfl (Or.inl rfl))) (fun _ _ _ _ _ => (pts_one (pt_not (pt_val (pe_call (ok__law_is_int T) (hr.mono (by decide)) rfl T.g__law_is_int T.F__law_is_int.kp bind__law_is_int .nil passL (pa_cons (pv 16) pa_nil)))))) (fun _ _ _ _ _ => (pv 16))) pa_nil)) pe_int (nomark _)))))) (pss_cons (ps_ret pe_bl) pss_nil) pss_nil) (pss_cons (ps_set (i := 7) sc_law.nd rfl (Or.inl rfl) (pe_callTy (r := rList1 K) call_list_of (by rfl) T.gb_list bt_list (pa_cons (pe_ix (r := rIxT K) ix_tup (pv 6) pe_int (fun _ _ => rfl)) pa_nil))) (pss_cons (ps_if (PW.pt (pw_or (pt_not (pt_val (pe_call (ok__law_is_right_plan T) (hr.mono (by decide)) rfl T.g__law_is_right_plan T.F__law_is_right_plan.kp bind__law_is_right_plan .nil passL (pa_cons (pv 3) (pa_cons (pv 2) (pa_cons (pv 7) pa_nil)))))) (pw_or1 (pt_cmpR (r := rIn K false) op_in_seq (pe_un un_neg pe_int) (pv 7) rfl)))) (pss_cons (ps_ret pe_bl) pss_nil) pss_nil) (pss_cons (ps_if (pt_cmpR op_notBl (pe_call (ok_is_plan T) (hr.mono (by decide)) rfl T.g_is_plan T.F_is_plan.kp bind_is_plan .nil passL (pa_cons (pe_callTy (r := rList1 K) call_list_of (by rfl) T.gb_list bt_list (pa_cons (pv 3) pa_nil)) (pa_cons (pv 2) (pa_cons (pe_callTy (r := rList1 K) call_list_of (by rfl) T.gb_list bt_list (pa_cons (pv 7) pa_nil)) pa_nil)))) pe_bl (nomark _)) (pss_cons (ps_ret pe_bl) pss_nil) pss_nil) (pss_cons (ps_expr (show PE _ _ (tBM K "list" rAppend _ _) from pe_bm PySem.F.plainAttrs_list PySem.F.slot_list_append PySem.F.type_list_append mt_append (pe_ix (r := rIxT K) ix_tup (pv 6) pe_int (fun _ _ => rfl)) (pa_cons pe_int pa_nil))) (pss_cons (ps_if (pt_cmpR (r := rNeD K) (op_neD hr.units) (pe_call (ok_phone_paper T) (hr.mono (by decide)) rfl T.g_phone_paper T.F_phone_paper.kp bind_phone_paper .nil passL (pa_cons (pe_callTy (r := rList1 K) call_list_of (by rfl) T.gb_list bt_list (pa_cons (pv 3) pa_nil)) (pa_cons (pv 2) pa_nil))) (pe_tup (pa_cons pe_str (pa_cons (pv 7) pa_nil))) (nomark _)) (pss_cons (ps_ret pe_bl) pss_nil) pss_nil) pss_nil)))))) (pss_cons (ps_if (PW.pt (pw_or (pt_cmpR op_ne (pe_ix (r := rIxT K) ix_tup (pv 6) pe_int (fun _ _ => rfl)) pe_str (nomark _)) (pw_or (pt_not (pt_val (pe_callB (r := rIsi K) call_isi (by rfl) T.gb_isinstance bt_isinstance (pa_cons (pe_ix (r := rIxT K) ix_tup (pv 6) pe_int (fun _ _ => rfl)) (pa_cons (pe_bltn (v := .ty "tuple") rfl T.gb_tuple bt_tuple rfl) pa_nil))))) (pw_or1 (pt_cmpR (r := rNeD K) (op_neD hr.units) (pe_ix (r := rIxT K) ix_tup (pv 6) pe_int (fun _ _ => rfl)) (pv 4) (nomark _)))))) (pss_cons (ps_ret pe_bl) pss_nil) pss_nil) (pss_cons (ps_if (PW.pt (pw_or (pt_not (pt_val (pe_call (ok__law_is_int T) (hr.mono (by decide)) rfl T.g__law_is_int T.F__law_is_int.kp bind__law_is_int .nil passL (pa_cons (pe_ix (r := rIxT K) ix_tup (pe_ix (r := rIxT K) ix_tup (pv 6) pe_int (fun _ _ => rfl)) pe_int (fun _ _ => rfl)) pa_nil)))) (pw_or1 (pt_not (pt_val (pe_call (ok__law_is_int T) (hr.mono (by decide)) rfl T.g__law_is_int T.F__law_is_int.kp bind__law_is_int .nil passL (pa_cons (pe_ix (r := rIxT K) ix_tup (pe_ix (r := rIxT K) ix_tup (pv 6) pe_int (fun _ _ => rfl)) pe_int (fun _ _ => rfl)) pa_nil))))))) (pss_cons (ps_ret pe_bl) pss_nil) pss_nil) (pss_cons (ps_if (pt_cmpR op_notBl (pe_call (ok_is_crowd T) (hr.mono (by decide)) rfl T.g_is_crowd T.F_is_crowd.kp bind_is_crowd .nil passL (pa_cons (pe_callTy (r := rList1 K) call_list_of (by rfl) T.gb_list bt_list (pa_cons (pv 3) pa_nil)) (pa_cons (pv 2) (pa_cons (pe_ix (r := rIxT K) ix_tup (pv 4) pe_int (fun _ _ => rfl)) (pa_cons (pe_ix (r := rIxT K) ix_tup (pv 4) pe_int (fun _ _ => rfl)) pa_nil))))) pe_bl (nomark _)) (pss_cons (ps_ret pe_bl) pss_nil) pss_nil) pss_nil)))) (pss_cons (ps_for (passes_of rfl) rfl (show PI _ _ _ (iList K _) from pi_list (pe_call (ok__law_changed_plans T) (hr.mono (by decide)) rfl T.g__law_changed_plans T.F__law_changed_plans.kp bind__law_changed_plans .nil passL (pa_cons (pv 1) (pa_cons (pv 3) (pa_cons (pv 7) pa_nil))))) (pg_name (i := 8) sc_law.nd rfl (Or.inl rfl)) (pss_cons (ps_set (i := 9) sc_law.nd rfl (Or.inl rfl) (pe_callTy (r := rList1 K) call_list_of (by rfl) T.gb_list bt_list (pa_cons (pv 8) pa_nil))) (pss_cons (ps_set (i := 10) sc_law.nd rfl (Or.inl rfl) (pe_call (ok_is_plan T) (hr.mono (by decide)) rfl T.g_is_plan T.F_is_plan.kp bind_is_plan .nil passL (pa_cons (pv 5) (pa_cons (pv 2) (pa_cons (pv 9) pa_nil))))) (pss_cons (ps_if (PW.pt (pw_or (pt_not (pt_val (pe_callB (r := rIsi K) call_isi (by rfl) T.gb_isinstance bt_isinstance (pa_cons (pv 10) (pa_cons (pe_bltn (v := .ty "bool") rfl T.gb_bool bt_bool rfl) pa_nil))))) (pw_or (pt_cmpR op_ne (pv 10) (pe_call (ok__law_is_right_plan T) (hr.mono (by decide)) rfl T.g__law_is_right_plan T.F__law_is_right_plan.kp bind__law_is_right_plan .nil passL (pa_cons (pv 3) (pa_cons (pv 2) (pa_cons (pv 8) pa_nil)))) (nomark _)) (pw_or1 (pt_cmpR (r := rNeD K) (op_neD hr.units) (pv 9) (pv 8) (nomark _)))))) (pss_cons (ps_ret pe_bl) pss_nil) pss_nil) pss_nil)))) (pss_cons (ps_for (passes_of rfl) rfl (pi_range1 (by rfl) T.gb_range (pa_cons pe_int pa_nil)) (pg_name (i := 11) sc_law.nd rfl (Or.inl rfl)) (pss_cons (ps_set (i := 12) sc_law.nd rfl (Or.inl rfl) (pe_call (ok__law_take T) (hr.mono (by decide)) rfl T.g__law_take T.F__law_take.kp bind__law_take .nil passL (pa_cons (pv 1) (pa_cons pe_int pa_nil)))) (pss_cons (ps_set (i := 13) sc_law.nd rfl (Or.inl rfl) (pe_call (ok__law_take T) (hr.mono (by decide)) rfl T.g__law_take T.F__law_take.kp bind__law_take .nil passL (pa_cons (pv 1) (pa_cons pe_int pa_nil)))) (Evl.pss_cut (ps_if (PW.pt (pw_and (pt_cmpR op_lt (pv 11) pe_int (nomark _)) (pw_and1 (pt_cmpR op_gt (pe_callB (r := rLen1 K) call_len_seq (by rfl) T.gb_len bt_len (pa_cons (pv 3) pa_nil)) pe_int (nomark _))))) (pss_cons (ps_set (i := 12) sc_law.nd rfl (Or.inl rfl) (pe_ix (r := rIxT K) ix_tup (pe_ix (r := rIxL K) ix_list (pv 3) (pe_call (ok__law_take T) (hr.mono (by decide)) rfl T.g__law_take T.F__law_take.kp bind__law_take .nil passL (pa_cons (pv 1) (pa_cons (pe_callB (r := rLen1 K) call_len_seq (by rfl) T.gb_len bt_len (pa_cons (pv 3) pa_nil)) pa_nil))) (fun _ _ => rfl)) pe_int (fun _ _ => rfl))) (pss_cons (ps_set (i := 13) sc_law.nd rfl (Or.inl rfl) (pe_ix (r := rIxT K) ix_tup (pe_ix (r := rIxL K) ix_list (pv 3) (pe_call (ok__law_take T) (hr.mono (by decide)) rfl T.g__law_take T.F__law_take.kp bind__law_take .nil passL (pa_cons (pv 1) (pa_cons (pe_callB (r := rLen1 K) call_len_seq (by rfl) T.gb_len bt_len (pa_cons (pv 3) pa_nil)) pa_nil))) (fun _ _ => rfl)) pe_int (fun _ _ => rfl))) pss_nil)) pss_nil) (pss_cons (ps_set (i := 10) sc_law.nd rfl (Or.inl rfl) (pe_call (ok_is_crowd T) (hr.mono (by decide)) rfl T.g_is_crowd T.F_is_crowd.kp bind_is_crowd .nil passL (pa_cons (pv 5) (pa_cons (pv 2) (pa_cons (pv 12) (pa_cons (pv 13) pa_nil)))))) (pss_cons (ps_set (i := 14) sc_law.nd rfl (Or.inl rfl) (pe_and (pe_cmpR op_lt (pv 12) (pv 13) (nomark _)) (pe_one (pe_cmpR op_gt (pe_call (ok__law_inside T) (hr.mono (by decide)) rfl T.g__law_inside T.F__law_inside.kp bind__law_inside .nil passL (pa_cons (pv 3) (pa_cons (pv 12) (pa_cons (pv 13) pa_nil)))) (pe_op op_mul (pv 2) (pe_op op_sub (pv 13) (pv 12))) (nomark _))))) (pss_cons (ps_if (PW.pt (pw_or (pt_not (pt_val (pe_callB (r := rIsi K) call_isi (by rfl) T.gb_isinstance bt_isinstance (pa_cons (pv 10) (pa_cons (pe_bltn (v := .ty "bool") rfl T.gb_bool bt_bool rfl) pa_nil))))) (pw_or1 (pt_cmpR op_ne (pv 10) (pv 14) (nomark _))))) (pss_cons (ps_ret pe_bl) pss_nil) pss_nil) pss_nil))))))) (pss_cons (ps_ret (pe_and (pe_cmpR (r := rEqD K) (op_eqD hr.units) (pv 5) (pv 3) (nomark _)) (pe_one (pe_call (ok__law_refused_right T) (hr.mono (by decide)) rfl T.g__law_refused_right T.F__law_refused_right.kp bind__law_refused_right .nil passL (pa_cons (pv 1) (pa_cons (pv 3) pa_nil)))))) pss_nil)))))))))))), ?_⟩
    refine q_mkpool (E := EZ) (K := K) (σ := [some (.ref a0), none, none, none, none, none, none, none, none, none, none, none, none, none, none, none, none]) (i := 1) (j := 0) rfl (Rp.mono _ (Ex.refl _) exz r_script) hs hm fun pool_10 p_1 ws_2 I_3 C_4 H_5 e_6 s_7 hc_8 hx_9 hm => ?_
    refine qm_asg (E := EZ) (K := K) (σ := [some (.ref a0), some (.ref p_1), none, none, none, none, none, none, none, none, none, none, none, none, none, none, none]) (i := 2) (m_callM (i := 1) rfl (am_pure (a_cons (x_int (i := 1)) (a_one (x_int (i := 5)))))) s_7 hc_8 (Rt.mono _ (Ex.refl _) exz hx_9) hm fun desks_11 v_12 ws_18 I_13 C_19 H_14 e_15 s_16 hc_20 k_21 hx_22 r_17 hm => ?_
    refine qm_asg (E := EZ) (K := K) (σ := [some (.ref a0), some (.ref p_1), some v_12, none, none, none, none, none, none, none, none, none, none, none, none, none, none]) (i := 3) (m_callM (i := 1) rfl (am_pure (a_one (x_var (i := 2) rfl (Rp.mono _ (Ex.refl _) exz r_17))))) s_16 hc_20 (Rt.mono _ (Ex.refl _) exz hx_22) hm fun wishes_23 v_24 ws_30 I_25 C_31 H_26 e_27 s_28 hc_32 k_33 hx_34 r_29 hm => ?_
    refine q_asg (E := EZ) (K := K) (σ := [some (.ref a0), some (.ref p_1), some v_12, some v_24, none, none, none, none, none, none, none, none, none, none, none, none, none]) (i := 4) (x_call (a_cons (x_var (i := 3) rfl (Rp.mono _ (Ex.refl _) exz r_29)) (a_one (x_var (i := 2) rfl (Rp.mono _ e_27 exz r_17))))) s_28 (fun _ _ h => h.elim) hm fun due_35 v_36 I_37 H_38 e_39 s_40 r_41 hm => ?_
    refine q_asg (E := EZ) (K := K) (σ := [some (.ref a0), some (.ref p_1), some v_12, some v_24, some v_36, none, none, none, none, none, none, none, none, none, none, none, none]) (i := 5) (x_cb o_list (a_one (x_v (x_var (i := 3) rfl (Rp.mono _ e_39 exz r_29))))) s_40 (fun _ _ h => h.elim) hm fun passed_42 v_43 I_44 H_45 e_46 s_47 r_48 hm => ?_
    refine q_asg (E := EZ) (K := K) (σ := [some (.ref a0), some (.ref p_1), some v_12, some v_24, some v_36, some v_43, none, none, none, none, none, none, none, none, none, none, none]) (i := 6) (x_callD paper_up (a_cons (x_var (i := 5) rfl (Rp.mono _ (Ex.refl _) exz r_48)) (a_one (x_var (i := 2) rfl (Rp.mono _ (e_27.trans (e_39.trans e_46)) exz r_17))))) s_47 (fun _ _ h => h.elim) hm fun told_49 v_50 I_51 H_52 e_53 s_54 r_55 hm => ?_
    refine s_if (E := EZ) (K := K) (σ := [some (.ref a0), some (.ref p_1), some v_12, some v_24, some v_36, some v_43, some v_50, none, none, none, none, none, none, none, none, none, none]) (t_or (t_not (t_B (x_cb (o_isi (n := "tuple") (by decide +kernel)) (a_cons (x_var (i := 6) rfl (Rp.mono _ (Ex.refl _) exz r_55)) (a_one (x_c (R := pY "tuple") (a := ()) fun _ _ => rfl)))))) (t_or (t_test (x_op o_neI (x_cb o_lenT (a_one (x_var (i := 6) rfl (Rp.mono _ (Ex.refl _) exz r_55)))) (x_int (i := 2)))) (t_test (x_op (o_neD (de_lst (de_tup (dt_cons de_int (dt_one de_int)))) (de_lst (de_tup (dt_cons de_int (dt_one de_int)))) (by decide)) (x_var (i := 5) rfl (Rp.mono _ e_53 exz r_48)) (x_var (i := 3) rfl (Rp.mono _ (e_39.trans (e_46.trans e_53)) exz r_29)))))) s_54 (fun _ _ h => h.elim) hm (fun I_56 H_57 e_58 s_59 hm => ?_) (fun I_60 H_61 e_62 s_63 hm => ?_)
    · refine q_ret (E := EZ) (K := K) (σ := [some (.ref a0), some (.ref p_1), some v_12, some v_24, some v_36, some v_43, some v_50, none, none, none, none, none, none, none, none, none, none]) x_bl s_59 (fun _ _ h => h.elim) hm fun a_64 v_65 I_66 H_67 e_68 s_69 r_70 hm => ?_
      exact hm v_65 H_67 r_70
    · refine q_asg (E := EZ) (K := K) (σ := [some (.ref a0), some (.ref p_1), some v_12, some v_24, some v_36, some v_43, some v_50, none, none, none, none, none, none, none, none, none, none]) (i := 7) (x_lc (i_list (x_var (i := 3) rfl (Rp.mono _ (e_39.trans (e_46.trans (e_53.trans e_62))) exz r_29))) g1 (fun _ _ _ _ ⟨_, h, _⟩ => by rw [h]; rfl) (fun x_71 σ2 I_72 C_73 e_74 c_75 ⟨v_76, h, r_77⟩ => by subst h; exact (x_k (k := ((0 : Nat) : Int)) (o_pj pj0) (x_var (i := 15) rfl (Rp.mono _ (Ex.refl _) exz r_77)))) (fun _ _ _ _ _ e ⟨v_76, h, r_77⟩ => ⟨v_76, h, Rp.mono _ e exz r_77⟩)) s_63 (fun _ _ h => h.elim) hm fun plan_78 v_79 I_80 H_81 e_82 s_83 r_84 hm => ?_
      refine s_ifrB (E := EZ) (K := K) (σ := [some (.ref a0), some (.ref p_1), some v_12, some v_24, some v_36, some v_43, some v_50, some v_79, none, none, none, none, none, none, none, none, none]) (fun (z_93 : (List Int)) σ2 I_95 C_96 => ∃ v_97 : V, σ2 = [some (.ref a0), some (.ref p_1), some v_12, some v_24, some v_36, some v_43, some v_50, some v_97, none, none, none, none, none, none, none, none, none] ∧ Rp.r (pL pI) z_93 v_97 I_95 Z ∧ C_96 p_1 = some (.lst ws_30)) (e_53.trans (e_62.trans e_82)) (t_test (x_op o_isN (x_var (i := 4) rfl (Rp.mono _ (e_46.trans (e_53.trans (e_62.trans e_82))) exz r_41)) x_non)) s_83 (fun _ _ h => h.elim) hm (fun N I_85 H_86 e_87 s_88 hm => ?_) (fun N I_89 H_90 e_91 s_92 hm => ?_) (fun z_93 σ2 I_245 C_246 H_247 e_248 s_249 ⟨v_97, hs_94, r_98, hc_99⟩ hm => ?_)
      · refine s_if (E := EZ) (K := K) (σ := [some (.ref a0), some (.ref p_1), some v_12, some v_24, some v_36, some v_43, some v_50, some v_79, none, none, none, none, none, none, none, none, none]) (t_or (t_test (x_op o_neS (x_k (k := ((0 : Nat) : Int)) (o_pj pj0) (x_var (i := 6) rfl (Rp.mono _ (e_62.trans (e_82.trans e_87)) exz r_55))) (x_str (by decide +kernel)))) (t_or (t_not (t_B (x_cb (o_isiXO (n := "list") (n2 := "tuple") (by decide +kernel) (by decide +kernel) (by decide +kernel)) (a_cons (x_k (k := ((1 : Nat) : Int)) (o_pj (pjs pj1)) (x_var (i := 6) rfl (Rp.mono _ (e_62.trans (e_82.trans e_87)) exz r_55))) (a_one (x_c (R := pY "list") (a := ()) fun _ _ => rfl)))))) (t_test (x_op o_gt (x_cb o_len (a_one (x_v (x_lcg (i_list (x_n2l (x_getL (x_k (k := ((1 : Nat) : Int)) (o_pj (pjs pj1)) (x_var (i := 6) rfl (Rp.mono _ (e_62.trans (e_82.trans e_87)) exz r_55)))))) g1 (fun _ _ _ _ ⟨_, h, _⟩ => by rw [h]; rfl) (fun x_101 σ2 I_102 C_103 e_104 c_105 ⟨v_106, h, r_107⟩ => by subst h; exact (t_not (t_B (x_call (a_one (x_var (i := 16) rfl (Rp.mono _ (Ex.refl _) exz r_107))))))) (fun x_101 σ2 I_102 C_103 e_104 c_105 ⟨v_106, h, r_107⟩ => by subst h; exact (x_var (i := 16) rfl (Rp.mono _ (Ex.refl _) exz r_107))) (fun _ _ _ _ _ e ⟨v_106, h, r_107⟩ => ⟨v_106, h, Rp.mono _ e exz r_107⟩))))) (x_int (i := 0)))))) s_88 (fun _ _ h => h.elim) hm (fun I_108 H_109 e_110 s_111 hm => ?_) (fun I_112 H_113 e_114 s_115 hm => ?_)
        · refine q_ret (E := EZ) (K := K) (σ := [some (.ref a0), some (.ref p_1), some v_12, some v_24, some v_36, some v_43, some v_50, some v_79, none, none, none, none, none, none, none, none, none]) x_bl s_111 (fun _ _ h => h.elim) hm fun a_116 v_117 I_118 H_119 e_120 s_121 r_122 hm => ?_
          exact hm v_117 H_119 r_122
        · refine q_asgN (E := EZ) (K := K) (σ := [some (.ref a0), some (.ref p_1), some v_12, some v_24, some v_36, some v_43, some v_50, some v_79, none, none, none, none, none, none, none, none, none]) (i := 7) (n_cb n_list (a_one (x_v (x_n2l (x_getL (x_k (k := ((1 : Nat) : Int)) (o_pj (pjs pj1)) (x_var (i := 6) rfl (Rp.mono _ (e_62.trans (e_82.trans (e_87.trans e_114))) exz r_55)))))))) s_115 (fun _ _ h => h.elim) hm fun plan_123 p_124 vs_125 I_126 C_127 H_128 e_129 hp_130 s_131 hc_132 k_133 hl_134 hr_135 hm => ?_
          have ne_136 := ne_new hc_32 hp_130
          have hB_137 : Z p_124 = none := rfl
          have hc_138 := (k_133 _ ne_136).trans hc_32
          have fi_145 := St.freeI s_131 hc_132
          obtain ⟨I_139, C_140, e_141, s_142, h_143, k_144⟩ := freeze s_131 hc_132
          have r_146 := frz_list e_141 h_143 hl_134 hr_135
          have hc_147 := (k_144 _ ne_136).trans hc_138
          refine s_if (E := EZ) (K := K) (σ := [some (.ref a0), some (.ref p_1), some v_12, some v_24, some v_36, some v_43, some v_50, some (.ref p_124), none, none, none, none, none, none, none, none, none]) (t_or (t_not (t_B (x_call (a_cons (x_var (i := 3) rfl (Rp.mono _ (e_39.trans (e_46.trans (e_53.trans (e_62.trans (e_82.trans (e_87.trans (e_114.trans (e_129.trans e_141)))))))) exz r_29)) (a_cons (x_var (i := 2) rfl (Rp.mono _ (e_27.trans (e_39.trans (e_46.trans (e_53.trans (e_62.trans (e_82.trans (e_87.trans (e_114.trans (e_129.trans e_141))))))))) exz r_17)) (a_one (x_var (i := 7) rfl (Rp.mono _ (Ex.refl _) exz r_146)))))))) (t_test (x_op (o_in fl_int) (x_un o_neg (x_int (i := 1))) (x_v (x_var (i := 7) rfl (Rp.mono _ (Ex.refl _) exz r_146)))))) s_142 (fun _ _ h => h.elim) hm (fun I_148 H_149 e_150 s_151 hm => ?_) (fun I_152 H_153 e_154 s_155 hm => ?_)
          · refine q_ret (E := EZ) (K := K) (σ := [some (.ref a0), some (.ref p_1), some v_12, some v_24, some v_36, some v_43, some v_50, some (.ref p_124), none, none, none, none, none, none, none, none, none]) x_bl s_151 (fun _ _ h => h.elim) hm fun a_156 v_157 I_158 H_159 e_160 s_161 r_162 hm => ?_
            exact hm v_157 H_159 r_162
          · refine s_if (E := EZ) (K := K) (σ := [some (.ref a0), some (.ref p_1), some v_12, some v_24, some v_36, some v_43, some v_50, some (.ref p_124), none, none, none, none, none, none, none, none, none]) (t_test (x_op o_notB (x_call (a_cons (x_cb o_list (a_one (x_v (x_var (i := 3) rfl (Rp.mono _ (e_39.trans (e_46.trans (e_53.trans (e_62.trans (e_82.trans (e_87.trans (e_114.trans (e_129.trans (e_141.trans e_154))))))))) exz r_29))))) (a_cons (x_var (i := 2) rfl (Rp.mono _ (e_27.trans (e_39.trans (e_46.trans (e_53.trans (e_62.trans (e_82.trans (e_87.trans (e_114.trans (e_129.trans (e_141.trans e_154)))))))))) exz r_17)) (a_one (x_cb o_list (a_one (x_v (x_var (i := 7) rfl (Rp.mono _ e_154 exz r_146))))))))) x_bl)) s_155 (fun _ _ h => h.elim) hm (fun I_163 H_164 e_165 s_166 hm => ?_) (fun I_167 H_168 e_169 s_170 hm => ?_)
            · refine q_ret (E := EZ) (K := K) (σ := [some (.ref a0), some (.ref p_1), some v_12, some v_24, some v_36, some v_43, some v_50, some (.ref p_124), none, none, none, none, none, none, none, none, none]) x_bl s_166 (fun _ _ h => h.elim) hm fun a_171 v_172 I_173 H_174 e_175 s_176 r_177 hm => ?_
              exact hm v_172 H_174 r_177
            · refine q_appN (K := K) (σ := [some (.ref a0), some (.ref p_1), some v_12, some v_24, some v_36, some v_43, some v_50, some (.ref p_124), none, none, none, none, none, none, none, none, none]) (i := 6) (B := I_44) (It := I_51) rfl r_55 (e_62.trans (e_82.trans (e_87.trans (e_114.trans (e_129.trans (e_141.trans (e_154.trans e_169))))))) (e_53.trans (e_62.trans (e_82.trans (e_87.trans (e_114.trans (e_129.trans (e_141.trans (e_154.trans e_169)))))))) ((e_154.trans e_169) _ _ h_143) (Ex.free (e_62.trans (e_82.trans (e_87.trans (e_114.trans e_129)))) fi_145) s_170 hm fun xs_178 I_179 H_180 e_181 s_182 h_183 hm => ?_
              have r_184 : (pL pI).r plan_123 (.ref p_124) I_179 Z := ⟨_, _, rfl, h_183, hl_134, hr_135.imp fun _ _ h => h⟩
              refine s_if (E := EZ) (K := K) (σ := [some (.ref a0), some (.ref p_1), some v_12, some v_24, some v_36, some v_43, some v_50, some (.ref p_124), none, none, none, none, none, none, none, none, none]) (t_test (x_op (o_neD (de_tup (dt_cons de_str (dt_one (de_sum (de_new de_int) (de_opt (de_tup (dt_cons de_int (dt_one de_int))) (fun _ => ⟨by simp [PyData.eqv], by simp [PyData.eqv]⟩)) (fun a b => oEnc_no (fun _ => ⟨by simp [PyData.eqv], by simp [PyData.eqv]⟩) ⟨by simp [PyData.eqv], by simp [PyData.eqv]⟩ b))))) (de_tup (dt_cons de_str (dt_one (de_sum (de_lst de_int) (de_opt (de_tup (dt_cons de_int (dt_one de_int))) (fun _ => ⟨by simp [PyData.eqv], by simp [PyData.eqv]⟩)) (fun a b => oEnc_no (fun _ => ⟨by simp [PyData.eqv], by simp [PyData.eqv]⟩) ⟨by simp [PyData.eqv], by simp [PyData.eqv]⟩ b))))) (by decide)) (x_callD paper_up (a_cons (x_cb o_list (a_one (x_v (x_var (i := 3) rfl (Rp.mono _ (e_39.trans (e_46.trans e_181)) exz r_29))))) (a_one (x_var (i := 2) rfl (Rp.mono _ (e_27.trans (e_39.trans (e_46.trans e_181))) exz r_17))))) (x_tup (a_cons (x_str (by decide +kernel)) (a_one (x_inl (S1 := (pO (pT (tc pI (t1 pI))))) (x_var (i := 7) rfl (Rp.mono _ (Ex.refl _) exz r_184))))) (Nat.le_of_ble_eq_true rfl)))) s_182 (fun _ _ h => h.elim) hm (fun I_185 H_186 e_187 s_188 hm => ?_) (fun I_189 H_190 e_191 s_192 hm => ?_)
              · refine q_ret (E := EZ) (K := K) (σ := [some (.ref a0), some (.ref p_1), some v_12, some v_24, some v_36, some v_43, some v_50, some (.ref p_124), none, none, none, none, none, none, none, none, none]) x_bl s_188 (fun _ _ h => h.elim) hm fun a_193 v_194 I_195 H_196 e_197 s_198 r_199 hm => ?_
                exact hm v_194 H_196 r_199
              · exact hm _ _ _ _ (e_181.trans e_191) s_192 ⟨(.ref p_124), rfl, Rp.mono _ e_191 exz r_184, hc_147⟩
      · refine s_if (E := EZ) (K := K) (σ := [some (.ref a0), some (.ref p_1), some v_12, some v_24, some v_36, some v_43, some v_50, some v_79, none, none, none, none, none, none, none, none, none]) (t_or (t_test (x_op o_neS (x_k (k := ((0 : Nat) : Int)) (o_pj pj0) (x_var (i := 6) rfl (Rp.mono _ (e_62.trans (e_82.trans e_91)) exz r_55))) (x_str (by decide +kernel)))) (t_or (t_not (t_B (x_cb (o_isiXO (n := "list") (n2 := "tuple") (by decide +kernel) (by decide +kernel) (by decide +kernel)) (a_cons (x_k (k := ((1 : Nat) : Int)) (o_pj (pjs pj1)) (x_var (i := 6) rfl (Rp.mono _ (e_62.trans (e_82.trans e_91)) exz r_55))) (a_one (x_c (R := pY "tuple") (a := ()) fun _ _ => rfl)))))) (t_test (x_op (o_neD (de_sum (de_new de_int) (de_opt (de_tup (dt_cons de_int (dt_one de_int))) (fun _ => ⟨by simp [PyData.eqv], by simp [PyData.eqv]⟩)) (fun a b => oEnc_no (fun _ => ⟨by simp [PyData.eqv], by simp [PyData.eqv]⟩) ⟨by simp [PyData.eqv], by simp [PyData.eqv]⟩ b)) (de_sum (de_lst de_int) (de_opt (de_tup (dt_cons de_int (dt_one de_int))) (fun _ => ⟨by simp [PyData.eqv], by simp [PyData.eqv]⟩)) (fun a b => oEnc_no (fun _ => ⟨by simp [PyData.eqv], by simp [PyData.eqv]⟩) ⟨by simp [PyData.eqv], by simp [PyData.eqv]⟩ b)) (by decide)) (x_k (k := ((1 : Nat) : Int)) (o_pj (pjs pj1)) (x_var (i := 6) rfl (Rp.mono _ (e_62.trans (e_82.trans e_91)) exz r_55))) (x_inr (R := (pL pI)) (x_var (i := 4) rfl (Rp.mono _ (e_46.trans (e_53.trans (e_62.trans (e_82.trans e_91)))) exz r_41))))))) s_92 (fun _ _ h => h.elim) hm (fun I_200 H_201 e_202 s_203 hm => ?_) (fun I_204 H_205 e_206 s_207 hm => ?_)
        · refine q_ret (E := EZ) (K := K) (σ := [some (.ref a0), some (.ref p_1), some v_12, some v_24, some v_36, some v_43, some v_50, some v_79, none, none, none, none, none, none, none, none, none]) x_bl s_203 (fun _ _ h => h.elim) hm fun a_208 v_209 I_210 H_211 e_212 s_213 r_214 hm => ?_
          exact hm v_209 H_211 r_214
        · refine s_if (E := EZ) (K := K) (σ := [some (.ref a0), some (.ref p_1), some v_12, some v_24, some v_36, some v_43, some v_50, some v_79, none, none, none, none, none, none, none, none, none]) (t_or (t_not (t_B (x_call (a_one (x_k (k := ((0 : Nat) : Int)) (o_pj pj0) (x_get (x_getR (x_k (k := ((1 : Nat) : Int)) (o_pj (pjs pj1)) (x_var (i := 6) rfl (Rp.mono _ (e_62.trans (e_82.trans (e_91.trans e_206))) exz r_55)))))))))) (t_not (t_B (x_call (a_one (x_k (k := ((1 : Nat) : Int)) (o_pj (pjs pj1)) (x_get (x_getR (x_k (k := ((1 : Nat) : Int)) (o_pj (pjs pj1)) (x_var (i := 6) rfl (Rp.mono _ (e_62.trans (e_82.trans (e_91.trans e_206))) exz r_55))))))))))) s_207 (fun _ _ h => h.elim) hm (fun I_215 H_216 e_217 s_218 hm => ?_) (fun I_219 H_220 e_221 s_222 hm => ?_)
          · refine q_ret (E := EZ) (K := K) (σ := [some (.ref a0), some (.ref p_1), some v_12, some v_24, some v_36, some v_43, some v_50, some v_79, none, none, none, none, none, none, none, none, none]) x_bl s_218 (fun _ _ h => h.elim) hm fun a_223 v_224 I_225 H_226 e_227 s_228 r_229 hm => ?_
            exact hm v_224 H_226 r_229
          · refine s_if (E := EZ) (K := K) (σ := [some (.ref a0), some (.ref p_1), some v_12, some v_24, some v_36, some v_43, some v_50, some v_79, none, none, none, none, none, none, none, none, none]) (t_test (x_op o_notB (x_call (a_cons (x_cb o_list (a_one (x_v (x_var (i := 3) rfl (Rp.mono _ (e_39.trans (e_46.trans (e_53.trans (e_62.trans (e_82.trans (e_91.trans (e_206.trans e_221))))))) exz r_29))))) (a_cons (x_var (i := 2) rfl (Rp.mono _ (e_27.trans (e_39.trans (e_46.trans (e_53.trans (e_62.trans (e_82.trans (e_91.trans (e_206.trans e_221)))))))) exz r_17)) (a_cons (x_k (k := ((0 : Nat) : Int)) (o_pj pj0) (x_get (x_var (i := 4) rfl (Rp.mono _ (e_46.trans (e_53.trans (e_62.trans (e_82.trans (e_91.trans (e_206.trans e_221)))))) exz r_41)))) (a_one (x_k (k := ((1 : Nat) : Int)) (o_pj (pjs pj1)) (x_get (x_var (i := 4) rfl (Rp.mono _ (e_46.trans (e_53.trans (e_62.trans (e_82.trans (e_91.trans (e_206.trans e_221)))))) exz r_41))))))))) x_bl)) s_222 (fun _ _ h => h.elim) hm (fun I_230 H_231 e_232 s_233 hm => ?_) (fun I_234 H_235 e_236 s_237 hm => ?_)
            · refine q_ret (E := EZ) (K := K) (σ := [some (.ref a0), some (.ref p_1), some v_12, some v_24, some v_36, some v_43, some v_50, some v_79, none, none, none, none, none, none, none, none, none]) x_bl s_233 (fun _ _ h => h.elim) hm fun a_238 v_239 I_240 H_241 e_242 s_243 r_244 hm => ?_
              exact hm v_239 H_241 r_244
            · exact hm _ _ _ _ (e_53.trans (e_62.trans (e_82.trans (e_91.trans (e_206.trans (e_221.trans e_236)))))) s_237 ⟨v_79, rfl, Rp.mono _ (e_91.trans (e_206.trans (e_221.trans e_236))) exz r_84, hc_32⟩
      subst hs_94
      refine qm_forR (E := EZ) (K := K) (σ := [some (.ref a0), some (.ref p_1), some v_12, some v_24, some v_36, some v_43, some v_50, some v_97, none, none, none, none, none, none, none, none, none]) (s0 := fun (y_270 : Pl) => y_270) (fun (z_250 : Pl) σ2 I_255 C_256 => ∃ w_252 : Option V, ∃ w_253 : Option V, ∃ w_254 : Option V, σ2 = [some (.ref a0), some (.ref p_1), some v_12, some v_24, some v_36, some v_43, some v_50, some v_97, w_252, w_253, w_254, none, none, none, none, none, none] ∧ (∃ ws_257 : List V, C_256 p_1 = some (.lst ws_257) ∧ Rt.r pM z_250 ws_257 I_255 Z)) (im_list (m_callM (i := 1) rfl (am_pure (a_cons (x_var (i := 3) rfl (Rp.mono _ (e_39.trans (e_46.trans e_248)) exz r_29)) (a_one (x_var (i := 7) rfl (Rp.mono _ (Ex.refl _) exz r_98))))))) s_249 hc_99 (Rt.mono _ (e_39.trans (e_46.trans e_248)) exz hx_34) hm (fun y_270 ws_271 I_272 C_273 e_269 hc_274 k_275 hx_276 => by
      exact ⟨none, none, none, rfl, ⟨_, hc_274, Rt.mono _ (Ex.refl _) exz hx_276⟩⟩) (fun _ _ _ _ _ e ⟨w_252, w_253, w_254, hs_251, ⟨ws_257, hc_258, hx_259⟩⟩ => ⟨w_252, w_253, w_254, hs_251, ⟨ws_257, hc_258, Rt.mono _ e exz hx_259⟩⟩) (fun N x_261 v_262 z_250 σ2 I_263 C_264 H_265 e_266 s_267 ⟨w_252, w_253, w_254, hs_251, ⟨ws_257, hc_258, hx_259⟩⟩ r_268 hm => ?_) (fun z_314 σ2 I_309 C_310 H_311 e_312 s_313 ⟨w_316, w_317, w_318, hs_315, ⟨ws_321, hc_322, hx_323⟩⟩ hm => ?_)
      · subst hs_251
        refine g1 (K := K) x_261 v_262 I_263 C_264 H_265 _ s_267 r_268 fun σ2 ⟨v_277, hs_279, r_278⟩ => ?_
        subst hs_279
        refine q_asg (E := EZ) (K := K) (σ := [some (.ref a0), some (.ref p_1), some v_12, some v_24, some v_36, some v_43, some v_50, some v_97, some v_277, w_253, w_254, none, none, none, none, none, none]) (i := 9) (x_cb o_list (a_one (x_v (x_var (i := 8) rfl (Rp.mono _ (Ex.refl _) exz r_278))))) s_267 (fun _ _ h => h.elim) hm fun kept_280 v_281 I_282 H_283 e_284 s_285 r_286 hm => ?_
        refine q_asg (E := EZ) (K := K) (σ := [some (.ref a0), some (.ref p_1), some v_12, some v_24, some v_36, some v_43, some v_50, some v_97, some v_277, some v_281, w_254, none, none, none, none, none, none]) (i := 10) (x_call (a_cons (x_var (i := 5) rfl (Rp.mono _ (e_248.trans (e_266.trans e_284)) exz r_48)) (a_cons (x_var (i := 2) rfl (Rp.mono _ (e_27.trans (e_39.trans (e_46.trans (e_248.trans (e_266.trans e_284))))) exz r_17)) (a_one (x_var (i := 9) rfl (Rp.mono _ (Ex.refl _) exz r_286)))))) s_285 (fun _ _ h => h.elim) hm fun answer_287 v_288 I_289 H_290 e_291 s_292 r_293 hm => ?_
        refine s_if (E := EZ) (K := K) (σ := [some (.ref a0), some (.ref p_1), some v_12, some v_24, some v_36, some v_43, some v_50, some v_97, some v_277, some v_281, some v_288, none, none, none, none, none, none]) (t_or (t_not (t_B (x_cb (o_isi (n := "bool") (by decide +kernel)) (a_cons (x_var (i := 10) rfl (Rp.mono _ (Ex.refl _) exz r_293)) (a_one (x_c (R := pY "bool") (a := ()) fun _ _ => rfl)))))) (t_or (t_test (x_op o_neB (x_var (i := 10) rfl (Rp.mono _ (Ex.refl _) exz r_293)) (x_call (a_cons (x_var (i := 3) rfl (Rp.mono _ (e_39.trans (e_46.trans (e_248.trans (e_266.trans (e_284.trans e_291))))) exz r_29)) (a_cons (x_var (i := 2) rfl (Rp.mono _ (e_27.trans (e_39.trans (e_46.trans (e_248.trans (e_266.trans (e_284.trans e_291)))))) exz r_17)) (a_one (x_var (i := 8) rfl (Rp.mono _ (e_284.trans e_291) exz r_278)))))))) (t_test (x_op (o_neD (de_lst de_int) (de_lst de_int) (by decide)) (x_var (i := 9) rfl (Rp.mono _ e_291 exz r_286)) (x_var (i := 8) rfl (Rp.mono _ (e_284.trans e_291) exz r_278)))))) s_292 (fun _ _ h => h.elim) hm (fun I_294 H_295 e_296 s_297 hm => ?_) (fun I_298 H_299 e_300 s_301 hm => ?_)
        · refine q_ret (E := EZ) (K := K) (σ := [some (.ref a0), some (.ref p_1), some v_12, some v_24, some v_36, some v_43, some v_50, some v_97, some v_277, some v_281, some v_288, none, none, none, none, none, none]) x_bl s_297 (fun _ _ h => h.elim) hm fun a_302 v_303 I_304 H_305 e_306 s_307 r_308 hm => ?_
          exact hm v_303 H_305 r_308
        · exact hm _ _ _ _ (e_284.trans (e_291.trans e_300)) s_301 ⟨some v_277, some v_281, some v_288, rfl, ⟨_, hc_258, Rt.mono _ (e_284.trans (e_291.trans e_300)) exz hx_259⟩⟩
      subst hs_315
      refine s_forR (E := EZ) (K := K) (σ := [some (.ref a0), some (.ref p_1), some v_12, some v_24, some v_36, some v_43, some v_50, some v_97, w_316, w_317, w_318, none, none, none, none, none, none]) (fun (z_325 : Pl) σ2 I_332 C_333 => ∃ w_327 : Option V, ∃ w_328 : Option V, ∃ w_329 : Option V, ∃ w_330 : Option V, ∃ w_331 : Option V, σ2 = [some (.ref a0), some (.ref p_1), some v_12, some v_24, some v_36, some v_43, some v_50, some v_97, w_316, w_317, w_327, w_328, w_329, w_330, w_331, none, none] ∧ (∃ ws_334 : List V, C_333 p_1 = some (.lst ws_334) ∧ Rt.r pM z_325 ws_334 I_332 Z)) (i_rng1 (a_one (x_int (i := 10)))) s_313 (fun _ _ h => h.elim) hm (fun _ e_346 => ⟨w_318, none, none, none, none, rfl, ⟨_, hc_322, Rt.mono _ (Ex.trans (Ex.refl _) e_346) exz hx_323⟩⟩) (fun _ _ _ _ _ => trivial) (fun _ _ _ _ _ e ⟨w_327, w_328, w_329, w_330, w_331, hs_326, ⟨ws_334, hc_335, hx_336⟩⟩ => ⟨w_327, w_328, w_329, w_330, w_331, hs_326, ⟨ws_334, hc_335, Rt.mono _ e exz hx_336⟩⟩) (fun N x_338 v_339 z_325 σ2 I_340 C_341 H_342 e_343 s_344 ⟨w_327, w_328, w_329, w_330, w_331, hs_326, ⟨ws_334, hc_335, hx_336⟩⟩ r_345 hm => ?_) (fun z_457 σ2 I_452 C_453 H_454 e_455 s_456 ⟨w_459, w_460, w_461, w_462, w_463, hs_458, ⟨ws_466, hc_467, hx_468⟩⟩ hm => ?_)
      · subst hs_326
        refine g1 (K := K) x_338 v_339 I_340 C_341 H_342 _ s_344 r_345 fun σ2 ⟨v_347, hs_349, r_348⟩ => ?_
        subst hs_349
        refine qm_asg (E := EZ) (K := K) (σ := [some (.ref a0), some (.ref p_1), some v_12, some v_24, some v_36, some v_43, some v_50, some v_97, w_316, w_317, w_327, some v_347, w_329, w_330, w_331, none, none]) (i := 12) (m_callM (i := 1) rfl (am_pure (a_one (x_int (i := 61))))) s_344 hc_335 (Rt.mono _ (Ex.refl _) exz hx_336) hm fun start_350 v_351 ws_357 I_352 C_358 H_353 e_354 s_355 hc_359 k_360 hx_361 r_356 hm => ?_
        refine qm_asg (E := EZ) (K := K) (σ := [some (.ref a0), some (.ref p_1), some v_12, some v_24, some v_36, some v_43, some v_50, some v_97, w_316, w_317, w_327, some v_347, some v_351, w_330, w_331, none, none]) (i := 13) (m_callM (i := 1) rfl (am_pure (a_one (x_int (i := 61))))) s_355 hc_359 (Rt.mono _ (Ex.refl _) exz hx_361) hm fun end_362 v_363 ws_369 I_364 C_370 H_365 e_366 s_367 hc_371 k_372 hx_373 r_368 hm => ?_
        refine s_ifj (E := EZ) (K := K) (σ := [some (.ref a0), some (.ref p_1), some v_12, some v_24, some v_36, some v_43, some v_50, some v_97, w_316, w_317, w_327, some v_347, some v_351, some v_363, w_331, none, none]) (fun (z_382 : (Pl × Int × Int)) σ2 I_384 C_385 => ∃ v_389 : V, ∃ v_391 : V, σ2 = [some (.ref a0), some (.ref p_1), some v_12, some v_24, some v_36, some v_43, some v_50, some v_97, w_316, w_317, w_327, some v_347, some v_389, some v_391, w_331, none, none] ∧ (∃ ws_386 : List V, C_385 p_1 = some (.lst ws_386) ∧ Rt.r pM z_382.1 ws_386 I_384 Z) ∧ Rp.r pI z_382.2.1 v_389 I_384 Z ∧ Rp.r pI z_382.2.2 v_391 I_384 Z) (t_and (t_test (x_op o_lt (x_var (i := 11) rfl (Rp.mono _ (e_354.trans e_366) exz r_348)) (x_int (i := 6)))) (t_test (x_op o_gt (x_cb o_len (a_one (x_v (x_var (i := 3) rfl (Rp.mono _ (e_39.trans (e_46.trans (e_248.trans (e_312.trans (e_343.trans (e_354.trans e_366)))))) exz r_29))))) (x_int (i := 0))))) s_367 (fun _ _ h => h.elim) hm (fun N I_374 H_375 e_376 s_377 hm => ?_) (fun N I_378 H_379 e_380 s_381 hm => ?_) (fun z_382 σ2 I_418 C_419 H_420 e_421 s_422 ⟨v_389, v_391, hs_383, ⟨ws_386, hc_387, hx_388⟩, r_390, r_392⟩ hm => ?_)
        · refine qm_asg (E := EZ) (K := K) (σ := [some (.ref a0), some (.ref p_1), some v_12, some v_24, some v_36, some v_43, some v_50, some v_97, w_316, w_317, w_327, some v_347, some v_351, some v_363, w_331, none, none]) (i := 12) (m_k (k := ((0 : Nat) : Int)) (fun _ => o_pj pj0) off_same (m_op (fun _ => (Op2.ofL o_ix)) off_same (m_pure (x_var (i := 3) rfl (Rp.mono _ (e_39.trans (e_46.trans (e_248.trans (e_312.trans (e_343.trans (e_354.trans (e_366.trans e_376))))))) exz r_29))) (m_callM (i := 1) rfl (am_pure (a_one (x_cb o_len (a_one (x_v (x_var (i := 3) rfl (Rp.mono _ (e_39.trans (e_46.trans (e_248.trans (e_312.trans (e_343.trans (e_354.trans (e_366.trans e_376))))))) exz r_29)))))))))) s_377 hc_371 (Rt.mono _ e_376 exz hx_373) hm fun start_394 v_395 ws_401 I_396 C_402 H_397 e_398 s_399 hc_403 k_404 hx_405 r_400 hm => ?_
          refine qm_asg (E := EZ) (K := K) (σ := [some (.ref a0), some (.ref p_1), some v_12, some v_24, some v_36, some v_43, some v_50, some v_97, w_316, w_317, w_327, some v_347, some v_395, some v_363, w_331, none, none]) (i := 13) (m_k (k := ((1 : Nat) : Int)) (fun _ => o_pj (pjs pj1)) off_same (m_op (fun _ => (Op2.ofL o_ix)) off_same (m_pure (x_var (i := 3) rfl (Rp.mono _ (e_39.trans (e_46.trans (e_248.trans (e_312.trans (e_343.trans (e_354.trans (e_366.trans (e_376.trans e_398)))))))) exz r_29))) (m_callM (i := 1) rfl (am_pure (a_one (x_cb o_len (a_one (x_v (x_var (i := 3) rfl (Rp.mono _ (e_39.trans (e_46.trans (e_248.trans (e_312.trans (e_343.trans (e_354.trans (e_366.trans (e_376.trans e_398)))))))) exz r_29)))))))))) s_399 hc_403 (Rt.mono _ (Ex.refl _) exz hx_405) hm fun end_406 v_407 ws_413 I_408 C_414 H_409 e_410 s_411 hc_415 k_416 hx_417 r_412 hm => ?_
          exact hm _ _ _ _ (e_376.trans (e_398.trans e_410)) s_411 ⟨v_395, v_407, rfl, ⟨_, hc_415, Rt.mono _ (Ex.refl _) exz hx_417⟩, Rp.mono _ e_410 exz r_400, Rp.mono _ (Ex.refl _) exz r_412⟩
        · exact hm _ _ _ _ e_380 s_381 ⟨v_351, v_363, rfl, ⟨_, hc_371, Rt.mono _ e_380 exz hx_373⟩, Rp.mono _ (e_366.trans e_380) exz r_356, Rp.mono _ e_380 exz r_368⟩
        subst hs_383
        refine q_asg (E := EZ) (K := K) (σ := [some (.ref a0), some (.ref p_1), some v_12, some v_24, some v_36, some v_43, some v_50, some v_97, w_316, w_317, w_327, some v_347, some v_389, some v_391, w_331, none, none]) (i := 10) (x_call (a_cons (x_var (i := 5) rfl (Rp.mono _ (e_248.trans (e_312.trans (e_343.trans (e_354.trans (e_366.trans e_421))))) exz r_48)) (a_cons (x_var (i := 2) rfl (Rp.mono _ (e_27.trans (e_39.trans (e_46.trans (e_248.trans (e_312.trans (e_343.trans (e_354.trans (e_366.trans e_421)))))))) exz r_17)) (a_cons (x_var (i := 12) rfl (Rp.mono _ (Ex.refl _) exz r_390)) (a_one (x_var (i := 13) rfl (Rp.mono _ (Ex.refl _) exz r_392))))))) s_422 (fun _ _ h => h.elim) hm fun answer_423 v_424 I_425 H_426 e_427 s_428 r_429 hm => ?_
        refine q_asg (E := EZ) (K := K) (σ := [some (.ref a0), some (.ref p_1), some v_12, some v_24, some v_36, some v_43, some v_50, some v_97, w_316, w_317, some v_424, some v_347, some v_389, some v_391, w_331, none, none]) (i := 14) (x_andV (x_op o_lt (x_var (i := 12) rfl (Rp.mono _ e_427 exz r_390)) (x_var (i := 13) rfl (Rp.mono _ e_427 exz r_392))) (x_op o_gt (x_call (a_cons (x_var (i := 3) rfl (Rp.mono _ (e_39.trans (e_46.trans (e_248.trans (e_312.trans (e_343.trans (e_354.trans (e_366.trans (e_421.trans e_427)))))))) exz r_29)) (a_cons (x_var (i := 12) rfl (Rp.mono _ e_427 exz r_390)) (a_one (x_var (i := 13) rfl (Rp.mono _ e_427 exz r_392)))))) (x_op o_mul (x_var (i := 2) rfl (Rp.mono _ (e_27.trans (e_39.trans (e_46.trans (e_248.trans (e_312.trans (e_343.trans (e_354.trans (e_366.trans (e_421.trans e_427))))))))) exz r_17)) (x_op o_sub (x_var (i := 13) rfl (Rp.mono _ e_427 exz r_392)) (x_var (i := 12) rfl (Rp.mono _ e_427 exz r_390)))))) s_428 (fun _ _ h => h.elim) hm fun full_430 v_431 I_432 H_433 e_434 s_435 r_436 hm => ?_
        refine s_if (E := EZ) (K := K) (σ := [some (.ref a0), some (.ref p_1), some v_12, some v_24, some v_36, some v_43, some v_50, some v_97, w_316, w_317, some v_424, some v_347, some v_389, some v_391, some v_431, none, none]) (t_or (t_not (t_B (x_cb (o_isi (n := "bool") (by decide +kernel)) (a_cons (x_var (i := 10) rfl (Rp.mono _ e_434 exz r_429)) (a_one (x_c (R := pY "bool") (a := ()) fun _ _ => rfl)))))) (t_test (x_op o_neB (x_var (i := 10) rfl (Rp.mono _ e_434 exz r_429)) (x_var (i := 14) rfl (Rp.mono _ (Ex.refl _) exz r_436))))) s_435 (fun _ _ h => h.elim) hm (fun I_437 H_438 e_439 s_440 hm => ?_) (fun I_441 H_442 e_443 s_444 hm => ?_)
        · refine q_ret (E := EZ) (K := K) (σ := [some (.ref a0), some (.ref p_1), some v_12, some v_24, some v_36, some v_43, some v_50, some v_97, w_316, w_317, some v_424, some v_347, some v_389, some v_391, some v_431, none, none]) x_bl s_440 (fun _ _ h => h.elim) hm fun a_445 v_446 I_447 H_448 e_449 s_450 r_451 hm => ?_
          exact hm v_446 H_448 r_451
        · exact hm _ _ _ _ (e_354.trans (e_366.trans (e_421.trans (e_427.trans (e_434.trans e_443))))) s_444 ⟨some v_424, some v_347, some v_389, some v_391, some v_431, rfl, ⟨_, hc_387, Rt.mono _ (e_427.trans (e_434.trans e_443)) exz hx_388⟩⟩
      subst hs_458
      refine qm_ret (E := EZ) (K := K) (σ := [some (.ref a0), some (.ref p_1), some v_12, some v_24, some v_36, some v_43, some v_50, some v_97, w_316, w_317, w_459, w_460, w_461, w_462, w_463, none, none]) (m_andV off_same (m_pure (x_op (o_eqD (de_lst (de_tup (dt_cons de_int (dt_one de_int)))) (de_lst (de_tup (dt_cons de_int (dt_one de_int)))) (by decide)) (x_var (i := 5) rfl (Rp.mono _ (e_248.trans (e_312.trans e_455)) exz r_48)) (x_var (i := 3) rfl (Rp.mono _ (e_39.trans (e_46.trans (e_248.trans (e_312.trans e_455)))) exz r_29)))) (m_callM (i := 1) rfl (am_pure (a_one (x_var (i := 3) rfl (Rp.mono _ (e_39.trans (e_46.trans (e_248.trans (e_312.trans e_455)))) exz r_29)))))) s_456 hc_467 (Rt.mono _ (Ex.refl _) exz hx_468) hm fun a_470 v_471 ws_477 I_472 C_478 H_473 e_474 s_475 hc_479 k_480 hx_481 r_476 hm => ?_
      exact hm v_471 H_473 r_476
end
end K82

namespace K82
open PySem Sd
/-! the pool -/
theorem mix_ok (c t : Int) : ∃ v, m__law_mix c t = .ok v := by
  unfold m__law_mix
  simp [rMul, rMod]
/-- the pool's counter does not run below 0 -/
abbrev PI_ (p : Pl) : Prop := 0 ≤ p.2.1 ∧ 0 ≤ p.2.2.1
theorem fill_is (p : Pl) (h : PI_ p) : Is (m__law_fill () p) fun b => PI_ b.2 := by
  unfold m__law_fill
  simp only [Res.bind_ok, rLen_eq, bin_ok, un_ok, rLt_eq, rGt_eq, ifR_ok, idR_eq]
  refine Is.bind (Q := fun z => z.1 = p) ?_ fun z hz => ?_
  · by_cases h1 : p.2.1 < (p.2.2.2.length : Int)
    · obtain ⟨x, e, _⟩ := ix_get h.1 h1
      simp only [decide_eq_true_eq, if_pos h1, e, Res.bind_ok]
      exact rfl
    · simp only [decide_eq_true_eq, if_neg h1]
      by_cases h2 : 0 < (p.2.2.2.length : Int)
      · obtain ⟨x, e, _⟩ := ix_get (xs := p.2.2.2) (Int.emod_nonneg p.2.2.1 (by omega)) (Int.emod_lt_of_pos p.2.2.1 h2)
        simp only [if_pos h2, rMod_ok h2, bin, Res.bind_ok, e]
        exact rfl
      · simp only [if_neg h2]
        exact rfl
  · obtain ⟨q, c⟩ := z
    have hz : q = p := hz
    subst hz
    refine Is.bind (Q := fun _ => True) ?_ fun c2 _ => ?_
    · dsimp only
      by_cases h3 : c < 0
      · simp only [decide_eq_true_eq, if_pos h3, bin, Res.bind_ok]
        rw [rMul_ok (.inl (by decide))]
        trivial
      · simp only [decide_eq_true_eq, if_neg h3]
        trivial
    · have hp : rPow 10 18 = .ok (10 ^ 18) := rPow_ok (by decide)
      simp only [thenR_eq, bin_ok, rAdd_eq, Res.bind_ok, hp, rGe_eq, rLe_eq, andR_ok, ifR_ok]
      split
      · exact ⟨by dsimp only; omega, by dsimp only; omega⟩
      · obtain ⟨v, hv⟩ := mix_ok c2 (q.2.2.1 + 1)
        simp only [pair_ok, un_ok, hv, Res.bind_ok]
        exact ⟨by dsimp only; omega, by dsimp only; omega⟩
theorem take_is {n : Int} {p : Pl} (h : PI_ p) (h0 : 0 < n) (h1 : n < 1073741824) : Is (m__law_take n p) fun b => (0 ≤ b.1 ∧ b.1 < n) ∧ PI_ b.2 := by
  unfold m__law_take
  simp only [bin_ok, rLt_eq, ifR_ok]
  refine Is.bind (Q := PI_) ?_ fun z hz => ?_
  · split
    · exact Is.bind (fill_is p h) fun b hb => hb
    · exact h
  · simp only [un_ok, idR_eq, bin_ok, rMod_ok h0, rDiv_ok ⟨h0, h1⟩, Res.bind_ok, thenR_eq]
    exact ⟨⟨Int.emod_nonneg _ (by omega), Int.emod_lt_of_pos _ h0⟩, hz⟩
theorem take_ok {n : Int} {p : Pl} (h : PI_ p) (h0 : 0 < n) (h1 : n < 1073741824) : ∃ b, m__law_take n p = .ok b ∧ (0 ≤ b.1 ∧ b.1 < n) ∧ PI_ b.2 := (take_is h h0 h1).get
theorem from_is {lo hi : Int} {p : Pl} (h : PI_ p) (h0 : lo ≤ hi) (h1 : hi - lo < 1073741823) : Is (m__law_from lo hi p) fun b => (lo ≤ b.1 ∧ b.1 ≤ hi) ∧ PI_ b.2 := by
  unfold m__law_from
  obtain ⟨b, e, hb, hp⟩ := take_ok (n := hi - lo + 1) h (by omega) (by omega)
  simp only [binM, callM, liftM_eq, bin_ok, rSub_eq, rAdd_eq, Res.bind_ok, e]
  exact ⟨⟨by dsimp only; omega, by dsimp only; omega⟩, hp⟩
theorem from_ok {lo hi : Int} {p : Pl} (h : PI_ p) (h0 : lo ≤ hi) (h1 : hi - lo < 1073741823) : ∃ b, m__law_from lo hi p = .ok b ∧ (lo ≤ b.1 ∧ b.1 ≤ hi) ∧ PI_ b.2 := (from_is h h0 h1).get

/-! wishes -/
abbrev Wish := Int × Int
def VW (x : Wish) : Prop := 0 ≤ x.1 ∧ x.1 < x.2 ∧ x.2 ≤ 60
def Val (w : List Wish) : Prop := w.length ≤ 20 ∧ ∀ x ∈ w, VW x
theorem div_le_20 {d : Int} (h0 : 1 ≤ d) (h1 : d ≤ 5) : 1 ≤ 20 / d ∧ 20 / d ≤ 20 ∧ ∀ w, w ≤ 20 / d → d * w ≤ 20 := by
  have : d = 1 ∨ d = 2 ∨ d = 3 ∨ d = 4 ∨ d = 5 := by omega
  rcases this with rfl | rfl | rfl | rfl | rfl
  · exact ⟨by decide, by decide, fun w h => by have : (20 : Int) / 1 = 20 := by decide
                                               omega⟩
  · exact ⟨by decide, by decide, fun w h => by have : (20 : Int) / 2 = 10 := by decide
                                               omega⟩
  · exact ⟨by decide, by decide, fun w h => by have : (20 : Int) / 3 = 6 := by decide
                                               omega⟩
  · exact ⟨by decide, by decide, fun w h => by have : (20 : Int) / 4 = 5 := by decide
                                               omega⟩
  · exact ⟨by decide, by decide, fun w h => by have : (20 : Int) / 5 = 4 := by decide
                                               omega⟩
theorem wishes_is {d : Int} {p : Pl} (h0 : 1 ≤ d) (h1 : d ≤ 5) (hp : PI_ p) : Is (m__law_wishes d p) fun b => Val b.1 ∧ PI_ b.2 := by
  unfold m__law_wishes
  obtain ⟨k, ek, hk, pk⟩ := take_ok (n := 3) hp (by decide) (by decide)
  simp only [callM_ok, ek, Res.bind_ok, bin_ok, eqR_eq, ifR_ok]
  obtain ⟨hd1, hd2, hd3⟩ := div_le_20 h0 h1
  refine Is.if_ (fun _ => ?_) fun _ => ?_
  · rw [rDiv_ok ⟨by omega, by omega⟩]
    simp only [pair_ok, callM_ok]
    obtain ⟨w, ew, hw, pw⟩ := from_ok (lo := 1) (hi := 20 / d) pk hd1 (by omega)
    simp only [ew, Res.bind_ok, rSub_eq, callM_ok]
    obtain ⟨b, eb, hb, pb⟩ := take_ok (n := 61 - w.1) pw (by omega) (by omega)
    have hdw : d * w.1 ≤ 20 := hd3 _ hw.2
    have hdw1 : 1 ≤ d * w.1 := by
      have := Int.mul_le_mul h0 hw.1 (by omega) (by omega : (0:Int) ≤ d)
      omega
    simp only [eb, Res.bind_ok, rMul_ok (.inl (by omega) : (-(2 ^ 64) < d ∧ d < 2 ^ 64) ∨ (-(2 ^ 64) < w.1 ∧ w.1 < 2 ^ 64)), un_ok, rng1_ok (n := d * w.1) (by omega)]
    refine Is.bind (loopN_inv (fun i (z : List Wish × Pl) => z.1.length = i ∧ (∀ x ∈ z.1, VW x) ∧ PI_ z.2) ⟨rfl, fun x hx => (nomatch hx), pb⟩ fun i x z hx ⟨hz1, hz2, hz3⟩ => ?_) fun z ⟨hz1, hz2, hz3⟩ => ?_
    · have hx0 := mem_rangeL.mp (List.mem_of_getElem? hx)
      have hi : i < 20 := by
        have := rangeL_get hx
        omega
      simp only [rDiv_ok (a := x) (b := d) ⟨by omega, by omega⟩, Res.bind_ok, rAdd_eq, pair_ok, callM_ok]
      have hm0 : 0 ≤ x / d := Int.ediv_nonneg (by omega) (by omega)
      have hm1 : x / d < w.1 := Int.ediv_lt_of_lt_mul (by omega) (by rw [Int.mul_comm]; omega)
      obtain ⟨c, ec, hc, pc⟩ := from_ok (lo := x / d + 1) (hi := w.1) hz3 (by omega) (by omega)
      obtain ⟨o, eo, ho, po⟩ := take_ok (n := x / d + 1) pc (by omega) (by omega)
      simp only [ec, Res.bind_ok, pairM_eq, binM_eq, liftM_ok, callM_ok, eo, rAdd_eq, push_ok (xs := z.1) (x := (b.1 + o.1, b.1 + c.1)) (by omega)]
      refine ⟨by simp [hz1], fun y hy => ?_, po⟩
      rcases List.mem_append.mp hy with hy | hy
      · exact hz2 y hy
      · rw [List.mem_singleton.mp hy]
        exact ⟨by dsimp only; omega, by dsimp only; omega, by dsimp only; omega⟩
    · rw [rangeL_length] at hz1
      simp only [ifMR_eq, andM_eq, liftM_eq, un_ok, rLen_eq, bin_ok, rLt_eq, Res.bind_ok, binM_eq, callM_ok]
      refine Is.bind (Q := fun y : Pl × List Wish => PI_ y.1 ∧ Val y.2 ∧ 1 ≤ (y.2.length : Int)) ?_ fun y ⟨hy1, hy2, hy3⟩ => ?_
      · refine Is.bind (Q := fun b : Bool × Pl => (b.1 = true → (z.1.length : Int) < 20) ∧ PI_ b.2) ?_ fun y ⟨hy1, hy2⟩ => ?_
        · refine Is.if_ (fun h => ?_) fun _ => ⟨fun h => (nomatch h), hz3⟩
          obtain ⟨t, et, ht, pt⟩ := take_ok (n := 2) hz3 (by decide) (by decide)
          simp only [et, Res.bind_ok, liftM_eq, eqR_eq]
          exact ⟨fun _ => of_decide_eq_true h, pt⟩
        · refine Is.if_ (fun h => ?_) fun _ => ⟨hy2, ⟨by dsimp only; omega, hz2⟩, by dsimp only; omega⟩
          obtain ⟨o, eo, ho, po⟩ := take_ok (n := w.1) hy2 (by omega) (by omega)
          obtain ⟨c, ec, hc, pc⟩ := from_ok (lo := o.1 + 1) (hi := w.1) po (by omega) (by omega)
          have hl := hy1 h
          simp only [eo, Res.bind_ok, pairM_eq, binM_eq, liftM_ok, liftM_eq, callM_ok, rAdd_eq, bin_ok, pair_ok, ec, push_ok (xs := z.1) (x := (b.1 + o.1, b.1 + c.1)) (by omega)]
          refine ⟨pc, ⟨by simp; omega, fun y hy => ?_⟩, by simp; omega⟩
          rcases List.mem_append.mp hy with hy | hy
          · exact hz2 y hy
          · rw [List.mem_singleton.mp hy]
            exact ⟨by dsimp only; omega, by dsimp only; omega, by dsimp only; omega⟩
      · obtain ⟨t, et, ht, pt⟩ := take_ok (n := (y.2.length : Int)) hy1 (by omega) (by have := hy2.1; omega)
        simp only [et, Res.bind_ok, someR_ok, slR_ok, cut_hi ht.1, cut_lo ht.1, bin_ok]
        have hlen : (y.2.drop t.1.toNat).length + (y.2.take t.1.toNat).length = y.2.length := by
          rw [List.length_drop, List.length_take]
          omega
        rw [rCatR_ok (by rw [hlen]; have := hy2.1; omega)]
        refine ⟨⟨by rw [List.length_append, hlen]; exact hy2.1, fun x hx => ?_⟩, pt⟩
        rcases List.mem_append.mp hx with hx | hx
        · exact hy2.2 x (List.mem_of_mem_drop hx)
        · exact hy2.2 x (List.mem_of_mem_take hx)
  · refine Is.bind (Q := fun y : Pl × Int => PI_ y.1 ∧ 1 ≤ y.2 ∧ y.2 ≤ 60) ?_ fun y ⟨hy1, hy2, hy3⟩ => ?_
    · refine Is.if_ (fun _ => ?_) fun _ => ⟨pk, by dsimp only; decide, by dsimp only; decide⟩
      obtain ⟨w, ew, hw, pw⟩ := from_ok (lo := 1) (hi := 8) pk (by decide) (by decide)
      simp only [pair_ok, callM_ok, ew, Res.bind_ok]
      exact ⟨pw, by dsimp only; omega, by dsimp only; omega⟩
    · obtain ⟨b, eb, hb, pb⟩ := take_ok (n := 61 - y.2) hy1 (by omega) (by omega)
      obtain ⟨m, em, hm, pm⟩ := take_ok (n := 21) pb (by decide) (by decide)
      simp only [rSub_eq, callM_ok, eb, Res.bind_ok, unM_eq, em, rng1_ok (n := m.1) (by omega)]
      refine Is.bind (loopN_inv (fun i (z : List Wish × Pl) => z.1.length = i ∧ (∀ x ∈ z.1, VW x) ∧ PI_ z.2) ⟨rfl, fun x hx => (nomatch hx), pm⟩ fun i x z hx ⟨hz1, hz2, hz3⟩ => ?_) fun z ⟨hz1, hz2, hz3⟩ => ?_
      · have hx0 := mem_rangeL.mp (List.mem_of_getElem? hx)
        have hi : i < 21 := by
          have := rangeL_get hx
          omega
        obtain ⟨o, eo, ho, po⟩ := take_ok (n := y.2) hz3 (by omega) (by omega)
        obtain ⟨c, ec, hc, pc⟩ := from_ok (lo := o.1 + 1) (hi := y.2) po (by omega) (by omega)
        simp only [callM_ok, eo, Res.bind_ok, pairM_eq, binM_eq, liftM_ok, liftM_eq, rAdd_eq, bin_ok, pair_ok, ec, push_ok (xs := z.1) (x := (b.1 + o.1, b.1 + c.1)) (by omega)]
        refine ⟨by simp [hz1], fun y hy => ?_, pc⟩
        rcases List.mem_append.mp hy with hy | hy
        · exact hz2 y hy
        · rw [List.mem_singleton.mp hy]
          exact ⟨by dsimp only; omega, by dsimp only; omega, by dsimp only; omega⟩
      · rw [rangeL_length] at hz1
        exact ⟨⟨by dsimp only; omega, hz2⟩, hz3⟩

/-! crowds -/
def cnt (w : List Wish) (s e : Int) : Int := ((w.filter fun x => decide (s ≤ x.1) && decide (x.2 ≤ e)).length : Nat)
theorem inside_eq (w : List Wish) (s e : Int) : m_inside w s e = .ok (cnt w s e) := by
  unfold m_inside cnt
  rw [Res.bind_ok, filR_id (q := fun x => decide (s ≤ x.1) && decide (x.2 ≤ e)) (fun x _ => by simp)]
  rfl
theorem linside_eq (w : List Wish) (s e : Int) : m__law_inside w s e = .ok (cnt w s e) := by
  unfold m__law_inside cnt
  rw [Res.bind_ok, filR_id (q := fun x => decide (s ≤ x.1) && decide (x.2 ≤ e)) (fun x _ => by simp)]
  rfl
def fcE (w : List Wish) (d s e : Int) : Option (Option (Int × Int)) := if d * (e - s) < cnt w s e then some (some (s, e)) else none
def fcO (w : List Wish) (d : Int) : Option (Option (Int × Int)) := (rangeL 0 60).findSome? fun s => (rangeL (s + 1) 61).findSome? (fcE w d s)
def fc (w : List Wish) (d : Int) : Option (Int × Int) := match fcO w d with
  | some r => r
  | none => none
abbrev Small (d : Int) : Prop := -(2 ^ 64) < d ∧ d < 2 ^ 64
theorem lfc_eq {w : List Wish} {d : Int} (hd : Small d) : m__law_first_crowd w d = .ok (fc w d) := by
  unfold m__law_first_crowd fc fcO
  simp only [un_ok, rng1_ok (n := 60) (by decide), Res.bind_ok]
  rw [loopR_find (g := fun s => (rangeL (s + 1) 61).findSome? (fcE w d s)) (fun s hs => ?_)]
  · simp only [Res.bind_ok]
    cases (rangeL 0 60).findSome? fun s => (rangeL (s + 1) 61).findSome? (fcE w d s) with
    | none => rfl
    | some x => rfl
  · have h := mem_rangeL.mp hs
    simp only [bin_ok, rAdd_eq, pair_ok, un_ok, rng2_ok (a := s + 1) (b := 61) (by omega), Res.bind_ok]
    rw [loopR_find (g := fcE w d s) (fun e he => ?_)]
    · simp only [Res.bind_ok]
      cases (rangeL (s + 1) 61).findSome? (fcE w d s) with
      | none => rfl
      | some x => rfl
    · simp only [linside_eq, rSub_eq, bin_ok, rMul_ok (.inl hd), rGt_eq, ifR_ok, someR'_eq, Res.bind_ok, pair_ok, un_ok, decide_eq_true_eq]
      unfold fcE
      split <;> rfl
theorem fc_eq {w : List Wish} {d : Int} (hd : Small d) : m_first_crowd w d = .ok (fc w d) := by
  unfold m_first_crowd fc fcO
  simp only [un_ok, rng1_ok (n := 60) (by decide), Res.bind_ok]
  rw [loopR_find (g := fun s => (rangeL (s + 1) 61).findSome? (fcE w d s)) (fun s hs => ?_)]
  · simp only [Res.bind_ok]
    cases (rangeL 0 60).findSome? fun s => (rangeL (s + 1) 61).findSome? (fcE w d s) with
    | none => rfl
    | some x => rfl
  · have h := mem_rangeL.mp hs
    simp only [bin_ok, rAdd_eq, pair_ok, un_ok, show (60 : Int) + 1 = 61 from rfl, rng2_ok (a := s + 1) (b := 61) (by omega), Res.bind_ok]
    rw [loopR_find (g := fcE w d s) (fun e he => ?_)]
    · simp only [Res.bind_ok]
      cases (rangeL (s + 1) 61).findSome? (fcE w d s) with
      | none => rfl
      | some x => rfl
    · simp only [inside_eq, rSub_eq, bin_ok, rMul_ok (.inl hd), rGt_eq, ifR_ok, someR'_eq, Res.bind_ok, pair_ok, un_ok, decide_eq_true_eq]
      unfold fcE
      split <;> rfl
theorem fc_none {w : List Wish} {d : Int} (h : fc w d = none) {s e : Int} (h0 : 0 ≤ s) (h1 : s < e) (h2 : e ≤ 60) : cnt w s e ≤ d * (e - s) := by
  unfold fc at h
  cases q : fcO w d with
  | some r =>
    rw [q] at h
    have h : r = none := h
    subst h
    unfold fcO at q
    obtain ⟨a, _, qa⟩ := findSome_some q
    obtain ⟨b, _, qb⟩ := findSome_some qa
    unfold fcE at qb
    split at qb
    · cases qb
    · cases qb
  | none =>
    unfold fcO at q
    have qa := findSome_none q s (mem_rangeL.mpr ⟨h0, by omega⟩)
    have qb := findSome_none qa e (mem_rangeL.mpr ⟨by omega, by omega⟩)
    unfold fcE at qb
    split at qb
    · cases qb
    · omega
theorem fc_some {w : List Wish} {d s e : Int} (h : fc w d = some (s, e)) : 0 ≤ s ∧ s < e ∧ e ≤ 60 ∧ d * (e - s) < cnt w s e := by
  unfold fc at h
  cases q : fcO w d with
  | none =>
    rw [q] at h
    cases h
  | some r =>
    rw [q] at h
    have h : r = some (s, e) := h
    subst h
    unfold fcO at q
    obtain ⟨a, ha, qa⟩ := findSome_some q
    obtain ⟨b, hb, qb⟩ := findSome_some qa
    have ha := mem_rangeL.mp ha
    have hb := mem_rangeL.mp hb
    unfold fcE at qb
    split at qb
    · rename_i hc
      cases qb
      exact ⟨ha.1, by omega, by omega, hc⟩
    · cases qb
/-! checks -/
def okW (x : Wish) : Bool := !(decide (x.1 < 0) || (decide (x.2 ≤ x.1) || decide (60 < x.2)))
theorem okW_iff {x : Wish} : okW x = true ↔ VW x := by
  unfold okW VW
  simp only [Bool.not_eq_true', Bool.or_eq_false_iff, decide_eq_false_iff_not]
  omega
def fb : List Wish → Int → Option Int
  | [], _ => none
  | x :: xs, k => if okW x = true then fb xs (k + 1) else some k
def chk (w : List Wish) : Res Unit := if 20 < w.length then .exc .TooMany 20 else match fb w 0 with
  | some k => .exc .BadPair k
  | none => .ok ()
theorem chk_eq (w : List Wish) : m_check_wishes w = chk w := by
  unfold m_check_wishes chk
  simp only [un_ok, rLen_eq, bin_ok, rGt_eq, Res.bind_ok, ifR_ok, enumR_eq, decide_eq_true_eq]
  by_cases h : 20 < w.length
  · rw [if_pos h, if_pos (by omega)]
  · rw [if_neg h, if_neg (by omega)]
    have key : ∀ (w : List Wish) (k : Int), loopN (fun (x_16 : (Int × (Int × Int))) (z_9 : Unit) => (if (decide (x_16.2.1 < 0) || (decide (x_16.2.2 ≤ x_16.2.1) || decide (60 < x_16.2.2))) = true then Res.exc .BadPair x_16.1 else Res.ok ())) (enumF k w) () = match fb w k with
        | some k => .exc .BadPair k
        | none => .ok () := by
      intro w
      induction w with
      | nil => intro k; rfl
      | cons x xs ih =>
        intro k
        rw [enumF, loopN_cons, fb]
        unfold okW
        cases (decide (x.1 < 0) || (decide (x.2 ≤ x.1) || decide (60 < x.2))) with
        | true => rfl
        | false => exact ih (k + 1)
    simp only [rLt_eq, rGe_eq, orR_ok, ifR_ok]
    rw [key]
    cases fb w 0 <;> rfl
theorem fb_none : ∀ {w : List Wish} {k : Int}, (∀ x ∈ w, VW x) → fb w k = none
  | [], _, _ => rfl
  | x :: xs, k, h => by
    rw [fb, if_pos (okW_iff.mpr (h x List.mem_cons_self))]
    exact fb_none fun y hy => h y (List.mem_cons_of_mem _ hy)
theorem chk_ok {w : List Wish} (h : Val w) : m_check_wishes w = .ok () := by
  rw [chk_eq]
  unfold chk
  rw [if_neg (by have := h.1; omega), fb_none h.2]
theorem fb_at : ∀ {w : List Wish} {k : Int} {j : Nat}, (∀ i x, i < j → w[i]? = some x → VW x) → (∃ x, w[j]? = some x ∧ ¬ VW x) → fb w k = some (k + j)
  | [], _, _, _, ⟨x, h, _⟩ => by cases h
  | x :: xs, k, 0, _, ⟨y, h, hy⟩ => by
    have e : x = y := Option.some.inj h
    subst e
    rw [fb, if_neg (fun z => hy (okW_iff.mp z))]
    simp
  | x :: xs, k, j + 1, h1, ⟨y, h, hy⟩ => by
    rw [fb, if_pos (okW_iff.mpr (h1 0 x (by omega) rfl)), fb_at (k := k + 1) (j := j) (fun i z hi hz => h1 (i + 1) z (by omega) hz) ⟨y, h, hy⟩]
    congr 1
    omega

/-! plans, judged -/
def bad1 (x : Wish) (m : Int) : Bool := !decide (m = -1) && (decide (m < x.1) || decide (x.2 ≤ m))
def many (pl : List Int) (m : Int) : Int := ((pl.filter fun x => decide (x = m)).length : Nat)
def bad2 (d : Int) (pl : List Int) (m : Int) : Bool := !decide (m = -1) && decide (d < many pl m)
def rp (w : List Wish) (d : Int) (pl : List Int) : Bool := decide (pl.length = w.length) && (!((w.zip pl).any fun x => bad1 x.1 x.2) && !(pl.any fun m => bad2 d pl m))
theorem is_plan_eq {w : List Wish} (hw : Val w) (d : Int) (pl : List Int) : m_is_plan w d pl = .ok (rp w d pl) := by
  unfold m_is_plan rp
  simp only [un_ok, chk_ok hw, Res.bind_ok, rLen_eq, bin_ok, neR_eq, ifR_ok, pair_ok, zipR_eq, rNeg_eq]
  by_cases h : pl.length = w.length
  · have h' : (pl.length : Int) = (w.length : Int) := by omega
    rw [if_neg (by simp [h'])]
    rw [loopR_any (r := false) (p := fun x : Wish × Int => bad1 x.1 x.2) (fun x _ => ?_)]
    · cases (w.zip pl).any fun x => bad1 x.1 x.2 with
      | true => simp [h]
      | false =>
        simp only [Res.bind_ok, if_neg Bool.false_ne_true]
        rw [loopR_any (r := false) (p := fun m => bad2 d pl m) (fun m _ => ?_)]
        · cases pl.any fun m => bad2 d pl m with
          | true => simp [h]
          | false => simp [h]
        · rw [filR_id (p := fun x => eqR x m) (q := fun x => decide (x = m)) (fun x _ => rfl)]
          simp only [un_ok, rLen_eq, bin_ok, rGt_eq, andR_ok, ifR_ok]
          unfold bad2 many
          split <;> rfl
    · simp only [rLt_eq, rGe_eq, bin_ok, orR_ok, andR_ok, ifR_ok]
      unfold bad1
      split <;> rfl
  · rw [if_pos (by simp; omega)]
    simp [h]
theorem zip_get {xs : List α} {ys : List β} {i : Nat} {x : α} {y : β} (h : (xs.zip ys)[i]? = some (x, y)) : xs[i]? = some x ∧ ys[i]? = some y := by
  rw [List.getElem?_zip_eq_some] at h
  exact h
theorem is_right_eq (w : List Wish) {d : Int} (pl : List Int) (hl : pl.length ≤ 1000000) : m__law_is_right_plan w d pl = .ok (rp w d pl) := by
  unfold m__law_is_right_plan rp
  simp only [un_ok, rLen_eq, bin_ok, neR_eq, ifR_ok, Res.bind_ok, rNeg_eq]
  by_cases h : pl.length = w.length
  · have h' : (pl.length : Int) = (w.length : Int) := by omega
    rw [if_neg (by simp [h']), rng1_ok (by omega)]
    simp only [Res.bind_ok]
    rw [loopR_any (r := false) (p := fun k => bad1 (w.getD k.toNat (0, 0)) (pl.getD k.toNat 0) || bad2 d pl (pl.getD k.toNat 0)) (fun k hk => ?_)]
    · have e : ((rangeL 0 (pl.length : Int)).any fun k => bad1 (w.getD k.toNat (0, 0)) (pl.getD k.toNat 0) || bad2 d pl (pl.getD k.toNat 0)) = (((w.zip pl).any fun x => bad1 x.1 x.2) || pl.any fun m => bad2 d pl m) := by
        rw [Bool.eq_iff_iff, Bool.or_eq_true, List.any_eq_true, List.any_eq_true, List.any_eq_true]
        constructor
        · rintro ⟨k, hk, hb⟩
          have hk := mem_rangeL.mp hk
          have hk1 : k.toNat < pl.length := by omega
          have hk2 : k.toNat < w.length := by omega
          rcases (Bool.or_eq_true _ _).mp hb with hb | hb
          · refine .inl ⟨(w[k.toNat], pl[k.toNat]), ?_, ?_⟩
            · rw [List.mem_iff_getElem?]
              exact ⟨k.toNat, by rw [List.getElem?_zip_eq_some]; exact ⟨by simp [hk2], by simp [hk1]⟩⟩
            · simpa [List.getD_eq_getElem?_getD, hk1, hk2] using hb
          · exact .inr ⟨pl[k.toNat], List.getElem_mem hk1, by simpa [List.getD_eq_getElem?_getD, hk1] using hb⟩
        · rintro (⟨x, hx, hb⟩ | ⟨m, hm, hb⟩)
          · obtain ⟨i, hi⟩ := List.mem_iff_getElem?.mp hx
            obtain ⟨h1, h2⟩ := zip_get (x := x.1) (y := x.2) hi
            have hi2 := (List.getElem?_eq_some_iff.mp h2).1
            refine ⟨(i : Int), mem_rangeL.mpr ⟨by omega, by omega⟩, ?_⟩
            rw [Int.toNat_natCast, List.getD_eq_getElem?_getD, List.getD_eq_getElem?_getD, h1, h2]
            simp only [Option.getD_some, hb, Bool.true_or]
          · obtain ⟨i, hi⟩ := List.mem_iff_getElem?.mp hm
            have hi2 := (List.getElem?_eq_some_iff.mp hi).1
            refine ⟨(i : Int), mem_rangeL.mpr ⟨by omega, by omega⟩, ?_⟩
            rw [Int.toNat_natCast, List.getD_eq_getElem?_getD, List.getD_eq_getElem?_getD, hi]
            simp only [Option.getD_some, hb, Bool.or_true]
      rw [e]
      simp only [h, decide_true, Bool.true_and]
      cases (w.zip pl).any fun x => bad1 x.1 x.2 <;> cases pl.any fun m => bad2 d pl m <;> rfl
    · have hk := mem_rangeL.mp hk
      rw [ix_getD (d := (0 : Int)) hk.1 hk.2, ix_getD (xs := w) (d := ((0, 0) : Wish)) hk.1 (by omega)]
      simp only [bin_ok, un_ok, neR_eq, rLt_eq, rGe_eq, orR_ok, ifR_ok]
      rw [filR_id (p := fun x => eqR x (pl.getD k.toNat 0)) (q := fun x => decide (x = pl.getD k.toNat 0)) (fun x _ => rfl)]
      simp only [un_ok, rLen_eq, bin_ok, rGt_eq, ifR_ok, Res.bind_ok]
      unfold bad1 bad2 many
      cases decide (pl.getD k.toNat 0 = -1) with
      | true => rfl
      | false =>
        simp only [Bool.not_false, Bool.true_and, if_pos]
        cases (decide (pl.getD k.toNat 0 < (w.getD k.toNat (0, 0)).1) || decide ((w.getD k.toNat (0, 0)).2 ≤ pl.getD k.toNat 0)) with
        | true => rfl
        | false =>
          simp only [if_neg Bool.false_ne_true, Bool.false_or]
          split <;> rfl
  · rw [if_pos (by simp; omega)]
    simp [h]
theorem is_crowd_eq {w : List Wish} (hw : Val w) {d s e : Int} (hd : Small d) : m_is_crowd w d s e = .ok (decide (s < e) && decide (d * (e - s) < cnt w s e)) := by
  unfold m_is_crowd
  simp only [un_ok, chk_ok hw, Res.bind_ok, bin_ok, rLt_eq, pair_ok, inside_eq, rSub_eq, rMul_ok (.inl hd), rGt_eq, andR_ok]

/-! the greedy plan and the crowds -/
def cn (P : List Int) (u : Int) : Nat := P.countP fun x => decide (x = u)
theorem many_cn (P : List Int) (u : Int) : many P u = (cn P u : Int) := by
  unfold many cn
  rw [List.countP_eq_length_filter]
def inR (P : List Int) (s e : Int) : Nat := P.countP fun m => decide (s ≤ m) && decide (m < e)
theorem inR_succ (P : List Int) {s e : Int} (h : s ≤ e) : inR P s (e + 1) = inR P s e + cn P e := by
  unfold inR cn
  induction P with
  | nil => rfl
  | cons x xs ih =>
    rw [List.countP_cons, List.countP_cons, List.countP_cons, ih]
    by_cases h1 : x = e
    · subst h1
      simp [h, show x < x + 1 by omega]
      omega
    · by_cases h2 : s ≤ x
      · by_cases h3 : x < e
        · simp [h1, h2, h3, show x < e + 1 by omega]
          omega
        · simp [h1, h2, h3, show ¬ x < e + 1 by omega]
      · simp [h1, h2]
theorem inR_nil (P : List Int) (s : Int) : inR P s s = 0 := by
  unfold inR
  rw [List.countP_eq_zero]
  intro x _
  simp
theorem inR_full (P : List Int) (d : Nat) (s : Int) : ∀ n : Nat, (∀ t, s ≤ t → t < s + n → cn P t = d) → inR P s (s + n) = d * n
  | 0, _ => by
    rw [show s + ((0 : Nat) : Int) = s by omega, inR_nil]
    rfl
  | n + 1, h => by
    rw [show s + ((n + 1 : Nat) : Int) = s + n + 1 by omega, inR_succ P (by omega), inR_full P d s n (fun t h1 h2 => h t h1 (by omega)), h (s + n) (by omega) (by omega), Nat.mul_succ]
theorem inR_cap (P : List Int) (d : Nat) (s : Int) : ∀ n : Nat, (∀ t, s ≤ t → t < s + n → cn P t ≤ d) → inR P s (s + n) ≤ d * n
  | 0, _ => by
    rw [show s + ((0 : Nat) : Int) = s by omega, inR_nil]
    omega
  | n + 1, h => by
    rw [show s + ((n + 1 : Nat) : Int) = s + n + 1 by omega, inR_succ P (by omega), Nat.mul_succ]
    have h1 := inR_cap P d s n (fun t h1 h2 => h t h1 (by omega))
    have h2 := h (s + n) (by omega) (by omega)
    omega
theorem cnt_zip {w : List Wish} {P : List Int} (h : P.length = w.length) (s e : Int) : cnt w s e = ((w.zip P).countP fun z => decide (s ≤ z.1.1) && decide (z.1.2 ≤ e) : Nat) := by
  unfold cnt
  rw [← List.countP_eq_length_filter]
  have e1 : w = (w.zip P).map Prod.fst := (List.map_fst_zip (by omega)).symm
  conv => lhs; rw [e1]
  rw [List.countP_map]
  rfl
theorem inR_zip {w : List Wish} {P : List Int} (h : P.length = w.length) (s e : Int) : inR P s e = (w.zip P).countP fun z => decide (s ≤ z.2) && decide (z.2 < e) := by
  unfold inR
  have e1 : P = (w.zip P).map Prod.snd := (List.map_snd_zip (by omega)).symm
  conv => lhs; rw [e1]
  rw [List.countP_map]
  rfl
theorem countP_lt {α : Type} {p q : α → Bool} : ∀ {l : List α} {z : α}, z ∈ l → p z = true → q z = false → (∀ x, x ∈ l → q x = true → p x = true) → l.countP q < l.countP p
  | x :: xs, z, hz, h1, h2, h => by
    rw [List.countP_cons, List.countP_cons]
    rcases List.mem_cons.mp hz with rfl | hz
    · have := List.countP_mono_left (l := xs) (p := q) (q := p) fun y hy => h y (List.mem_cons_of_mem _ hy)
      rw [h1, h2]
      simp
      omega
    · have := countP_lt hz h1 h2 fun y hy => h y (List.mem_cons_of_mem _ hy)
      have hx := h x List.mem_cons_self
      cases q1 : q x with
      | false => simp; omega
      | true => rw [hx q1]; simp; omega
structure Edf (w : List Wish) (d : Nat) (t : Int) (P : List Int) : Prop where
  len : P.length = w.length
  win : ∀ (i : Nat) (x : Wish) (m : Int), w[i]? = some x → P[i]? = some m → m = -1 ∨ (0 ≤ m ∧ m < t ∧ x.1 ≤ m ∧ m < x.2)
  cap : ∀ u, u ≠ -1 → cn P u ≤ d
  grd : ∀ (u : Int) (j : Nat) (x : Wish) (m : Int), 0 ≤ u → u < t → w[j]? = some x → P[j]? = some m → x.1 ≤ u → u < x.2 → (m = -1 ∨ u < m) → cn P u = d ∧ ∀ (i : Nat) (y : Wish), w[i]? = some y → P[i]? = some u → y.2 ≤ x.2
theorem edf_all {w : List Wish} {d : Nat} {P : List Int} (H : Edf w d 60 P) (hw : ∀ x ∈ w, VW x) (hn : ∀ s e : Int, 0 ≤ s → s < e → e ≤ 60 → cnt w s e ≤ (d : Int) * (e - s)) : -1 ∉ P := by
  intro hm
  obtain ⟨j, hj⟩ := List.mem_iff_getElem?.mp hm
  have hjl : j < w.length := by
    have := (List.getElem?_eq_some_iff.mp hj).1
    rw [H.len] at this
    exact this
  obtain ⟨x, hx⟩ : ∃ x, w[j]? = some x := ⟨w[j], by simp [hjl]⟩
  have vx := hw x (List.mem_of_getElem? hx)
  obtain ⟨v0, v1, v2⟩ := vx
  -- the earliest minute from which on all are full
  have key : ∀ n : Nat, ∀ s : Int, 0 ≤ s → s.toNat = n → s ≤ x.1 → (∀ t, s ≤ t → t < x.2 → cn P t = d ∧ ∀ (i : Nat) (y : Wish), w[i]? = some y → P[i]? = some t → y.2 ≤ x.2) →
      ∃ s', 0 ≤ s' ∧ s' ≤ x.1 ∧ (∀ t, s' ≤ t → t < x.2 → cn P t = d ∧ ∀ (i : Nat) (y : Wish), w[i]? = some y → P[i]? = some t → y.2 ≤ x.2) ∧ (s' = 0 ∨ ¬ (cn P (s' - 1) = d ∧ ∀ (i : Nat) (y : Wish), w[i]? = some y → P[i]? = some (s' - 1) → y.2 ≤ x.2)) := by
    intro n
    induction n with
    | zero => intro s h0 hs h1 h2; exact ⟨s, h0, h1, h2, .inl (by omega)⟩
    | succ n ih =>
      intro s h0 hs h1 h2
      by_cases hg : cn P (s - 1) = d ∧ ∀ (i : Nat) (y : Wish), w[i]? = some y → P[i]? = some (s - 1) → y.2 ≤ x.2
      · exact ih (s - 1) (by omega) (by omega) (by omega) fun t h3 h4 => by
          by_cases ht : t = s - 1
          · rw [ht]; exact hg
          · exact h2 t (by omega) h4
      · exact ⟨s, h0, h1, h2, .inr hg⟩
  obtain ⟨s, s0, s1, sg, sm⟩ := key x.1.toNat x.1 v0 rfl (Int.le_refl _) fun t h1 h2 => H.grd t j x (-1) (by omega) (by omega) hx hj h1 h2 (.inl rfl)
  -- whoever is told in it, or is x, opens in it
  have open_ : ∀ (i : Nat) (y : Wish) (m : Int), w[i]? = some y → P[i]? = some m → (m = -1 ∨ s ≤ m) → s ≤ y.2 - 1 → y.2 ≤ x.2 → s ≤ y.1 := by
    intro i y m hy hm h1 h2 h3
    rcases sm with rfl | sm
    · exact (hw y (List.mem_of_getElem? hy)).1
    · by_cases hs : s ≤ y.1
      · exact hs
      · refine absurd ?_ sm
        by_cases hs0 : s = 0
        · have := (hw y (List.mem_of_getElem? hy)).1
          omega
        · obtain ⟨g1, g2⟩ := H.grd (s - 1) i y m (by omega) (by omega) hy hm (by omega) (by omega) (by rcases h1 with h | h; exact .inl h; exact .inr (by omega))
          exact ⟨g1, fun i2 y2 h4 h5 => Int.le_trans (g2 i2 y2 h4 h5) h3⟩
  have hz : (x, (-1 : Int)) ∈ w.zip P := by
    rw [List.mem_iff_getElem?]
    exact ⟨j, List.getElem?_zip_eq_some.mpr ⟨hx, hj⟩⟩
  have lt := countP_lt (p := fun z : Wish × Int => decide (s ≤ z.1.1) && decide (z.1.2 ≤ x.2)) (q := fun z => decide (s ≤ z.2) && decide (z.2 < x.2)) hz (by simp [s1]) (by simp; omega) fun z hz hq => by
    obtain ⟨i, hi⟩ := List.mem_iff_getElem?.mp hz
    obtain ⟨h1, h2⟩ := List.getElem?_zip_eq_some.mp hi
    simp only [Bool.and_eq_true, decide_eq_true_eq] at hq ⊢
    have hc := (sg z.2 hq.1 hq.2).2 i z.1 h1 h2
    have hw2 := H.win i z.1 z.2 h1 h2
    exact ⟨open_ i z.1 z.2 h1 h2 (.inr hq.1) (by omega) hc, hc⟩
  rw [← inR_zip H.len] at lt
  have hc := cnt_zip H.len s x.2
  have hf := inR_full P d s (x.2 - s).toNat fun t h1 h2 => (sg t h1 (by omega)).1
  rw [show s + ((x.2 - s).toNat : Int) = x.2 by omega] at hf
  have hb := hn s x.2 s0 (by omega) v2
  have e1 : (d : Int) * (x.2 - s) = ((d * (x.2 - s).toNat : Nat) : Int) := by
    rw [Int.natCast_mul]
    congr 1
    omega
  rw [e1] at hb
  omega
theorem edf_crowd {w : List Wish} {d : Nat} {P : List Int} (H : Edf w d 60 P) {s e : Int} (h0 : 0 ≤ s) (h1 : s < e) (hc : (d : Int) * (e - s) < cnt w s e) : -1 ∈ P := by
  by_cases hm : -1 ∈ P
  · exact hm
  · exfalso
    have le : (w.zip P).countP (fun z : Wish × Int => decide (s ≤ z.1.1) && decide (z.1.2 ≤ e)) ≤ (w.zip P).countP (fun z => decide (s ≤ z.2) && decide (z.2 < e)) := List.countP_mono_left fun z hz hq => by
      obtain ⟨i, hi⟩ := List.mem_iff_getElem?.mp hz
      obtain ⟨h2, h3⟩ := List.getElem?_zip_eq_some.mp hi
      simp only [Bool.and_eq_true, decide_eq_true_eq] at hq ⊢
      rcases H.win i z.1 z.2 h2 h3 with h | h
      · exact absurd (h ▸ List.mem_of_getElem? h3) hm
      · omega
    rw [← inR_zip H.len] at le
    have e2 := cnt_zip H.len s e
    have hf := inR_cap P d s (e - s).toNat fun t h2 h3 => H.cap t (by omega)
    rw [show s + ((e - s).toNat : Int) = e by omega] at hf
    have e1 : (d : Int) * (e - s) = ((d * (e - s).toNat : Nat) : Int) := by
      rw [Int.natCast_mul]
      congr 1
      omega
    rw [e1] at hc
    omega
theorem edf_right {w : List Wish} {d : Nat} {P : List Int} (H : Edf w d 60 P) : rp w (d : Int) P = true := by
  unfold rp
  simp only [H.len, decide_true, Bool.true_and, Bool.and_eq_true, Bool.not_eq_true', List.any_eq_false]
  constructor
  · intro z hz
    obtain ⟨i, hi⟩ := List.mem_iff_getElem?.mp hz
    obtain ⟨h2, h3⟩ := List.getElem?_zip_eq_some.mp hi
    unfold bad1
    rcases H.win i z.1 z.2 h2 h3 with h | h
    · simp [h]
    · simp; omega
  · intro m hm
    unfold bad2
    rw [many_cn]
    by_cases h : m = -1
    · simp [h]
    · have := H.cap m h
      simp [h]
      omega

/-! the plan that earliest_plan makes -/
def wl (w : List Wish) (t : Int) (P : List Int) : List (Int × Int) := ((enumF 0 w).filter fun x => decide (P.getD x.1.toNat 0 < 0) && (decide (x.2.1 ≤ t) && decide (t < x.2.2))).map fun x => (x.2.2, x.1)
theorem mem_wl {w : List Wish} {t : Int} {P : List Int} {y : Int × Int} : y ∈ wl w t P ↔ ∃ (i : Nat) (x : Wish), w[i]? = some x ∧ y = (x.2, (i : Int)) ∧ P.getD i 0 < 0 ∧ x.1 ≤ t ∧ t < x.2 := by
  unfold wl
  rw [List.mem_map]
  constructor
  · rintro ⟨x, hx, rfl⟩
    obtain ⟨h1, h2⟩ := List.mem_filter.mp hx
    obtain ⟨i, h3, h4⟩ := mem_enumF.mp h1
    simp only [Bool.and_eq_true, decide_eq_true_eq] at h2
    rw [h4, Int.toNat_natCast] at h2
    exact ⟨i, x.2, h3, by rw [h4], h2.1, h2.2.1, h2.2.2⟩
  · rintro ⟨i, x, h1, rfl, h2, h3, h4⟩
    exact ⟨((i : Int), x), List.mem_filter.mpr ⟨mem_enumF.mpr ⟨i, h1, rfl⟩, by simp only [Int.toNat_natCast, Bool.and_eq_true, decide_eq_true_eq]; exact ⟨h2, h3, h4⟩⟩, rfl⟩
theorem wl_ne (w : List Wish) (t : Int) (P : List Int) : (wl w t P).Pairwise fun a b => a.2 ≠ b.2 := by
  unfold wl
  rw [List.pairwise_map]
  exact ((enumF_lt w 0).filter _).imp fun h => by dsimp only; omega
theorem cn_set {P : List Int} {i : Nat} {a b u : Int} (h : P[i]? = some a) : cn (P.set i b) u + (if a = u then 1 else 0) = cn P u + if b = u then 1 else 0 := by
  obtain ⟨hi, ha⟩ := List.getElem?_eq_some_iff.mp h
  unfold cn
  rw [List.countP_set hi, ha]
  have : a = u → 0 < P.countP fun x => decide (x = u) := fun e => by
    rw [List.countP_pos_iff]
    exact ⟨a, List.mem_of_getElem? h, by simp [e]⟩
  by_cases h1 : a = u
  · have := this h1
    simp only [h1, decide_true, if_pos]
    by_cases h2 : b = u
    · simp only [h2, decide_true, if_pos]
      omega
    · simp only [h2, decide_false, if_neg Bool.false_ne_true, if_neg not_false]
      omega
  · by_cases h2 : b = u <;> simp [h1, h2]
theorem set_all {t : Int} (ht : t ≠ -1) : ∀ (L : List (Int × Int)) (P : List Int), L.Pairwise (fun a b => a.2 ≠ b.2) → (∀ x ∈ L, 0 ≤ x.2 ∧ P[x.2.toNat]? = some (-1)) →
    ∃ P', loopN (fun (x_150 : (Int × Int)) (z_140 : (List Int)) => (setR z_140 x_150.2 t).bind fun (plan_162 : (List Int)) => (Res.ok plan_162)) L P = .ok P' ∧ P'.length = P.length ∧
      (∀ i : Nat, (∃ x ∈ L, x.2.toNat = i) → P'[i]? = some t) ∧ (∀ i : Nat, (∀ x ∈ L, x.2.toNat ≠ i) → P'[i]? = P[i]?) ∧ cn P' t = cn P t + L.length ∧ ∀ u, u ≠ t → u ≠ -1 → cn P' u = cn P u
  | [], P, _, _ => ⟨P, rfl, rfl, fun i ⟨x, h, _⟩ => (nomatch h), fun i _ => rfl, rfl, fun u _ _ => rfl⟩
  | x :: xs, P, hp, hx => by
    obtain ⟨h1, h2⟩ := List.pairwise_cons.mp hp
    obtain ⟨h3, h4⟩ := hx x List.mem_cons_self
    have hi := (List.getElem?_eq_some_iff.mp h4).1
    obtain ⟨P', e, hl, ha, hb, hc, hd⟩ := set_all ht xs (P.set x.2.toNat t) h2 fun y hy => by
      obtain ⟨h5, h6⟩ := hx y (List.mem_cons_of_mem _ hy)
      refine ⟨h5, ?_⟩
      rw [List.getElem?_set, if_neg (by have := h1 y hy; omega)]
      exact h6
    have c1 := cn_set (b := t) (u := t) h4
    rw [if_neg (by omega), if_pos rfl] at c1
    refine ⟨P', ?_, by rw [hl, List.length_set], ?_, ?_, ?_, ?_⟩
    · rw [loopN_cons]
      simp only [Res.bind_ok, setR_nat h3 (by omega : x.2 < P.length)]
      exact e
    · rintro i ⟨y, hy, rfl⟩
      rcases List.mem_cons.mp hy with rfl | hy
      · by_cases hz : ∃ z ∈ xs, z.2.toNat = y.2.toNat
        · exact ha _ hz
        · rw [hb _ fun z hz2 hz3 => hz ⟨z, hz2, hz3⟩, List.getElem?_set, if_pos rfl, if_pos hi]
      · exact ha _ ⟨y, hy, rfl⟩
    · intro i h
      rw [hb i fun z hz => h z (List.mem_cons_of_mem _ hz), List.getElem?_set, if_neg (h x List.mem_cons_self)]
    · rw [hc, List.length_cons]
      omega
    · intro u h5 h6
      rw [hd u h5 h6]
      have c2 := cn_set (b := t) (u := u) h4
      rw [if_neg (by omega), if_neg (by omega)] at c2
      exact c2
theorem plan_step {w : List Wish} {d : Nat} {t : Int} {P : List Int} (h0 : 0 ≤ t) (hlen : w.length ≤ 20) (H : Edf w d t P) :
    ∃ P', loopN (fun (x_150 : (Int × Int)) (z_140 : (List Int)) => (setR z_140 x_150.2 t).bind fun (plan_162 : (List Int)) => (Res.ok plan_162)) ((isortP (wl w t P)).take d) P = .ok P' ∧ Edf w d (t + 1) P' := by
  have perm := isortP_perm (wl w t P)
  have sorted := isortP_sorted (wl w t P)
  have ne : (isortP (wl w t P)).Pairwise fun a b => a.2 ≠ b.2 := (perm.pairwise_iff (fun h => Ne.symm h)).mpr (wl_ne w t P)
  have old : ∀ y ∈ wl w t P, 0 ≤ y.2 ∧ P[y.2.toNat]? = some (-1) := fun y hy => by
    obtain ⟨i, x, h1, rfl, h2, h3, h4⟩ := mem_wl.mp hy
    refine ⟨by dsimp only; omega, ?_⟩
    have hi : i < P.length := by
      rw [H.len]
      exact (List.getElem?_eq_some_iff.mp h1).1
    rw [Int.toNat_natCast]
    have hm : P[i]? = some P[i] := by simp [hi]
    rw [List.getD_eq_getElem?_getD, hm, Option.getD_some] at h2
    rcases H.win i x _ h1 hm with h | h
    · rw [hm, h]
    · omega
  have selmem : ∀ y ∈ (isortP (wl w t P)).take d, y ∈ wl w t P := fun y hy => perm.mem_iff.mp (List.mem_of_mem_take hy)
  obtain ⟨P', e, hl, ha, hb, hc, hd⟩ := set_all (t := t) (by omega) ((isortP (wl w t P)).take d) P (ne.sublist (List.take_sublist _ _)) fun y hy => old y (selmem y hy)
  refine ⟨P', e, ?_⟩
  -- what stands in P'
  have new : ∀ (i : Nat) (m : Int), P'[i]? = some m → (m = t ∧ ∃ y ∈ (isortP (wl w t P)).take d, y.2.toNat = i) ∨ (P[i]? = some m ∧ ∀ y ∈ (isortP (wl w t P)).take d, y.2.toNat ≠ i) := fun i m hm => by
    by_cases hz : ∃ y ∈ (isortP (wl w t P)).take d, y.2.toNat = i
    · rw [ha i hz] at hm
      exact .inl ⟨(Option.some.inj hm).symm, hz⟩
    · have hn : ∀ y ∈ (isortP (wl w t P)).take d, y.2.toNat ≠ i := fun y hy hy2 => hz ⟨y, hy, hy2⟩
      rw [hb i hn] at hm
      exact .inr ⟨hm, hn⟩
  have none_t : cn P t = 0 := by
    unfold cn
    rw [List.countP_eq_zero]
    intro m hm
    obtain ⟨i, hi⟩ := List.mem_iff_getElem?.mp hm
    have hi2 : i < w.length := by
      rw [← H.len]
      exact (List.getElem?_eq_some_iff.mp hi).1
    have hx : w[i]? = some w[i] := by simp [hi2]
    have := H.win i _ m hx hi
    simp
    omega
  have wt : ∀ (i : Nat) (x : Wish), w[i]? = some x → (∃ y ∈ (isortP (wl w t P)).take d, y.2.toNat = i) → x.1 ≤ t ∧ t < x.2 ∧ (x.2, (i : Int)) ∈ (isortP (wl w t P)).take d := fun i x hx ⟨y, hy, hi⟩ => by
    obtain ⟨k, z, h1, rfl, h2, h3, h4⟩ := mem_wl.mp (selmem y hy)
    have hi : k = i := by
      rw [← hi]
      rfl
    subst hi
    rw [hx] at h1
    cases h1
    exact ⟨h3, h4, hy⟩
  constructor
  · rw [hl, H.len]
  · intro i x m hx hm
    rcases new i m hm with ⟨rfl, hz⟩ | ⟨hm2, _⟩
    · have := wt i x hx hz
      exact .inr ⟨h0, by omega, this.1, this.2.1⟩
    · rcases H.win i x m hx hm2 with h | h
      · exact .inl h
      · exact .inr ⟨h.1, by omega, h.2.2.1, h.2.2.2⟩
  · intro u hu
    by_cases hut : u = t
    · subst hut
      rw [hc, none_t, List.length_take]
      omega
    · rw [hd u hut hu]
      exact H.cap u hu
  · intro u j x m hu0 hu1 hx hm hx1 hx2 hmu
    by_cases hut : u = t
    · subst hut
      have hm1 : m = -1 := by
        rcases new j m hm with ⟨rfl, _⟩ | ⟨hm2, _⟩
        · omega
        · have := H.win j x m hx hm2
          omega
      subst hm1
      rcases new j (-1) hm with ⟨h, _⟩ | ⟨hm2, hnot⟩
      · omega
      · have hw : (x.2, (j : Int)) ∈ isortP (wl w u P) := perm.mem_iff.mpr (mem_wl.mpr ⟨j, x, hx, rfl, by rw [List.getD_eq_getElem?_getD, hm2]; decide, hx1, hx2⟩)
        rw [← List.take_append_drop d (isortP (wl w u P))] at hw sorted
        have hdrop : (x.2, (j : Int)) ∈ (isortP (wl w u P)).drop d := by
          rcases List.mem_append.mp hw with h | h
          · exact absurd rfl (hnot _ h)
          · exact h
        have hlong : d ≤ (isortP (wl w u P)).length := by
          have := List.length_pos_of_mem hdrop
          rw [List.length_drop] at this
          omega
        refine ⟨?_, fun i y hy hi => ?_⟩
        · rw [hc, none_t, List.length_take]
          omega
        · rcases new i u hi with ⟨_, hz⟩ | ⟨hi2, _⟩
          · have hs := (wt i y hy hz).2.2
            have := leP_iff.mp ((List.pairwise_append.mp sorted).2.2 _ hs _ hdrop)
            dsimp only at this
            omega
          · have := H.win i y u hy hi2
            omega
    · have hul : u < t := by omega
      have hold : ∃ m', P[j]? = some m' ∧ (m' = -1 ∨ u < m') := by
        rcases new j m hm with ⟨rfl, y, hy, hyj⟩ | ⟨hm2, _⟩
        · have := (old y (selmem y hy)).2
          rw [hyj] at this
          exact ⟨-1, this, .inl rfl⟩
        · exact ⟨m, hm2, hmu⟩
      obtain ⟨m', hm', hmu'⟩ := hold
      obtain ⟨g1, g2⟩ := H.grd u j x m' hu0 hul hx hm' hx1 hx2 hmu'
      refine ⟨by rw [hd u hut (by omega)]; exact g1, fun i y hy hi => ?_⟩
      rcases new i u hi with ⟨h, _⟩ | ⟨hi2, _⟩
      · exact absurd h hut
      · exact g2 i y hy hi2
theorem plan_is {w : List Wish} {d : Int} (hw : Val w) (hd0 : 0 ≤ d) : ∃ P, m_earliest_plan w d = .ok P ∧ Edf w d.toNat 60 P := by
  refine Is.get (Q := Edf w d.toNat 60) ?_
  unfold m_earliest_plan
  have e0 : mapR (fun (x_1 : (Int × Int)) => rNeg (1 : Int)) w = .ok (w.map fun _ => (-1 : Int)) := mapR_ok fun _ _ => rfl
  simp only [Res.bind_ok, un_ok, e0, rng1_ok (n := 60) (by decide), enumR_eq]
  have start : Edf w d.toNat 0 (w.map fun _ => (-1 : Int)) := by
    constructor
    · rw [List.length_map]
    · intro i x m hx hm
      rw [List.getElem?_map, hx] at hm
      cases hm
      exact .inl rfl
    · intro u hu
      have : cn (w.map fun _ => (-1 : Int)) u = 0 := by
        unfold cn
        rw [List.countP_eq_zero]
        intro m hm
        obtain ⟨_, _, rfl⟩ := List.mem_map.mp hm
        simp
        omega
      omega
    · intro u j x m h1 h2
      omega
  refine Is.bind (loopN_inv (fun i P => Edf w d.toNat (i : Int) P) start fun i t P ht HP => ?_) fun P hP => ?_
  · have ht2 := rangeL_get ht
    have ht3 : t = (i : Int) := by omega
    subst ht3
    have len := HP.len
    rw [loopN_app (q := fun x => decide (P.getD x.1.toNat 0 < 0) && (decide (x.2.1 ≤ (i : Int)) && decide ((i : Int) < x.2.2))) (g := fun x => (x.2.2, x.1)) (fun x a hx ha => ?_) (by rw [enumF_length]; have := hw.1; simp; omega)]
    · simp only [Res.bind_ok, List.nil_append, sortP_eq, someR_ok, slR_ok, cut_lo hd0]
      obtain ⟨P', e, h⟩ := plan_step (w := w) (d := d.toNat) (t := (i : Int)) (P := P) (by omega) hw.1 HP
      have e : loopN _ ((isortP (wl w (i : Int) P)).take d.toNat) P = .ok P' := e
      unfold wl at e
      rw [e]
      exact h
    · obtain ⟨k, hk1, hk2⟩ := mem_enumF.mp hx
      have hk3 := (List.getElem?_eq_some_iff.mp hk1).1
      have hix := ix_getD (xs := P) (i := x.1) (d := (0 : Int)) (by omega) (by omega)
      simp only [bin_ok, un_ok, hix, rLt_eq, rLe_eq, andR_ok, ifR_ok, pair_ok, Res.bind_ok, push_ok ha]
      split <;> rfl
  · rw [rangeL_length] at hP
    exact hP

/-! the paper, what is refused -/
theorem small_of {d : Int} (h0 : 0 ≤ d) (h1 : d ≤ 5) : Small d := ⟨by omega, by omega⟩
theorem phone_ok {w : List Wish} {d : Int} (hw : Val w) (h0 : 0 ≤ d) (h1 : d ≤ 5) : ∃ P, Edf w d.toNat 60 P ∧ m_phone_paper w d = .ok (if -1 ∈ P then ("crowd", .inr (fc w d)) else ("plan", .inl P)) := by
  obtain ⟨P, e, H⟩ := plan_is (d := d) hw h0
  refine ⟨P, H, ?_⟩
  unfold m_phone_paper
  simp only [un_ok, chk_ok hw, Res.bind_ok, pair_ok, e, rNeg_eq, bin_ok, ninR_eq, ifR_ok, inlR_eq, fc_eq (small_of h0 h1), inrR_eq]
  by_cases hm : -1 ∈ P
  · simp [hm]
  · simp [hm]
theorem refused_ok {w : List Wish} (hw : Val w) (k : Int) : m__law_refused w k = .ok ("none", 0) := by
  unfold m__law_refused
  obtain ⟨P, _, e⟩ := phone_ok (d := 1) hw (by decide) (by decide)
  have e0 : mapR (fun (x_21 : (Int × Int)) => (rNeg (1 : Int))) w = .ok (w.map fun _ => (-1 : Int)) := mapR_ok fun _ _ => rfl
  simp only [bin_ok, eqR_eq, ifR_ok, Res.bind_ok, un_ok, e0, pair_ok, is_plan_eq hw, is_crowd_eq hw (small_of (by decide : (0 : Int) ≤ 1) (by decide)), e]
  by_cases h0 : k = 0
  · simp [h0]
  · by_cases h1 : k = 1
    · simp [h1]
    · simp [h0, h1]
theorem refused_at {w : List Wish} {c : Ec} {i : Int} (h : m_check_wishes w = .exc c i) (k : Int) : m__law_refused w k = ((tryR knE (fun c => isaE c .DeskError) (Res.exc c i : Res (Out Unit (Str × Int))) (fun c_58 j_59 => (ifR (andR (Res.ok (isaE c_58 .BadPair)) (un notR (Res.ok (isaE c_58 .TooMany)))) ((pair (Res.ok ("pair" : Str)) (Res.ok j_59)).bind fun a_71 => Res.ok (Out.rt a_71)) (ifR (andR (Res.ok (isaE c_58 .TooMany)) (un notR (Res.ok (isaE c_58 .BadPair)))) ((pair (Res.ok ("many" : Str)) (Res.ok j_59)).bind fun a_86 => Res.ok (Out.rt a_86)) ((pair (Res.ok ("other" : Str)) (Res.ok (0 : Int))).bind fun a_93 => Res.ok (Out.rt a_93)))))).bind fun (o : Out Unit (Str × Int)) => match o with | .nx z_2 => ((pair (Res.ok ("none" : Str)) (Res.ok (0 : Int))).bind fun a_105 => Res.ok a_105) | .br _ => Res.bad | .rt r => Res.ok r) := by
  have e0 : mapR (fun (x_21 : (Int × Int)) => (un rNeg (Res.ok (1 : Int)))) w = .ok (w.map fun _ => (-1 : Int)) := mapR_ok fun _ _ => rfl
  have e1 : ∀ p, m_is_plan w 1 p = .exc c i := fun p => by
    unfold m_is_plan
    rw [un_ok, h]
    rfl
  have e2 : m_is_crowd w 1 0 60 = .exc c i := by
    unfold m_is_crowd
    rw [un_ok, h]
    rfl
  have e3 : m_phone_paper w 1 = .exc c i := by
    unfold m_phone_paper
    rw [un_ok, h]
    rfl
  unfold m__law_refused
  congr 1
  congr 1
  rw [Res.bind_ok, e0]
  simp only [bin_ok, eqR_eq, ifR_ok, un_ok, pair_ok, e1, e2, e3, Res.bind_exc]
  by_cases h0 : k = 0
  · simp [h0]
  · by_cases h1 : k = 1
    · simp [h1]
    · simp [h0, h1]
theorem refused_pair {w : List Wish} {i : Int} (h : m_check_wishes w = .exc .BadPair i) (k : Int) : m__law_refused w k = .ok ("pair", i) := by
  rw [refused_at h k, tryR_exc (by decide) (by decide)]
  rfl
theorem refused_many {w : List Wish} {i : Int} (h : m_check_wishes w = .exc .TooMany i) (k : Int) : m__law_refused w k = .ok ("many", i) := by
  rw [refused_at h k, tryR_exc (by decide) (by decide)]
  rfl
theorem chk_many {w : List Wish} (h : 20 < w.length) : m_check_wishes w = .exc .TooMany 20 := by
  rw [chk_eq]
  unfold chk
  rw [if_pos h]
theorem chk_at {w : List Wish} (h : w.length ≤ 20) {j : Nat} (h1 : ∀ i x, i < j → w[i]? = some x → VW x) (h2 : ∃ x, w[j]? = some x ∧ ¬ VW x) : m_check_wishes w = .exc .BadPair j := by
  rw [chk_eq]
  unfold chk
  rw [if_neg (by omega), fb_at h1 h2]
  simp
theorem put_eq {α : Type} {xs : List α} {k : Nat} {x : α} (h : k < xs.length) : xs.take k ++ [x] ++ xs.drop (k + 1) = xs.set k x := by
  rw [List.set_eq_take_append_cons_drop, if_pos h, List.append_assoc]
  rfl
theorem bads_bad : ∀ x ∈ ([(-1, 3), (3, 3), (4, 2), (0, 61), (60, 60), (59, 61), (-2, -1)] : List Wish), ¬ VW x := by
  have key : ∀ x ∈ ([(-1, 3), (3, 3), (4, 2), (0, 61), (60, 60), (59, 61), (-2, -1)] : List Wish), okW x = false := by decide
  intro x hx h
  have h1 := okW_iff.mpr h
  rw [key x hx] at h1
  cases h1
theorem refused_right_is {w : List Wish} {p : Pl} (hw : Val w) (hp : PI_ p) : Is (m__law_refused_right w p) fun b => b.1 = true := by
  unfold m__law_refused_right
  have hl := hw.1
  have e0 : mapR (fun (x_1 : Int) => (pair (Res.ok x_1) (Res.ok (60 : Int)))) (rangeL 0 (20 - (w.length : Int))) = .ok ((rangeL 0 (20 - (w.length : Int))).map fun k => (k, (60 : Int))) := mapR_ok fun _ _ => rfl
  simp only [un_ok, rLen_eq, bin_ok, rSub_eq, rng1_ok (n := 20 - (w.length : Int)) (by omega), Res.bind_ok, e0]
  have lf : (w ++ (rangeL 0 (20 - (w.length : Int))).map fun k => (k, (60 : Int))).length = 20 := by
    rw [List.length_append, List.length_map, rangeL_length]
    omega
  have vf : ∀ x ∈ (w ++ (rangeL 0 (20 - (w.length : Int))).map fun k => (k, (60 : Int))), VW x := fun x hx => by
    rcases List.mem_append.mp hx with hx | hx
    · exact hw.2 x hx
    · obtain ⟨k, hk, rfl⟩ := List.mem_map.mp hx
      have := mem_rangeL.mp hk
      exact ⟨this.1, by dsimp only; omega, by dsimp only; omega⟩
  rw [rCatR_ok (by rw [← List.length_append, lf]; decide)]
  generalize (w ++ (rangeL 0 (20 - (w.length : Int))).map fun k => (k, (60 : Int))) = full at lf vf
  obtain ⟨b, eb, hb, pb⟩ := take_ok (n := 7) hp (by decide) (by decide)
  obtain ⟨y, ey, hy⟩ := ix_get (xs := ([(-1, 3), (3, 3), (4, 2), (0, 61), (60, 60), (59, 61), (-2, -1)] : List Wish)) hb.1 hb.2
  have by_ := bads_bad y (List.mem_of_getElem? hy)
  obtain ⟨a, ea, ha, pa⟩ := take_ok (n := 20) pb (by decide) (by decide)
  obtain ⟨c, ec, hc, pc⟩ := take_ok (n := 20) pa (by decide) (by decide)
  simp only [Res.bind_ok, rNeg_eq, pair_ok, consR_ok, binM_eq, liftM_ok, callM_ok, eb, ey, ea, ec, someR_ok, slR_ok, bin_ok, rAdd_eq, cut_lo ha.1, cut_lo hc.1, cut_hi (show 0 ≤ a.1 + 1 by omega), cut_hi (show 0 ≤ c.1 + 1 by omega)]
  have t1 : (a.1 + 1).toNat = a.1.toNat + 1 := by omega
  have t2 : (c.1 + 1).toNat = c.1.toNat + 1 := by omega
  have la : a.1.toNat < full.length := by omega
  rw [rCatR_ok (by rw [List.length_take]; simp; omega)]
  simp only [Res.bind_ok, bin_ok]
  rw [rCatR_ok (by rw [List.length_append, List.length_take, List.length_drop]; simp; omega), t1, put_eq la]
  simp only [Res.bind_ok]
  have ls : (full.set a.1.toNat y).length = 20 := by rw [List.length_set, lf]
  rw [rCatR_ok (by rw [List.length_take]; simp; omega)]
  simp only [Res.bind_ok, bin_ok]
  rw [rCatR_ok (by rw [List.length_append, List.length_take, List.length_drop]; simp; omega), t2, put_eq (by omega : c.1.toNat < (full.set a.1.toNat y).length)]
  simp only [Res.bind_ok, un_ok, rng1_ok (n := 3) (by decide)]
  have lb : ((full.set a.1.toNat y).set c.1.toNat (5, 5)).length = 20 := by rw [List.length_set, ls]
  -- the verdicts
  have r0 : ∀ k, m__law_refused full k = .ok ("none", 0) := refused_ok ⟨by omega, vf⟩
  have r1 : ∀ k, m__law_refused (full.set a.1.toNat y) k = .ok ("pair", a.1) := fun k => by
    have := chk_at (w := full.set a.1.toNat y) (j := a.1.toNat) (by omega) (fun i x hi hx => by
      rw [List.getElem?_set, if_neg (by omega)] at hx
      exact vf x (List.mem_of_getElem? hx)) ⟨y, by rw [List.getElem?_set, if_pos rfl, if_pos la], by_⟩
    rw [show ((a.1.toNat : Nat) : Int) = a.1 by omega] at this
    exact refused_pair this k
  have v5 : ¬ VW (5, 5) := fun h => by
    have := h.2.1
    dsimp only at this
    omega
  have r2 : ∀ k, m__law_refused ((full.set a.1.toNat y).set c.1.toNat (5, 5)) k = .ok ("pair", min a.1 c.1) := fun k => by
    have := chk_at (w := (full.set a.1.toNat y).set c.1.toNat (5, 5)) (j := min a.1.toNat c.1.toNat) (by omega) (fun i x hi hx => by
      rw [List.getElem?_set, if_neg (by omega), List.getElem?_set, if_neg (by omega)] at hx
      exact vf x (List.mem_of_getElem? hx)) (by
      by_cases h : c.1.toNat ≤ a.1.toNat
      · refine ⟨(5, 5), ?_, v5⟩
        rw [Nat.min_eq_right h, List.getElem?_set, if_pos rfl, if_pos (by omega)]
      · refine ⟨y, ?_, by_⟩
        rw [Nat.min_eq_left (by omega), List.getElem?_set, if_neg (by omega), List.getElem?_set, if_pos rfl, if_pos la])
    rw [show ((min a.1.toNat c.1.toNat : Nat) : Int) = min a.1 c.1 by omega] at this
    exact refused_pair this k
  have r3 : ∀ k x, m__law_refused (full ++ [x]) k = .ok ("many", 20) := fun k x => refused_many (chk_many (by rw [List.length_append, lf, List.length_singleton]; decide)) k
  have r4 : ∀ k x, m__law_refused ((full.set a.1.toNat y).set c.1.toNat (5, 5) ++ [x]) k = .ok ("many", 20) := fun k x => refused_many (chk_many (by rw [List.length_append, lb, List.length_singleton]; decide)) k
  rw [loopR_any (r := (false, c.2)) (p := fun _ => false) (fun k _ => ?_)]
  · simp only [List.any_eq_true, Bool.false_eq_true, and_false, exists_false, if_false, Res.bind_ok]
    rfl
  · rw [rCatR_ok (by rw [lf]; decide), rCatR_ok (by rw [lb]; decide)]
    simp only [r0, r1, r2, r3, r4, bin_ok, pair_ok, neR_eq, decide_true, Bool.not_true, orR_ok, Bool.or_self, ifR_ok, if_neg Bool.false_ne_true, min2_eq, un_ok]

/-! changed plans -/
theorem loopN_mem {α S : Type} {f : α → S → Res S} (J : S → Prop) {xs : List α} {s : S} (h0 : J s) (h : ∀ x s, x ∈ xs → J s → Is (f x s) J) : Is (loopN f xs s) J := loopN_inv' J h0 h
theorem changed_is {w : List Wish} {P : List Int} {p : Pl} (hw : Val w) (hP : P.length = w.length) (hp : PI_ p) : Is (m__law_changed_plans w P p) fun b => (∀ x ∈ b.1, x.length ≤ 21) ∧ PI_ b.2 := by
  unfold m__law_changed_plans
  have hl := hw.1
  have e0 : mapR (fun (x_1 : (Int × Int)) => (Res.ok (-1) : Res Int)) w = .ok (w.map fun _ => (-1 : Int)) := mapR_ok fun _ _ => rfl
  have e1 : mapR (fun (x_8 : (Int × Int)) => (Res.ok x_8.1)) w = .ok (w.map fun x => x.1) := mapR_ok fun _ _ => rfl
  simp only [Res.bind_ok, un_ok, e0, e1, rNeg_eq, someR_ok, slR_ok, consR_ok, bin_ok]
  rw [rCatR_ok (by simp; omega)]
  simp only [consR_ok, Res.bind_ok, rng1_ok (n := 6) (by decide)]
  refine Is.bind (loopN_inv (fun i (z : List (List Int) × Pl) => z.1.length ≤ 4 + 2 * i ∧ (∀ x ∈ z.1, x.length ≤ 21) ∧ PI_ z.2) ⟨by simp, ?_, hp⟩ fun i x z hx hz => ?_) fun z hz => ?_
  · intro x hx
    simp only [List.mem_cons, List.not_mem_nil, or_false] at hx
    rcases hx with rfl | rfl | rfl | rfl
    · rw [List.length_map]; omega
    · rw [cut_last, List.length_dropLast]; omega
    · simp; omega
    · rw [List.length_map]; omega
  · obtain ⟨hz1, hz2, hz3⟩ := hz
    have hi : i < 6 := by
      have h1 := mem_rangeL.mp (List.mem_of_getElem? hx)
      have h2 := rangeL_get hx
      omega
    simp only [rLen_eq, rGt_eq, ifR_ok, bin_ok]
    refine Is.if_ (fun hpos => ?_) fun _ => ⟨by dsimp only; omega, hz2, hz3⟩
    have hpos := of_decide_eq_true hpos
    obtain ⟨k, ek, hk, pk⟩ := take_ok (n := (w.length : Int)) hz3 hpos (by omega)
    have hk2 : k.1.toNat < P.length := by omega
    have ewk := ix_getD (xs := w) (i := k.1) (d := ((0, 0) : Wish)) hk.1 hk.2
    have epk := ix_getD (xs := P) (i := k.1) (d := (0 : Int)) hk.1 (by omega)
    obtain ⟨m, em, hm, pm⟩ := take_ok (n := 6) pk (by decide) (by decide)
    obtain ⟨u, eu, _⟩ := ix_get (xs := [-2, -1, (w.getD k.1.toNat (0, 0)).1 - 1, (w.getD k.1.toNat (0, 0)).1, (w.getD k.1.toNat (0, 0)).2 - 1, (w.getD k.1.toNat (0, 0)).2]) hm.1 (by simpa using hm.2)
    simp only [callM_ok, ek, Res.bind_ok, ewk, un_ok, rSub_eq, bin_ok, consR_ok, binM_eq, liftM_ok, em, eu, cut_lo hk.1, cut_hi (show 0 ≤ k.1 + 1 by omega), slR_ok, someR_ok, rAdd_eq, rNeg_eq]
    rw [rCatR_ok (by rw [List.length_take]; simp; omega)]
    simp only [bin_ok, Res.bind_ok]
    rw [rCatR_ok (by rw [List.length_append, List.length_take, List.length_drop]; simp; omega)]
    simp only [Res.bind_ok]
    rw [push_ok (by omega)]
    simp only [Res.bind_ok, rng1_ok (n := (w.length : Int)) (by omega)]
    have en : filR (fun (x_111 : Int) => ((un (fun p => Res.ok p.1) (ix w x_111)).bind fun a => (ix P k.1).bind fun b => (rLe a b).bind fun k => if k = true then (un (fun p => Res.ok p.2) (ix w x_111)).bind fun c => rLt b c else Res.ok false)) (fun (x_111 : Int) => (Res.ok x_111)) (rangeL 0 (w.length : Int)) =
        .ok ((rangeL 0 (w.length : Int)).filter fun x => decide ((w.getD x.toNat (0, 0)).1 ≤ P.getD k.1.toNat 0) && decide (P.getD k.1.toNat 0 < (w.getD x.toNat (0, 0)).2)) := filR_id fun x hx => by
      have hx := mem_rangeL.mp hx
      rw [ix_getD (d := ((0, 0) : Wish)) hx.1 hx.2, epk]
      simp only [un_ok, Res.bind_ok, rLe_eq, rLt_eq]
      cases decide ((w.getD x.toNat (0, 0)).1 ≤ P.getD k.1.toNat 0) <;> rfl
    rw [en]
    have hnear : ∀ x ∈ (rangeL 0 (w.length : Int)).filter fun x => decide ((w.getD x.toNat (0, 0)).1 ≤ P.getD k.1.toNat 0) && decide (P.getD k.1.toNat 0 < (w.getD x.toNat (0, 0)).2), 0 ≤ x ∧ x < (w.length : Int) := fun x hx => mem_rangeL.mp (List.mem_filter.mp hx).1
    generalize ((rangeL 0 (w.length : Int)).filter fun x => decide ((w.getD x.toNat (0, 0)).1 ≤ P.getD k.1.toNat 0) && decide (P.getD k.1.toNat 0 < (w.getD x.toNat (0, 0)).2)) = near at hnear
    obtain ⟨t, et, ht, pt⟩ := take_ok (n := 8) pm (by decide) (by decide)
    simp only [Res.bind_ok, idR_eq, slM_eq, liftM_ok, unM_eq, callM_ok, et, cut_lo ht.1]
    refine Is.bind (loopN_inv' (fun z : List Int × Pl => z.1.length = P.length ∧ PI_ z.2) ⟨rfl, pt⟩ fun y q hy hq => ?_) fun q hq => ?_
    · have hy := hnear y (List.mem_of_mem_take hy)
      rw [epk, Res.bind_ok, setR_nat hy.1 (by have := hq.1; omega)]
      exact ⟨by dsimp only; rw [List.length_set]; exact hq.1, hq.2⟩
    · rw [push_ok (by rw [List.length_append]; simp; omega)]
      refine ⟨by simp; omega, fun y hy => ?_, hq.2⟩
      rcases List.mem_append.mp hy with hy | hy
      · rcases List.mem_append.mp hy with hy | hy
        · exact hz2 y hy
        · rw [List.mem_singleton.mp hy, List.length_append, List.length_append, List.length_take, List.length_drop]
          simp
          omega
      · rw [List.mem_singleton.mp hy]
        have := hq.1
        omega
  · exact ⟨hz.2.1, hz.2.2⟩
theorem is_int_eq (i : Int) : m__law_is_int i = .ok true := rfl
theorem filR_none {α : Type} {p : α → Res Bool} {xs : List α} (h : ∀ x, x ∈ xs → p x = .ok false) : filR p (fun x => .ok x) xs = .ok [] := by
  rw [filR_id (q := fun _ => false) h]
  simp
theorem law_true (ns : List Int) (hns : ns.length ≤ 63) : m_law ns = .ok true := by
  refine Is.eq ?_
  unfold m_law
  have p0 : PI_ (0, 0, 0, cut ns none (some 63)) := ⟨Int.le_refl _, Int.le_refl _⟩
  obtain ⟨d, ed, hd, pd⟩ := from_ok (lo := 1) (hi := 5) p0 (by decide) (by decide)
  obtain ⟨w, ew, hw, pw⟩ := (wishes_is hd.1 hd.2 pd).get
  have sm := small_of (d := d.1) (by omega) hd.2
  obtain ⟨P, HP, eP⟩ := phone_ok (d := d.1) hw (by omega) hd.2
  have dn : ((d.1.toNat : Nat) : Int) = d.1 := by omega
  have hr := edf_right HP
  rw [dn] at hr
  have lP := HP.len
  have e1 : mapR (fun (x_71 : (Int × Int)) => (Res.ok x_71.1)) w.1 = .ok (w.1.map fun x => x.1) := mapR_ok fun _ _ => rfl
  have e2 : filR (fun x_101 => un notR (m__law_is_int x_101)) (fun x_101 => Res.ok x_101) P = .ok [] := filR_none fun _ _ => rfl
  simp only [poolR_eq, Res.bind_ok, pair_ok, callM_ok, ed, ew, un_ok, lfc_eq sm, idR_eq, notR_eq, bin_ok, neR_eq, Bool.not_true, e1]
  have hj : ∃ told, m_phone_paper w.1 d.1 = .ok told ∧ ((fc w.1 d.1 = none ∧ told = (("plan" : Str), (Sum.inl P : List Int ⊕ Option (Int × Int))) ∧ -1 ∉ P) ∨ ∃ s e, fc w.1 d.1 = some (s, e) ∧ told = (("crowd" : Str), (Sum.inr (some (s, e)) : List Int ⊕ Option (Int × Int))) ∧ s < e ∧ d.1 * (e - s) < cnt w.1 s e) := by
    cases hf : fc w.1 d.1 with
    | none =>
      have hn : -1 ∉ P := edf_all HP hw.2 fun s e h0 h1 h2 => by
        rw [dn]
        exact fc_none hf h0 h1 h2
      rw [if_neg hn] at eP
      exact ⟨_, eP, .inl ⟨rfl, rfl, hn⟩⟩
    | some c =>
      obtain ⟨s, e⟩ := c
      obtain ⟨h0, h1, h2, h3⟩ := fc_some hf
      have hm : -1 ∈ P := edf_crowd HP h0 h1 (by rw [dn]; exact h3)
      rw [if_pos hm, hf] at eP
      exact ⟨_, eP, .inr ⟨s, e, rfl, rfl, h1, h3⟩⟩
  obtain ⟨told, et, ht⟩ := hj
  simp only [et, Res.bind_ok, un_ok, notR_eq, bin_ok, neR_eq, decide_true, Bool.not_true, orR_ok, Bool.or_self, ifR_ok, if_neg Bool.false_ne_true, isNone_eq]
  refine Is.bind (Q := fun o => ∃ Z : List Int, o = Out.nx Z ∧ Z.length = w.1.length) ?_ ?_
  · rcases ht with ⟨hf, rfl, hn⟩ | ⟨s, e, hf, rfl, hse, hc⟩
    · simp only [hf, Option.isNone_none, if_pos, decide_true, Bool.not_true, isX_inl, orR_ok, un_ok, getL_eq, Res.bind_ok, e2, rLen_eq, List.length_nil, bin_ok, rGt_eq, ifR_ok, idR_eq]
      simp only [is_right_eq w.1 (d := d.1) P (by have := hw.1; omega), hr, is_plan_eq hw, un_ok, notR_eq, bin_ok, rNeg_eq, inR_eq, orR_ok, ifR_ok, neR_eq, push_ok (xs := P) (x := 0) (by have := hw.1; omega), Res.bind_ok, inlR_eq, pair_ok, decide_true, Bool.not_true, hn, decide_false, Bool.or_self, if_neg Bool.false_ne_true]
      exact ⟨P, rfl, lP⟩
    · simp only [hf, Option.isNone_some, Bool.false_eq_true, if_false, decide_true, Bool.not_true, isX_inr, isO_some, inrR_eq, bin_ok, neR_eq, orR_ok, Bool.or_self, ifR_ok, if_neg Bool.false_ne_true, getR_eq, getO_some, un_ok, is_int_eq, notR_eq, pair_ok, is_crowd_eq hw sm, hse, hc, Bool.and_self]
      exact ⟨_, rfl, by rw [List.length_map]⟩
  · rintro o ⟨Z, rfl, hZ⟩
    dsimp only
    obtain ⟨b, eb, hb, pb⟩ := (changed_is hw hZ pw).get
    simp only [eb, Res.bind_ok]
    refine Is.bind (loopR_inv (J := PI_) pb fun x y hx hy => ?_) ?_
    · simp only [is_plan_eq hw, Res.bind_ok, is_right_eq w.1 (d := d.1) x (by have := hb x hx; omega), bin_ok, neR_eq, decide_true, Bool.not_true, orR_ok, Bool.or_self, ifR_ok, if_neg Bool.false_ne_true]
      exact ⟨y, rfl, hy⟩
    · rintro o ⟨y, rfl, hy⟩
      dsimp only
      simp only [rng1_ok (n := 10) (by decide), Res.bind_ok]
      refine Is.bind (loopR_inv (J := PI_) hy fun x q hx hq => ?_) ?_
      · obtain ⟨a1, e3, _, p1⟩ := take_ok (n := 61) hq (by decide) (by decide)
        obtain ⟨a2, e4, _, p2⟩ := take_ok (n := 61) p1 (by decide) (by decide)
        simp only [e3, e4, Res.bind_ok, rLt_eq, rLen_eq, bin_ok, rGt_eq, andR_ok, ifR_ok]
        refine Is.bind (Q := fun z : Pl × Int × Int => PI_ z.1) ?_ fun z hz => ?_
        · refine Is.if_ (fun h => ?_) fun _ => p2
          have h := of_decide_eq_true (Bool.and_eq_true_iff.mp h).2
          have hl := hw.1
          obtain ⟨a3, e5, h5, p3⟩ := take_ok (n := (w.1.length : Int)) p2 h (by omega)
          obtain ⟨a4, e6, h6, p4⟩ := take_ok (n := (w.1.length : Int)) p3 h (by omega)
          obtain ⟨x1, e7, _⟩ := ix_get h5.1 h5.2
          obtain ⟨x2, e8, _⟩ := ix_get h6.1 h6.2
          simp only [unM_eq, binM_eq, liftM_ok, callM_ok, e5, e6, e7, e8, Res.bind_ok]
          exact p4
        · simp only [is_crowd_eq hw sm, Res.bind_ok, linside_eq, rSub_eq, bin_ok, rMul_ok (.inl sm), rGt_eq, andR_ok, decide_true, Bool.not_true, Bool.or_self, ifR_ok, if_neg Bool.false_ne_true]
          exact ⟨z.1, rfl, hz⟩
      · rintro o ⟨y, rfl, hy⟩
        dsimp only
        obtain ⟨r, er, hr⟩ := (refused_right_is hw hy).get
        simp only [andM_eq, liftM_ok, eqR_eq, bin_ok, decide_true, Res.bind_ok, if_pos, callM_ok, er]
        exact hr

end K82
set_option maxHeartbeats 0
namespace K82
open PySem PySem.Spec PyProof.Rows L2 Sd
def dd0 : He.DefD := ⟨("check_wishes", none), "check_wishes", "check_wishes", defArgs s_check_wishes, defBody s_check_wishes, defScope s_check_wishes, [], []⟩
def dd1 : He.DefD := ⟨("is_plan", none), "is_plan", "is_plan", defArgs s_is_plan, defBody s_is_plan, defScope s_is_plan, [], []⟩
def dd2 : He.DefD := ⟨("inside", none), "inside", "inside", defArgs s_inside, defBody s_inside, defScope s_inside, [], []⟩
def dd3 : He.DefD := ⟨("is_crowd", none), "is_crowd", "is_crowd", defArgs s_is_crowd, defBody s_is_crowd, defScope s_is_crowd, [], []⟩
def dd4 : He.DefD := ⟨("earliest_plan", none), "earliest_plan", "earliest_plan", defArgs s_earliest_plan, defBody s_earliest_plan, defScope s_earliest_plan, [], []⟩
def dd5 : He.DefD := ⟨("first_crowd", none), "first_crowd", "first_crowd", defArgs s_first_crowd, defBody s_first_crowd, defScope s_first_crowd, [], []⟩
def dd6 : He.DefD := ⟨("phone_paper", none), "phone_paper", "phone_paper", defArgs s_phone_paper, defBody s_phone_paper, defScope s_phone_paper, [], []⟩
def dd7 : He.DefD := ⟨("_law_mix", none), "_law_mix", "_law_mix", defArgs s__law_mix, defBody s__law_mix, defScope s__law_mix, [], []⟩
def dd8 : He.DefD := ⟨("_law_pool", none), "_law_pool", "_law_pool", defArgs s__law_pool, defBody s__law_pool, defScope s__law_pool, [], []⟩
def dd9 : He.DefD := ⟨("_law_fill", none), "_law_fill", "_law_fill", defArgs s__law_fill, defBody s__law_fill, defScope s__law_fill, [], []⟩
def dd10 : He.DefD := ⟨("_law_take", none), "_law_take", "_law_take", defArgs s__law_take, defBody s__law_take, defScope s__law_take, [], []⟩
def dd11 : He.DefD := ⟨("_law_from", none), "_law_from", "_law_from", defArgs s__law_from, defBody s__law_from, defScope s__law_from, [], []⟩
def dd12 : He.DefD := ⟨("_law_wishes", none), "_law_wishes", "_law_wishes", defArgs s__law_wishes, defBody s__law_wishes, defScope s__law_wishes, [], []⟩
def dd13 : He.DefD := ⟨("_law_inside", none), "_law_inside", "_law_inside", defArgs s__law_inside, defBody s__law_inside, defScope s__law_inside, [], []⟩
def dd14 : He.DefD := ⟨("_law_first_crowd", none), "_law_first_crowd", "_law_first_crowd", defArgs s__law_first_crowd, defBody s__law_first_crowd, defScope s__law_first_crowd, [], []⟩
def dd15 : He.DefD := ⟨("_law_is_int", none), "_law_is_int", "_law_is_int", defArgs s__law_is_int, defBody s__law_is_int, defScope s__law_is_int, [], []⟩
def dd16 : He.DefD := ⟨("_law_is_right_plan", none), "_law_is_right_plan", "_law_is_right_plan", defArgs s__law_is_right_plan, defBody s__law_is_right_plan, defScope s__law_is_right_plan, [], []⟩
def dd17 : He.DefD := ⟨("_law_changed_plans", none), "_law_changed_plans", "_law_changed_plans", defArgs s__law_changed_plans, defBody s__law_changed_plans, defScope s__law_changed_plans, [], []⟩
def dd18 : He.DefD := ⟨("_law_refused", none), "_law_refused", "_law_refused", defArgs s__law_refused, defBody s__law_refused, defScope s__law_refused, [], []⟩
def dd19 : He.DefD := ⟨("_law_refused_right", none), "_law_refused_right", "_law_refused_right", defArgs s__law_refused_right, defBody s__law_refused_right, defScope s__law_refused_right, [], []⟩
def dd20 : He.DefD := ⟨("law", none), "law", "law", defArgs s_law, defBody s_law, defScope s_law, [], []⟩
def dd21 : He.DefD := ⟨("DeskError", some "__init__"), "__init__", "DeskError.__init__", defArgs s_err, defBody s_err, defScope s_err, [.int 0], []⟩
def dfs : List He.DefD := [dd0, dd1, dd2, dd3, dd4, dd5, dd6, dd7, dd8, dd9, dd10, dd11, dd12, dd13, dd14, dd15, dd16, dd17, dd18, dd19, dd20, dd21]
def fas : List He.Fa := [.glo "check_wishes", .glo "is_plan", .glo "inside", .glo "is_crowd", .glo "earliest_plan", .glo "first_crowd", .glo "phone_paper", .glo "_law_mix", .glo "_law_pool", .glo "_law_fill", .glo "_law_take", .glo "_law_from", .glo "_law_wishes", .glo "_law_inside", .glo "_law_first_crowd", .glo "_law_is_int", .glo "_law_is_right_plan", .glo "_law_changed_plans", .glo "_law_refused", .glo "_law_refused_right", .glo "law", .free "bool", .free "enumerate", .free "int", .free "isinstance", .free "len", .free "list", .free "min", .free "range", .free "sorted", .free "tuple", .free "zip", .int "LAST_MINUTE" (60), .int "MOST_WISHES" (20)]
def exB (K : PySem.W.Frag) : Bool := errsB [.DeskError, .TooMany, .BadPair] K
abbrev R : PySem.W.OpenRow := PySem.W.OpenLaw.row PySem.Challenge.rw_stormdesk_k82_whole_plan_or_crowd
abbrev hk : PySem.W.Hook := He.hookX 6 fas dfs [] [] exB
def ob (s : PySem.W.SharedT) : He.AlX := He.obsX 6 fas dfs [] [] exB (HandSHeadRun.getT s)
theorem ob_eq (s : PySem.W.SharedT) : ob s = hk.obs s.abs := He.obsX_eq (HandSHeadRun.getT_eq s)
def lo0 : List PySem.Str := ["DeskError", "TooMany", "BadPair", "MOST_WISHES", "LAST_MINUTE", "check_wishes", "is_plan", "inside", "is_crowd", "earliest_plan", "first_crowd", "phone_paper", "_law_mix", "_law_pool", "_law_fill", "_law_take", "_law_from", "_law_wishes", "_law_inside", "_law_first_crowd", "_law_is_int", "_law_is_right_plan", "_law_changed_plans", "_law_refused", "_law_refused_right"]
abbrev lo : List PySem.Str := lo0
theorem run (w : World) : HandSHeadRun.RunEq R (PySem.W.view R.prog [28]) hk ob 6000 lo w := by
  intro os
  kernel_rfl
theorem mk {K : PySem.W.Frag} {w : World} {h : Heap} {mg : Str → Option Value} (X : K.In h) (G : h.Ns mainGlobals mg) (c : He.SaysX fas dfs [] [] exB w h K) : ∃ T : Tx K mg, T.f_law = He.ga K "law" := by
  obtain ⟨d0, F0⟩ := c.t.d.def_ 0 (d := dd0) rfl
  obtain ⟨d1, F1⟩ := c.t.d.def_ 1 (d := dd1) rfl
  obtain ⟨d2, F2⟩ := c.t.d.def_ 2 (d := dd2) rfl
  obtain ⟨d3, F3⟩ := c.t.d.def_ 3 (d := dd3) rfl
  obtain ⟨d4, F4⟩ := c.t.d.def_ 4 (d := dd4) rfl
  obtain ⟨d5, F5⟩ := c.t.d.def_ 5 (d := dd5) rfl
  obtain ⟨d6, F6⟩ := c.t.d.def_ 6 (d := dd6) rfl
  obtain ⟨d7, F7⟩ := c.t.d.def_ 7 (d := dd7) rfl
  obtain ⟨d8, F8⟩ := c.t.d.def_ 8 (d := dd8) rfl
  obtain ⟨d9, F9⟩ := c.t.d.def_ 9 (d := dd9) rfl
  obtain ⟨d10, F10⟩ := c.t.d.def_ 10 (d := dd10) rfl
  obtain ⟨d11, F11⟩ := c.t.d.def_ 11 (d := dd11) rfl
  obtain ⟨d12, F12⟩ := c.t.d.def_ 12 (d := dd12) rfl
  obtain ⟨d13, F13⟩ := c.t.d.def_ 13 (d := dd13) rfl
  obtain ⟨d14, F14⟩ := c.t.d.def_ 14 (d := dd14) rfl
  obtain ⟨d15, F15⟩ := c.t.d.def_ 15 (d := dd15) rfl
  obtain ⟨d16, F16⟩ := c.t.d.def_ 16 (d := dd16) rfl
  obtain ⟨d17, F17⟩ := c.t.d.def_ 17 (d := dd17) rfl
  obtain ⟨d18, F18⟩ := c.t.d.def_ 18 (d := dd18) rfl
  obtain ⟨d19, F19⟩ := c.t.d.def_ 19 (d := dd19) rfl
  obtain ⟨d20, F20⟩ := c.t.d.def_ 20 (d := dd20) rfl
  obtain ⟨d21, F21⟩ := c.t.d.def_ 21 (d := dd21) rfl
  obtain ⟨e1, e2, e3⟩ := errsB_ok X G (show errsB [.DeskError, .TooMany, .BadPair] K = true from c.more)
  exact ⟨{ f_check_wishes := He.ga K "check_wishes", d_check_wishes := d0, F_check_wishes := F0, g_check_wishes := He.glo_ok X G (c.t.d.fact 0 (f := .glo "check_wishes") rfl), f_is_plan := He.ga K "is_plan", d_is_plan := d1, F_is_plan := F1, g_is_plan := He.glo_ok X G (c.t.d.fact 1 (f := .glo "is_plan") rfl), f_inside := He.ga K "inside", d_inside := d2, F_inside := F2, g_inside := He.glo_ok X G (c.t.d.fact 2 (f := .glo "inside") rfl), f_is_crowd := He.ga K "is_crowd", d_is_crowd := d3, F_is_crowd := F3, g_is_crowd := He.glo_ok X G (c.t.d.fact 3 (f := .glo "is_crowd") rfl), f_earliest_plan := He.ga K "earliest_plan", d_earliest_plan := d4, F_earliest_plan := F4, g_earliest_plan := He.glo_ok X G (c.t.d.fact 4 (f := .glo "earliest_plan") rfl), f_first_crowd := He.ga K "first_crowd", d_first_crowd := d5, F_first_crowd := F5, g_first_crowd := He.glo_ok X G (c.t.d.fact 5 (f := .glo "first_crowd") rfl), f_phone_paper := He.ga K "phone_paper", d_phone_paper := d6, F_phone_paper := F6, g_phone_paper := He.glo_ok X G (c.t.d.fact 6 (f := .glo "phone_paper") rfl), f__law_mix := He.ga K "_law_mix", d__law_mix := d7, F__law_mix := F7, g__law_mix := He.glo_ok X G (c.t.d.fact 7 (f := .glo "_law_mix") rfl), f__law_pool := He.ga K "_law_pool", d__law_pool := d8, F__law_pool := F8, g__law_pool := He.glo_ok X G (c.t.d.fact 8 (f := .glo "_law_pool") rfl), f__law_fill := He.ga K "_law_fill", d__law_fill := d9, F__law_fill := F9, g__law_fill := He.glo_ok X G (c.t.d.fact 9 (f := .glo "_law_fill") rfl), f__law_take := He.ga K "_law_take", d__law_take := d10, F__law_take := F10, g__law_take := He.glo_ok X G (c.t.d.fact 10 (f := .glo "_law_take") rfl), f__law_from := He.ga K "_law_from", d__law_from := d11, F__law_from := F11, g__law_from := He.glo_ok X G (c.t.d.fact 11 (f := .glo "_law_from") rfl), f__law_wishes := He.ga K "_law_wishes", d__law_wishes := d12, F__law_wishes := F12, g__law_wishes := He.glo_ok X G (c.t.d.fact 12 (f := .glo "_law_wishes") rfl), f__law_inside := He.ga K "_law_inside", d__law_inside := d13, F__law_inside := F13, g__law_inside := He.glo_ok X G (c.t.d.fact 13 (f := .glo "_law_inside") rfl), f__law_first_crowd := He.ga K "_law_first_crowd", d__law_first_crowd := d14, F__law_first_crowd := F14, g__law_first_crowd := He.glo_ok X G (c.t.d.fact 14 (f := .glo "_law_first_crowd") rfl), f__law_is_int := He.ga K "_law_is_int", d__law_is_int := d15, F__law_is_int := F15, g__law_is_int := He.glo_ok X G (c.t.d.fact 15 (f := .glo "_law_is_int") rfl), f__law_is_right_plan := He.ga K "_law_is_right_plan", d__law_is_right_plan := d16, F__law_is_right_plan := F16, g__law_is_right_plan := He.glo_ok X G (c.t.d.fact 16 (f := .glo "_law_is_right_plan") rfl), f__law_changed_plans := He.ga K "_law_changed_plans", d__law_changed_plans := d17, F__law_changed_plans := F17, g__law_changed_plans := He.glo_ok X G (c.t.d.fact 17 (f := .glo "_law_changed_plans") rfl), f__law_refused := He.ga K "_law_refused", d__law_refused := d18, F__law_refused := F18, g__law_refused := He.glo_ok X G (c.t.d.fact 18 (f := .glo "_law_refused") rfl), f__law_refused_right := He.ga K "_law_refused_right", d__law_refused_right := d19, F__law_refused_right := F19, g__law_refused_right := He.glo_ok X G (c.t.d.fact 19 (f := .glo "_law_refused_right") rfl), f_law := He.ga K "law", d_law := d20, F_law := F20, g_law := He.glo_ok X G (c.t.d.fact 20 (f := .glo "law") rfl), gb_bool := He.free_ok X G (c.t.d.fact 21 (f := .free "bool") rfl), gb_enumerate := He.free_ok X G (c.t.d.fact 22 (f := .free "enumerate") rfl), gb_int := He.free_ok X G (c.t.d.fact 23 (f := .free "int") rfl), gb_isinstance := He.free_ok X G (c.t.d.fact 24 (f := .free "isinstance") rfl), gb_len := He.free_ok X G (c.t.d.fact 25 (f := .free "len") rfl), gb_list := He.free_ok X G (c.t.d.fact 26 (f := .free "list") rfl), gb_min := He.free_ok X G (c.t.d.fact 27 (f := .free "min") rfl), gb_range := He.free_ok X G (c.t.d.fact 28 (f := .free "range") rfl), gb_sorted := He.free_ok X G (c.t.d.fact 29 (f := .free "sorted") rfl), gb_tuple := He.free_ok X G (c.t.d.fact 30 (f := .free "tuple") rfl), gb_zip := He.free_ok X G (c.t.d.fact 31 (f := .free "zip") rfl), gi_LAST_MINUTE := He.int_ok X G (c.t.d.fact 32 (f := .int "LAST_MINUTE" (60)) rfl), gi_MOST_WISHES := He.int_ok X G (c.t.d.fact 33 (f := .int "MOST_WISHES" (20)) rfl), f_err := He.fAd K ("DeskError", some "__init__"), d_err := d21, F_err := F21, xs := fun c h => e1 c (of_decide_eq_true h), ki := fun c b h h2 => e2 c b (of_decide_eq_true h) (of_decide_eq_true h2), ex := fun c b h h2 => e3 c b (of_decide_eq_true h) (of_decide_eq_true h2) }, rfl⟩
end K82
open PySem PySem.W PySem.Calls PyProof.Rows
theorem PySem.Challenge.cw_stormdesk_k82_whole_plan_or_crowd_holds : PySem.Challenge.rw_stormdesk_k82_whole_plan_or_crowd.Holds := by
  w_on; o_law
  refine HandSHeadRun.head_any (r := OpenLaw.row PySem.Challenge.rw_stormdesk_k82_whole_plan_or_crowd) (q := view (OpenLaw.row PySem.Challenge.rw_stormdesk_k82_whole_plan_or_crowd).prog [28]) (H := K82.hk) (ob := K82.ob) (M := 6000) (loose := K82.lo) (d := HandSHeadRun.topDef (OpenLaw.row PySem.Challenge.rw_stormdesk_k82_whole_plan_or_crowd).prog 28) (kwd := []) K82.ob_eq
    (by kernel_rfl) (fun s => by kernel_rfl) K82.run (by kernel_rfl) (by kernel_rfl) (by kernel_rfl) (by rfl) (by first | assumption | decide +kernel) (by decide +kernel) ⟨rfl, rfl, rfl, rfl, rfl, by decide +kernel⟩ ?hw ?hc
  case hw => w_witness2
  case hc =>
    refine L2.walk_ofE (l := PySem.Challenge.rw_stormdesk_k82_whole_plan_or_crowd) (n := 63) (k := 7) (x := "script") (CX := L2.CX0) rfl (by decide) (by kernel_rfl) ⟨rfl, by decide, by decide⟩ ?F (fun _ _ _ _ z => z)
    intro w mg fa h Y G hmg0
    obtain ⟨K, KX, c⟩ := Y
    have hmg : mg ("law" : PySem.Str) = some (.ref fa) := by
      have e : (HandSHeadRun.topDef (OpenLaw.row PySem.Challenge.rw_stormdesk_k82_whole_plan_or_crowd).prog 28).name = ("law" : PySem.Str) := by kernel_rfl
      rw [← e]
      exact hmg0
    obtain ⟨T, hT⟩ := K82.mk KX G c
    have e := hmg.symm.trans T.g_law
    have e2 : fa = T.f_law := by
      have e3 := Option.some.inj e
      injection e3
    subst e2
    have b := L2.FunD.bindsA (ps := ["script"]) T.F_law fun _ _ _ _ _ _ us hl => match us, hl with | [_], _ => rfl
    exact ⟨K, T.d_law, Sd.spLaw K K82.m_law, KX, fun s v => b s [v] rfl, fun H a ns hl _ hS => ⟨a, ns, rfl, hS, Nat.le_trans hl (by decide), by rw [K82.law_true ns hl]; exact fun v H' hv => hv⟩, fun base _ _ => K82.ok_law T⟩

