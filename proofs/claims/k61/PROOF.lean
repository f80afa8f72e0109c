import PyProof.Rows.All
import Wide.All
import OpenK.AllK
import Wide.FinOn
import HandS.ForMost
import HandS.ForExc
import HandS.Walk
import HandS.Sort
import HandS.SortRule
import HandS.SortInts
import HandS.Flow
import HandS.IsInst
import HandS.Gcd
import HandS.ExcInit
import HandS.ExcIs
import HandS.ExcField
import HandS.TryOnly
import HandS.Defaults
import HandS.TupAny
import HandS.Conv
import HandS.Style
import HandS.HeadHook4
import HandS.HeadEnd
import HandS.Head2
import HandS.Evl
import HandS.Wide
import HandS.Head3
import PyProof.StrOps2
import KE.GoesMore
import HandS.HotCalls
import PySem.Challenge.RW_stormdesk_k61_stretches_and_hours
set_option Elab.async false
set_option linter.all false
set_option maxRecDepth 100000
set_option maxHeartbeats 4000000
namespace Sd
open PySem L2
/-! ### results -/
inductive Ec where
  | DeskError | TooMany | BadName | BadRatio | BadSpan | BadLine | BadWorld | BadArea | BadGauge | BadRun | BadTable | BadSignals | Unlike
  | BadPerson | BadCall | BadTree | BadRule | BadDeed | NoBulletin | BadPair | Unplayable
  deriving DecidableEq, Repr
inductive Res (α : Type) where
  | ok (a : α)
  | exc (c : Ec) (i : Int)
  | bad
namespace Res
variable {α β γ : Type}
def bind (m : Res α) (k : α → Res β) : Res β := match m with
  | .ok a => k a
  | .exc c i => .exc c i
  | .bad => .bad
@[simp] theorem bind_ok (a : α) (k : α → Res β) : (Res.ok a).bind k = k a := rfl
@[simp] theorem bind_exc (c : Ec) (i : Int) (k : α → Res β) : (Res.exc c i).bind k = .exc c i := rfl
@[simp] theorem bind_bad (k : α → Res β) : (Res.bad).bind k = .bad := rfl
@[simp] theorem bind_assoc (m : Res α) (k : α → Res β) (l : β → Res γ) : (m.bind k).bind l = m.bind fun a => (k a).bind l := by cases m <;> rfl
@[simp] theorem bind_id (m : Res α) : m.bind .ok = m := by cases m <;> rfl
end Res
/-- what is wanted of a result -/
def Post {α : Type} (m : Res α) (Q : α → Prop) (X : Ec → Int → Prop) : Prop := match m with
  | .ok a => Q a
  | .exc c i => X c i
  | .bad => False
section
variable {α β : Type} {m : Res α} {k : α → Res β} {Q Q' : α → Prop} {R : β → Prop} {X X' : Ec → Int → Prop}
theorem Post.bind (h : Post (m.bind k) R X) : Post m (fun a => Post (k a) R X) X := by
  cases m with
  | ok a => exact h
  | exc c i => exact h
  | bad => exact h
theorem Post.of_bind (h : Post m (fun a => Post (k a) R X) X) : Post (m.bind k) R X := by
  cases m with
  | ok a => exact h
  | exc c i => exact h
  | bad => exact h
theorem Post.mono (h : Post m Q X) (q : ∀ a, Q a → Q' a) (x : ∀ c i, X c i → X' c i) : Post m Q' X' := by
  cases m with
  | ok a => exact q a h
  | exc c i => exact x c i h
  | bad => exact h
theorem Post.and (h : Post m Q X) (h' : Post m Q' X) : Post m (fun a => Q a ∧ Q' a) X := by
  cases m with
  | ok a => exact ⟨h, h'⟩
  | exc c i => exact h
  | bad => exact h
end
/-! ### the heap: what is known for good (I), what may change (C) -/
abbrev Ex (H H' : Hp) : Prop := ∀ a o, H a = some o → H' a = some o
theorem Ex.refl (H : Hp) : Ex H H := fun _ _ h => h
theorem Ex.trans {H H1 H2 : Hp} (a : Ex H H1) (b : Ex H1 H2) : Ex H H2 := fun x o h => b x o (a x o h)
theorem Ex.new {H : Hp} {p : Addr} {o : HO} (h : H p = none) : Ex H (upd H p o) := fun a u e => by
  rw [upd_ne (ne_of_none e h)]
  exact e
structure St (I C H : Hp) : Prop where
  i : Ex I H
  c : Ex C H
  s : ∀ a, I a = none ∨ C a = none
theorem Ex.free {H H' : Hp} {p : Addr} (e : Ex H H') (h : H' p = none) : H p = none := by
  cases q : H p with
  | none => rfl
  | some o =>
    rw [e p o q] at h
    cases h
section
variable {I I' C C' H H' : Hp} {p : Addr} {o u : HO}
/-- a new object, known for good -/
theorem St.newI (s : St I C H) (h : H p = none) : St (upd I p o) C (upd H p o) := by
  refine ⟨fun a v e => ?_, fun a v e => ?_, fun a => ?_⟩
  · by_cases q : a = p
    · subst q
      rw [upd_same] at e ⊢
      exact e
    · rw [upd_ne q] at e ⊢
      exact s.i a v e
  · rw [upd_ne (ne_of_none (s.c a v e) h)]
    exact s.c a v e
  · by_cases q : a = p
    · subst q
      exact .inr (s.c.free h)
    · rw [upd_ne q]
      exact s.s a
/-- a new object that may change -/
theorem St.newC (s : St I C H) (h : H p = none) : St I (upd C p o) (upd H p o) := by
  refine ⟨fun a v e => ?_, fun a v e => ?_, fun a => ?_⟩
  · rw [upd_ne (ne_of_none (s.i a v e) h)]
    exact s.i a v e
  · by_cases q : a = p
    · subst q
      rw [upd_same] at e ⊢
      exact e
    · rw [upd_ne q] at e ⊢
      exact s.c a v e
  · by_cases q : a = p
    · subst q
      exact .inl (s.i.free h)
    · rw [upd_ne q]
      exact s.s a
/-- a cell changes -/
theorem St.set (s : St I C H) (h : C p = some u) : St I (upd C p o) (upd H p o) := by
  have hi : I p = none := (s.s p).elim id fun z => by
    rw [z] at h
    cases h
  refine ⟨fun a v e => ?_, fun a v e => ?_, fun a => ?_⟩
  · rw [upd_ne (ne_of_none e hi)]
    exact s.i a v e
  · by_cases q : a = p
    · subst q
      rw [upd_same] at e ⊢
      exact e
    · rw [upd_ne q] at e ⊢
      exact s.c a v e
  · by_cases q : a = p
    · subst q
      exact .inl hi
    · rw [upd_ne q]
      exact s.s a
/-- a cell is known for good from now on -/
theorem St.frz (s : St I C H) (h : C p = some o) : St (upd I p o) (fun a => if a = p then none else C a) H := by
  refine ⟨fun a v e => ?_, fun a v e => ?_, fun a => ?_⟩
  · by_cases q : a = p
    · subst q
      rw [upd_same] at e
      cases e
      exact s.c a o h
    · rw [upd_ne q] at e
      exact s.i a v e
  · by_cases q : a = p
    · rw [if_pos q] at e
      cases e
    · rw [if_neg q] at e
      exact s.c a v e
  · by_cases q : a = p
    · exact .inr (if_pos q)
    · rw [upd_ne q, if_neg q]
      exact s.s a
theorem St.less (s : St I C H) (e : Ex C' C) : St I C' H := ⟨s.i, e.trans s.c, fun a => (s.s a).imp id fun z => e.free z⟩
theorem St.freeI (s : St I C H) (h : C p = some u) : I p = none := (s.s p).elim id fun z => by
  rw [z] at h
  cases h
end
/-! ### representation -/
structure Rp (α : Type) where
  r : α → V → Hp → Hp → Prop
  mono : ∀ {a : α} {v : V} {I I' C C' : Hp}, Ex I I' → Ex C C' → r a v I C → r a v I' C'
/-- .. by what is known for good alone -/
class Im {α : Type} (R : Rp α) : Prop where
  im : ∀ {a : α} {v : V} {I C C' : Hp}, R.r a v I C → R.r a v I C'
theorem Rp.to {α : Type} (R : Rp α) [Im R] {a : α} {v : V} {I I' C C' : Hp} (e : Ex I I') (h : R.r a v I C) : R.r a v I' C' := Im.im (R.mono e (Ex.refl C) h)
/-- item by item -/
inductive A2 {α : Type} (f : α → V → Prop) : List α → List V → Prop where
  | nil : A2 f [] []
  | cons {x : α} {v : V} {xs : List α} {vs : List V} : f x v → A2 f xs vs → A2 f (x :: xs) (v :: vs)
section
variable {α β : Type} {f g : α → V → Prop} {xs ys : List α} {vs ws : List V}
theorem A2.imp (h : ∀ x v, f x v → g x v) : ∀ {xs : List α} {vs : List V}, A2 f xs vs → A2 g xs vs
  | _, _, .nil => .nil
  | _, _, .cons r t => .cons (h _ _ r) (A2.imp h t)
theorem A2.len : ∀ {xs : List α} {vs : List V}, A2 f xs vs → vs.length = xs.length
  | _, _, .nil => rfl
  | _, _, .cons _ t => by rw [List.length_cons, List.length_cons, A2.len t]
theorem A2.get : ∀ {xs : List α} {vs : List V} {i : Nat} {v : V}, A2 f xs vs → vs[i]? = some v → ∃ x, xs[i]? = some x ∧ f x v
  | _, _, _, _, .nil, e => by cases e
  | _, _, 0, _, .cons r _, e => ⟨_, rfl, by
    have e2 := Option.some.inj e
    rw [← e2]
    exact r⟩
  | _, _, i + 1, _, .cons _ t, e => A2.get (i := i) t e
theorem A2.get' : ∀ {xs : List α} {vs : List V} {i : Nat} {x : α}, A2 f xs vs → xs[i]? = some x → ∃ v, vs[i]? = some v ∧ f x v
  | _, _, _, _, .nil, e => by cases e
  | _, _, 0, _, .cons r _, e => ⟨_, rfl, by
    have e2 := Option.some.inj e
    rw [← e2]
    exact r⟩
  | _, _, i + 1, _, .cons _ t, e => A2.get' (i := i) t e
theorem A2.append : ∀ {xs : List α} {vs : List V} {ys : List α} {ws : List V}, A2 f xs vs → A2 f ys ws → A2 f (xs ++ ys) (vs ++ ws)
  | _, _, _, _, .nil, s => s
  | _, _, _, _, .cons r t, s => .cons r (A2.append t s)
theorem A2.take : ∀ {xs : List α} {vs : List V} (n : Nat), A2 f xs vs → A2 f (xs.take n) (vs.take n)
  | _, _, 0, _ => .nil
  | _, _, _ + 1, .nil => .nil
  | _, _, n + 1, .cons r t => .cons r (A2.take n t)
theorem A2.drop : ∀ {xs : List α} {vs : List V} (n : Nat), A2 f xs vs → A2 f (xs.drop n) (vs.drop n)
  | _, _, 0, r => r
  | _, _, _ + 1, .nil => .nil
  | _, _, n + 1, .cons _ t => A2.drop n t
theorem A2.set {x : α} {v : V} (r : f x v) : ∀ {xs : List α} {vs : List V} (i : Nat), A2 f xs vs → A2 f (xs.set i x) (vs.set i v)
  | _, _, _, .nil => .nil
  | _, _, 0, .cons _ t => .cons r t
  | _, _, i + 1, .cons q t => .cons q (A2.set r i t)
theorem A2.dropLast : ∀ {xs : List α} {vs : List V}, A2 f xs vs → A2 f xs.dropLast vs.dropLast
  | _, _, .nil => .nil
  | _, _, .cons _ .nil => .nil
  | _, _, .cons r (.cons q t) => .cons r (A2.dropLast (.cons q t))
theorem A2.one {x : α} {v : V} (h : f x v) : A2 f [x] [v] := .cons h .nil
/-- scalars: the values are a map -/
theorem A2.map_iff {h : α → V} (hf : ∀ x v, f x v → v = h x) : ∀ {xs : List α} {vs : List V}, A2 f xs vs → vs = xs.map h
  | _, _, .nil => rfl
  | _, _, .cons r t => by rw [List.map_cons, hf _ _ r, A2.map_iff hf t]
theorem A2.of_map {h : α → V} (hf : ∀ x, f x (h x)) : ∀ xs : List α, A2 f xs (xs.map h)
  | [] => .nil
  | x :: r => .cons (hf x) (A2.of_map hf r)
end
def pI : Rp Int := ⟨fun i v _ _ => v = .int i, fun _ _ h => h⟩
def pB : Rp Bool := ⟨fun b v _ _ => v = .bl b, fun _ _ h => h⟩
def pS : Rp Str := ⟨fun x v _ _ => v = .str x ∧ PyData.strOk x = true, fun _ _ h => h⟩
def pN : Rp Unit := ⟨fun _ v _ _ => v = .non, fun _ _ h => h⟩
instance : Im pI := ⟨fun h => h⟩
instance : Im pB := ⟨fun h => h⟩
instance : Im pS := ⟨fun h => h⟩
instance : Im pN := ⟨fun h => h⟩
def oR {α : Type} (R : Rp α) (I C : Hp) : Option α → V → Prop
  | none, v => v = .non
  | some a, v => R.r a v I C ∧ v ≠ .non
def pO {α : Type} (R : Rp α) : Rp (Option α) := ⟨fun o v I C => oR R I C o v, fun {a v I I' C C'} e e' h => by
  cases a with
  | none => exact h
  | some a => exact ⟨R.mono e e' h.1, h.2⟩⟩
instance {α : Type} {R : Rp α} [Im R] : Im (pO R) := ⟨fun {a v I C C'} h => by
  cases a with
  | none => exact h
  | some a => exact ⟨Im.im h.1, h.2⟩⟩
theorem ex_l {K : PySem.W.Frag} {H H' : Hp} {a : Addr} {xs : List V} (e : Ex H H') (h : SqL K H a xs) : SqL K H' a xs := by
  rcases h with (h | ⟨o, h⟩) | h
  · exact .inl (.inl (e a _ h))
  · exact .inl (.inr ⟨o, e a _ h⟩)
  · exact .inr h
theorem ex_t {K : PySem.W.Frag} {H H' : Hp} {a : Addr} {xs : List V} (e : Ex H H') (h : SqT K H a xs) : SqT K H' a xs := by
  rcases h with (h | ⟨o, h⟩) | h
  · exact .inl (.inl (e a _ h))
  · exact .inl (.inr ⟨o, e a _ h⟩)
  · exact .inr h
/-- the places of a row of values -/
structure Rt (α : Type) where
  r : α → List V → Hp → Hp → Prop
  mono : ∀ {a : α} {vs : List V} {I I' C C' : Hp}, Ex I I' → Ex C C' → r a vs I C → r a vs I' C'
  n : Nat
  len : ∀ {a : α} {vs : List V} {I C : Hp}, r a vs I C → vs.length = n
class It {α : Type} (T : Rt α) : Prop where
  im : ∀ {a : α} {vs : List V} {I C C' : Hp}, T.r a vs I C → T.r a vs I C'
def t1 {α : Type} (R : Rp α) : Rt α := ⟨fun a vs I C => ∃ v, vs = [v] ∧ R.r a v I C, fun e e' ⟨v, h1, h2⟩ => ⟨v, h1, R.mono e e' h2⟩, 1, fun ⟨_, h, _⟩ => by rw [h]; rfl⟩
def tc {α β : Type} (R : Rp α) (T : Rt β) : Rt (α × β) := ⟨fun p vs I C => ∃ v us, vs = v :: us ∧ R.r p.1 v I C ∧ T.r p.2 us I C, fun e e' ⟨v, us, h1, h2, h3⟩ => ⟨v, us, h1, R.mono e e' h2, T.mono e e' h3⟩, T.n + 1,
  fun ⟨_, _, h, _, h3⟩ => by rw [h, List.length_cons, T.len h3]⟩
instance {α : Type} {R : Rp α} [Im R] : It (t1 R) := ⟨fun ⟨v, h1, h2⟩ => ⟨v, h1, Im.im h2⟩⟩
instance {α β : Type} {R : Rp α} {T : Rt β} [Im R] [It T] : It (tc R T) := ⟨fun ⟨v, us, h1, h2, h3⟩ => ⟨v, us, h1, Im.im h2, It.im h3⟩⟩
section
variable (K : PySem.W.Frag) {α : Type}
/-- a list -/
def pL (R : Rp α) : Rp (List α) := ⟨fun xs v I C => ∃ a vs, v = .ref a ∧ I a = some (.lst vs) ∧ vs.length ≤ sizeLine ∧ A2 (fun x u => R.r x u I C) xs vs,
  fun e e' ⟨a, vs, h1, h2, h3, h4⟩ => ⟨a, vs, h1, e a _ h2, h3, h4.imp fun _ _ => R.mono e e'⟩⟩
/-- a tuple of any length -/
def pQ (R : Rp α) : Rp (List α) := ⟨fun xs v I C => ∃ a vs, v = .ref a ∧ SqT K I a vs ∧ vs.length ≤ sizeLine ∧ A2 (fun x u => R.r x u I C) xs vs,
  fun e e' ⟨a, vs, h1, h2, h3, h4⟩ => ⟨a, vs, h1, ex_t e h2, h3, h4.imp fun _ _ => R.mono e e'⟩⟩
/-- a list that is read: known for good, or a cell -/
def pV (R : Rp α) : Rp (List α) := ⟨fun xs v I C => ∃ a vs, v = .ref a ∧ (I a = some (.lst vs) ∨ C a = some (.lst vs)) ∧ vs.length ≤ sizeLine ∧ A2 (fun x u => R.r x u I C) xs vs,
  fun e e' ⟨a, vs, h1, h2, h3, h4⟩ => ⟨a, vs, h1, h2.imp (e a _) (e' a _), h3, h4.imp fun _ _ => R.mono e e'⟩⟩
/-- the script -/
def pW (R : Rp α) : Rp (List α) := ⟨fun xs v I C => ∃ a vs, v = .ref a ∧ SqL K I a vs ∧ vs.length ≤ sizeLine ∧ A2 (fun x u => R.r x u I C) xs vs,
  fun e e' ⟨a, vs, h1, h2, h3, h4⟩ => ⟨a, vs, h1, ex_l e h2, h3, h4.imp fun _ _ => R.mono e e'⟩⟩
/-- a tuple, a list, with fixed places -/
def pT (T : Rt α) : Rp α := ⟨fun x v I C => ∃ a vs, v = .ref a ∧ I a = some (.tup vs) ∧ T.r x vs I C, fun e e' ⟨a, vs, h1, h2, h3⟩ => ⟨a, vs, h1, e a _ h2, T.mono e e' h3⟩⟩
/-- a tuple that may stand in the written part -/
def pU (T : Rt α) : Rp α := ⟨fun x v I C => ∃ a vs, v = .ref a ∧ SqT K I a vs ∧ T.r x vs I C, fun e e' ⟨a, vs, h1, h2, h3⟩ => ⟨a, vs, h1, ex_t e h2, T.mono e e' h3⟩⟩
def pD (T : Rt α) : Rp α := ⟨fun x v I C => ∃ a vs, v = .ref a ∧ I a = some (.lst vs) ∧ T.r x vs I C, fun e e' ⟨a, vs, h1, h2, h3⟩ => ⟨a, vs, h1, e a _ h2, T.mono e e' h3⟩⟩
instance {T : Rt α} [It T] : Im (pU K T) := ⟨fun ⟨a, vs, h1, h2, h3⟩ => ⟨a, vs, h1, h2, It.im h3⟩⟩
instance {R : Rp α} [Im R] : Im (pW K R) := ⟨fun ⟨a, vs, h1, h2, h3, h4⟩ => ⟨a, vs, h1, h2, h3, h4.imp fun _ _ => Im.im⟩⟩
instance {R : Rp α} [Im R] : Im (pL R) := ⟨fun ⟨a, vs, h1, h2, h3, h4⟩ => ⟨a, vs, h1, h2, h3, h4.imp fun _ _ => Im.im⟩⟩
instance {R : Rp α} [Im R] : Im (pQ K R) := ⟨fun ⟨a, vs, h1, h2, h3, h4⟩ => ⟨a, vs, h1, h2, h3, h4.imp fun _ _ => Im.im⟩⟩
instance {T : Rt α} [It T] : Im (pT T) := ⟨fun ⟨a, vs, h1, h2, h3⟩ => ⟨a, vs, h1, h2, It.im h3⟩⟩
instance {T : Rt α} [It T] : Im (pD T) := ⟨fun ⟨a, vs, h1, h2, h3⟩ => ⟨a, vs, h1, h2, It.im h3⟩⟩
end
/-- the k-th place of such a row, its reading f -/
def Pj {α β : Type} (T : Rt α) (k : Nat) (f : α → β) (R : Rp β) : Prop := ∀ x vs I C, T.r x vs I C → ∃ w, vs[k]? = some w ∧ R.r (f x) w I C
theorem pj1 {α : Type} {R : Rp α} : Pj (t1 R) 0 (fun x => x) R := fun x vs I C ⟨v, h1, h2⟩ => ⟨v, by rw [h1]; rfl, h2⟩
theorem pj0 {α β : Type} {R : Rp α} {T : Rt β} : Pj (tc R T) 0 (fun x => x.1) R := fun x vs I C ⟨v, us, h1, h2, _⟩ => ⟨v, by rw [h1]; rfl, h2⟩
theorem pjs {α β γ : Type} {R : Rp α} {T : Rt β} {S : Rp γ} {k : Nat} {f : β → γ} (h : Pj T k f S) : Pj (tc R T) (k + 1) (fun x => f x.2) S := fun x vs I C ⟨v, us, h1, _, h3⟩ => by
  obtain ⟨w, e, r⟩ := h x.2 us I C h3
  exact ⟨w, by rw [h1]; exact e, r⟩
/-- the k-th place stored -/
def Pk {α β : Type} (T : Rt α) (k : Nat) (g : α → β → α) (R : Rp β) : Prop := ∀ x vs I C b w, T.r x vs I C → R.r b w I C → T.r (g x b) (vs.set k w) I C ∧ k < vs.length
theorem pk1 {α : Type} {R : Rp α} : Pk (t1 R) 0 (fun _ b => b) R := fun x vs I C b w ⟨v, h1, h2⟩ r => by
  subst h1
  exact ⟨⟨w, rfl, r⟩, Nat.zero_lt_one⟩
theorem pk0 {α β : Type} {R : Rp α} {T : Rt β} : Pk (tc R T) 0 (fun x b => (b, x.2)) R := fun x vs I C b w ⟨v, us, h1, h2, h3⟩ r => by
  subst h1
  exact ⟨⟨w, us, rfl, r, h3⟩, Nat.succ_pos _⟩
theorem pks {α β γ : Type} {R : Rp α} {T : Rt β} {S : Rp γ} {k : Nat} {g : β → γ → β} (h : Pk T k g S) : Pk (tc R T) (k + 1) (fun x b => (x.1, g x.2 b)) S := fun x vs I C b w ⟨v, us, h1, h2, h3⟩ r => by
  subst h1
  obtain ⟨q, l⟩ := h x.2 us I C b w h3 r
  exact ⟨⟨v, us.set k w, rfl, h2, q⟩, Nat.succ_lt_succ l⟩

/-! ### what an expression gives -/
def Ec.name : Ec → Str
  | .DeskError => "DeskError" | .TooMany => "TooMany" | .BadName => "BadName" | .BadRatio => "BadRatio" | .BadSpan => "BadSpan" | .BadLine => "BadLine"
  | .BadWorld => "BadWorld" | .BadArea => "BadArea" | .BadGauge => "BadGauge" | .BadRun => "BadRun" | .BadTable => "BadTable" | .BadSignals => "BadSignals"
  | .Unlike => "Unlike" | .BadPerson => "BadPerson" | .BadCall => "BadCall" | .BadTree => "BadTree" | .BadRule => "BadRule" | .BadDeed => "BadDeed"
  | .NoBulletin => "NoBulletin" | .BadPair => "BadPair" | .Unplayable => "Unplayable"
/-- what is wanted of an error that leaves: E, where all stands as it was -/
def PX (E : XK) (K : PySem.W.Frag) (I C : Hp) (c : Ec) (i : Int) : Prop := ∀ d I2 H2, Ex I I2 → St I2 C H2 → I2 d = some (.xd [(("at" : Str), .int i)]) → E (.ref (He.ga K c.name)) (some d) H2
theorem PX.mono {E : XK} {K : PySem.W.Frag} {I I' C C' : Hp} {c : Ec} {i : Int} (e : Ex I I') (e' : Ex C C') (h : PX E K I C c i) : PX E K I' C' c i := fun d I2 H2 a s q => h d I2 H2 (e.trans a) (s.less e') q
abbrev PQ {α : Type} (R : Rp α) (I C : Hp) (Q : VK) (a : α) : Prop := ∀ v I2 H2, Ex I I2 → St I2 C H2 → R.r a v I2 C → Q v H2
def EvX (E : XK) (K : PySem.W.Frag) (te : TE) (σ : L2.St) (I C : Hp) {α : Type} (m : Res α) (R : Rp α) : Prop :=
  ∀ I1 C1 H1, Ex I I1 → Ex C C1 → St I1 C1 H1 → ∀ Q : VK, Post m (PQ R I1 C1 Q) (PX E K I1 C1) → te σ H1 Q
def EvT (E : XK) (K : PySem.W.Frag) (tt : TT) (σ : L2.St) (I C : Hp) (m : Res Bool) : Prop :=
  ∀ I1 C1 H1, Ex I I1 → Ex C C1 → St I1 C1 H1 → ∀ Q : Bool → Hp → Prop, Post m (fun b => ∀ I2 H2, Ex I1 I2 → St I2 C1 H2 → Q b H2) (PX E K I1 C1) → tt σ H1 Q
def EvA (E : XK) (K : PySem.W.Frag) (ta : TA) (σ : L2.St) (I C : Hp) {α : Type} (m : Res α) (T : Rt α) : Prop :=
  ∀ I1 C1 H1, Ex I I1 → Ex C C1 → St I1 C1 H1 → ∀ Q : List V → Hp → Prop, Post m (fun a => ∀ vs I2 H2, Ex I1 I2 → St I2 C1 H2 → T.r a vs I2 C1 → Q vs H2) (PX E K I1 C1) → ta σ H1 Q
/-- a rule on values -/
def Op1 (E : XK) (K : PySem.W.Frag) (r : V → Hp → VK → Prop) {α γ : Type} (f : α → Res γ) (R : Rp α) (T : Rp γ) : Prop :=
  ∀ I C H a x, St I C H → R.r a x I C → ∀ Q : VK, Post (f a) (PQ T I C Q) (PX E K I C) → r x H Q
def Op2 (E : XK) (K : PySem.W.Frag) (r : R2) {α β γ : Type} (f : α → β → Res γ) (R : Rp α) (S : Rp β) (T : Rp γ) : Prop :=
  ∀ I C H a b x y, St I C H → R.r a x I C → S.r b y I C → ∀ Q : VK, Post (f a b) (PQ T I C Q) (PX E K I C) → r x y H Q
def OpL (E : XK) (K : PySem.W.Frag) (r : List V → Hp → VK → Prop) {α γ : Type} (f : α → Res γ) (R : Rt α) (T : Rp γ) : Prop :=
  ∀ I C H a vs, St I C H → R.r a vs I C → ∀ Q : VK, Post (f a) (PQ T I C Q) (PX E K I C) → r vs H Q
def un {α γ : Type} (f : α → Res γ) (m : Res α) : Res γ := m.bind f
def bin {α β γ : Type} (f : α → β → Res γ) (m : Res α) (n : Res β) : Res γ := m.bind fun a => n.bind fun b => f a b
def pair {α β : Type} (m : Res α) (n : Res β) : Res (α × β) := m.bind fun a => n.bind fun b => .ok (a, b)
@[simp] theorem un_ok {α γ : Type} (f : α → Res γ) (a : α) : un f (.ok a) = f a := rfl
@[simp] theorem bin_ok {α β γ : Type} (f : α → β → Res γ) (a : α) (b : β) : bin f (.ok a) (.ok b) = f a b := rfl
@[simp] theorem pair_ok {α β : Type} (a : α) (b : β) : pair (.ok a) (.ok b) = .ok (a, b) := rfl
section
variable {E : XK} {K : PySem.W.Frag} {σ : L2.St} {I I' C C' : Hp} {α β γ : Type} {m : Res α} {n : Res β} {R : Rp α} {S : Rp β} {T : Rp γ} {ta tb te : TE} {tt tu : TT}
theorem EvX.mono (e : Ex I I') (e' : Ex C C') (h : EvX E K te σ I C m R) : EvX E K te σ I' C' m R := fun I1 C1 H1 a b s Q q => h I1 C1 H1 (e.trans a) (e'.trans b) s Q q
theorem PQ.ret {I1 C1 H1 : Hp} {Q : VK} {a : α} {v : V} (q : PQ R I1 C1 Q a) (s : St I1 C1 H1) (r : R.r a v I1 C1) : Q v H1 := q v I1 H1 (Ex.refl _) s r
theorem x_var {i : Nat} {v : V} {a : α} (h : σ[i]? = some (some v)) (r : R.r a v I C) : EvX E K (tVar i) σ I C (.ok a) R := fun I1 C1 H1 e e' s Q q => ⟨v, h, PQ.ret (R := R) (a := a) q s (R.mono e e' r)⟩
theorem x_c {v : V} {a : α} (r : ∀ I C, R.r a v I C) : EvX E K (tC v) σ I C (.ok a) R := fun I1 C1 H1 e e' s Q q => PQ.ret (R := R) (a := a) q s (r _ _)
theorem x_int {i : Int} : EvX E K (tC (.int i)) σ I C (.ok i) pI := x_c fun _ _ => rfl
theorem x_bl {b : Bool} : EvX E K (tC (.bl b)) σ I C (.ok b) pB := x_c fun _ _ => rfl
theorem x_str {x : Str} (h : PyData.strOk x = true) : EvX E K (tC (.str x)) σ I C (.ok x) pS := x_c fun _ _ => ⟨rfl, h⟩
theorem x_non : EvX E K (tC .non) σ I C (.ok ()) pN := x_c fun _ _ => rfl
theorem x_un {r : V → Hp → VK → Prop} {f : α → Res γ} (hr : Op1 E K r f R T) (h : EvX E K ta σ I C m R) : EvX E K (tUn r ta) σ I C (un f m) T := fun I1 C1 H1 e e' s Q q =>
  h I1 C1 H1 e e' s _ ((Post.bind q).mono (fun a p v I2 H2 e2 s2 rv => hr I2 C1 H2 a v s2 rv Q (p.mono (fun c z w I3 H3 e3 s3 rw => z w I3 H3 (e2.trans e3) s3 rw) fun c i z => z.mono e2 (Ex.refl _))) fun _ _ z => z)
theorem x_op {r : R2} {f : α → β → Res γ} (hr : Op2 E K r f R S T) (h1 : EvX E K ta σ I C m R) (h2 : EvX E K tb σ I C n S) : EvX E K (tOp r ta tb) σ I C (bin f m n) T := fun I1 C1 H1 e e' s Q q =>
  h1 I1 C1 H1 e e' s _ ((Post.bind q).mono (fun a p x I2 H2 e2 s2 rx =>
    h2 I2 C1 H2 (e.trans e2) e' s2 _ ((Post.bind p).mono (fun b p2 y I3 H3 e3 s3 ry =>
      hr I3 C1 H3 a b x y s3 (R.mono e3 (Ex.refl _) rx) ry Q (p2.mono (fun c z w I4 H4 e4 s4 rw => z w I4 H4 (e2.trans (e3.trans e4)) s4 rw) fun c i z => z.mono (e2.trans e3) (Ex.refl _))) fun c i z => z.mono e2 (Ex.refl _)))
    fun _ _ z => z)
theorem a_nil : EvA E K tNil σ I C (.ok ()) (⟨fun _ vs _ _ => vs = [], fun _ _ h => h, 0, fun h => by rw [h]; rfl⟩ : Rt Unit) := fun I1 C1 H1 e e' s Q q => q [] I1 H1 (Ex.refl _) s rfl
theorem a_one (h : EvX E K ta σ I C m R) : EvA E K (tCons ta tNil) σ I C m (t1 R) := fun I1 C1 H1 e e' s Q q =>
  h I1 C1 H1 e e' s _ (q.mono (fun a p v I2 H2 e2 s2 rv => p [v] I2 H2 e2 s2 ⟨v, rfl, rv⟩) fun _ _ z => z)
theorem a_cons {tr : TA} {T : Rt β} (h1 : EvX E K ta σ I C m R) (h2 : EvA E K tr σ I C n T) : EvA E K (tCons ta tr) σ I C (pair m n) (tc R T) := fun I1 C1 H1 e e' s Q q =>
  h1 I1 C1 H1 e e' s _ ((Post.bind q).mono (fun a p x I2 H2 e2 s2 rx =>
    h2 I2 C1 H2 (e.trans e2) e' s2 _ ((Post.bind p).mono (fun b p2 ys I3 H3 e3 s3 ry => p2 (x :: ys) I3 H3 (e2.trans e3) s3 ⟨x, ys, rfl, R.mono e3 (Ex.refl _) rx, ry⟩) fun c i z => z.mono e2 (Ex.refl _)))
    fun _ _ z => z)
theorem x_cb {r : List V → Hp → VK → Prop} {f : α → Res γ} {A : Rt α} {tr : TA} (hr : OpL E K r f A T) (h : EvA E K tr σ I C m A) : EvX E K (tCB r tr) σ I C (un f m) T := fun I1 C1 H1 e e' s Q q =>
  h I1 C1 H1 e e' s _ ((Post.bind q).mono (fun a p vs I2 H2 e2 s2 rv => hr I2 C1 H2 a vs s2 rv Q (p.mono (fun c z w I3 H3 e3 s3 rw => z w I3 H3 (e2.trans e3) s3 rw) fun c i z => z.mono e2 (Ex.refl _))) fun _ _ z => z)
/-- tuples, lists with fixed places -/
theorem x_tup {A : Rt α} {tr : TA} (h : EvA E K tr σ I C m A) (hn : A.n ≤ 100) : EvX E K (tTup tr) σ I C m (pT A) := fun I1 C1 H1 e e' s Q q =>
  h I1 C1 H1 e e' s _ (q.mono (fun a p vs I2 H2 e2 s2 rv => ⟨by rw [A.len rv]; exact Nat.le_trans hn (by decide), fun t ht => p _ (upd I2 t (.tup vs)) _ (e2.trans (Ex.new (s2.i.free ht))) (s2.newI ht) ⟨t, vs, rfl, upd_same, A.mono (Ex.new (s2.i.free ht)) (Ex.refl _) rv⟩⟩) fun _ _ z => z)
theorem x_lstD {A : Rt α} {tr : TA} (h : EvA E K tr σ I C m A) (hn : A.n ≤ 100) : EvX E K (tLst tr) σ I C m (pD A) := fun I1 C1 H1 e e' s Q q =>
  h I1 C1 H1 e e' s _ (q.mono (fun a p vs I2 H2 e2 s2 rv => ⟨by rw [A.len rv]; exact Nat.le_trans hn (by decide), fun t ht => p _ (upd I2 t (.lst vs)) _ (e2.trans (Ex.new (s2.i.free ht))) (s2.newI ht) ⟨t, vs, rfl, upd_same, A.mono (Ex.new (s2.i.free ht)) (Ex.refl _) rv⟩⟩) fun _ _ z => z)
/-- a row of things of one kind -/
def tL (R : Rp α) (n : Nat) : Rt (List α) := ⟨fun xs vs I C => vs.length = n ∧ A2 (fun x u => R.r x u I C) xs vs, fun e e' ⟨h1, h2⟩ => ⟨h1, h2.imp fun _ _ => R.mono e e'⟩, n, fun h => h.1⟩
def consR (m : Res α) (n : Res (List α)) : Res (List α) := m.bind fun a => n.bind fun b => .ok (a :: b)
theorem al_nil : EvA E K tNil σ I C (.ok []) (tL R 0) := fun I1 C1 H1 e e' s Q q => q [] I1 H1 (Ex.refl _) s ⟨rfl, .nil⟩
theorem al_cons {tr : TA} {k : Nat} {n : Res (List α)} (h1 : EvX E K ta σ I C m R) (h2 : EvA E K tr σ I C n (tL R k)) : EvA E K (tCons ta tr) σ I C (consR m n) (tL R (k + 1)) := fun I1 C1 H1 e e' s Q q =>
  h1 I1 C1 H1 e e' s _ ((Post.bind q).mono (fun a p x I2 H2 e2 s2 rx =>
    h2 I2 C1 H2 (e.trans e2) e' s2 _ ((Post.bind p).mono (fun b p2 ys I3 H3 e3 s3 ry => p2 (x :: ys) I3 H3 (e2.trans e3) s3 ⟨by rw [List.length_cons, ry.1], .cons (R.mono e3 (Ex.refl _) rx) ry.2⟩) fun c i z => z.mono e2 (Ex.refl _)))
    fun _ _ z => z)
theorem x_lst {k : Nat} {m : Res (List α)} {tr : TA} (h : EvA E K tr σ I C m (tL R k)) (hn : k ≤ 100) : EvX E K (tLst tr) σ I C m (pL R) := fun I1 C1 H1 e e' s Q q =>
  h I1 C1 H1 e e' s _ (q.mono (fun a p vs I2 H2 e2 s2 rv => by
    have hl : vs.length ≤ sizeLine := by
      rw [rv.1]
      exact Nat.le_trans hn (by decide)
    exact ⟨hl, fun t ht => p _ (upd I2 t (.lst vs)) _ (e2.trans (Ex.new (s2.i.free ht))) (s2.newI ht) ⟨t, vs, rfl, upd_same, hl, rv.2.imp fun _ _ => R.mono (Ex.new (s2.i.free ht)) (Ex.refl _)⟩⟩) fun _ _ z => z)
/-- a list as one that is read -/
theorem x_v {m : Res (List α)} (h : EvX E K te σ I C m (pL R)) : EvX E K te σ I C m (pV R) := fun I1 C1 H1 e e' s Q q =>
  h I1 C1 H1 e e' s Q (q.mono (fun a p v I2 H2 e2 s2 ⟨a, vs, h1, h2, h3, h4⟩ => p v I2 H2 e2 s2 ⟨a, vs, h1, .inl h2, h3, h4⟩) fun _ _ z => z)
theorem x_is' {β : Type} {T : Rt β} {tr : TA} {m m' : Res β} (h : EvA E K tr σ I C m T) (e : m = m') : EvA E K tr σ I C m' T := e ▸ h
theorem x_is {m' : Res α} (h : EvX E K te σ I C m R) (e : m = m') : EvX E K te σ I C m' R := e ▸ h
/-! tests -/
theorem t_test {m : Res Bool} (h : EvX E K te σ I C m pB) : EvT E K (tTest te) σ I C m := fun I1 C1 H1 e e' s Q q => h I1 C1 H1 e e' s _ (q.mono (fun b p v I2 H2 e2 s2 rv => ⟨b, rv, p I2 H2 e2 s2⟩) fun _ _ z => z)
theorem t_B {m : Res Bool} (h : EvX E K te σ I C m pB) : EvT E K (tB te) σ I C m := fun I1 C1 H1 e e' s Q q => h I1 C1 H1 e e' s _ (q.mono (fun b p v I2 H2 e2 s2 rv => ⟨b, rv, p I2 H2 e2 s2⟩) fun _ _ z => z)
def andR (m n : Res Bool) : Res Bool := m.bind fun b => if b = true then n else .ok false
def orR (m n : Res Bool) : Res Bool := m.bind fun b => if b = true then .ok true else n
def notR (b : Bool) : Res Bool := .ok (!b)
@[simp] theorem andR_ok (a b : Bool) : andR (.ok a) (.ok b) = .ok (a && b) := by cases a <;> rfl
@[simp] theorem orR_ok (a b : Bool) : orR (.ok a) (.ok b) = .ok (a || b) := by cases a <;> rfl
@[simp] theorem andR_true (m : Res Bool) : andR (.ok true) m = m := rfl
@[simp] theorem andR_false (m : Res Bool) : andR (.ok false) m = .ok false := rfl
@[simp] theorem orR_true (m : Res Bool) : orR (.ok true) m = .ok true := rfl
@[simp] theorem orR_false (m : Res Bool) : orR (.ok false) m = m := rfl
@[simp] theorem notR_eq (b : Bool) : notR b = .ok (!b) := rfl
theorem t_and {m n : Res Bool} (h1 : EvT E K tt σ I C m) (h2 : EvT E K tu σ I C n) : EvT E K (tAnd tt tu) σ I C (andR m n) := fun I1 C1 H1 e e' s Q q =>
  h1 I1 C1 H1 e e' s _ ((Post.bind q).mono (fun b p I2 H2 e2 s2 => by
    cases b with
    | true => exact h2 I2 C1 H2 (e.trans e2) e' s2 Q (Post.mono (m := n) p (fun b z I3 H3 e3 s3 => z I3 H3 (e2.trans e3) s3) fun c i z => z.mono e2 (Ex.refl _))
    | false => exact p I2 H2 e2 s2) fun _ _ z => z)
theorem t_or {m n : Res Bool} (h1 : EvT E K tt σ I C m) (h2 : EvT E K tu σ I C n) : EvT E K (tOr tt tu) σ I C (orR m n) := fun I1 C1 H1 e e' s Q q =>
  h1 I1 C1 H1 e e' s _ ((Post.bind q).mono (fun b p I2 H2 e2 s2 => by
    cases b with
    | false => exact h2 I2 C1 H2 (e.trans e2) e' s2 Q (Post.mono (m := n) p (fun b z I3 H3 e3 s3 => z I3 H3 (e2.trans e3) s3) fun c i z => z.mono e2 (Ex.refl _))
    | true => exact p I2 H2 e2 s2) fun _ _ z => z)
theorem t_not {m : Res Bool} (h : EvT E K tt σ I C m) : EvT E K (tNot tt) σ I C (un notR m) := fun I1 C1 H1 e e' s Q q =>
  h I1 C1 H1 e e' s _ ((Post.bind q).mono (fun b p I2 H2 e2 s2 => p I2 H2 e2 s2) fun _ _ z => z)
theorem x_andV {m n : Res Bool} (h1 : EvX E K ta σ I C m pB) (h2 : EvX E K tb σ I C n pB) : EvX E K (tAndV ta tb) σ I C (andR m n) pB := fun I1 C1 H1 e e' s Q q =>
  h1 I1 C1 H1 e e' s _ ((Post.bind q).mono (fun b p v I2 H2 e2 s2 rv => ⟨b, rv, by
    cases b with
    | true => exact h2 I2 C1 H2 (e.trans e2) e' s2 Q (Post.mono (m := n) p (fun b z v I3 H3 e3 s3 => z v I3 H3 (e2.trans e3) s3) fun c i z => z.mono e2 (Ex.refl _))
    | false => exact p (.bl false) I2 H2 e2 s2 rfl⟩) fun _ _ z => z)
theorem x_orV {m n : Res Bool} (h1 : EvX E K ta σ I C m pB) (h2 : EvX E K tb σ I C n pB) : EvX E K (tOrV ta tb) σ I C (orR m n) pB := fun I1 C1 H1 e e' s Q q =>
  h1 I1 C1 H1 e e' s _ ((Post.bind q).mono (fun b p v I2 H2 e2 s2 rv => ⟨b, rv, by
    cases b with
    | false => exact h2 I2 C1 H2 (e.trans e2) e' s2 Q (Post.mono (m := n) p (fun b z v I3 H3 e3 s3 => z v I3 H3 (e2.trans e3) s3) fun c i z => z.mono e2 (Ex.refl _))
    | true => exact p (.bl true) I2 H2 e2 s2 rfl⟩) fun _ _ z => z)
theorem x_notV {m : Res Bool} (h : EvX E K te σ I C m pB) : EvX E K (tNotV te) σ I C (un notR m) pB := fun I1 C1 H1 e e' s Q q =>
  h I1 C1 H1 e e' s _ ((Post.bind q).mono (fun b p v I2 H2 e2 s2 rv => ⟨b, rv, p _ I2 H2 e2 s2 rfl⟩) fun _ _ z => z)
def ifR {α : Type} (c : Res Bool) (m n : Res α) : Res α := c.bind fun b => if b = true then m else n
@[simp] theorem ifR_ok {α : Type} (b : Bool) (m n : Res α) : ifR (.ok b) m n = if b = true then m else n := rfl
theorem x_if {c : Res Bool} {m n : Res α} (h : EvT E K tt σ I C c) (h1 : EvX E K ta σ I C m R) (h2 : EvX E K tb σ I C n R) : EvX E K (tIf tt ta tb) σ I C (ifR c m n) R := fun I1 C1 H1 e e' s Q q =>
  h I1 C1 H1 e e' s _ ((Post.bind q).mono (fun b p I2 H2 e2 s2 => by
    cases b with
    | true => exact h1 I2 C1 H2 (e.trans e2) e' s2 Q (Post.mono (m := m) p (fun b z v I3 H3 e3 s3 => z v I3 H3 (e2.trans e3) s3) fun c i z => z.mono e2 (Ex.refl _))
    | false => exact h2 I2 C1 H2 (e.trans e2) e' s2 Q (Post.mono (m := n) p (fun b z v I3 H3 e3 s3 => z v I3 H3 (e2.trans e3) s3) fun c i z => z.mono e2 (Ex.refl _))) fun _ _ z => z)
end
end Sd

namespace Sd
open PySem L2
/-! ### rules on values -/
section
variable {E : XK} {K : PySem.W.Frag} {α β γ : Type} {R : Rp α}
theorem PQ.now {I C H : Hp} {Q : VK} {a : α} {v : V} (q : PQ R I C Q a) (s : St I C H) (r : R.r a v I C) : Q v H := q v I H (Ex.refl _) s r
def rAdd (a b : Int) : Res Int := .ok (a + b)
def rSub (a b : Int) : Res Int := .ok (a - b)
@[irreducible] def rMul (a b : Int) : Res Int := if a.natAbs < 18446744073709551616 ∨ b.natAbs < 18446744073709551616 then .ok (a * b) else .bad
@[irreducible] def rMod (a b : Int) : Res Int := if 0 < b then .ok (a % b) else .bad
@[irreducible] def rDiv (a b : Int) : Res Int := if 0 < b ∧ b.natAbs < 1073741824 then .ok (a / b) else .bad
@[irreducible] def rPow (a b : Int) : Res Int := if 0 ≤ b ∧ b.natAbs ≤ 1000000 ∧ a.natAbs < 2 ^ 64 then .ok (a ^ b.toNat) else .bad
def rNeg (a : Int) : Res Int := .ok (-a)
@[simp] theorem rAdd_eq (a b : Int) : rAdd a b = .ok (a + b) := rfl
@[simp] theorem rSub_eq (a b : Int) : rSub a b = .ok (a - b) := rfl
@[simp] theorem rNeg_eq (a : Int) : rNeg a = .ok (-a) := rfl
theorem rMul_ok {a b : Int} (h : (-(2 ^ 64) < a ∧ a < 2 ^ 64) ∨ (-(2 ^ 64) < b ∧ b < 2 ^ 64)) : rMul a b = .ok (a * b) := by
  unfold rMul
  exact if_pos (by omega)
theorem rMod_ok {a b : Int} (h : 0 < b) : rMod a b = .ok (a % b) := by
  unfold rMod
  exact if_pos h
theorem rDiv_ok {a b : Int} (h : 0 < b ∧ b < 1073741824) : rDiv a b = .ok (a / b) := by
  unfold rDiv
  exact if_pos (by omega)
theorem rPow_ok {a b : Int} (h : 0 ≤ b ∧ b ≤ 1000000 ∧ a.natAbs < 2 ^ 64) : rPow a b = .ok (a ^ b.toNat) := by
  unfold rPow
  exact if_pos ⟨h.1, by omega, h.2.2⟩
theorem o_add : Op2 E K (rI0 fun i j => .int (i + j)) rAdd pI pI pI := fun I C H a b x y s hx hy Q q => ⟨a, b, hx, hy, PQ.now q s rfl⟩
theorem o_sub : Op2 E K (rI0 fun i j => .int (i - j)) rSub pI pI pI := fun I C H a b x y s hx hy Q q => ⟨a, b, hx, hy, PQ.now q s rfl⟩
theorem o_mul : Op2 E K (rI CMul fun i j => .int (i * j)) rMul pI pI pI := fun I C H a b x y s hx hy Q q => by
  unfold rMul at q
  split at q
  · rename_i h
    exact ⟨a, b, hx, hy, (show (-(2 ^ 64) < a ∧ a < 2 ^ 64) ∨ (-(2 ^ 64) < b ∧ b < 2 ^ 64) from by omega), PQ.now q s rfl⟩
  · exact q.elim
theorem o_mod : Op2 E K (rI (fun _ j => 0 < j) fun i j => .int (i % j)) rMod pI pI pI := fun I C H a b x y s hx hy Q q => by
  unfold rMod at q
  split at q
  · rename_i h
    exact ⟨a, b, hx, hy, h, PQ.now q s rfl⟩
  · exact q.elim
theorem o_fdiv : Op2 E K (rI CDiv fun i j => .int (i / j)) rDiv pI pI pI := fun I C H a b x y s hx hy Q q => by
  unfold rDiv at q
  split at q
  · rename_i h
    exact ⟨a, b, hx, hy, ⟨h.1, by omega⟩, PQ.now q s rfl⟩
  · exact q.elim
theorem o_pow : Op2 E K (rI CPow fun i j => .int (i ^ j.toNat)) rPow pI pI pI := fun I C H a b x y s hx hy Q q => by
  unfold rPow at q
  split at q
  · rename_i h
    exact ⟨a, b, hx, hy, ⟨h.1, by omega, h.2.2⟩, PQ.now q s rfl⟩
  · exact q.elim
theorem o_neg : Op1 E K (rU fun i => .int (-i)) rNeg pI pI := fun I C H a x s hx Q q => ⟨a, hx, PQ.now q s rfl⟩
/-! comparisons -/
def rLt (a b : Int) : Res Bool := .ok (decide (a < b))
def rLe (a b : Int) : Res Bool := .ok (decide (a ≤ b))
def rGt (a b : Int) : Res Bool := .ok (decide (b < a))
def rGe (a b : Int) : Res Bool := .ok (decide (b ≤ a))
@[simp] theorem rLt_eq (a b : Int) : rLt a b = .ok (decide (a < b)) := rfl
@[simp] theorem rLe_eq (a b : Int) : rLe a b = .ok (decide (a ≤ b)) := rfl
@[simp] theorem rGt_eq (a b : Int) : rGt a b = .ok (decide (b < a)) := rfl
@[simp] theorem rGe_eq (a b : Int) : rGe a b = .ok (decide (b ≤ a)) := rfl
theorem o_lt : Op2 E K (rI0 fun i j => .bl (decide (i < j))) rLt pI pI pB := fun I C H a b x y s hx hy Q q => ⟨a, b, hx, hy, PQ.now q s rfl⟩
theorem o_le : Op2 E K (rI0 fun i j => .bl (decide (i ≤ j))) rLe pI pI pB := fun I C H a b x y s hx hy Q q => ⟨a, b, hx, hy, PQ.now q s rfl⟩
theorem o_gt : Op2 E K (rI0 fun i j => .bl (decide (j < i))) rGt pI pI pB := fun I C H a b x y s hx hy Q q => ⟨a, b, hx, hy, PQ.now q s rfl⟩
theorem o_ge : Op2 E K (rI0 fun i j => .bl (decide (j ≤ i))) rGe pI pI pB := fun I C H a b x y s hx hy Q q => ⟨a, b, hx, hy, PQ.now q s rfl⟩
def eqR {α : Type} [DecidableEq α] (a b : α) : Res Bool := .ok (decide (a = b))
def neR {α : Type} [DecidableEq α] (a b : α) : Res Bool := .ok (!decide (a = b))
@[simp] theorem eqR_eq {α : Type} [DecidableEq α] (a b : α) : eqR a b = .ok (decide (a = b)) := rfl
@[simp] theorem neR_eq {α : Type} [DecidableEq α] (a b : α) : neR a b = .ok (!decide (a = b)) := rfl
theorem dec_congr {p q : Prop} [Decidable p] [Decidable q] (h : p ↔ q) : decide p = decide q := by
  by_cases hp : p
  · rw [decide_eq_true hp, decide_eq_true (h.mp hp)]
  · rw [decide_eq_false hp, decide_eq_false fun z => hp (h.mpr z)]
theorem o_eqI : Op2 E K rEq eqR pI pI pB := fun I C H a b x y s hx hy Q q => by
  subst hx hy
  exact ⟨rfl, PQ.now q s (congrArg V.bl (dec_congr ⟨fun h => V.int.inj h, fun h => by rw [h]⟩))⟩
theorem o_neI : Op2 E K rNe neR pI pI pB := fun I C H a b x y s hx hy Q q => by
  subst hx hy
  exact ⟨rfl, PQ.now q s (congrArg (fun z => V.bl (!z)) (dec_congr ⟨fun h => V.int.inj h, fun h => by rw [h]⟩))⟩
theorem o_eqB : Op2 E K rEq eqR pB pB pB := fun I C H a b x y s hx hy Q q => by
  subst hx hy
  exact ⟨rfl, PQ.now q s (congrArg V.bl (dec_congr ⟨fun h => V.bl.inj h, fun h => by rw [h]⟩))⟩
theorem o_neB : Op2 E K rNe neR pB pB pB := fun I C H a b x y s hx hy Q q => by
  subst hx hy
  exact ⟨rfl, PQ.now q s (congrArg (fun z => V.bl (!z)) (dec_congr ⟨fun h => V.bl.inj h, fun h => by rw [h]⟩))⟩
theorem o_eqS : Op2 E K rEq eqR pS pS pB := fun I C H a b x y s hx hy Q q => by
  obtain ⟨rfl, _⟩ := hx
  obtain ⟨rfl, _⟩ := hy
  exact ⟨rfl, PQ.now q s (congrArg V.bl (dec_congr ⟨fun h => V.str.inj h, fun h => by rw [h]⟩))⟩
theorem o_neS : Op2 E K rNe neR pS pS pB := fun I C H a b x y s hx hy Q q => by
  obtain ⟨rfl, _⟩ := hx
  obtain ⟨rfl, _⟩ := hy
  exact ⟨rfl, PQ.now q s (congrArg (fun z => V.bl (!z)) (dec_congr ⟨fun h => V.str.inj h, fun h => by rw [h]⟩))⟩
def isNone {α : Type} (o : Option α) (_ : Unit) : Res Bool := .ok o.isNone
def notNone {α : Type} (o : Option α) (_ : Unit) : Res Bool := .ok o.isSome
@[simp] theorem isNone_eq {α : Type} (o : Option α) : isNone o () = .ok o.isNone := rfl
@[simp] theorem notNone_eq {α : Type} (o : Option α) : notNone o () = .ok o.isSome := rfl
theorem o_isN : Op2 E K (fun x y H Q => y = .non ∧ Q (.bl (decide (x = .non))) H) isNone (pO R) pN pB := fun I C H a b x y s hx hy Q q => by
  refine ⟨hy, PQ.now q s (congrArg V.bl ?_)⟩
  cases a with
  | none => exact decide_eq_true hx
  | some a => exact decide_eq_false hx.2
theorem o_notN : Op2 E K (fun x y H Q => y = .non ∧ Q (.bl (!decide (x = .non))) H) notNone (pO R) pN pB := fun I C H a b x y s hx hy Q q => by
  refine ⟨hy, PQ.now q s (congrArg V.bl ?_)⟩
  cases a with
  | none =>
    have e : decide (x = V.non) = true := decide_eq_true hx
    rw [e]
    rfl
  | some a =>
    have e : decide (x = V.non) = false := decide_eq_false hx.2
    rw [e]
    rfl
/-! lists that are read -/
theorem pV.at {xs : List α} {v : V} {I C H : Hp} (s : St I C H) (h : (pV R).r xs v I C) : ∃ a vs, v = .ref a ∧ H a = some (.lst vs) ∧ vs.length ≤ sizeLine ∧ A2 (fun x u => R.r x u I C) xs vs := by
  obtain ⟨a, vs, h1, h2, h3, h4⟩ := h
  exact ⟨a, vs, h1, h2.elim (s.i a _) (s.c a _), h3, h4⟩
def rLen (xs : List α) : Res Int := .ok (xs.length : Int)
@[simp] theorem rLen_eq (xs : List α) : rLen xs = .ok (xs.length : Int) := rfl
theorem o_len : OpL E K (fun xs H Q => ∃ p ys, xs = [.ref p] ∧ (SqL K H p ys ∨ SqT K H p ys) ∧ Q (.int ys.length) H) rLen (t1 (pV R)) pI := fun I C H a vs s hv Q q => by
  obtain ⟨v, rfl, h⟩ := hv
  obtain ⟨p, us, rfl, h2, h3, h4⟩ := pV.at s h
  exact ⟨p, us, rfl, .inl (.inl (.inl h2)), PQ.now q s (by rw [h4.len]; rfl)⟩
theorem o_lenQ : OpL E K (fun xs H Q => ∃ p ys, xs = [.ref p] ∧ (SqL K H p ys ∨ SqT K H p ys) ∧ Q (.int ys.length) H) rLen (t1 (pQ K R)) pI := fun I C H a vs s hv Q q => by
  obtain ⟨v, rfl, p, us, rfl, h2, h3, h4⟩ := hv
  exact ⟨p, us, rfl, .inr (ex_t s.i h2), PQ.now q s (by rw [h4.len]; rfl)⟩
/-- xs[i] -/
def ix (xs : List α) (i : Int) : Res α := if 0 ≤ i then (match xs[i.toNat]? with
    | some x => .ok x
    | none => .bad) else if -(xs.length : Int) ≤ i then (match xs[(i + xs.length).toNat]? with
    | some x => .ok x
    | none => .bad) else .bad
theorem ix_atI {f : α → V → Prop} {xs : List α} {vs : List V} {i : Int} {x : α} (h : A2 f xs vs) (e : ix xs i = .ok x) : ∃ v, atI vs i = some v ∧ f x v := by
  have hl := h.len
  unfold ix at e
  unfold atI ixN
  by_cases h0 : 0 ≤ i
  · rw [if_pos h0] at e ⊢
    cases q : xs[i.toNat]? with
    | none =>
      rw [q] at e
      cases e
    | some y =>
      rw [q] at e
      cases e
      have hlt := (List.getElem?_eq_some_iff.mp q).1
      obtain ⟨v, hv, r⟩ := h.get' q
      rw [if_pos (by omega)]
      exact ⟨v, hv, r⟩
  · rw [if_neg h0] at e ⊢
    by_cases h1 : -(xs.length : Int) ≤ i
    · rw [if_pos h1] at e
      rw [if_pos (by omega)]
      cases q : xs[(i + xs.length).toNat]? with
      | none =>
        rw [q] at e
        cases e
      | some y =>
        rw [q] at e
        cases e
        obtain ⟨v, hv, r⟩ := h.get' q
        exact ⟨v, by rw [hl]; exact hv, r⟩
    · rw [if_neg h1] at e
      cases e
theorem o_ix : Op2 E K (rIxL K) ix (pV R) pI R := fun I C H a b x y s hx hy Q q => by
  obtain ⟨p, us, rfl, h2, h3, h4⟩ := pV.at s hx
  subst hy
  cases e : ix a b with
  | ok z =>
    rw [e] at q
    obtain ⟨v, e1, r⟩ := ix_atI h4 e
    exact ⟨p, us, b, v, rfl, rfl, .inl (.inl h2), e1, PQ.now q s r⟩
  | exc c i =>
    unfold ix at e
    split at e <;> (try split at e) <;> (try split at e) <;> cases e
  | bad =>
    rw [e] at q
    exact q.elim
theorem o_ixQ : Op2 E K (rIxT K) ix (pQ K R) pI R := fun I C H a b x y s hx hy Q q => by
  obtain ⟨p, us, rfl, h2, h3, h4⟩ := hx
  subst hy
  cases e : ix a b with
  | ok z =>
    rw [e] at q
    obtain ⟨v, e1, r⟩ := ix_atI h4 e
    exact ⟨p, us, b, v, rfl, rfl, ex_t s.i h2, e1, PQ.now q s r⟩
  | exc c i =>
    unfold ix at e
    split at e <;> (try split at e) <;> (try split at e) <;> cases e
  | bad =>
    rw [e] at q
    exact q.elim
/-- a place of a tuple, of a list with fixed places; k written -/
theorem o_pj {T : Rt α} {k : Nat} {f : α → β} {S : Rp β} (j : Pj T k f S) : Op1 E K (fun x H Q => rIxT K x (.int (k : Int)) H Q) (fun x => .ok (f x)) (pT T) S := fun I C H a x s hx Q q => by
  obtain ⟨p, vs, rfl, h2, h3⟩ := hx
  obtain ⟨w, e, r⟩ := j a vs I C h3
  exact ⟨p, vs, _, w, rfl, rfl, .inl (.inl (s.i p _ h2)), atI_nat e, PQ.now q s r⟩
theorem o_pjU {T : Rt α} {k : Nat} {f : α → β} {S : Rp β} (j : Pj T k f S) : Op1 E K (fun x H Q => rIxT K x (.int (k : Int)) H Q) (fun x => .ok (f x)) (pU K T) S := fun I C H a x s hx Q q => by
  obtain ⟨p, vs, rfl, h2, h3⟩ := hx
  obtain ⟨w, e, r⟩ := j a vs I C h3
  exact ⟨p, vs, _, w, rfl, rfl, ex_t s.i h2, atI_nat e, PQ.now q s r⟩
theorem o_pjD {T : Rt α} {k : Nat} {f : α → β} {S : Rp β} (j : Pj T k f S) : Op1 E K (fun x H Q => rIxL K x (.int (k : Int)) H Q) (fun x => .ok (f x)) (pD T) S := fun I C H a x s hx Q q => by
  obtain ⟨p, vs, rfl, h2, h3⟩ := hx
  obtain ⟨w, e, r⟩ := j a vs I C h3
  exact ⟨p, vs, _, w, rfl, rfl, .inl (.inl (s.i p _ h2)), atI_nat e, PQ.now q s r⟩
/-- e[k], k written, by a rule for this k -/
theorem x_k {r : R2} {te : TE} {σ : L2.St} {I C : Hp} {m : Res α} {f : α → Res γ} {T : Rp γ} {k : Int} (hr : Op1 E K (fun x H Q => r x (.int k) H Q) f R T) (h : EvX E K te σ I C m R) : EvX E K (tOp r te (tC (.int k))) σ I C (un f m) T :=
  fun I1 C1 H1 e e' s Q q => x_un (r := fun x H Q => r x (.int k) H Q) hr h I1 C1 H1 e e' s Q q
end
end Sd

namespace Sd
open PySem L2
/-! ### == of data -/
/-- data of this kind, as == sees them: enc; at most n deep -/
structure De (K : PySem.W.Frag) {α : Type} (R : Rp α) (enc : α → PyData) (n : Nat) : Prop where
  dp : ∀ {a v I C H}, St I C H → R.r a v I C → Dp K H v (enc a)
  ly : ∀ {a v I C}, R.r a v I C → (enc a).canLay0 = true
  de : ∀ {a v I C}, R.r a v I C → (enc a).depth ≤ n
  eq : ∀ a b, PyData.eqv (enc a) (enc b) = true ↔ a = b
section
variable {E : XK} {K : PySem.W.Frag} {α β γ : Type} {R : Rp α} {S : Rp β} {enc : α → PyData} {enb : β → PyData} {n m : Nat}
theorem de_int : De K pI PyData.int 0 := ⟨fun _ h => by cases h; exact .int _, fun _ => by simp only [PyData.canLay0], fun _ => by simp only [PyData.depth]; exact Nat.le_refl _, fun a b => by
  simp only [PyData.eqv, beq_iff_eq]⟩
theorem de_bl : De K pB PyData.bool 0 := ⟨fun _ h => by cases h; exact .bl _, fun _ => by simp only [PyData.canLay0], fun _ => by simp only [PyData.depth]; exact Nat.le_refl _, fun a b => by
  simp only [PyData.eqv, beq_iff_eq]⟩
theorem de_str : De K pS PyData.str 0 := ⟨fun _ h => by obtain ⟨rfl, _⟩ := h; exact .str _, fun h => by simp only [PyData.canLay0]; exact h.2, fun _ => by simp only [PyData.depth]; exact Nat.le_refl _, fun a b => by
  simp only [PyData.eqv, beq_iff_eq]⟩
theorem de_all (d : De K R enc n) : ∀ {xs : List α} {vs : List V} {I C H : Hp}, St I C H → A2 (fun x u => R.r x u I C) xs vs → DpAll K H vs (xs.map enc)
  | _, _, _, _, _, _, .nil => .nil
  | _, _, _, _, _, s, .cons r t => .cons (d.dp s r) (de_all d s t)
theorem ly_all (d : De K R enc n) : ∀ {xs : List α} {vs : List V} {I C : Hp}, A2 (fun x u => R.r x u I C) xs vs → PyData.canLayAll0 (xs.map enc) = true
  | _, _, _, _, .nil => by simp only [List.map_nil, PyData.canLayAll0]
  | _, _, _, _, .cons r t => by
    simp only [List.map_cons, PyData.canLayAll0, Bool.and_eq_true]
    exact ⟨d.ly r, ly_all d t⟩
theorem dp_all (d : De K R enc n) : ∀ {xs : List α} {vs : List V} {I C : Hp}, A2 (fun x u => R.r x u I C) xs vs → PyData.depthAll (xs.map enc) ≤ n
  | _, _, _, _, .nil => by
    simp only [List.map_nil, PyData.depthAll]
    exact Nat.zero_le _
  | _, _, _, _, .cons r t => by
    simp only [List.map_cons, PyData.depthAll]
    exact Nat.max_le.mpr ⟨d.de r, dp_all d t⟩
theorem eq_all (h : ∀ a b, PyData.eqv (enc a) (enc b) = true ↔ a = b) : ∀ xs ys : List α, PyData.eqvAll (xs.map enc) (ys.map enc) = true ↔ xs = ys
  | [], [] => by simp only [List.map_nil, PyData.eqvAll]
  | [], y :: ys => by
    simp only [List.map_nil, List.map_cons, PyData.eqvAll]
    exact ⟨fun q => (nomatch q), fun q => (nomatch q)⟩
  | x :: xs, [] => by
    simp only [List.map_nil, List.map_cons, PyData.eqvAll]
    exact ⟨fun q => (nomatch q), fun q => (nomatch q)⟩
  | x :: xs, y :: ys => by
    simp only [List.map_cons, PyData.eqvAll, Bool.and_eq_true, List.cons.injEq]
    rw [h x y, eq_all h xs ys]
theorem de_lst (d : De K R enc n) : De K (pL R) (fun xs => PyData.list (xs.map enc)) (n + 1) :=
  ⟨fun s ⟨a, vs, h1, h2, h3, h4⟩ => by
    subst h1
    exact .lst (.inl (.inl (s.i _ _ h2))) (de_all d s h4),
  fun ⟨a, vs, h1, h2, h3, h4⟩ => by
    simp only [PyData.canLay0]
    exact ly_all d h4,
  fun ⟨a, vs, h1, h2, h3, h4⟩ => by
    simp only [PyData.depth]
    exact Nat.succ_le_succ (dp_all d h4),
  fun a b => by
    simp only [PyData.eqv]
    exact eq_all d.eq a b⟩
theorem de_vw (d : De K R enc n) : De K (pV R) (fun xs => PyData.list (xs.map enc)) (n + 1) :=
  ⟨fun s h => by
    obtain ⟨a, vs, rfl, h2, h3, h4⟩ := pV.at s h
    exact .lst (.inl (.inl h2)) (de_all d s h4),
  fun ⟨a, vs, h1, h2, h3, h4⟩ => by
    simp only [PyData.canLay0]
    exact ly_all d h4,
  fun ⟨a, vs, h1, h2, h3, h4⟩ => by
    simp only [PyData.depth]
    exact Nat.succ_le_succ (dp_all d h4),
  fun a b => by
    simp only [PyData.eqv]
    exact eq_all d.eq a b⟩
theorem de_seq (d : De K R enc n) : De K (pQ K R) (fun xs => PyData.tuple (xs.map enc)) (n + 1) :=
  ⟨fun s ⟨a, vs, h1, h2, h3, h4⟩ => by
    subst h1
    exact .tup (ex_t s.i h2) (de_all d s h4),
  fun ⟨a, vs, h1, h2, h3, h4⟩ => by
    simp only [PyData.canLay0]
    exact ly_all d h4,
  fun ⟨a, vs, h1, h2, h3, h4⟩ => by
    simp only [PyData.depth]
    exact Nat.succ_le_succ (dp_all d h4),
  fun a b => by
    simp only [PyData.eqv]
    exact eq_all d.eq a b⟩
/-- places -/
structure Dt (K : PySem.W.Frag) {α : Type} (T : Rt α) (enc : α → List PyData) (n : Nat) : Prop where
  dp : ∀ {a vs I C H}, St I C H → T.r a vs I C → DpAll K H vs (enc a)
  ly : ∀ {a vs I C}, T.r a vs I C → PyData.canLayAll0 (enc a) = true
  de : ∀ {a vs I C}, T.r a vs I C → PyData.depthAll (enc a) ≤ n
  eq : ∀ a b, PyData.eqvAll (enc a) (enc b) = true ↔ a = b
theorem dt_one (d : De K R enc n) : Dt K (t1 R) (fun x => [enc x]) n :=
  ⟨fun s ⟨v, h1, h2⟩ => by
    subst h1
    exact .cons (d.dp s h2) .nil,
  fun ⟨v, h1, h2⟩ => by
    simp only [PyData.canLayAll0, Bool.and_true]
    exact d.ly h2,
  fun ⟨v, h1, h2⟩ => by
    simp only [PyData.depthAll]
    exact Nat.max_le.mpr ⟨d.de h2, Nat.zero_le _⟩,
  fun a b => by
    simp only [PyData.eqvAll, Bool.and_true]
    exact d.eq a b⟩
theorem dt_cons {T : Rt β} {ens : β → List PyData} (d : De K R enc n) (t : Dt K T ens m) : Dt K (tc R T) (fun x => enc x.1 :: ens x.2) (max n m) :=
  ⟨fun s ⟨v, us, h1, h2, h3⟩ => by
    subst h1
    exact .cons (d.dp s h2) (t.dp s h3),
  fun ⟨v, us, h1, h2, h3⟩ => by
    simp only [PyData.canLayAll0, Bool.and_eq_true]
    exact ⟨d.ly h2, t.ly h3⟩,
  fun ⟨v, us, h1, h2, h3⟩ => by
    simp only [PyData.depthAll]
    exact Nat.max_le.mpr ⟨Nat.le_trans (d.de h2) (Nat.le_max_left _ _), Nat.le_trans (t.de h3) (Nat.le_max_right _ _)⟩,
  fun a b => by
    simp only [PyData.eqvAll, Bool.and_eq_true]
    rw [d.eq, t.eq]
    exact ⟨fun ⟨h1, h2⟩ => Prod.ext h1 h2, fun h => by
      subst h
      exact ⟨rfl, rfl⟩⟩⟩
theorem de_tup {T : Rt α} {ens : α → List PyData} (t : Dt K T ens n) : De K (pT T) (fun x => PyData.tuple (ens x)) (n + 1) :=
  ⟨fun s ⟨a, vs, h1, h2, h3⟩ => by
    subst h1
    exact .tup (.inl (.inl (s.i _ _ h2))) (t.dp s h3),
  fun ⟨a, vs, h1, h2, h3⟩ => by
    simp only [PyData.canLay0]
    exact t.ly h3,
  fun ⟨a, vs, h1, h2, h3⟩ => by
    simp only [PyData.depth]
    exact Nat.succ_le_succ (t.de h3),
  fun a b => by
    simp only [PyData.eqv]
    exact t.eq a b⟩
theorem de_tupU {T : Rt α} {ens : α → List PyData} (t : Dt K T ens n) : De K (pU K T) (fun x => PyData.tuple (ens x)) (n + 1) :=
  ⟨fun s ⟨a, vs, h1, h2, h3⟩ => by
    subst h1
    exact .tup (ex_t s.i h2) (t.dp s h3),
  fun ⟨a, vs, h1, h2, h3⟩ => by
    simp only [PyData.canLay0]
    exact t.ly h3,
  fun ⟨a, vs, h1, h2, h3⟩ => by
    simp only [PyData.depth]
    exact Nat.succ_le_succ (t.de h3),
  fun a b => by
    simp only [PyData.eqv]
    exact t.eq a b⟩
theorem de_lstD {T : Rt α} {ens : α → List PyData} (t : Dt K T ens n) : De K (pD T) (fun x => PyData.list (ens x)) (n + 1) :=
  ⟨fun s ⟨a, vs, h1, h2, h3⟩ => by
    subst h1
    exact .lst (.inl (.inl (s.i _ _ h2))) (t.dp s h3),
  fun ⟨a, vs, h1, h2, h3⟩ => by
    simp only [PyData.canLay0]
    exact t.ly h3,
  fun ⟨a, vs, h1, h2, h3⟩ => by
    simp only [PyData.depth]
    exact Nat.succ_le_succ (t.de h3),
  fun a b => by
    simp only [PyData.eqv]
    exact t.eq a b⟩
def oEnc (enc : α → PyData) : Option α → PyData
  | none => .none
  | some a => enc a
/-- None or such a thing (that is not None itself) -/
theorem de_opt (d : De K R enc n) (hn : ∀ a, PyData.eqv (enc a) .none = false ∧ PyData.eqv .none (enc a) = false) : De K (pO R) (oEnc enc) n :=
  ⟨fun {a v I C H} s h => by
    cases a with
    | none =>
      have h' : v = .non := h
      subst h'
      exact .non
    | some a => exact d.dp s h.1,
  fun {a v I C} h => by
    cases a with
    | none => simp only [oEnc, PyData.canLay0]
    | some a => exact d.ly h.1,
  fun {a v I C} h => by
    cases a with
    | none =>
      simp only [oEnc, PyData.depth]
      exact Nat.zero_le _
    | some a => exact d.de h.1,
  fun a b => by
    cases a with
    | none =>
      cases b with
      | none => simp only [oEnc, PyData.eqv]
      | some b =>
        simp only [oEnc]
        rw [(hn b).2]
        exact ⟨fun q => (nomatch q), fun q => (nomatch q)⟩
    | some a =>
      cases b with
      | none =>
        simp only [oEnc]
        rw [(hn a).1]
        exact ⟨fun q => (nomatch q), fun q => (nomatch q)⟩
      | some b =>
        simp only [oEnc]
        rw [d.eq, Option.some.injEq]⟩
theorem o_eqD [DecidableEq α] {R' : Rp α} (d : De K R enc n) (d' : De K R' enc n) (hn : n ≤ 64) : Op2 E K (rEqD K) eqR R R' pB := fun I C H a b x y s hx hy Q q =>
  ⟨enc a, enc b, d.dp s hx, d'.dp s hy, Bool.and_eq_true_iff.mpr ⟨d.ly hx, decide_eq_true (Nat.le_trans (d.de hx) hn)⟩, Bool.and_eq_true_iff.mpr ⟨d'.ly hy, decide_eq_true (Nat.le_trans (d'.de hy) hn)⟩,
    PQ.now q s (congrArg V.bl (by
      by_cases e : a = b
      · rw [(d.eq a b).mpr e, decide_eq_true e]
      · rw [decide_eq_false e]
        exact Bool.eq_false_iff.mpr fun z => e ((d.eq a b).mp z)))⟩
theorem o_neD [DecidableEq α] {R' : Rp α} (d : De K R enc n) (d' : De K R' enc n) (hn : n ≤ 64) : Op2 E K (rNeD K) neR R R' pB := fun I C H a b x y s hx hy Q q =>
  ⟨enc a, enc b, d.dp s hx, d'.dp s hy, Bool.and_eq_true_iff.mpr ⟨d.ly hx, decide_eq_true (Nat.le_trans (d.de hx) hn)⟩, Bool.and_eq_true_iff.mpr ⟨d'.ly hy, decide_eq_true (Nat.le_trans (d'.de hy) hn)⟩,
    PQ.now q s (congrArg (fun z => V.bl (!z)) (by
      by_cases e : a = b
      · rw [(d.eq a b).mpr e, decide_eq_true e]
      · rw [decide_eq_false e]
        exact Bool.eq_false_iff.mpr fun z => e ((d.eq a b).mp z)))⟩
/-! ### in -/
def inR {α : Type} [DecidableEq α] (x : α) (xs : List α) : Res Bool := .ok (decide (x ∈ xs))
def ninR {α : Type} [DecidableEq α] (x : α) (xs : List α) : Res Bool := .ok (!decide (x ∈ xs))
@[simp] theorem inR_eq {α : Type} [DecidableEq α] (x : α) (xs : List α) : inR x xs = .ok (decide (x ∈ xs)) := rfl
@[simp] theorem ninR_eq {α : Type} [DecidableEq α] (x : α) (xs : List α) : ninR x xs = .ok (!decide (x ∈ xs)) := rfl
/-- flat things -/
structure Fl {α : Type} (R : Rp α) (f : α → V) : Prop where
  is : ∀ {a v I C}, R.r a v I C → v = f a
  flat : ∀ a, flatV (f a) = true
  eq : ∀ a b, eqV (f a) (f b) = true ↔ a = b
theorem fl_int : Fl pI V.int := ⟨fun h => h, fun _ => rfl, fun a b => by simp only [eqV, beq_iff_eq]⟩
theorem fl_str : Fl pS V.str := ⟨fun h => h.1, fun _ => rfl, fun a b => by simp only [eqV, beq_iff_eq]⟩
theorem inV_iff [DecidableEq α] {f : α → V} (F : Fl R f) (x : α) : ∀ xs : List α, inV (f x) (xs.map f) = decide (x ∈ xs)
  | [] => rfl
  | y :: ys => by
    have ih := inV_iff F x ys
    unfold inV at ih ⊢
    rw [List.map_cons, List.any_cons, ih]
    by_cases e : y = x
    · rw [(F.eq y x).mpr e, Bool.true_or, decide_eq_true (show x ∈ y :: ys by rw [e]; exact List.mem_cons_self)]
    · rw [Bool.eq_false_iff.mpr fun z => e ((F.eq y x).mp z), Bool.false_or]
      exact dec_congr ⟨fun h => List.mem_cons_of_mem _ h, fun h => (List.mem_cons.mp h).resolve_left fun q => e q.symm⟩
theorem allFlat {f : α → V} (F : Fl R f) : ∀ xs : List α, (xs.map f).all flatV = true
  | [] => rfl
  | x :: xs => by rw [List.map_cons, List.all_cons, F.flat, allFlat F xs]; rfl
theorem o_in [DecidableEq α] {f : α → V} (F : Fl R f) : Op2 E K (rIn K false) inR R (pV R) pB := fun I C H a b x y s hx hy Q q => by
  obtain ⟨p, us, rfl, h2, h3, h4⟩ := pV.at s hy
  have ex := F.is hx
  have eu := A2.map_iff (fun _ _ h => F.is h) h4
  subst ex eu
  exact ⟨p, _, rfl, .inl (.inl (.inl h2)), F.flat a, allFlat F b, PQ.now q s (congrArg V.bl (inV_iff F a b))⟩
theorem o_nin [DecidableEq α] {f : α → V} (F : Fl R f) : Op2 E K (rIn K true) ninR R (pV R) pB := fun I C H a b x y s hx hy Q q => by
  obtain ⟨p, us, rfl, h2, h3, h4⟩ := pV.at s hy
  have ex := F.is hx
  have eu := A2.map_iff (fun _ _ h => F.is h) h4
  subst ex eu
  exact ⟨p, _, rfl, .inl (.inl (.inl h2)), F.flat a, allFlat F b, PQ.now q s (congrArg (fun z => V.bl (!z)) (inV_iff F a b))⟩
theorem o_inQ [DecidableEq α] {f : α → V} (F : Fl R f) : Op2 E K (rIn K false) inR R (pQ K R) pB := fun I C H a b x y s hx hy Q q => by
  obtain ⟨p, us, rfl, h2, h3, h4⟩ := hy
  have ex := F.is hx
  have eu := A2.map_iff (fun _ _ h => F.is h) h4
  subst ex eu
  exact ⟨p, _, rfl, .inr (ex_t s.i h2), F.flat a, allFlat F b, PQ.now q s (congrArg V.bl (inV_iff F a b))⟩
theorem o_ninQ [DecidableEq α] {f : α → V} (F : Fl R f) : Op2 E K (rIn K true) ninR R (pQ K R) pB := fun I C H a b x y s hx hy Q q => by
  obtain ⟨p, us, rfl, h2, h3, h4⟩ := hy
  have ex := F.is hx
  have eu := A2.map_iff (fun _ _ h => F.is h) h4
  subst ex eu
  exact ⟨p, _, rfl, .inr (ex_t s.i h2), F.flat a, allFlat F b, PQ.now q s (congrArg (fun z => V.bl (!z)) (inV_iff F a b))⟩
/-! ### slices -/
def cut (xs : List α) (lo hi : Option Int) : List α := (xs.drop (HT.sIx xs.length 0 lo)).take (HT.sIx xs.length xs.length hi - HT.sIx xs.length 0 lo)
theorem A2.cut {f : α → V → Prop} {xs : List α} {vs : List V} (h : A2 f xs vs) (lo hi : Option Int) : A2 f (Sd.cut xs lo hi) (cutV vs lo hi) := by
  unfold Sd.cut cutV
  rw [h.len]
  exact (h.drop _).take _
def EvO (E : XK) (K : PySem.W.Frag) (to : TO) (σ : L2.St) (I C : Hp) (m : Res (Option Int)) : Prop :=
  ∀ I1 C1 H1, Ex I I1 → Ex C C1 → St I1 C1 H1 → ∀ Q : Option Int → Hp → Prop, Post m (fun o => ∀ I2 H2, Ex I1 I2 → St I2 C1 H2 → Q o H2) (PX E K I1 C1) → to σ H1 Q
def someR (m : Res Int) : Res (Option Int) := m.bind fun i => .ok (some i)
@[simp] theorem someR_ok (i : Int) : someR (.ok i) = .ok (some i) := rfl
variable {σ : L2.St} {I C : Hp} {te : TE}
theorem p_none : EvO E K tNoPart σ I C (.ok none) := fun I1 C1 H1 e e' s Q q => q I1 H1 (Ex.refl _) s
theorem p_some {m : Res Int} (h : EvX E K te σ I C m pI) : EvO E K (tPart te) σ I C (someR m) := fun I1 C1 H1 e e' s Q q =>
  h I1 C1 H1 e e' s _ ((Post.bind q).mono (fun i p v I2 H2 e2 s2 rv => ⟨i, rv, p I2 H2 e2 s2⟩) fun _ _ z => z)
def slR (m : Res (List α)) (lo hi : Res (Option Int)) : Res (List α) := m.bind fun xs => lo.bind fun a => hi.bind fun b => .ok (cut xs a b)
@[simp] theorem slR_ok (xs : List α) (a b : Option Int) : slR (.ok xs) (.ok a) (.ok b) = .ok (cut xs a b) := rfl
theorem new_list {xs : List α} {vs : List V} {I C H : Hp} {Q : VK} (q : PQ (pL R) I C Q xs) (s : St I C H) (h : A2 (fun x u => R.r x u I C) xs vs) (hl : vs.length ≤ sizeLine) : ∀ p, H p = none → Q (.ref p) (upd H p (.lst vs)) := fun p hp =>
  q (.ref p) (upd I p (.lst vs)) _ (Ex.new (s.i.free hp)) (s.newI hp) ⟨p, vs, rfl, upd_same, hl, h.imp fun _ _ => R.mono (Ex.new (s.i.free hp)) (Ex.refl _)⟩
theorem x_slW (r0 : V → Option Int → Option Int → Hp → VK → Prop) {V0 : Rp (List α)}
    (hr : ∀ I C H xs x lo hi, St I C H → V0.r xs x I C → ∀ Q, PQ (pL R) I C Q (cut xs lo hi) → r0 x lo hi H Q)
    {tl th : TO} {m : Res (List α)} {lo hi : Res (Option Int)} (h : EvX E K te σ I C m V0) (hl : EvO E K tl σ I C lo) (hh : EvO E K th σ I C hi) : EvX E K (tSl r0 te tl th) σ I C (slR m lo hi) (pL R) := fun I1 C1 H1 e e' s Q q =>
  h I1 C1 H1 e e' s _ ((Post.bind q).mono (fun a p x I2 H2 e2 s2 rx =>
    hl I2 C1 H2 (e.trans e2) e' s2 _ ((Post.bind p).mono (fun o p2 I3 H3 e3 s3 =>
      hh I3 C1 H3 (e.trans (e2.trans e3)) e' s3 _ ((Post.bind p2).mono (fun o2 p3 I4 H4 e4 s4 =>
        hr I4 C1 H4 a x o o2 s4 (V0.mono (e3.trans e4) (Ex.refl _) rx) Q fun v I5 H5 e5 s5 rv => p3 v I5 H5 (e2.trans (e3.trans (e4.trans e5))) s5 rv) fun c i z => z.mono (e2.trans e3) (Ex.refl _))) fun c i z => z.mono e2 (Ex.refl _)))
    fun _ _ z => z)
theorem x_sl {tl th : TO} {m : Res (List α)} {lo hi : Res (Option Int)} (h : EvX E K te σ I C m (pV R)) (hl : EvO E K tl σ I C lo) (hh : EvO E K th σ I C hi) : EvX E K (tSl (rSlL K) te tl th) σ I C (slR m lo hi) (pL R) :=
  x_slW (rSlL K) (fun I C H xs x lo hi s hx Q q => by
    obtain ⟨p, us, rfl, h2, h3, h4⟩ := pV.at s hx
    exact ⟨p, us, rfl, .inl (.inl h2), new_list q s (h4.cut lo hi) (Nat.le_trans (cutV_length _ _ _) h3)⟩) h hl hh
theorem x_slS {tl th : TO} {m : Res (List α)} {lo hi : Res (Option Int)} (h : EvX E K te σ I C m (pW K R)) (hl : EvO E K tl σ I C lo) (hh : EvO E K th σ I C hi) : EvX E K (tSl (rSlL K) te tl th) σ I C (slR m lo hi) (pL R) :=
  x_slW (rSlL K) (fun I C H xs x lo hi s hx Q q => by
    obtain ⟨p, us, rfl, h2, h3, h4⟩ := hx
    exact ⟨p, us, rfl, ex_l s.i h2, new_list q s (h4.cut lo hi) (Nat.le_trans (cutV_length _ _ _) h3)⟩) h hl hh
/-! ### + of lists, list(xs), tuple(xs), [x] * n -/
@[irreducible] def rCatR (xs ys : List α) : Res (List α) := if xs.length + ys.length ≤ 1000000 then .ok (xs ++ ys) else .bad
theorem rCatR_ok {xs ys : List α} (h : xs.length + ys.length ≤ 1000000) : rCatR xs ys = .ok (xs ++ ys) := by
  unfold rCatR
  exact if_pos h
theorem o_cat : Op2 E K rCat rCatR (pV R) (pV R) (pL R) := fun I C H a b x y s hx hy Q q => by
  unfold rCatR at q
  split at q
  · rename_i h
    obtain ⟨p, us, rfl, h2, h3, h4⟩ := pV.at s hx
    obtain ⟨p', us', rfl, h2', h3', h4'⟩ := pV.at s hy
    have hl : us.length + us'.length ≤ sizeLine := by
      rw [h4.len, h4'.len]
      exact Nat.le_trans h (by decide)
    exact ⟨p, p', us, us', rfl, rfl, h2, h2', hl, new_list q s (h4.append h4') (by rw [List.length_append]; exact hl)⟩
  · exact q.elim
@[irreducible] def rRepR (xs : List α) (k : Int) : Res (List α) := if k.natAbs < 1000000 ∧ xs.length * k.toNat ≤ 1000000 then .ok (List.replicate k.toNat xs).flatten else .bad
theorem rRepR_ok {xs : List α} {k : Int} (h : k < 1000000 ∧ -1000000 < k ∧ xs.length * k.toNat ≤ 1000000) : rRepR xs k = .ok (List.replicate k.toNat xs).flatten := by
  unfold rRepR
  exact if_pos ⟨by omega, h.2.2⟩
theorem A2.rep {f : α → V → Prop} {xs : List α} {vs : List V} (h : A2 f xs vs) : ∀ n : Nat, A2 f (List.replicate n xs).flatten (List.replicate n vs).flatten
  | 0 => .nil
  | n + 1 => by
    rw [List.replicate_succ, List.replicate_succ, List.flatten_cons, List.flatten_cons]
    exact h.append (A2.rep h n)
theorem flat_len {vs : List V} : ∀ n : Nat, (List.replicate n vs).flatten.length = vs.length * n
  | 0 => by simp
  | n + 1 => by
    rw [List.replicate_succ, List.flatten_cons, List.length_append, flat_len n, Nat.mul_succ, Nat.add_comm]
theorem o_rep : Op2 E K rRep rRepR (pV R) pI (pL R) := fun I C H a b x y s hx hy Q q => by
  unfold rRepR at q
  split at q
  · rename_i h
    obtain ⟨p, us, rfl, h2, h3, h4⟩ := pV.at s hx
    subst hy
    have hl : us.length * b.toNat ≤ sizeLine := by
      rw [h4.len]
      exact Nat.le_trans h.2 (by decide)
    exact ⟨p, b, us, rfl, rfl, h2, by omega, by omega, hl, new_list q s (h4.rep _) (by rw [flat_len]; exact hl)⟩
  · exact q.elim
def idR (xs : α) : Res α := .ok xs
@[simp] theorem idR_eq (xs : α) : idR xs = .ok xs := rfl
theorem o_list : OpL E K (fun xs H Q => ∃ p ys, xs = [.ref p] ∧ (SqL K H p ys ∨ SqT K H p ys) ∧ ∀ l, H l = none → Q (.ref l) (upd H l (.lst ys))) idR (t1 (pV R)) (pL R) := fun I C H a vs s hv Q q => by
  obtain ⟨v, rfl, h⟩ := hv
  obtain ⟨p, us, rfl, h2, h3, h4⟩ := pV.at s h
  exact ⟨p, us, rfl, .inl (.inl (.inl h2)), new_list q s h4 h3⟩
theorem o_listW : OpL E K (fun xs H Q => ∃ p ys, xs = [.ref p] ∧ (SqL K H p ys ∨ SqT K H p ys) ∧ ∀ l, H l = none → Q (.ref l) (upd H l (.lst ys))) idR (t1 (pW K R)) (pL R) := fun I C H a vs s hv Q q => by
  obtain ⟨v, rfl, p, us, rfl, h2, h3, h4⟩ := hv
  exact ⟨p, us, rfl, .inl (ex_l s.i h2), new_list q s h4 h3⟩
theorem o_listQ : OpL E K (fun xs H Q => ∃ p ys, xs = [.ref p] ∧ (SqL K H p ys ∨ SqT K H p ys) ∧ ∀ l, H l = none → Q (.ref l) (upd H l (.lst ys))) idR (t1 (pQ K R)) (pL R) := fun I C H a vs s hv Q q => by
  obtain ⟨v, rfl, p, us, rfl, h2, h3, h4⟩ := hv
  exact ⟨p, us, rfl, .inr (ex_t s.i h2), new_list q s h4 h3⟩
theorem new_tup {xs : List α} {vs : List V} {I C H : Hp} {Q : VK} (q : PQ (pQ K R) I C Q xs) (s : St I C H) (h : A2 (fun x u => R.r x u I C) xs vs) (hl : vs.length ≤ sizeLine) : ∀ p, H p = none → Q (.ref p) (upd H p (.tup vs)) := fun p hp =>
  q (.ref p) (upd I p (.tup vs)) _ (Ex.new (s.i.free hp)) (s.newI hp) ⟨p, vs, rfl, .inl (.inl upd_same), hl, h.imp fun _ _ => R.mono (Ex.new (s.i.free hp)) (Ex.refl _)⟩
theorem o_tuple : OpL E K (fun xs H Q => ∃ p ys, xs = [.ref p] ∧ ((SqL K H p ys ∧ ∀ l, H l = none → Q (.ref l) (upd H l (.tup ys))) ∨ (SqT K H p ys ∧ Q (.ref p) H))) idR (t1 (pV R)) (pQ K R) := fun I C H a vs s hv Q q => by
  obtain ⟨v, rfl, h⟩ := hv
  obtain ⟨p, us, rfl, h2, h3, h4⟩ := pV.at s h
  exact ⟨p, us, rfl, .inl ⟨.inl (.inl h2), new_tup q s h4 h3⟩⟩
theorem o_tupleQ : OpL E K (fun xs H Q => ∃ p ys, xs = [.ref p] ∧ ((SqL K H p ys ∧ ∀ l, H l = none → Q (.ref l) (upd H l (.tup ys))) ∨ (SqT K H p ys ∧ Q (.ref p) H))) idR (t1 (pQ K R)) (pQ K R) := fun I C H a vs s hv Q q => by
  obtain ⟨v, rfl, p, us, rfl, h2, h3, h4⟩ := hv
  exact ⟨p, us, rfl, .inr ⟨ex_t s.i h2, PQ.now q s ⟨p, us, rfl, h2, h3, h4⟩⟩⟩
/-! ### int, max, min, sum, gcd -/
theorem o_int : OpL E K (fun xs H Q => (∃ i, xs = [.int i] ∧ Q (.int i) H) ∨ ∃ k, xs = [.bl k] ∧ Q (.int (if k then 1 else 0)) H) idR (t1 pI) pI := fun I C H a vs s hv Q q => by
  obtain ⟨v, rfl, rfl⟩ := hv
  exact .inl ⟨a, rfl, PQ.now q s rfl⟩
def max2 (p : Int × Int) : Res Int := .ok (if p.2 > p.1 then p.2 else p.1)
def min2 (p : Int × Int) : Res Int := .ok (if p.2 < p.1 then p.2 else p.1)
@[simp] theorem max2_eq (a b : Int) : max2 (a, b) = .ok (max a b) := by
  unfold max2
  congr 1
  show (if b > a then b else a) = max a b
  split <;> omega
@[simp] theorem min2_eq (a b : Int) : min2 (a, b) = .ok (min a b) := by
  unfold min2
  congr 1
  show (if b < a then b else a) = min a b
  split <;> omega
theorem o_max2 : OpL E K (fun xs H Q => ∃ i j, xs = [.int i, .int j] ∧ Q (.int (if j > i then j else i)) H) max2 (tc pI (t1 pI)) pI := fun I C H a vs s hv Q q => by
  obtain ⟨v, us, rfl, rfl, w, rfl, rfl⟩ := hv
  exact ⟨_, _, rfl, PQ.now q s rfl⟩
theorem o_min2 : OpL E K (fun xs H Q => ∃ i j, xs = [.int i, .int j] ∧ Q (.int (if j < i then j else i)) H) min2 (tc pI (t1 pI)) pI := fun I C H a vs s hv Q q => by
  obtain ⟨v, us, rfl, rfl, w, rfl, rfl⟩ := hv
  exact ⟨_, _, rfl, PQ.now q s rfl⟩
def sumR (xs : List Int) : Res Int := .ok xs.sum
@[simp] theorem sumR_eq (xs : List Int) : sumR xs = .ok xs.sum := rfl
theorem o_sum : OpL E K (rSum K) sumR (t1 (pV pI)) pI := fun I C H a vs s hv Q q => by
  obtain ⟨v, rfl, h⟩ := hv
  obtain ⟨p, us, rfl, h2, h3, h4⟩ := pV.at s h
  have eu := A2.map_iff (h := V.int) (fun _ _ h => h) h4
  subst eu
  exact ⟨p, a, rfl, .inl (.inl h2), PQ.now q s rfl⟩
def gcdR (p : Int × Int) : Res Int := .ok ((Nat.gcd p.1.natAbs p.2.natAbs : Nat) : Int)
@[simp] theorem gcdR_eq (a b : Int) : gcdR (a, b) = .ok ((Nat.gcd a.natAbs b.natAbs : Nat) : Int) := rfl
theorem o_gcd : OpL E K rGcd gcdR (tc pI (t1 pI)) pI := fun I C H a vs s hv Q q => by
  obtain ⟨v, us, rfl, rfl, w, rfl, rfl⟩ := hv
  exact ⟨_, _, rfl, PQ.now q s rfl⟩
/-! ### truth of a list -/
def neR' (xs : List α) : Res Bool := .ok (!xs.isEmpty)
@[simp] theorem neR'_eq (xs : List α) : neR' xs = .ok (!xs.isEmpty) := rfl
theorem t_lst {m : Res (List α)} (h : EvX E K te σ I C m (pV R)) : EvT E K (fun σ H Q => te σ H fun x H' => ∃ k, TruV K x H' k ∧ Q k H') σ I C (un neR' m) := fun I1 C1 H1 e e' s Q q =>
  h I1 C1 H1 e e' s _ ((Post.bind q).mono (fun a p v I2 H2 e2 s2 rv => by
    obtain ⟨b, us, rfl, h2, h3, h4⟩ := pV.at s2 rv
    have hb : (!us.isEmpty) = !a.isEmpty := by
      cases h4 <;> rfl
    refine ⟨!a.isEmpty, .inl ⟨us, .inl (.inl h2), hb.symm⟩, p I2 H2 e2 s2⟩) fun _ _ z => z)
/-! ### isinstance, where the kind is known -/
def pY (n : String) : Rp Unit := ⟨fun _ v _ _ => v = .ty n, fun _ _ h => h⟩
instance {n : String} : Im (pY n) := ⟨fun h => h⟩
end
end Sd

namespace Sd
open PySem L2
/-! ### what a for walks -/
def EvI (E : XK) (K : PySem.W.Frag) (wi : TI) (σ : L2.St) (I C : Hp) (kp : Hp → Prop) {α : Type} (m : Res (List α)) (R : Rp α) : Prop :=
  ∀ I1 C1 H1, Ex I I1 → Ex C C1 → St I1 C1 H1 → ∀ Kt : L2.It → Hp → Prop, Post m (fun xs => ∀ J G Y I2 H2, Ex I1 I2 → St I2 C1 H2 → xs.length ≤ sizeLine → Walk J xs.length G Y →
    (∀ I3 C3 H3, Ex I2 I3 → kp C3 → St I3 C3 H3 → G H3) →
    (∀ i x v I3 C3 H3 H4, xs[i]? = some x → Ex I2 I3 → kp C3 → St I3 C3 H3 → Y i H3 v H4 → ∃ I4, Ex I3 I4 ∧ St I4 C3 H4 ∧ R.r x v I4 C3) → Kt J H2) (PX E K I1 C1) → wi σ H1 Kt
abbrev kpT : Hp → Prop := fun _ => True
def rangeL (lo hi : Int) : List Int := (List.range (hi - lo).toNat).map fun i : Nat => lo + ((i : Nat) : Int)
@[irreducible] def rng1 (n : Int) : Res (List Int) := if n.natAbs ≤ 1000000 then .ok (rangeL 0 n) else .bad
@[irreducible] def rng2 (p : Int × Int) : Res (List Int) := if p.1.natAbs ≤ 1000000 ∧ p.2.natAbs ≤ 1000000 then .ok (rangeL p.1 p.2) else .bad
theorem rng1_ok {n : Int} (h : n ≤ 1000000 ∧ -1000000 ≤ n) : rng1 n = .ok (rangeL 0 n) := by
  unfold rng1
  exact if_pos (by omega)
theorem rng2_ok {a b : Int} (h : a ≤ 1000000 ∧ -1000000 ≤ a ∧ b ≤ 1000000 ∧ -1000000 ≤ b) : rng2 (a, b) = .ok (rangeL a b) := by
  unfold rng2
  exact if_pos (by dsimp only; omega)
@[simp] theorem rangeL_length (lo hi : Int) : (rangeL lo hi).length = (hi - lo).toNat := by unfold rangeL; rw [List.length_map, List.length_range]
theorem rangeL_get {lo hi : Int} {i : Nat} {x : Int} (h : (rangeL lo hi)[i]? = some x) : x = lo + (i : Int) := by
  unfold rangeL at h
  rw [List.getElem?_map] at h
  cases q : (List.range (hi - lo).toNat)[i]? with
  | none =>
    rw [q] at h
    cases h
  | some j =>
    rw [q] at h
    have hj : j = i := by
      obtain ⟨_, e⟩ := List.getElem?_eq_some_iff.mp q
      rw [List.getElem_range] at e
      exact e.symm
    rw [← hj]
    exact (Option.some.inj h).symm
theorem mem_rangeL {lo hi x : Int} : x ∈ rangeL lo hi ↔ lo ≤ x ∧ x < hi := by
  unfold rangeL
  rw [List.mem_map]
  constructor
  · rintro ⟨i, h, rfl⟩
    rw [List.mem_range] at h
    omega
  · intro h
    exact ⟨(x - lo).toNat, List.mem_range.mpr (by omega), by show lo + (((x - lo).toNat : Nat) : Int) = x; omega⟩
def enumF {α : Type} (k : Int) : List α → List (Int × α)
  | [] => []
  | x :: xs => (k, x) :: enumF (k + 1) xs
def enumR {α : Type} (xs : List α) : Res (List (Int × α)) := .ok (enumF 0 xs)
@[simp] theorem enumR_eq {α : Type} (xs : List α) : enumR xs = .ok (enumF 0 xs) := rfl
@[simp] theorem enumF_length {α : Type} : ∀ (xs : List α) (k : Int), (enumF k xs).length = xs.length
  | [], _ => rfl
  | _ :: xs, k => by rw [enumF, List.length_cons, List.length_cons, enumF_length xs]
theorem enumF_get {α : Type} : ∀ (xs : List α) (k : Int) (i : Nat), (enumF k xs)[i]? = xs[i]?.map fun x => (k + (i : Int), x)
  | [], _, _ => by simp [enumF]
  | x :: xs, k, 0 => by simp [enumF]
  | x :: xs, k, i + 1 => by
    rw [enumF, List.getElem?_cons_succ, List.getElem?_cons_succ, enumF_get xs (k + 1) i]
    cases xs[i]? with
    | none => rfl
    | some y =>
      simp only [Option.map_some, Option.some.injEq, Prod.mk.injEq, and_true]
      omega
def zipR {α β : Type} (p : List α × List β) : Res (List (α × β)) := .ok (p.1.zip p.2)
@[simp] theorem zipR_eq {α β : Type} (a : List α) (b : List β) : zipR (a, b) = .ok (a.zip b) := rfl
section
variable {E : XK} {K : PySem.W.Frag} {σ : L2.St} {I C : Hp} {α β γ : Type} {R : Rp α} {S : Rp β} {T : Rp γ} {te : TE} {ta : TA} {m : Res (List α)}
theorem i_list [Im R] (h : EvX E K te σ I C m (pL R)) : EvI E K (iList K te) σ I C kpT m R := fun I1 C1 H1 e e' s Kt q =>
  h I1 C1 H1 e e' s _ (q.mono (fun xs p v I2 H2 e2 s2 ⟨a, vs, h1, h2, h3, h4⟩ => ⟨a, h1, ⟨vs, .inl (.inl (s2.i a _ h2))⟩, by
    have hl := h4.len
    refine p (Itl K a) (fun H => SqL K H a vs) (YAt vs) I2 H2 e2 s2 (by omega) (by rw [← hl]; exact walk_list) (fun I3 C3 H3 e3 _ s3 => .inl (.inl (s3.i a _ (e3 a _ h2)))) (fun i x v' I3 C3 H3 H4 hx e3 _ s3 y => ?_)
    obtain ⟨rfl, y⟩ := y
    obtain ⟨w, hw, r⟩ := h4.get' hx
    rw [hw] at y
    cases y
    exact ⟨I3, Ex.refl _, s3, R.to e3 r⟩⟩) fun _ _ z => z)
/-- over a list that is a cell: the turns leave it as it is -/
theorem i_cell [Im R] {i : Nat} {a : Addr} {vs : List V} {xs : List α} (h : σ[i]? = some (some (.ref a))) (hc : C a = some (.lst vs)) (hl : vs.length ≤ sizeLine) (hr : A2 (fun x u => R.r x u I C) xs vs) :
    EvI E K (iList K (tVar i)) σ I C (fun C3 => C3 a = some (.lst vs)) (.ok xs) R := fun I1 C1 H1 e e' s Kt q =>
  ⟨.ref a, h, a, rfl, ⟨vs, .inl (.inl (s.c a _ (e' a _ hc)))⟩, by
    have hn := hr.len
    refine q (Itl K a) (fun H => SqL K H a vs) (YAt vs) I1 H1 (Ex.refl _) s (by omega) (by rw [← hn]; exact walk_list) (fun I3 C3 H3 e3 k3 s3 => .inl (.inl (s3.c a _ k3))) (fun i x v' I3 C3 H3 H4 hx e3 _ s3 y => ?_)
    obtain ⟨rfl, y⟩ := y
    obtain ⟨w, hw, r⟩ := hr.get' hx
    rw [hw] at y
    cases y
    exact ⟨I3, Ex.refl _, s3, R.to (e.trans e3) r⟩⟩
theorem i_script [Im R] (h : EvX E K te σ I C m (pW K R)) : EvI E K (iList K te) σ I C kpT m R := fun I1 C1 H1 e e' s Kt q =>
  h I1 C1 H1 e e' s _ (q.mono (fun xs p v I2 H2 e2 s2 ⟨a, vs, h1, h2, h3, h4⟩ => ⟨a, h1, ⟨vs, ex_l s2.i h2⟩, by
    have hl := h4.len
    refine p (Itl K a) (fun H => SqL K H a vs) (YAt vs) I2 H2 e2 s2 (by omega) (by rw [← hl]; exact walk_list) (fun I3 C3 H3 e3 _ s3 => ex_l (e3.trans s3.i) h2) (fun i x v' I3 C3 H3 H4 hx e3 _ s3 y => ?_)
    obtain ⟨rfl, y⟩ := y
    obtain ⟨w, hw, r⟩ := h4.get' hx
    rw [hw] at y
    cases y
    exact ⟨I3, Ex.refl _, s3, R.to e3 r⟩⟩) fun _ _ z => z)
theorem i_tup [Im R] (h : EvX E K te σ I C m (pQ K R)) : EvI E K (iTup K te) σ I C kpT m R := fun I1 C1 H1 e e' s Kt q =>
  h I1 C1 H1 e e' s _ (q.mono (fun xs p v I2 H2 e2 s2 ⟨a, vs, h1, h2, h3, h4⟩ => ⟨a, h1, ⟨vs, ex_t s2.i h2⟩, by
    have hl := h4.len
    refine p (Itt K a) (fun H => SqT K H a vs) (YAt vs) I2 H2 e2 s2 (by omega) (by rw [← hl]; exact walk_tup) (fun I3 C3 H3 e3 _ s3 => ex_t (e3.trans s3.i) h2) (fun i x v' I3 C3 H3 H4 hx e3 _ s3 y => ?_)
    obtain ⟨rfl, y⟩ := y
    obtain ⟨w, hw, r⟩ := h4.get' hx
    rw [hw] at y
    cases y
    exact ⟨I3, Ex.refl _, s3, R.to e3 r⟩⟩) fun _ _ z => z)
theorem i_rng1 {m : Res Int} (h : EvA E K ta σ I C m (t1 pI)) : EvI E K (iRng1 ta) σ I C kpT (un rng1 m) pI := fun I1 C1 H1 e e' s Kt q =>
  h I1 C1 H1 e e' s _ ((Post.bind q).mono (fun n p vs I2 H2 e2 s2 ⟨v, hv, rv⟩ => by
    unfold rng1 at p
    split at p
    · rename_i hn
      have hv1 : v = .int n := rv
      subst hv hv1
      refine ⟨n, rfl, by omega, by omega, p (Itr 0 n.toNat) (fun _ => True) (YFn fun i => .int (0 + i)) I2 H2 e2 s2 (by rw [rangeL_length]; exact Nat.le_trans (show (n - 0).toNat ≤ 1000000 by omega) (by decide)) (by rw [rangeL_length, Int.sub_zero]; exact walk_range) (fun _ _ _ _ _ _ => trivial) (fun i x v' I3 C3 H3 H4 hx e3 _ s3 y => ?_)⟩
      obtain ⟨rfl, rfl⟩ := y
      rw [rangeL_get hx]
      exact ⟨I3, Ex.refl _, s3, rfl⟩
    · exact p.elim) fun _ _ z => z)
theorem i_rng2 {m : Res (Int × Int)} (h : EvA E K ta σ I C m (tc pI (t1 pI))) : EvI E K (iRng2 ta) σ I C kpT (un rng2 m) pI := fun I1 C1 H1 e e' s Kt q =>
  h I1 C1 H1 e e' s _ ((Post.bind q).mono (fun n p vs I2 H2 e2 s2 ⟨v, us, hv, rv, w, hw, rw⟩ => by
    unfold rng2 at p
    split at p
    · rename_i hn
      have hv1 : v = .int n.1 := rv
      have hw1 : w = .int n.2 := rw
      subst hv hw hv1 hw1
      refine ⟨n.1, n.2, rfl, by omega, p (Itr n.1 (n.2 - n.1).toNat) (fun _ => True) (YFn fun i => .int (n.1 + i)) I2 H2 e2 s2 (by rw [rangeL_length]; exact Nat.le_trans (show (n.2 - n.1).toNat ≤ 2000000 by omega) (by decide)) (by rw [rangeL_length]; exact walk_range) (fun _ _ _ _ _ _ => trivial) (fun i x v' I3 C3 H3 H4 hx e3 _ s3 y => ?_)⟩
      obtain ⟨rfl, rfl⟩ := y
      rw [rangeL_get hx]
      exact ⟨I3, Ex.refl _, s3, rfl⟩
    · exact p.elim) fun _ _ z => z)
theorem new_pair {I C H : Hp} {T : Addr} {x y : V} {a : α} {b : β} (s : St I C H) (ht : H T = none) (hx : R.r a x I C) (hy : S.r b y I C) :
    ∃ I4, Ex I I4 ∧ St I4 C (upd H T (.tup [x, y])) ∧ (pT (tc R (t1 S))).r (a, b) (.ref T) I4 C :=
  ⟨upd I T (.tup [x, y]), Ex.new (s.i.free ht), s.newI ht, T, _, rfl, upd_same, x, [y], rfl, R.mono (Ex.new (s.i.free ht)) (Ex.refl _) hx, y, rfl, S.mono (Ex.new (s.i.free ht)) (Ex.refl _) hy⟩
theorem i_enum [Im R] (h : EvA E K ta σ I C m (t1 (pL R))) : EvI E K (iEnum K ta) σ I C kpT (un enumR m) (pT (tc pI (t1 R))) := fun I1 C1 H1 e e' s Kt q =>
  h I1 C1 H1 e e' s _ ((Post.bind q).mono (fun xs p vs I2 H2 e2 s2 ⟨v, hv, a, us, h1, h2, h3, h4⟩ => by
    subst hv h1
    have hl := h4.len
    refine ⟨a, us, rfl, .inl (.inl (s2.i a _ h2)), p (Ite K a) (fun H => SqL K H a us) (YPair (fun i => some (.int (i : Nat))) (fun i => us[i]?)) I2 H2 e2 s2 (by rw [enumF_length]; omega) (by rw [enumF_length, ← hl]; exact walk_enum) (fun I3 C3 H3 e3 _ s3 => .inl (.inl (s3.i a _ (e3 a _ h2)))) (fun i x v' I3 C3 H3 H4 hx e3 _ s3 y => ?_)⟩
    obtain ⟨T, u, w, rfl, hT, rfl, hu, hw⟩ := y
    rw [enumF_get] at hx
    cases hz : xs[i]? with
    | none =>
      rw [hz] at hx
      cases hx
    | some z =>
      rw [hz] at hx
      cases hx
      obtain ⟨w', hw', r⟩ := h4.get' hz
      have hw2 : us[i]? = some w := hw
      rw [hw'] at hw2
      cases hw2
      cases hu
      exact new_pair s3 hT (show V.int (i : Nat) = V.int (0 + (i : Int)) by rw [Int.zero_add]) (R.to e3 r)) fun _ _ z => z)
theorem i_zip [Im R] [Im S] {m : Res (List α × List β)} (h : EvA E K ta σ I C m (tc (pL R) (t1 (pL S)))) : EvI E K (iZip K ta) σ I C kpT (un zipR m) (pT (tc R (t1 S))) := fun I1 C1 H1 e e' s Kt q =>
  h I1 C1 H1 e e' s _ ((Post.bind q).mono (fun xs p vs I2 H2 e2 s2 ⟨v, us0, hv, ⟨a, us, h1, h2, h3, h4⟩, v', hv', a', us', h1', h2', h3', h4'⟩ => by
    subst hv hv' h1 h1'
    have hl := h4.len
    have hl' := h4'.len
    refine ⟨a, a', us, us', rfl, .inl (.inl (s2.i a _ h2)), .inl (.inl (s2.i a' _ h2')), p (Itz K a a') (fun H => SqL K H a us ∧ SqL K H a' us') (YPair (fun i => us[i]?) (fun i => us'[i]?)) I2 H2 e2 s2 (by rw [List.length_zip]; omega) (walk_zip (by rw [List.length_zip, hl, hl']))
      (fun I3 C3 H3 e3 _ s3 => ⟨.inl (.inl (s3.i a _ (e3 a _ h2))), .inl (.inl (s3.i a' _ (e3 a' _ h2')))⟩) (fun i x v' I3 C3 H3 H4 hx e3 _ s3 y => ?_)⟩
    obtain ⟨T, u, w, rfl, hT, rfl, hu, hw⟩ := y
    obtain ⟨x1, x2⟩ := x
    obtain ⟨hx1, hx2⟩ := List.getElem?_zip_eq_some.mp hx
    obtain ⟨w1, hw1, r1⟩ := h4.get' hx1
    obtain ⟨w2, hw2, r2⟩ := h4'.get' hx2
    have hu2 : us[i]? = some u := hu
    have hw3 : us'[i]? = some w := hw
    rw [hw1] at hu2
    cases hu2
    rw [hw2] at hw3
    cases hw3
    exact new_pair s3 hT (R.to e3 r1) (S.to e3 r2)) fun _ _ z => z)
/-! ### targets -/
def Tg (K : PySem.W.Frag) {α : Type} (g : TG) (R : Rp α) (σ : L2.St) (P : α → L2.St → Hp → Hp → Prop) : Prop := ∀ x v I C H Q, St I C H → R.r x v I C → (∀ σ2, P x σ2 I C → Q σ2 H) → g v σ H Q
theorem g_name {i : Nat} : Tg K (gName i) R σ (fun x σ2 I C => ∃ v, σ2 = σ.set i (some v) ∧ R.r x v I C) := fun x v I C H Q s r k => k _ ⟨v, rfl, r⟩
theorem g_two {i j : Nat} : Tg K (gTup K 2 (gCons (gName i) (gCons (gName j) gNil))) (pT (tc R (t1 S))) σ (fun x σ2 I C => ∃ u w, σ2 = (σ.set i (some u)).set j (some w) ∧ R.r x.1 u I C ∧ S.r x.2 w I C) := fun x v I C H Q s r k => by
  obtain ⟨a, vs, rfl, h2, u, us, rfl, h3, w, rfl, h4⟩ := r
  exact ⟨a, _, rfl, .inl (.inl (s.i _ _ h2)), rfl, u, _, rfl, w, _, rfl, rfl, k _ ⟨u, w, rfl, h3, h4⟩⟩
theorem g_three {i j l : Nat} : Tg K (gTup K 3 (gCons (gName i) (gCons (gName j) (gCons (gName l) gNil)))) (pT (tc R (tc S (t1 T)))) σ
    (fun x σ2 I C => ∃ u w z, σ2 = ((σ.set i (some u)).set j (some w)).set l (some z) ∧ R.r x.1 u I C ∧ S.r x.2.1 w I C ∧ T.r x.2.2 z I C) := fun x v I C H Q s r k => by
  obtain ⟨a, vs, rfl, h2, u, us, rfl, h3, w, us', rfl, h4, z, rfl, h5⟩ := r
  exact ⟨a, _, rfl, .inl (.inl (s.i _ _ h2)), rfl, u, _, rfl, w, _, rfl, z, _, rfl, rfl, k _ ⟨u, w, z, rfl, h3, h4, h5⟩⟩
/-! ### comprehensions (an element that raises is not served) -/
def mapR (f : α → Res β) : List α → Res (List β)
  | [] => .ok []
  | x :: xs => match f x with
    | .ok y => (mapR f xs).bind fun ys => .ok (y :: ys)
    | _ => .bad
def filR (p : α → Res Bool) (f : α → Res β) : List α → Res (List β)
  | [] => .ok []
  | x :: xs => match p x with
    | .ok true => (match f x with
      | .ok y => (filR p f xs).bind fun ys => .ok (y :: ys)
      | _ => .bad)
    | .ok false => filR p f xs
    | _ => .bad
theorem mapR_ok {f : α → Res β} {g : α → β} : ∀ {xs : List α}, (∀ x, x ∈ xs → f x = .ok (g x)) → mapR f xs = .ok (xs.map g)
  | [], _ => rfl
  | x :: xs, h => by
    unfold mapR
    rw [h x List.mem_cons_self]
    show (mapR f xs).bind _ = _
    rw [mapR_ok (xs := xs) fun y hy => h y (List.mem_cons_of_mem _ hy)]
    rfl
theorem filR_ok {p : α → Res Bool} {f : α → Res β} {q : α → Bool} {g : α → β} : ∀ {xs : List α}, (∀ x, x ∈ xs → p x = .ok (q x)) → (∀ x, x ∈ xs → q x = true → f x = .ok (g x)) → filR p f xs = .ok ((xs.filter q).map g)
  | [], _, _ => rfl
  | x :: xs, h, h' => by
    have ih := filR_ok (xs := xs) (fun y hy => h y (List.mem_cons_of_mem _ hy)) (fun y hy => h' y (List.mem_cons_of_mem _ hy))
    unfold filR
    rw [h x List.mem_cons_self]
    cases hq : q x with
    | true =>
      show (match f x with
        | .ok y => (filR p f xs).bind fun ys => .ok (y :: ys)
        | _ => .bad) = _
      rw [h' x List.mem_cons_self hq, List.filter_cons, hq]
      show (filR p f xs).bind _ = _
      rw [ih]
      rfl
    | false =>
      show filR p f xs = _
      rw [ih, List.filter_cons, hq]
      rfl
@[simp] theorem mapR_okf (g : α → β) (xs : List α) : mapR (fun x => .ok (g x)) xs = .ok (xs.map g) := mapR_ok fun _ _ => rfl
@[simp] theorem filR_okf (q : α → Bool) (g : α → β) (xs : List α) : filR (fun x => .ok (q x)) (fun x => .ok (g x)) xs = .ok ((xs.filter q).map g) := filR_ok (fun _ _ => rfl) (fun _ _ _ => rfl)
abbrev EZ : XK := fun _ _ _ => False
theorem drop_cons {xs : List α} {i : Nat} {x : α} (h : xs[i]? = some x) : xs.drop i = x :: xs.drop (i + 1) := by
  obtain ⟨hi, e⟩ := List.getElem?_eq_some_iff.mp h
  rw [← e]
  exact List.drop_eq_getElem_cons hi
/-- what stands between two turns: ys made so far, the rest gives what is wanted -/
def Lc (S : Rp β) (I C : Hp) (D : Addr) (rest : Res (List β)) (W : List β → Prop) (n : Nat) (H : Hp) : Prop :=
  ∃ (ys : List β) (vs : List V) (I' : Hp), Ex I I' ∧ St I' (upd C D (.lst vs)) H ∧ vs.length ≤ n ∧ A2 (fun x u => S.r x u I' C) ys vs ∧ Post rest (fun zs => W (ys ++ zs)) (fun _ _ => False)
theorem PX.no {K : PySem.W.Frag} {I C : Hp} {c : Ec} {i : Int} (h : False) : PX EZ K I C c i := h.elim
theorem x_lcgK [Im S] {wi : TI} {g : TG} {tt : TT} {vs : List Nat} {p : α → Res Bool} {f : α → Res β} {P : α → L2.St → Hp → Hp → Prop} {kp : Hp → Prop} (hi : EvI E K wi σ I C kp m R) (hkp : ∀ C3, Ex C C3 → kp C3) (hg : Tg K g R (wipe σ vs) P)
    (hw : ∀ x σ2 I' C', P x σ2 I' C' → wipe σ2 vs = wipe σ vs)
    (hp : ∀ x σ2 I' C', Ex I I' → Ex C C' → P x σ2 I' C' → EvT EZ K tt σ2 I' C' (p x))
    (hf : ∀ x σ2 I' C', Ex I I' → Ex C C' → P x σ2 I' C' → EvX EZ K te σ2 I' C' (f x) S)
    (hm : ∀ x σ2 I' I2 C', Ex I' I2 → P x σ2 I' C' → P x σ2 I2 C') : EvX E K (tLc wi g tt te vs) σ I C (m.bind (filR p f)) (pL S) := fun I1 C1 H1 e e' s Q q =>
  hi I1 C1 H1 e e' s _ ((Post.bind q).mono (fun xs q2 J G Y I2 H2 e2 s2 hz w hG hY D hD => by
    have cD : C1 D = none := s2.c.free hD
    refine lc_it w (fun i H => Lc S I2 C1 D (filR p f (xs.drop i)) (PQ (pL S) I1 C1 Q) i H) ⟨[], [], I2, Ex.refl _, s2.newC hD, Nat.le_refl _, .nil, ?_⟩ (fun i H hi ⟨_, vs', I', e3, s3, _⟩ => hG I' _ H e3 (hkp _ (e'.trans (Ex.new cD))) s3) (fun i x H H' hi ⟨ys, us, I', e3, s3, hn, r3, po⟩ y => ?_) (fun H ⟨ys, us, I', e3, s3, hn, r3, po⟩ => ?_)
    · cases hfil : filR p f xs with
      | ok zs =>
        rw [hfil] at q2
        show Post (filR p f (xs.drop 0)) _ _
        rw [List.drop_zero, hfil]
        exact q2
      | exc c i =>
        exfalso
        revert hfil
        clear q2 hG hY w hz
        induction xs with
        | nil =>
          intro z
          cases z
        | cons x xs ih =>
          unfold filR
          cases p x with
          | ok b =>
            cases b with
            | true =>
              cases f x with
              | ok y =>
                intro z
                cases hh : filR p f xs with
                | ok zs =>
                  simp only [hh] at z
                  cases z
                | exc c' i' =>
                  simp only [hh] at z
                  have z2 : (Res.exc c' i' : Res (List β)) = .exc c i := z
                  cases z2
                  exact ih hh
                | bad =>
                  simp only [hh] at z
                  cases z
              | exc _ _ => intro z; cases z
              | bad => intro z; cases z
            | false => exact ih
          | exc _ _ => intro z; cases z
          | bad => intro z; cases z
      | bad =>
        rw [hfil] at q2
        exact q2.elim
    · obtain ⟨a, ha⟩ : ∃ a, xs[i]? = some a := ⟨xs[i], by simp [hi]⟩
      rw [drop_cons ha] at po
      obtain ⟨I4, e4, s4, ra⟩ := hY i a x I' _ H H' ha e3 (hkp _ (e'.trans (Ex.new cD))) s3 y
      refine hg a x I4 _ H' _ s4 ra fun σ2 pa => ⟨hw _ _ _ _ pa, ?_⟩
      have eI : Ex I I4 := e.trans (e2.trans (e3.trans e4))
      have eC : Ex C (upd C1 D (.lst us)) := e'.trans (Ex.new cD)
      unfold filR at po
      refine hp a σ2 I4 _ eI eC pa I4 _ H' (Ex.refl _) (Ex.refl _) s4 _ ?_
      cases hpa : p a with
      | ok b =>
        rw [hpa] at po
        cases b with
        | true =>
          show ∀ I5 H5, Ex I4 I5 → St I5 (upd C1 D (.lst us)) H5 → te σ2 H5 _
          intro I5 H5 e5 s5
          refine hf a σ2 I5 _ (eI.trans e5) eC (hm _ _ _ _ _ e5 pa) I5 _ H5 (Ex.refl _) (Ex.refl _) s5 _ ?_
          cases hfa : f a with
          | ok b =>
            have po2 : Post ((filR p f (xs.drop (i + 1))).bind fun ys => .ok (b :: ys)) (fun zs => PQ (pL S) I1 C1 Q (ys ++ zs)) (fun _ _ => False) := by
              have z := po
              simp only [hfa] at z
              exact z
            intro v I6 H6 e6 s6 rv
            have hsz : us.length < sizeLine := Nat.lt_of_le_of_lt hn (Nat.lt_of_lt_of_le hi hz)
            refine ⟨us, s6.c D _ upd_same, hsz, ⟨ys ++ [b], us ++ [v], I6, e3.trans (e4.trans (e5.trans e6)), ?_, by rw [List.length_append]; exact Nat.succ_le_succ hn, ?_, ?_⟩⟩
            · have z := s6.set (o := .lst (us ++ [v])) (p := D) upd_same
              rw [upd_upd] at z
              exact z
            · exact (r3.imp fun _ _ => S.mono (e4.trans (e5.trans e6)) (Ex.refl _)).append (.one (Im.im rv))
            · refine (Post.bind po2).mono (fun zs z => ?_) fun _ _ z => z
              rw [List.append_assoc]
              exact z
          | exc c j =>
            have z := po
            simp only [hfa] at z
            exact z.elim
          | bad =>
            have z := po
            simp only [hfa] at z
            exact z.elim
        | false =>
          show ∀ I5 H5, Ex I4 I5 → St I5 (upd C1 D (.lst us)) H5 → Lc S I2 C1 D (filR p f (xs.drop (i + 1))) (PQ (pL S) I1 C1 Q) (i + 1) H5
          intro I5 H5 e5 s5
          exact ⟨ys, us, I5, e3.trans (e4.trans e5), s5, Nat.le_succ_of_le hn, r3.imp fun _ _ => S.mono (e4.trans e5) (Ex.refl _), po⟩
      | exc c j =>
        rw [hpa] at po
        exact po.elim
      | bad =>
        rw [hpa] at po
        exact po.elim
    · rw [List.drop_length] at po
      have po2 : PQ (pL S) I1 C1 Q (ys ++ []) := po
      rw [List.append_nil] at po2
      have sf := s3.frz (p := D) upd_same
      have iD : I' D = none := s3.freeI upd_same
      refine po2 (.ref D) (upd I' D (.lst us)) H (e2.trans (e3.trans (Ex.new iD))) (sf.less fun a o ha => ?_) ⟨D, us, rfl, upd_same, Nat.le_trans hn hz, r3.imp fun _ _ => S.mono (Ex.new iD) (Ex.refl _)⟩
      have hne : a ≠ D := fun z => by
        rw [z, cD] at ha
        cases ha
      show (if a = D then none else upd C1 D (.lst us) a) = some o
      rw [if_neg hne, upd_ne hne]
      exact ha) fun _ _ z => z)
theorem x_lcg [Im S] {wi : TI} {g : TG} {tt : TT} {vs : List Nat} {p : α → Res Bool} {f : α → Res β} {P : α → L2.St → Hp → Hp → Prop} (hi : EvI E K wi σ I C kpT m R) (hg : Tg K g R (wipe σ vs) P)
    (hw : ∀ x σ2 I' C', P x σ2 I' C' → wipe σ2 vs = wipe σ vs)
    (hp : ∀ x σ2 I' C', Ex I I' → Ex C C' → P x σ2 I' C' → EvT EZ K tt σ2 I' C' (p x))
    (hf : ∀ x σ2 I' C', Ex I I' → Ex C C' → P x σ2 I' C' → EvX EZ K te σ2 I' C' (f x) S)
    (hm : ∀ x σ2 I' I2 C', Ex I' I2 → P x σ2 I' C' → P x σ2 I2 C') : EvX E K (tLc wi g tt te vs) σ I C (m.bind (filR p f)) (pL S) := x_lcgK hi (fun _ _ => trivial) hg hw hp hf hm
theorem filR_yes (f : α → Res β) : ∀ xs : List α, filR (fun _ => .ok true) f xs = mapR f xs
  | [] => rfl
  | x :: xs => by
    unfold filR mapR
    rw [filR_yes f xs]
theorem t_yes : EvT E K tYes σ I C (.ok true) := fun I1 C1 H1 e e' s Q q => q I1 H1 (Ex.refl _) s
theorem x_lc [Im S] {wi : TI} {g : TG} {vs : List Nat} {f : α → Res β} {P : α → L2.St → Hp → Hp → Prop} (hi : EvI E K wi σ I C kpT m R) (hg : Tg K g R (wipe σ vs) P)
    (hw : ∀ x σ2 I' C', P x σ2 I' C' → wipe σ2 vs = wipe σ vs)
    (hf : ∀ x σ2 I' C', Ex I I' → Ex C C' → P x σ2 I' C' → EvX EZ K te σ2 I' C' (f x) S)
    (hm : ∀ x σ2 I' I2 C', Ex I' I2 → P x σ2 I' C' → P x σ2 I2 C') : EvX E K (tLc wi g tYes te vs) σ I C (m.bind (mapR f)) (pL S) := by
  have z := x_lcg (p := fun _ => .ok true) hi hg hw (fun x σ2 I' C' _ _ _ => t_yes) hf hm
  have e : filR (fun _ => Res.ok true) f = mapR f := funext (filR_yes f)
  rw [e] at z
  exact z
theorem x_lcK [Im S] {wi : TI} {g : TG} {vs : List Nat} {f : α → Res β} {P : α → L2.St → Hp → Hp → Prop} {kp : Hp → Prop} (hi : EvI E K wi σ I C kp m R) (hkp : ∀ C3, Ex C C3 → kp C3) (hg : Tg K g R (wipe σ vs) P)
    (hw : ∀ x σ2 I' C', P x σ2 I' C' → wipe σ2 vs = wipe σ vs)
    (hf : ∀ x σ2 I' C', Ex I I' → Ex C C' → P x σ2 I' C' → EvX EZ K te σ2 I' C' (f x) S)
    (hm : ∀ x σ2 I' I2 C', Ex I' I2 → P x σ2 I' C' → P x σ2 I2 C') : EvX E K (tLc wi g tYes te vs) σ I C (m.bind (mapR f)) (pL S) := by
  have z := x_lcgK (p := fun _ => .ok true) hi hkp hg hw (fun x σ2 I' C' _ _ _ => t_yes) hf hm
  have e : filR (fun _ => Res.ok true) f = mapR f := funext (filR_yes f)
  rw [e] at z
  exact z
end
end Sd

namespace Sd
open PySem L2
/-! ### promises -/
/-- f(a ..) hands back what the mirror m tells; nothing changes -/
def spP (K : PySem.W.Frag) {α β : Type} (T : Rt α) (m : α → Res β) (R : Rp β) : Sp := fun vs H Q E => ∃ (I C : Hp) (a : α), St I C H ∧ T.r a vs I C ∧ Post (m a) (PQ R I C Q) (PX E K I C)
/-- f(pool, a ..): the list at the first place changes; nothing is raised -/
def spM {α β μ : Type} (M : Rt μ) (T : Rt α) (m : α → μ → Res (β × μ)) (R : Rp β) : Sp := fun vs H Q _ => ∃ (I C : Hp) (p : Addr) (ws us : List V) (x : μ) (a : α), vs = .ref p :: us ∧ St I C H ∧ C p = some (.lst ws) ∧ M.r x ws I C ∧ T.r a us I C ∧
  Post (m a x) (fun b => ∀ v ws' I2 H2, Ex I I2 → St I2 (upd C p (.lst ws')) H2 → M.r b.2 ws' I2 (upd C p (.lst ws')) → R.r b.1 v I2 (upd C p (.lst ws')) → Q v H2) (fun _ _ => False)
inductive Out (S ρ : Type) where
  | nx (s : S)
  | br (s : S)
  | rt (r : ρ)
section
variable {α β S ρ : Type}
def loopN (f : α → S → Res S) : List α → S → Res S
  | [], s => .ok s
  | x :: xs, s => (f x s).bind fun s' => loopN f xs s'
def loopR (f : α → S → Res (Out S ρ)) : List α → S → Res (Out S ρ)
  | [], s => .ok (.nx s)
  | x :: xs, s => (f x s).bind fun o => match o with
    | .nx s' => loopR f xs s'
    | .br s' => .ok (.nx s')
    | .rt r => .ok (.rt r)
def whileF (c : S → Res Bool) (f : S → Res (Out S ρ)) : Nat → S → Res (Out S ρ)
  | 0, _ => .bad
  | n + 1, s => (c s).bind fun b => if b = true then (f s).bind fun o => match o with
    | .nx s' => whileF c f n s'
    | .br s' => .ok (.nx s')
    | .rt r => .ok (.rt r) else .ok (.nx s)
def whileN (c : S → Res Bool) (f : S → Res S) : Nat → S → Res S
  | 0, _ => .bad
  | n + 1, s => (c s).bind fun b => if b = true then (f s).bind fun s' => whileN c f n s' else .ok s
theorem loopN_ok {f : α → S → Res S} {g : S → α → S} : ∀ {xs : List α} {s : S}, (∀ x, x ∈ xs → ∀ s, f x s = .ok (g s x)) → loopN f xs s = .ok (xs.foldl g s)
  | [], s, _ => rfl
  | x :: xs, s, h => by
    unfold loopN
    rw [h x List.mem_cons_self]
    exact loopN_ok (xs := xs) fun y hy => h y (List.mem_cons_of_mem _ hy)
theorem loopN_cons (f : α → S → Res S) (x : α) (xs : List α) (s : S) : loopN f (x :: xs) s = (f x s).bind fun s' => loopN f xs s' := rfl
theorem loopR_cons (f : α → S → Res (Out S ρ)) (x : α) (xs : List α) (s : S) : loopR f (x :: xs) s = (f x s).bind fun o => match o with
    | .nx s' => loopR f xs s'
    | .br s' => .ok (.nx s')
    | .rt r => .ok (.rt r) := rfl
end
abbrev XH (X : Ec → Int → Prop) (E : XK) (K : PySem.W.Frag) (I C : Hp) : Prop := ∀ c i, X c i → PX E K I C c i
section
variable {E : XK} {K : PySem.W.Frag} {σ : L2.St} {I C H : Hp} {α β γ ω S ρ μ : Type} {R : Rp α} {te : TE} {ta : TA} {tt : TT} {tz tu tw : TS} {D : Ends} {m : Res α} {Q : ω → Prop} {X : Ec → Int → Prop}
/-! ### calls of defs -/
theorem x_call {T : Rt α} {f : α → Res β} {R : Rp β} (h : EvA E K ta σ I C m T) : EvX E K (tCall (spP K T f R) [] E ta) σ I C (un f m) R := fun I1 C1 H1 e e' s Q q =>
  h I1 C1 H1 e e' s _ ((Post.bind q).mono (fun a p vs I2 H2 e2 s2 rv => by
    refine ⟨I2, C1, a, s2, by rw [List.append_nil]; exact rv, Post.mono (m := f a) p (fun b z v I3 H3 e3 s3 rw => z v I3 H3 (e2.trans e3) s3 rw) fun c i z => z.mono e2 (Ex.refl _)⟩) fun _ _ z => z)
/-! ### statements -/
theorem s_asg {i : Nat} {k : α → Res ω} (h : EvX E K te σ I C m R) (s : St I C H) (hX : XH X E K I C) (hm : Post (m.bind k) Q X)
    (next : ∀ a v I2 H2, Ex I I2 → St I2 C H2 → R.r a v I2 C → Post (k a) Q X → tz D (σ.set i (some v)) H2) : tSeq (tAsg te (gName i)) tz D σ H :=
  h I C H (Ex.refl _) (Ex.refl _) s _ ((Post.bind hm).mono (fun a p v I2 H2 e2 s2 rv => next a v I2 H2 e2 s2 rv p) hX)
theorem s_asgG {g : TG} {P : α → L2.St → Hp → Hp → Prop} {k : α → Res ω} (hg : Tg K g R σ P) (h : EvX E K te σ I C m R) (s : St I C H) (hX : XH X E K I C) (hm : Post (m.bind k) Q X)
    (next : ∀ a σ2 I2 H2, Ex I I2 → St I2 C H2 → P a σ2 I2 C → Post (k a) Q X → tz D σ2 H2) : tSeq (tAsg te g) tz D σ H :=
  h I C H (Ex.refl _) (Ex.refl _) s _ ((Post.bind hm).mono (fun a p v I2 H2 e2 s2 rv => hg a v I2 C H2 _ s2 rv fun σ2 pa => next a σ2 I2 H2 e2 s2 pa p) hX)
theorem s_ret {k : α → Res ω} (h : EvX E K te σ I C m R) (s : St I C H) (hX : XH X E K I C) (hm : Post (m.bind k) Q X)
    (next : ∀ a v I2 H2, Ex I I2 → St I2 C H2 → R.r a v I2 C → Post (k a) Q X → D.rt v H2) : tSeq (tRet te) tz D σ H :=
  h I C H (Ex.refl _) (Ex.refl _) s _ ((Post.bind hm).mono (fun a p v I2 H2 e2 s2 rv => next a v I2 H2 e2 s2 rv p) hX)
theorem s_expr {k : α → Res ω} (h : EvX E K te σ I C m R) (s : St I C H) (hX : XH X E K I C) (hm : Post (m.bind k) Q X)
    (next : ∀ a I2 H2, Ex I I2 → St I2 C H2 → Post (k a) Q X → tz D σ H2) : tSeq (tDrop te) tz D σ H :=
  h I C H (Ex.refl _) (Ex.refl _) s _ ((Post.bind hm).mono (fun a p v I2 H2 e2 s2 rv => next a I2 H2 e2 s2 p) hX)
theorem s_if {c : Res Bool} {m1 m2 : Res ω} (h : EvT E K tt σ I C c) (s : St I C H) (hX : XH X E K I C) (hm : Post (ifR c m1 m2) Q X)
    (h1 : ∀ I2 H2, Ex I I2 → St I2 C H2 → Post m1 Q X → tu { D with nx := tz D } σ H2) (h2 : ∀ I2 H2, Ex I I2 → St I2 C H2 → Post m2 Q X → tw { D with nx := tz D } σ H2) : tSeq (tIfS tt tu tw) tz D σ H :=
  h I C H (Ex.refl _) (Ex.refl _) s _ ((Post.bind hm).mono (fun b p I2 H2 e2 s2 => by
    cases b with
    | true => exact h1 I2 H2 e2 s2 p
    | false => exact h2 I2 H2 e2 s2 p) hX)
/-- an if whose ways meet: the word P of what stands behind it -/
theorem s_ifj (P : S → L2.St → Hp → Hp → Prop) {c : Res Bool} {m1 m2 : Res S} {k : S → Res ω} (h : EvT E K tt σ I C c) (s : St I C H) (hX : XH X E K I C) (hm : Post ((ifR c m1 m2).bind k) Q X)
    (h1 : ∀ (N : L2.St → Hp → Prop) I2 H2, Ex I I2 → St I2 C H2 → Post m1 (fun s' => ∀ σ2 I3 C3 H3, Ex I I3 → St I3 C3 H3 → P s' σ2 I3 C3 → N σ2 H3) X → tu { D with nx := N } σ H2)
    (h2 : ∀ (N : L2.St → Hp → Prop) I2 H2, Ex I I2 → St I2 C H2 → Post m2 (fun s' => ∀ σ2 I3 C3 H3, Ex I I3 → St I3 C3 H3 → P s' σ2 I3 C3 → N σ2 H3) X → tw { D with nx := N } σ H2)
    (next : ∀ s' σ2 I3 C3 H3, Ex I I3 → St I3 C3 H3 → P s' σ2 I3 C3 → Post (k s') Q X → tz D σ2 H3) : Evl.tCut (tIfS tt tu tw) tz D σ H := by
  refine ⟨fun σ2 H3 => ∃ s' I3 C3, Ex I I3 ∧ St I3 C3 H3 ∧ P s' σ2 I3 C3 ∧ Post (k s') Q X, ?_, fun σ2 H3 ⟨s', I3, C3, e3, s3, p, q⟩ => next s' σ2 I3 C3 H3 e3 s3 p q⟩
  refine h I C H (Ex.refl _) (Ex.refl _) s _ ((Post.bind (Post.bind hm)).mono (fun b p I2 H2 e2 s2 => ?_) hX)
  cases b with
  | true => exact h1 _ I2 H2 e2 s2 (Post.mono (m := m1) p (fun s' z σ2 I3 C3 H3 e3 s3 pp => ⟨s', I3, C3, e3, s3, pp, z⟩) fun _ _ z => z)
  | false => exact h2 _ I2 H2 e2 s2 (Post.mono (m := m2) p (fun s' z σ2 I3 C3 H3 e3 s3 pp => ⟨s', I3, C3, e3, s3, pp, z⟩) fun _ _ z => z)
/-- the same, a way may return -/
theorem s_ifr (P : S → L2.St → Hp → Hp → Prop) {c : Res Bool} {m1 m2 : Res (Out S ρ)} {k : Out S ρ → Res ω} (h : EvT E K tt σ I C c) (s : St I C H) (hX : XH X E K I C) (hm : Post ((ifR c m1 m2).bind k) Q X)
    (h1 : ∀ (N : L2.St → Hp → Prop) I2 H2, Ex I I2 → St I2 C H2 → Post m1 (fun o => match o with
      | .nx s' => ∀ σ2 I3 C3 H3, Ex I I3 → St I3 C3 H3 → P s' σ2 I3 C3 → N σ2 H3
      | o => Post (k o) Q X) X → tu { D with nx := N } σ H2)
    (h2 : ∀ (N : L2.St → Hp → Prop) I2 H2, Ex I I2 → St I2 C H2 → Post m2 (fun o => match o with
      | .nx s' => ∀ σ2 I3 C3 H3, Ex I I3 → St I3 C3 H3 → P s' σ2 I3 C3 → N σ2 H3
      | o => Post (k o) Q X) X → tw { D with nx := N } σ H2)
    (next : ∀ s' σ2 I3 C3 H3, Ex I I3 → St I3 C3 H3 → P s' σ2 I3 C3 → Post (k (.nx s')) Q X → tz D σ2 H3) : Evl.tCut (tIfS tt tu tw) tz D σ H := by
  refine ⟨fun σ2 H3 => ∃ s' I3 C3, Ex I I3 ∧ St I3 C3 H3 ∧ P s' σ2 I3 C3 ∧ Post (k (.nx s')) Q X, ?_, fun σ2 H3 ⟨s', I3, C3, e3, s3, p, q⟩ => next s' σ2 I3 C3 H3 e3 s3 p q⟩
  refine h I C H (Ex.refl _) (Ex.refl _) s _ ((Post.bind (Post.bind hm)).mono (fun b p I2 H2 e2 s2 => ?_) hX)
  cases b with
  | true => exact h1 _ I2 H2 e2 s2 (Post.mono (m := m1) p (fun o z => by
      cases o with
      | nx s' => exact fun σ2 I3 C3 H3 e3 s3 pp => ⟨s', I3, C3, e3, s3, pp, z⟩
      | br s' => exact z
      | rt r => exact z) fun _ _ z => z)
  | false => exact h2 _ I2 H2 e2 s2 (Post.mono (m := m2) p (fun o z => by
      cases o with
      | nx s' => exact fun σ2 I3 C3 H3 e3 s3 pp => ⟨s', I3, C3, e3, s3, pp, z⟩
      | br s' => exact z
      | rt r => exact z) fun _ _ z => z)
/-! ### loops -/
theorem s_forN (P : S → L2.St → Hp → Hp → Prop) {wi : TI} {g : TG} {kp : Hp → Prop} {m : Res (List α)} {f : α → S → Res S} {s0 : S} {k : S → Res ω} (hi : EvI E K wi σ I C kp m R) (s : St I C H) (hX : XH X E K I C) (hm : Post ((m.bind fun xs => loopN f xs s0).bind k) Q X)
    (h0 : ∀ I2, Ex I I2 → P s0 σ I2 C) (hk : ∀ s' σ' I' C', P s' σ' I' C' → kp C') (hP : ∀ s' σ' I' I2 C', Ex I' I2 → P s' σ' I' C' → P s' σ' I2 C')
    (body : ∀ (N : L2.St → Hp → Prop) x v s' σ' I' C' H', Ex I I' → St I' C' H' → P s' σ' I' C' → R.r x v I' C' → Post (f x s') (fun s2 => ∀ σ2 I3 C3 H3, Ex I' I3 → St I3 C3 H3 → P s2 σ2 I3 C3 → N σ2 H3) X →
      g v σ' H' fun σ2 H2 => tu { D with nx := N, ct := N, bk := tz D } σ2 H2)
    (next : ∀ s' σ' I' C' H', Ex I I' → St I' C' H' → P s' σ' I' C' → Post (k s') Q X → tz D σ' H') : tSeq (tFor wi g tu) tz D σ H :=
  hi I C H (Ex.refl _) (Ex.refl _) s _ ((Post.bind (Post.bind hm)).mono (fun xs q2 J G Y I2 H2 e2 s2 hz w hG hY => by
    refine for_it w (fun i σ' H' => ∃ s' I' C', Ex I2 I' ∧ St I' C' H' ∧ P s' σ' I' C' ∧ Post ((loopN f (xs.drop i) s').bind k) Q X) ⟨s0, I2, C, Ex.refl _, s2, h0 I2 e2, by rw [List.drop_zero]; exact Post.of_bind q2⟩
      (fun i σ' H' hi ⟨s', I', C', e3, s3, p, _⟩ => hG I' C' H' e3 (hk _ _ _ _ p) s3) (fun i x σ' H1 H' hi ⟨s', I', C', e3, s3, p, po⟩ y => ?_) (fun σ' H' ⟨s', I', C', e3, s3, p, po⟩ => ?_)
    · obtain ⟨a, ha⟩ : ∃ a, xs[i]? = some a := ⟨xs[i], by simp [hi]⟩
      rw [drop_cons ha] at po
      obtain ⟨I4, e4, s4, ra⟩ := hY i a x I' C' H1 H' ha e3 (hk _ _ _ _ p) s3 y
      exact body _ a x s' σ' I4 C' H' (e2.trans (e3.trans e4)) s4 (hP _ _ _ _ _ e4 p) ra ((Post.bind (Post.bind po)).mono (fun s3 z σ2 I5 C5 H5 e5 s5 p5 => ⟨s3, I5, C5, e3.trans (e4.trans e5), s5, p5, Post.of_bind z⟩) fun _ _ z => z)
    · rw [List.drop_length] at po
      exact next s' σ' I' C' H' (e2.trans e3) s3 p po) hX)
/-- .. a turn may break or return -/
theorem s_forR (P : S → L2.St → Hp → Hp → Prop) {wi : TI} {g : TG} {kp : Hp → Prop} {m : Res (List α)} {f : α → S → Res (Out S ρ)} {s0 : S} {k : Out S ρ → Res ω} (hi : EvI E K wi σ I C kp m R) (s : St I C H) (hX : XH X E K I C) (hm : Post ((m.bind fun xs => loopR f xs s0).bind k) Q X)
    (h0 : ∀ I2, Ex I I2 → P s0 σ I2 C) (hk : ∀ s' σ' I' C', P s' σ' I' C' → kp C') (hP : ∀ s' σ' I' I2 C', Ex I' I2 → P s' σ' I' C' → P s' σ' I2 C')
    (body : ∀ (N : L2.St → Hp → Prop) x v s' σ' I' C' H', Ex I I' → St I' C' H' → P s' σ' I' C' → R.r x v I' C' → Post (f x s') (fun o => match o with
        | .nx s2 => ∀ σ2 I3 C3 H3, Ex I' I3 → St I3 C3 H3 → P s2 σ2 I3 C3 → N σ2 H3
        | .br s2 => ∀ σ2 I3 C3 H3, Ex I' I3 → St I3 C3 H3 → P s2 σ2 I3 C3 → tz D σ2 H3
        | .rt r => Post (k (.rt r)) Q X) X →
      g v σ' H' fun σ2 H2 => tu { D with nx := N, ct := N, bk := tz D } σ2 H2)
    (next : ∀ s' σ' I' C' H', Ex I I' → St I' C' H' → P s' σ' I' C' → Post (k (.nx s')) Q X → tz D σ' H') : tSeq (tFor wi g tu) tz D σ H :=
  hi I C H (Ex.refl _) (Ex.refl _) s _ ((Post.bind (Post.bind hm)).mono (fun xs q2 J G Y I2 H2 e2 s2 hz w hG hY => by
    refine for_it w (fun i σ' H' => ∃ s' I' C', Ex I2 I' ∧ St I' C' H' ∧ P s' σ' I' C' ∧ Post ((loopR f (xs.drop i) s').bind k) Q X) ⟨s0, I2, C, Ex.refl _, s2, h0 I2 e2, by rw [List.drop_zero]; exact Post.of_bind q2⟩
      (fun i σ' H' hi ⟨s', I', C', e3, s3, p, _⟩ => hG I' C' H' e3 (hk _ _ _ _ p) s3) (fun i x σ' H1 H' hi ⟨s', I', C', e3, s3, p, po⟩ y => ?_) (fun σ' H' ⟨s', I', C', e3, s3, p, po⟩ => ?_)
    · obtain ⟨a, ha⟩ : ∃ a, xs[i]? = some a := ⟨xs[i], by simp [hi]⟩
      rw [drop_cons ha] at po
      obtain ⟨I4, e4, s4, ra⟩ := hY i a x I' C' H1 H' ha e3 (hk _ _ _ _ p) s3 y
      refine body _ a x s' σ' I4 C' H' (e2.trans (e3.trans e4)) s4 (hP _ _ _ _ _ e4 p) ra ((Post.bind (Post.bind po)).mono (fun o z => ?_) fun _ _ z => z)
      cases o with
      | nx s3 => exact fun σ2 I5 C5 H5 e5 s5 p5 => ⟨s3, I5, C5, e3.trans (e4.trans e5), s5, p5, Post.of_bind z⟩
      | br s3 => exact fun σ2 I5 C5 H5 e5 s5 p5 => next s3 σ2 I5 C5 H5 (e2.trans (e3.trans (e4.trans e5))) s5 p5 z
      | rt r => exact z
    · rw [List.drop_length] at po
      exact next s' σ' I' C' H' (e2.trans e3) s3 p po) hX)
theorem s_while (P : S → L2.St → Hp → Hp → Prop) {n : Nat} {c : S → Res Bool} {f : S → Res (Out S ρ)} {s0 : S} {k : Out S ρ → Res ω} (s : St I C H) (hm : Post ((whileF c f n s0).bind k) Q X)
    (h0 : P s0 σ I C)
    (cond : ∀ s' σ' I' C', Ex I I' → P s' σ' I' C' → EvT E K tt σ' I' C' (c s') ∧ XH X E K I' C') (hP : ∀ s' σ' I' I2 C', Ex I' I2 → P s' σ' I' C' → P s' σ' I2 C')
    (body : ∀ (N : L2.St → Hp → Prop) s' σ' I' C' H', Ex I I' → St I' C' H' → P s' σ' I' C' → Post (f s') (fun o => match o with
        | .nx s2 => ∀ σ2 I3 C3 H3, Ex I' I3 → St I3 C3 H3 → P s2 σ2 I3 C3 → N σ2 H3
        | .br s2 => ∀ σ2 I3 C3 H3, Ex I' I3 → St I3 C3 H3 → P s2 σ2 I3 C3 → tz D σ2 H3
        | .rt r => Post (k (.rt r)) Q X) X → tu { D with nx := N, ct := N, bk := tz D } σ' H')
    (next : ∀ s' σ' I' C' H', Ex I I' → St I' C' H' → P s' σ' I' C' → Post (k (.nx s')) Q X → tz D σ' H') : tSeq (tWhile tt tu) tz D σ H := by
  refine ⟨fun n σ' H' => ∃ s' I' C', Ex I I' ∧ St I' C' H' ∧ P s' σ' I' C' ∧ Post ((whileF c f n s').bind k) Q X, ⟨n, s0, I, C, Ex.refl _, s, h0, hm⟩, ?_⟩
  rintro n σ' H' ⟨s', I', C', e1, s1, p, po⟩
  cases n with
  | zero => exact po.elim
  | succ n =>
    obtain ⟨hc, hx⟩ := cond s' σ' I' C' e1 p
    refine hc I' C' H' (Ex.refl _) (Ex.refl _) s1 _ ((Post.bind (Post.bind po)).mono (fun b q I2 H2 e2 s2 => ?_) hx)
    cases b with
    | true =>
      refine ⟨fun σ2 H3 => ∃ s' I' C', Ex I I' ∧ St I' C' H3 ∧ P s' σ2 I' C' ∧ Post ((whileF c f n s').bind k) Q X, fun σ2 H3 z => ⟨n, Nat.lt_succ_self _, z⟩, ?_⟩
      refine body _ s' σ' I2 C' H2 (e1.trans e2) s2 (hP _ _ _ _ _ e2 p) ((Post.bind q).mono (fun o z => ?_) fun _ _ z => z)
      cases o with
      | nx s3 => exact fun σ2 I5 C5 H5 e5 s5 p5 => ⟨s3, I5, C5, e1.trans (e2.trans e5), s5, p5, Post.of_bind z⟩
      | br s3 => exact fun σ2 I5 C5 H5 e5 s5 p5 => next s3 σ2 I5 C5 H5 (e1.trans (e2.trans e5)) s5 p5 z
      | rt r => exact z
    | false => exact next s' σ' I2 C' H2 (e1.trans e2) s2 (hP _ _ _ _ _ e2 p) q
/-! ### cells -/
/-- xs = []  (xs will change) -/
theorem s_newL {i : Nat} (s : St I C H) (next : ∀ p H2, C p = none → H p = none → St I (upd C p (.lst [])) H2 → tz D (σ.set i (some (.ref p))) H2) : tSeq (tAsg (tLst tNil) (gName i)) tz D σ H :=
  ⟨Nat.zero_le _, fun p hp => next p _ (s.c.free hp) hp (s.newC hp)⟩
/-- xs = e, a new list of e's (xs will change) -/
theorem s_asgC {i : Nat} {k : List α → Res ω} {m : Res (List α)} {te : TE} (h : EvX E K te σ I C m (pL R)) (s : St I C H) (hX : XH X E K I C) (hm : Post (m.bind k) Q X)
    (fresh : True) (next : ∀ a v I2 H2, Ex I I2 → St I2 C H2 → (pL R).r a v I2 C → Post (k a) Q X → tz D (σ.set i (some v)) H2) : tSeq (tAsg te (gName i)) tz D σ H :=
  s_asg h s hX hm next
/-- xs.append(e) -/
@[irreducible] def push (xs : List α) (x : α) : Res (List α) := if xs.length < 1000000 then .ok (xs ++ [x]) else .bad
theorem push_ok {xs : List α} {x : α} (h : xs.length < 1000000) : push xs x = .ok (xs ++ [x]) := by
  unfold push
  exact if_pos h
theorem s_app {i : Nat} {p : Addr} {xs : List α} {vs : List V} {k : List α → Res ω} [Im R] {m : Res α} (hv : σ[i]? = some (some (.ref p))) (hc : C p = some (.lst vs)) (hr : A2 (fun x u => R.r x u I C) xs vs) (h : EvX E K te σ I C m R) (s : St I C H) (hX : XH X E K I C)
    (hm : Post ((m.bind fun x => push xs x).bind k) Q X)
    (next : ∀ ys vs' I2 H2, Ex I I2 → St I2 (upd C p (.lst vs')) H2 → vs'.length ≤ sizeLine → A2 (fun x u => R.r x u I2 (upd C p (.lst vs'))) ys vs' → Post (k ys) Q X → tz D σ H2) :
    tSeq (tDrop (tBM K "list" rAppend (tVar i) (tCons te tNil))) tz D σ H :=
  ⟨.ref p, hv, .inl ⟨rfl, vs, .inl (.inl (s.c p _ hc))⟩, h I C H (Ex.refl _) (Ex.refl _) s _ ((Post.bind (Post.bind hm)).mono (fun a po v I2 H2 e2 s2 rv => by
    unfold push at po
    split at po
    · rename_i hl
      have hn := hr.len
      have hl2 : vs.length < sizeLine := by
        rw [hn]
        exact Nat.lt_of_lt_of_le hl (by decide)
      refine ⟨p, vs, v, rfl, rfl, s2.c p _ hc, hl2, next (xs ++ [a]) (vs ++ [v]) I2 _ e2 (s2.set hc) (by rw [List.length_append]; exact hl2) ?_ po⟩
      exact (hr.imp fun _ _ h => R.to e2 h).append (.one (Im.im rv))
    · exact po.elim) hX)⟩
/-- xs[e1] = e2 -/
def setR (xs : List α) (i : Int) (x : α) : Res (List α) := match ixN xs.length i with
  | some j => .ok (xs.set j x)
  | none => .bad
theorem s_setL {i : Nat} {p : Addr} {xs : List α} {vs : List V} {k : List α → Res ω} [Im R] {ti : TE} {m : Res α} {mi : Res Int} (hv : σ[i]? = some (some (.ref p))) (hc : C p = some (.lst vs)) (hl : vs.length ≤ sizeLine) (hr : A2 (fun x u => R.r x u I C) xs vs)
    (h : EvX E K te σ I C m R) (hi : EvX E K ti σ I C mi pI) (s : St I C H) (hX : XH X E K I C) (hm : Post ((m.bind fun x => mi.bind fun j => setR xs j x).bind k) Q X)
    (next : ∀ ys vs' I2 H2, Ex I I2 → St I2 (upd C p (.lst vs')) H2 → vs'.length ≤ sizeLine → A2 (fun x u => R.r x u I2 (upd C p (.lst vs'))) ys vs' → Post (k ys) Q X → tz D σ H2) :
    tSeq (tAsg te (gSub (tVar i) ti rSetL)) tz D σ H :=
  h I C H (Ex.refl _) (Ex.refl _) s _ ((Post.bind (Post.bind hm)).mono (fun a po v I2 H2 e2 s2 rv => by
    refine ⟨.ref p, hv, hi I2 C H2 e2 (Ex.refl _) s2 _ ((Post.bind po).mono (fun j po2 w I3 H3 e3 s3 rw => ?_) fun c i z => (hX c i z).mono e2 (Ex.refl _))⟩
    have hw : w = .int j := rw
    subst hw
    unfold setR at po2
    have hn := hr.len
    cases hj : ixN xs.length j with
    | none =>
      rw [hj] at po2
      exact po2.elim
    | some l =>
      rw [hj] at po2
      refine ⟨p, vs, j, l, rfl, rfl, s3.c p _ hc, by rw [hn]; exact hj, next (xs.set l a) (vs.set l v) I3 _ (e2.trans e3) (s3.set hc) (by rw [List.length_set]; exact hl) ?_ po2⟩
      exact A2.set (Im.im (R.mono e3 (Ex.refl _) rv)) l (hr.imp fun _ _ h => R.to (e2.trans e3) h)) hX)
end
end Sd

namespace Sd
open PySem L2
/-! ### what draws from the pool (the list at p, its places M) -/
def off (C : Hp) (p : Addr) : Hp := fun a => if a = p then none else C a
theorem off_same {C : Hp} {p : Addr} : off C p p = none := if_pos rfl
theorem off_ne {C : Hp} {p q : Addr} (h : q ≠ p) : off C p q = C q := if_neg h
theorem off_ex {C : Hp} {p : Addr} : Ex (off C p) C := fun a o h => by
  unfold off at h
  split at h
  · cases h
  · exact h
theorem off_upd {C : Hp} {p : Addr} {o : HO} : Ex (off C p) (upd C p o) := fun a u h => by
  unfold off at h
  split at h
  · cases h
  · rename_i hne
    rw [upd_ne hne]
    exact h
theorem Ex.over {C C1 : Hp} {p : Addr} {o : HO} (h : Ex C C1) (hp : C p = none) : Ex C (upd C1 p o) := fun a u e => by
  rw [upd_ne (ne_of_none e hp)]
  exact h a u e
theorem upd_id {C : Hp} {p : Addr} {o : HO} (h : C p = some o) : upd C p o = C := by
  funext a
  by_cases q : a = p
  · rw [q, upd_same, h]
  · exact upd_ne q
def EvM (E : XK) (K : PySem.W.Frag) (p : Addr) {μ : Type} (M : Rt μ) (te : TE) (σ : L2.St) (I Cp : Hp) {β : Type} (m : μ → Res (β × μ)) (R : Rp β) : Prop :=
  ∀ x ws I1 C1 H1, Ex I I1 → Ex Cp C1 → St I1 C1 H1 → C1 p = some (.lst ws) → M.r x ws I1 C1 → ∀ Q : VK, Post (m x) (fun b => ∀ v ws' I2 H2, Ex I1 I2 → St I2 (upd C1 p (.lst ws')) H2 → M.r b.2 ws' I2 (upd C1 p (.lst ws')) → R.r b.1 v I2 (upd C1 p (.lst ws')) → Q v H2) (fun _ _ => False) → te σ H1 Q
def EvTM (E : XK) (K : PySem.W.Frag) (p : Addr) {μ : Type} (M : Rt μ) (tt : TT) (σ : L2.St) (I Cp : Hp) (m : μ → Res (Bool × μ)) : Prop :=
  ∀ x ws I1 C1 H1, Ex I I1 → Ex Cp C1 → St I1 C1 H1 → C1 p = some (.lst ws) → M.r x ws I1 C1 → ∀ Q : Bool → Hp → Prop, Post (m x) (fun b => ∀ ws' I2 H2, Ex I1 I2 → St I2 (upd C1 p (.lst ws')) H2 → M.r b.2 ws' I2 (upd C1 p (.lst ws')) → Q b.1 H2) (fun _ _ => False) → tt σ H1 Q
def EvAM (E : XK) (K : PySem.W.Frag) (p : Addr) {μ : Type} (M : Rt μ) (ta : TA) (σ : L2.St) (I Cp : Hp) {α : Type} (m : μ → Res (α × μ)) (T : Rt α) : Prop :=
  ∀ x ws I1 C1 H1, Ex I I1 → Ex Cp C1 → St I1 C1 H1 → C1 p = some (.lst ws) → M.r x ws I1 C1 → ∀ Q : List V → Hp → Prop, Post (m x) (fun b => ∀ vs ws' I2 H2, Ex I1 I2 → St I2 (upd C1 p (.lst ws')) H2 → M.r b.2 ws' I2 (upd C1 p (.lst ws')) → T.r b.1 vs I2 (upd C1 p (.lst ws')) → Q vs H2) (fun _ _ => False) → ta σ H1 Q
def EvIM (E : XK) (K : PySem.W.Frag) (p : Addr) {μ : Type} (M : Rt μ) (wi : TI) (σ : L2.St) (I Cp : Hp) {α : Type} (m : μ → Res (List α × μ)) (R : Rp α) : Prop :=
  ∀ x ws I1 C1 H1, Ex I I1 → Ex Cp C1 → St I1 C1 H1 → C1 p = some (.lst ws) → M.r x ws I1 C1 → ∀ Kt : L2.It → Hp → Prop, Post (m x) (fun b => ∀ ws' J G Y I2 H2, Ex I1 I2 → St I2 (upd C1 p (.lst ws')) H2 → M.r b.2 ws' I2 (upd C1 p (.lst ws')) → b.1.length ≤ sizeLine → Walk J b.1.length G Y →
    (∀ I3 C3 H3, Ex I2 I3 → St I3 C3 H3 → G H3) →
    (∀ i x v I3 C3 H3 H4, b.1[i]? = some x → Ex I2 I3 → St I3 C3 H3 → Y i H3 v H4 → ∃ I4, Ex I3 I4 ∧ St I4 C3 H4 ∧ R.r x v I4 C3) → Kt J H2) (fun _ _ => False) → wi σ H1 Kt
section
variable {μ α β γ : Type}
def liftM (m : Res α) : μ → Res (α × μ) := fun x => m.bind fun a => .ok (a, x)
def unM (f : α → Res γ) (m : μ → Res (α × μ)) : μ → Res (γ × μ) := fun x => (m x).bind fun b => (f b.1).bind fun c => .ok (c, b.2)
def binM (f : α → β → Res γ) (m : μ → Res (α × μ)) (n : μ → Res (β × μ)) : μ → Res (γ × μ) := fun x => (m x).bind fun b => (n b.2).bind fun d => (f b.1 d.1).bind fun c => .ok (c, d.2)
def pairM (m : μ → Res (α × μ)) (n : μ → Res (β × μ)) : μ → Res ((α × β) × μ) := fun x => (m x).bind fun b => (n b.2).bind fun d => .ok ((b.1, d.1), d.2)
def consM (m : μ → Res (α × μ)) (n : μ → Res (List α × μ)) : μ → Res (List α × μ) := fun x => (m x).bind fun b => (n b.2).bind fun d => .ok (b.1 :: d.1, d.2)
def callM (f : α → μ → Res (β × μ)) (m : μ → Res (α × μ)) : μ → Res (β × μ) := fun x => (m x).bind fun b => f b.1 b.2
def andM (m n : μ → Res (Bool × μ)) : μ → Res (Bool × μ) := fun x => (m x).bind fun b => if b.1 = true then n b.2 else .ok (false, b.2)
def orM (m n : μ → Res (Bool × μ)) : μ → Res (Bool × μ) := fun x => (m x).bind fun b => if b.1 = true then .ok (true, b.2) else n b.2
def ifM (c : μ → Res (Bool × μ)) (m n : μ → Res (α × μ)) : μ → Res (α × μ) := fun x => (c x).bind fun b => if b.1 = true then m b.2 else n b.2
@[simp] theorem liftM_ok (a : α) (x : μ) : liftM (.ok a) x = .ok (a, x) := rfl
theorem liftM_eq (m : Res α) (x : μ) : liftM m x = m.bind fun a => .ok (a, x) := rfl
end
section
variable {E : XK} {K : PySem.W.Frag} {p : Addr} {μ : Type} {M : Rt μ} {σ : L2.St} {I Cp : Hp} {α β γ : Type} {R : Rp α} {S : Rp β} {T : Rp γ} {te ta tb : TE} {tt tu : TT} {m : μ → Res (α × μ)} {n : μ → Res (β × μ)}
theorem m_pure {m : Res α} (h : EvX E K te σ I Cp m R) : EvM E K p M te σ I Cp (liftM m) R := fun x ws I1 C1 H1 e e' s hc hx Q q =>
  h I1 C1 H1 e e' s Q ((Post.bind q).mono (fun a z v I2 H2 e2 s2 rv => by
    have z2 := z v ws I2 H2 e2
    rw [upd_id hc] at z2
    exact z2 s2 (M.mono e2 (Ex.refl _) hx) rv) fun _ _ z => z.elim)
theorem m_un [It M] {r : V → Hp → VK → Prop} {f : α → Res γ} (hr : ∀ E, Op1 E K r f R T) (hp : Cp p = none) (h : EvM E K p M ta σ I Cp m R) : EvM E K p M (tUn r ta) σ I Cp (unM f m) T := fun x ws I1 C1 H1 e e' s hc hx Q q =>
  h x ws I1 C1 H1 e e' s hc hx _ ((Post.bind q).mono (fun b z v ws' I2 H2 e2 s2 hx2 rv => hr E I2 _ H2 b.1 v s2 rv Q ((Post.bind z).mono (fun c z w I3 H3 e3 s3 rw => z w ws' I3 H3 (e2.trans e3) s3 (M.mono e3 (Ex.refl _) hx2) rw) fun _ _ z => z.elim)) fun _ _ z => z)
theorem m_op [It M] [Im R] {r : R2} {f : α → β → Res γ} (hr : ∀ E, Op2 E K r f R S T) (hp : Cp p = none) (h1 : EvM E K p M ta σ I Cp m R) (h2 : EvM E K p M tb σ I Cp n S) : EvM E K p M (tOp r ta tb) σ I Cp (binM f m n) T := fun x ws I1 C1 H1 e e' s hc hx Q q =>
  h1 x ws I1 C1 H1 e e' s hc hx _ ((Post.bind q).mono (fun b z v ws' I2 H2 e2 s2 hx2 rv =>
    h2 b.2 ws' I2 _ H2 (e.trans e2) (e'.over hp) s2 upd_same hx2 _ ((Post.bind z).mono (fun d z2 w ws2 I3 H3 e3 s3 hx3 rw => by
      rw [upd_upd] at s3 hx3 rw
      exact hr E I3 _ H3 b.1 d.1 v w s3 (R.to e3 rv) rw Q ((Post.bind z2).mono (fun c z3 w I4 H4 e4 s4 rw => z3 w ws2 I4 H4 (e2.trans (e3.trans e4)) s4 (M.mono e4 (Ex.refl _) hx3) rw) fun _ _ z => z.elim)) fun _ _ z => z)) fun _ _ z => z)
theorem m_k [It M] {r : R2} {f : α → Res γ} {k : Int} (hr : ∀ E, Op1 E K (fun x H Q => r x (.int k) H Q) f R T) (hp : Cp p = none) (h : EvM E K p M te σ I Cp m R) : EvM E K p M (tOp r te (tC (.int k))) σ I Cp (unM f m) T :=
  fun x ws I1 C1 H1 e e' s hc hx Q q => m_un (r := fun x H Q => r x (.int k) H Q) hr hp h x ws I1 C1 H1 e e' s hc hx Q q
theorem am_one (h : EvM E K p M te σ I Cp m R) : EvAM E K p M (tCons te tNil) σ I Cp m (t1 R) := fun x ws I1 C1 H1 e e' s hc hx Q q =>
  h x ws I1 C1 H1 e e' s hc hx _ (q.mono (fun b z v ws' I2 H2 e2 s2 hx2 rv => z [v] ws' I2 H2 e2 s2 hx2 ⟨v, rfl, rv⟩) fun _ _ z => z)
theorem am_cons [Im R] {tr : TA} {A : Rt β} (hp : Cp p = none) (h1 : EvM E K p M te σ I Cp m R) (h2 : EvAM E K p M tr σ I Cp n A) : EvAM E K p M (tCons te tr) σ I Cp (pairM m n) (tc R A) := fun x ws I1 C1 H1 e e' s hc hx Q q =>
  h1 x ws I1 C1 H1 e e' s hc hx _ ((Post.bind q).mono (fun b z v ws' I2 H2 e2 s2 hx2 rv =>
    h2 b.2 ws' I2 _ H2 (e.trans e2) (e'.over hp) s2 upd_same hx2 _ ((Post.bind z).mono (fun d z2 vs ws2 I3 H3 e3 s3 hx3 rw => by
      rw [upd_upd] at s3 hx3 rw
      exact z2 (v :: vs) ws2 I3 H3 (e2.trans e3) s3 hx3 ⟨v, vs, rfl, R.to e3 rv, rw⟩) fun _ _ z => z)) fun _ _ z => z)
/-- a name's value, whatever the draws change -/
theorem am_var {tr : TA} {A : Rt β} {i : Nat} {v : V} {a : α} (hv : σ[i]? = some (some v)) (r : R.r a v I Cp) (hp : Cp p = none) (h2 : EvAM E K p M tr σ I Cp n A) : EvAM E K p M (tCons (tVar i) tr) σ I Cp (pairM (liftM (.ok a)) n) (tc R A) := fun x ws I1 C1 H1 e e' s hc hx Q q =>
  ⟨v, hv, h2 x ws I1 C1 H1 e e' s hc hx _ ((Post.bind (m := n x) (k := fun d => .ok ((a, d.1), d.2)) q).mono (fun d z2 vs ws2 I3 H3 e3 s3 hx3 rw => z2 (v :: vs) ws2 I3 H3 e3 s3 hx3 ⟨v, vs, rfl, R.mono (e.trans e3) (e'.over hp) r, rw⟩) fun _ _ z => z)⟩
theorem am_var1 {i : Nat} {v : V} {a : α} (hv : σ[i]? = some (some v)) (r : R.r a v I Cp) : EvAM E K p M (tCons (tVar i) tNil) σ I Cp (liftM (.ok a) : μ → Res (α × μ)) (t1 R) := am_one (m_pure (x_var hv r))
theorem am_pure {tr : TA} {A : Rt α} {m : Res α} (h : EvA E K tr σ I Cp m A) : EvAM E K p M tr σ I Cp (liftM m) A := fun x ws I1 C1 H1 e e' s hc hx Q q =>
  h I1 C1 H1 e e' s Q ((Post.bind q).mono (fun a z v I2 H2 e2 s2 rv => by
    have z2 := z v ws I2 H2 e2
    rw [upd_id hc] at z2
    exact z2 s2 (M.mono e2 (Ex.refl _) hx) rv) fun _ _ z => z.elim)
theorem alm_nil : EvAM E K p M tNil σ I Cp (liftM (.ok ([] : List α)) : μ → Res (List α × μ)) (tL R 0) := am_pure al_nil
theorem alm_cons [Im R] {tr : TA} {k : Nat} {n : μ → Res (List α × μ)} (hp : Cp p = none) (h1 : EvM E K p M te σ I Cp m R) (h2 : EvAM E K p M tr σ I Cp n (tL R k)) : EvAM E K p M (tCons te tr) σ I Cp (consM m n) (tL R (k + 1)) := fun x ws I1 C1 H1 e e' s hc hx Q q =>
  h1 x ws I1 C1 H1 e e' s hc hx _ ((Post.bind q).mono (fun b z v ws' I2 H2 e2 s2 hx2 rv =>
    h2 b.2 ws' I2 _ H2 (e.trans e2) (e'.over hp) s2 upd_same hx2 _ ((Post.bind z).mono (fun d z2 vs ws2 I3 H3 e3 s3 hx3 rw => by
      rw [upd_upd] at s3 hx3 rw
      exact z2 (v :: vs) ws2 I3 H3 (e2.trans e3) s3 hx3 ⟨by rw [List.length_cons, rw.1], .cons (R.to e3 rv) rw.2⟩) fun _ _ z => z)) fun _ _ z => z)
theorem m_lst [It M] {tr : TA} {k : Nat} {m : μ → Res (List α × μ)} (h : EvAM E K p M tr σ I Cp m (tL R k)) (hn : k ≤ 100) : EvM E K p M (tLst tr) σ I Cp m (pL R) := fun x ws I1 C1 H1 e e' s hc hx Q q =>
  h x ws I1 C1 H1 e e' s hc hx _ (q.mono (fun b z vs ws' I2 H2 e2 s2 hx2 rv => by
    have hl : vs.length ≤ sizeLine := by
      rw [rv.1]
      exact Nat.le_trans hn (by decide)
    refine ⟨hl, fun t ht => z (.ref t) ws' (upd I2 t (.lst vs)) _ (e2.trans (Ex.new (s2.i.free ht))) (s2.newI ht) (M.mono (Ex.new (s2.i.free ht)) (Ex.refl _) hx2) ⟨t, vs, rfl, upd_same, hl, rv.2.imp fun _ _ => R.mono (Ex.new (s2.i.free ht)) (Ex.refl _)⟩⟩) fun _ _ z => z)
theorem m_tup [It M] {tr : TA} {A : Rt α} (h : EvAM E K p M tr σ I Cp m A) (hn : A.n ≤ 100) : EvM E K p M (tTup tr) σ I Cp m (pT A) := fun x ws I1 C1 H1 e e' s hc hx Q q =>
  h x ws I1 C1 H1 e e' s hc hx _ (q.mono (fun b z vs ws' I2 H2 e2 s2 hx2 rv => ⟨by rw [A.len rv]; exact Nat.le_trans hn (by decide), fun t ht => z (.ref t) ws' (upd I2 t (.tup vs)) _ (e2.trans (Ex.new (s2.i.free ht))) (s2.newI ht) (M.mono (Ex.new (s2.i.free ht)) (Ex.refl _) hx2) ⟨t, vs, rfl, upd_same, A.mono (Ex.new (s2.i.free ht)) (Ex.refl _) rv⟩⟩) fun _ _ z => z)
theorem m_lstD [It M] {tr : TA} {A : Rt α} (h : EvAM E K p M tr σ I Cp m A) (hn : A.n ≤ 100) : EvM E K p M (tLst tr) σ I Cp m (pD A) := fun x ws I1 C1 H1 e e' s hc hx Q q =>
  h x ws I1 C1 H1 e e' s hc hx _ (q.mono (fun b z vs ws' I2 H2 e2 s2 hx2 rv => ⟨by rw [A.len rv]; exact Nat.le_trans hn (by decide), fun t ht => z (.ref t) ws' (upd I2 t (.lst vs)) _ (e2.trans (Ex.new (s2.i.free ht))) (s2.newI ht) (M.mono (Ex.new (s2.i.free ht)) (Ex.refl _) hx2) ⟨t, vs, rfl, upd_same, A.mono (Ex.new (s2.i.free ht)) (Ex.refl _) rv⟩⟩) fun _ _ z => z)
theorem m_cb [It M] {r : List V → Hp → VK → Prop} {f : α → Res γ} {A : Rt α} {tr : TA} (hr : ∀ E, OpL E K r f A T) (h : EvAM E K p M tr σ I Cp m A) : EvM E K p M (tCB r tr) σ I Cp (unM f m) T := fun x ws I1 C1 H1 e e' s hc hx Q q =>
  h x ws I1 C1 H1 e e' s hc hx _ ((Post.bind q).mono (fun b z vs ws' I2 H2 e2 s2 hx2 rv => hr E I2 _ H2 b.1 vs s2 rv Q ((Post.bind z).mono (fun c z w I3 H3 e3 s3 rw => z w ws' I3 H3 (e2.trans e3) s3 (M.mono e3 (Ex.refl _) hx2) rw) fun _ _ z => z.elim)) fun _ _ z => z)
/-- f(a ..), f a def that draws nothing -/
theorem m_callP [It M] {A : Rt α} {f : α → Res γ} {tr : TA} (h : EvAM E K p M tr σ I Cp m A) : EvM E K p M (tCall (spP K A f T) [] E tr) σ I Cp (unM f m) T := fun x ws I1 C1 H1 e e' s hc hx Q q =>
  h x ws I1 C1 H1 e e' s hc hx _ ((Post.bind q).mono (fun b z vs ws' I2 H2 e2 s2 hx2 rv => by
    refine ⟨I2, _, b.1, s2, by rw [List.append_nil]; exact rv, (Post.bind z).mono (fun c z w I3 H3 e3 s3 rw => z w ws' I3 H3 (e2.trans e3) s3 (M.mono e3 (Ex.refl _) hx2) rw) fun _ _ z => z.elim⟩) fun _ _ z => z)
/-- f(pool, a ..) -/
theorem m_callM {A : Rt α} {f : α → μ → Res (β × μ)} {tr : TA} {i : Nat} (hv : σ[i]? = some (some (.ref p))) (h : EvAM E K p M tr σ I Cp m A) : EvM E K p M (tCall (spM M A f S) [] E (tCons (tVar i) tr)) σ I Cp (callM f m) S := fun x ws I1 C1 H1 e e' s hc hx Q q =>
  ⟨.ref p, hv, h x ws I1 C1 H1 e e' s hc hx _ ((Post.bind q).mono (fun b z vs ws' I2 H2 e2 s2 hx2 rv => by
    refine ⟨I2, _, p, ws', vs, b.2, b.1, by rw [List.append_nil], s2, upd_same, hx2, rv, Post.mono (m := f b.1 b.2) z (fun c z w ws2 I3 H3 e3 s3 hx3 rw => ?_) fun _ _ z => z⟩
    rw [upd_upd] at s3 hx3 rw
    exact z w ws2 I3 H3 (e2.trans e3) s3 hx3 rw) fun _ _ z => z)⟩
theorem m_callM0 {f : Unit → μ → Res (β × μ)} {i : Nat} (hv : σ[i]? = some (some (.ref p))) : EvM E K p M (tCall (spM M (⟨fun _ vs _ _ => vs = [], fun _ _ h => h, 0, fun h => by rw [h]; rfl⟩ : Rt Unit) f S) [] E (tCons (tVar i) tNil)) σ I Cp (fun x => f () x) S := fun x ws I1 C1 H1 e e' s hc hx Q q =>
  ⟨.ref p, hv, I1, C1, p, ws, [], x, (), rfl, s, hc, hx, rfl, q⟩
theorem tm_pure {m : Res Bool} (h : EvT E K tt σ I Cp m) : EvTM E K p M tt σ I Cp (liftM m) := fun x ws I1 C1 H1 e e' s hc hx Q q =>
  h I1 C1 H1 e e' s Q ((Post.bind q).mono (fun a z I2 H2 e2 s2 => by
    have z2 := z ws I2 H2 e2
    rw [upd_id hc] at z2
    exact z2 s2 (M.mono e2 (Ex.refl _) hx)) fun _ _ z => z.elim)
theorem tm_test {m : μ → Res (Bool × μ)} (h : EvM E K p M te σ I Cp m pB) : EvTM E K p M (tTest te) σ I Cp m := fun x ws I1 C1 H1 e e' s hc hx Q q => h x ws I1 C1 H1 e e' s hc hx _ (q.mono (fun b z v ws' I2 H2 e2 s2 hx2 rv => ⟨b.1, rv, z ws' I2 H2 e2 s2 hx2⟩) fun _ _ z => z)
theorem tm_B {m : μ → Res (Bool × μ)} (h : EvM E K p M te σ I Cp m pB) : EvTM E K p M (tB te) σ I Cp m := fun x ws I1 C1 H1 e e' s hc hx Q q => h x ws I1 C1 H1 e e' s hc hx _ (q.mono (fun b z v ws' I2 H2 e2 s2 hx2 rv => ⟨b.1, rv, z ws' I2 H2 e2 s2 hx2⟩) fun _ _ z => z)
theorem tm_and {m n : μ → Res (Bool × μ)} (hp : Cp p = none) (h1 : EvTM E K p M tt σ I Cp m) (h2 : EvTM E K p M tu σ I Cp n) : EvTM E K p M (tAnd tt tu) σ I Cp (andM m n) := fun x ws I1 C1 H1 e e' s hc hx Q q =>
  h1 x ws I1 C1 H1 e e' s hc hx _ ((Post.bind q).mono (fun b z ws' I2 H2 e2 s2 hx2 => by
    obtain ⟨c, y⟩ := b
    cases c with
    | true => exact h2 y ws' I2 _ H2 (e.trans e2) (e'.over hp) s2 upd_same hx2 Q (Post.mono (m := n y) z (fun b z ws2 I3 H3 e3 s3 hx3 => by
        rw [upd_upd] at s3 hx3
        exact z ws2 I3 H3 (e2.trans e3) s3 hx3) fun _ _ z => z)
    | false => exact z ws' I2 H2 e2 s2 hx2) fun _ _ z => z)
theorem tm_or {m n : μ → Res (Bool × μ)} (hp : Cp p = none) (h1 : EvTM E K p M tt σ I Cp m) (h2 : EvTM E K p M tu σ I Cp n) : EvTM E K p M (tOr tt tu) σ I Cp (orM m n) := fun x ws I1 C1 H1 e e' s hc hx Q q =>
  h1 x ws I1 C1 H1 e e' s hc hx _ ((Post.bind q).mono (fun b z ws' I2 H2 e2 s2 hx2 => by
    obtain ⟨c, y⟩ := b
    cases c with
    | false => exact h2 y ws' I2 _ H2 (e.trans e2) (e'.over hp) s2 upd_same hx2 Q (Post.mono (m := n y) z (fun b z ws2 I3 H3 e3 s3 hx3 => by
        rw [upd_upd] at s3 hx3
        exact z ws2 I3 H3 (e2.trans e3) s3 hx3) fun _ _ z => z)
    | true => exact z ws' I2 H2 e2 s2 hx2) fun _ _ z => z)
theorem tm_not {m : μ → Res (Bool × μ)} (h : EvTM E K p M tt σ I Cp m) : EvTM E K p M (tNot tt) σ I Cp (unM notR m) := fun x ws I1 C1 H1 e e' s hc hx Q q =>
  h x ws I1 C1 H1 e e' s hc hx _ ((Post.bind q).mono (fun b z ws' I2 H2 e2 s2 hx2 => z ws' I2 H2 e2 s2 hx2) fun _ _ z => z)
/-! sources -/
theorem im_pure {wi : TI} {m : Res (List α)} (h : EvI E K wi σ I Cp kpT m R) : EvIM E K p M wi σ I Cp (liftM m) R := fun x ws I1 C1 H1 e e' s hc hx Q q =>
  h I1 C1 H1 e e' s Q ((Post.bind q).mono (fun a z J G Y I2 H2 e2 s2 hz w hG hY => by
    have z2 := z ws J G Y I2 H2 e2
    rw [upd_id hc] at z2
    exact z2 s2 (M.mono e2 (Ex.refl _) hx) hz w (fun I3 C3 H3 e3 s3 => hG I3 C3 H3 e3 trivial s3) (fun i x v I3 C3 H3 H4 hx e3 s3 y => hY i x v I3 C3 H3 H4 hx e3 trivial s3 y)) fun _ _ z => z.elim)
theorem im_rng1 [It M] {tr : TA} {m : μ → Res (Int × μ)} (h : EvAM E K p M tr σ I Cp m (t1 pI)) : EvIM E K p M (iRng1 tr) σ I Cp (unM rng1 m) pI := fun x ws I1 C1 H1 e e' s hc hx Q q =>
  h x ws I1 C1 H1 e e' s hc hx _ ((Post.bind q).mono (fun b z vs ws' I2 H2 e2 s2 hx2 ⟨v, hv, rv⟩ => by
    have z := Post.bind z
    unfold rng1 at z
    split at z
    · rename_i hn
      have hv1 : v = .int b.1 := rv
      subst hv hv1
      refine ⟨b.1, rfl, by omega, by omega, z ws' (Itr 0 b.1.toNat) (fun _ => True) (YFn fun i => .int (0 + i)) I2 H2 e2 s2 hx2 (by rw [rangeL_length]; exact Nat.le_trans (show (b.1 - 0).toNat ≤ 1000000 by omega) (by decide)) (by rw [rangeL_length, Int.sub_zero]; exact walk_range) (fun _ _ _ _ _ => trivial) (fun i x v' I3 C3 H3 H4 hx e3 s3 y => ?_)⟩
      obtain ⟨rfl, rfl⟩ := y
      rw [rangeL_get hx]
      exact ⟨I3, Ex.refl _, s3, rfl⟩
    · exact z.elim) fun _ _ z => z)
/-! ### comprehensions that draw -/
def mapM (f : α → μ → Res (β × μ)) : List α → μ → Res (List β × μ)
  | [], x => .ok ([], x)
  | a :: as, x => (f a x).bind fun b => (mapM f as b.2).bind fun c => .ok (b.1 :: c.1, c.2)
def LcM (p : Addr) (M : Rt μ) (S : Rp β) (I C : Hp) (D : Addr) (rest : μ → Res (List β × μ)) (W : List β × μ → Prop) (n : Nat) (H : Hp) : Prop :=
  ∃ (ys : List β) (vs ws : List V) (x : μ) (I' : Hp), Ex I I' ∧ St I' (upd (upd C p (.lst ws)) D (.lst vs)) H ∧ M.r x ws I' C ∧ vs.length ≤ n ∧ A2 (fun x u => S.r x u I' C) ys vs ∧ Post (rest x) (fun zs => W (ys ++ zs.1, zs.2)) (fun _ _ => False)
theorem m_lc [It M] [Im S] {wi : TI} {g : TG} {vs : List Nat} {m : μ → Res (List α × μ)} {f : α → μ → Res (β × μ)} {P : α → L2.St → Hp → Hp → Prop} (hp : Cp p = none) (hi : EvIM E K p M wi σ I Cp m R) (hg : Tg K g R (wipe σ vs) P)
    (hw : ∀ x σ2 I' C', P x σ2 I' C' → wipe σ2 vs = wipe σ vs)
    (hf : ∀ x σ2 I' C', Ex I I' → Ex Cp C' → P x σ2 I' C' → EvM EZ K p M te σ2 I' (off C' p) (f x) S) : EvM E K p M (tLc wi g tYes te vs) σ I Cp (fun x => (m x).bind fun b => mapM f b.1 b.2) (pL S) := fun x ws I1 C1 H1 e e' s hc hx Q q =>
  hi x ws I1 C1 H1 e e' s hc hx _ ((Post.bind q).mono (fun b q2 ws2 J G Y I2 H2 e2 s2 hx2 hz w hG hY D hD => by
    have cD2 : upd C1 p (.lst ws2) D = none := s2.c.free hD
    have hDp : D ≠ p := fun z => by
      rw [z, upd_same] at cD2
      cases cD2
    have cD : C1 D = none := by
      rw [upd_ne hDp] at cD2
      exact cD2
    refine lc_it w (fun i H => LcM p M S I2 C1 D (mapM f (b.1.drop i)) (fun c => ∀ v ws' I2 H2, Ex I1 I2 → St I2 (upd C1 p (.lst ws')) H2 → M.r c.2 ws' I2 (upd C1 p (.lst ws')) → (pL S).r c.1 v I2 (upd C1 p (.lst ws')) → Q v H2) i H) ⟨[], [], ws2, b.2, I2, Ex.refl _, s2.newC hD, It.im hx2, Nat.le_refl _, .nil, ?_⟩
      (fun i H hi ⟨_, _, _, _, I', e3, s3, _⟩ => hG I' _ H e3 s3) (fun i v H H' hi ⟨ys, us, ws3, x3, I', e3, s3, hx3, hn, r3, po⟩ y => ?_) (fun H ⟨ys, us, ws3, x3, I', e3, s3, hx3, hn, r3, po⟩ => ?_)
    · rw [List.drop_zero]
      exact q2
    · obtain ⟨a, ha⟩ : ∃ a, b.1[i]? = some a := ⟨b.1[i], by simp [hi]⟩
      rw [drop_cons ha] at po
      obtain ⟨I4, e4, s4, ra⟩ := hY i a v I' _ H H' ha e3 s3 y
      refine hg a v I4 _ H' _ s4 ra fun σ2 pa => ⟨hw _ _ _ _ pa, ?_⟩
      have eI : Ex I I4 := e.trans (e2.trans (e3.trans e4))
      have eC : Ex Cp (upd (upd C1 p (.lst ws3)) D (.lst us)) := (e'.over hp).trans (Ex.new (by rw [upd_ne hDp]; exact cD))
      have hcp : upd (upd C1 p (.lst ws3)) D (.lst us) p = some (.lst ws3) := by rw [upd_ne hDp.symm, upd_same]
      show te σ2 H' _
      refine hf a σ2 I4 _ eI eC pa x3 ws3 I4 _ H' (Ex.refl _) off_ex s4 hcp (It.im (M.mono e4 (Ex.refl _) hx3)) _ ((Post.bind po).mono (fun c po2 v2 ws4 I6 H6 e6 s6 hx6 rv => ?_) fun _ _ z => z)
      have hswap : upd (upd (upd C1 p (.lst ws3)) D (.lst us)) p (.lst ws4) = upd (upd C1 p (.lst ws4)) D (.lst us) := by
        funext a
        by_cases h1 : a = p
        · rw [h1, upd_same, upd_ne hDp.symm, upd_same]
        · rw [upd_ne h1]
          by_cases h2 : a = D
          · rw [h2, upd_same, upd_same]
          · rw [upd_ne h2, upd_ne h2, upd_ne h1, upd_ne h1]
      rw [hswap] at s6 hx6 rv
      have hsz : us.length < sizeLine := Nat.lt_of_le_of_lt hn (Nat.lt_of_lt_of_le hi hz)
      refine ⟨us, s6.c D _ upd_same, hsz, ⟨ys ++ [c.1], us ++ [v2], ws4, c.2, I6, e3.trans (e4.trans e6), ?_, It.im hx6, by rw [List.length_append]; exact Nat.succ_le_succ hn, ?_, ?_⟩⟩
      · have z := s6.set (o := .lst (us ++ [v2])) (p := D) upd_same
        rw [upd_upd] at z
        exact z
      · exact (r3.imp fun _ _ => S.mono (e4.trans e6) (Ex.refl _)).append (.one (Im.im rv))
      · refine (Post.bind po2).mono (fun zs z => ?_) fun _ _ z => z
        show ∀ v ws' I2 H2, Ex I1 I2 → St I2 (upd C1 p (.lst ws')) H2 → M.r zs.2 ws' I2 (upd C1 p (.lst ws')) → (pL S).r (ys ++ [c.1] ++ zs.1) v I2 (upd C1 p (.lst ws')) → Q v H2
        rw [List.append_assoc]
        exact z
    · rw [List.drop_length] at po
      have po2 : ∀ v ws' I2 H2, Ex I1 I2 → St I2 (upd C1 p (.lst ws')) H2 → M.r x3 ws' I2 (upd C1 p (.lst ws')) → (pL S).r (ys ++ []) v I2 (upd C1 p (.lst ws')) → Q v H2 := po
      rw [List.append_nil] at po2
      have sf := s3.frz (p := D) upd_same
      have iD : I' D = none := s3.freeI upd_same
      refine po2 (.ref D) ws3 (upd I' D (.lst us)) H (e2.trans (e3.trans (Ex.new iD))) (sf.less fun a o ha => ?_) (It.im (M.mono (Ex.new iD) (Ex.refl _) hx3)) ⟨D, us, rfl, upd_same, Nat.le_trans hn hz, r3.imp fun _ _ h => Im.im (S.mono (Ex.new iD) (Ex.refl _) h)⟩
      have hne : a ≠ D := fun z => by
        rw [z, upd_ne hDp, cD] at ha
        cases ha
      show (if a = D then none else upd (upd C1 p (.lst ws3)) D (.lst us) a) = some o
      rw [if_neg hne, upd_ne hne]
      exact ha) fun _ _ z => z)
end
section
variable {E : XK} {K : PySem.W.Frag} {p : Addr} {μ : Type} {M : Rt μ} {σ : L2.St} {I C H : Hp} {α β ω S ρ : Type} {R : Rp α} {te : TE} {tt : TT} {tz tu tw : TS} {D : Ends} {m : μ → Res (α × μ)} {Q : ω → Prop} {x : μ} {ws : List V}
abbrev XF : Ec → Int → Prop := fun _ _ => False
theorem sm_asg {i : Nat} {k : α × μ → Res ω} (h : EvM E K p M te σ I (off C p) m R) (s : St I C H) (hc : C p = some (.lst ws)) (hx : M.r x ws I C) (hm : Post ((m x).bind k) Q XF)
    (next : ∀ b v ws' I2 H2, Ex I I2 → St I2 (upd C p (.lst ws')) H2 → M.r b.2 ws' I2 (upd C p (.lst ws')) → R.r b.1 v I2 (upd C p (.lst ws')) → Post (k b) Q XF → tz D (σ.set i (some v)) H2) : tSeq (tAsg te (gName i)) tz D σ H :=
  h x ws I C H (Ex.refl _) off_ex s hc hx _ ((Post.bind hm).mono (fun b z v ws' I2 H2 e2 s2 hx2 rv => next b v ws' I2 H2 e2 s2 hx2 rv z) fun _ _ z => z)
theorem sm_ret {k : α × μ → Res ω} (h : EvM E K p M te σ I (off C p) m R) (s : St I C H) (hc : C p = some (.lst ws)) (hx : M.r x ws I C) (hm : Post ((m x).bind k) Q XF)
    (next : ∀ b v ws' I2 H2, Ex I I2 → St I2 (upd C p (.lst ws')) H2 → M.r b.2 ws' I2 (upd C p (.lst ws')) → R.r b.1 v I2 (upd C p (.lst ws')) → Post (k b) Q XF → D.rt v H2) : tSeq (tRet te) tz D σ H :=
  h x ws I C H (Ex.refl _) off_ex s hc hx _ ((Post.bind hm).mono (fun b z v ws' I2 H2 e2 s2 hx2 rv => next b v ws' I2 H2 e2 s2 hx2 rv z) fun _ _ z => z)
theorem sm_expr {k : α × μ → Res ω} (h : EvM E K p M te σ I (off C p) m R) (s : St I C H) (hc : C p = some (.lst ws)) (hx : M.r x ws I C) (hm : Post ((m x).bind k) Q XF)
    (next : ∀ b ws' I2 H2, Ex I I2 → St I2 (upd C p (.lst ws')) H2 → M.r b.2 ws' I2 (upd C p (.lst ws')) → Post (k b) Q XF → tz D σ H2) : tSeq (tDrop te) tz D σ H :=
  h x ws I C H (Ex.refl _) off_ex s hc hx _ ((Post.bind hm).mono (fun b z v ws' I2 H2 e2 s2 hx2 rv => next b ws' I2 H2 e2 s2 hx2 z) fun _ _ z => z)
def ifMR (c : μ → Res (Bool × μ)) (x : μ) (m n : μ → Res α) : Res α := (c x).bind fun b => if b.1 = true then m b.2 else n b.2
theorem sm_if {c : μ → Res (Bool × μ)} {m1 m2 : μ → Res ω} (h : EvTM E K p M tt σ I (off C p) c) (s : St I C H) (hc : C p = some (.lst ws)) (hx : M.r x ws I C) (hm : Post (ifMR c x m1 m2) Q XF)
    (h1 : ∀ y ws' I2 H2, Ex I I2 → St I2 (upd C p (.lst ws')) H2 → M.r y ws' I2 (upd C p (.lst ws')) → Post (m1 y) Q XF → tu { D with nx := tz D } σ H2)
    (h2 : ∀ y ws' I2 H2, Ex I I2 → St I2 (upd C p (.lst ws')) H2 → M.r y ws' I2 (upd C p (.lst ws')) → Post (m2 y) Q XF → tw { D with nx := tz D } σ H2) : tSeq (tIfS tt tu tw) tz D σ H :=
  h x ws I C H (Ex.refl _) off_ex s hc hx _ ((Post.bind hm).mono (fun b z ws' I2 H2 e2 s2 hx2 => by
    obtain ⟨c, y⟩ := b
    cases c with
    | true => exact h1 y ws' I2 H2 e2 s2 hx2 z
    | false => exact h2 y ws' I2 H2 e2 s2 hx2 z) fun _ _ z => z)
theorem sm_ifj (P : S → L2.St → Hp → Hp → Prop) {c : μ → Res (Bool × μ)} {m1 m2 : μ → Res S} {k : S → Res ω} (h : EvTM E K p M tt σ I (off C p) c) (s : St I C H) (hc : C p = some (.lst ws)) (hx : M.r x ws I C) (hm : Post ((ifMR c x m1 m2).bind k) Q XF)
    (h1 : ∀ (N : L2.St → Hp → Prop) y ws' I2 H2, Ex I I2 → St I2 (upd C p (.lst ws')) H2 → M.r y ws' I2 (upd C p (.lst ws')) → Post (m1 y) (fun s' => ∀ σ2 I3 C3 H3, Ex I I3 → St I3 C3 H3 → P s' σ2 I3 C3 → N σ2 H3) XF → tu { D with nx := N } σ H2)
    (h2 : ∀ (N : L2.St → Hp → Prop) y ws' I2 H2, Ex I I2 → St I2 (upd C p (.lst ws')) H2 → M.r y ws' I2 (upd C p (.lst ws')) → Post (m2 y) (fun s' => ∀ σ2 I3 C3 H3, Ex I I3 → St I3 C3 H3 → P s' σ2 I3 C3 → N σ2 H3) XF → tw { D with nx := N } σ H2)
    (next : ∀ s' σ2 I3 C3 H3, Ex I I3 → St I3 C3 H3 → P s' σ2 I3 C3 → Post (k s') Q XF → tz D σ2 H3) : Evl.tCut (tIfS tt tu tw) tz D σ H := by
  refine ⟨fun σ2 H3 => ∃ s' I3 C3, Ex I I3 ∧ St I3 C3 H3 ∧ P s' σ2 I3 C3 ∧ Post (k s') Q XF, ?_, fun σ2 H3 ⟨s', I3, C3, e3, s3, p, q⟩ => next s' σ2 I3 C3 H3 e3 s3 p q⟩
  refine h x ws I C H (Ex.refl _) off_ex s hc hx _ ((Post.bind (Post.bind hm)).mono (fun b z ws' I2 H2 e2 s2 hx2 => ?_) fun _ _ z => z)
  obtain ⟨c, y⟩ := b
  cases c with
  | true => exact h1 _ y ws' I2 H2 e2 s2 hx2 (Post.mono (m := m1 y) z (fun s' z σ2 I3 C3 H3 e3 s3 pp => ⟨s', I3, C3, e3, s3, pp, z⟩) fun _ _ z => z)
  | false => exact h2 _ y ws' I2 H2 e2 s2 hx2 (Post.mono (m := m2 y) z (fun s' z σ2 I3 C3 H3 e3 s3 pp => ⟨s', I3, C3, e3, s3, pp, z⟩) fun _ _ z => z)
/-- a for whose source draws -/
theorem sm_forN (P : S → L2.St → Hp → Hp → Prop) {wi : TI} {g : TG} {m : μ → Res (List α × μ)} {f : α → S → Res S} {s0 : μ → S} {k : S → Res ω} (hi : EvIM E K p M wi σ I (off C p) m R) (s : St I C H) (hc : C p = some (.lst ws)) (hx : M.r x ws I C) (hm : Post (((m x).bind fun b => loopN f b.1 (s0 b.2)).bind k) Q XF)
    (h0 : ∀ y ws' I2, Ex I I2 → M.r y ws' I2 (upd C p (.lst ws')) → P (s0 y) σ I2 (upd C p (.lst ws'))) (hP : ∀ s' σ' I' I2 C', Ex I' I2 → P s' σ' I' C' → P s' σ' I2 C')
    (body : ∀ (N : L2.St → Hp → Prop) x v s' σ' I' C' H', Ex I I' → St I' C' H' → P s' σ' I' C' → R.r x v I' C' → Post (f x s') (fun s2 => ∀ σ2 I3 C3 H3, Ex I' I3 → St I3 C3 H3 → P s2 σ2 I3 C3 → N σ2 H3) XF →
      g v σ' H' fun σ2 H2 => tu { D with nx := N, ct := N, bk := tz D } σ2 H2)
    (next : ∀ s' σ' I' C' H', Ex I I' → St I' C' H' → P s' σ' I' C' → Post (k s') Q XF → tz D σ' H') : tSeq (tFor wi g tu) tz D σ H :=
  hi x ws I C H (Ex.refl _) off_ex s hc hx _ ((Post.bind (Post.bind hm)).mono (fun b q2 ws2 J G Y I2 H2 e2 s2 hx2 hz w hG hY => by
    refine for_it w (fun i σ' H' => ∃ s' I' C', Ex I2 I' ∧ St I' C' H' ∧ P s' σ' I' C' ∧ Post ((loopN f (b.1.drop i) s').bind k) Q XF) ⟨s0 b.2, I2, _, Ex.refl _, s2, h0 _ _ I2 e2 hx2, by rw [List.drop_zero]; exact Post.of_bind q2⟩
      (fun i σ' H' hi ⟨s', I', C', e3, s3, p, _⟩ => hG I' C' H' e3 s3) (fun i x σ' H1 H' hi ⟨s', I', C', e3, s3, p, po⟩ y => ?_) (fun σ' H' ⟨s', I', C', e3, s3, p, po⟩ => ?_)
    · obtain ⟨a, ha⟩ : ∃ a, b.1[i]? = some a := ⟨b.1[i], by simp [hi]⟩
      rw [drop_cons ha] at po
      obtain ⟨I4, e4, s4, ra⟩ := hY i a x I' C' H1 H' ha e3 s3 y
      exact body _ a x s' σ' I4 C' H' (e2.trans (e3.trans e4)) s4 (hP _ _ _ _ _ e4 p) ra ((Post.bind (Post.bind po)).mono (fun s3 z σ2 I5 C5 H5 e5 s5 p5 => ⟨s3, I5, C5, e3.trans (e4.trans e5), s5, p5, Post.of_bind z⟩) fun _ _ z => z)
    · rw [List.drop_length] at po
      exact next s' σ' I' C' H' (e2.trans e3) s3 p po) fun _ _ z => z)
/-- pool[k] = e, k written -/
theorem sm_set [It M] {i k : Nat} {g : μ → α → μ} {kk : μ → Res ω} {m : Res α} (hv : σ[i]? = some (some (.ref p))) (h : EvX E K te σ I C m R) (j : Pk M k g R) (s : St I C H) (hc : C p = some (.lst ws)) (hx : M.r x ws I C) (hm : Post (m.bind fun a => kk (g x a)) Q XF)
    (next : ∀ y ws' I2 H2, Ex I I2 → St I2 (upd C p (.lst ws')) H2 → M.r y ws' I2 (upd C p (.lst ws')) → Post (kk y) Q XF → tz D σ H2) : tSeq (tAsg te (gSub (tVar i) (tC (.int (k : Int))) rSetL)) tz D σ H :=
  h I C H (Ex.refl _) (Ex.refl _) s _ ((Post.bind hm).mono (fun a z v I2 H2 e2 s2 rv => by
    obtain ⟨q, hl⟩ := j x ws I2 C a v (M.mono e2 (Ex.refl _) hx) rv
    refine ⟨.ref p, hv, p, ws, k, k, rfl, rfl, s2.c p _ hc, ?_, next (g x a) (ws.set k v) I2 _ e2 (s2.set hc) (It.im q) z⟩
    unfold ixN
    rw [if_pos (by omega), if_pos (by omega)]
    rfl) fun _ _ z => z.elim)
/-- pool[k], k written -/
theorem x_pool {i k : Nat} {f : μ → β} {S : Rp β} (hv : σ[i]? = some (some (.ref p))) (hc : C p = some (.lst ws)) (hx : M.r x ws I C) (j : Pj M k f S) : EvX E K (tOp (rIxL K) (tVar i) (tC (.int (k : Int)))) σ I C (.ok (f x)) S := fun I1 C1 H1 e e' s Q q => by
  obtain ⟨w, hw, r⟩ := j x ws I1 C1 (M.mono e e' hx)
  exact ⟨.ref p, hv, p, ws, k, w, rfl, rfl, .inl (.inl (s.c p _ (e' p _ hc))), atI_nat hw, PQ.now (R := S) (a := f x) q s r⟩
end
end Sd

namespace Sd
open PySem L2
/-! ### forms for the printed proofs -/
abbrev Z : Hp := fun _ => none
theorem exz {C : Hp} : Ex Z C := fun _ _ h => nomatch h
theorem Im.z {α : Type} {R : Rp α} [Im R] {a : α} {v : V} {I C : Hp} (h : R.r a v I C) : R.r a v I Z := Im.im h
/-- a new list of one's own -/
abbrev PN {α : Type} (R : Rp α) (I C : Hp) (Q : VK) (xs : List α) : Prop := ∀ p vs I2 H2, Ex I I2 → C p = none → St I2 (upd C p (.lst vs)) H2 → vs.length ≤ sizeLine → A2 (fun x u => R.r x u I2 C) xs vs → Q (.ref p) H2
def EvN (E : XK) (K : PySem.W.Frag) (te : TE) (σ : L2.St) (I C : Hp) {α : Type} (m : Res (List α)) (R : Rp α) : Prop :=
  ∀ I1 C1 H1, Ex I I1 → Ex C C1 → St I1 C1 H1 → ∀ Q : VK, Post m (PN R I1 C1 Q) (PX E K I1 C1) → te σ H1 Q
def Op2N (E : XK) (K : PySem.W.Frag) (r : R2) {α β γ : Type} (f : α → β → Res (List γ)) (R : Rp α) (S : Rp β) (T : Rp γ) : Prop :=
  ∀ I C H a b x y, St I C H → R.r a x I C → S.r b y I C → ∀ Q : VK, Post (f a b) (PN T I C Q) (PX E K I C) → r x y H Q
def OpLN (E : XK) (K : PySem.W.Frag) (r : List V → Hp → VK → Prop) {α γ : Type} (f : α → Res (List γ)) (R : Rt α) (T : Rp γ) : Prop :=
  ∀ I C H a vs, St I C H → R.r a vs I C → ∀ Q : VK, Post (f a) (PN T I C Q) (PX E K I C) → r vs H Q
/-- f(a ..) hands back a new list of its own -/
def spO (K : PySem.W.Frag) {α β : Type} (T : Rt α) (m : α → Res (List β)) (R : Rp β) : Sp := fun vs H Q E => ∃ (I C : Hp) (a : α), St I C H ∧ T.r a vs I C ∧ Post (m a) (PN R I C Q) (PX E K I C)
section
variable {E : XK} {K : PySem.W.Frag} {σ : L2.St} {I I' C C' H : Hp} {α β γ : Type} {R : Rp α} {S : Rp β} {T : Rp γ} {te ta tb : TE} {tt : TT}
theorem PN.of {I1 C1 : Hp} {Q : VK} {xs : List α} [Im R] (q : PQ (pL R) I1 C1 Q xs) : PN R I1 C1 Q xs := fun p vs I2 H2 e hp s hl hr => by
  have sf := s.frz (p := p) upd_same
  have iD : I2 p = none := s.freeI upd_same
  refine q (.ref p) (upd I2 p (.lst vs)) H2 (e.trans (Ex.new iD)) (sf.less fun a o ha => ?_) ⟨p, vs, rfl, upd_same, hl, hr.imp fun _ _ => R.mono (Ex.new iD) (Ex.refl _)⟩
  have hne : a ≠ p := fun z => by
    rw [z, hp] at ha
    cases ha
  show (if a = p then none else upd C1 p (.lst vs) a) = some o
  rw [if_neg hne, upd_ne hne]
  exact ha
theorem x_own [Im R] {m : Res (List α)} (h : EvN E K te σ I C m R) : EvX E K te σ I C m (pL R) := fun I1 C1 H1 e e' s Q q => h I1 C1 H1 e e' s Q (q.mono (fun xs z => PN.of z) fun _ _ z => z)
theorem PN.new {I1 C1 H1 : Hp} {Q : VK} {xs : List α} {vs : List V} (q : PN R I1 C1 Q xs) (s : St I1 C1 H1) (h : A2 (fun x u => R.r x u I1 C1) xs vs) (hl : vs.length ≤ sizeLine) : ∀ p, H1 p = none → Q (.ref p) (upd H1 p (.lst vs)) := fun p hp =>
  q p vs I1 _ (Ex.refl _) (s.c.free hp) (s.newC hp) hl h
theorem PN.up {I1 I2 C1 : Hp} {Q : VK} {xs : List α} (e : Ex I1 I2) (q : PN R I1 C1 Q xs) : PN R I2 C1 Q xs := fun p vs I3 H3 e3 hp s hl hr => q p vs I3 H3 (e.trans e3) hp s hl hr
theorem n_op {r : R2} {f : α → β → Res (List γ)} {m : Res α} {n : Res β} (hr : Op2N E K r f R S T) (h1 : EvX E K ta σ I C m R) (h2 : EvX E K tb σ I C n S) : EvN E K (tOp r ta tb) σ I C (bin f m n) T := fun I1 C1 H1 e e' s Q q =>
  h1 I1 C1 H1 e e' s _ ((Post.bind q).mono (fun a p x I2 H2 e2 s2 rx =>
    h2 I2 C1 H2 (e.trans e2) e' s2 _ ((Post.bind p).mono (fun b p2 y I3 H3 e3 s3 ry =>
      hr I3 C1 H3 a b x y s3 (R.mono e3 (Ex.refl _) rx) ry Q (p2.mono (fun c z => z.up (e2.trans e3)) fun c i z => z.mono (e2.trans e3) (Ex.refl _))) fun c i z => z.mono e2 (Ex.refl _)))
    fun _ _ z => z)
theorem n_cb {r : List V → Hp → VK → Prop} {f : α → Res (List γ)} {A : Rt α} {tr : TA} {m : Res α} (hr : OpLN E K r f A T) (h : EvA E K tr σ I C m A) : EvN E K (tCB r tr) σ I C (un f m) T := fun I1 C1 H1 e e' s Q q =>
  h I1 C1 H1 e e' s _ ((Post.bind q).mono (fun a p vs I2 H2 e2 s2 rv => hr I2 C1 H2 a vs s2 rv Q (p.mono (fun c z => z.up e2) fun c i z => z.mono e2 (Ex.refl _))) fun _ _ z => z)
theorem n_call {A : Rt α} {f : α → Res (List β)} {m : Res α} {tr : TA} (h : EvA E K tr σ I C m A) : EvN E K (tCall (spO K A f S) [] E tr) σ I C (un f m) S := fun I1 C1 H1 e e' s Q q =>
  h I1 C1 H1 e e' s _ ((Post.bind q).mono (fun a p vs I2 H2 e2 s2 rv => ⟨I2, C1, a, s2, by rw [List.append_nil]; exact rv, Post.mono (m := f a) p (fun b z => z.up e2) fun c i z => z.mono e2 (Ex.refl _)⟩) fun _ _ z => z)
theorem n_lst {k : Nat} {m : Res (List α)} {tr : TA} (h : EvA E K tr σ I C m (tL R k)) (hn : k ≤ 100) : EvN E K (tLst tr) σ I C m R := fun I1 C1 H1 e e' s Q q =>
  h I1 C1 H1 e e' s _ (q.mono (fun a p vs I2 H2 e2 s2 rv => by
    have hl : vs.length ≤ sizeLine := by
      rw [rv.1]
      exact Nat.le_trans hn (by decide)
    exact ⟨hl, PN.new (PN.up e2 p) s2 rv.2 hl⟩) fun _ _ z => z)
theorem n_list : OpLN E K (fun xs H Q => ∃ p ys, xs = [.ref p] ∧ (SqL K H p ys ∨ SqT K H p ys) ∧ ∀ l, H l = none → Q (.ref l) (upd H l (.lst ys))) idR (t1 (pV R)) R := fun I C H a vs s hv Q q => by
  obtain ⟨v, rfl, h⟩ := hv
  obtain ⟨p, us, rfl, h2, h3, h4⟩ := pV.at s h
  exact ⟨p, us, rfl, .inl (.inl (.inl h2)), PN.new q s h4 h3⟩
theorem n_listQ : OpLN E K (fun xs H Q => ∃ p ys, xs = [.ref p] ∧ (SqL K H p ys ∨ SqT K H p ys) ∧ ∀ l, H l = none → Q (.ref l) (upd H l (.lst ys))) idR (t1 (pQ K R)) R := fun I C H a vs s hv Q q => by
  obtain ⟨v, rfl, p, us, rfl, h2, h3, h4⟩ := hv
  exact ⟨p, us, rfl, .inr (ex_t s.i h2), PN.new q s h4 h3⟩
theorem n_cat : Op2N E K rCat rCatR (pV R) (pV R) R := fun I C H a b x y s hx hy Q q => by
  unfold rCatR at q
  split at q
  · rename_i h
    obtain ⟨p, us, rfl, h2, h3, h4⟩ := pV.at s hx
    obtain ⟨p', us', rfl, h2', h3', h4'⟩ := pV.at s hy
    have hl : us.length + us'.length ≤ sizeLine := by
      rw [h4.len, h4'.len]
      exact Nat.le_trans h (by decide)
    exact ⟨p, p', us, us', rfl, rfl, h2, h2', hl, PN.new q s (h4.append h4') (by rw [List.length_append]; exact hl)⟩
  · exact q.elim
theorem n_rep : Op2N E K rRep rRepR (pV R) pI R := fun I C H a b x y s hx hy Q q => by
  unfold rRepR at q
  split at q
  · rename_i h
    obtain ⟨p, us, rfl, h2, h3, h4⟩ := pV.at s hx
    subst hy
    have hl : us.length * b.toNat ≤ sizeLine := by
      rw [h4.len]
      exact Nat.le_trans h.2 (by decide)
    exact ⟨p, b, us, rfl, rfl, h2, by omega, by omega, hl, PN.new q s (h4.rep _) (by rw [flat_len]; exact hl)⟩
  · exact q.elim
theorem n_sl {tl th : TO} {m : Res (List α)} {lo hi : Res (Option Int)} (h : EvX E K te σ I C m (pV R)) (hl : EvO E K tl σ I C lo) (hh : EvO E K th σ I C hi) : EvN E K (tSl (rSlL K) te tl th) σ I C (slR m lo hi) R := fun I1 C1 H1 e e' s Q q =>
  h I1 C1 H1 e e' s _ ((Post.bind q).mono (fun a p x I2 H2 e2 s2 rx =>
    hl I2 C1 H2 (e.trans e2) e' s2 _ ((Post.bind p).mono (fun o p2 I3 H3 e3 s3 =>
      hh I3 C1 H3 (e.trans (e2.trans e3)) e' s3 _ ((Post.bind p2).mono (fun o2 p3 I4 H4 e4 s4 => by
        obtain ⟨b, us, rfl, h2, h3, h4⟩ := pV.at s4 ((pV R).mono (e3.trans e4) (Ex.refl _) rx)
        exact ⟨b, us, rfl, .inl (.inl h2), PN.new (PN.up (e2.trans (e3.trans e4)) p3) s4 (h4.cut o o2) (Nat.le_trans (cutV_length _ _ _) h3)⟩) fun c i z => z.mono (e2.trans e3) (Ex.refl _))) fun c i z => z.mono e2 (Ex.refl _)))
    fun _ _ z => z)
theorem n_lcgK [Im S] {wi : TI} {g : TG} {tt : TT} {vs : List Nat} {p : α → Res Bool} {f : α → Res β} {P : α → L2.St → Hp → Hp → Prop} {kp : Hp → Prop} (hi : EvI E K wi σ I C kp m R) (hkp : ∀ C3, Ex C C3 → kp C3) (hg : Tg K g R (wipe σ vs) P)
    (hw : ∀ x σ2 I' C', P x σ2 I' C' → wipe σ2 vs = wipe σ vs)
    (hp : ∀ x σ2 I' C', Ex I I' → Ex C C' → P x σ2 I' C' → EvT EZ K tt σ2 I' C' (p x))
    (hf : ∀ x σ2 I' C', Ex I I' → Ex C C' → P x σ2 I' C' → EvX EZ K te σ2 I' C' (f x) S)
    (hm : ∀ x σ2 I' I2 C', Ex I' I2 → P x σ2 I' C' → P x σ2 I2 C') : EvN E K (tLc wi g tt te vs) σ I C (m.bind (filR p f)) S := fun I1 C1 H1 e e' s Q q =>
  hi I1 C1 H1 e e' s _ ((Post.bind q).mono (fun xs q2 J G Y I2 H2 e2 s2 hz w hG hY D hD => by
    have cD : C1 D = none := s2.c.free hD
    refine lc_it w (fun i H => Lc S I2 C1 D (filR p f (xs.drop i)) (PN S I1 C1 Q) i H) ⟨[], [], I2, Ex.refl _, s2.newC hD, Nat.le_refl _, .nil, ?_⟩ (fun i H hi ⟨_, vs', I', e3, s3, _⟩ => hG I' _ H e3 (hkp _ (e'.trans (Ex.new cD))) s3) (fun i x H H' hi ⟨ys, us, I', e3, s3, hn, r3, po⟩ y => ?_) (fun H ⟨ys, us, I', e3, s3, hn, r3, po⟩ => ?_)
    · cases hfil : filR p f xs with
      | ok zs =>
        rw [hfil] at q2
        show Post (filR p f (xs.drop 0)) _ _
        rw [List.drop_zero, hfil]
        exact q2
      | exc c i =>
        exfalso
        revert hfil
        clear q2 hG hY w hz
        induction xs with
        | nil =>
          intro z
          cases z
        | cons x xs ih =>
          unfold filR
          cases p x with
          | ok b =>
            cases b with
            | true =>
              cases f x with
              | ok y =>
                intro z
                cases hh : filR p f xs with
                | ok zs =>
                  simp only [hh] at z
                  cases z
                | exc c' i' =>
                  simp only [hh] at z
                  have z2 : (Res.exc c' i' : Res (List β)) = .exc c i := z
                  cases z2
                  exact ih hh
                | bad =>
                  simp only [hh] at z
                  cases z
              | exc _ _ => intro z; cases z
              | bad => intro z; cases z
            | false => exact ih
          | exc _ _ => intro z; cases z
          | bad => intro z; cases z
      | bad =>
        rw [hfil] at q2
        exact q2.elim
    · obtain ⟨a, ha⟩ : ∃ a, xs[i]? = some a := ⟨xs[i], by simp [hi]⟩
      rw [drop_cons ha] at po
      obtain ⟨I4, e4, s4, ra⟩ := hY i a x I' _ H H' ha e3 (hkp _ (e'.trans (Ex.new cD))) s3 y
      refine hg a x I4 _ H' _ s4 ra fun σ2 pa => ⟨hw _ _ _ _ pa, ?_⟩
      have eI : Ex I I4 := e.trans (e2.trans (e3.trans e4))
      have eC : Ex C (upd C1 D (.lst us)) := e'.trans (Ex.new cD)
      unfold filR at po
      refine hp a σ2 I4 _ eI eC pa I4 _ H' (Ex.refl _) (Ex.refl _) s4 _ ?_
      cases hpa : p a with
      | ok b =>
        rw [hpa] at po
        cases b with
        | true =>
          show ∀ I5 H5, Ex I4 I5 → St I5 (upd C1 D (.lst us)) H5 → te σ2 H5 _
          intro I5 H5 e5 s5
          refine hf a σ2 I5 _ (eI.trans e5) eC (hm _ _ _ _ _ e5 pa) I5 _ H5 (Ex.refl _) (Ex.refl _) s5 _ ?_
          cases hfa : f a with
          | ok b =>
            have po2 : Post ((filR p f (xs.drop (i + 1))).bind fun ys => .ok (b :: ys)) (fun zs => PN S I1 C1 Q (ys ++ zs)) (fun _ _ => False) := by
              have z := po
              simp only [hfa] at z
              exact z
            intro v I6 H6 e6 s6 rv
            have hsz : us.length < sizeLine := Nat.lt_of_le_of_lt hn (Nat.lt_of_lt_of_le hi hz)
            refine ⟨us, s6.c D _ upd_same, hsz, ⟨ys ++ [b], us ++ [v], I6, e3.trans (e4.trans (e5.trans e6)), ?_, by rw [List.length_append]; exact Nat.succ_le_succ hn, ?_, ?_⟩⟩
            · have z := s6.set (o := .lst (us ++ [v])) (p := D) upd_same
              rw [upd_upd] at z
              exact z
            · exact (r3.imp fun _ _ => S.mono (e4.trans (e5.trans e6)) (Ex.refl _)).append (.one (Im.im rv))
            · refine (Post.bind po2).mono (fun zs z => ?_) fun _ _ z => z
              rw [List.append_assoc]
              exact z
          | exc c j =>
            have z := po
            simp only [hfa] at z
            exact z.elim
          | bad =>
            have z := po
            simp only [hfa] at z
            exact z.elim
        | false =>
          show ∀ I5 H5, Ex I4 I5 → St I5 (upd C1 D (.lst us)) H5 → Lc S I2 C1 D (filR p f (xs.drop (i + 1))) (PN S I1 C1 Q) (i + 1) H5
          intro I5 H5 e5 s5
          exact ⟨ys, us, I5, e3.trans (e4.trans e5), s5, Nat.le_succ_of_le hn, r3.imp fun _ _ => S.mono (e4.trans e5) (Ex.refl _), po⟩
      | exc c j =>
        rw [hpa] at po
        exact po.elim
      | bad =>
        rw [hpa] at po
        exact po.elim
    · rw [List.drop_length] at po
      have po2 : PN S I1 C1 Q (ys ++ []) := po
      rw [List.append_nil] at po2
      exact po2 D us I' H (e2.trans e3) cD s3 (Nat.le_trans hn hz) r3) fun _ _ z => z)

theorem n_lcg [Im S] {wi : TI} {g : TG} {tt : TT} {vs : List Nat} {p : α → Res Bool} {f : α → Res β} {P : α → L2.St → Hp → Hp → Prop} (hi : EvI E K wi σ I C kpT m R) (hg : Tg K g R (wipe σ vs) P)
    (hw : ∀ x σ2 I' C', P x σ2 I' C' → wipe σ2 vs = wipe σ vs)
    (hp : ∀ x σ2 I' C', Ex I I' → Ex C C' → P x σ2 I' C' → EvT EZ K tt σ2 I' C' (p x))
    (hf : ∀ x σ2 I' C', Ex I I' → Ex C C' → P x σ2 I' C' → EvX EZ K te σ2 I' C' (f x) S)
    (hm : ∀ x σ2 I' I2 C', Ex I' I2 → P x σ2 I' C' → P x σ2 I2 C') : EvN E K (tLc wi g tt te vs) σ I C (m.bind (filR p f)) S := n_lcgK hi (fun _ _ => trivial) hg hw hp hf hm
theorem n_lc [Im S] {wi : TI} {g : TG} {vs : List Nat} {m : Res (List α)} {f : α → Res β} {P : α → L2.St → Hp → Hp → Prop} (hi : EvI E K wi σ I C kpT m R) (hg : Tg K g R (wipe σ vs) P)
    (hw : ∀ x σ2 I' C', P x σ2 I' C' → wipe σ2 vs = wipe σ vs)
    (hf : ∀ x σ2 I' C', Ex I I' → Ex C C' → P x σ2 I' C' → EvX EZ K te σ2 I' C' (f x) S)
    (hm : ∀ x σ2 I' I2 C', Ex I' I2 → P x σ2 I' C' → P x σ2 I2 C') : EvN E K (tLc wi g tYes te vs) σ I C (m.bind (mapR f)) S := by
  have z := n_lcg (p := fun _ => .ok true) hi hg hw (fun x σ2 I' C' _ _ _ => t_yes) hf hm
  have e : filR (fun _ => Res.ok true) f = mapR f := funext (filR_yes f)
  rw [e] at z
  exact z
theorem n_lcK [Im S] {wi : TI} {g : TG} {vs : List Nat} {m : Res (List α)} {f : α → Res β} {P : α → L2.St → Hp → Hp → Prop} {kp : Hp → Prop} (hi : EvI E K wi σ I C kp m R) (hkp : ∀ C3, Ex C C3 → kp C3) (hg : Tg K g R (wipe σ vs) P)
    (hw : ∀ x σ2 I' C', P x σ2 I' C' → wipe σ2 vs = wipe σ vs)
    (hf : ∀ x σ2 I' C', Ex I I' → Ex C C' → P x σ2 I' C' → EvX EZ K te σ2 I' C' (f x) S)
    (hm : ∀ x σ2 I' I2 C', Ex I' I2 → P x σ2 I' C' → P x σ2 I2 C') : EvN E K (tLc wi g tYes te vs) σ I C (m.bind (mapR f)) S := by
  have z := n_lcgK (p := fun _ => .ok true) hi hkp hg hw (fun x σ2 I' C' _ _ _ => t_yes) hf hm
  have e : filR (fun _ => Res.ok true) f = mapR f := funext (filR_yes f)
  rw [e] at z
  exact z
/-- sorted(pairs of ints) -/
def leP (a b : Int × Int) : Bool := decide (a.1 < b.1) || (decide (a.1 = b.1) && decide (a.2 ≤ b.2))
def insP (x : Int × Int) : List (Int × Int) → List (Int × Int)
  | [] => [x]
  | y :: ys => if leP x y = true then x :: y :: ys else y :: insP x ys
def isortP : List (Int × Int) → List (Int × Int)
  | [] => []
  | x :: xs => insP x (isortP xs)
def sortP (xs : List (Int × Int)) : Res (List (Int × Int)) := .ok (isortP xs)
@[simp] theorem sortP_eq (xs : List (Int × Int)) : sortP xs = .ok (isortP xs) := rfl
theorem leP_iff {a b : Int × Int} : leP a b = true ↔ a.1 < b.1 ∨ (a.1 = b.1 ∧ a.2 ≤ b.2) := by
  unfold leP
  simp only [Bool.or_eq_true, Bool.and_eq_true, decide_eq_true_eq]
theorem insP_perm (x : Int × Int) : ∀ ys, (insP x ys).Perm (x :: ys)
  | [] => .refl _
  | y :: ys => by
    unfold insP
    split
    · exact .refl _
    · exact ((insP_perm x ys).cons y).trans (.swap x y ys)
theorem isortP_perm : ∀ xs, (isortP xs).Perm xs
  | [] => .refl _
  | x :: xs => (insP_perm x _).trans ((isortP_perm xs).cons x)
theorem leP_total (a b : Int × Int) : leP a b = true ∨ leP b a = true := by
  rw [leP_iff, leP_iff]
  omega
theorem leP_trans {a b c : Int × Int} (h : leP a b = true) (h' : leP b c = true) : leP a c = true := by
  rw [leP_iff] at *
  omega
theorem leP_anti {a b : Int × Int} (h : leP a b = true) (h' : leP b a = true) : a = b := by
  rw [leP_iff] at *
  exact Prod.ext (by omega) (by omega)
theorem insP_sorted (x : Int × Int) : ∀ {ys : List (Int × Int)}, ys.Pairwise (fun a b => leP a b = true) → (insP x ys).Pairwise (fun a b => leP a b = true)
  | [], _ => List.pairwise_singleton _ _
  | y :: ys, h => by
    obtain ⟨h1, h2⟩ := List.pairwise_cons.mp h
    unfold insP
    split
    · rename_i hx
      exact List.pairwise_cons.mpr ⟨fun z hz => by
        rcases List.mem_cons.mp hz with e | hz
        · rw [e]
          exact hx
        · exact leP_trans hx (h1 z hz), h⟩
    · rename_i hx
      refine List.pairwise_cons.mpr ⟨fun z hz => ?_, insP_sorted x h2⟩
      rcases List.mem_cons.mp ((insP_perm x ys).mem_iff.mp hz) with e | hz
      · rw [e]
        exact (leP_total y x).resolve_right hx
      · exact h1 z hz
theorem isortP_sorted : ∀ xs, (isortP xs).Pairwise (fun a b => leP a b = true)
  | [] => .nil
  | x :: xs => insP_sorted x (isortP_sorted xs)
theorem sorted_unique : ∀ {xs ys : List (Int × Int)}, xs.Perm ys → xs.Pairwise (fun a b => leP a b = true) → ys.Pairwise (fun a b => leP a b = true) → xs = ys
  | [], ys, p, _, _ => by rw [List.nil_perm.mp p]
  | x :: xs, [], p, _, _ => by cases List.perm_nil.mp p
  | x :: xs, y :: ys, p, h, h' => by
    obtain ⟨h1, h2⟩ := List.pairwise_cons.mp h
    obtain ⟨h1', h2'⟩ := List.pairwise_cons.mp h'
    have e : x = y := by
      by_cases e : x = y
      · exact e
      · have hy : y ∈ xs := (List.mem_cons.mp (p.mem_iff.mpr List.mem_cons_self)).resolve_left fun z => e z.symm
        have hx : x ∈ ys := (List.mem_cons.mp (p.mem_iff.mp List.mem_cons_self)).resolve_left e
        exact leP_anti (h1 y hy) (h1' x hx)
    subst e
    rw [sorted_unique (List.Perm.cons_inv p) h2 h2']
end
end Sd

namespace Sd
open PySem L2
section
variable {E : XK} {K : PySem.W.Frag} {σ : L2.St} {I I' C C' H : Hp} {α β γ μ ω S ρ : Type} {R : Rp α} {S1 : Rp β} {te ta tb : TE} {tt : TT} {tz tu tw : TS} {D : Ends} {Q : ω → Prop} {X : Ec → Int → Prop}
/-! ### sorted -/
def kP (H : Hp) (v : V) : Int × Int := match v with
  | .ref t => (match H t with
    | some (.tup [.int i, .int j]) => (i, j)
    | _ => (0, 0))
  | _ => (0, 0)
theorem kP_of {a : Int × Int} {v : V} (s : St I C H) (h : (pT (tc pI (t1 pI))).r a v I C) : (∃ t, v = .ref t ∧ H t = some (.tup [.int a.1, .int a.2])) ∧ kP H v = a := by
  obtain ⟨t, vs, rfl, h2, u, us, rfl, h3, w, rfl, h4⟩ := h
  have e1 : u = .int a.1 := h3
  have e2 : w = .int a.2 := h4
  subst e1 e2
  have ht := s.i _ _ h2
  refine ⟨⟨t, rfl, ht⟩, ?_⟩
  show (match H t with
    | some (.tup [.int i, .int j]) => (i, j)
    | _ => (0, 0)) = a
  rw [ht]
theorem kP_map (s : St I C H) : ∀ {xs : List (Int × Int)} {vs : List V}, A2 (fun x u => (pT (tc pI (t1 pI))).r x u I C) xs vs → vs.map (kP H) = xs
  | _, _, .nil => rfl
  | _, _, .cons r t => by rw [List.map_cons, (kP_of s r).2, kP_map s t]
theorem a2_mem {f : α → V → Prop} : ∀ {xs : List α} {vs : List V} {v : V}, A2 f xs vs → v ∈ vs → ∃ x, x ∈ xs ∧ f x v
  | _, _, _, .nil, h => by cases h
  | _, _, _, .cons r t, h => by
    rcases List.mem_cons.mp h with e | h
    · exact ⟨_, List.mem_cons_self, by rw [e]; exact r⟩
    · obtain ⟨x, hx, r⟩ := a2_mem t h
      exact ⟨x, List.mem_cons_of_mem _ hx, r⟩
theorem a2_of_k {f : β → V → Prop} {k : V → β} : ∀ {ys : List V}, (∀ v, v ∈ ys → f (k v) v) → A2 f (ys.map k) ys
  | [], _ => .nil
  | y :: ys, h => .cons (h y List.mem_cons_self) (a2_of_k fun v hv => h v (List.mem_cons_of_mem _ hv))
theorem n_sortP : OpLN E K (rSortedPO K) sortP (t1 (pV (pT (tc pI (t1 pI))))) (pT (tc pI (t1 pI))) := fun I C H a vs s hv Q q => by
  obtain ⟨v, rfl, h⟩ := hv
  obtain ⟨p, us, rfl, h2, h3, h4⟩ := pV.at s h
  refine ⟨p, us, kP H, rfl, .inl (.inl h2), fun x hx => ?_, fun ys l hs hb hl => ?_⟩
  · obtain ⟨z, _, r⟩ := a2_mem h4 hx
    obtain ⟨⟨t, e, ht⟩, ek⟩ := kP_of s r
    exact ⟨t, e, by rw [ek]; exact ht⟩
  · have ep : (ys.map (kP H)).Perm a := by
      have z := hb.perm.map (kP H)
      rw [kP_map s h4] at z
      exact z
    have es : (ys.map (kP H)).Pairwise (fun a b => leP a b = true) := by
      refine List.pairwise_map.mpr (hs.imp fun {x y} z => ?_)
      rw [leP_iff]
      have z2 : ¬ SrtO.lexB (kP H y) (kP H x) = true := by
        intro z3
        have z4 : SrtO.lexB (kP H y) (kP H x) = false := z
        rw [z3] at z4
        cases z4
      rw [SrtO.lexB_iff] at z2
      omega
    have e := sorted_unique (ep.trans (isortP_perm a).symm) es (isortP_sorted a)
    have q2 : PN (pT (tc pI (t1 pI))) I C Q (isortP a) := q
    rw [← e] at q2
    refine PN.new q2 s (a2_of_k fun v hv => ?_) (by rw [hb.perm.length_eq]; exact h3) l hl
    obtain ⟨z, _, r⟩ := a2_mem h4 (hb.perm.mem_iff.mp hv)
    rw [(kP_of s r).2]
    exact r
def insI (x : Int) : List Int → List Int
  | [] => [x]
  | y :: ys => if x ≤ y then x :: y :: ys else y :: insI x ys
def isortI : List Int → List Int
  | [] => []
  | x :: xs => insI x (isortI xs)
def sortI (xs : List Int) : Res (List Int) := .ok (isortI xs)
@[simp] theorem sortI_eq (xs : List Int) : sortI xs = .ok (isortI xs) := rfl
theorem insI_perm (x : Int) : ∀ ys, (insI x ys).Perm (x :: ys)
  | [] => .refl _
  | y :: ys => by
    unfold insI
    split
    · exact .refl _
    · exact ((insI_perm x ys).cons y).trans (.swap x y ys)
theorem isortI_perm : ∀ xs, (isortI xs).Perm xs
  | [] => .refl _
  | x :: xs => (insI_perm x _).trans ((isortI_perm xs).cons x)
theorem insI_sorted (x : Int) : ∀ {ys : List Int}, ys.Pairwise (· ≤ ·) → (insI x ys).Pairwise (· ≤ ·)
  | [], _ => List.pairwise_singleton _ _
  | y :: ys, h => by
    obtain ⟨h1, h2⟩ := List.pairwise_cons.mp h
    unfold insI
    split
    · rename_i hx
      exact List.pairwise_cons.mpr ⟨fun z hz => by
        rcases List.mem_cons.mp hz with e | hz
        · rw [e]
          exact hx
        · exact Int.le_trans hx (h1 z hz), h⟩
    · rename_i hx
      refine List.pairwise_cons.mpr ⟨fun z hz => ?_, insI_sorted x h2⟩
      rcases List.mem_cons.mp ((insI_perm x ys).mem_iff.mp hz) with e | hz
      · rw [e]
        omega
      · exact h1 z hz
theorem isortI_sorted : ∀ xs, (isortI xs).Pairwise (· ≤ ·)
  | [] => .nil
  | x :: xs => insI_sorted x (isortI_sorted xs)
theorem sortedI_unique : ∀ {xs ys : List Int}, xs.Perm ys → xs.Pairwise (· ≤ ·) → ys.Pairwise (· ≤ ·) → xs = ys
  | [], ys, p, _, _ => by rw [List.nil_perm.mp p]
  | x :: xs, [], p, _, _ => by cases List.perm_nil.mp p
  | x :: xs, y :: ys, p, h, h' => by
    obtain ⟨h1, h2⟩ := List.pairwise_cons.mp h
    obtain ⟨h1', h2'⟩ := List.pairwise_cons.mp h'
    have e : x = y := by
      by_cases e : x = y
      · exact e
      · have hy : y ∈ xs := (List.mem_cons.mp (p.mem_iff.mpr List.mem_cons_self)).resolve_left fun z => e z.symm
        have hx : x ∈ ys := (List.mem_cons.mp (p.mem_iff.mp List.mem_cons_self)).resolve_left e
        exact Int.le_antisymm (h1 y hy) (h1' x hx)
    subst e
    rw [sortedI_unique (List.Perm.cons_inv p) h2 h2']
theorem n_sortI : OpLN E K (rSortedI K) sortI (t1 (pV pI)) pI := fun I C H a vs s hv Q q => by
  obtain ⟨v, rfl, h⟩ := hv
  obtain ⟨p, us, rfl, h2, h3, h4⟩ := pV.at s h
  have eu := A2.map_iff (h := V.int) (fun _ _ h => h) h4
  subst eu
  refine ⟨p, a, rfl, .inl (.inl h2), fun ns l hp hs hl => ?_⟩
  have e := sortedI_unique (hp.trans (isortI_perm a).symm) hs (isortI_sorted a)
  have q2 : PN pI I C Q (isortI a) := q
  rw [← e] at q2
  refine PN.new q2 s (A2.of_map (f := fun x u => pI.r x u I C) (h := V.int) (fun _ => rfl) ns) (by rw [List.length_map, hp.length_eq, ← List.length_map (f := V.int)]; exact h3) l hl
/-! ### chains, is of bools -/
theorem x_chain {r r' : R2} {f : α → β → Res Bool} {g : β → γ → Res Bool} {T : Rp γ} {tc : TE} {m : Res α} {n : Res β} {l : Res γ} (hr : Op2 E K r f R S1 pB) (hr' : Op2 E K r' g S1 T pB) (h1 : EvX E K ta σ I C m R) (h2 : EvX E K tb σ I C n S1) (h3 : EvX E K tc σ I C l T) :
    EvX E K (tChain r r' ta tb tc) σ I C (m.bind fun a => n.bind fun b => (f a b).bind fun k => if k = true then l.bind fun c => g b c else .ok false) pB := fun I1 C1 H1 e e' s Q q =>
  h1 I1 C1 H1 e e' s _ ((Post.bind q).mono (fun a p x I2 H2 e2 s2 rx =>
    h2 I2 C1 H2 (e.trans e2) e' s2 _ ((Post.bind p).mono (fun b p2 y I3 H3 e3 s3 ry =>
      hr I3 C1 H3 a b x y s3 (R.mono e3 (Ex.refl _) rx) ry _ ((Post.bind p2).mono (fun k p3 z I4 H4 e4 s4 rz => ⟨k, rz, by
        cases k with
        | true =>
          exact h3 I4 C1 H4 (e.trans (e2.trans (e3.trans e4))) e' s4 _ ((Post.bind p3).mono (fun c p4 w I5 H5 e5 s5 rw => hr' I5 C1 H5 b c y w s5 (S1.mono (e4.trans e5) (Ex.refl _) ry) rw Q
            (p4.mono (fun d z v I6 H6 e6 s6 rv => z v I6 H6 (e2.trans (e3.trans (e4.trans (e5.trans e6)))) s6 rv) fun c i z => z.mono (e2.trans (e3.trans (e4.trans e5))) (Ex.refl _))) fun c i z => z.mono (e2.trans (e3.trans e4)) (Ex.refl _))
        | false => exact p3 (.bl false) I4 H4 (e2.trans (e3.trans e4)) s4 rfl⟩) fun c i z => z.mono (e2.trans e3) (Ex.refl _))) fun c i z => z.mono e2 (Ex.refl _)))
    fun _ _ z => z)
theorem o_isB : Op2 E K rIsB eqR pB pB pB := fun I C H a b x y s hx hy Q q => ⟨a, b, hx, hy, PQ.now q s rfl⟩
theorem o_notB : Op2 E K rNotB neR pB pB pB := fun I C H a b x y s hx hy Q q => ⟨a, b, hx, hy, PQ.now q s rfl⟩
/-! ### a cell as a list that is read -/
theorem x_cell [Im R] {i : Nat} {a : Addr} {xs : List α} {vs : List V} (h : σ[i]? = some (some (.ref a))) (hc : C a = some (.lst vs)) (hl : vs.length ≤ sizeLine) (hr : A2 (fun x u => R.r x u I Z) xs vs) : EvX E K (tVar i) σ I C (.ok xs) (pV R) :=
  x_var h ⟨a, vs, rfl, .inr hc, hl, hr.imp fun _ _ h => Im.im h⟩
/-! ### keeping -/
theorem fr_keep {B C C2 : Hp} {p : Addr} (h : Ex B C) (hp : B p = none) (k : ∀ q, q ≠ p → C2 q = C q) : Ex B C2 := fun a o e => by
  rw [k a (ne_of_none e hp)]
  exact h a o e
theorem fr_pool {C0 C C2 : Hp} {p : Addr} (h : Ex (off C0 p) C) (k : ∀ q, q ≠ p → C2 q = C q) : Ex (off C0 p) C2 := fr_keep h off_same k
theorem ex_pool {C0 C : Hp} {p : Addr} {o : HO} (h : Ex (off C0 p) C) (hc : C p = some o) : Ex (upd C0 p o) C := fun a u e => by
  by_cases q : a = p
  · rw [q, upd_same] at e
    rw [q, hc]
    exact e
  · rw [upd_ne q] at e
    exact h a u ((off_ne q).trans e)
theorem freeze {a : Addr} {o : HO} (s : St I C H) (hc : C a = some o) : ∃ I2 C2, Ex I I2 ∧ St I2 C2 H ∧ I2 a = some o ∧ ∀ q, q ≠ a → C2 q = C q :=
  ⟨_, _, Ex.new (s.freeI hc), s.frz hc, upd_same, fun q h => if_neg h⟩
theorem frz_list [Im R] {I2 : Hp} {a : Addr} {xs : List α} {vs : List V} (e : Ex I I2) (h : I2 a = some (.lst vs)) (hl : vs.length ≤ sizeLine) (hr : A2 (fun x u => R.r x u I Z) xs vs) : (pL R).r xs (.ref a) I2 Z := ⟨a, vs, rfl, h, hl, hr.imp fun _ _ => R.mono e (Ex.refl _)⟩
theorem ne_new {p q : Addr} {o : HO} (h : C p = some o) (h' : C q = none) : p ≠ q := ne_of_none h h'
/-! ### statements, as they are printed -/
theorem q_asg [Im R] {i : Nat} {m : Res α} {k : α → Res ω} (h : EvX E K te σ I C m R) (s : St I C H) (hX : XH X E K I C) (hm : Post (m.bind k) Q X)
    (next : ∀ a v I2 H2, Ex I I2 → St I2 C H2 → R.r a v I2 Z → Post (k a) Q X → tz D (σ.set i (some v)) H2) : tSeq (tAsg te (gName i)) tz D σ H :=
  s_asg h s hX hm fun a v I2 H2 e2 s2 rv hm => next a v I2 H2 e2 s2 (Im.im rv) hm
theorem q_ret [Im R] {m : Res α} {k : α → Res ω} (h : EvX E K te σ I C m R) (s : St I C H) (hX : XH X E K I C) (hm : Post (m.bind k) Q X)
    (next : ∀ a v I2 H2, Ex I I2 → St I2 C H2 → R.r a v I2 Z → Post (k a) Q X → D.rt v H2) : tSeq (tRet te) tz D σ H :=
  s_ret h s hX hm fun a v I2 H2 e2 s2 rv hm => next a v I2 H2 e2 s2 (Im.im rv) hm
theorem q_retN {m : Res (List α)} {k : List α → Res ω} (h : EvN E K te σ I C m R) (s : St I C H) (hX : XH X E K I C) (hm : Post (m.bind k) Q X)
    (next : ∀ xs p vs I2 H2, Ex I I2 → C p = none → St I2 (upd C p (.lst vs)) H2 → vs.length ≤ sizeLine → A2 (fun x u => R.r x u I2 C) xs vs → Post (k xs) Q X → D.rt (.ref p) H2) : tSeq (tRet te) tz D σ H :=
  h I C H (Ex.refl _) (Ex.refl _) s _ ((Post.bind hm).mono (fun a z p vs I2 H2 e2 hp s2 hl hr => next a p vs I2 H2 e2 hp s2 hl hr z) hX)
/-- xs = e, a new list that will change -/
theorem q_asgN [Im R] {i : Nat} {m : Res (List α)} {k : List α → Res ω} (h : EvN E K te σ I C m R) (s : St I C H) (hX : XH X E K I C) (hm : Post (m.bind k) Q X)
    (next : ∀ xs p vs I2 C2 H2, Ex I I2 → C p = none → St I2 C2 H2 → C2 p = some (.lst vs) → (∀ q, q ≠ p → C2 q = C q) → vs.length ≤ sizeLine → A2 (fun x u => R.r x u I2 Z) xs vs → Post (k xs) Q X → tz D (σ.set i (some (.ref p))) H2) : tSeq (tAsg te (gName i)) tz D σ H :=
  h I C H (Ex.refl _) (Ex.refl _) s _ ((Post.bind hm).mono (fun a z p vs I2 H2 e2 hp s2 hl hr => next a p vs I2 _ H2 e2 hp s2 upd_same (fun q h => upd_ne h) hl (hr.imp fun _ _ h => Im.im h) z) hX)
theorem q_nil {i : Nat} (s : St I C H) (next : ∀ p C2 H2, C p = none → St I C2 H2 → C2 p = some (.lst []) → (∀ q, q ≠ p → C2 q = C q) → tz D (σ.set i (some (.ref p))) H2) : tSeq (tAsg (tLst tNil) (gName i)) tz D σ H :=
  s_newL s fun p H2 hp _ s2 => next p _ H2 hp s2 upd_same fun q h => upd_ne h
theorem q_app [Im R] {i : Nat} {p : Addr} {xs : List α} {vs : List V} {k : List α → Res ω} {m : Res α} (hv : σ[i]? = some (some (.ref p))) (hc : C p = some (.lst vs)) (hr : A2 (fun x u => R.r x u I Z) xs vs) (h : EvX E K te σ I C m R) (s : St I C H) (hX : XH X E K I C)
    (hm : Post ((m.bind fun x => push xs x).bind k) Q X)
    (next : ∀ ys vs' I2 C2 H2, Ex I I2 → St I2 C2 H2 → C2 p = some (.lst vs') → (∀ q, q ≠ p → C2 q = C q) → vs'.length ≤ sizeLine → A2 (fun x u => R.r x u I2 Z) ys vs' → Post (k ys) Q X → tz D σ H2) :
    tSeq (tDrop (tBM K "list" rAppend (tVar i) (tCons te tNil))) tz D σ H :=
  s_app hv hc (hr.imp fun _ _ h => Im.im h) h s hX hm fun ys vs' I2 H2 e2 s2 hl hr hm => next ys vs' I2 _ H2 e2 s2 upd_same (fun q h => upd_ne h) hl (hr.imp fun _ _ h => Im.im h) hm
theorem q_setL [Im R] {i : Nat} {p : Addr} {xs : List α} {vs : List V} {k : List α → Res ω} {ti : TE} {m : Res α} {mi : Res Int} (hv : σ[i]? = some (some (.ref p))) (hc : C p = some (.lst vs)) (hl : vs.length ≤ sizeLine) (hr : A2 (fun x u => R.r x u I Z) xs vs)
    (h : EvX E K te σ I C m R) (hi : EvX E K ti σ I C mi pI) (s : St I C H) (hX : XH X E K I C) (hm : Post ((m.bind fun x => mi.bind fun j => setR xs j x).bind k) Q X)
    (next : ∀ ys vs' I2 C2 H2, Ex I I2 → St I2 C2 H2 → C2 p = some (.lst vs') → (∀ q, q ≠ p → C2 q = C q) → vs'.length ≤ sizeLine → A2 (fun x u => R.r x u I2 Z) ys vs' → Post (k ys) Q X → tz D σ H2) :
    tSeq (tAsg te (gSub (tVar i) ti rSetL)) tz D σ H :=
  s_setL hv hc hl (hr.imp fun _ _ h => Im.im h) h hi s hX hm fun ys vs' I2 H2 e2 s2 hl hr hm => next ys vs' I2 _ H2 e2 s2 upd_same (fun q h => upd_ne h) hl (hr.imp fun _ _ h => Im.im h) hm
/-- xs.extend(e) -/
theorem q_ext [Im R] {i : Nat} {p : Addr} {xs : List α} {vs : List V} {k : List α → Res ω} {m : Res (List α)} (hv : σ[i]? = some (some (.ref p))) (hc : C p = some (.lst vs)) (hr : A2 (fun x u => R.r x u I Z) xs vs) (h : EvX E K te σ I C m (pL R)) (s : St I C H) (hX : XH X E K I C)
    (hm : Post ((m.bind fun x => rCatR xs x).bind k) Q X)
    (next : ∀ ys vs' I2 C2 H2, Ex I I2 → St I2 C2 H2 → C2 p = some (.lst vs') → (∀ q, q ≠ p → C2 q = C q) → vs'.length ≤ sizeLine → A2 (fun x u => R.r x u I2 Z) ys vs' → Post (k ys) Q X → tz D σ H2) :
    tSeq (tDrop (tBM K "list" rExtend (tVar i) (tCons te tNil))) tz D σ H :=
  ⟨.ref p, hv, .inl ⟨rfl, vs, .inl (.inl (s.c p _ hc))⟩, h I C H (Ex.refl _) (Ex.refl _) s _ ((Post.bind (Post.bind hm)).mono (fun a po v I2 H2 e2 s2 rv => by
    obtain ⟨b, us, rfl, h2, h3, h4⟩ := rv
    unfold rCatR at po
    split at po
    · rename_i hl
      have hn := hr.len
      have hl2 : vs.length + us.length ≤ sizeLine := by
        rw [hn, h4.len]
        exact Nat.le_trans hl (by decide)
      exact ⟨p, b, vs, us, rfl, rfl, s2.c p _ hc, s2.i b _ h2, hl2, next (xs ++ a) (vs ++ us) I2 _ _ e2 (s2.set hc) upd_same (fun q h => upd_ne h) (by rw [List.length_append]; exact hl2) ((hr.imp fun _ _ h => R.to e2 h).append (h4.imp fun _ _ h => Im.im h)) po⟩
    · exact po.elim) hX)⟩
/-- xs.pop(): the last item and the rest -/
def popR (xs : List α) : Res (α × List α) := match xs.getLast? with
  | some x => .ok (x, xs.dropLast)
  | none => .bad
theorem e_pop [Im R] {i : Nat} {p : Addr} {xs : List α} {vs : List V} {k : α × List α → Res ω} {Q2 : VK} (hv : σ[i]? = some (some (.ref p))) (hc : C p = some (.lst vs)) (hl : vs.length ≤ sizeLine) (hr : A2 (fun x u => R.r x u I Z) xs vs) (s : St I C H) (hm : Post ((popR xs).bind k) Q X)
    (next : ∀ a v C2 H2, St I C2 H2 → C2 p = some (.lst vs.dropLast) → (∀ q, q ≠ p → C2 q = C q) → vs.dropLast.length ≤ sizeLine → A2 (fun x u => R.r x u I Z) a.2 vs.dropLast → R.r a.1 v I Z → Post (k a) Q X → Q2 v H2) : tBM0 K "list" rPop (tVar i) σ H Q2 := by
  have po := Post.bind hm
  unfold popR at po
  cases hx : xs.getLast? with
  | none =>
    rw [hx] at po
    exact po.elim
  | some x =>
    rw [hx] at po
    have hn := hr.len
    have hx2 : xs[xs.length - 1]? = some x := by
      rw [← List.getLast?_eq_getElem?]
      exact hx
    obtain ⟨v, hv2, r⟩ := hr.get' hx2
    rw [← hn] at hv2
    exact ⟨.ref p, hv, .inl ⟨rfl, vs, .inl (.inl (s.c p _ hc))⟩, p, vs, v, rfl, rfl, s.c p _ hc, hv2, next (x, xs.dropLast) v _ _ (s.set hc) upd_same (fun q h => upd_ne h) (by rw [List.length_dropLast]; omega) hr.dropLast r po⟩
/-! the pool -/
variable {p : Addr} {M : Rt μ} {x : μ} {ws : List V}
theorem qm_asg [It M] [Im R] {i : Nat} {m : μ → Res (α × μ)} {k : α × μ → Res ω} (h : EvM E K p M te σ I (off C p) m R) (s : St I C H) (hc : C p = some (.lst ws)) (hx : M.r x ws I Z) (hm : Post ((m x).bind k) Q XF)
    (next : ∀ b v ws' I2 C2 H2, Ex I I2 → St I2 C2 H2 → C2 p = some (.lst ws') → (∀ q, q ≠ p → C2 q = C q) → M.r b.2 ws' I2 Z → R.r b.1 v I2 Z → Post (k b) Q XF → tz D (σ.set i (some v)) H2) : tSeq (tAsg te (gName i)) tz D σ H :=
  sm_asg h s hc (It.im hx) hm fun b v ws' I2 H2 e2 s2 hx2 rv hm => next b v ws' I2 _ H2 e2 s2 upd_same (fun q h => upd_ne h) (It.im hx2) (Im.im rv) hm
theorem qm_ret [It M] [Im R] {m : μ → Res (α × μ)} {k : α × μ → Res ω} (h : EvM E K p M te σ I (off C p) m R) (s : St I C H) (hc : C p = some (.lst ws)) (hx : M.r x ws I Z) (hm : Post ((m x).bind k) Q XF)
    (next : ∀ b v ws' I2 C2 H2, Ex I I2 → St I2 C2 H2 → C2 p = some (.lst ws') → (∀ q, q ≠ p → C2 q = C q) → M.r b.2 ws' I2 Z → R.r b.1 v I2 Z → Post (k b) Q XF → D.rt v H2) : tSeq (tRet te) tz D σ H :=
  sm_ret h s hc (It.im hx) hm fun b v ws' I2 H2 e2 s2 hx2 rv hm => next b v ws' I2 _ H2 e2 s2 upd_same (fun q h => upd_ne h) (It.im hx2) (Im.im rv) hm
theorem qm_expr [It M] [Im R] {m : μ → Res (α × μ)} {k : α × μ → Res ω} (h : EvM E K p M te σ I (off C p) m R) (s : St I C H) (hc : C p = some (.lst ws)) (hx : M.r x ws I Z) (hm : Post ((m x).bind k) Q XF)
    (next : ∀ b ws' I2 C2 H2, Ex I I2 → St I2 C2 H2 → C2 p = some (.lst ws') → (∀ q, q ≠ p → C2 q = C q) → M.r b.2 ws' I2 Z → Post (k b) Q XF → tz D σ H2) : tSeq (tDrop te) tz D σ H :=
  sm_expr h s hc (It.im hx) hm fun b ws' I2 H2 e2 s2 hx2 hm => next b ws' I2 _ H2 e2 s2 upd_same (fun q h => upd_ne h) (It.im hx2) hm
theorem qm_if [It M] {c : μ → Res (Bool × μ)} {m1 m2 : μ → Res ω} (h : EvTM E K p M tt σ I (off C p) c) (s : St I C H) (hc : C p = some (.lst ws)) (hx : M.r x ws I Z) (hm : Post (ifMR c x m1 m2) Q XF)
    (h1 : ∀ y ws' I2 C2 H2, Ex I I2 → St I2 C2 H2 → C2 p = some (.lst ws') → (∀ q, q ≠ p → C2 q = C q) → M.r y ws' I2 Z → Post (m1 y) Q XF → tu { D with nx := tz D } σ H2)
    (h2 : ∀ y ws' I2 C2 H2, Ex I I2 → St I2 C2 H2 → C2 p = some (.lst ws') → (∀ q, q ≠ p → C2 q = C q) → M.r y ws' I2 Z → Post (m2 y) Q XF → tw { D with nx := tz D } σ H2) : tSeq (tIfS tt tu tw) tz D σ H :=
  sm_if h s hc (It.im hx) hm (fun y ws' I2 H2 e2 s2 hx2 hm => h1 y ws' I2 _ H2 e2 s2 upd_same (fun q h => upd_ne h) (It.im hx2) hm) (fun y ws' I2 H2 e2 s2 hx2 hm => h2 y ws' I2 _ H2 e2 s2 upd_same (fun q h => upd_ne h) (It.im hx2) hm)
theorem qm_ifj [It M] (P : S → L2.St → Hp → Hp → Prop) {c : μ → Res (Bool × μ)} {m1 m2 : μ → Res S} {k : S → Res ω} (h : EvTM E K p M tt σ I (off C p) c) (s : St I C H) (hc : C p = some (.lst ws)) (hx : M.r x ws I Z) (hm : Post ((ifMR c x m1 m2).bind k) Q XF)
    (h1 : ∀ (N : L2.St → Hp → Prop) y ws' I2 C2 H2, Ex I I2 → St I2 C2 H2 → C2 p = some (.lst ws') → (∀ q, q ≠ p → C2 q = C q) → M.r y ws' I2 Z → Post (m1 y) (fun s' => ∀ σ2 I3 C3 H3, Ex I I3 → St I3 C3 H3 → P s' σ2 I3 C3 → N σ2 H3) XF → tu { D with nx := N } σ H2)
    (h2 : ∀ (N : L2.St → Hp → Prop) y ws' I2 C2 H2, Ex I I2 → St I2 C2 H2 → C2 p = some (.lst ws') → (∀ q, q ≠ p → C2 q = C q) → M.r y ws' I2 Z → Post (m2 y) (fun s' => ∀ σ2 I3 C3 H3, Ex I I3 → St I3 C3 H3 → P s' σ2 I3 C3 → N σ2 H3) XF → tw { D with nx := N } σ H2)
    (next : ∀ s' σ2 I3 C3 H3, Ex I I3 → St I3 C3 H3 → P s' σ2 I3 C3 → Post (k s') Q XF → tz D σ2 H3) : Evl.tCut (tIfS tt tu tw) tz D σ H :=
  sm_ifj P h s hc (It.im hx) hm (fun N y ws' I2 H2 e2 s2 hx2 hm => h1 N y ws' I2 _ H2 e2 s2 upd_same (fun q h => upd_ne h) (It.im hx2) hm) (fun N y ws' I2 H2 e2 s2 hx2 hm => h2 N y ws' I2 _ H2 e2 s2 upd_same (fun q h => upd_ne h) (It.im hx2) hm) next
theorem qm_forN [It M] (P : S → L2.St → Hp → Hp → Prop) {wi : TI} {g : TG} {m : μ → Res (List α × μ)} {f : α → S → Res S} {s0 : μ → S} {k : S → Res ω} (hi : EvIM E K p M wi σ I (off C p) m R) (s : St I C H) (hc : C p = some (.lst ws)) (hx : M.r x ws I Z) (hm : Post (((m x).bind fun b => loopN f b.1 (s0 b.2)).bind k) Q XF)
    (h0 : ∀ y ws' I2 C2, Ex I I2 → C2 p = some (.lst ws') → (∀ q, q ≠ p → C2 q = C q) → M.r y ws' I2 Z → P (s0 y) σ I2 C2) (hP : ∀ s' σ' I' I2 C', Ex I' I2 → P s' σ' I' C' → P s' σ' I2 C')
    (body : ∀ (N : L2.St → Hp → Prop) x v s' σ' I' C' H', Ex I I' → St I' C' H' → P s' σ' I' C' → R.r x v I' C' → Post (f x s') (fun s2 => ∀ σ2 I3 C3 H3, Ex I' I3 → St I3 C3 H3 → P s2 σ2 I3 C3 → N σ2 H3) XF →
      g v σ' H' fun σ2 H2 => tu { D with nx := N, ct := N, bk := tz D } σ2 H2)
    (next : ∀ s' σ' I' C' H', Ex I I' → St I' C' H' → P s' σ' I' C' → Post (k s') Q XF → tz D σ' H') : tSeq (tFor wi g tu) tz D σ H :=
  sm_forN P hi s hc (It.im hx) hm (fun y ws' I2 e2 hx2 => h0 y ws' I2 _ e2 upd_same (fun q h => upd_ne h) (It.im hx2)) hP body next
theorem q_set [It M] [Im S1] {i k : Nat} {g : μ → β → μ} {kk : μ → Res ω} {m : Res β} (hv : σ[i]? = some (some (.ref p))) (h : EvX E K te σ I C m S1) (j : Pk M k g S1) (s : St I C H) (hc : C p = some (.lst ws)) (hx : M.r x ws I Z) (hm : Post (m.bind fun a => kk (g x a)) Q XF)
    (next : ∀ y ws' I2 C2 H2, Ex I I2 → St I2 C2 H2 → C2 p = some (.lst ws') → (∀ q, q ≠ p → C2 q = C q) → M.r y ws' I2 Z → Post (kk y) Q XF → tz D σ H2) : tSeq (tAsg te (gSub (tVar i) (tC (.int (k : Int))) rSetL)) tz D σ H :=
  sm_set hv h j s hc (It.im hx) hm fun y ws' I2 H2 e2 s2 hx2 hm => next y ws' I2 _ H2 e2 s2 upd_same (fun q h => upd_ne h) (It.im hx2) hm
theorem q_pool {i k : Nat} {f : μ → β} [It M] (hv : σ[i]? = some (some (.ref p))) (hc : C p = some (.lst ws)) (hx : M.r x ws I Z) (j : Pj M k f S1) : EvX E K (tOp (rIxL K) (tVar i) (tC (.int (k : Int)))) σ I C (.ok (f x)) S1 := x_pool hv hc (It.im hx) j
/-! targets -/
theorem g1 [Im R] {i : Nat} : Tg K (gName i) R σ (fun x σ2 I _ => ∃ v, σ2 = σ.set i (some v) ∧ R.r x v I Z) := fun x v I C H Q s r k => k _ ⟨v, rfl, Im.im r⟩
theorem g2 [Im R] [Im S1] {i j : Nat} : Tg K (gTup K 2 (gCons (gName i) (gCons (gName j) gNil))) (pT (tc R (t1 S1))) σ (fun x σ2 I _ => ∃ u w, σ2 = (σ.set i (some u)).set j (some w) ∧ R.r x.1 u I Z ∧ S1.r x.2 w I Z) := fun x v I C H Q s r k =>
  g_two x v I C H Q s r fun σ2 ⟨u, w, e, h1, h2⟩ => k σ2 ⟨u, w, e, Im.im h1, Im.im h2⟩
theorem g3 {T : Rp γ} [Im R] [Im S1] [Im T] {i j l : Nat} : Tg K (gTup K 3 (gCons (gName i) (gCons (gName j) (gCons (gName l) gNil)))) (pT (tc R (tc S1 (t1 T)))) σ
    (fun x σ2 I _ => ∃ u w z, σ2 = ((σ.set i (some u)).set j (some w)).set l (some z) ∧ R.r x.1 u I Z ∧ S1.r x.2.1 w I Z ∧ T.r x.2.2 z I Z) := fun x v I C H Q s r k =>
  g_three x v I C H Q s r fun σ2 ⟨u, w, z, e, h1, h2, h3⟩ => k σ2 ⟨u, w, z, e, Im.im h1, Im.im h2, Im.im h3⟩
end
end Sd

namespace Sd
open PySem L2
/-- no places -/
def t0 : Rt Unit := ⟨fun _ vs _ _ => vs = [], fun _ _ h => h, 0, fun h => by rw [h]; rfl⟩
instance : It t0 := ⟨fun h => h⟩
abbrev Pl := Int × Int × Int × List Int
/-- the pool's places -/
abbrev pM : Rt Pl := tc pI (tc pI (tc pI (t1 (pL pI))))
theorem a2up {α : Type} {R : Rp α} {I I' : Hp} {xs : List α} {vs : List V} (e : Ex I I') (h : A2 (fun x u => R.r x u I Z) xs vs) : A2 (fun x u => R.r x u I' Z) xs vs := h.imp fun _ _ => R.mono e (Ex.refl _)
section
variable {E : XK} {K : PySem.W.Frag} {σ : L2.St} {I I' C C' H B : Hp} {α β γ μ ω S ρ : Type} {R : Rp α} {S1 : Rp β} {te ta tb : TE} {tt : TT} {tz tu tw : TS} {D : Ends} {Q : ω → Prop} {X : Ec → Int → Prop}
/-- a cell that is returned, known for good from then on -/
theorem q_retC [Im R] {i : Nat} {p : Addr} {xs : List α} {vs : List V} (hv : σ[i]? = some (some (.ref p))) (s : St I C H) (fr : Ex B C) (hB : B p = none) (hc : C p = some (.lst vs)) (hl : vs.length ≤ sizeLine) (hr : A2 (fun x u => R.r x u I Z) xs vs)
    (next : ∀ I2, Ex I I2 → St I2 B H → (pL R).r xs (.ref p) I2 Z → D.rt (.ref p) H) : tSeq (tRet (tVar i)) tz D σ H := by
  obtain ⟨I2, C2, e, s2, h, k⟩ := freeze s hc
  exact ⟨.ref p, hv, next I2 e (s2.less (fr_keep fr hB k)) (frz_list e h hl hr)⟩
/-- a cell that is returned as a new list of one's own -/
theorem q_retO [Im R] {i : Nat} {p : Addr} {xs : List α} {vs : List V} (hv : σ[i]? = some (some (.ref p))) (s : St I C H) (fr : Ex B C) (hB : B p = none) (hc : C p = some (.lst vs)) (hl : vs.length ≤ sizeLine) (hr : A2 (fun x u => R.r x u I Z) xs vs)
    (next : St I (upd B p (.lst vs)) H → A2 (fun x u => R.r x u I B) xs vs → D.rt (.ref p) H) : tSeq (tRet (tVar i)) tz D σ H :=
  ⟨.ref p, hv, next (s.less fun a u e => by
    by_cases q : a = p
    · rw [q, upd_same] at e
      rw [q, hc]
      exact e
    · rw [upd_ne q] at e
      exact fr a u e) (hr.imp fun _ _ h => Im.im h)⟩
/-- x += e, x -= e -/
theorem q_aug {i : Nat} {f : Int → Int → Int} {v : V} {a : Int} {m : Res Int} {k : Int → Res ω} (hv : σ[i]? = some (some v)) (r : pI.r a v I Z) (h : EvX E K te σ I C m pI) (s : St I C H) (hX : XH X E K I C) (hm : Post ((m.bind fun b => .ok (f a b)).bind k) Q X)
    (next : ∀ a v I2 H2, Ex I I2 → St I2 C H2 → pI.r a v I2 Z → Post (k a) Q X → tz D (σ.set i (some v)) H2) : tSeq (tAug i te (ipI f)) tz D σ H :=
  ⟨v, hv, h I C H (Ex.refl _) (Ex.refl _) s _ ((Post.bind (Post.bind hm)).mono (fun b p w I2 H2 e2 s2 rv => ⟨a, b, r, rv, next _ _ I2 H2 e2 s2 rfl p⟩) hX)⟩
/-- xs.append(e), e draws -/
theorem qm_app {M : Rt μ} [It M] [Im R] {i : Nat} {p q : Addr} {x : μ} {ws vs : List V} {xs : List α} {k : List α × μ → Res ω} {m : μ → Res (α × μ)} (hv : σ[i]? = some (some (.ref q))) (hq : C q = some (.lst vs)) (hqp : q ≠ p) (hr : A2 (fun x u => R.r x u I Z) xs vs) (h : EvM E K p M te σ I (off C p) m R)
    (s : St I C H) (hc : C p = some (.lst ws)) (hx : M.r x ws I Z) (hm : Post (((m x).bind fun b => (push xs b.1).bind fun ys => .ok (ys, b.2)).bind k) Q XF)
    (next : ∀ (b : List α × μ) vs' ws' I2 C2 H2, Ex I I2 → St I2 C2 H2 → C2 q = some (.lst vs') → C2 p = some (.lst ws') → (∀ r, r ≠ p → r ≠ q → C2 r = C r) → vs'.length ≤ sizeLine → A2 (fun x u => R.r x u I2 Z) b.1 vs' → M.r b.2 ws' I2 Z → Post (k b) Q XF → tz D σ H2) :
    tSeq (tDrop (tBM K "list" rAppend (tVar i) (tCons te tNil))) tz D σ H := by
  refine ⟨.ref q, hv, .inl ⟨rfl, vs, .inl (.inl (s.c q _ hq))⟩, ?_⟩
  refine h x ws I C H (Ex.refl _) off_ex s hc (It.im hx) _ ((Post.bind (Post.bind hm)).mono (fun b po v ws' I2 H2 e2 s2 hx2 rv => ?_) fun _ _ z => z)
  unfold push at po
  split at po
  · rename_i hl
    have hn := hr.len
    have hl2 : vs.length < sizeLine := by
      rw [hn]
      exact Nat.lt_of_lt_of_le hl (by decide)
    have hq2 : upd C p (.lst ws') q = some (.lst vs) := by
      rw [upd_ne hqp]
      exact hq
    refine ⟨q, vs, v, rfl, rfl, s2.c q _ hq2, hl2, next (xs ++ [b.1], b.2) (vs ++ [v]) ws' I2 _ _ e2 (s2.set hq2) upd_same ?_ (fun r h1 h2 => ?_) (by rw [List.length_append]; exact hl2) ?_ (It.im hx2) po⟩
    · rw [upd_ne (Ne.symm hqp), upd_same]
    · rw [upd_ne h2, upd_ne h1]
    · exact (hr.imp fun _ _ h => R.mono e2 (Ex.refl _) h).append (.one (Im.im rv))
  · exact po.elim
/-- pool[k] = e -/
def thenR (m : Res α) (g : α → β) (k : β → Res γ) : Res γ := m.bind fun a => k (g a)
@[simp] theorem thenR_eq (m : Res α) (g : α → β) (k : β → Res γ) : thenR m g k = m.bind fun a => k (g a) := rfl
theorem q_setT {p : Addr} {M : Rt μ} {x : μ} {ws : List V} [It M] [Im S1] {i k : Nat} {g : μ → β → μ} {kk : μ → Res ω} {m : Res β} (hv : σ[i]? = some (some (.ref p))) (h : EvX E K te σ I C m S1) (j : Pk M k g S1) (s : St I C H) (hc : C p = some (.lst ws)) (hx : M.r x ws I Z) (hm : Post (thenR m (fun a => g x a) kk) Q XF)
    (next : ∀ y ws' I2 C2 H2, Ex I I2 → St I2 C2 H2 → C2 p = some (.lst ws') → (∀ q, q ≠ p → C2 q = C q) → M.r y ws' I2 Z → Post (kk y) Q XF → tz D σ H2) : tSeq (tAsg te (gSub (tVar i) (tC (.int (k : Int))) rSetL)) tz D σ H := q_set hv h j s hc hx hm next
/-! None, or a thing -/
class NN {α : Type} (R : Rp α) : Prop where
  nn : ∀ {a : α} {v : V} {I C : Hp}, R.r a v I C → v ≠ .non
instance : NN pI := ⟨fun h z => by rw [show _ = V.int _ from h] at z; cases z⟩
instance : NN pB := ⟨fun h z => by rw [show _ = V.bl _ from h] at z; cases z⟩
instance : NN pS := ⟨fun h z => by rw [show _ = V.str _ from h.1] at z; cases z⟩
instance {T : Rt α} : NN (pT T) := ⟨fun ⟨a, vs, h, _⟩ z => by rw [h] at z; cases z⟩
instance {T : Rt α} : NN (pD T) := ⟨fun ⟨a, vs, h, _⟩ z => by rw [h] at z; cases z⟩
instance {T : Rt α} : NN (pU K T) := ⟨fun ⟨a, vs, h, _⟩ z => by rw [h] at z; cases z⟩
instance : NN (pL R) := ⟨fun ⟨a, vs, h, _⟩ z => by rw [h] at z; cases z⟩
instance : NN (pQ K R) := ⟨fun ⟨a, vs, h, _⟩ z => by rw [h] at z; cases z⟩
def someR' (a : α) : Res (Option α) := .ok (some a)
@[simp] theorem someR'_eq (a : α) : someR' a = .ok (some a) := rfl
theorem x_some [NN R] {m : Res α} (h : EvX E K te σ I C m R) : EvX E K te σ I C (un someR' m) (pO R) := fun I1 C1 H1 e e' s Q q =>
  h I1 C1 H1 e e' s Q ((Post.bind q).mono (fun a p v I2 H2 e2 s2 rv => p v I2 H2 e2 s2 ⟨rv, NN.nn rv⟩) fun _ _ z => z)
theorem x_none : EvX E K (tC .non) σ I C (.ok none) (pO R) := x_c fun _ _ => rfl
/-- it is there -/
def getO : Option α → Res α
  | some a => .ok a
  | none => .bad
@[simp] theorem getO_some (a : α) : getO (some a) = .ok a := rfl
theorem x_get {m : Res (Option α)} (h : EvX E K te σ I C m (pO R)) : EvX E K te σ I C (un getO m) R := fun I1 C1 H1 e e' s Q q =>
  h I1 C1 H1 e e' s Q ((Post.bind q).mono (fun a p v I2 H2 e2 s2 rv => by
    cases a with
    | none => exact p.elim
    | some a => exact p v I2 H2 e2 s2 rv.1) fun _ _ z => z)
/-! one of two -/
def pX (R : Rp α) (S : Rp β) : Rp (α ⊕ β) := ⟨fun x v I C => match x with
  | .inl a => R.r a v I C
  | .inr b => S.r b v I C, fun {a v I I' C C'} e e' h => by
  cases a with
  | inl a => exact R.mono e e' h
  | inr a => exact S.mono e e' h⟩
instance [Im R] [Im S1] : Im (pX R S1) := ⟨fun {a v I C C'} h => by
  cases a with
  | inl a => exact Im.im (R := R) h
  | inr a => exact Im.im (R := S1) h⟩
def getL : α ⊕ β → Res α
  | .inl a => .ok a
  | .inr _ => .bad
def getR : α ⊕ β → Res β
  | .inl _ => .bad
  | .inr a => .ok a
def inlR (a : α) : Res (α ⊕ β) := .ok (.inl a)
def inrR (a : β) : Res (α ⊕ β) := .ok (.inr a)
@[simp] theorem getL_eq (a : α) : getL (.inl a : α ⊕ β) = .ok a := rfl
@[simp] theorem getR_eq (a : β) : getR (.inr a : α ⊕ β) = .ok a := rfl
@[simp] theorem inlR_eq (a : α) : (inlR a : Res (α ⊕ β)) = .ok (.inl a) := rfl
@[simp] theorem inrR_eq (a : β) : (inrR a : Res (α ⊕ β)) = .ok (.inr a) := rfl
theorem x_getL {m : Res (α ⊕ β)} (h : EvX E K te σ I C m (pX R S1)) : EvX E K te σ I C (un getL m) R := fun I1 C1 H1 e e' s Q q =>
  h I1 C1 H1 e e' s Q ((Post.bind q).mono (fun a p v I2 H2 e2 s2 rv => by
    cases a with
    | inl a => exact p v I2 H2 e2 s2 rv
    | inr a => exact p.elim) fun _ _ z => z)
theorem x_getR {m : Res (α ⊕ β)} (h : EvX E K te σ I C m (pX R S1)) : EvX E K te σ I C (un getR m) S1 := fun I1 C1 H1 e e' s Q q =>
  h I1 C1 H1 e e' s Q ((Post.bind q).mono (fun a p v I2 H2 e2 s2 rv => by
    cases a with
    | inl a => exact p.elim
    | inr a => exact p v I2 H2 e2 s2 rv) fun _ _ z => z)
theorem x_inl {m : Res α} (h : EvX E K te σ I C m R) : EvX E K te σ I C (un inlR m) (pX R S1) := fun I1 C1 H1 e e' s Q q =>
  h I1 C1 H1 e e' s Q ((Post.bind q).mono (fun a p v I2 H2 e2 s2 rv => p v I2 H2 e2 s2 rv) fun _ _ z => z)
theorem x_inr {m : Res β} (h : EvX E K te σ I C m S1) : EvX E K te σ I C (un inrR m) (pX R S1) := fun I1 C1 H1 e e' s Q q =>
  h I1 C1 H1 e e' s Q ((Post.bind q).mono (fun a p v I2 H2 e2 s2 rv => p v I2 H2 e2 s2 rv) fun _ _ z => z)
/-! the kinds, for isinstance -/
class TyR (K : PySem.W.Frag) {α : Type} (R : Rp α) (n : String) : Prop where
  ty : ∀ {a : α} {v : V} {I C H : Hp}, St I C H → R.r a v I C → TyX K H v (.type n)
instance : TyR K pI "int" := ⟨fun s h => by rw [show _ = V.int _ from h]; exact .base (.int _)⟩
instance : TyR K pB "bool" := ⟨fun s h => by rw [show _ = V.bl _ from h]; exact .base (.bl _)⟩
instance : TyR K pS "str" := ⟨fun s h => by rw [show _ = V.str _ from h.1]; exact .base (.str _)⟩
instance {T : Rt α} : TyR K (pT T) "tuple" := ⟨fun s ⟨a, vs, e, h, _⟩ => by rw [e]; exact .base (.tup (s.i _ _ h))⟩
instance {T : Rt α} : TyR K (pD T) "list" := ⟨fun s ⟨a, vs, e, h, _⟩ => by rw [e]; exact .base (.lst (s.i _ _ h))⟩
instance : TyR K (pL R) "list" := ⟨fun s ⟨a, vs, e, h, _⟩ => by rw [e]; exact .base (.lst (s.i _ _ h))⟩
instance : TyR K (pV R) "list" := ⟨fun s h => by
  obtain ⟨a, vs, rfl, h, _⟩ := pV.at s h
  exact .base (.lst h)⟩
theorem o_isi {n c : String} {b : Bool} [TyR K R n] (hk : kitB n c = some b) : OpL E K (rIsi K) (fun _ => .ok b) (tc R (t1 (pY c))) pB := fun I C H a vs s hv Q q => by
  obtain ⟨v, us, rfl, r, w, rfl, rw⟩ := hv
  have hw : w = .ty c := rw
  subst hw
  exact ⟨v, .ty c, _, _, b, rfl, .ty c, TyR.ty s r, kit_ty hk, PQ.now q s rfl⟩
theorem o_lenT {T : Rt α} : OpL E K (fun xs H Q => ∃ p ys, xs = [.ref p] ∧ (SqL K H p ys ∨ SqT K H p ys) ∧ Q (.int ys.length) H) (fun _ => .ok (T.n : Int)) (t1 (pT T)) pI := fun I C H a vs s hv Q q => by
  obtain ⟨v, rfl, p, us, rfl, h, r⟩ := hv
  exact ⟨p, us, rfl, .inr (.inl (.inl (s.i _ _ h))), by rw [T.len r]; exact PQ.now q s rfl⟩
end
end Sd

namespace Sd
open PySem L2
theorem passE {P : Program} {w : World} {K : PySem.W.Frag} {mg : Str → Option Value} {base : Heap} {N : List Str} {qual : Str} {scope : Scope} {f : Addr} {cdv : Value} {A : Around} {outer : List Env} {s : Shared} {H : Hp} {E : XK} :
    Passes (L2.CX P w) (cxOf (L2.CX P w) P w K mg base N qual scope f cdv A outer s H E) E := passes_call (takes_of rfl rfl rfl rfl) fun _ _ _ _ h => h
/-! the built-ins -/
theorem bt_len : bootBuiltins "len" = some (.builtin "len") := by decide +kernel
theorem bt_max : bootBuiltins "max" = some (.builtin "max") := by decide +kernel
theorem bt_min : bootBuiltins "min" = some (.builtin "min") := by decide +kernel
theorem bt_sum : bootBuiltins "sum" = some (.builtin "sum") := by decide +kernel
theorem bt_sorted : bootBuiltins "sorted" = some (.builtin "sorted") := by decide +kernel
theorem bt_isinstance : bootBuiltins "isinstance" = some (.builtin "isinstance") := by decide +kernel
theorem bt_int : bootBuiltins "int" = some (.type "int") := by decide +kernel
theorem bt_str : bootBuiltins "str" = some (.type "str") := by decide +kernel
theorem bt_bool : bootBuiltins "bool" = some (.type "bool") := by decide +kernel
theorem bt_list : bootBuiltins "list" = some (.type "list") := by decide +kernel
theorem bt_tuple : bootBuiltins "tuple" = some (.type "tuple") := by decide +kernel
theorem bt_ValueError : bootBuiltins "ValueError" = some (.type "ValueError") := by decide +kernel
theorem bt_range : bootBuiltins "range" = some (.type "range") := by decide +kernel
section
variable {E : XK} {K : PySem.W.Frag} {σ : L2.St} {I I' C C' H B C0 : Hp} {α β γ μ ω S ρ : Type} {R : Rp α} {S1 : Rp β} {te ta tb : TE} {tt : TT} {tz tu tw : TS} {D : Ends} {Q : ω → Prop} {X : Ec → Int → Prop} {p q : Addr}
abbrev rLen1 (K : PySem.W.Frag) : List V → Hp → VK → Prop := fun xs H Q => ∃ p ys, xs = [.ref p] ∧ (SqL K H p ys ∨ SqT K H p ys) ∧ Q (.int ys.length) H
abbrev rList1 (K : PySem.W.Frag) : List V → Hp → VK → Prop := fun xs H Q => ∃ p ys, xs = [.ref p] ∧ (SqL K H p ys ∨ SqT K H p ys) ∧ ∀ l, H l = none → Q (.ref l) (upd H l (.lst ys))
abbrev rTuple1 (K : PySem.W.Frag) : List V → Hp → VK → Prop := fun xs H Q => ∃ p ys, xs = [.ref p] ∧ ((SqL K H p ys ∧ ∀ l, H l = none → Q (.ref l) (upd H l (.tup ys))) ∨ (SqT K H p ys ∧ Q (.ref p) H))
theorem Op2.ofL {r : R2} {f : List α → β → Res γ} {T : Rp γ} (h : Op2 E K r f (pV R) S1 T) : Op2 E K r f (pL R) S1 T := fun I C H a b x y s ⟨p, vs, h1, h2, h3, h4⟩ hy Q q => h I C H a b x y s ⟨p, vs, h1, .inl h2, h3, h4⟩ hy Q q
def b2iR (b : Bool) : Res Int := .ok (if b = true then 1 else 0)
@[simp] theorem b2iR_eq (b : Bool) : b2iR b = .ok (if b = true then 1 else 0) := rfl
theorem o_intB : OpL E K (fun xs H Q => (∃ i, xs = [.int i] ∧ Q (.int i) H) ∨ ∃ k, xs = [.bl k] ∧ Q (.int (if k then 1 else 0)) H) b2iR (t1 pB) pI := fun I C H a vs s hv Q q => by
  obtain ⟨v, rfl, h⟩ := hv
  have hv : v = .bl a := h
  subst hv
  exact .inr ⟨a, rfl, PQ.now q s rfl⟩
/-! the end of a def -/
abbrev PM {α μ : Type} (p : Addr) (M : Rt μ) (R : Rp α) (I C : Hp) (Q : VK) (b : α × μ) : Prop := ∀ v ws' I2 H2, Ex I I2 → St I2 (upd C p (.lst ws')) H2 → M.r b.2 ws' I2 (upd C p (.lst ws')) → R.r b.1 v I2 (upd C p (.lst ws')) → Q v H2
theorem ret_pool [Im R] {M : Rt μ} [It M] {I0 : Hp} {Q : VK} {b : α × μ} {ws : List V} {v : V} (hm : PM p M R I0 C0 Q b) (e : Ex I0 I) (fr : Ex (off C0 p) C) (s : St I C H) (hc : C p = some (.lst ws)) (hx : M.r b.2 ws I Z) (r : R.r b.1 v I Z) : Q v H :=
  hm v ws I H e (s.less (ex_pool fr hc)) (It.im hx) (Im.im r)
theorem ret_poolN {M : Rt μ} [It M] {I0 : Hp} {Q : VK} {b : Unit × μ} {ws : List V} (hm : PM p M pN I0 C0 Q b) (e : Ex I0 I) (fr : Ex (off C0 p) C) (s : St I C H) (hc : C p = some (.lst ws)) (hx : M.r b.2 ws I Z) : Q .non H :=
  hm .non ws I H e (s.less (ex_pool fr hc)) (It.im hx) rfl
theorem ret_own [Im R] {I0 : Hp} {Q : VK} {xs : List α} {vs : List V} (hm : PN R I0 C0 Q xs) (e : Ex I0 I) (fr : Ex C0 C) (hp : C p = none) (s : St I (upd C p (.lst vs)) H) (hl : vs.length ≤ sizeLine) (hr : A2 (fun x u => R.r x u I C) xs vs) : Q (.ref p) H :=
  hm p vs I H e (Ex.free fr hp) (s.less fun a u h => by
    by_cases z : a = p
    · rw [z, upd_same] at h
      rw [z, upd_same]
      exact h
    · rw [upd_ne z] at h ⊢
      exact fr a u h) hl (hr.imp fun _ _ h => Im.im h)
theorem fr_pool2 {C2 : Hp} (h : Ex (off C0 p) C) (hq : off C0 p q = none) (k : ∀ r, r ≠ p → r ≠ q → C2 r = C r) : Ex (off C0 p) C2 := fun a o e => by
  have h1 : a ≠ p := fun z => by rw [z, off_same] at e; cases e
  rw [k a h1 (ne_of_none e hq)]
  exact h a o e
theorem i_cellZ [Im R] {i : Nat} {a : Addr} {vs : List V} {xs : List α} (h : σ[i]? = some (some (.ref a))) (hc : C a = some (.lst vs)) (hl : vs.length ≤ sizeLine) (hr : A2 (fun x u => R.r x u I Z) xs vs) :
    EvI E K (iList K (tVar i)) σ I C (fun C3 => C3 a = some (.lst vs)) (.ok xs) R := i_cell h hc hl (hr.imp fun _ _ h => Im.im h)
theorem im_rng2 {M : Rt μ} [It M] {Cp : Hp} {tr : TA} {m : μ → Res ((Int × Int) × μ)} (h : EvAM E K p M tr σ I Cp m (tc pI (t1 pI))) : EvIM E K p M (iRng2 tr) σ I Cp (unM rng2 m) pI := fun x ws I1 C1 H1 e e' s hc hx Kt q =>
  h x ws I1 C1 H1 e e' s hc hx _ ((Post.bind q).mono (fun b z vs ws' I2 H2 e2 s2 hx2 ⟨v, us, hv, rv, w, hw, rw⟩ => by
    have z := Post.bind z
    unfold rng2 at z
    split at z
    · rename_i hn
      have hv1 : v = .int b.1.1 := rv
      have hw1 : w = .int b.1.2 := rw
      subst hv hw hv1 hw1
      refine ⟨b.1.1, b.1.2, rfl, by omega, z ws' (Itr b.1.1 (b.1.2 - b.1.1).toNat) (fun _ => True) (YFn fun i => .int (b.1.1 + i)) I2 H2 e2 s2 hx2 (by rw [rangeL_length]; exact Nat.le_trans (show (b.1.2 - b.1.1).toNat ≤ 2000000 by omega) (by decide)) (by rw [rangeL_length]; exact walk_range) (fun _ _ _ _ _ => trivial) (fun i x v' I3 C3 H3 H4 hx e3 s3 y => ?_)⟩
      obtain ⟨rfl, rfl⟩ := y
      rw [rangeL_get hx]
      exact ⟨I3, Ex.refl _, s3, rfl⟩
    · exact z.elim) fun _ _ z => z)
theorem im_list {M : Rt μ} [It M] [Im R] {Cp : Hp} {m : μ → Res (List α × μ)} (h : EvM E K p M te σ I Cp m (pL R)) : EvIM E K p M (iList K te) σ I Cp m R := fun x ws I1 C1 H1 e e' s hc hx Kt q =>
  h x ws I1 C1 H1 e e' s hc hx _ (q.mono (fun b z v ws' I2 H2 e2 s2 hx2 ⟨a, us, h1, h2, h3, h4⟩ => ⟨a, h1, ⟨us, .inl (.inl (s2.i a _ h2))⟩, by
    have hn := h4.len
    refine z ws' (Itl K a) (fun H => SqL K H a us) (YAt us) I2 H2 e2 s2 hx2 (by omega) (by rw [← hn]; exact walk_list) (fun I3 C3 H3 e3 s3 => .inl (.inl (s3.i a _ (e3 a _ h2)))) (fun i x v' I3 C3 H3 H4 hx e3 s3 y => ?_)
    obtain ⟨rfl, y⟩ := y
    obtain ⟨w, hw, r⟩ := h4.get' hx
    rw [hw] at y
    cases y
    exact ⟨I3, Ex.refl _, s3, R.to e3 r⟩⟩) fun _ _ z => z)
theorem m_v {M : Rt μ} {Cp : Hp} {m : μ → Res (List α × μ)} (h : EvM E K p M te σ I Cp m (pL R)) : EvM E K p M te σ I Cp m (pV R) := fun x ws I1 C1 H1 e e' s hc hx Q q =>
  h x ws I1 C1 H1 e e' s hc hx Q (q.mono (fun b z v ws' I2 H2 e2 s2 hx2 ⟨a, vs, h1, h2, h3, h4⟩ => z v ws' I2 H2 e2 s2 hx2 ⟨a, vs, h1, .inl h2, h3, h4⟩) fun _ _ z => z)
/-! slices whose ends draw -/
def EvOM (E : XK) (K : PySem.W.Frag) (p : Addr) {μ : Type} (M : Rt μ) (to : TO) (σ : L2.St) (I Cp : Hp) (m : μ → Res (Option Int × μ)) : Prop :=
  ∀ x ws I1 C1 H1, Ex I I1 → Ex Cp C1 → St I1 C1 H1 → C1 p = some (.lst ws) → M.r x ws I1 C1 → ∀ Q : Option Int → Hp → Prop, Post (m x) (fun b => ∀ ws' I2 H2, Ex I1 I2 → St I2 (upd C1 p (.lst ws')) H2 → M.r b.2 ws' I2 (upd C1 p (.lst ws')) → Q b.1 H2) (fun _ _ => False) → to σ H1 Q
theorem pm_pure {M : Rt μ} {Cp : Hp} {to : TO} {m : Res (Option Int)} (h : EvO E K to σ I Cp m) : EvOM E K p M to σ I Cp (liftM m) := fun x ws I1 C1 H1 e e' s hc hx Q q =>
  h I1 C1 H1 e e' s Q ((Post.bind q).mono (fun a z I2 H2 e2 s2 => by
    have e3 : upd C1 p (.lst ws) = C1 := upd_id hc
    exact z ws I2 H2 e2 (by rw [e3]; exact s2) (by rw [e3]; exact M.mono e2 (Ex.refl _) hx)) fun _ _ z => z.elim)
theorem pm_some {M : Rt μ} {Cp : Hp} {m : μ → Res (Int × μ)} (h : EvM E K p M te σ I Cp m pI) : EvOM E K p M (tPart te) σ I Cp (unM (fun i => .ok (some i)) m) := fun x ws I1 C1 H1 e e' s hc hx Q q =>
  h x ws I1 C1 H1 e e' s hc hx _ ((Post.bind q).mono (fun b z v ws' I2 H2 e2 s2 hx2 rv => ⟨b.1, rv, z ws' I2 H2 e2 s2 hx2⟩) fun _ _ z => z)
def slM (m : Res (List α)) (lo hi : μ → Res (Option Int × μ)) : μ → Res (List α × μ) := fun x => m.bind fun xs => (lo x).bind fun a => (hi a.2).bind fun b => .ok (cut xs a.1 b.1, b.2)
theorem m_sl {M : Rt μ} [It M] [Im R] {Cp : Hp} {tl th : TO} {m : Res (List α)} {lo hi : μ → Res (Option Int × μ)} (hp : Cp p = none) (h : EvX E K te σ I Cp m (pL R)) (hl : EvOM E K p M tl σ I Cp lo) (hh : EvOM E K p M th σ I Cp hi) :
    EvM E K p M (tSl (rSlL K) te tl th) σ I Cp (slM m lo hi) (pL R) := fun x ws I1 C1 H1 e e' s hc hx Q q =>
  h I1 C1 H1 e e' s _ ((Post.bind q).mono (fun xs z v I2 H2 e2 s2 ⟨a, vs, h1, h2, h3, h4⟩ =>
    hl x ws I2 C1 H2 (e.trans e2) e' s2 hc (M.mono e2 (Ex.refl _) hx) _ ((Post.bind z).mono (fun b z2 ws' I3 H3 e3 s3 hx3 =>
      hh b.2 ws' I3 _ H3 (e.trans (e2.trans e3)) (e'.over hp) s3 upd_same hx3 _ ((Post.bind z2).mono (fun c z3 ws2 I4 H4 e4 s4 hx4 => by
        refine ⟨a, vs, h1, .inl (.inl (s4.i a _ (e4 a _ (e3 a _ h2)))), fun t ht => ?_⟩
        have eu : upd (upd C1 p (.lst ws')) p (.lst ws2) = upd C1 p (.lst ws2) := by
          funext r
          by_cases hr : r = p
          · rw [hr, upd_same, upd_same]
          · rw [upd_ne hr, upd_ne hr, upd_ne hr]
        rw [eu] at s4 hx4
        have ex := Ex.new (o := HO.lst (cutV vs b.1 c.1)) (s4.i.free ht)
        refine z3 (.ref t) ws2 (upd I4 t (.lst (cutV vs b.1 c.1))) _ (e2.trans (e3.trans (e4.trans ex))) (s4.newI ht) (M.mono ex (Ex.refl _) hx4) ⟨t, _, rfl, upd_same, ?_, ?_⟩
        · unfold cutV
          rw [List.length_take, List.length_drop]
          omega
        · exact (A2.cut (h4.imp fun _ _ r => R.to (e3.trans (e4.trans ex)) r) b.1 c.1)) fun _ _ z => z)) fun _ _ z => z)) fun _ _ z => z.elim)
theorem m_notV {M : Rt μ} {Cp : Hp} {m : μ → Res (Bool × μ)} (h : EvM E K p M te σ I Cp m pB) : EvM E K p M (tNotV te) σ I Cp (unM notR m) pB := fun x ws I1 C1 H1 e e' s hc hx Q q =>
  h x ws I1 C1 H1 e e' s hc hx _ ((Post.bind q).mono (fun b z v ws' I2 H2 e2 s2 hx2 rv => ⟨b.1, rv, z _ ws' I2 H2 e2 s2 hx2 rfl⟩) fun _ _ z => z)
theorem m_andV {M : Rt μ} {Cp : Hp} {m n : μ → Res (Bool × μ)} (hp : Cp p = none) (h1 : EvM E K p M ta σ I Cp m pB) (h2 : EvM E K p M tb σ I Cp n pB) : EvM E K p M (tAndV ta tb) σ I Cp (andM m n) pB := fun x ws I1 C1 H1 e e' s hc hx Q q =>
  h1 x ws I1 C1 H1 e e' s hc hx _ ((Post.bind q).mono (fun b z v ws' I2 H2 e2 s2 hx2 rv => by
    obtain ⟨c, y⟩ := b
    refine ⟨c, rv, ?_⟩
    cases c with
    | true =>
      rw [if_pos rfl]
      refine h2 y ws' I2 _ H2 (e.trans e2) (e'.over hp) s2 upd_same hx2 Q (Post.mono (m := n y) z (fun d z2 v ws2 I3 H3 e3 s3 hx3 rw => ?_) fun _ _ z => z)
      have eu : upd (upd C1 p (.lst ws')) p (.lst ws2) = upd C1 p (.lst ws2) := by
        funext r
        by_cases hr : r = p
        · rw [hr, upd_same, upd_same]
        · rw [upd_ne hr, upd_ne hr, upd_ne hr]
      rw [eu] at s3 hx3
      exact z2 v ws2 I3 H3 (e2.trans e3) s3 hx3 rw
    | false => exact z (.bl false) ws' I2 H2 e2 s2 hx2 rfl) fun _ _ z => z)
theorem m_orV {M : Rt μ} {Cp : Hp} {m n : μ → Res (Bool × μ)} (hp : Cp p = none) (h1 : EvM E K p M ta σ I Cp m pB) (h2 : EvM E K p M tb σ I Cp n pB) : EvM E K p M (tOrV ta tb) σ I Cp (orM m n) pB := fun x ws I1 C1 H1 e e' s hc hx Q q =>
  h1 x ws I1 C1 H1 e e' s hc hx _ ((Post.bind q).mono (fun b z v ws' I2 H2 e2 s2 hx2 rv => by
    obtain ⟨c, y⟩ := b
    refine ⟨c, rv, ?_⟩
    cases c with
    | false =>
      rw [if_neg (by decide)]
      refine h2 y ws' I2 _ H2 (e.trans e2) (e'.over hp) s2 upd_same hx2 Q (Post.mono (m := n y) z (fun d z2 v ws2 I3 H3 e3 s3 hx3 rw => ?_) fun _ _ z => z)
      have eu : upd (upd C1 p (.lst ws')) p (.lst ws2) = upd C1 p (.lst ws2) := by
        funext r
        by_cases hr : r = p
        · rw [hr, upd_same, upd_same]
        · rw [upd_ne hr, upd_ne hr, upd_ne hr]
      rw [eu] at s3 hx3
      exact z2 v ws2 I3 H3 (e2.trans e3) s3 hx3 rw
    | true => exact z (.bl true) ws' I2 H2 e2 s2 hx2 rfl) fun _ _ z => z)
/-- a for whose source draws, a turn of it may break or return -/
theorem qm_forR {M : Rt μ} {x : μ} {ws : List V} [It M] (P : S → L2.St → Hp → Hp → Prop) {wi : TI} {g : TG} {m : μ → Res (List α × μ)} {f : α → S → Res (Out S ρ)} {s0 : μ → S} {k : Out S ρ → Res ω} (hi : EvIM E K p M wi σ I (off C p) m R) (s : St I C H) (hc : C p = some (.lst ws)) (hx : M.r x ws I Z) (hm : Post (((m x).bind fun b => loopR f b.1 (s0 b.2)).bind k) Q XF)
    (h0 : ∀ y ws' I2 C2, Ex I I2 → C2 p = some (.lst ws') → (∀ q, q ≠ p → C2 q = C q) → M.r y ws' I2 Z → P (s0 y) σ I2 C2) (hP : ∀ s' σ' I' I2 C', Ex I' I2 → P s' σ' I' C' → P s' σ' I2 C')
    (body : ∀ (N : L2.St → Hp → Prop) x v s' σ' I' C' H', Ex I I' → St I' C' H' → P s' σ' I' C' → R.r x v I' C' → Post (f x s') (fun o => match o with
        | .nx s2 => ∀ σ2 I3 C3 H3, Ex I' I3 → St I3 C3 H3 → P s2 σ2 I3 C3 → N σ2 H3
        | .br s2 => ∀ σ2 I3 C3 H3, Ex I' I3 → St I3 C3 H3 → P s2 σ2 I3 C3 → tz D σ2 H3
        | .rt r => Post (k (.rt r)) Q XF) XF →
      g v σ' H' fun σ2 H2 => tu { D with nx := N, ct := N, bk := tz D } σ2 H2)
    (next : ∀ s' σ' I' C' H', Ex I I' → St I' C' H' → P s' σ' I' C' → Post (k (.nx s')) Q XF → tz D σ' H') : tSeq (tFor wi g tu) tz D σ H :=
  hi x ws I C H (Ex.refl _) off_ex s hc (It.im hx) _ ((Post.bind (Post.bind hm)).mono (fun b q2 ws2 J G Y I2 H2 e2 s2 hx2 hz w hG hY => by
    refine for_it w (fun i σ' H' => ∃ s' I' C', Ex I2 I' ∧ St I' C' H' ∧ P s' σ' I' C' ∧ Post ((loopR f (b.1.drop i) s').bind k) Q XF) ⟨s0 b.2, I2, _, Ex.refl _, s2, h0 _ _ I2 _ e2 upd_same (fun q h => upd_ne h) (It.im hx2), by rw [List.drop_zero]; exact Post.of_bind q2⟩
      (fun i σ' H' hi ⟨s', I', C', e3, s3, p, _⟩ => hG I' C' H' e3 s3) (fun i x σ' H1 H' hi ⟨s', I', C', e3, s3, p, po⟩ y => ?_) (fun σ' H' ⟨s', I', C', e3, s3, p, po⟩ => ?_)
    · obtain ⟨a, ha⟩ : ∃ a, b.1[i]? = some a := ⟨b.1[i], by simp [hi]⟩
      rw [drop_cons ha] at po
      obtain ⟨I4, e4, s4, ra⟩ := hY i a x I' C' H1 H' ha e3 s3 y
      refine body _ a x s' σ' I4 C' H' (e2.trans (e3.trans e4)) s4 (hP _ _ _ _ _ e4 p) ra ((Post.bind (Post.bind po)).mono (fun o z => ?_) fun _ _ z => z)
      cases o with
      | nx s3 => exact fun σ2 I5 C5 H5 e5 s5 p5 => ⟨s3, I5, C5, e3.trans (e4.trans e5), s5, p5, Post.of_bind z⟩
      | br s3 => exact fun σ2 I5 C5 H5 e5 s5 p5 => next s3 σ2 I5 C5 H5 (e2.trans (e3.trans (e4.trans e5))) s5 p5 z
      | rt r => exact z
    · rw [List.drop_length] at po
      exact next s' σ' I' C' H' (e2.trans e3) s3 p po) fun _ _ z => z)
end
end Sd

namespace PySem.W
open PySem PySem.Spec PySem.Calls PyProof.Rows
section
variable {prog : Program} {w : World} {A : Around} {E : Value → Shared → Prop} {s : Shared} {K : Frag} {y D0 : Addr} {oy dct : Obj}
/-- what a caught error with a dict of its own answers to __class__ -/
theorem sd_class {G : Option Value → Shared → Prop} (T : L2.ExcC K D0) (hK : K.In s.heap) (J : InstAt s.heap y oy D0 (some dct)) (hG : G (some (.ref D0)) { s with toks := s.toks + 1 }) :
    wpAny (model prog w) A (getAttr? (.ref y) "__class__") G E s := by
  have hfind : findObj K D0 (some dct) "__class__" = some (.bind (.builtin "getset_descriptor.__get__") (.builtin "object.__class__")) := by
    obtain ⟨cd, hcd, _⟩ := any_some T.hd
    unfold findObj
    rw [hcd, Option.bind_some, T.ha, Option.bind_some]
    simp [T.hn, T.ht]
  obtain ⟨heap, gens, drw, tk, osx⟩ := s
  have kT := J.type (M := model prog w)
  have kA := looks_findIn (M := model prog w) hK T.hg
  have kB := looks_findIn (M := model prog w) hK T.hk
  have kF := looks_find (M := model prog w) hK J hfind
  have kS : Looks (model prog w) heap (isInstance (.ref y) (.type "BaseException")) true := kT.andThen (looks_subIn hK T.hs)
  have n0 : (false && onTheHeap (Value.builtin "BaseException.__getattribute__")) = false := rfl
  have n1 : (Value.builtin "BaseException.__getattribute__" == Value.builtin "object.__getattribute__") = false := by decide +kernel
  have n2 : (onTheHeap (Value.ref D0) && Value.builtin "BaseException.__getattribute__" == Value.builtin "object.__getattribute__") = false := by
    rw [n1]
    rfl
  unfold getAttr? getAttrBy? getAttrBy
  refine wpAny_bind (wpAny_mkText (wpAny_bind (wpAny_attempt (wpAny_holding (wpAny_bind (kT.at (wpAny_bind (kA.at ?_))))))))
  show wpAny _ _ (if (onTheHeap (Value.ref D0) && Value.builtin "BaseException.__getattribute__" == Value.builtin "object.__getattribute__") = true then _ else _) _ _ _
  rw [n2, if_neg Bool.false_ne_true]
  unfold getAttrByItsOwn hookBefore
  refine wpAny_bind ?_
  rw [if_pos (show onTheHeap (Value.ref D0) = true from rfl)]
  refine kB.at ?_
  refine wpAny_bind (wpAny_attempt (wpAny_holding ?_))
  unfold callGetattribute
  rw [n0, if_neg Bool.false_ne_true]
  unfold boundAndCalled
  rw [PySem.F.excAttr_ValueError.ga.bind (.ref y)]
  refine wpAny_bind (wpAny_pure ?_)
  show wpAny _ _ (call (.builtin "BaseException.__getattribute__") [.ref y, .str "__class__" tk]) _ _ _
  refine wpAny_call (codeAny_call_builtin PySem.F.excAttr_ValueError.ga.plain PySem.F.entry_bexc_ga ?_)
  refine @check_slot (model prog w) _ _ ⟨heap, gens, drw, tk + 1, osx⟩ "BaseException.__getattribute__" "BaseException" "__getattribute__" (.ref y) [.str "__class__" tk] [] _ (by decide +kernel) (by decide +kernel) kS (PySem.F.args_bexc_ga (.ref y) (.str "__class__" tk)) ?_
  unfold Builtin.«object.__getattribute__»
  refine wpAny_bind (wpAny_of_eq (a := ((Value.ref y : Value), [Value.str "__class__" tk])) (by first | rfl | (simp only [slotArgs]; rfl)) ?_)
  refine wpAny_bind (wpAny_pure (wpAny_bind (kT.at (wpAny_bind (kF.at ?_)))))
  show wpAny _ _ (holding [Value.builtin "object.__class__"] (call (.builtin "getset_descriptor.__get__") [.builtin "object.__class__", .ref y, .ref D0]) >>= ret) _ _ _
  refine wpAny_bind (wpAny_holding (wpAny_call (class_get (s := ⟨heap, gens, drw, tk + 1, osx⟩) (ox := oy) (od := some dct) hK J T.hm ?_)))
  refine wpAny_pure ?_
  show wpAny _ _ (handedOut (.ref D0)) _ _ _
  rw [handedOut_of (v := .ref D0) rfl]
  first
    | exact wpAny_pure (wpAny_pure hG)
    | exact wpAny_pure hG
    | exact wpAny_pure (wpAny_bind (wpAny_pure (wpAny_pure hG)))
theorem sd_kit (T : L2.ExcC K D0) : KitX K (.ref y) (.ref D0) (fun h => InstAt h y oy D0 (some dct)) where
  ty := fun _ _ _ J => J.type
  it := fun _ _ hK _ => by
    obtain ⟨cd, hcd, _⟩ := any_some T.hd
    unfold clsIn at hcd
    split at hcd
    · rename_i c1 d1 cd1 sl1 ho1
      intro A1 Q1 E1 s1 k1 q1
      unfold isType loadHead
      exact wpAny_bind (wpAny_loadPart (k1 _ _ (hK _ _ ho1)) (wpAny_pure q1))
    · cases hcd
  ne := fun h tp dd its n sl hK htp => by
    obtain ⟨cd, hcd, _⟩ := any_some T.hd
    refine Bool.eq_false_iff.mpr fun z => ?_
    have e : D0 = tp := Value.ref.inj (beq_iff_eq.mp z)
    subst e
    unfold clsIn at hcd
    split at hcd
    · rename_i c1 d1 cd1 sl1 ho1
      cases (hK _ _ ho1).symm.trans htp
    · cases hcd
  ca := fun hK J k => sd_class T hK J k
end
end PySem.W
namespace Sd
open PySem L2
/-! ### own errors -/
def mth : Stmt → Stmt
  | .ClassDef _ _ _ body _ _ _ _ _ _ _ => body.getD 0 (.Pass ⟨0, 0, 0, 0⟩)
  | s => s
def isaE (c b : Ec) : Bool := decide (c = b) || decide (b = .DeskError)
/-- what the written part says of an own error -/
structure ErrC (K : PySem.W.Frag) (mg : Str → Option Value) (fI : Addr) (c : Ec) : Prop where
  o : OexC K (He.ga K c.name)
  ic : PySem.W.findIn K (.ref (He.ga K c.name)) "__init__" = some (some (.ref fI))
  ti : PySem.W.typeIn K (.ref fI) = some (.type "function")
  g : mg c.name = some (.ref (He.ga K c.name))
  na : PySem.W.findIn K (.ref (He.ga K c.name)) "at" = some none
  xf : XfC K (He.ga K c.name)
  is : ExcC K (He.ga K c.name)
  ve : PySem.W.kitOne K (.ref (He.ga K c.name)) (.type "ValueError") = some true
/-- self.at = at -/
def spInit (K : PySem.W.Frag) : Sp := fun vs H Q _ => ∃ (a C : Addr) (i : Int), vs = [.ref a, .int i] ∧ OexC K C ∧ PySem.W.findIn K (.ref C) "at" = some none ∧ H a = some (exo a C none) ∧
  ∀ dx, H dx = none → dx ≠ a → Q .non (upd (upd H dx (exd dx [(("at" : Str), .int i)])) a (exo a C (some dx)))
section
variable {P : Program} {w : World} {K : PySem.W.Frag} {mg : Str → Option Value} {base : Heap}
abbrev ErrF (K : PySem.W.Frag) (st : Stmt) (f : Addr) (fd : FuncData) : Prop := FunD K "__init__" "DeskError.__init__" (defArgs st) (defBody st) (defScope st) [.int 0] [] f fd
end
section
variable {E : XK} {K : PySem.W.Frag} {mg : Str → Option Value} {fI : Addr} {σ : L2.St} {I C H : Hp} {α β ω S ρ : Type} {ta : TA} {te : TE} {tz : TS} {D : Ends} {Q : ω → Prop} {X : Ec → Int → Prop}
theorem s_raise {c : Ec} {m : Res Int} (x : ErrC K mg fI c) (h : EvA E K ta σ I C m (t1 pI)) (s : St I C H) (hX : XH X E K I C) (hm : Post (m.bind fun i => Res.exc c i : Res ω) Q X) :
    tSeq (fun _ σ H => tMkO (He.ga K c.name) (spInit K) [] ta σ H fun cls d H' => E cls d H') tz D σ H :=
  h I C H (Ex.refl _) (Ex.refl _) s _ ((Post.bind hm).mono (fun i q vs I2 H2 e2 s2 ⟨v, hv, rv⟩ => by
    have hv1 : v = .int i := rv
    subst hv hv1
    have po : PX E K I2 C c i := (hX c i q).mono e2 (Ex.refl _)
    refine ⟨Nat.le_of_ble_eq_true rfl, fun a ha => ⟨a, He.ga K c.name, i, rfl, x.o, x.na, upd_same, fun dx hdx hne => ⟨rfl, dx, [(("at" : Str), .int i)], upd_same, ?_, ?_, ?_⟩⟩⟩
    · rw [upd_ne hne, upd_same]
    · rw [upd_ne hne] at hdx
      exact hdx
    · rw [upd_ne hne] at hdx
      have eh : upd (del (upd (upd (upd H2 a (exo a (He.ga K c.name) none)) dx (exd dx [(("at" : Str), .int i)])) a (exo a (He.ga K c.name) (some dx))) a) dx (.xd [(("at" : Str), .int i)]) = upd H2 dx (.xd [(("at" : Str), .int i)]) := by
        funext b
        by_cases h1 : b = dx
        · rw [h1, upd_same, upd_same]
        · rw [upd_ne h1, upd_ne h1]
          by_cases h2 : b = a
          · rw [h2, del_same, ha]
          · rw [del_ne h2, upd_ne h2, upd_ne h1, upd_ne h2]
      rw [eh]
      exact po dx (upd I2 dx (.xd [(("at" : Str), .int i)])) _ (Ex.new (s2.i.free hdx)) (s2.newI hdx) upd_same) hX)
/-! in an except suite -/
def tXfX (K : PySem.W.Frag) (a : Addr) (cls : Value) (d : Option Addr) (f : Str) (te : TE) : TE := fun σ H Q => ∃ C, (XfC K C ∧ PySem.W.findIn K (.ref C) f = some none) ∧ tXf a cls d C f te σ H Q
theorem pe_xfX {X : Cx} {a : Addr} {oe : Obj} {cls : Value} {d : Option Addr} {pn : List (Addr × Obj)} {e : Expr} {te : TE} {pos : Pos} {n : Str}
    (hz : Zc cls d oe) (hf : ∃ vs, oe.data = .fields vs) (he : PE (X.suite a ((a, oe) :: pn)) e te) (hb : attributeBase e n X.env (eval e X.env) = eval e X.env := by rfl) :
    PE (X.suite a ((a, oe) :: pn)) (.Attribute e n pos) (tXfX X.K a cls d n te) :=
  ⟨fun pins s σ H Q I ⟨C, ⟨T, hno⟩, h⟩ => (pe_xf (C := C) T hno hz hf he hb).run pins s σ H Q I h⟩
def rIsX (K : PySem.W.Frag) (a : Addr) (cls : Value) (d : Option Addr) : List V → Hp → VK → Prop := fun xs H Q => ∃ (D dd : Addr) (fs : List (Str × V)) (c : V) (cv : Value) (b : Bool), ExcC K D ∧ cls = .ref D ∧ d = some dd ∧ H dd = some (.xd fs) ∧ xs = [.ref a, c] ∧
  (∀ u, RelV c u → u = cv) ∧ PySem.W.kitOne K (.ref D) cv = some b ∧ Q (.bl b) H
theorem call_isX {Y : Cx} {a : Addr} {cls : Value} {d : Option Addr} {oe : Obj} {pn : List (Addr × Obj)} (hz : Zc cls d oe) (hf : ∃ vs, oe.data = .fields vs) : CallR (Y.suite a ((a, oe) :: pn)) (.builtin "isinstance") (rIsX Y.K a cls d) := by
  intro pins s σ H xs us Q I r h
  obtain ⟨D, dd, fs, c, cv, b, T, rfl, rfl, hd, rfl, hcv, e, q⟩ := h
  cases r with
  | cons r1 rr =>
    cases rr with
    | cons r2 rr =>
      cases rr
      cases r1
      have ec := hcv _ r2
      subst ec
      obtain ⟨hget, _⟩ := I.pin (a, oe) (List.mem_append.mpr (.inl List.mem_cons_self))
      obtain ⟨vs, hv⟩ := hf
      have hx : ObjOk Y.prog Y.w H s.heap dd (.xd fs) := I.hok dd _ hd
      obtain ⟨mA, hns, _⟩ := hx
      obtain ⟨od, ho, _⟩ := lookIn_ns hns
      have J : PySem.W.InstAt s.heap a oe D (some od) := ⟨hget, hz.1, by unfold PySem.W.notCls; rw [hv] <;> rfl, by rw [hz.2]; exact ho⟩
      exact PySem.W.kia_one (PySem.W.sd_kit T) I.kIn J e (fun z => nomatch z) fun tk => ⟨.bl b, H, I.kept (t' := tk) fun _ _ z => z, rfl, q⟩
/-- the caught error: its class, its number, where it stands -/
structure Cg (K : PySem.W.Frag) (mg : Str → Option Value) (fI : Addr) (I : Hp) (cls : Value) (d : Option Addr) (c : Ec) (i : Int) : Prop where
  x : ErrC K mg fI c
  cl : cls = .ref (He.ga K c.name)
  dd : ∃ dd, d = some dd ∧ I dd = some (.xd [(("at" : Str), .int i)])
theorem Cg.up {I2 : Hp} {cls : Value} {d : Option Addr} {c : Ec} {i : Int} (e : Ex I I2) (g : Cg K mg fI I cls d c i) : Cg K mg fI I2 cls d c i := ⟨g.x, g.cl, by
  obtain ⟨dd, h1, h2⟩ := g.dd
  exact ⟨dd, h1, e _ _ h2⟩⟩
theorem x_at {a : Addr} {j : Nat} {cls : Value} {d : Option Addr} {c : Ec} {i : Int} (g : Cg K mg fI I cls d c i) (hv : σ[j]? = some (some (.ref a))) : EvX E K (tXfX K a cls d "at" (tVar j)) σ I C (.ok i) pI := fun I1 C1 H1 e e' s Q q => by
  obtain ⟨dd, h1, h2⟩ := g.dd
  exact ⟨_, ⟨g.x.xf, g.x.na⟩, _, hv, rfl, g.cl, dd, _, .int i, h1, s.i _ _ (e _ _ h2), by simp [List.lookup], PQ.now (R := pI) (a := i) q s rfl⟩
theorem x_isE {a : Addr} {j : Nat} {cls : Value} {d : Option Addr} {c c2 : Ec} {i : Int} (g : Cg K mg fI I cls d c i) (hk : PySem.W.kitOne K (.ref (He.ga K c.name)) (.ref (He.ga K c2.name)) = some (isaE c c2)) (hv : σ[j]? = some (some (.ref a))) :
    EvX E K (tCB (rIsX K a cls d) (tCons (tVar j) (tCons (tC (.ref (He.ga K c2.name))) tNil))) σ I C (.ok (isaE c c2)) pB := fun I1 C1 H1 e e' s Q q => by
  obtain ⟨dd, h1, h2⟩ := g.dd
  exact ⟨_, hv, _, dd, _, _, _, _, g.x.is, g.cl, h1, s.i _ _ (e _ _ h2), rfl, fun u r => r, hk, PQ.now (R := pB) (a := isaE c c2) q s rfl⟩
theorem x_isVE {a : Addr} {j : Nat} {cls : Value} {d : Option Addr} {c : Ec} {i : Int} (g : Cg K mg fI I cls d c i) (hv : σ[j]? = some (some (.ref a))) :
    EvX E K (tCB (rIsX K a cls d) (tCons (tVar j) (tCons (tC (.ty "ValueError")) tNil))) σ I C (.ok true) pB := fun I1 C1 H1 e e' s Q q => by
  obtain ⟨dd, h1, h2⟩ := g.dd
  exact ⟨_, hv, _, dd, _, _, _, _, g.x.is, g.cl, h1, s.i _ _ (e _ _ h2), rfl, fun u r => r, g.x.ve, PQ.now (R := pB) (a := true) q s rfl⟩
/-! a call in the body of a try -/
theorem x_callS {W : WX} {T : Rt α} {f : α → Res β} {R : Rp β} {m : Res α} (h : EvA (WE W σ) K ta σ I C m T) : EvX (WE W σ) K (tCallS (spP K T f R) (WE W) ta) σ I C (un f m) R := fun I1 C1 H1 e e' s Q q =>
  h I1 C1 H1 e e' s _ ((Post.bind q).mono (fun a p vs I2 H2 e2 s2 rv => ⟨I2, C1, a, s2, rv, Post.mono (m := f a) p (fun b z v I3 H3 e3 s3 rw => z v I3 H3 (e2.trans e3) s3 rw) fun c i z => z.mono e2 (Ex.refl _)⟩) fun _ _ z => z)
theorem n_callS {W : WX} {T : Rt α} {f : α → Res (List β)} {R : Rp β} {m : Res α} (h : EvA (WE W σ) K ta σ I C m T) : EvN (WE W σ) K (tCallS (spO K T f R) (WE W) ta) σ I C (un f m) R := fun I1 C1 H1 e e' s Q q =>
  h I1 C1 H1 e e' s _ ((Post.bind q).mono (fun a p vs I2 H2 e2 s2 rv => ⟨I2, C1, a, s2, rv, Post.mono (m := f a) p (fun b z => z.up e2) fun c i z => z.mono e2 (Ex.refl _)⟩) fun _ _ z => z)
/-! try: body, except the errors in L as e: suite -/
def tryR {α : Type} (Kn L : Ec → Bool) (m : Res α) (f : Ec → Int → Res α) : Res α := match m with
  | .ok a => .ok a
  | .exc c i => if Kn c = true then (if L c = true then f c i else .exc c i) else .bad
  | .bad => .bad
@[simp] theorem tryR_ok {α : Type} (Kn L : Ec → Bool) (a : α) (f : Ec → Int → Res α) : tryR Kn L (.ok a) f = .ok a := rfl
theorem tryR_exc {α : Type} {Kn L : Ec → Bool} {c : Ec} {i : Int} (h : Kn c = true) (h2 : L c = true) (f : Ec → Int → Res α) : tryR Kn L (.exc c i) f = f c i := by
  show (if Kn c = true then (if L c = true then f c i else .exc c i) else .bad) = f c i
  rw [if_pos h, if_pos h2]
abbrev Xb {σ' ρ' ω' : Type} (Kn L : Ec → Bool) (ms : Ec → Int → Res (Out σ' ρ')) (k : Out σ' ρ' → Res ω') (Q : ω' → Prop) (X : Ec → Int → Prop) (c : Ec) (j : Int) : Prop := Kn c = true ∧ (if L c = true then Post ((ms c j).bind k) Q X else X c j)
/-- try: .. except c as e: .. -/
def tTry (K : PySem.W.Frag) (c : Value) (i : Nat) (tb : WX → TS) (ts : Addr → Value → Option Addr → TS) (Wout : WX) : TS := fun D σ H => tb (wAs K c i ts Wout D) D σ H
theorem ps_tryS {X : Cx} {x n : Str} {c : Value} {i : Nat} {body suite : List Stmt} {b₀ : Stmt} {np pos pos' : Pos} {tb : WX → TS} {ts : Addr → Value → Option Addr → TS} {Wout : WX} (hs : X.stack = X.env :: X.outer) (hf : X.env.frame = some X.env.locals) (hN : X.N.Nodup) (hi : X.N[i]? = some n) (hln : X.env.kindOf n = some .local) (hc : Names X x c) (tk : Takes X Wout)
    (hb : ∀ (W : WX) (pn : List (Addr × Obj)) (xe : Value → Shared → Prop), Takes (X.tr pn xe) W → PassesOwn (model X.prog X.w) X.A X.env xe → PSs (X.tr pn xe) body (tb W))
    (hsu : ∀ (a : Addr) (oe : Obj) (cls : Value) (d : Option Addr) (pn : List (Addr × Obj)), Zc cls d oe → (∃ vs, oe.data = .fields vs) → PSs (X.suite a ((a, oe) :: pn)) (b₀ :: suite) (ts a cls d)) :
    PS X (.Try body [.ExceptHandler (some (.Name x np)) (some n) (b₀ :: suite) pos'] [] [] pos) (tTry X.K c i tb ts Wout) := ps_try_as hs hf hN hi hln hc tk hb hsu
/-- the word P of what stands behind it (slot i of e is empty then), Pe of where the body may break off -/
theorem s_try (P : S → L2.St → Hp → Hp → Prop) (Pe : L2.St → Hp → Hp → Prop) {i : Nat} {tb : WX → TS} {ts : Addr → Value → Option Addr → TS} {cv : Value} {Kn L : Ec → Bool} {mb : Res (Out S ρ)} {ms : Ec → Int → Res (Out S ρ)} {k : Out S ρ → Res ω}
    (hexm : ∀ c, Kn c = true → PySem.W.exmOne K (.ref (He.ga K c.name)) cv = some (L c) ∧ ErrC K mg fI c)
    (hX : ∀ σ' I' C', Ex I I' → Pe σ' I' C' → XH X E K I' C')
    (hP : ∀ σ' I' I2 C', Ex I' I2 → Pe σ' I' C' → Pe σ' I2 C')
    (hm : Post ((tryR Kn L mb ms).bind k) Q X)
    (body : ∀ (N : L2.St → Hp → Prop) (W : WX), (∀ σ' I' C', Ex I I' → Pe σ' I' C' → XH (Xb Kn L ms k Q X) (WE W σ') K I' C') →
      Post mb (fun o => match o with
        | .nx s' => ∀ σ2 I3 C3 H3, Ex I I3 → St I3 C3 H3 → P s' σ2 I3 C3 → N σ2 H3
        | o => Post (k o) Q X) (Xb Kn L ms k Q X) → tb W { D with nx := N } σ H)
    (suite : ∀ (N : L2.St → Hp → Prop) c j a cls d σ' I' C' H', Kn c = true → Cg K mg fI I' cls d c j → Ex I I' → St I' C' H' → Pe σ' I' C' → Post (ms c j) (fun o => match o with
        | .nx s' => ∀ (σ2 : L2.St) I3 C3 H3, Ex I' I3 → St I3 C3 H3 → P s' (σ2.set i none) I3 C3 → N (σ2.set i none) H3
        | o => Post (k o) Q X) X → ts a cls d { nx := fun σ1 H1 => N (σ1.set i none) H1, rt := D.rt, bk := fun σ1 H1 => D.bk (σ1.set i none) H1, ct := fun σ1 H1 => D.ct (σ1.set i none) H1 } (σ'.set i (some (.ref a))) H')
    (next : ∀ s' σ2 I3 C3 H3, Ex I I3 → St I3 C3 H3 → P s' σ2 I3 C3 → Post (k (.nx s')) Q X → tz D σ2 H3) :
    Evl.tCut (tTry K cv i tb ts (fun cls d _ H => E cls d H)) tz D σ H := by
  refine ⟨fun σ2 H3 => ∃ s' I3 C3, Ex I I3 ∧ St I3 C3 H3 ∧ P s' σ2 I3 C3 ∧ Post (k (.nx s')) Q X, ?_, fun σ2 H3 ⟨s', I3, C3, e3, s3, p, q⟩ => next s' σ2 I3 C3 H3 e3 s3 p q⟩
  refine body _ _ (fun σ' I' C' e p c j hx d I2 H2 e2 s2 hd => ?_) ?_
  · obtain ⟨kn, hx⟩ := hx
    obtain ⟨he, x⟩ := hexm c kn
    refine ⟨L c, he, fun hl a ha => ?_, fun hl => ?_⟩
    · rw [if_pos hl] at hx
      refine suite _ c j a _ (some d) σ' I2 C' H2 kn ⟨x, rfl, d, rfl, hd⟩ (e.trans e2) s2 (hP _ _ _ _ e2 p) ((Post.bind hx).mono (fun o z => ?_) fun _ _ z => z)
      cases o with
      | nx s' => exact fun (σ2 : L2.St) I3 C3 H3 e3 s3 pp => ⟨s', I3, C3, e.trans (e2.trans e3), s3, pp, z⟩
      | br s' => exact z
      | rt r => exact z
    · rw [if_neg (by rw [hl]; decide)] at hx
      exact hX σ' I' C' e p c j hx d I2 H2 e2 s2 hd
  · cases mb with
    | ok o =>
      have z : Post (k o) Q X := hm
      cases o with
      | nx s' => exact fun σ2 I3 C3 H3 e3 s3 pp => ⟨s', I3, C3, e3, s3, pp, z⟩
      | br s' => exact z
      | rt r => exact z
    | exc c j =>
      show Xb Kn L ms k Q X c j
      by_cases kn : Kn c = true
      · refine ⟨kn, ?_⟩
        have z : Post ((if Kn c = true then (if L c = true then ms c j else Res.exc c j) else .bad).bind k) Q X := hm
        rw [if_pos kn] at z
        by_cases hl : L c = true
        · rw [if_pos hl] at z
          rw [if_pos hl]
          exact z
        · rw [if_neg hl] at z
          rw [if_neg hl]
          exact z
      · have z : Post ((if Kn c = true then (if L c = true then ms c j else Res.exc c j) else .bad).bind k) Q X := hm
        rw [if_neg kn] at z
        exact z.elim
    | bad => exact hm
/-! the law -/
def spLaw (K : PySem.W.Frag) (m : List Int → Res Bool) : Sp := fun vs H Q _ => ∃ (a : Addr) (ns : List Int), vs = [.ref a] ∧ SqL K H a (ns.map V.int) ∧ ns.length ≤ 1000 ∧ Post (m ns) (fun b => ∀ v H', v = V.bl b → Q v H') XF
theorem law_start {a : Addr} {ns : List Int} (hS : SqL K H a (ns.map V.int)) (hz : ns.length ≤ 1000) : ∃ I0, St I0 Z H ∧ (pW K pI).r ns (.ref a) I0 Z := by
  refine ⟨fun b => if b = a then H a else none, ⟨fun b o h => ?_, exz, fun _ => .inr rfl⟩, a, ns.map V.int, rfl, ?_, ?_, A2.of_map (f := fun x u => pI.r x u _ Z) (h := V.int) (fun _ => rfl) ns⟩
  · by_cases q : b = a
    · rw [if_pos q] at h
      rw [q]
      exact h
    · rw [if_neg q] at h
      cases h
  · rcases hS with (h | ⟨o, h⟩) | h
    · exact .inl (.inl (by show (if a = a then H a else none) = _; rw [if_pos rfl]; exact h))
    · exact .inl (.inr ⟨o, by show (if a = a then H a else none) = _; rw [if_pos rfl]; exact h⟩)
    · exact .inr h
  · rw [List.length_map]
    exact Nat.le_trans hz (by decide)
def poolR (ns : List Int) : Res Pl := .ok (0, 0, 0, cut ns none (some 63))
@[simp] theorem poolR_eq (ns : List Int) : poolR ns = .ok (0, 0, 0, cut ns none (some 63)) := rfl
def spPool (K : PySem.W.Frag) : Sp := fun vs H Q _ => ∃ (I C : Hp) (ns : List Int) (v : V), vs = [v] ∧ St I C H ∧ (pW K pI).r ns v I Z ∧
  ∀ p ws I2 H2, Ex I I2 → C p = none → St I2 (upd C p (.lst ws)) H2 → pM.r (0, 0, 0, cut ns none (some 63)) ws I2 Z → Q (.ref p) H2
theorem n_lstP {A : Rt α} [It A] {tr : TA} {m : Res α} (h : EvA E K tr σ I C m A) (hn : A.n ≤ 100) (s : St I C H) {Q : VK} (q : Post m (fun a => ∀ p ws I2 H2, Ex I I2 → C p = none → St I2 (upd C p (.lst ws)) H2 → A.r a ws I2 Z → Q (.ref p) H2) (PX E K I C)) : tLst tr σ H Q :=
  h I C H (Ex.refl _) (Ex.refl _) s _ (q.mono (fun a p vs I2 H2 e2 s2 rv => ⟨by rw [A.len rv]; exact Nat.le_trans hn (by decide), fun t ht => p t vs I2 _ e2 (s2.c.free ht) (s2.newC ht) (It.im rv)⟩) fun _ _ z => z)
theorem q_mkpool {i j : Nat} {v : V} {ns : List Int} {k : Pl → Res ω} (hv : σ[j]? = some (some v)) (hr : (pW K pI).r ns v I Z) (s : St I C H) (hm : Post ((poolR ns).bind k) Q XF)
    (next : ∀ y p ws I2 C2 H2, Ex I I2 → St I2 C2 H2 → C2 p = some (.lst ws) → pM.r y ws I2 Z → Post (k y) Q XF → tz D (σ.set i (some (.ref p))) H2) : tSeq (tAsg (tCall (spPool K) [] E (tCons (tVar j) tNil)) (gName i)) tz D σ H :=
  ⟨v, hv, I, C, ns, v, rfl, s, hr, fun p ws I2 H2 e hp s2 hx => next _ p ws I2 _ H2 e s2 upd_same hx hm⟩
/-! a list that was not there at B -/
def pLn (B : Hp) (R : Rp α) : Rp (List α) := ⟨fun xs v I C => (pL R).r xs v I C ∧ ∀ a, v = .ref a → B a = none, fun e e' h => ⟨(pL R).mono e e' h.1, h.2⟩⟩
instance {B : Hp} {R : Rp α} [Im R] : Im (pLn B R) := ⟨fun h => ⟨Im.im h.1, h.2⟩⟩
instance {B : Hp} {R : Rp α} : NN (pLn B R) := ⟨fun h => NN.nn h.1⟩
instance {B : Hp} {R : Rp α} : TyR K (pLn B R) "list" := ⟨fun s h => TyR.ty s h.1⟩
theorem x_n2l {B : Hp} {R : Rp α} {m : Res (List α)} (h : EvX E K te σ I C m (pLn B R)) : EvX E K te σ I C m (pL R) := fun I1 C1 H1 e e' s Q q =>
  h I1 C1 H1 e e' s Q (q.mono (fun a p v I2 H2 e2 s2 rv => p v I2 H2 e2 s2 rv.1) fun _ _ z => z)
/-- f(a ..) hands back a thing of R, which looks at what was known before -/
def spPd (K : PySem.W.Frag) {α β : Type} (T : Rt α) (m : α → Res β) (R : Hp → Rp β) : Sp := fun vs H Q E => ∃ (I C : Hp) (a : α), St I C H ∧ T.r a vs I C ∧ Post (m a) (PQ (R I) I C Q) (PX E K I C)
theorem x_callD {T : Rt α} {f : α → Res β} {R : Hp → Rp β} {m : Res α} (hR : ∀ {I I2 a v I3 C3}, Ex I I2 → (R I2).r a v I3 C3 → (R I).r a v I3 C3) (h : EvA E K ta σ I C m T) : EvX E K (tCall (spPd K T f R) [] E ta) σ I C (un f m) (R I) := fun I1 C1 H1 e e' s Q q =>
  h I1 C1 H1 e e' s _ ((Post.bind q).mono (fun a p vs I2 H2 e2 s2 rv => by
    refine ⟨I2, C1, a, s2, by rw [List.append_nil]; exact rv, Post.mono (m := f a) p (fun b z v I3 H3 e3 s3 rw => z v I3 H3 (e2.trans e3) s3 (hR (e.trans e2) rw)) fun c i z => z.mono e2 (Ex.refl _)⟩) fun _ _ z => z)
theorem x_callDS {W : WX} {T : Rt α} {f : α → Res β} {R : Hp → Rp β} {m : Res α} (hR : ∀ {I I2 a v I3 C3}, Ex I I2 → (R I2).r a v I3 C3 → (R I).r a v I3 C3) (h : EvA (WE W σ) K ta σ I C m T) : EvX (WE W σ) K (tCallS (spPd K T f R) (WE W) ta) σ I C (un f m) (R I) := fun I1 C1 H1 e e' s Q q =>
  h I1 C1 H1 e e' s _ ((Post.bind q).mono (fun a p vs I2 H2 e2 s2 rv => ⟨I2, C1, a, s2, rv, Post.mono (m := f a) p (fun b z v I3 H3 e3 s3 rw => z v I3 H3 (e2.trans e3) s3 (hR (e.trans e2) rw)) fun c i z => z.mono e2 (Ex.refl _)⟩) fun _ _ z => z)
theorem paper_up {R : Rp α} {S1 : Rp β} {B B2 : Hp} {x : Str × (List α ⊕ β)} {v : V} {I C : Hp} (e : Ex B B2) (h : (pT (tc pS (t1 (pX (pLn B2 R) S1)))).r x v I C) : (pT (tc pS (t1 (pX (pLn B R) S1)))).r x v I C := by
  obtain ⟨a, vs, h1, h2, u, us, h3, h4, w, h5, h6⟩ := h
  refine ⟨a, vs, h1, h2, u, us, h3, h4, w, h5, ?_⟩
  obtain ⟨x1, x2⟩ := x
  cases x2 with
  | inl xs => exact ⟨h6.1, fun a z => e.free (h6.2 a z)⟩
  | inr b => exact h6
/-- told[1].append(0): the list of the told thing changes, none of what was known before it does -/
theorem q_appN {R : Rp Int} {S1 : Rp β} {B It : Hp} {i : Nat} {told : Str × (List Int ⊕ β)} {v : V} {b : Addr} {us : List V} {k : List Int → Res ω} (hv : σ[i]? = some (some v)) (r : (pT (tc pS (t1 (pX (pLn B R) S1)))).r told v It Z) (et : Ex It I) (eB : Ex B I) (hb : I b = some (.lst us)) (hbt : It b = none)
    (s : St I C H) (hm : Post (((getL told.2).bind fun xs => push xs 0).bind k) Q XF) (next : ∀ xs I3 H3, Ex B I3 → St I3 C H3 → I3 b = some (.lst us) → Post (k xs) Q XF → tz D σ H3) :
    tSeq (tDrop (tBM K "list" rAppend (tOp (rIxT K) (tVar i) (tC (.int ((1 : Nat) : Int)))) (tCons (tC (.int 0)) tNil))) tz D σ H := by
  obtain ⟨a, vs, rfl, h2, u, us2, rfl, h4, w, rfl, h6⟩ := r
  obtain ⟨x1, x2⟩ := told
  cases x2 with
  | inr y => exact hm.elim
  | inl xs =>
    obtain ⟨⟨p, ws, rfl, h7, h8, h9⟩, h10⟩ := h6
    have hp : I p = some (.lst ws) := et _ _ h7
    have hne : b ≠ p := fun z => by
      rw [z, h7] at hbt
      cases hbt
    have hm2 : Post ((push xs 0).bind k) Q XF := hm
    unfold push at hm2
    split at hm2
    · rename_i hlen
      have hl : ws.length < sizeLine := by
        rw [h9.len]
        exact Nat.lt_of_lt_of_le hlen (by decide)
      refine ⟨.ref a, hv, a, [u, .ref p], 1, .ref p, rfl, rfl, .inl (.inl (s.i _ _ (et _ _ h2))), rfl, .inl ⟨rfl, ws, .inl (.inl (s.i _ _ hp))⟩, p, ws, .int 0, rfl, rfl, s.i _ _ hp, hl, ?_⟩
      refine next (xs ++ [0]) (fun c => if c = p then none else I c) _ (fun c o h => ?_) ⟨fun c o h => ?_, fun c o h => ?_, fun c => ?_⟩ ?_ hm2
      · have hc : c ≠ p := fun z => by
          rw [z, h10 p rfl] at h
          cases h
        show (if c = p then none else I c) = some o
        rw [if_neg hc]
        exact eB c o h
      · by_cases hc : c = p
        · rw [if_pos hc] at h
          cases h
        · rw [if_neg hc] at h
          rw [upd_ne hc]
          exact s.i c o h
      · have hc : c ≠ p := fun z => by
          rw [z] at h
          have z2 := s.freeI h
          rw [hp] at z2
          cases z2
        rw [upd_ne hc]
        exact s.c c o h
      · by_cases hc : c = p
        · exact .inl (if_pos hc)
        · rcases s.s c with h | h
          · exact .inl (by show (if c = p then none else I c) = none; rw [if_neg hc]; exact h)
          · exact .inr h
      · show (if b = p then none else I b) = some (.lst us)
        rw [if_neg hne]
        exact hb
    · exact hm2.elim
/-- s_ifr where only what was known at J is kept -/
theorem s_ifrB (P : S → L2.St → Hp → Hp → Prop) {J : Hp} (eJ : Ex J I) {tt : TT} {tu tw : TS} {c : Res Bool} {m1 m2 : Res (Out S ρ)} {k : Out S ρ → Res ω} (h : EvT E K tt σ I C c) (s : St I C H) (hX : XH X E K I C) (hm : Post ((ifR c m1 m2).bind k) Q X)
    (h1 : ∀ (N : L2.St → Hp → Prop) I2 H2, Ex I I2 → St I2 C H2 → Post m1 (fun o => match o with
      | .nx s' => ∀ σ2 I3 C3 H3, Ex J I3 → St I3 C3 H3 → P s' σ2 I3 C3 → N σ2 H3
      | o => Post (k o) Q X) X → tu { D with nx := N } σ H2)
    (h2 : ∀ (N : L2.St → Hp → Prop) I2 H2, Ex I I2 → St I2 C H2 → Post m2 (fun o => match o with
      | .nx s' => ∀ σ2 I3 C3 H3, Ex J I3 → St I3 C3 H3 → P s' σ2 I3 C3 → N σ2 H3
      | o => Post (k o) Q X) X → tw { D with nx := N } σ H2)
    (next : ∀ s' σ2 I3 C3 H3, Ex J I3 → St I3 C3 H3 → P s' σ2 I3 C3 → Post (k (.nx s')) Q X → tz D σ2 H3) : Evl.tCut (tIfS tt tu tw) tz D σ H := by
  refine ⟨fun σ2 H3 => ∃ s' I3 C3, Ex J I3 ∧ St I3 C3 H3 ∧ P s' σ2 I3 C3 ∧ Post (k (.nx s')) Q X, ?_, fun σ2 H3 ⟨s', I3, C3, e3, s3, p, q⟩ => next s' σ2 I3 C3 H3 e3 s3 p q⟩
  refine h I C H (Ex.refl _) (Ex.refl _) s _ ((Post.bind (Post.bind hm)).mono (fun b p I2 H2 e2 s2 => ?_) hX)
  cases b with
  | true => exact h1 _ I2 H2 e2 s2 (Post.mono (m := m1) p (fun o z => by
      cases o with
      | nx s' => exact fun σ2 I3 C3 H3 e3 s3 pp => ⟨s', I3, C3, e3, s3, pp, z⟩
      | br s' => exact z
      | rt r => exact z) fun _ _ z => z)
  | false => exact h2 _ I2 H2 e2 s2 (Post.mono (m := m2) p (fun o z => by
      cases o with
      | nx s' => exact fun σ2 I3 C3 H3 e3 s3 pp => ⟨s', I3, C3, e3, s3, pp, z⟩
      | br s' => exact z
      | rt r => exact z) fun _ _ z => z)
/-! data: new lists, one of two -/
theorem de_new {B : Hp} {R : Rp α} {enc : α → PyData} {n : Nat} (d : De K R enc n) : De K (pLn B R) (fun xs => PyData.list (xs.map enc)) (n + 1) :=
  ⟨fun s h => (de_lst d).dp s h.1, fun h => (de_lst d).ly h.1, fun h => (de_lst d).de h.1, (de_lst d).eq⟩
def sEnc (f : α → PyData) (g : β → PyData) : α ⊕ β → PyData
  | .inl a => f a
  | .inr b => g b
theorem de_sum {R : Rp α} {S1 : Rp β} {f : α → PyData} {g : β → PyData} {n m : Nat} (d : De K R f n) (d' : De K S1 g m) (hd : ∀ a b, PyData.eqv (f a) (g b) = false ∧ PyData.eqv (g b) (f a) = false) : De K (pX R S1) (sEnc f g) (max n m) :=
  ⟨fun {a v I C H} s h => by
    cases a with
    | inl a => exact d.dp s h
    | inr a => exact d'.dp s h,
  fun {a v I C} h => by
    cases a with
    | inl a => exact d.ly h
    | inr a => exact d'.ly h,
  fun {a v I C} h => by
    cases a with
    | inl a => exact Nat.le_trans (d.de h) (Nat.le_max_left _ _)
    | inr a => exact Nat.le_trans (d'.de h) (Nat.le_max_right _ _),
  fun a b => by
    cases a with
    | inl a =>
      cases b with
      | inl b =>
        simp only [sEnc, Sum.inl.injEq]
        exact d.eq a b
      | inr b =>
        simp only [sEnc, (hd a b).1]
        exact ⟨fun q => (nomatch q), fun q => (nomatch q)⟩
    | inr a =>
      cases b with
      | inl b =>
        simp only [sEnc, (hd b a).2]
        exact ⟨fun q => (nomatch q), fun q => (nomatch q)⟩
      | inr b =>
        simp only [sEnc, Sum.inr.injEq]
        exact d'.eq a b⟩
theorem oEnc_no {f : α → PyData} {x : PyData} (h : ∀ a, PyData.eqv x (f a) = false ∧ PyData.eqv (f a) x = false) (h0 : PyData.eqv x .none = false ∧ PyData.eqv .none x = false) (o : Option α) : PyData.eqv x (oEnc f o) = false ∧ PyData.eqv (oEnc f o) x = false := by
  cases o with
  | none => exact h0
  | some a => exact h a
/-! isinstance of what may be None, of one of two -/
def isO {α : Type} (b : Bool) : Option α → Bool
  | some _ => b
  | none => false
def isX {α β : Type} (b : Bool) (f : β → Bool) : α ⊕ β → Bool
  | .inl _ => b
  | .inr y => f y
@[simp] theorem isO_some (b : Bool) (a : α) : isO b (some a) = b := rfl
@[simp] theorem isO_none (b : Bool) : isO b (none : Option α) = false := rfl
@[simp] theorem isX_inl (b : Bool) (f : β → Bool) (a : α) : isX b f (.inl a) = b := rfl
@[simp] theorem isX_inr (b : Bool) (f : β → Bool) (y : β) : isX b f (.inr y : α ⊕ β) = f y := rfl
theorem ty_opt {R : Rp α} {n c : String} {b : Bool} [TyR K R n] (hk : kitB n c = some b) (hn : kitB "NoneType" c = some false) {o : Option α} {v : V} {I C H : Hp} (s : St I C H) (r : (pO R).r o v I C) : ∃ t, TyX K H v t ∧ PySem.W.kitOne K t (.type c) = some (isO b o) := by
  cases o with
  | none =>
    have h : v = .non := r
    subst h
    exact ⟨_, .base .non, kit_ty hn⟩
  | some a => exact ⟨_, TyR.ty s r.1, kit_ty hk⟩
theorem o_isiO {R : Rp α} {n c : String} {b : Bool} [TyR K R n] (hk : kitB n c = some b) (hn : kitB "NoneType" c = some false) : OpL E K (rIsi K) (fun p => .ok (isO b p.1)) (tc (pO R) (t1 (pY c))) pB := fun I C H a vs s hv Q q => by
  obtain ⟨v, us, rfl, r, w, rfl, rw⟩ := hv
  have hw : w = .ty c := rw
  subst hw
  obtain ⟨t, h1, h2⟩ := ty_opt (K := K) hk hn s r
  exact ⟨v, .ty c, _, _, _, rfl, .ty c, h1, h2, PQ.now q s rfl⟩
theorem o_isiXO {R : Rp α} {S1 : Rp β} {n n2 c : String} {b b2 : Bool} [TyR K R n] [TyR K S1 n2] (hk : kitB n c = some b) (hk2 : kitB n2 c = some b2) (hn : kitB "NoneType" c = some false) : OpL E K (rIsi K) (fun p => .ok (isX b (isO b2) p.1)) (tc (pX R (pO S1)) (t1 (pY c))) pB := fun I C H a vs s hv Q q => by
  obtain ⟨v, us, rfl, r, w, rfl, rw⟩ := hv
  have hw : w = .ty c := rw
  subst hw
  obtain ⟨x, y⟩ := a
  cases x with
  | inl x => exact ⟨v, .ty c, _, _, b, rfl, .ty c, TyR.ty (R := R) s r, kit_ty hk, PQ.now q s rfl⟩
  | inr x =>
    obtain ⟨t, h1, h2⟩ := ty_opt (K := K) (R := S1) hk2 hn s r
    exact ⟨v, .ty c, _, _, _, rfl, .ty c, h1, h2, PQ.now q s rfl⟩
theorem o_isiX {R : Rp α} {S1 : Rp β} {n n2 c : String} {b b2 : Bool} [TyR K R n] [TyR K S1 n2] (hk : kitB n c = some b) (hk2 : kitB n2 c = some b2) : OpL E K (rIsi K) (fun p => .ok (isX b (fun _ => b2) p.1)) (tc (pX R S1) (t1 (pY c))) pB := fun I C H a vs s hv Q q => by
  obtain ⟨v, us, rfl, r, w, rfl, rw⟩ := hv
  have hw : w = .ty c := rw
  subst hw
  obtain ⟨x, y⟩ := a
  cases x with
  | inl x => exact ⟨v, .ty c, _, _, b, rfl, .ty c, TyR.ty (R := R) s r, kit_ty hk, PQ.now q s rfl⟩
  | inr x => exact ⟨v, .ty c, _, _, b2, rfl, .ty c, TyR.ty (R := S1) s r, kit_ty hk2, PQ.now q s rfl⟩
end
end Sd

namespace Sd
open PySem PySem.Spec PyProof.Rows L2
/-! ### the head: own errors, read by a Bool -/
def oexB (K : PySem.W.Frag) (C : Addr) : Bool := match K.lookup C with
  | some ⟨.type "type", _, .cls cd, sl⟩ => (match cd.mro, sl.toList with
    | .ref C1 :: bm, [_, _, _, _, some (.builtin n), _] => decide (C1 = C) && (decide (n = "ValueError.__new__") && (!cd.hasDel && (cd.hasDict && PySem.HandSPX.refsVE bm)))
    | _, _ => false)
  | _ => false
theorem oexB_ok {K : PySem.W.Frag} {C : Addr} (h : oexB K C = true) : ∃ nm q N bs bm sn sub ab col dd k0 k1 k2 k3 k5, K.lookup C = some (excClassObj nm q C N bs bm true sn sub ab col dd k0 k1 k2 k3 k5 "ValueError.__new__") ∧ PySem.HandSPX.refsVE bm = true := by
  unfold oexB at h
  split at h
  · rename_i dd cd sl ho
    split at h
    · rename_i C1 bm k0 k1 k2 k3 n k5 e1 e2
      obtain ⟨h1, h⟩ := Bool.and_eq_true_iff.mp h
      obtain ⟨h2, h⟩ := Bool.and_eq_true_iff.mp h
      obtain ⟨h3, h⟩ := Bool.and_eq_true_iff.mp h
      obtain ⟨h4, h5⟩ := Bool.and_eq_true_iff.mp h
      have h1 := of_decide_eq_true h1
      have h2 := of_decide_eq_true h2
      subst h1 h2
      obtain ⟨nm, bs, mro, ns, qn, hd, sn, sub, ab, col, del⟩ := cd
      simp only [Bool.not_eq_true'] at e1 e2 h3 h4
      subst e1 h3 h4
      obtain ⟨l⟩ := sl
      simp only at e2
      subst e2
      exact ⟨_, _, _, _, _, _, _, _, _, _, _, _, _, _, _, ho, h5⟩
    · cases h
  · cases h
def errB (K : PySem.W.Frag) (fI : Addr) (c : Ec) : Bool :=
  oexB K (He.ga K c.name) && (decide (PySem.W.findIn K (.ref (He.ga K c.name)) "__setattr__" = some (some (.builtin "object.__setattr__"))) && (decide (PySem.W.typeIn K (.ref (He.ga K c.name)) = some (.type "type")) && (PySem.W.keepIn K (.ref (He.ga K c.name)) &&
    (decide (PySem.W.findIn K (.ref (He.ga K c.name)) "__init__" = some (some (.ref fI))) && (decide (PySem.W.typeIn K (.ref fI) = some (.type "function")) && (decide (PySem.W.findIn K (.ref (He.ga K c.name)) "at" = some none) && (xfB K (He.ga K c.name) &&
      (decide (PySem.W.findIn K (.ref (He.ga K c.name)) "__class__" = some (some (.builtin "object.__class__"))) && (decide (PySem.W.specialIn K (.builtin "object.__class__") "__get__" = some (some (.builtin "getset_descriptor.__get__"))) && (decide (PySem.W.takesIn K (.builtin "object.__class__") = some true) &&
        (decide (PySem.W.mroIn K (He.ga K c.name) (.type "object") = some true) && (decide (PySem.W.kitOne K (.ref (He.ga K c.name)) (.type "ValueError") = some true) && He.eqO (PySem.W.nsIn K mainGlobals c.name) (some (some (.ref (He.ga K c.name))))))))))))))))
theorem errB_ok {K : PySem.W.Frag} {h : Heap} {mg : Str → Option Value} {fI : Addr} {c : Ec} (X : K.In h) (G : h.Ns mainGlobals mg) (e : errB K fI c = true) : ErrC K mg fI c := by
  unfold errB at e
  obtain ⟨h1, e⟩ := Bool.and_eq_true_iff.mp e
  obtain ⟨h2, e⟩ := Bool.and_eq_true_iff.mp e
  obtain ⟨h3, e⟩ := Bool.and_eq_true_iff.mp e
  obtain ⟨h4, e⟩ := Bool.and_eq_true_iff.mp e
  obtain ⟨h5, e⟩ := Bool.and_eq_true_iff.mp e
  obtain ⟨h6, e⟩ := Bool.and_eq_true_iff.mp e
  obtain ⟨h7, e⟩ := Bool.and_eq_true_iff.mp e
  obtain ⟨h8, e⟩ := Bool.and_eq_true_iff.mp e
  obtain ⟨h9, e⟩ := Bool.and_eq_true_iff.mp e
  obtain ⟨ha, e⟩ := Bool.and_eq_true_iff.mp e
  obtain ⟨hb, e⟩ := Bool.and_eq_true_iff.mp e
  obtain ⟨hc, e⟩ := Bool.and_eq_true_iff.mp e
  obtain ⟨hd, he⟩ := Bool.and_eq_true_iff.mp e
  have xf := xfB_ok h8
  exact ⟨⟨oexB_ok h1, of_decide_eq_true h2, xf.exC, of_decide_eq_true h3, h4⟩, of_decide_eq_true h5, of_decide_eq_true h6, PySem.W.mg_of X G (He.eqO_ok he), of_decide_eq_true h7, xf,
    ⟨xf.ga, xf.gg, xf.exC, xf.hdC, of_decide_eq_true h9, of_decide_eq_true ha, of_decide_eq_true hb, of_decide_eq_true hc⟩, of_decide_eq_true hd⟩
def errsB (cs : List Ec) (K : PySem.W.Frag) : Bool := cs.all (fun c => errB K (He.fAd K ("DeskError", some "__init__")) c) &&
  cs.all fun c => cs.all fun b => decide (PySem.W.kitOne K (.ref (He.ga K c.name)) (.ref (He.ga K b.name)) = some (isaE c b)) && decide (PySem.W.exmOne K (.ref (He.ga K c.name)) (.ref (He.ga K b.name)) = some (isaE c b))
theorem errsB_ok {cs : List Ec} {K : PySem.W.Frag} {h : Heap} {mg : Str → Option Value} (X : K.In h) (G : h.Ns mainGlobals mg) (e : errsB cs K = true) :
    (∀ c, c ∈ cs → ErrC K mg (He.fAd K ("DeskError", some "__init__")) c) ∧ (∀ c b, c ∈ cs → b ∈ cs → PySem.W.kitOne K (.ref (He.ga K c.name)) (.ref (He.ga K b.name)) = some (isaE c b)) ∧ ∀ c b, c ∈ cs → b ∈ cs → PySem.W.exmOne K (.ref (He.ga K c.name)) (.ref (He.ga K b.name)) = some (isaE c b) := by
  obtain ⟨h1, h2⟩ := Bool.and_eq_true_iff.mp e
  have h1 := List.all_eq_true.mp h1
  have h2 := List.all_eq_true.mp h2
  refine ⟨fun c hc => errB_ok X G (h1 c hc), fun c b hc hb => ?_, fun c b hc hb => ?_⟩
  · exact of_decide_eq_true (Bool.and_eq_true_iff.mp (List.all_eq_true.mp (h2 c hc) b hb)).1
  · exact of_decide_eq_true (Bool.and_eq_true_iff.mp (List.all_eq_true.mp (h2 c hc) b hb)).2
end Sd

namespace Sd
open PySem L2
/-- turns enough for any while here (not to be reckoned with) -/
noncomputable def fuel : Nat := Classical.choose (⟨1000000, rfl⟩ : ∃ n : Nat, n = 1000000)
theorem fuel_eq : fuel = 1000000 := Classical.choose_spec (⟨1000000, rfl⟩ : ∃ n : Nat, n = 1000000)
section
variable {E : XK} {K : PySem.W.Frag} {σ : L2.St} {I I' C C' H B C0 : Hp} {α β γ μ ω S ρ : Type} {R : Rp α} {S1 : Rp β} {te ta tb : TE} {tt : TT} {tz tu tw : TS} {D : Ends} {Q : ω → Prop} {X : Ec → Int → Prop} {p q : Addr}
/-! great ints -/
@[irreducible] def rMulW (a b : Int) : Res Int := if a.natAbs.log2 + b.natAbs.log2 < 1000000 then .ok (a * b) else .bad
@[irreducible] def rDivW (a b : Int) : Res Int := if 0 < b ∧ b.natAbs.log2 < 9000 then .ok (a / b) else .bad
@[irreducible] def rModN (a b : Int) : Res Int := if b ≠ 0 then .ok (a.fmod b) else .bad
theorem rMulW_ok {a b : Int} (h : a.natAbs.log2 + b.natAbs.log2 < 1000000) : rMulW a b = .ok (a * b) := by
  unfold rMulW
  exact if_pos h
theorem rDivW_ok {a b : Int} (h : 0 < b ∧ b.natAbs.log2 < 9000) : rDivW a b = .ok (a / b) := by
  unfold rDivW
  exact if_pos h
theorem rModN_ok {a b : Int} (h : b ≠ 0) : rModN a b = .ok (a.fmod b) := by
  unfold rModN
  exact if_pos h
theorem o_mulW : Op2 E K (rI CMulW fun i j => .int (i * j)) rMulW pI pI pI := fun I C H a b x y s hx hy Q q => by
  unfold rMulW at q
  split at q
  · rename_i h
    exact ⟨a, b, hx, hy, h, PQ.now q s rfl⟩
  · exact q.elim
theorem o_fdivW : Op2 E K (rI CDivW fun i j => .int (i / j)) rDivW pI pI pI := fun I C H a b x y s hx hy Q q => by
  unfold rDivW at q
  split at q
  · rename_i h
    exact ⟨a, b, hx, hy, h, PQ.now q s rfl⟩
  · exact q.elim
theorem o_modN : Op2 E K (rI (fun _ j => j ≠ 0) fun i j => .int (i.fmod j)) rModN pI pI pI := fun I C H a b x y s hx hy Q q => by
  unfold rModN at q
  split at q
  · rename_i h
    exact ⟨a, b, hx, hy, h, PQ.now q s rfl⟩
  · exact q.elim
theorem o_isNU : Op2 E K (fun x y H Q => y = .non ∧ Q (.bl (decide (x = .non))) H) (fun _ _ => .ok true) pN pN pB := fun I C H a b x y s hx hy Q q => by
  have hx : x = .non := hx
  subst hx
  exact ⟨hy, PQ.now q s rfl⟩
theorem o_notNU : Op2 E K (fun x y H Q => y = .non ∧ Q (.bl (!decide (x = .non))) H) (fun _ _ => .ok false) pN pN pB := fun I C H a b x y s hx hy Q q => by
  have hx : x = .non := hx
  subst hx
  exact ⟨hy, PQ.now q s rfl⟩
/-! xs[::-1] -/
def revR (xs : List α) : Res (List α) := .ok xs.reverse
@[simp] theorem revR_eq (xs : List α) : revR xs = .ok xs.reverse := rfl
theorem A2.reverse {f : α → V → Prop} : ∀ {xs : List α} {vs : List V}, A2 f xs vs → A2 f xs.reverse vs.reverse
  | _, _, .nil => .nil
  | _, _, .cons r t => by
    rw [List.reverse_cons, List.reverse_cons]
    exact (A2.reverse t).append (.one r)
theorem n_rev {m : Res (List α)} (h : EvX E K te σ I C m (pV R)) : EvN E K (tRevL K te) σ I C (un revR m) R := fun I1 C1 H1 e e' s Q q =>
  h I1 C1 H1 e e' s _ ((Post.bind q).mono (fun a p x I2 H2 e2 s2 rx => by
    obtain ⟨b, us, rfl, h2, h3, h4⟩ := pV.at s2 rx
    exact ⟨b, us, rfl, .inl (.inl h2), PN.new (PN.up e2 p) s2 h4.reverse (by rw [List.length_reverse]; exact h3)⟩) fun _ _ z => z)
theorem x_rev [Im R] {m : Res (List α)} (h : EvX E K te σ I C m (pV R)) : EvX E K (tRevL K te) σ I C (un revR m) (pL R) := x_own (n_rev h)
/-! n = xs.pop(), n = xs.pop()[k] -/
theorem q_pop [Im R] {i j : Nat} {xs : List α} {vs : List V} {k : α × List α → Res ω} (hv : σ[i]? = some (some (.ref p))) (hc : C p = some (.lst vs)) (hl : vs.length ≤ sizeLine) (hr : A2 (fun x u => R.r x u I Z) xs vs) (s : St I C H) (hm : Post ((popR xs).bind k) Q X)
    (next : ∀ a v vs' I2 C2 H2, Ex I I2 → St I2 C2 H2 → C2 p = some (.lst vs') → (∀ q, q ≠ p → C2 q = C q) → vs'.length ≤ sizeLine → A2 (fun x u => R.r x u I2 Z) a.2 vs' → R.r a.1 v I2 Z → Post (k a) Q X → tz D (σ.set j (some v)) H2) :
    tSeq (tAsg (tBM0 K "list" rPop (tVar i)) (gName j)) tz D σ H :=
  e_pop hv hc hl hr s hm fun a v C2 H2 s2 hc2 k2 hl2 hr2 rv hm2 => next a v _ I C2 H2 (Ex.refl _) s2 hc2 k2 hl2 hr2 rv hm2
theorem q_popk {T : Rt α} [It T] [Im S1] {i j l : Nat} {f : α → β} {xs : List α} {vs : List V} {k : α × List α → Res ω} (jj : Pj T l f S1) (hv : σ[i]? = some (some (.ref p))) (hc : C p = some (.lst vs)) (hl : vs.length ≤ sizeLine) (hr : A2 (fun x u => (pT T).r x u I Z) xs vs) (s : St I C H) (hm : Post ((popR xs).bind k) Q X)
    (next : ∀ a v vs' I2 C2 H2, Ex I I2 → St I2 C2 H2 → C2 p = some (.lst vs') → (∀ q, q ≠ p → C2 q = C q) → vs'.length ≤ sizeLine → A2 (fun x u => (pT T).r x u I2 Z) a.2 vs' → S1.r (f a.1) v I2 Z → Post (k a) Q X → tz D (σ.set j (some v)) H2) :
    tSeq (tAsg (tOp (rIxT K) (tBM0 K "list" rPop (tVar i)) (tC (.int (l : Int)))) (gName j)) tz D σ H :=
  e_pop hv hc hl hr s hm fun a v C2 H2 s2 hc2 k2 hl2 hr2 rv hm2 => o_pj (E := EZ) (K := K) jj I C2 H2 a.1 v s2 (Im.im rv) _ fun w I3 H3 e3 s3 rw =>
    next a w _ I3 C2 H3 e3 s3 hc2 k2 hl2 (hr2.imp fun _ _ h => (pT T).mono e3 (Ex.refl _) h) (Im.im rw) hm2
/-! max, min of a list -/
def gtL (x : Int) (xs : List Int) : Int := xs.foldl max x
def ltL (x : Int) (xs : List Int) : Int := xs.foldl min x
def maxL : List Int → Res Int
  | [] => .bad
  | x :: xs => .ok (gtL x xs)
def minL : List Int → Res Int
  | [] => .bad
  | x :: xs => .ok (ltL x xs)
theorem gtL_spec : ∀ (xs : List Int) (x : Int), x ≤ gtL x xs ∧ (∀ y ∈ xs, y ≤ gtL x xs) ∧ (gtL x xs = x ∨ gtL x xs ∈ xs)
  | [], x => ⟨Int.le_refl _, fun y h => (nomatch h), .inl rfl⟩
  | z :: xs, x => by
    obtain ⟨a, b, c⟩ := gtL_spec xs (max x z)
    have e : gtL x (z :: xs) = gtL (max x z) xs := rfl
    rw [e]
    refine ⟨by omega, fun y hy => ?_, ?_⟩
    · rcases List.mem_cons.mp hy with rfl | hy
      · omega
      · exact b y hy
    · rcases c with c | c
      · by_cases h : x ≤ z
        · exact .inr (by rw [c, Int.max_eq_right h]; exact List.mem_cons_self)
        · exact .inl (by rw [c]; omega)
      · exact .inr (List.mem_cons_of_mem _ c)
theorem ltL_spec : ∀ (xs : List Int) (x : Int), ltL x xs ≤ x ∧ (∀ y ∈ xs, ltL x xs ≤ y) ∧ (ltL x xs = x ∨ ltL x xs ∈ xs)
  | [], x => ⟨Int.le_refl _, fun y h => (nomatch h), .inl rfl⟩
  | z :: xs, x => by
    obtain ⟨a, b, c⟩ := ltL_spec xs (min x z)
    have e : ltL x (z :: xs) = ltL (min x z) xs := rfl
    rw [e]
    refine ⟨by omega, fun y hy => ?_, ?_⟩
    · rcases List.mem_cons.mp hy with rfl | hy
      · omega
      · exact b y hy
    · rcases c with c | c
      · by_cases h : z ≤ x
        · exact .inr (by rw [c, Int.min_eq_right h]; exact List.mem_cons_self)
        · exact .inl (by rw [c]; omega)
      · exact .inr (List.mem_cons_of_mem _ c)
theorem o_maxL : OpL E K (rMax K) maxL (t1 (pV pI)) pI := fun I C H a vs s hv Q q => by
  obtain ⟨v, rfl, h⟩ := hv
  obtain ⟨p, us, rfl, h2, h3, h4⟩ := pV.at s h
  have eu := A2.map_iff (h := V.int) (fun _ _ h => h) h4
  subst eu
  cases a with
  | nil => exact q.elim
  | cons x xs =>
    refine ⟨p, x :: xs, rfl, .inl (.inl h2), by simp, fun m hm hle => ?_⟩
    obtain ⟨a1, a2, a3⟩ := gtL_spec xs x
    have e : m = gtL x xs := by
      refine Int.le_antisymm ?_ (hle _ ?_)
      · rcases List.mem_cons.mp hm with rfl | hm
        · exact a1
        · exact a2 m hm
      · rcases a3 with a3 | a3
        · rw [a3]
          exact List.mem_cons_self
        · exact List.mem_cons_of_mem _ a3
    rw [e]
    exact PQ.now q s rfl
theorem o_minL : OpL E K (rMin K) minL (t1 (pV pI)) pI := fun I C H a vs s hv Q q => by
  obtain ⟨v, rfl, h⟩ := hv
  obtain ⟨p, us, rfl, h2, h3, h4⟩ := pV.at s h
  have eu := A2.map_iff (h := V.int) (fun _ _ h => h) h4
  subst eu
  cases a with
  | nil => exact q.elim
  | cons x xs =>
    refine ⟨p, x :: xs, rfl, .inl (.inl h2), by simp, fun m hm hle => ?_⟩
    obtain ⟨a1, a2, a3⟩ := ltL_spec xs x
    have e : m = ltL x xs := by
      refine Int.le_antisymm (hle _ ?_) ?_
      · rcases a3 with a3 | a3
        · rw [a3]
          exact List.mem_cons_self
        · exact List.mem_cons_of_mem _ a3
      · rcases List.mem_cons.mp hm with rfl | hm
        · exact a1
        · exact a2 m hm
    rw [e]
    exact PQ.now q s rfl
/-! tuples that may stand in the written part -/
theorem x_t2u {T : Rt α} {m : Res α} (h : EvX E K te σ I C m (pT T)) : EvX E K te σ I C m (pU K T) := fun I1 C1 H1 e e' s Q q =>
  h I1 C1 H1 e e' s Q (q.mono (fun a p v I2 H2 e2 s2 ⟨b, vs, h1, h2, h3⟩ => p v I2 H2 e2 s2 ⟨b, vs, h1, .inl (.inl h2), h3⟩) fun _ _ z => z)
/-! a list that is read, walked -/
theorem i_view [Im R] {i : Nat} {v : V} {xs : List α} (hv : σ[i]? = some (some v)) (h : (pV R).r xs v I B) (hB : Ex B C) :
    EvI E K (iList K (tVar i)) σ I C (fun C3 => Ex B C3) (.ok xs) R := fun I1 C1 H1 e e' s Kt q => by
  obtain ⟨a, vs, rfl, h2, h3, h4⟩ := h
  refine ⟨.ref a, hv, a, rfl, ⟨vs, .inl (.inl (h2.elim (fun z => s.i a _ (e a _ z)) fun z => s.c a _ (e' a _ (hB a _ z))))⟩, ?_⟩
  have hn := h4.len
  refine q (Itl K a) (fun H => SqL K H a vs) (YAt vs) I1 H1 (Ex.refl _) s (by omega) (by rw [← hn]; exact walk_list) (fun I3 C3 H3 e3 k3 s3 => .inl (.inl (h2.elim (fun z => s3.i a _ (e3 a _ (e a _ z))) fun z => s3.c a _ (k3 a _ z)))) (fun i x v' I3 C3 H3 H4 hx e3 _ s3 y => ?_)
  obtain ⟨rfl, y⟩ := y
  obtain ⟨w, hw, r⟩ := h4.get' hx
  rw [hw] at y
  cases y
  exact ⟨I3, Ex.refl _, s3, R.to (e.trans e3) r⟩
end
end Sd

namespace Sd
open PySem L2
section
variable {E : XK} {K : PySem.W.Frag} {σ : L2.St} {I I' C C' H B C0 : Hp} {α β γ μ ω S ρ : Type} {R : Rp α} {S1 : Rp β} {te ta tb : TE} {tt : TT} {tz tu tw : TS} {D : Ends} {Q : ω → Prop} {X : Ec → Int → Prop} {p q : Addr}
/-! ### texts -/
theorem strOk_app {a b : Str} (h : PyData.strOk a = true) (h' : PyData.strOk b = true) : PyData.strOk (a ++ b) = true := by
  unfold PyData.strOk at *
  show (a.cps ++ b.cps).all _ = true
  rw [Array.all_append, h, h']
  rfl
theorem strOk_one {z : Str} {c : Nat} (h : PyData.strOk z = true) (hc : c ∈ z.cps.toList) : PyData.strOk ⟨#[c]⟩ = true := by
  unfold PyData.strOk at *
  rw [Array.all_eq_true'] at h
  have := h c (Array.mem_toList_iff.mp hc)
  simp at this ⊢
  exact this
@[irreducible] def rCatS (a b : Str) : Res Str := if a.length + b.length ≤ 1000000 then .ok (a ++ b) else .bad
theorem rCatS_ok {a b : Str} (h : a.length + b.length ≤ 1000000) : rCatS a b = .ok (a ++ b) := by
  unfold rCatS
  exact if_pos h
theorem o_catS : Op2 E K (fun x y H Q => ∃ i j, x = .str i ∧ y = .str j ∧ i.length + j.length ≤ sizeLine ∧ Q (.str (i ++ j)) H) rCatS pS pS pS := fun I C H a b x y s hx hy Q q => by
  unfold rCatS at q
  split at q
  · rename_i h
    exact ⟨a, b, hx.1, hy.1, Nat.le_trans h (by decide), PQ.now q s ⟨rfl, strOk_app hx.2 hy.2⟩⟩
  · exact q.elim
@[irreducible] def rLenS (a : Str) : Res Int := if a.length ≤ 1000000 then .ok (a.length : Int) else .bad
theorem rLenS_ok {a : Str} (h : a.length ≤ 1000000) : rLenS a = .ok (a.length : Int) := by
  unfold rLenS
  exact if_pos h
abbrev rLenS1 : List V → Hp → VK → Prop := fun xs H Q => ∃ z, xs = [.str z] ∧ z.length ≤ sizeLine ∧ Q (.int z.length) H
theorem o_lenS : OpL E K rLenS1 rLenS (t1 pS) pI := fun I C H a vs s hv Q q => by
  obtain ⟨v, rfl, h, _⟩ := hv
  subst h
  unfold rLenS at q
  split at q
  · rename_i h
    exact ⟨a, rfl, Nat.le_trans h (by decide), PQ.now q s rfl⟩
  · exact q.elim
@[irreducible] def ixS (z : Str) (i : Int) : Res Str := if z.length ≤ 1000000 then (match atI z.cps.toList i with
    | some c => .ok ⟨#[c]⟩
    | none => .bad) else .bad
theorem ixS_ok {z : Str} {i : Int} {c : Nat} (h : z.length ≤ 1000000) (hc : atI z.cps.toList i = some c) : ixS z i = .ok ⟨#[c]⟩ := by
  unfold ixS
  rw [if_pos h, hc]
theorem atI_mem {α : Type} {l : List α} {i : Int} {x : α} (h : atI l i = some x) : x ∈ l := by
  unfold atI at h
  cases q : ixN l.length i with
  | none =>
    rw [q] at h
    cases h
  | some j =>
    rw [q] at h
    exact List.mem_of_getElem? h
theorem o_ixS : Op2 E K rIxS ixS pS pI pS := fun I C H a b x y s hx hy Q q => by
  unfold ixS at q
  split at q
  · rename_i h
    cases hc : atI a.cps.toList b with
    | none =>
      rw [hc] at q
      exact q.elim
    | some c =>
      rw [hc] at q
      exact ⟨a, b, c, hx.1, hy, Nat.le_trans h (by decide), hc, PQ.now q s ⟨rfl, strOk_one hx.2 (atI_mem hc)⟩⟩
  · exact q.elim
/-- text * n -/
def repS (z : Str) (n : Int) : Str := if n < 1 then Str.empty else if (n == 1 || z.length == 0) = true then z else ⟨(List.replicate n.toNat z.cps).foldl (· ++ ·) #[]⟩
theorem repS_len {c : Array Nat} {n : Nat} : (⟨(List.replicate n c).foldl (· ++ ·) #[]⟩ : Str).length = c.size * n := by
  have key : ∀ (n : Nat) (a : Array Nat), ((List.replicate n c).foldl (· ++ ·) a).size = a.size + c.size * n := by
    intro n
    induction n with
    | zero => intro a; simp
    | succ n ih =>
      intro a
      rw [List.replicate_succ, List.foldl_cons, ih, Array.size_append, Nat.mul_succ]
      omega
  show ((List.replicate n c).foldl (· ++ ·) #[]).size = _
  rw [key]
  simp
def rRepS : R2 := fun x y H Q => ∃ z n, x = .str z ∧ y = .int n ∧ n.natAbs ≤ 1000000 ∧ z.length * n.toNat ≤ 1000000 ∧ Q (.str (repS z n)) H
theorem op_repS {X : Cx} : OpR X (binaryOp .Mult) rRepS := by
  intro pins s σ H x y v u Q I rx ry h
  obtain ⟨z, n, rfl, rfl, hn, hz, q⟩ := h
  obtain ⟨t, rfl⟩ := rx
  obtain ⟨t', rfl⟩ := ry
  refine P.mul_str (by
    have h1 : ¬ n < -(2 ^ 63 : Int) := by omega
    have h2 : ¬ n ≥ 2 ^ 63 := by omega
    rw [decide_eq_false h1, decide_eq_false h2]
    rfl) (fun h1 h2 => ?_) (fun h1 h2 => ?_) ?_
  · have hp : 0 < n := by omega
    have h3 : (z.length : Int) * n ≤ 1000000 := by
      have : ((z.length * n.toNat : Nat) : Int) = (z.length : Int) * n := by
        rw [Int.natCast_mul]
        congr 1
        omega
      omega
    have h4 : (z.length : Int) ≤ (2 ^ 63 - 1) / n := (Int.le_ediv_iff_mul_le hp).mpr (by omega)
    omega
  · unfold Builtin.Str.tooLong
    have : ¬ z.length * n.toNat > sizeLine := by
      have : (1000000 : Nat) ≤ sizeLine := by decide
      omega
    first
      | exact decide_eq_false this
      | (simp [Builtin.tooLong]; omega)
  · unfold repS at q
    by_cases h1 : n < 1
    · rw [if_pos h1] at q ⊢
      exact ⟨by decide, .str Str.empty, H, I.tok _, ⟨_, rfl⟩, q⟩
    · rw [if_neg h1] at q ⊢
      by_cases h2 : (n == 1 || z.length == 0) = true
      · rw [if_pos h2] at q ⊢
        exact ⟨.str z, H, I, ⟨_, rfl⟩, q⟩
      · rw [if_neg h2] at q ⊢
        refine ⟨?_, .str _, H, I.tok _, ⟨_, rfl⟩, q⟩
        rw [repS_len]
        exact Nat.le_trans hz (by decide)
theorem repS_ok {z : Str} {n : Int} (h : PyData.strOk z = true) : PyData.strOk (repS z n) = true := by
  unfold repS
  split
  · decide +kernel
  · split
    · exact h
    · have key : ∀ (n : Nat) (a : Array Nat), PyData.strOk ⟨a⟩ = true → PyData.strOk ⟨(List.replicate n z.cps).foldl (· ++ ·) a⟩ = true := by
        intro n
        induction n with
        | zero => intro a h; exact h
        | succ n ih =>
          intro a ha
          rw [List.replicate_succ, List.foldl_cons]
          exact ih _ (strOk_app (a := ⟨a⟩) (b := z) ha h)
      exact key n.toNat #[] (by decide +kernel)
@[irreducible] def repSR (z : Str) (n : Int) : Res Str := if n.natAbs ≤ 1000000 ∧ z.length * n.toNat ≤ 1000000 then .ok (repS z n) else .bad
theorem repSR_ok {z : Str} {n : Int} (h : n.natAbs ≤ 1000000 ∧ z.length * n.toNat ≤ 1000000) : repSR z n = .ok (repS z n) := by
  unfold repSR
  exact if_pos h
theorem o_repS : Op2 E K rRepS repSR pS pI pS := fun I C H a b x y s hx hy Q q => by
  unfold repSR at q
  split at q
  · rename_i h
    exact ⟨a, b, hx.1, hy, h.1, h.2, PQ.now q s ⟨rfl, repS_ok hx.2⟩⟩
  · exact q.elim
/-- one sign in a text -/
def oneR (a : Str) : Res Nat := if a.length = 1 then (match a.cps.toList with
    | c :: _ => .ok c
    | [] => .bad) else .bad
abbrev rOneIn : R2 := fun x y H Q => ∃ (c : Nat) (z : Str), x = .str ⟨#[c]⟩ ∧ y = .str z ∧ Q (.bl (decide (c ∈ z.cps.toList))) H
abbrev rOneNin : R2 := fun x y H Q => ∃ (c : Nat) (z : Str), x = .str ⟨#[c]⟩ ∧ y = .str z ∧ Q (.bl (!decide (c ∈ z.cps.toList))) H
def inC (a b : Str) : Res Bool := (oneR a).bind fun c => .ok (decide (c ∈ b.cps.toList))
def ninC (a b : Str) : Res Bool := (oneR a).bind fun c => .ok (!decide (c ∈ b.cps.toList))
theorem oneR_ok (c : Nat) : oneR ⟨#[c]⟩ = .ok c := rfl
theorem oneR_is {a : Str} {c : Nat} (h : oneR a = .ok c) : a = ⟨#[c]⟩ := by
  unfold oneR at h
  split at h
  · rename_i h1
    obtain ⟨⟨l⟩⟩ := a
    have h1 : l.length = 1 := h1
    match l, h1 with
    | [d], _ =>
      cases h
      rfl
  · cases h
theorem o_inC : Op2 E K rOneIn inC pS pS pB := fun I C H a b x y s hx hy Q q => by
  unfold inC at q
  cases h : oneR a with
  | ok c =>
    rw [h] at q
    exact ⟨c, b, by rw [hx.1, oneR_is h], hy.1, PQ.now q s rfl⟩
  | exc c i =>
    unfold oneR at h
    split at h
    · split at h <;> cases h
    · cases h
  | bad =>
    rw [h] at q
    exact q.elim
theorem o_ninC : Op2 E K rOneNin ninC pS pS pB := fun I C H a b x y s hx hy Q q => by
  unfold ninC at q
  cases h : oneR a with
  | ok c =>
    rw [h] at q
    exact ⟨c, b, by rw [hx.1, oneR_is h], hy.1, PQ.now q s rfl⟩
  | exc c i =>
    unfold oneR at h
    split at h
    · split at h <;> cases h
    · cases h
  | bad =>
    rw [h] at q
    exact q.elim
/-- the signs of a text, walked -/
def signs (z : Str) : List Str := z.cps.toList.map fun c => ⟨#[c]⟩
@[irreducible] def signsR (z : Str) : Res (List Str) := if z.length ≤ 1000000 then .ok (signs z) else .bad
theorem signsR_ok {z : Str} (h : z.length ≤ 1000000) : signsR z = .ok (signs z) := by
  unfold signsR
  exact if_pos h
theorem i_str {m : Res Str} (h : EvX E K te σ I C m pS) : EvI E K (iStr te) σ I C kpT (un signsR m) pS := fun I1 C1 H1 e e' s Kt q =>
  h I1 C1 H1 e e' s _ ((Post.bind q).mono (fun z p v I2 H2 e2 s2 ⟨hv, ok⟩ => by
    unfold signsR at p
    split at p
    · rename_i hz
      have hl : (signs z).length = z.cps.size := by
        unfold signs
        rw [List.length_map, Array.length_toList]
      refine ⟨z, hv, p (Its z) (fun _ => True) (fun i H v H' => H' = H ∧ ∃ c, z.cps[i]? = some c ∧ v = .str ⟨#[c]⟩) I2 H2 e2 s2 (by rw [hl]; exact Nat.le_trans hz (by decide)) (by rw [hl]; exact walk_str) (fun _ _ _ _ _ _ => trivial) (fun i x v' I3 C3 H3 H4 hx e3 _ s3 y => ?_)⟩
      obtain ⟨rfl, c, hc, rfl⟩ := y
      unfold signs at hx
      rw [List.getElem?_map, Array.getElem?_toList, hc] at hx
      cases hx
      exact ⟨I3, Ex.refl _, s3, rfl, strOk_one ok (by rw [Array.mem_toList_iff]; exact Array.mem_of_getElem? hc)⟩
    · exact p.elim) fun _ _ z => z)
/-! ### instances that do not change -/
/-- an instance of the class at Cl, its fields ns -/
def pC (Cl : Addr) (ns : List Str) (T : Rt α) : Rp α := ⟨fun x v I C => ∃ a dx vs, v = .ref a ∧ I a = some (.ins Cl dx (ns.zip vs)) ∧ T.r x vs I C, fun e e' ⟨a, dx, vs, h1, h2, h3⟩ => ⟨a, dx, vs, h1, e a _ h2, T.mono e e' h3⟩⟩
instance {Cl : Addr} {ns : List Str} {T : Rt α} [It T] : Im (pC Cl ns T) := ⟨fun ⟨a, dx, vs, h1, h2, h3⟩ => ⟨a, dx, vs, h1, h2, It.im h3⟩⟩
theorem lookup_zip : ∀ {ns : List Str} {vs : List V} {k : Nat} {f : Str}, ns[k]? = some f → (∀ j g, j < k → ns[j]? = some g → (f == g) = false) → vs.length = ns.length → (ns.zip vs).lookup f = vs[k]?
  | [], _, _, _, h, _, _ => by cases h
  | g :: ns, [], _, _, _, _, hl => by cases hl
  | g :: ns, v :: vs, 0, f, h, _, _ => by
    cases h
    simp [List.lookup]
  | g :: ns, v :: vs, k + 1, f, h, hn, hl => by
    have h0 := hn 0 g (Nat.succ_pos _) rfl
    show List.lookup f ((g, v) :: ns.zip vs) = _
    rw [List.lookup_cons, h0]
    exact lookup_zip (k := k) h (fun j g hj hg => hn (j + 1) g (Nat.succ_lt_succ hj) hg) (Nat.succ.inj hl)
theorem x_fld {Cl : Addr} {ns : List Str} {T : Rt α} {k : Nat} {f : Str} {g : α → β} {m : Res α} (c : Cls K Cl) (n : NoAttr K Cl f) (hk : ns[k]? = some f) (hn : ∀ j g, j < k → ns[j]? = some g → (f == g) = false) (hT : T.n = ns.length) (j : Pj T k g S1)
    (h : EvX E K te σ I C m (pC Cl ns T)) : EvX E K (tFld K te f) σ I C (un (fun x => .ok (g x)) m) S1 := fun I1 C1 H1 e e' s Q q =>
  h I1 C1 H1 e e' s _ ((Post.bind q).mono (fun x p v I2 H2 e2 s2 ⟨a, dx, vs, h1, h2, h3⟩ => by
    obtain ⟨w, hw, r⟩ := j x vs I2 C1 h3
    exact ⟨a, Cl, dx, ns.zip vs, w, h1, s2.i a _ h2, c, n, by rw [lookup_zip hk hn (by rw [T.len h3, hT])]; exact hw, p w I2 H2 e2 s2 r⟩) fun _ _ z => z)
/-- __init__: what is made -/
def spI (K : PySem.W.Frag) (Cl : Addr) (ns : List Str) (F : Rt γ) (T : Rt α) (f : α → Res γ) : Sp := fun vs H Q E => ∃ (I C : Hp) (x dx : Addr) (args : List V) (a : α), vs = .ref x :: args ∧ St I C H ∧ C x = some (.ins Cl dx []) ∧ T.r a args I C ∧
  Post (f a) (fun y => ∀ vs' I2 H2, Ex I I2 → St I2 (upd C x (.ins Cl dx (ns.zip vs'))) H2 → F.r y vs' I2 Z → Q .non H2) (PX E K I (off C x))
theorem x_make {Cl : Addr} {ns : List Str} {F : Rt γ} [It F] {A : Rt α} {f : α → Res γ} {tr : TA} {m : Res α} (h : EvA E K tr σ I C m A) : EvX E K (tMake Cl (spI K Cl ns F A f) [] E tr) σ I C (un f m) (pC Cl ns F) := fun I1 C1 H1 e e' s Q q =>
  h I1 C1 H1 e e' s _ ((Post.bind q).mono (fun a p vs I2 H2 e2 s2 rv x dx hx hdx hne => by
    have c1 : C1 dx = none := s2.c.free hdx
    have c2 : C1 x = none := s2.c.free hx
    have s3 := s2.newC (o := .own x) hdx
    have hx3 : upd H2 dx (.own x) x = none := by rw [upd_ne (Ne.symm hne)]; exact hx
    have s4 := s3.newC (o := .ins Cl dx []) hx3
    have ec : Ex C1 (upd (upd C1 dx (.own x)) x (.ins Cl dx [])) := (Ex.new c1).trans (Ex.new (by rw [upd_ne (Ne.symm hne)]; exact c2))
    have eo : Ex C1 (off (upd (upd C1 dx (.own x)) x (.ins Cl dx [])) x) := fun b o hb => by
      rw [off_ne (ne_of_none hb c2)]
      exact ec b o hb
    refine ⟨I2, _, x, dx, vs, a, by rw [List.append_nil], s4, upd_same, A.mono (Ex.refl _) ec rv, Post.mono (m := f a) p (fun y z vs' I3 H3 e3 s5 r5 => ⟨rfl, ?_⟩) fun c i z => z.mono e2 eo⟩
    rw [upd_upd] at s5
    have s6 := s5.frz upd_same
    have iN := s5.freeI (p := x) upd_same
    refine z (.ref x) (upd I3 x (.ins Cl dx (ns.zip vs'))) H3 (e2.trans (e3.trans (Ex.new iN))) (s6.less fun b o hb => ?_) ⟨x, dx, vs', rfl, upd_same, It.im (F.mono (Ex.new iN) (Ex.refl _) r5)⟩
    have h1 : b ≠ x := ne_of_none hb c2
    have h2 : b ≠ dx := ne_of_none hb c1
    show (if b = x then none else upd (upd C1 dx (.own x)) x (.ins Cl dx (ns.zip vs')) b) = some o
    rw [if_neg h1, upd_ne h1, upd_ne h2]
    exact hb) fun _ _ z => z)
/-- self.f = e -/
theorem q_fld [Im R] {Cl dx x : Addr} {fs : List (Str × V)} {i : Nat} {f : Str} {m : Res α} {k : α → Res ω} (c : Cls K Cl) (n : NoAttr K Cl f) (hl : fs.length < 1000) (hv : σ[i]? = some (some (.ref x))) (hc : C x = some (.ins Cl dx fs))
    (h : EvX E K te σ I C m R) (s : St I C H) (hX : XH X E K I C) (hm : Post (m.bind k) Q X)
    (next : ∀ a v I2 C2 H2, Ex I I2 → St I2 C2 H2 → C2 x = some (.ins Cl dx (putF f v fs)) → (∀ q, q ≠ x → C2 q = C q) → R.r a v I2 Z → Post (k a) Q X → tz D σ H2) : tSeq (sFld K (tVar i) te f) tz D σ H :=
  h I C H (Ex.refl _) (Ex.refl _) s _ ((Post.bind hm).mono (fun a p v I2 H2 e2 s2 rv => ⟨.ref x, hv, x, Cl, dx, fs, rfl, s2.c x _ hc, c, n, hl, next a v I2 _ _ e2 (s2.set hc) upd_same (fun q h => upd_ne h) (Im.im rv) p⟩) hX)
/-- the end of __init__ -/
theorem ret_init {Cl dx x : Addr} {ns : List Str} {F : Rt γ} {y : γ} {vs : List V} {I0 : Hp} {Q : VK} (hm : ∀ vs' I2 H2, Ex I0 I2 → St I2 (upd C0 x (.ins Cl dx (ns.zip vs'))) H2 → F.r y vs' I2 Z → Q .non H2)
    (e : Ex I0 I) (fr : Ex (off C0 x) C) (s : St I C H) (hc : C x = some (.ins Cl dx (ns.zip vs))) (r : F.r y vs I Z) : Q .non H :=
  hm vs I H e (s.less (ex_pool fr hc)) r
end
end Sd

namespace Sd
open PySem L2
/-! ### data of any depth, and the def that makes tuples of all lists within -/
inductive Da where
  | i (n : Int)
  | s (x : Str)
  | t (xs : List Da)
  | l (xs : List Da)
mutual
def dep : Da → Nat
  | .i _ => 0
  | .s _ => 0
  | .t xs => depL xs + 1
  | .l xs => depL xs + 1
def depL : List Da → Nat
  | [] => 0
  | x :: xs => max (dep x) (depL xs)
end
mutual
def frz : Da → Da
  | .i n => .i n
  | .s x => .s x
  | .t xs => .t (frzL xs)
  | .l xs => .t (frzL xs)
def frzL : List Da → List Da
  | [] => []
  | x :: xs => frz x :: frzL xs
end
theorem frzL_map : ∀ xs : List Da, frzL xs = xs.map frz
  | [] => by simp only [frzL, List.map_nil]
  | x :: xs => by simp only [frzL, List.map_cons, frzL_map xs]
theorem depL_le : ∀ {xs : List Da} {x : Da}, x ∈ xs → dep x ≤ depL xs
  | y :: ys, x, h => by
    simp only [depL]
    rcases List.mem_cons.mp h with rfl | h
    · omega
    · have := depL_le h
      omega
mutual
/-- in: lists and tuples -/
inductive RD (K : PySem.W.Frag) (I : Hp) : Da → V → Prop where
  | i (n : Int) : RD K I (.i n) (.int n)
  | s (x : Str) (h : PyData.strOk x = true) : RD K I (.s x) (.str x)
  | t {xs : List Da} {a : Addr} {vs : List V} (h : SqT K I a vs) (hl : vs.length ≤ sizeLine) (r : RDs K I xs vs) : RD K I (.t xs) (.ref a)
  | l {xs : List Da} {a : Addr} {vs : List V} (h : I a = some (.lst vs)) (hl : vs.length ≤ sizeLine) (r : RDs K I xs vs) : RD K I (.l xs) (.ref a)
inductive RDs (K : PySem.W.Frag) (I : Hp) : List Da → List V → Prop where
  | nil : RDs K I [] []
  | cons {x : Da} {v : V} {xs : List Da} {vs : List V} (r : RD K I x v) (t : RDs K I xs vs) : RDs K I (x :: xs) (v :: vs)
end
mutual
/-- out: tuples that were laid -/
inductive RO (I : Hp) : Da → V → Prop where
  | i (n : Int) : RO I (.i n) (.int n)
  | s (x : Str) (h : PyData.strOk x = true) : RO I (.s x) (.str x)
  | t {xs : List Da} {a : Addr} {vs : List V} (h : I a = some (.tup vs)) (hl : vs.length ≤ sizeLine) (r : ROs I xs vs) : RO I (.t xs) (.ref a)
inductive ROs (I : Hp) : List Da → List V → Prop where
  | nil : ROs I [] []
  | cons {x : Da} {v : V} {xs : List Da} {vs : List V} (r : RO I x v) (t : ROs I xs vs) : ROs I (x :: xs) (v :: vs)
end
mutual
theorem RD.up {K : PySem.W.Frag} {I I' : Hp} (e : Ex I I') : ∀ {d : Da} {v : V}, RD K I d v → RD K I' d v
  | _, _, .i n => .i n
  | _, _, .s x h => .s x h
  | _, _, .t h hl r => .t (ex_t e h) hl (RDs.up e r)
  | _, _, .l h hl r => .l (e _ _ h) hl (RDs.up e r)
theorem RDs.up {K : PySem.W.Frag} {I I' : Hp} (e : Ex I I') : ∀ {d : List Da} {v : List V}, RDs K I d v → RDs K I' d v
  | _, _, .nil => .nil
  | _, _, .cons r t => .cons (RD.up e r) (RDs.up e t)
end
mutual
theorem RO.up {I I' : Hp} (e : Ex I I') : ∀ {d : Da} {v : V}, RO I d v → RO I' d v
  | _, _, .i n => .i n
  | _, _, .s x h => .s x h
  | _, _, .t h hl r => .t (e _ _ h) hl (ROs.up e r)
theorem ROs.up {I I' : Hp} (e : Ex I I') : ∀ {d : List Da} {v : List V}, ROs I d v → ROs I' d v
  | _, _, .nil => .nil
  | _, _, .cons r t => .cons (RO.up e r) (ROs.up e t)
end
theorem RDs.a2 {K : PySem.W.Frag} {I : Hp} : ∀ {xs : List Da} {vs : List V}, RDs K I xs vs → A2 (fun x u => RD K I x u) xs vs
  | _, _, .nil => .nil
  | _, _, .cons r t => .cons r (RDs.a2 t)
theorem RDs.of {K : PySem.W.Frag} {I : Hp} : ∀ {xs : List Da} {vs : List V}, A2 (fun x u => RD K I x u) xs vs → RDs K I xs vs
  | _, _, .nil => .nil
  | _, _, .cons r t => .cons r (RDs.of t)
theorem ROs.a2 {I : Hp} : ∀ {xs : List Da} {vs : List V}, ROs I xs vs → A2 (fun x u => RO I x u) xs vs
  | _, _, .nil => .nil
  | _, _, .cons r t => .cons r (ROs.a2 t)
theorem ROs.of {I : Hp} : ∀ {xs : List Da} {vs : List V}, A2 (fun x u => RO I x u) xs vs → ROs I xs vs
  | _, _, .nil => .nil
  | _, _, .cons r t => .cons r (ROs.of t)
def pDd (K : PySem.W.Frag) (n : Nat) : Rp Da := ⟨fun d v I _ => RD K I d v ∧ dep d < n, fun e _ h => ⟨h.1.up e, h.2⟩⟩
def pDo : Rp Da := ⟨fun d v I _ => RO I d v, fun e _ h => h.up e⟩
instance {K : PySem.W.Frag} {n : Nat} : Im (pDd K n) := ⟨fun h => h⟩
instance : Im pDo := ⟨fun h => h⟩
/-- R as data, S what frozen makes of it -/
structure Fz (K : PySem.W.Frag) {α : Type} (R S : Rp α) (e e' : α → Da) (n : Nat) : Prop where
  enc : ∀ {a v I C}, R.r a v I C → RD K I (e a) v
  dec : ∀ {a v I C}, RO I (e' a) v → S.r a v I C
  fz : ∀ a, frz (e a) = e' a
  dp : ∀ a, dep (e a) ≤ n
section
variable {K : PySem.W.Frag} {α β γ : Type} {R S : Rp α} {R' S' : Rp β} {e e' : α → Da} {d d' : β → Da} {n m : Nat}
theorem fz_int : Fz K pI pI Da.i Da.i 0 := ⟨fun h => by cases h; exact .i _, fun h => by cases h; rfl, fun _ => by simp only [frz], fun _ => by simp only [dep]; exact Nat.le_refl _⟩
theorem fz_str : Fz K pS pS Da.s Da.s 0 := ⟨fun h => by obtain ⟨rfl, h⟩ := h; exact .s _ h, fun h => by cases h; exact ⟨rfl, by assumption⟩, fun _ => by simp only [frz], fun _ => by simp only [dep]; exact Nat.le_refl _⟩
theorem enc_all (f : Fz K R S e e' n) {I C : Hp} : ∀ {xs : List α} {vs : List V}, A2 (fun x u => R.r x u I C) xs vs → RDs K I (xs.map e) vs
  | _, _, .nil => .nil
  | _, _, .cons r t => .cons (f.enc r) (enc_all f t)
theorem dec_all (f : Fz K R S e e' n) {I C : Hp} : ∀ {xs : List α} {vs : List V}, ROs I (xs.map e') vs → A2 (fun x u => S.r x u I C) xs vs
  | [], [], _ => .nil
  | x :: xs, v :: vs, h => by
    cases h with
    | cons r t => exact .cons (f.dec r) (dec_all f t)
  | [], v :: vs, h => by cases h
  | x :: xs, [], h => by cases h
theorem fz_all (f : Fz K R S e e' n) : ∀ xs : List α, frzL (xs.map e) = xs.map e'
  | [] => by simp only [List.map_nil, frzL]
  | x :: xs => by simp only [List.map_cons, frzL, f.fz, fz_all f xs]
theorem dp_all' (f : Fz K R S e e' n) : ∀ xs : List α, depL (xs.map e) ≤ n
  | [] => by simp only [List.map_nil, depL]; exact Nat.zero_le _
  | x :: xs => by
    simp only [List.map_cons, depL]
    exact Nat.max_le.mpr ⟨f.dp x, dp_all' f xs⟩
theorem fz_L (f : Fz K R S e e' n) : Fz K (pL R) (pQ K S) (fun xs => .l (xs.map e)) (fun xs => .t (xs.map e')) (n + 1) :=
  ⟨fun ⟨a, vs, h1, h2, h3, h4⟩ => by subst h1; exact .l h2 h3 (enc_all f h4), fun h => by
    cases h with
    | t h hl r => exact ⟨_, _, rfl, .inl (.inl h), hl, dec_all f r⟩, fun xs => by simp only [frz, fz_all f], fun xs => by
    simp only [dep]
    exact Nat.succ_le_succ (dp_all' f xs)⟩
theorem fz_Q (f : Fz K R S e e' n) : Fz K (pQ K R) (pQ K S) (fun xs => .t (xs.map e)) (fun xs => .t (xs.map e')) (n + 1) :=
  ⟨fun ⟨a, vs, h1, h2, h3, h4⟩ => by subst h1; exact .t h2 h3 (enc_all f h4), fun h => by
    cases h with
    | t h hl r => exact ⟨_, _, rfl, .inl (.inl h), hl, dec_all f r⟩, fun xs => by simp only [frz, fz_all f], fun xs => by
    simp only [dep]
    exact Nat.succ_le_succ (dp_all' f xs)⟩
/-- rows -/
structure Fr (K : PySem.W.Frag) {α : Type} (R S : Rt α) (e e' : α → List Da) (n : Nat) : Prop where
  enc : ∀ {a vs I C}, R.r a vs I C → RDs K I (e a) vs ∧ vs.length ≤ 100
  dec : ∀ {a vs I C}, ROs I (e' a) vs → S.r a vs I C
  fz : ∀ a, frzL (e a) = e' a
  dp : ∀ a, depL (e a) ≤ n
theorem fr_one (f : Fz K R S e e' n) : Fr K (t1 R) (t1 S) (fun a => [e a]) (fun a => [e' a]) n := ⟨fun ⟨v, h, r⟩ => by subst h; exact ⟨.cons (f.enc r) .nil, by show 1 ≤ 100; decide⟩, fun h => by
    cases h with
    | cons r t =>
      cases t
      exact ⟨_, rfl, f.dec r⟩, fun a => by simp only [frzL, f.fz], fun a => by
    simp only [depL]
    exact Nat.max_le.mpr ⟨f.dp a, Nat.zero_le _⟩⟩
theorem fr_cons {T U : Rt β} {es es' : β → List Da} (f : Fz K R S e e' n) (g : Fr K T U es es' m) (h99 : T.n ≤ 50) : Fr K (tc R T) (tc S U) (fun a => e a.1 :: es a.2) (fun a => e' a.1 :: es' a.2) (max n m) := ⟨fun ⟨v, us, h, r, t⟩ => by
    subst h
    obtain ⟨q, ql⟩ := g.enc t
    exact ⟨.cons (f.enc r) q, by rw [List.length_cons, T.len t]; omega⟩, fun h => by
    cases h with
    | cons r t => exact ⟨_, _, rfl, f.dec r, g.dec t⟩, fun a => by simp only [frzL, f.fz, g.fz], fun a => by
    simp only [depL]
    have := f.dp a.1
    have := g.dp a.2
    omega⟩
theorem fz_T {T U : Rt β} {es es' : β → List Da} (g : Fr K T U es es' m) : Fz K (pT T) (pT U) (fun a => .t (es a)) (fun a => .t (es' a)) (m + 1) := ⟨fun ⟨a, vs, h1, h2, h3⟩ => by
    subst h1
    obtain ⟨q, ql⟩ := g.enc h3
    exact .t (.inl (.inl h2)) (Nat.le_trans ql (by decide)) q, fun h => by
    cases h with
    | t h hl r => exact ⟨_, _, rfl, h, g.dec r⟩, fun a => by simp only [frz, g.fz], fun a => by
    simp only [dep]
    exact Nat.succ_le_succ (g.dp a)⟩
variable {E : XK} {σ : L2.St} {I C : Hp} {ta : TE} {m' : Res α}
theorem x_frz {k : Nat} (f : Fz K R S e e' n) (hk : n < k) (h : EvX E K ta σ I C m' R) : EvX E K (tCall (spP K (t1 (pDd K k)) (fun a => .ok (frz a)) pDo) [] E (tCons ta tNil)) σ I C m' S := fun I1 C1 H1 x x' s Q q =>
  h I1 C1 H1 x x' s _ (q.mono (fun a p v I2 H2 e2 s2 rv => ⟨I2, C1, e a, s2, ⟨v, rfl, f.enc rv, Nat.lt_of_le_of_lt (f.dp a) hk⟩, fun w I3 H3 e3 s3 rw => p w I3 H3 (e2.trans e3) s3 (f.dec (by
    have z : RO I3 (frz (e a)) w := rw
    rw [f.fz] at z
    exact z))⟩) fun _ _ z => z)
end
/-! ### its body -/
def tyD : Da → String
  | .i _ => "int"
  | .s _ => "str"
  | .t _ => "tuple"
  | .l _ => "list"
theorem TyD {K : PySem.W.Frag} {I C H : Hp} {d : Da} {v : V} (s : St I C H) (h : RD K I d v) : TyX K H v (.type (tyD d)) := by
  cases h with
  | i n => exact .base (.int n)
  | s x h => exact .base (.str x)
  | l h hl r => exact .base (.lst (s.i _ _ h))
  | t h hl r =>
    rcases h with (h | ⟨o, h⟩) | h
    · exact .base (.tup (s.i _ _ h))
    · exact .fTuple (s.i _ _ h)
    · obtain ⟨o, its, n, hk, hc, _⟩ := h
      exact .kTuple hk hc
def isSeq : Da → Bool
  | .i _ => false
  | .s _ => false
  | .t _ => true
  | .l _ => true
theorem kit_seq {K : PySem.W.Frag} (d : Da) : PySem.W.kitAny K (.type (tyD d)) [.type "list", .type "tuple"] = some (isSeq d) := by
  unfold tyD
  cases d with
  | i n => simp only [PySem.W.kitAny, kit_ty (K := K) (show kitB "int" "list" = some false by decide +kernel), kit_ty (K := K) (show kitB "int" "tuple" = some false by decide +kernel), isSeq]
  | s n => simp only [PySem.W.kitAny, kit_ty (K := K) (show kitB "str" "list" = some false by decide +kernel), kit_ty (K := K) (show kitB "str" "tuple" = some false by decide +kernel), isSeq]
  | t n => simp only [PySem.W.kitAny, kit_ty (K := K) (show kitB "tuple" "list" = some false by decide +kernel), kit_ty (K := K) (show kitB "tuple" "tuple" = some true by decide +kernel), isSeq]
  | l n => simp only [PySem.W.kitAny, kit_ty (K := K) (show kitB "list" "list" = some true by decide +kernel), isSeq]
section
variable {K : PySem.W.Frag} {E : XK} {σ : L2.St} {I C H I0 C0 : Hp} {α β : Type} {R : Rp α} {te : TE} {v : V} {D : Ends} {Q : VK}
theorem x_isiD {m : Res Da} {n : Nat} (h : EvX E K te σ I C m (pDd K n)) : EvX E K (tCB (rIsiT K) (tCons te (tCons (tTup (tCons (tC (.ty "list")) (tCons (tC (.ty "tuple")) tNil))) tNil))) σ I C (un (fun d => .ok (isSeq d)) m) pB := fun I1 C1 H1 e e' s Q q =>
  h I1 C1 H1 e e' s _ ((Post.bind q).mono (fun d p v I2 H2 e2 s2 rv => by
    refine ⟨by decide, fun t ht => ?_⟩
    have ex := Ex.new (o := HO.tup [.ty "list", .ty "tuple"]) (s2.i.free ht)
    exact ⟨v, t, _, _, _, isSeq d, rfl, upd_same, .cons (.ty "list") (.cons (.ty "tuple") .nil), TyD (s2.newI ht) (rv.1.up ex), kit_seq d, p _ _ _ (e2.trans ex) (s2.newI ht) rfl⟩) fun _ _ z => z)
/-- a tuple that was laid -/
def pTl (R : Rp α) : Rp (List α) := ⟨fun xs v I C => ∃ a vs, v = .ref a ∧ I a = some (.tup vs) ∧ vs.length ≤ sizeLine ∧ A2 (fun x u => R.r x u I C) xs vs,
  fun e e' ⟨a, vs, h1, h2, h3, h4⟩ => ⟨a, vs, h1, e a _ h2, h3, h4.imp fun _ _ => R.mono e e'⟩⟩
theorem o_tupleI : OpL E K (rTuple1 K) idR (t1 (pV R)) (pTl R) := fun I C H a vs s hv Q q => by
  obtain ⟨v, rfl, h⟩ := hv
  obtain ⟨p, us, rfl, h2, h3, h4⟩ := pV.at s h
  exact ⟨p, us, rfl, .inl ⟨.inl (.inl h2), fun l hl => q (.ref l) (upd I l (.tup us)) _ (Ex.new (s.i.free hl)) (s.newI hl) ⟨l, us, rfl, upd_same, h3, h4.imp fun _ _ => R.mono (Ex.new (s.i.free hl)) (Ex.refl _)⟩⟩⟩
theorem frz_flat {n : Nat} {wi : TI} {ta : TE} {a : Da} (hs : St I0 C0 H) (r : RD K I0 a v) (hd : dep a < n) (hf : isSeq a = false) (hm : PQ pDo I0 C0 Q (frz a)) :
    tSeq (tIfS (tB (tCB (rIsiT K) (tCons (tVar 0) (tCons (tTup (tCons (tC (.ty "list")) (tCons (tC (.ty "tuple")) tNil))) tNil)))) (tSeq (tRet ta) tNext) tNext) (tSeq (tRet (tVar 0)) tNext) { nx := fun _ H' => Q .non H', rt := Q } [some v, none] H := by
  refine t_B (E := EZ) (x_isiD (te := tVar 0) (σ := [some v, none]) (n := n) (x_var (R := pDd K n) (i := 0) rfl ⟨r, hd⟩)) I0 C0 H (Ex.refl _) (Ex.refl _) hs _ ?_
  show Post (un (fun d => .ok (isSeq d)) (Res.ok a)) _ _
  rw [un_ok, hf]
  intro I2 H2 e2 s2
  refine ⟨v, rfl, hm v I2 H2 e2 s2 ?_⟩
  cases r with
  | i n => exact (by simp only [frz]; exact RO.i n)
  | s x h => exact (by simp only [frz]; exact RO.s x h)
  | t h hl r => cases hf
  | l h hl r => cases hf
theorem frz_deep {n : Nat} {wi : TI} {a : Da} {xs : List Da} (hs : St I0 C0 H) (r : RD K I0 a v) (hd : dep a < n + 1) (hf : isSeq a = true) (ea : frz a = .t (frzL xs)) (hm : PQ pDo I0 C0 Q (frz a))
    (hi : ∀ I1, Ex I0 I1 → EvI EZ K wi [some v, none] I1 C0 kpT (.ok xs) (pDd K n)) :
    tSeq (tIfS (tB (tCB (rIsiT K) (tCons (tVar 0) (tCons (tTup (tCons (tC (.ty "list")) (tCons (tC (.ty "tuple")) tNil))) tNil)))) (tSeq (tRet (tCB (rTuple1 K) (tCons (tLc wi (gName 1) tYes (tCall (spP K (t1 (pDd K n)) (fun a => .ok (frz a)) pDo) [] EZ (tCons (tVar 1) tNil)) [1]) tNil))) tNext) tNext) (tSeq (tRet (tVar 0)) tNext) { nx := fun _ H' => Q .non H', rt := Q } [some v, none] H := by
  refine t_B (E := EZ) (x_isiD (te := tVar 0) (σ := [some v, none]) (n := n + 1) (x_var (R := pDd K (n + 1)) (i := 0) rfl ⟨r, hd⟩)) I0 C0 H (Ex.refl _) (Ex.refl _) hs _ ?_
  show Post (un (fun d => .ok (isSeq d)) (Res.ok a)) _ _
  rw [un_ok, hf]
  intro I2 H2 e2 s2
  have lc : EvX EZ K (tLc wi (gName 1) tYes (tCall (spP K (t1 (pDd K n)) (fun a => .ok (frz a)) pDo) [] EZ (tCons (tVar 1) tNil)) [1]) [some v, none] I2 C0 ((Res.ok xs).bind (mapR fun x => un (fun a => .ok (frz a)) (Res.ok x))) (pL pDo) :=
    x_lc (hi I2 e2) g1 (fun _ _ _ _ ⟨v, h, _⟩ => by rw [h]; rfl) (fun x σ2 I3 C3 e3 c3 ⟨w, h, rw'⟩ => by subst h; exact x_call (a_one (x_var (i := 1) rfl (Rp.mono _ (Ex.refl _) exz rw')))) (fun _ _ _ _ _ e ⟨w, h, rw'⟩ => ⟨w, h, Rp.mono _ e exz rw'⟩)
  refine x_cb o_tupleI (a_one (x_v lc)) I2 C0 H2 (Ex.refl _) (Ex.refl _) s2 _ ?_
  have em : mapR (fun x => un (fun a => Res.ok (frz a)) (Res.ok x)) xs = .ok (xs.map frz) := mapR_ok fun _ _ => rfl
  show Post (un idR ((Res.ok xs).bind (mapR fun x => un (fun a => .ok (frz a)) (Res.ok x)))) _ _
  rw [Res.bind_ok, em, un_ok, idR_eq]
  intro w I3 H3 e3 s3 rw'
  refine hm w I3 H3 (e2.trans e3) s3 ?_
  obtain ⟨b, vs, rfl, h2, h3, h4⟩ := rw'
  rw [ea]
  exact .t h2 h3 (by rw [frzL_map]; exact ROs.of (h4.imp fun _ _ h => h))
/-- what is walked -/
theorem frz_src {n : Nat} {xs : List Da} (h : depL xs + 1 < n + 1) {I : Hp} {vs : List V} (r : RDs K I xs vs) : A2 (fun x u => (pDd K n).r x u I C) xs vs := by
  have key : ∀ {xs : List Da} {vs : List V}, RDs K I xs vs → (∀ x ∈ xs, dep x < n) → A2 (fun x u => (pDd K n).r x u I C) xs vs := by
    intro xs vs r
    induction xs generalizing vs with
    | nil =>
      intro _
      cases r
      exact .nil
    | cons x xs ih =>
      intro h
      cases r with
      | cons r t => exact .cons ⟨r, h x List.mem_cons_self⟩ (ih t fun y hy => h y (List.mem_cons_of_mem _ hy))
  exact key r fun x hx => Nat.lt_of_le_of_lt (depL_le hx) (by omega)
end
end Sd

namespace Sd
open PySem L2
def mthI (j : Nat) : Stmt → Stmt
  | .ClassDef _ _ _ body _ _ _ _ _ _ _ => body.getD j (.Pass ⟨0, 0, 0, 0⟩)
  | s => s
theorem putF_new {f : Str} {v : V} : ∀ {fs : List (Str × V)}, ((fs.map Prod.fst).all fun g => !decide (g = f)) = true → putF f v fs = fs ++ [(f, v)]
  | [], _ => rfl
  | (g, x) :: r, h => by
    rw [List.map_cons, List.all_cons, Bool.and_eq_true, Bool.not_eq_true', decide_eq_false_iff_not] at h
    show (if g = f then (g, v) :: r else (g, x) :: putF f v r) = _
    rw [if_neg h.1, putF_new h.2]
    rfl
theorem ex_off {C0 C : Hp} {p : Addr} (h : Ex (off C0 p) C) : Ex (off C0 p) (off C p) := fun a o ha => by
  rw [off_ne (ne_of_none ha off_same)]
  exact h a o ha
theorem nodup_to {ns : List Str} {k : Nat} {f : Str} (h : ((ns.take k).all fun g => !(f == g)) = true) : ∀ j g, j < k → ns[j]? = some g → (f == g) = false := fun j g hj hg => by
  have := List.all_eq_true.mp h g (by
    rw [List.mem_iff_getElem?]
    exact ⟨j, by rw [List.getElem?_take, if_pos hj]; exact hg⟩)
  simpa using this
/-- f(pool, a ..), what a says holds whatever is drawn -/
def spMo {α β μ : Type} (M : Rt μ) (T : Rt α) (m : α → μ → Res (β × μ)) (R : Rp β) : Sp := fun vs H Q _ => ∃ (I C : Hp) (p : Addr) (ws us : List V) (x : μ) (a : α), vs = .ref p :: us ∧ St I C H ∧ C p = some (.lst ws) ∧ M.r x ws I C ∧ T.r a us I (off C p) ∧
  Post (m a x) (fun b => ∀ v ws' I2 H2, Ex I I2 → St I2 (upd C p (.lst ws')) H2 → M.r b.2 ws' I2 (upd C p (.lst ws')) → R.r b.1 v I2 (upd C p (.lst ws')) → Q v H2) (fun _ _ => False)
def EvAMo (E : XK) (K : PySem.W.Frag) (p : Addr) {μ : Type} (M : Rt μ) (ta : TA) (σ : L2.St) (I Cp : Hp) {α : Type} (m : μ → Res (α × μ)) (T : Rt α) : Prop :=
  ∀ x ws I1 C1 H1, Ex I I1 → Ex Cp C1 → St I1 C1 H1 → C1 p = some (.lst ws) → M.r x ws I1 C1 → ∀ Q : List V → Hp → Prop, Post (m x) (fun b => ∀ vs ws' I2 H2, Ex I1 I2 → St I2 (upd C1 p (.lst ws')) H2 → M.r b.2 ws' I2 (upd C1 p (.lst ws')) → T.r b.1 vs I2 Cp → Q vs H2) (fun _ _ => False) → ta σ H1 Q
section
variable {E : XK} {K : PySem.W.Frag} {p : Addr} {μ : Type} {M : Rt μ} {σ : L2.St} {I Cp C : Hp} {α β γ : Type} {R : Rp α} {S : Rp β} {T : Rp γ} {te ta tb : TE} {tt tu : TT} {m : μ → Res (α × μ)} {n : μ → Res (β × μ)}
theorem amo {A : Rt α} [It A] {tr : TA} (h : EvAM E K p M tr σ I Cp m A) : EvAMo E K p M tr σ I Cp m A := fun x ws I1 C1 H1 e e' s hc hx Q q =>
  h x ws I1 C1 H1 e e' s hc hx _ (q.mono (fun b z vs ws' I2 H2 e2 s2 hx2 rv => z vs ws' I2 H2 e2 s2 hx2 (It.im rv)) fun _ _ z => z)
theorem amo_cons [Im R] {tr : TA} {A : Rt β} (hp : Cp p = none) (h1 : EvM E K p M te σ I Cp m R) (h2 : EvAMo E K p M tr σ I Cp n A) : EvAMo E K p M (tCons te tr) σ I Cp (pairM m n) (tc R A) := fun x ws I1 C1 H1 e e' s hc hx Q q =>
  h1 x ws I1 C1 H1 e e' s hc hx _ ((Post.bind q).mono (fun b z v ws' I2 H2 e2 s2 hx2 rv =>
    h2 b.2 ws' I2 _ H2 (e.trans e2) (e'.over hp) s2 upd_same hx2 _ ((Post.bind z).mono (fun d z2 vs ws2 I3 H3 e3 s3 hx3 rw => by
      rw [upd_upd] at s3 hx3
      exact z2 (v :: vs) ws2 I3 H3 (e2.trans e3) s3 hx3 ⟨v, vs, rfl, R.to e3 rv, rw⟩) fun _ _ z => z)) fun _ _ z => z)
theorem amo_var {tr : TA} {A : Rt β} {i : Nat} {v : V} {a : α} (hv : σ[i]? = some (some v)) (r : R.r a v I Cp) (h2 : EvAMo E K p M tr σ I Cp n A) : EvAMo E K p M (tCons (tVar i) tr) σ I Cp (pairM (liftM (.ok a)) n) (tc R A) := fun x ws I1 C1 H1 e e' s hc hx Q q =>
  ⟨v, hv, h2 x ws I1 C1 H1 e e' s hc hx _ ((Post.bind (m := n x) (k := fun d => .ok ((a, d.1), d.2)) q).mono (fun d z2 vs ws2 I3 H3 e3 s3 hx3 rw => z2 (v :: vs) ws2 I3 H3 e3 s3 hx3 ⟨v, vs, rfl, R.mono (e.trans e3) (Ex.refl _) r, rw⟩) fun _ _ z => z)⟩
theorem amo_var1 {i : Nat} {v : V} {a : α} (hv : σ[i]? = some (some v)) (r : R.r a v I Cp) : EvAMo E K p M (tCons (tVar i) tNil) σ I Cp (liftM (.ok a) : μ → Res (α × μ)) (t1 R) := fun x ws I1 C1 H1 e e' s hc hx Q q =>
  ⟨v, hv, by
    have z := q [v] ws I1 H1 (Ex.refl _)
    rw [upd_id hc] at z
    exact z s hx ⟨v, rfl, R.mono e (Ex.refl _) r⟩⟩
theorem m_callMo {A : Rt α} {f : α → μ → Res (β × μ)} {tr : TA} {i : Nat} (hp : Cp p = none) (hv : σ[i]? = some (some (.ref p))) (h : EvAMo E K p M tr σ I Cp m A) : EvM E K p M (tCall (spMo M A f S) [] E (tCons (tVar i) tr)) σ I Cp (callM f m) S := fun x ws I1 C1 H1 e e' s hc hx Q q =>
  ⟨.ref p, hv, h x ws I1 C1 H1 e e' s hc hx _ ((Post.bind q).mono (fun b z vs ws' I2 H2 e2 s2 hx2 rv => by
    have eo : Ex Cp (off (upd C1 p (.lst ws')) p) := fun a o ha => by
      have hne : a ≠ p := ne_of_none ha hp
      rw [off_ne hne, upd_ne hne]
      exact e' a o ha
    refine ⟨I2, _, p, ws', vs, b.2, b.1, by rw [List.append_nil], s2, upd_same, hx2, A.mono (Ex.refl _) eo rv, Post.mono (m := f b.1 b.2) z (fun c z w ws2 I3 H3 e3 s3 hx3 rw => ?_) fun _ _ z => z⟩
    rw [upd_upd] at s3 hx3 rw
    exact z w ws2 I3 H3 (e2.trans e3) s3 hx3 rw) fun _ _ z => z)⟩
/-- an operation whose left side is a name's value, whatever the right side draws -/
theorem m_opv [It M] {r : R2} {f : α → β → Res γ} {i : Nat} {v : V} {a : α} (hr : ∀ E, Op2 E K r f R S T) (hp : Cp p = none) (hv : σ[i]? = some (some v)) (ra : R.r a v I Cp) (h2 : EvM E K p M tb σ I Cp n S) : EvM E K p M (tOp r (tVar i) tb) σ I Cp (binM f (liftM (.ok a)) n) T := fun x ws I1 C1 H1 e e' s hc hx Q q =>
  ⟨v, hv, h2 x ws I1 C1 H1 e e' s hc hx _ ((Post.bind (m := n x) (k := fun d => (f a d.1).bind fun c => .ok (c, d.2)) q).mono (fun d z2 w ws2 I3 H3 e3 s3 hx3 rw =>
    hr E I3 _ H3 a d.1 v w s3 (R.mono (e.trans e3) (e'.over hp) ra) rw Q ((Post.bind z2).mono (fun c z3 u I4 H4 e4 s4 ru => z3 u ws2 I4 H4 (e3.trans e4) s4 (M.mono e4 (Ex.refl _) hx3) ru) fun _ _ z => z.elim)) fun _ _ z => z)⟩
end
/-! a drawn list that will change -/
def EvMN (E : XK) (K : PySem.W.Frag) (p : Addr) {μ : Type} (M : Rt μ) (te : TE) (σ : L2.St) (I Cp : Hp) {β : Type} (m : μ → Res (List β × μ)) (R : Rp β) : Prop :=
  ∀ x ws I1 C1 H1, Ex I I1 → Ex Cp C1 → St I1 C1 H1 → C1 p = some (.lst ws) → M.r x ws I1 C1 → ∀ Q : VK, Post (m x) (fun b => ∀ q vs ws' I2 H2, Ex I1 I2 → C1 q = none → St I2 (upd (upd C1 p (.lst ws')) q (.lst vs)) H2 → M.r b.2 ws' I2 Z → vs.length ≤ sizeLine → A2 (fun x u => R.r x u I2 Z) b.1 vs → Q (.ref q) H2) (fun _ _ => False) → te σ H1 Q
section
variable {E : XK} {K : PySem.W.Frag} {p : Addr} {μ : Type} {M : Rt μ} {σ : L2.St} {I Cp C H : Hp} {α β γ ω : Type} {R : Rp α} {S : Rp β} {te : TE} {tz : TS} {D : Ends} {Q : ω → Prop}
theorem mn_lc [It M] [Im S] {wi : TI} {g : TG} {vs : List Nat} {m : μ → Res (List α × μ)} {f : α → μ → Res (β × μ)} {P : α → L2.St → Hp → Hp → Prop} (hp : Cp p = none) (hi : EvIM E K p M wi σ I Cp m R) (hg : Tg K g R (wipe σ vs) P)
    (hw : ∀ x σ2 I' C', P x σ2 I' C' → wipe σ2 vs = wipe σ vs)
    (hf : ∀ x σ2 I' C', Ex I I' → Ex Cp C' → P x σ2 I' C' → EvM EZ K p M te σ2 I' (off C' p) (f x) S) : EvMN E K p M (tLc wi g tYes te vs) σ I Cp (fun x => (m x).bind fun b => mapM f b.1 b.2) S := fun x ws I1 C1 H1 e e' s hc hx Q q =>
  hi x ws I1 C1 H1 e e' s hc hx _ ((Post.bind q).mono (fun b q2 ws2 J G Y I2 H2 e2 s2 hx2 hz w hG hY D hD => by
    have cD2 : upd C1 p (.lst ws2) D = none := s2.c.free hD
    have hDp : D ≠ p := fun z => by
      rw [z, upd_same] at cD2
      cases cD2
    have cD : C1 D = none := by
      rw [upd_ne hDp] at cD2
      exact cD2
    refine lc_it w (fun i H => LcM p M S I2 C1 D (mapM f (b.1.drop i)) (fun c => ∀ q vs ws' I2 H2, Ex I1 I2 → C1 q = none → St I2 (upd (upd C1 p (.lst ws')) q (.lst vs)) H2 → M.r c.2 ws' I2 Z → vs.length ≤ sizeLine → A2 (fun x u => S.r x u I2 Z) c.1 vs → Q (.ref q) H2) i H) ⟨[], [], ws2, b.2, I2, Ex.refl _, s2.newC hD, It.im hx2, Nat.le_refl _, .nil, ?_⟩
      (fun i H hi ⟨_, _, _, _, I', e3, s3, _⟩ => hG I' _ H e3 s3) (fun i v H H' hi ⟨ys, us, ws3, x3, I', e3, s3, hx3, hn, r3, po⟩ y => ?_) (fun H ⟨ys, us, ws3, x3, I', e3, s3, hx3, hn, r3, po⟩ => ?_)
    · rw [List.drop_zero]
      exact q2
    · obtain ⟨a, ha⟩ : ∃ a, b.1[i]? = some a := ⟨b.1[i], by simp [hi]⟩
      rw [drop_cons ha] at po
      obtain ⟨I4, e4, s4, ra⟩ := hY i a v I' _ H H' ha e3 s3 y
      refine hg a v I4 _ H' _ s4 ra fun σ2 pa => ⟨hw _ _ _ _ pa, ?_⟩
      have eI : Ex I I4 := e.trans (e2.trans (e3.trans e4))
      have eC : Ex Cp (upd (upd C1 p (.lst ws3)) D (.lst us)) := (e'.over hp).trans (Ex.new (by rw [upd_ne hDp]; exact cD))
      have hcp : upd (upd C1 p (.lst ws3)) D (.lst us) p = some (.lst ws3) := by rw [upd_ne hDp.symm, upd_same]
      show te σ2 H' _
      refine hf a σ2 I4 _ eI eC pa x3 ws3 I4 _ H' (Ex.refl _) off_ex s4 hcp (It.im (M.mono e4 (Ex.refl _) hx3)) _ ((Post.bind po).mono (fun c po2 v2 ws4 I6 H6 e6 s6 hx6 rv => ?_) fun _ _ z => z)
      have hswap : upd (upd (upd C1 p (.lst ws3)) D (.lst us)) p (.lst ws4) = upd (upd C1 p (.lst ws4)) D (.lst us) := by
        funext a
        by_cases h1 : a = p
        · rw [h1, upd_same, upd_ne hDp.symm, upd_same]
        · rw [upd_ne h1]
          by_cases h2 : a = D
          · rw [h2, upd_same, upd_same]
          · rw [upd_ne h2, upd_ne h2, upd_ne h1, upd_ne h1]
      rw [hswap] at s6 hx6 rv
      have hsz : us.length < sizeLine := Nat.lt_of_le_of_lt hn (Nat.lt_of_lt_of_le hi hz)
      refine ⟨us, s6.c D _ upd_same, hsz, ⟨ys ++ [c.1], us ++ [v2], ws4, c.2, I6, e3.trans (e4.trans e6), ?_, It.im hx6, by rw [List.length_append]; exact Nat.succ_le_succ hn, ?_, ?_⟩⟩
      · have z := s6.set (o := .lst (us ++ [v2])) (p := D) upd_same
        rw [upd_upd] at z
        exact z
      · exact (r3.imp fun _ _ => S.mono (e4.trans e6) (Ex.refl _)).append (.one (Im.im rv))
      · refine (Post.bind po2).mono (fun zs z => ?_) fun _ _ z => z
        show ∀ q vs ws' I2 H2, Ex I1 I2 → C1 q = none → St I2 (upd (upd C1 p (.lst ws')) q (.lst vs)) H2 → M.r zs.2 ws' I2 Z → vs.length ≤ sizeLine → A2 (fun x u => S.r x u I2 Z) (ys ++ [c.1] ++ zs.1) vs → Q (.ref q) H2
        rw [List.append_assoc]
        exact z
    · rw [List.drop_length] at po
      have po2 : ∀ q vs ws' I2 H2, Ex I1 I2 → C1 q = none → St I2 (upd (upd C1 p (.lst ws')) q (.lst vs)) H2 → M.r x3 ws' I2 Z → vs.length ≤ sizeLine → A2 (fun x u => S.r x u I2 Z) (ys ++ []) vs → Q (.ref q) H2 := po
      rw [List.append_nil] at po2
      exact po2 D us ws3 I' H (e2.trans e3) cD s3 (It.im hx3) (Nat.le_trans hn hz) (r3.imp fun _ _ h => Im.im h)) fun _ _ z => z)
/-- xs = e, e a new list that is drawn -/
theorem qm_asgN [It M] [Im R] {x : μ} {ws : List V} {i : Nat} {m : μ → Res (List α × μ)} {k : List α × μ → Res ω} (h : EvMN E K p M te σ I (off C p) m R) (s : St I C H) (hc : C p = some (.lst ws)) (hx : M.r x ws I Z) (hm : Post ((m x).bind k) Q XF)
    (next : ∀ (b : List α × μ) (q : Addr) (vs ws' : List V) (I2 C2 C3 H2 : Hp), Ex I I2 → C q = none → (∀ a, a ≠ p → C2 a = C a) → C2 p = some (.lst ws') → St I2 C3 H2 → C3 q = some (.lst vs) → (∀ a, a ≠ q → C3 a = C2 a) → M.r b.2 ws' I2 Z → vs.length ≤ sizeLine → A2 (fun x u => R.r x u I2 Z) b.1 vs → Post (k b) Q XF → tz D (σ.set i (some (.ref q))) H2) : tSeq (tAsg te (gName i)) tz D σ H :=
  h x ws I C H (Ex.refl _) off_ex s hc (It.im hx) _ ((Post.bind hm).mono (fun b z q vs ws' I2 H2 e2 hq s2 hx2 hl hr => next b q vs ws' I2 _ _ H2 e2 hq (fun a h => upd_ne h) upd_same s2 upd_same (fun a h => upd_ne h) hx2 hl hr z) fun _ _ z => z)
end
end Sd

namespace PySem
open Sem (wp)
open AutoSeq1 (wpAny_loadPart')
theorem sd_meets_enum_tup (l : Addr) (items : Array Value) :
    Meets (Builtin.«enumerate.__new__» ⟨[.type "enumerate", .ref l], []⟩) (fun _ R s => s.heap.IsTuple l items ∧
      R (.ok (.ret (.ref (s.heap.push { cls := .type "tuple_iterator", data := .fields #[.ref l, .int 0 0] }).objs.size)))
        { s with heap := (s.heap.push { cls := .type "tuple_iterator", data := .fields #[.ref l, .int 0 0] }).push { cls := .type "enumerate", data := .fields #[.none, .bool false, .ref s.heap.objs.size, rawInt 0, .none, .none] } }) :=
  .of_wp fun prog w A R s h => by
    obtain ⟨hp, g, d, tk, os⟩ := s; obtain ⟨hL, h⟩ := h
    have hsub := sub_enumerate
    obtain ⟨ob, hl, hc, n, hd⟩ := id hL
    wp_walk using wpAny_loadPart' hl
    refine wpAny_stack_any fun st => wpAny_pure ?_
    split
    · rename_i c _ _ _ _ _
      cases (c == Value.type "enumerate")
      · wp_walk using wpAny_loadPart' hl, wpAny_pyIter_tuple hL
        exact ⟨_, rfl, h⟩
      · wp_walk using wpAny_loadPart' hl, wpAny_pyIter_tuple hL
        exact ⟨_, rfl, h⟩
    · wp_walk using wpAny_loadPart' hl, wpAny_pyIter_tuple hL
      exact ⟨_, rfl, h⟩
section
variable {prog : Program} {w : World} {A : Around} {E : Value → Shared → Prop} {s : Shared}
theorem sd_call_enum_tup {l : Addr} {items : Array Value} {Q : Value → Shared → Prop} (hL : s.heap.IsTuple l items)
    (h : ∀ h', IsEnum h' (s.heap.objs.size + 1) s.heap.objs.size 0 .none → h'.IsTupleIter s.heap.objs.size l 0 → h'.objs.size = s.heap.objs.size + 2 →
      (∀ b o, s.heap.get? b = some o → h'.get? b = some o) → Q (.ref (s.heap.objs.size + 1)) { s with heap := h' }) :
    wpAny (model prog w) A (call (.type "enumerate") [.ref l]) Q E s := by
  refine callType_new F.called_enumerate (by decide) (F.typeCall_enumerate_1 _) (F.newCall_enumerate_1 _) (fun obj => F.args_object_init_2 obj _) F.entry_enumerate_new
    (sd_meets_enum_tup l items) ⟨hL, ?_⟩
  have hz : (s.heap.push { cls := .type "tuple_iterator", data := .fields #[.ref l, .int 0 0] }).objs.size = s.heap.objs.size + 1 := Heap.size_push ..
  show _ ∧ _
  rw [hz]
  have he : IsEnum ((s.heap.push { cls := .type "tuple_iterator", data := .fields #[.ref l, .int 0 0] }).push
      { cls := .type "enumerate", data := .fields #[.none, .bool false, .ref s.heap.objs.size, rawInt 0, .none, .none] }) (s.heap.objs.size + 1) s.heap.objs.size 0 .none := by
    have := Heap.get?_push_size (s.heap.push { cls := .type "tuple_iterator", data := .fields #[.ref l, .int 0 0] })
      (o := { cls := .type "enumerate", data := .fields #[.none, .bool false, .ref s.heap.objs.size, rawInt 0, .none, .none] }) rfl
    rw [hz] at this; exact this
  refine ⟨⟨_, he, rfl⟩, h _ he ⟨_, Heap.get?_push_of_some _ (Heap.get?_push_size _ rfl), rfl, rfl⟩ (by rw [Heap.size_push, hz]) fun b o x => Heap.get?_push_of_some _ (Heap.get?_push_of_some _ x)⟩
end
end PySem
namespace L2
open PySem PySem.Spec PyProof.Rows
/-- the tuple at a as it stands at each turn, each item in a new pair -/
def IteT (K : PySem.W.Frag) (a : Addr) : It :=
  ⟨fun i H => ∃ (xs : List V) (x : V), SqT K H a xs ∧ xs[i]? = some x, fun i H v H' => ∃ T x, v = .ref T ∧ H T = none ∧ H' = upd H T (.tup [.int (i : Nat), x]) ∧ ∀ xs, SqT K H a xs → xs[i]? = some x, fun i H => ∃ xs : List V, SqT K H a xs ∧ xs.length ≤ i⟩
theorem turn_enumT {P : Program} {w : World} {K : PySem.W.Frag} {elts : List Expr} {kk : Nat} {tpos : Pos} (a e it : Addr) :
    Turn P w K (.Tuple elts kk tpos) (IteT K a) [e, it] e (fun i h => (∃ old, IsEnum h e it ((i : Nat) : Int) old) ∧ h.IsTupleIter it a i ∧ e ≠ it ∧ a ≠ it ∧ a ≠ e) where
  mem := by simp
  obj := fun i h st b hb => by
    obtain ⟨⟨old, he⟩, ⟨o, ho, hc, hd⟩, _⟩ := st
    have e' : b = e ∨ b = it := by simpa using hb
    rcases e' with z | z
    · rw [z]; exact ⟨_, he, fun v q => nomatch q⟩
    · rw [z]; exact ⟨o, ho, fun v q => by rw [hd] at q; cases q⟩
  keep := fun i h h' st k => let ⟨⟨old, he⟩, hi, hne⟩ := st; ⟨⟨old, k e (by simp) _ he⟩, hi.at fun o q => k it (by simp) o q, hne⟩
  item := by
    intro X hP hw hK hc i pins s σ H E I hf st hg
    subst hP hw hK
    obtain ⟨⟨old, he⟩, hit, hne, hai, hae⟩ := st
    obtain ⟨xs, x, hq, hx⟩ := hg
    obtain ⟨its, rv, p, hz⟩ := I.tuple hq
    obtain ⟨u, hu, ru⟩ := rv.get hx
    have hel : e < s.heap.objs.size := Heap.lt_size he
    have hil : it < s.heap.objs.size := by obtain ⟨_, q, _⟩ := hit; exact Heap.lt_size q
    have hu' : its.toArray[i]? = some u := by simpa using hu
    have hli : i < its.toArray.size := by
      rcases Nat.lt_or_ge i its.toArray.size with z | z
      · exact z
      · rw [Array.getElem?_eq_none z] at hu'; cases hu'
    refine wpAny_pyNext_enum_itemD (n := its.toArray.size) (Draws.tuple (A := X.A.in1) (I.ok.hd hc) it a hai its.toArray) he ⟨hit, p⟩ hli hne (by simp [hne, Ne.symm hae]) fun y h' tk hy ho hst' hT hsz hk => ?_
    have hyu : y = u := by
      have := hy
      rw [hu'] at this
      exact (Option.some.inj this).symm
    subst hyu
    obtain ⟨hit', _⟩ := hst'
    refine ⟨_, rfl, wpAny_letOwnedTupleGo_enum (s := { s with heap := h', toks := tk + 1 }) ho fun h'' he' sb => ?_⟩
    have hT2 : h''.get? s.heap.objs.size = some { cls := .type "tuple", data := .seq #[.int i tk, y] } := (sb.2 _ (Nat.ne_of_gt hel)).trans hT
    have new : ObjOk X.prog X.w (upd H s.heap.objs.size (.tup [.int (i : Nat), x])) h'' s.heap.objs.size (.tup [.int (i : Nat), x]) :=
      ⟨by show 2 ≤ sizeLine; decide, [.int i tk, y], .cons ⟨_, rfl⟩ (.cons ru .nil), ⟨_, hT2, rfl, _, rfl⟩⟩
    have I1 : Inv X pins σ (upd H s.heap.objs.size (.tup [.int (i : Nat), x])) { s with heap := h'', toks := tk + 1 } :=
      I.turnedNew (ch := [e, it]) (fun b ob hb q => (sb.2 b (fun z => hb (by simp [z]))).trans (hk b ob (fun z => hb (by simp [z])) (fun z => hb (by simp [z])) q)) hf (Nat.le_refl _) new
    refine ⟨.ref s.heap.objs.size, _, I1, rfl, ⟨_, x, rfl, I.hok.fresh (Nat.le_refl _), rfl, fun ys hy => by rw [I.tuple_inj hy hq]; exact hx⟩, ⟨⟨y, ?_⟩, hit'.at fun o q => (sb.2 it (Ne.symm hne)).trans q, hne, hai, hae⟩, fun b hb => ?_⟩
    · have e1 : ((i + 1 : Nat) : Int) = (i : Int) + 1 := by omega
      rw [e1]; exact he'
    · have hb' : b < s.heap.objs.size := by
        have e' : b = e ∨ b = it := by simpa using hb
        rcases e' with z | z
        · rw [z]; exact hel
        · rw [z]; exact hil
      rw [upd_ne (Nat.ne_of_lt hb')]
      exact (hf b hb).1
  done := by
    intro X hP hw hK hc i pins s σ H E I hf st hg
    subst hP hw hK
    obtain ⟨⟨old, he⟩, hit, hne, hai, hae⟩ := st
    obtain ⟨xs, hq, hx⟩ := hg
    obtain ⟨its, rv, p, hz⟩ := I.tuple hq
    obtain ⟨f0, f1, f2, f3, f4, f5⟩ := hf it (by simp)
    have hl := rv.length
    unfold pyNext
    have hT : s.TypeIs (.ref e) "enumerate" := ⟨_, he, rfl⟩
    refine wpAny_bind (wpAny_attempt (wpAny_callSpecial?_slot (name := Str.ofString "__next__") hT F.slot_enumerate_next
      (wpAny_call_entry F.slot_enumerate_next hT F.entry_enumerate_next ?_ (F.args_enumerate_next_1 _))))
    show wpAny _ _ (field (.ref e) 2 >>= _) _ _ _
    refine wpAny_bind (wpAny_field he rfl (x := .ref it) rfl ?_)
    refine wpAny_bind (wpAny_nextOf_tuple_end (A := X.A.in1) (I.ok.hd hc) hit p (by simp; omega) fun h' x he' hx' => ?_)
    obtain ⟨o, ho, hc⟩ := hx'
    refine wpAny_bind (wpAny_isInstance (T := "StopIteration") (b := true) ⟨o, ho, hc⟩ isSubtype_stop ?_)
    exact wpAny_pure ⟨rfl, I.turned (t' := s.toks) (fun b o hb q => he' b o hb q) f0 f1 f3 f4 f5⟩
  self := fun A i s Q E st h => let ⟨⟨_, he⟩, _⟩ := st; wpAny_pyIter_enum he h
def iEnumT (K : PySem.W.Frag) (ta : TA) : TI := fun σ H R => ta σ H fun vs H1 => ∃ a xs, vs = [.ref a] ∧ SqT K H1 a xs ∧ R (IteT K a) H1
theorem pi_enumT {X : Cx} {e : Expr} {ta : TA} {p pos tpos : Pos} {elts : List Expr} {kk : Nat} (hg : Gl X "enumerate") (hm : X.mg "enumerate" = none) (ha : PA X [e] ta) (hs : starEach [e] X.env = [(false, eval e X.env)] := by rfl) :
    PI X (.Tuple elts kk tpos) (.Call (.Name "enumerate" p) [e] [] pos) (iEnumT X.K ta) := by
  refine ⟨fun pins s σ H R I h => ?_⟩
  refine Call_ (ld_blt I hg hm boot_enumerate (PyProof.Rows.callWith_type1 (thn (ha.run pos pins s σ H _ I h) fun us s1 ⟨vs, H1, I1, r1, q1⟩ => ?_) hs rfl))
  obtain ⟨a, xs, ex, hq, q⟩ := q1
  subst ex
  cases r1 with
  | cons r rr =>
    cases rr
    cases r
    obtain ⟨its, rv, p', hz⟩ := I1.tuple hq
    have hal : a < s1.heap.objs.size := by obtain ⟨_, q, _⟩ := id p'; exact Heap.lt_size q
    refine sd_call_enum_tup p' fun h' he hit hsz hk => wpAny_pyIter_enum he ?_
    have I2 : Inv X pins σ H1 { s1 with heap := h' } := I1.kept (t' := s1.toks) hk
    refine ⟨s1.heap.objs.size + 1, [s1.heap.objs.size + 1, s1.heap.objs.size], _, _, H1, rfl, I2, turn_enumT a (s1.heap.objs.size + 1) s1.heap.objs.size, ⟨⟨.none, he⟩, hit, Nat.succ_ne_self _, Nat.ne_of_lt hal, Nat.ne_of_lt (Nat.lt_succ_of_lt hal)⟩, fun b hb => ?_, q⟩
    have e' : b = s1.heap.objs.size + 1 ∨ b = s1.heap.objs.size := by simpa using hb
    have hle : s1.heap.objs.size ≤ b := by
      rcases e' with z | z
      · rw [z]; exact Nat.le_add_right _ _
      · rw [z]; exact Nat.le_refl _
    exact I1.fpOk hle (I1.hok.fresh hle)
section
variable {K : PySem.W.Frag} {a : Addr} {xs : List V}
theorem walk_enumT : Walk (IteT K a) xs.length (fun H => SqT K H a xs) (YPair (fun i => some (.int (i : Nat))) (fun i => xs[i]?)) := by
  refine ⟨fun i _ hi q => ⟨xs, xs[i], q, by simp [hi]⟩, fun _ q => ⟨xs, q, Nat.le_refl _⟩, fun i H v H' _ q y => ?_⟩
  obtain ⟨T, x, h1, h2, h3, h4⟩ := y
  exact ⟨T, .int (i : Nat), x, h1, h2, h3, rfl, h4 xs q⟩
end
end L2
namespace Sd
open PySem L2
section
variable {E : XK} {K : PySem.W.Frag} {σ : L2.St} {I C : Hp} {α : Type} {R : Rp α} {ta : TA} {m : Res (List α)}
theorem i_enumT [Im R] (h : EvA E K ta σ I C m (t1 (pQ K R))) : EvI E K (iEnumT K ta) σ I C kpT (un enumR m) (pT (tc pI (t1 R))) := fun I1 C1 H1 e e' s Kt q =>
  h I1 C1 H1 e e' s _ ((Post.bind q).mono (fun xs p vs I2 H2 e2 s2 ⟨v, hv, a, us, h1, h2, h3, h4⟩ => by
    subst hv h1
    have hl := h4.len
    refine ⟨a, us, rfl, ex_t s2.i h2, p (IteT K a) (fun H => SqT K H a us) (YPair (fun i => some (.int (i : Nat))) (fun i => us[i]?)) I2 H2 e2 s2 (by rw [enumF_length]; omega) (by rw [enumF_length, ← hl]; exact walk_enumT) (fun I3 C3 H3 e3 _ s3 => ex_t (e3.trans s3.i) h2) (fun i x v' I3 C3 H3 H4 hx e3 _ s3 y => ?_)⟩
    obtain ⟨T, u, w, rfl, hT, rfl, hu, hw⟩ := y
    rw [enumF_get] at hx
    cases hz : xs[i]? with
    | none =>
      rw [hz] at hx
      cases hx
    | some z =>
      rw [hz] at hx
      cases hx
      obtain ⟨w', hw', r⟩ := h4.get' hz
      have hw2 : us[i]? = some w := hw
      rw [hw'] at hw2
      cases hw2
      cases hu
      exact new_pair s3 hT (show V.int (i : Nat) = V.int (0 + (i : Int)) by rw [Int.zero_add]) (R.to e3 r)) fun _ _ z => z)
end
end Sd
namespace L2
open PySem PySem.Spec PyProof.Rows
theorem get_list {X : Cx} : PGet X (rIxL X.K) := by
  intro pins s σ H x y v u Q I rx ry h
  obtain ⟨p, xs, i, z, rfl, rfl, hq, he, q⟩ := h
  cases rx
  obtain ⟨t, rfl⟩ := ry
  obtain ⟨its, r, pl, hz⟩ := I.list hq
  obtain ⟨j, h1, h2, h3, h4, h5⟩ := atI_get he
  obtain ⟨w, ew, rw'⟩ := r.get h2
  have hl := r.length
  have hn := line63
  have fin : EP X pins σ Q w s := ⟨z, H, I, rw', q⟩
  by_cases h0 : 0 ≤ i
  · have hj : i.toNat = j := by
      rw [seqIndex_of h0 h5] at h1
      exact Option.some.inj h1
    exact wpAny_getItem_list pl.isList h0 (by omega) (by rw [hj]; simpa using ew) fin
  · have hj : (i + (its.toArray.size : Int)).toNat = j := by
      rw [seqIndex_neg (by omega) h4] at h1
      rw [List.size_toArray, ← hl]
      exact Option.some.inj h1
    exact wpAny_getItem_list_neg pl.isList (by omega) (by rw [List.size_toArray] <;> omega) (by omega) (by rw [hj]; simpa using ew) fin
end L2
namespace Sd
open PySem L2
section
variable {E : XK} {K : PySem.W.Frag} {σ : L2.St} {I C H : Hp} {ω : Type} {Q : ω → Prop} {X : Ec → Int → Prop} {tz : TS} {D : Ends} {te ti : TE}
/-- xs[e1] += e2, numbers -/
theorem q_augL {i : Nat} {p : Addr} {xs : List Int} {vs : List V} {f : Int → Int → Int} {k : List Int → Res ω} {m mi : Res Int} (hv : σ[i]? = some (some (.ref p))) (hc : C p = some (.lst vs)) (hl : vs.length ≤ sizeLine) (hr : A2 (fun x u => pI.r x u I Z) xs vs)
    (h : EvX E K te σ I C m pI) (hi : EvX E K ti σ I C mi pI) (s : St I C H) (hX : XH X E K I C) (hm : Post ((mi.bind fun j => (ix xs j).bind fun a => m.bind fun b => setR xs j (f a b)).bind k) Q X)
    (next : ∀ ys vs' I2 C2 H2, Ex I I2 → St I2 C2 H2 → C2 p = some (.lst vs') → (∀ q, q ≠ p → C2 q = C q) → vs'.length ≤ sizeLine → A2 (fun x u => pI.r x u I2 Z) ys vs' → Post (k ys) Q X → tz D σ H2) :
    tSeq (tAugS (tVar i) ti te (rIxL K) (ipI f) rSetL) tz D σ H :=
  ⟨.ref p, hv, hi I C H (Ex.refl _) (Ex.refl _) s _ ((Post.bind (Post.bind hm)).mono (fun j po v I2 H2 e2 s2 rv => by
    have hv1 : v = .int j := rv
    subst hv1
    have po2 := Post.bind po
    cases hx : ix xs j with
    | exc c i =>
      unfold ix at hx
      split at hx <;> (try split at hx) <;> (try split at hx) <;> cases hx
    | bad =>
      rw [hx] at po2
      exact po2.elim
    | ok a =>
      rw [hx] at po2
      obtain ⟨v, e1, r⟩ := ix_atI hr hx
      have hva : v = .int a := r
      subst hva
      refine ⟨p, vs, j, _, rfl, rfl, .inl (.inl (s2.c p _ hc)), e1, ?_⟩
      refine h I2 C H2 e2 (Ex.refl _) s2 _ ((Post.bind po2).mono (fun b po3 w I3 H3 e3 s3 rw => ?_) fun c i z => (hX c i z).mono e2 (Ex.refl _))
      have hw : w = .int b := rw
      subst hw
      refine ⟨a, b, rfl, rfl, ?_⟩
      unfold setR at po3
      have hn := hr.len
      cases hj : ixN xs.length j with
      | none =>
        rw [hj] at po3
        exact po3.elim
      | some l =>
        rw [hj] at po3
        refine ⟨p, vs, j, l, rfl, rfl, s3.c p _ hc, by rw [hn]; exact hj, next (xs.set l (f a b)) (vs.set l (.int (f a b))) I3 _ _ (e2.trans e3) (s3.set hc) upd_same (fun q h => upd_ne h) (by rw [List.length_set]; exact hl) ?_ po3⟩
        exact A2.set (f := fun x u => pI.r x u I3 Z) rfl l (hr.imp fun _ _ h => h)) hX)⟩
end
/-! ### a thing seen as another -/
section
variable {E : XK} {K : PySem.W.Frag} {σ : L2.St} {I C : Hp} {α β : Type} {R : Rp α} {S : Rp β} {te : TE} {m : Res α} {f : α → β}
def Sees (R : Rp α) (S : Rp β) (f : α → β) : Prop := ∀ x v I C, R.r x v I C → S.r (f x) v I C
theorem x_see (q : Sees R S f) (h : EvX E K te σ I C m R) : EvX E K te σ I C (un (fun x => .ok (f x)) m) S := fun I1 C1 H1 e e' s Kt p =>
  h I1 C1 H1 e e' s _ ((Post.bind p).mono (fun x z v I2 H2 e2 s2 r => z v I2 H2 e2 s2 (q x v I2 C1 r)) fun _ _ z => z)
theorem A2_map {g : β → V → Prop} {h : α → V → Prop} (q : ∀ x v, h x v → g (f x) v) : ∀ {xs : List α} {vs : List V}, A2 h xs vs → A2 g (xs.map f) vs
  | _, _, .nil => .nil
  | _, _, .cons r t => .cons (q _ _ r) (A2_map q t)
theorem see_L (q : Sees R S f) : Sees (pL R) (pL S) (List.map f) := fun xs v I C ⟨a, vs, h1, h2, h3, h4⟩ => ⟨a, vs, h1, h2, h3, A2_map (fun x u r => q x u I C r) h4⟩
theorem see_Q (q : Sees R S f) : Sees (pQ K R) (pQ K S) (List.map f) := fun xs v I C ⟨a, vs, h1, h2, h3, h4⟩ => ⟨a, vs, h1, h2, h3, A2_map (fun x u r => q x u I C r) h4⟩
theorem see_t2 : Sees (pT (tc R (t1 R))) (pQ K R) (fun p : α × α => [p.1, p.2]) := fun x v I C ⟨a, vs, h1, h2, h3⟩ => by
  obtain ⟨u, us, rfl, h4, w, rfl, h5⟩ := h3
  exact ⟨a, _, h1, .inl (.inl h2), by show 2 ≤ sizeLine; decide, .cons h4 (.cons h5 .nil)⟩
end
end Sd

/-! defs called in an except suite, that raise nothing there -/
namespace L2H
open PySem PySem.Spec PyProof.Rows L2 HotX
structure FnJ (P : Program) (w : World) (K : PySem.W.Frag) (mg : Str → Option Value) (base : Heap) (CX : CXT) (k : Nat) (f : Addr) (fd : FuncData) (ps : List Str) (sp : Sp) : Prop where
  len : ∀ vs H Q E, sp vs H Q E → vs.length = ps.length
  run : ∀ (A : Around) (outer : List Env) (s : Shared) (H : Hp) (args : Args) (us : List Value) (vs : List V) (Q : VK) (E : XK) (p : Addr × Obj), RoomH k A → PinOk outer H s p → Env0 P w K mg base A outer s H → BindsTo s fd args (ps.zip us) → Vals vs us → sp vs H Q E →
    codeAny (model P w) A (.call (.ref f) args) (CR CX outer P w H s Q E) s
theorem fn_ofJ {CX : CXT} {P : Program} {w : World} {K : PySem.W.Frag} {mg : Str → Option Value} {base : Heap} {k : Nat} {f : Addr} {name qual : Str} {params : Arguments} {body : List Stmt} {scope : Scope} {dV kV doc pm cdv ct oc : Value} {an od : Option Addr}
    {osl : Array (Option Value)} {N ps : List Str} {sp : Sp} (lk : K.lookup f = some ⟨oc, od, .func (PySem.W.fnOf name qual params body scope dV kV doc pm an cdv ct), osl⟩) (hcd : PySem.W.codeIn K cdv qual = true) (S : FnScope N ps scope)
    (len : ∀ vs H Q E, sp vs H Q E → vs.length = ps.length)
    (hbody : ∀ (A : Around) (outer : List Env) (s : Shared) (H : Hp) (vs : List V) (Q : VK) (E : XK) (p : Addr × Obj), RoomH k (A.deeper (envOfC qual scope s.heap.objs.size f cdv)) → sp vs H Q E →
      ∃ t, PSs (cxH CX P w K mg base N qual scope f cdv A outer s H E p) body t ∧ t { nx := fun _ H' => Q .non H', rt := Q } (L2.start N vs) H) :
    FnJ P w K mg base CX (k + 1) f (PySem.W.fnOf name qual params body scope dV kV doc pm an cdv ct) ps sp := by
  refine ⟨len, fun A outer s H args us vs Q E p hr hpin e0 hb r hsp => ?_⟩
  have hl := len _ _ _ _ hsp
  have KX : K.In s.heap := e0.mod.kin.keeps fun b o e => (e0.bs b o e).1
  have lim : s.heap.NoLimit := e0.mod.nolimit.keeps fun b o e => (e0.bs b o e).1
  have hkind : ∀ y ∈ ps.zip us, scope.names.lookup y.1 = some .local ∨ (scope.names.lookup y.1 = some .cell ∧ ((cellsFrom (s.heap.objs.size + 1) scope.names []).lookup y.1).isSome = true) := fun ⟨n, v⟩ hy => by
    rcases S.par n (List.of_mem_zip hy).1 with q | q
    · exact .inl q
    · exact .inr ⟨q, PySem.W.cellsFrom_some _ _ _ (.inl q)⟩
  refine codeAny_call_function hr.depth (KX _ _ lk) rfl S.co S.gen rfl (PySem.W.codeRec_of KX hcd) (hb _ _ _ _ ?_)
  refine wpAny_newFunctionEnv_cells S.kind hkind fun env he s1 x => ?_
  subst he
  refine ⟨lim.keeps x.toInCall.keep, codeAny_func ?_⟩
  obtain ⟨t, ht, hq⟩ := hbody A outer s H vs Q E p (hr.deeper _) hsp
  have I : Inv (cxH CX P w K mg base N qual scope f cdv A outer s H E p) [] (L2.start N vs) H s1 := inv_startH S hpin e0 hl r x
  refine wpAny_mono (ht.run [] s1 (L2.start N vs) H _ I hq) (fun fl s' hs => ?_) fun e s' hs => hs
  have fin : ∀ {σ' : St} {H' : Hp} {v : V} {u : Value}, Inv (cxH CX P w K mg base N qual scope f cdv A outer s H E p) [] σ' H' s' → RelV v u → Q v H' → CE outer P w H s Q u s' :=
    fun {σ' H' v u} J rv q => ⟨v, H', J.os, J.bare, J.base, J.hok, rv, q⟩
  cases fl with
  | ret u =>
    obtain ⟨v, σ', H', J, rv, q⟩ := hs
    exact fin J rv q
  | next =>
    obtain ⟨σ', H', J, q⟩ := hs
    exact fin (v := V.non) (u := Value.none) J rfl q
  | brk =>
    obtain ⟨_, _, _, q⟩ := hs
    exact False.elim q
  | cont =>
    obtain ⟨_, _, _, q⟩ := hs
    exact False.elim q
section
variable {X : Cx} {CX : CXT} {k : Nat} {f C : Addr} {fd : FuncData} {ps : List Str} {sp : Sp} {E : St → XK} {x m : Str} {q pos apos : Pos} {e o : Expr} {es : List Expr} {ta : TE} {t : TA}
theorem run_fnJ {pins : List (Addr × Obj)} {σ : St} {H : Hp} {s : Shared} {Q : VK} {us : List Value} {vs : List V} {p : Addr × Obj} (F : FnJ X.prog X.w X.K X.mg X.base CX k f fd ps sp) (hr : RoomH k X.A) (hp : p ∈ X.pn) (hb : Binds X.K fd ps []) (hx : PassesAt CX X σ (E σ))
    (I : Inv X pins σ H s) (r : Vals vs us) (h : sp vs H Q (E σ)) : wpAny (model X.prog X.w) X.A (call (.ref f) us) (EP X pins σ Q) X.xe s := by
  have hl : us.length = ps.length := by rw [← r.length]; exact F.len _ _ _ _ h
  have b := hb s us I.kIn (by rw [List.append_nil]; exact hl)
  rw [List.append_nil] at b
  have P1 := I.pin p (List.mem_append_left _ hp)
  have hpin : PinOk X.stack H s p := ⟨P1.1, P1.2.1, fun hm => (List.mem_cons.mp (I.stkSub p.1 hm)).elim P1.2.2.1 P1.2.2.2.1, P1.2.2.2.2⟩
  refine wpAny_call (codeAny_mono (F.run X.A X.stack s H ⟨us, []⟩ us vs Q (E σ) p hr hpin I.env0 b r h) fun r s' hq => ?_)
  cases r with
  | error e => exact hx pins H s e s' I hq
  | ok fl =>
    cases fl with
    | ret u => exact I.after hq
    | next => exact False.elim hq
    | brk => exact False.elim hq
    | cont => exact False.elim hq
theorem pe_callJ {p : Addr × Obj} (F : FnJ X.prog X.w X.K X.mg X.base CX k f fd ps sp) (hr : RoomH k X.A) (hp : p ∈ X.pn) (hg : Gl X x) (hm : X.mg x = some (.ref f)) (hk : PySem.W.keepIn X.K (.ref f) = true) (hb : Binds X.K fd ps []) (hx : ∀ σ, PassesAt CX X σ (E σ))
    (ha : PA X (e :: es) t) (hdb : (x == ("__debug__" : Str)) = false := by decide) (he : starEach (e :: es) X.env = (false, eval e X.env) :: starEach es X.env := by rfl) (hpl : (backTo pos (starEach es X.env)).any (·.1) = false := by rfl) :
    PE X (.Call (.Name x q) (e :: es) [] pos) (tCallS sp E t) := by
  refine ⟨fun pins s σ H Q I h => ?_⟩
  refine wpAny_Call_Name_kw (ld_glob I hg hm ?_ hdb)
  refine PySem.W.callWith_K (h₀ := X.base) I.ok.mod.kin hk (thn (ha.run pos pins s σ H _ I h) fun us s1 ⟨vs, H1, I1, r, q⟩ => ⟨I1.kIn, ?_⟩) he hpl
  exact run_fnJ F hr hp hb (hx σ) I1 r q
end
end L2H
namespace L2
open PySem PySem.Spec PyProof.Rows L2H
section
variable {P : Program} {w : World} {K : PySem.W.Frag} {mg : Str → Option Value} {base : Heap} {x qual : Str} {params : Arguments} {body : List Stmt} {scope : Scope} {dvs : List V} {kws : List (Str × V)} {f : Addr} {fd : FuncData}
theorem FunD.okJ {CX : CXT} {N ps : List Str} {k : Nat} {sp : Sp} (F : FunD K x qual params body scope dvs kws f fd) (S : FnScope N ps scope) (len : ∀ vs H Q E, sp vs H Q E → vs.length = ps.length)
    (hbody : ∀ (cdv : Value) (A : Around) (outer : List Env) (s : Shared) (H : Hp) (vs : List V) (Q : VK) (E : XK) (p : Addr × Obj), RoomH k (A.deeper (envOfC qual scope s.heap.objs.size f cdv)) → sp vs H Q E →
      ∃ t, PSs (cxH CX P w K mg base N qual scope f cdv A outer s H E p) body t ∧ t { nx := fun _ H' => Q .non H', rt := Q } (start N vs) H) : FnJ P w K mg base CX (k + 1) f fd ps sp := by
  obtain ⟨oc, od, dV, kV, doc, pm, an, cdv, ct, osl, rfl, lk, hcd, _, _⟩ := F.ex
  exact fn_ofJ lk hcd S len fun A outer s H vs Q E p hr hsp => hbody cdv A outer s H vs Q E p hr hsp
end
end L2
namespace Sd
open PySem L2 PyProof.Rows
section
variable {E : XK} {K : PySem.W.Frag} {σ : L2.St} {I C : Hp} {α β : Type} {R : Rp β} {T : Rt α} {ta : TA} {m : Res α} {f : α → Res β}
theorem passZ {X : Cx} (σ : L2.St) : PassesAt (L2.CX X.prog X.w) X σ EZ := fun pins H s e s' I c => passL pins σ H s e s' I c
theorem x_callZ (n : ∀ a c i, f a ≠ .exc c i) (h : EvA E K ta σ I C m T) : EvX E K (tCallS (spP K T f R) (fun _ => EZ) ta) σ I C (un f m) R := fun I1 C1 H1 e e' s Q q =>
  h I1 C1 H1 e e' s _ ((Post.bind q).mono (fun a p vs I2 H2 e2 s2 rv => ⟨I2, C1, a, s2, rv, by
    cases hf : f a with
    | ok b =>
      rw [hf] at p
      exact fun v I3 H3 e3 s3 rw => p v I3 H3 (e2.trans e3) s3 rw
    | exc c i => exact absurd hf (n a c i)
    | bad =>
      rw [hf] at p
      exact p.elim⟩) fun _ _ z => z)
instance {R : Rp β} : TyR K (pQ K R) "tuple" := ⟨fun s ⟨a, vs, e, h, _⟩ => by
  rw [e]
  rcases h with h | ⟨o, its, n, hk, hc, _⟩
  · rcases h with h | ⟨o, h⟩
    · exact .base (.tup (s.i _ _ h))
    · exact .fTuple (s.i _ _ h)
  · exact .kTuple hk hc⟩
instance {T : Rt α} : TyR K (pU K T) "tuple" := ⟨fun s ⟨a, vs, e, h, _⟩ => by
  rw [e]
  rcases h with h | ⟨o, its, n, hk, hc, _⟩
  · rcases h with h | ⟨o, h⟩
    · exact .base (.tup (s.i _ _ h))
    · exact .fTuple (s.i _ _ h)
  · exact .kTuple hk hc⟩
end
end Sd
namespace Sd
open PySem L2 L2H PyProof.Rows
theorem roomJ {j k : Nat} {A : Around} {v : Option Value} (r : Room k A) (h : j ≤ k) : RoomH j (A.mark v) := ⟨(roomH_of r).mono h |>.dp, (roomH_of r).mono h |>.un⟩
end Sd

namespace Sd
open PySem L2
/-! ### plain laws of the mirrors -/
/-- m comes to an answer that is so -/
abbrev Is {α : Type} (m : Res α) (Q : α → Prop) : Prop := Post m Q XF
theorem is_iff {α : Type} {m : Res α} {Q : α → Prop} : Is m Q ↔ ∃ a, m = .ok a ∧ Q a := by
  cases m with
  | ok a => exact ⟨fun h => ⟨a, rfl, h⟩, fun ⟨b, e, h⟩ => by cases e; exact h⟩
  | exc c i => exact ⟨fun h => h.elim, fun ⟨b, e, h⟩ => by cases e⟩
  | bad => exact ⟨fun h => h.elim, fun ⟨b, e, h⟩ => by cases e⟩
theorem Is.ok {α : Type} {a : α} {Q : α → Prop} (h : Q a) : Is (.ok a) Q := h
theorem Is.eq {α : Type} {m : Res α} {a : α} (h : Is m (· = a)) : m = .ok a := by
  obtain ⟨b, e, h⟩ := is_iff.mp h
  rw [e, h]
theorem Is.of {α : Type} {m : Res α} {a : α} {Q : α → Prop} (e : m = .ok a) (h : Q a) : Is m Q := by
  rw [e]
  exact h
theorem Is.get {α : Type} {m : Res α} {Q : α → Prop} (h : Is m Q) : ∃ a, m = .ok a ∧ Q a := is_iff.mp h
theorem Is.bind {α β : Type} {m : Res α} {k : α → Res β} {Q : α → Prop} {R : β → Prop} (h : Is m Q) (hk : ∀ a, Q a → Is (k a) R) : Is (m.bind k) R := by
  obtain ⟨a, e, h⟩ := h.get
  rw [e]
  exact hk a h
theorem Is.imp {α : Type} {m : Res α} {Q R : α → Prop} (h : Is m Q) (hk : ∀ a, Q a → R a) : Is m R := Post.mono h hk fun _ _ z => z
section
variable {α β γ S ρ : Type}
/-- a loop keeps a word -/
theorem loopN_inv {f : α → S → Res S} (J : Nat → S → Prop) {xs : List α} {s : S} (h0 : J 0 s) (h : ∀ i x s, xs[i]? = some x → J i s → Is (f x s) (J (i + 1))) : Is (loopN f xs s) (J xs.length) := by
  induction xs generalizing J s with
  | nil => exact h0
  | cons x xs ih =>
    rw [loopN_cons]
    refine Is.bind (h 0 x s rfl h0) fun s' h1 => ?_
    exact ih (fun i => J (i + 1)) h1 fun i y s hy hj => h (i + 1) y s hy hj
theorem loopN_pure {f : α → S → Res S} {g : S → α → S} {xs : List α} {s : S} (h : ∀ x s, f x s = .ok (g s x)) : loopN f xs s = .ok (xs.foldl g s) := loopN_ok fun x _ s => h x s
/-- a loop that may return: the first turn that does -/
theorem loopR_find {f : α → Unit → Res (Out Unit ρ)} {g : α → Option ρ} : ∀ {xs : List α}, (∀ x, x ∈ xs → f x () = .ok (match g x with | some r => .rt r | none => .nx ())) → loopR f xs () = .ok (match xs.findSome? g with | some r => .rt r | none => .nx ())
  | [], _ => rfl
  | x :: xs, h => by
    rw [loopR_cons, h x List.mem_cons_self, List.findSome?_cons]
    cases q : g x with
    | some r => rfl
    | none => exact loopR_find fun y hy => h y (List.mem_cons_of_mem _ hy)
theorem loopR_any {f : α → Unit → Res (Out Unit ρ)} {p : α → Bool} {r : ρ} : ∀ {xs : List α}, (∀ x, x ∈ xs → f x () = .ok (if p x = true then .rt r else .nx ())) → loopR f xs () = .ok (if xs.any p = true then .rt r else .nx ())
  | [], _ => rfl
  | x :: xs, h => by
    rw [loopR_cons, h x List.mem_cons_self, List.any_cons]
    cases q : p x with
    | true => rfl
    | false => exact loopR_any fun y hy => h y (List.mem_cons_of_mem _ hy)
theorem filR_id {p : α → Res Bool} {q : α → Bool} {xs : List α} (h : ∀ x, x ∈ xs → p x = .ok (q x)) : filR p (fun x => .ok x) xs = .ok (xs.filter q) := by
  rw [filR_ok (g := fun x => x) h fun _ _ _ => rfl, List.map_id']
theorem findSome_none {g : α → Option β} {xs : List α} (h : xs.findSome? g = none) : ∀ x, x ∈ xs → g x = none := List.findSome?_eq_none_iff.mp h
theorem findSome_some {g : α → Option β} {b : β} : ∀ {xs : List α}, xs.findSome? g = some b → ∃ x, x ∈ xs ∧ g x = some b
  | [], h => by cases h
  | x :: xs, h => by
    rw [List.findSome?_cons] at h
    cases q : g x with
    | some c =>
      rw [q] at h
      exact ⟨x, List.mem_cons_self, q.trans h⟩
    | none =>
      rw [q] at h
      obtain ⟨y, hy, e⟩ := findSome_some h
      exact ⟨y, List.mem_cons_of_mem _ hy, e⟩
/-- a loop that appends -/
theorem loopN_app {f : α → List β → Res (List β)} {q : α → Bool} {g : α → β} : ∀ {xs : List α} {acc : List β}, (∀ x a, x ∈ xs → a.length < 1000000 → f x a = .ok (if q x = true then a ++ [g x] else a)) → acc.length + xs.length < 1000000 → loopN f xs acc = .ok (acc ++ (xs.filter q).map g)
  | [], acc, _, _ => by rw [List.filter_nil, List.map_nil, List.append_nil]; rfl
  | x :: xs, acc, h, hl => by
    rw [List.length_cons] at hl
    rw [loopN_cons, h x acc List.mem_cons_self (by omega)]
    cases q1 : q x with
    | true =>
      rw [if_pos rfl, Res.bind_ok, loopN_app (fun y a hy => h y a (List.mem_cons_of_mem _ hy)) (by rw [List.length_append, List.length_singleton]; omega), List.filter_cons, if_pos q1, List.map_cons, List.append_assoc]
      rfl
    | false =>
      rw [if_neg (by decide), Res.bind_ok, loopN_app (fun y a hy => h y a (List.mem_cons_of_mem _ hy)) (by omega), List.filter_cons, if_neg (by rw [q1]; decide)]
theorem mem_enumF {xs : List α} {y : Int × α} : y ∈ enumF 0 xs ↔ ∃ i : Nat, xs[i]? = some y.2 ∧ y.1 = (i : Int) := by
  rw [List.mem_iff_getElem?]
  constructor
  · rintro ⟨i, h⟩
    rw [enumF_get] at h
    cases q : xs[i]? with
    | none =>
      rw [q] at h
      cases h
    | some x =>
      rw [q] at h
      cases h
      exact ⟨i, q, by simp⟩
  · rintro ⟨i, h1, h2⟩
    refine ⟨i, ?_⟩
    rw [enumF_get, h1]
    obtain ⟨a, b⟩ := y
    simp only at h2
    subst h2
    simp
theorem enumF_lt : ∀ (xs : List α) (k : Int), (enumF k xs).Pairwise fun a b => a.1 < b.1
  | [], _ => .nil
  | x :: xs, k => by
    rw [enumF, List.pairwise_cons]
    refine ⟨fun y hy => ?_, enumF_lt xs (k + 1)⟩
    obtain ⟨i, h⟩ := List.mem_iff_getElem?.mp hy
    rw [enumF_get] at h
    cases q : xs[i]? with
    | none =>
      rw [q] at h
      cases h
    | some z =>
      rw [q] at h
      cases h
      dsimp only
      omega
/-- a loop that might return, but does not -/
theorem loopR_inv {f : α → S → Res (Out S ρ)} {J : S → Prop} : ∀ {xs : List α} {s : S}, J s → (∀ x s, x ∈ xs → J s → Is (f x s) fun o => ∃ s', o = .nx s' ∧ J s') → Is (loopR f xs s) fun o => ∃ s', o = .nx s' ∧ J s'
  | [], s, h0, _ => ⟨s, rfl, h0⟩
  | x :: xs, s, h0, h => by
    rw [loopR_cons]
    refine Is.bind (h x s List.mem_cons_self h0) fun o ⟨s', e, h1⟩ => ?_
    subst e
    exact loopR_inv h1 fun y s hy => h y s (List.mem_cons_of_mem _ hy)
theorem ix_nat {xs : List α} {i : Nat} {x : α} (h : xs[i]? = some x) : ix xs (i : Int) = .ok x := by
  unfold ix
  rw [if_pos (by omega), Int.toNat_natCast, h]
theorem ix_get {xs : List α} {i : Int} (h0 : 0 ≤ i) (h1 : i < xs.length) : ∃ x, ix xs i = .ok x ∧ xs[i.toNat]? = some x := by
  obtain ⟨n, rfl⟩ := Int.eq_ofNat_of_zero_le h0
  have hn : n < xs.length := by omega
  exact ⟨xs[n], ix_nat (by simp [hn]), by simp [hn]⟩
theorem ix_getD {xs : List α} {i : Int} {d : α} (h0 : 0 ≤ i) (h1 : i < xs.length) : ix xs i = .ok (xs.getD i.toNat d) := by
  obtain ⟨x, e, h⟩ := ix_get h0 h1
  rw [e, List.getD_eq_getElem?_getD, h]
  rfl
theorem setR_nat {xs : List α} {i : Int} {x : α} (h0 : 0 ≤ i) (h1 : i < xs.length) : setR xs i x = .ok (xs.set i.toNat x) := by
  unfold setR ixN
  rw [if_pos h0, if_pos h1]
theorem cut_lo {xs : List α} {k : Int} (h : 0 ≤ k) : cut xs none (some k) = xs.take k.toNat := by
  unfold cut
  rw [HT.sIx_none]
  show (xs.drop 0).take ((if k < 0 then (k + (xs.length : Int)).toNat else min k.toNat xs.length) - 0) = _
  rw [if_neg (by omega), List.drop_zero, Nat.sub_zero, ← List.take_eq_take_min]
theorem cut_hi {xs : List α} {k : Int} (h : 0 ≤ k) : cut xs (some k) none = xs.drop k.toNat := by
  unfold cut
  rw [HT.sIx_none]
  show (xs.drop (if k < 0 then (k + (xs.length : Int)).toNat else min k.toNat xs.length)).take (xs.length - (if k < 0 then (k + (xs.length : Int)).toNat else min k.toNat xs.length)) = _
  rw [if_neg (by omega), List.take_of_length_le (by rw [List.length_drop]; exact Nat.le_refl _)]
  by_cases hk : k.toNat ≤ xs.length
  · rw [Nat.min_eq_left hk]
  · rw [Nat.min_eq_right (by omega), List.drop_length, List.drop_eq_nil_of_le (by omega)]
theorem cut_last {xs : List α} : cut xs none (some (-1)) = xs.dropLast := by
  unfold cut
  rw [HT.sIx_none]
  show (xs.drop 0).take ((if (-1 : Int) < 0 then ((-1 : Int) + (xs.length : Int)).toNat else min (-1 : Int).toNat xs.length) - 0) = _
  rw [if_pos (by decide), List.drop_zero, Nat.sub_zero, List.dropLast_eq_take]
  congr 1
  omega
theorem rangeL_nat (n : Int) : rangeL 0 n = (List.range n.toNat).map fun i : Nat => (i : Int) := by
  unfold rangeL
  rw [Int.sub_zero]
  exact List.map_congr_left fun i _ => by omega
theorem loopN_inv' {f : α → S → Res S} (J : S → Prop) {xs : List α} {s : S} (h0 : J s) (h : ∀ x s, x ∈ xs → J s → Is (f x s) J) : Is (loopN f xs s) J :=
  loopN_inv (fun _ => J) h0 fun i x s hx hj => h x s (List.mem_of_getElem? hx) hj
theorem mapM_is {μ : Type} {f : α → μ → Res (β × μ)} {J : μ → Prop} {B : β → Prop} : ∀ {xs : List α} {y : μ}, J y → (∀ x y, x ∈ xs → J y → Is (f x y) fun b => B b.1 ∧ J b.2) → Is (mapM f xs y) fun c => c.1.length = xs.length ∧ (∀ b ∈ c.1, B b) ∧ J c.2
  | [], y, h0, _ => ⟨rfl, fun _ h => (nomatch h), h0⟩
  | x :: xs, y, h0, h => by
    refine Is.bind (h x y List.mem_cons_self h0) fun b hb => ?_
    refine Is.bind (mapM_is (xs := xs) hb.2 fun z w hz hw => h z w (List.mem_cons_of_mem _ hz) hw) fun c hc => ?_
    exact ⟨by simp [hc.1], fun d hd => by
      rcases List.mem_cons.mp hd with rfl | hd
      · exact hb.1
      · exact hc.2.1 d hd, hc.2.2⟩
variable {μ : Type}
@[simp] theorem callM_ok (f : α → μ → Res (β × μ)) (a : α) (x : μ) : callM f (liftM (.ok a)) x = f a x := rfl
theorem callM_eq (f : α → μ → Res (β × μ)) (m : μ → Res (α × μ)) (x : μ) : callM f m x = (m x).bind fun b => f b.1 b.2 := rfl
theorem unM_eq (f : α → Res γ) (m : μ → Res (α × μ)) (x : μ) : unM f m x = (m x).bind fun b => (f b.1).bind fun c => .ok (c, b.2) := rfl
theorem binM_eq (f : α → β → Res γ) (m : μ → Res (α × μ)) (n : μ → Res (β × μ)) (x : μ) : binM f m n x = (m x).bind fun b => (n b.2).bind fun d => (f b.1 d.1).bind fun c => .ok (c, d.2) := rfl
theorem pairM_eq (m : μ → Res (α × μ)) (n : μ → Res (β × μ)) (x : μ) : pairM m n x = (m x).bind fun b => (n b.2).bind fun d => .ok ((b.1, d.1), d.2) := rfl
theorem consM_eq (m : μ → Res (α × μ)) (n : μ → Res (List α × μ)) (x : μ) : consM m n x = (m x).bind fun b => (n b.2).bind fun d => .ok (b.1 :: d.1, d.2) := rfl
theorem ifMR_eq (c : μ → Res (Bool × μ)) (x : μ) (m n : μ → Res α) : ifMR c x m n = (c x).bind fun b => if b.1 = true then m b.2 else n b.2 := rfl
theorem andM_eq (m n : μ → Res (Bool × μ)) (x : μ) : andM m n x = (m x).bind fun b => if b.1 = true then n b.2 else .ok (false, b.2) := rfl
theorem slM_eq (m : Res (List α)) (lo hi : μ → Res (Option Int × μ)) (x : μ) : slM m lo hi x = m.bind fun xs => (lo x).bind fun a => (hi a.2).bind fun b => .ok (cut xs a.1 b.1, b.2) := rfl
@[simp] theorem consR_ok (a : α) (xs : List α) : consR (.ok a) (.ok xs) = .ok (a :: xs) := rfl
theorem Is.if_ {α : Type} {c : Bool} {m n : Res α} {Q : α → Prop} (h1 : c = true → Is m Q) (h2 : c = false → Is n Q) : Is (if c = true then m else n) Q := by
  cases c with
  | true => exact h1 rfl
  | false => exact h2 rfl
end
end Sd

namespace K61
open PySem L2 Sd
def top (i : Nat) : Stmt := PySem.Challenge.pw_stormdesk_k61_stretches_and_hours.main.body.getD i (.Pass ⟨0, 0, 0, 0⟩)

abbrev s_line : Stmt := top 1
abbrev s_below : Stmt := top 2
abbrev s_is_name : Stmt := top 15
abbrev s_check_names : Stmt := top 16
abbrev s_frozen : Stmt := top 17
abbrev s_check_areas : Stmt := top 27
abbrev s_are_limits : Stmt := top 28
abbrev s_check_gauges : Stmt := top 29
abbrev s_are_readings : Stmt := top 30
abbrev s_check_runs : Stmt := top 31
abbrev s_World_init : Stmt := mthI 0 (top 32)
abbrev s_parents_of : Stmt := top 33
abbrev s_level_of : Stmt := top 35
abbrev s_gauges_under : Stmt := top 36
abbrev s_highest_level : Stmt := top 37
abbrev s_reached : Stmt := top 38
abbrev s_reached_row : Stmt := top 39
abbrev s_stretches_from : Stmt := top 41
abbrev s_stretches : Stmt := top 43
abbrev s_events : Stmt := top 44
abbrev s_hour_tally : Stmt := top 46
abbrev s__law_mix : Stmt := top 48
abbrev s__law_pool : Stmt := top 49
abbrev s__law_fill : Stmt := top 50
abbrev s__law_take : Stmt := top 51
abbrev s__law_from : Stmt := top 52
abbrev s__law_name : Stmt := top 53
abbrev s__law_names : Stmt := top 54
abbrev s__law_areas : Stmt := top 55
abbrev s__law_limits : Stmt := top 56
abbrev s__law_reading : Stmt := top 57
abbrev s__law_run_rows : Stmt := top 58
abbrev s__law_data : Stmt := top 59
abbrev s__law_line : Stmt := top 60
abbrev s__law_reached : Stmt := top 61
abbrev s__law_is_int : Stmt := top 62
abbrev s__law_same_tuples : Stmt := top 63
abbrev s__law_levels : Stmt := top 64
abbrev s__law_stretches : Stmt := top 65
abbrev s__law_hours : Stmt := top 66
abbrev s__law_refused : Stmt := top 67
abbrev s_law : Stmt := top 68
abbrev ns_World : List Str := ["top", "hours", "areas", "gauges", "runs"]
abbrev s_err : Stmt := mth (top 4)
def knE (c : Ec) : Bool := decide (c ∈ ([.DeskError, .TooMany, .BadName, .BadWorld, .BadArea, .BadGauge, .BadRun, .BadTable] : List Ec))
structure Tx (K : PySem.W.Frag) (mg : Str → Option Value) where
  f_line : Addr
  d_line : FuncData
  f_below : Addr
  d_below : FuncData
  f_is_name : Addr
  d_is_name : FuncData
  f_check_names : Addr
  d_check_names : FuncData
  f_frozen : Addr
  d_frozen : FuncData
  f_check_areas : Addr
  d_check_areas : FuncData
  f_are_limits : Addr
  d_are_limits : FuncData
  f_check_gauges : Addr
  d_check_gauges : FuncData
  f_are_readings : Addr
  d_are_readings : FuncData
  f_check_runs : Addr
  d_check_runs : FuncData
  f_World_init : Addr
  d_World_init : FuncData
  f_parents_of : Addr
  d_parents_of : FuncData
  f_level_of : Addr
  d_level_of : FuncData
  f_gauges_under : Addr
  d_gauges_under : FuncData
  f_highest_level : Addr
  d_highest_level : FuncData
  f_reached : Addr
  d_reached : FuncData
  f_reached_row : Addr
  d_reached_row : FuncData
  f_stretches_from : Addr
  d_stretches_from : FuncData
  f_stretches : Addr
  d_stretches : FuncData
  f_events : Addr
  d_events : FuncData
  f_hour_tally : Addr
  d_hour_tally : FuncData
  f__law_mix : Addr
  d__law_mix : FuncData
  f__law_pool : Addr
  d__law_pool : FuncData
  f__law_fill : Addr
  d__law_fill : FuncData
  f__law_take : Addr
  d__law_take : FuncData
  f__law_from : Addr
  d__law_from : FuncData
  f__law_name : Addr
  d__law_name : FuncData
  f__law_names : Addr
  d__law_names : FuncData
  f__law_areas : Addr
  d__law_areas : FuncData
  f__law_limits : Addr
  d__law_limits : FuncData
  f__law_reading : Addr
  d__law_reading : FuncData
  f__law_run_rows : Addr
  d__law_run_rows : FuncData
  f__law_data : Addr
  d__law_data : FuncData
  f__law_line : Addr
  d__law_line : FuncData
  f__law_reached : Addr
  d__law_reached : FuncData
  f__law_is_int : Addr
  d__law_is_int : FuncData
  f__law_same_tuples : Addr
  d__law_same_tuples : FuncData
  f__law_levels : Addr
  d__law_levels : FuncData
  f__law_stretches : Addr
  d__law_stretches : FuncData
  f__law_hours : Addr
  d__law_hours : FuncData
  f__law_refused : Addr
  d__law_refused : FuncData
  f_law : Addr
  d_law : FuncData
  F_line : FunD K "line" "line" (defArgs s_line) (defBody s_line) (defScope s_line) [] [] f_line d_line
  g_line : mg "line" = some (.ref f_line)
  F_below : FunD K "below" "below" (defArgs s_below) (defBody s_below) (defScope s_below) [] [] f_below d_below
  g_below : mg "below" = some (.ref f_below)
  F_is_name : FunD K "is_name" "is_name" (defArgs s_is_name) (defBody s_is_name) (defScope s_is_name) [] [] f_is_name d_is_name
  g_is_name : mg "is_name" = some (.ref f_is_name)
  F_check_names : FunD K "check_names" "check_names" (defArgs s_check_names) (defBody s_check_names) (defScope s_check_names) [] [] f_check_names d_check_names
  g_check_names : mg "check_names" = some (.ref f_check_names)
  F_frozen : FunD K "frozen" "frozen" (defArgs s_frozen) (defBody s_frozen) (defScope s_frozen) [] [] f_frozen d_frozen
  g_frozen : mg "frozen" = some (.ref f_frozen)
  F_check_areas : FunD K "check_areas" "check_areas" (defArgs s_check_areas) (defBody s_check_areas) (defScope s_check_areas) [] [] f_check_areas d_check_areas
  g_check_areas : mg "check_areas" = some (.ref f_check_areas)
  F_are_limits : FunD K "are_limits" "are_limits" (defArgs s_are_limits) (defBody s_are_limits) (defScope s_are_limits) [] [] f_are_limits d_are_limits
  g_are_limits : mg "are_limits" = some (.ref f_are_limits)
  F_check_gauges : FunD K "check_gauges" "check_gauges" (defArgs s_check_gauges) (defBody s_check_gauges) (defScope s_check_gauges) [] [] f_check_gauges d_check_gauges
  g_check_gauges : mg "check_gauges" = some (.ref f_check_gauges)
  F_are_readings : FunD K "are_readings" "are_readings" (defArgs s_are_readings) (defBody s_are_readings) (defScope s_are_readings) [] [] f_are_readings d_are_readings
  g_are_readings : mg "are_readings" = some (.ref f_are_readings)
  F_check_runs : FunD K "check_runs" "check_runs" (defArgs s_check_runs) (defBody s_check_runs) (defScope s_check_runs) [] [] f_check_runs d_check_runs
  g_check_runs : mg "check_runs" = some (.ref f_check_runs)
  F_World_init : FunD K "__init__" "World.__init__" (defArgs s_World_init) (defBody s_World_init) (defScope s_World_init) [] [] f_World_init d_World_init
  F_parents_of : FunD K "parents_of" "parents_of" (defArgs s_parents_of) (defBody s_parents_of) (defScope s_parents_of) [] [] f_parents_of d_parents_of
  g_parents_of : mg "parents_of" = some (.ref f_parents_of)
  F_level_of : FunD K "level_of" "level_of" (defArgs s_level_of) (defBody s_level_of) (defScope s_level_of) [] [] f_level_of d_level_of
  g_level_of : mg "level_of" = some (.ref f_level_of)
  F_gauges_under : FunD K "gauges_under" "gauges_under" (defArgs s_gauges_under) (defBody s_gauges_under) (defScope s_gauges_under) [] [] f_gauges_under d_gauges_under
  g_gauges_under : mg "gauges_under" = some (.ref f_gauges_under)
  F_highest_level : FunD K "highest_level" "highest_level" (defArgs s_highest_level) (defBody s_highest_level) (defScope s_highest_level) [] [] f_highest_level d_highest_level
  g_highest_level : mg "highest_level" = some (.ref f_highest_level)
  F_reached : FunD K "reached" "reached" (defArgs s_reached) (defBody s_reached) (defScope s_reached) [] [] f_reached d_reached
  g_reached : mg "reached" = some (.ref f_reached)
  F_reached_row : FunD K "reached_row" "reached_row" (defArgs s_reached_row) (defBody s_reached_row) (defScope s_reached_row) [] [] f_reached_row d_reached_row
  g_reached_row : mg "reached_row" = some (.ref f_reached_row)
  F_stretches_from : FunD K "stretches_from" "stretches_from" (defArgs s_stretches_from) (defBody s_stretches_from) (defScope s_stretches_from) [] [] f_stretches_from d_stretches_from
  g_stretches_from : mg "stretches_from" = some (.ref f_stretches_from)
  F_stretches : FunD K "stretches" "stretches" (defArgs s_stretches) (defBody s_stretches) (defScope s_stretches) [] [] f_stretches d_stretches
  g_stretches : mg "stretches" = some (.ref f_stretches)
  F_events : FunD K "events" "events" (defArgs s_events) (defBody s_events) (defScope s_events) [] [] f_events d_events
  g_events : mg "events" = some (.ref f_events)
  F_hour_tally : FunD K "hour_tally" "hour_tally" (defArgs s_hour_tally) (defBody s_hour_tally) (defScope s_hour_tally) [] [] f_hour_tally d_hour_tally
  g_hour_tally : mg "hour_tally" = some (.ref f_hour_tally)
  F__law_mix : FunD K "_law_mix" "_law_mix" (defArgs s__law_mix) (defBody s__law_mix) (defScope s__law_mix) [] [] f__law_mix d__law_mix
  g__law_mix : mg "_law_mix" = some (.ref f__law_mix)
  F__law_pool : FunD K "_law_pool" "_law_pool" (defArgs s__law_pool) (defBody s__law_pool) (defScope s__law_pool) [] [] f__law_pool d__law_pool
  g__law_pool : mg "_law_pool" = some (.ref f__law_pool)
  F__law_fill : FunD K "_law_fill" "_law_fill" (defArgs s__law_fill) (defBody s__law_fill) (defScope s__law_fill) [] [] f__law_fill d__law_fill
  g__law_fill : mg "_law_fill" = some (.ref f__law_fill)
  F__law_take : FunD K "_law_take" "_law_take" (defArgs s__law_take) (defBody s__law_take) (defScope s__law_take) [] [] f__law_take d__law_take
  g__law_take : mg "_law_take" = some (.ref f__law_take)
  F__law_from : FunD K "_law_from" "_law_from" (defArgs s__law_from) (defBody s__law_from) (defScope s__law_from) [] [] f__law_from d__law_from
  g__law_from : mg "_law_from" = some (.ref f__law_from)
  F__law_name : FunD K "_law_name" "_law_name" (defArgs s__law_name) (defBody s__law_name) (defScope s__law_name) [] [] f__law_name d__law_name
  g__law_name : mg "_law_name" = some (.ref f__law_name)
  F__law_names : FunD K "_law_names" "_law_names" (defArgs s__law_names) (defBody s__law_names) (defScope s__law_names) [] [] f__law_names d__law_names
  g__law_names : mg "_law_names" = some (.ref f__law_names)
  F__law_areas : FunD K "_law_areas" "_law_areas" (defArgs s__law_areas) (defBody s__law_areas) (defScope s__law_areas) [] [] f__law_areas d__law_areas
  g__law_areas : mg "_law_areas" = some (.ref f__law_areas)
  F__law_limits : FunD K "_law_limits" "_law_limits" (defArgs s__law_limits) (defBody s__law_limits) (defScope s__law_limits) [] [] f__law_limits d__law_limits
  g__law_limits : mg "_law_limits" = some (.ref f__law_limits)
  F__law_reading : FunD K "_law_reading" "_law_reading" (defArgs s__law_reading) (defBody s__law_reading) (defScope s__law_reading) [] [] f__law_reading d__law_reading
  g__law_reading : mg "_law_reading" = some (.ref f__law_reading)
  F__law_run_rows : FunD K "_law_run_rows" "_law_run_rows" (defArgs s__law_run_rows) (defBody s__law_run_rows) (defScope s__law_run_rows) [] [] f__law_run_rows d__law_run_rows
  g__law_run_rows : mg "_law_run_rows" = some (.ref f__law_run_rows)
  F__law_data : FunD K "_law_data" "_law_data" (defArgs s__law_data) (defBody s__law_data) (defScope s__law_data) [] [] f__law_data d__law_data
  g__law_data : mg "_law_data" = some (.ref f__law_data)
  F__law_line : FunD K "_law_line" "_law_line" (defArgs s__law_line) (defBody s__law_line) (defScope s__law_line) [] [] f__law_line d__law_line
  g__law_line : mg "_law_line" = some (.ref f__law_line)
  F__law_reached : FunD K "_law_reached" "_law_reached" (defArgs s__law_reached) (defBody s__law_reached) (defScope s__law_reached) [] [] f__law_reached d__law_reached
  g__law_reached : mg "_law_reached" = some (.ref f__law_reached)
  F__law_is_int : FunD K "_law_is_int" "_law_is_int" (defArgs s__law_is_int) (defBody s__law_is_int) (defScope s__law_is_int) [] [] f__law_is_int d__law_is_int
  g__law_is_int : mg "_law_is_int" = some (.ref f__law_is_int)
  F__law_same_tuples : FunD K "_law_same_tuples" "_law_same_tuples" (defArgs s__law_same_tuples) (defBody s__law_same_tuples) (defScope s__law_same_tuples) [] [] f__law_same_tuples d__law_same_tuples
  g__law_same_tuples : mg "_law_same_tuples" = some (.ref f__law_same_tuples)
  F__law_levels : FunD K "_law_levels" "_law_levels" (defArgs s__law_levels) (defBody s__law_levels) (defScope s__law_levels) [] [] f__law_levels d__law_levels
  g__law_levels : mg "_law_levels" = some (.ref f__law_levels)
  F__law_stretches : FunD K "_law_stretches" "_law_stretches" (defArgs s__law_stretches) (defBody s__law_stretches) (defScope s__law_stretches) [] [] f__law_stretches d__law_stretches
  g__law_stretches : mg "_law_stretches" = some (.ref f__law_stretches)
  F__law_hours : FunD K "_law_hours" "_law_hours" (defArgs s__law_hours) (defBody s__law_hours) (defScope s__law_hours) [] [] f__law_hours d__law_hours
  g__law_hours : mg "_law_hours" = some (.ref f__law_hours)
  F__law_refused : FunD K "_law_refused" "_law_refused" (defArgs s__law_refused) (defBody s__law_refused) (defScope s__law_refused) [] [] f__law_refused d__law_refused
  g__law_refused : mg "_law_refused" = some (.ref f__law_refused)
  F_law : FunD K "law" "law" (defArgs s_law) (defBody s_law) (defScope s_law) [] [] f_law d_law
  g_law : mg "law" = some (.ref f_law)
  gb_ValueError : mg "ValueError" = none
  gb_bool : mg "bool" = none
  gb_enumerate : mg "enumerate" = none
  gb_int : mg "int" = none
  gb_isinstance : mg "isinstance" = none
  gb_len : mg "len" = none
  gb_list : mg "list" = none
  gb_max : mg "max" = none
  gb_range : mg "range" = none
  gb_tuple : mg "tuple" = none
  gi_HIGHEST : ∃ t, mg "HIGHEST" = some (.int (9999) t)
  gi_LONGEST : ∃ t, mg "LONGEST" = some (.int (12) t)
  gi_LOWEST : ∃ t, mg "LOWEST" = some (.int (-999) t)
  gi_MOST_AREAS : ∃ t, mg "MOST_AREAS" = some (.int (6) t)
  gi_MOST_GAUGES : ∃ t, mg "MOST_GAUGES" = some (.int (6) t)
  gi_MOST_HOURS : ∃ t, mg "MOST_HOURS" = some (.int (24) t)
  gi_MOST_RUNS : ∃ t, mg "MOST_RUNS" = some (.int (6) t)
  gi_MOST_TOP : ∃ t, mg "MOST_TOP" = some (.int (4) t)
  gi_MOST_WEIGHT : ∃ t, mg "MOST_WEIGHT" = some (.int (1000) t)
  c_World : Cls K (He.ga K "World")
  n_World_areas : NoAttr K (He.ga K "World") "areas"
  n_World_gauges : NoAttr K (He.ga K "World") "gauges"
  n_World_hours : NoAttr K (He.ga K "World") "hours"
  n_World_runs : NoAttr K (He.ga K "World") "runs"
  n_World_top : NoAttr K (He.ga K "World") "top"
  mk_World : Mk K (He.ga K "World") f_World_init
  g_World : mg "World" = some (.ref (He.ga K "World"))
  gs_LETTERS : ∃ t, mg "LETTERS" = some (.str "abcdefghijklmnopqrstuvwxyz" t)
  f_err : Addr
  d_err : FuncData
  F_err : ErrF K s_err f_err d_err
  xs : ∀ c, knE c = true → ErrC K mg f_err c
  ki : ∀ c b, knE c = true → knE b = true → PySem.W.kitOne K (.ref (He.ga K c.name)) (.ref (He.ga K b.name)) = some (isaE c b)
  ex : ∀ c b, knE c = true → knE b = true → PySem.W.exmOne K (.ref (He.ga K c.name)) (.ref (He.ga K b.name)) = some (isaE c b)
noncomputable section
variable {P : Program} {w : World} {K : PySem.W.Frag} {mg : Str → Option Value} {base : Heap}
theorem sc_err : FnScope ["self", "at"] ["self", "at"] (defScope s_err) := ⟨rfl, rfl, rfl, by decide +kernel, rfl, by decide +kernel, by decide +kernel⟩
theorem bind_err {K : PySem.W.Frag} {mg : Str → Option Value} {T : Tx K mg} : Binds K T.d_err ["self", "at"] [] := by
  obtain ⟨ds, h1, h2⟩ := FunD.binds1 T.F_err (ps := ["self", "at"]) 2 1 (by decide) rfl fun _ _ _ _ _ _ _ us its hu hi => match us, its, hu, hi with | [_, _], [_], _, _ => ⟨_, rfl, rfl⟩
  cases h1
  exact h2
theorem ok_err (T : Tx K mg) : FnOk P w K mg base (L2.CX P w) 1 T.f_err T.d_err ["self", "at"] (spInit K) := by
  refine T.F_err.ok sc_err (fun vs H Q E h => ?_) (fun cdv A outer s H vs Q E hr h => ?_)
  · obtain ⟨a, C, i, rfl, _⟩ := h
    rfl
  · obtain ⟨a, C, i, rfl, ho, hn, ha, hq⟩ := h
    exact ⟨_, pss_cons (ps_ost (pv 0) (pv 1)) pss_nil, _, rfl, _, rfl, a, C, rfl, ho, hn, .inl ⟨ha, fun dx h1 h2 => hq dx h1 h2⟩⟩
def m_line (ar_parents : (List Int)) (ar_k : Int) : Res (List Int) :=
  ((consR (Res.ok ar_k) (Res.ok [])).bind fun (result_1 : (List Int)) => ((whileF (fun (z_16 : (Int × (List Int))) => (bin rGe (bin ix (Res.ok ar_parents) (Res.ok z_16.1)) (Res.ok (0 : Int)))) (fun (z_16 : (Int × (List Int))) => ((bin ix (Res.ok ar_parents) (Res.ok z_16.1)).bind fun (k_32 : Int) => (((Res.ok k_32).bind fun x => push z_16.2 x).bind fun (result_39 : (List Int)) => (Res.ok (Out.nx (k_32, result_39)))))) fuel (ar_k, result_1)).bind fun (o : Out (Int × (List Int)) (List Int)) => match o with | .nx z_56 => (Res.ok z_56.2) | .br _ => Res.bad | .rt r => Res.ok r))
abbrev N_line : List Str := ["parents", "k", "result"]
theorem sc_line : FnScope N_line ["parents", "k"] (defScope s_line) := ⟨rfl, rfl, rfl, by decide +kernel, rfl, by decide +kernel, by decide +kernel⟩
theorem bind_line {K : PySem.W.Frag} {mg : Str → Option Value} {T : Tx K mg} : Binds K T.d_line ["parents", "k"] [] := FunD.bindsN T.F_line fun _ _ _ _ _ _ us hl => match us, hl with | [_, _], _ => rfl
abbrev sp_line (K : PySem.W.Frag) : Sp := spO K (tc (pL pI) (t1 pI)) (fun (p : ((List Int) × Int)) => m_line p.1 p.2) pI
theorem ok_line (T : Tx K mg) : FnOk P w K mg base (L2.CX P w) 1 T.f_line T.d_line ["parents", "k"] (sp_line K) := by
  refine T.F_line.ok sc_line (fun vs H Q E h => ?_) (fun cdv A outer s H vs Q E hr h => ?_)
  · obtain ⟨I, C, a, _, hr, _⟩ := h
    exact Rt.len _ hr
  · obtain ⟨I0, C0, ⟨ar_parents, ar_k⟩, hs, ⟨v_parents, us0, rfl, r_parents, v_k, rfl, r_k⟩, hm⟩ := h
    have hm : Post (m_line ar_parents ar_k) (PN pI I0 C0 Q) (PX E K I0 C0) := hm
    replace r_parents : Rp.r (pL pI) ar_parents v_parents I0 Z := Im.im r_parents
    replace r_k : Rp.r pI ar_k v_k I0 Z := Im.im r_k
    unfold m_line at hm
    refine ⟨_, (pss_cons (ps_set (i := 2) sc_line.nd rfl (Or.inl rfl) (pe_lst (pa_cons (pv 1) pa_nil))) (pss_cons (ps_while (passes_of rfl) (pt_cmpR op_ge (pe_ix (r := rIxL K) ix_list (pv 0) (pv 1) (fun _ _ => rfl)) pe_int (nomark _)) (pss_cons (ps_set (i := 1) sc_line.nd rfl (Or.inl rfl) (pe_ix (r := rIxL K) ix_list (pv 0) (pv 1) (fun _ _ => rfl))) (pss_cons (ps_expr (show PE _ _ (tBM K "list" rAppend _ _) from pe_bm PySem.F.plainAttrs_list PySem.F.slot_list_append PySem.F.type_list_append mt_append (pv 2) (pa_cons (pv 1) pa_nil))) pss_nil))) (pss_cons (ps_ret (pv 2)) pss_nil))), ?_⟩
    refine q_asgN (E := E) (K := K) (σ := [some v_parents, some v_k, none]) (i := 2) (n_lst (al_cons (x_var (i := 1) rfl (Rp.mono _ (Ex.refl _) exz r_k)) al_nil) (Nat.le_of_ble_eq_true rfl)) hs (fun _ _ h => PX.mono (Ex.refl _) (Ex.refl _) h) hm fun result_1 p_2 vs_3 I_4 C_5 H_6 e_7 hp_8 s_9 hc_10 k_11 hl_12 hr_13 hm => ?_
    have hB_14 := Ex.free (Ex.refl _) hp_8
    have fr_15 := fr_keep (Ex.refl _) hB_14 k_11
    refine s_while (E := E) (K := K) (σ := [some v_parents, some v_k, some (.ref p_2)]) (fun (z_16 : (Int × (List Int))) σ2 I_18 C_19 => ∃ v_20 : V, σ2 = [some v_parents, some v_20, some (.ref p_2)] ∧ Rp.r pI z_16.1 v_20 I_18 Z ∧ (∃ vs_22 : List V, C_19 p_2 = some (.lst vs_22) ∧ vs_22.length ≤ sizeLine ∧ A2 (fun x u => Rp.r pI x u I_18 Z) z_16.2 vs_22) ∧ Ex C0 C_19) s_9 hm ⟨v_k, rfl, Rp.mono _ e_7 exz r_k, ⟨_, hc_10, hl_12, a2up (Ex.refl _) hr_13⟩, fr_15⟩ (fun z_16 σ2 I_27 C_28 e_30 ⟨v_20, hs_17, r_21, ⟨vs_22, hc_23, hl_24, hr_25⟩, fr_26⟩ => by subst hs_17; exact ⟨(t_test (x_op o_ge (x_op o_ix (x_v (x_var (i := 0) rfl (Rp.mono _ (e_7.trans e_30) exz r_parents))) (x_var (i := 1) rfl (Rp.mono _ (Ex.refl _) exz r_21))) (x_int (i := 0)))), (fun _ _ h => PX.mono (e_7.trans e_30) fr_26 h)⟩) (fun _ _ _ _ _ e ⟨v_20, hs_17, r_21, ⟨vs_22, hc_23, hl_24, hr_25⟩, fr_26⟩ => ⟨v_20, hs_17, Rp.mono _ e exz r_21, ⟨vs_22, hc_23, hl_24, a2up e hr_25⟩, fr_26⟩) (fun N z_16 σ2 I_27 C_28 H_29 e_30 s_31 ⟨v_20, hs_17, r_21, ⟨vs_22, hc_23, hl_24, hr_25⟩, fr_26⟩ hm => ?_) (fun z_56 σ2 I_51 C_52 H_53 e_54 s_55 ⟨v_60, hs_57, r_61, ⟨vs_62, hc_63, hl_64, hr_65⟩, fr_66⟩ hm => ?_)
    · subst hs_17
      refine q_asg (E := E) (K := K) (σ := [some v_parents, some v_20, some (.ref p_2)]) (i := 1) (x_op o_ix (x_v (x_var (i := 0) rfl (Rp.mono _ (e_7.trans e_30) exz r_parents))) (x_var (i := 1) rfl (Rp.mono _ (Ex.refl _) exz r_21))) s_31 (fun _ _ h => PX.mono (e_7.trans e_30) fr_26 h) hm fun k_32 v_33 I_34 H_35 e_36 s_37 r_38 hm => ?_
      refine q_app (E := E) (K := K) (σ := [some v_parents, some v_33, some (.ref p_2)]) (i := 2) rfl hc_23 (a2up e_36 hr_25) (x_var (i := 1) rfl (Rp.mono _ (Ex.refl _) exz r_38)) s_37 (fun _ _ h => PX.mono (e_7.trans (e_30.trans e_36)) fr_26 h) hm fun result_39 vs_40 I_41 C_42 H_43 e_44 s_45 hc_46 k_47 hl_48 hr_49 hm => ?_
      have fr_50 := fr_keep fr_26 hB_14 k_47
      exact hm _ _ _ _ (e_36.trans e_44) s_45 ⟨v_33, rfl, Rp.mono _ e_44 exz r_38, ⟨_, hc_46, hl_48, a2up (Ex.refl _) hr_49⟩, fr_50⟩
    subst hs_57
    refine q_retO (i := 2) rfl s_55 fr_66 hB_14 hc_63 hl_64 (a2up (Ex.refl _) hr_65) fun s hr => ?_
    exact hm _ _ _ _ (e_7.trans e_54) hB_14 s hl_64 hr
def m_below (ar_parents : (List Int)) (ar_k : Int) : Res (List Int) :=
  (((un rng1 (un rLen (Res.ok ar_parents))).bind (filR (fun (x_1 : Int) => (bin inR (Res.ok ar_k) (un (fun (p : ((List Int) × Int)) => m_line p.1 p.2) (pair (Res.ok ar_parents) (Res.ok x_1))))) (fun (x_1 : Int) => (Res.ok x_1)))).bind fun a_8 => Res.ok a_8)
abbrev N_below : List Str := ["parents", "k", "other"]
theorem sc_below : FnScope N_below ["parents", "k"] (defScope s_below) := ⟨rfl, rfl, rfl, by decide +kernel, rfl, by decide +kernel, by decide +kernel⟩
theorem bind_below {K : PySem.W.Frag} {mg : Str → Option Value} {T : Tx K mg} : Binds K T.d_below ["parents", "k"] [] := FunD.bindsN T.F_below fun _ _ _ _ _ _ us hl => match us, hl with | [_, _], _ => rfl
abbrev sp_below (K : PySem.W.Frag) : Sp := spP K (tc (pL pI) (t1 pI)) (fun (p : ((List Int) × Int)) => m_below p.1 p.2) (pL pI)
theorem ok_below (T : Tx K mg) : FnOk P w K mg base (L2.CX P w) 2 T.f_below T.d_below ["parents", "k"] (sp_below K) := by
  refine T.F_below.ok sc_below (fun vs H Q E h => ?_) (fun cdv A outer s H vs Q E hr h => ?_)
  · obtain ⟨I, C, a, _, hr, _⟩ := h
    exact Rt.len _ hr
  · obtain ⟨I0, C0, ⟨ar_parents, ar_k⟩, hs, ⟨v_parents, us0, rfl, r_parents, v_k, rfl, r_k⟩, hm⟩ := h
    have hm : Post (m_below ar_parents ar_k) (PQ (pL pI) I0 C0 Q) (PX E K I0 C0) := hm
    replace r_parents : Rp.r (pL pI) ar_parents v_parents I0 Z := Im.im r_parents
    replace r_k : Rp.r pI ar_k v_k I0 Z := Im.im r_k
    unfold m_below at hm
    refine ⟨_, (pss_cons (ps_ret (pe_lc (own := [("other", 2)]) rfl sc_below.nd (pi_range1 (by rfl) T.gb_range (pa_cons (pe_callB (r := rLen1 K) call_len_seq (by rfl) T.gb_len bt_len (pa_cons (pv 0) pa_nil)) pa_nil)) (blkOk_by (own := [("other", 2)]) (N := N_below) (sc := defScope s_below) (by decide +kernel)) (fun _ _ _ _ _ => (pg_name (i := 2) sc_below.nd rfl (Or.inl rfl))) (fun _ _ _ _ _ => (pts_one (pt_cmpR (r := rIn K false) op_in_seq (pv 1) (pe_call (ok_line T) (hr.mono (by decide)) rfl T.g_line T.F_line.kp bind_line .nil passL (pa_cons (pv 0) (pa_cons (pv 2) pa_nil))) rfl))) (fun _ _ _ _ _ => (pv 2)))) pss_nil), ?_⟩
    refine q_ret (tz := tNext) (E := E) (K := K) (σ := [some v_parents, some v_k, none]) (x_lcg (i_rng1 (a_one (x_cb o_len (a_one (x_v (x_var (i := 0) rfl (Rp.mono _ (Ex.refl _) exz r_parents))))))) g1 (fun _ _ _ _ ⟨_, h, _⟩ => by rw [h]; rfl) (fun x_1 σ2 I_2 C_3 e_4 c_5 ⟨v_6, h, r_7⟩ => by subst h; exact (t_test (x_op (o_in fl_int) (x_var (i := 1) rfl (Rp.mono _ e_4 exz r_k)) (x_v (x_own (n_call (a_cons (x_var (i := 0) rfl (Rp.mono _ e_4 exz r_parents)) (a_one (x_var (i := 2) rfl (Rp.mono _ (Ex.refl _) exz r_7)))))))))) (fun x_1 σ2 I_2 C_3 e_4 c_5 ⟨v_6, h, r_7⟩ => by subst h; exact (x_var (i := 2) rfl (Rp.mono _ (Ex.refl _) exz r_7))) (fun _ _ _ _ _ e ⟨v_6, h, r_7⟩ => ⟨v_6, h, Rp.mono _ e exz r_7⟩)) hs (fun _ _ h => PX.mono (Ex.refl _) (Ex.refl _) h) hm fun a_8 v_9 I_10 H_11 e_12 s_13 r_14 hm => ?_
    exact hm v_9 I_10 H_11 e_12 (St.less s_13 (Ex.refl _)) (Im.im r_14)
def m_is_name (ar_word : Str) : Res Bool :=
  (ifR (orR (bin rLt (un rLenS (Res.ok ar_word)) (Res.ok (1 : Int))) (bin rGt (un rLenS (Res.ok ar_word)) (Res.ok (12 : Int)))) ((Res.ok false).bind fun a_9 => Res.ok a_9) (((un signsR (Res.ok ar_word)).bind fun xs => loopR (fun (x_22 : Str) (z_16 : Unit) => (ifR (bin ninC (Res.ok x_22) (Res.ok ("abcdefghijklmnopqrstuvwxyz" : Str))) ((Res.ok false).bind fun a_42 => Res.ok (Out.rt a_42)) (Res.ok (Out.nx ())))) xs ()).bind fun (o : Out Unit Bool) => match o with | .nx z_54 => ((Res.ok true).bind fun a_60 => Res.ok a_60) | .br _ => Res.bad | .rt r => Res.ok r))
abbrev N_is_name : List Str := ["word", "char"]
theorem sc_is_name : FnScope N_is_name ["word"] (defScope s_is_name) := ⟨rfl, rfl, rfl, by decide +kernel, rfl, by decide +kernel, by decide +kernel⟩
theorem bind_is_name {K : PySem.W.Frag} {mg : Str → Option Value} {T : Tx K mg} : Binds K T.d_is_name ["word"] [] := FunD.bindsN T.F_is_name fun _ _ _ _ _ _ us hl => match us, hl with | [_], _ => rfl
abbrev sp_is_name (K : PySem.W.Frag) : Sp := spP K (t1 pS) m_is_name pB
theorem ok_is_name (T : Tx K mg) : FnOk P w K mg base (L2.CX P w) 1 T.f_is_name T.d_is_name ["word"] (sp_is_name K) := by
  refine T.F_is_name.ok sc_is_name (fun vs H Q E h => ?_) (fun cdv A outer s H vs Q E hr h => ?_)
  · obtain ⟨I, C, a, _, hr, _⟩ := h
    exact Rt.len _ hr
  · obtain ⟨I0, C0, ar_word, hs, ⟨v_word, rfl, r_word⟩, hm⟩ := h
    have hm : Post (m_is_name ar_word) (PQ pB I0 C0 Q) (PX E K I0 C0) := hm
    replace r_word : Rp.r pS ar_word v_word I0 Z := Im.im r_word
    unfold m_is_name at hm
    refine ⟨_, (pss_cons (ps_if (PW.pt (pw_or (pt_cmpR op_lt (pe_callB (r := rLenS1) call_len_str (by rfl) T.gb_len bt_len (pa_cons (pv 0) pa_nil)) pe_int (nomark _)) (pw_or1 (pt_cmpR op_gt (pe_callB (r := rLenS1) call_len_str (by rfl) T.gb_len bt_len (pa_cons (pv 0) pa_nil)) (pe_glob (v := .int (12)) rfl T.gi_LONGEST.choose_spec ⟨_, rfl⟩) (nomark _))))) (pss_cons (ps_ret pe_bl) pss_nil) pss_nil) (pss_cons (ps_for (passes_of rfl) rfl (show PI _ _ _ (iStr _) from pi_str (pv 0)) (pg_name (i := 1) sc_is_name.nd rfl (Or.inl rfl)) (pss_cons (ps_if (pt_cmpR (r := rOneNin) op_notIn_sign (pv 1) (pe_glob (v := .str "abcdefghijklmnopqrstuvwxyz") rfl T.gs_LETTERS.choose_spec ⟨_, rfl⟩) rfl) (pss_cons (ps_ret pe_bl) pss_nil) pss_nil) pss_nil)) (pss_cons (ps_ret pe_bl) pss_nil))), ?_⟩
    refine s_if (E := E) (K := K) (σ := [some v_word, none]) (t_or (t_test (x_op o_lt (x_cb o_lenS (a_one (x_var (i := 0) rfl (Rp.mono _ (Ex.refl _) exz r_word)))) (x_int (i := 1)))) (t_test (x_op o_gt (x_cb o_lenS (a_one (x_var (i := 0) rfl (Rp.mono _ (Ex.refl _) exz r_word)))) (x_int (i := 12))))) hs (fun _ _ h => PX.mono (Ex.refl _) (Ex.refl _) h) hm (fun I_1 H_2 e_3 s_4 hm => ?_) (fun I_5 H_6 e_7 s_8 hm => ?_)
    · refine q_ret (tz := tNext) (E := E) (K := K) (σ := [some v_word, none]) x_bl s_4 (fun _ _ h => PX.mono e_3 (Ex.refl _) h) hm fun a_9 v_10 I_11 H_12 e_13 s_14 r_15 hm => ?_
      exact hm v_10 I_11 H_12 (e_3.trans e_13) (St.less s_14 (Ex.refl _)) (Im.im r_15)
    · refine s_forR (E := E) (K := K) (σ := [some v_word, none]) (fun (z_16 : Unit) σ2 I_19 C_20 => ∃ w_18 : Option V, σ2 = [some v_word, w_18] ∧ Ex C0 C_20) (i_str (x_var (i := 0) rfl (Rp.mono _ e_7 exz r_word))) s_8 (fun _ _ h => PX.mono e_7 (Ex.refl _) h) hm (fun _ e_30 => ⟨none, rfl, (Ex.refl _)⟩) (fun _ _ _ _ _ => trivial) (fun _ _ _ _ _ e ⟨w_18, hs_17, fr_21⟩ => ⟨w_18, hs_17, fr_21⟩) (fun N x_22 v_23 z_16 σ2 I_24 C_25 H_26 e_27 s_28 ⟨w_18, hs_17, fr_21⟩ r_29 hm => ?_) (fun z_54 σ2 I_49 C_50 H_51 e_52 s_53 ⟨w_56, hs_55, fr_59⟩ hm => ?_)
      · subst hs_17
        refine g1 (K := K) x_22 v_23 I_24 C_25 H_26 _ s_28 r_29 fun σ2 ⟨v_31, hs_33, r_32⟩ => ?_
        subst hs_33
        refine s_if (E := E) (K := K) (σ := [some v_word, some v_31]) (t_test (x_op o_ninC (x_var (i := 1) rfl (Rp.mono _ (Ex.refl _) exz r_32)) (x_str (by decide +kernel)))) s_28 (fun _ _ h => PX.mono (e_7.trans e_27) fr_21 h) hm (fun I_34 H_35 e_36 s_37 hm => ?_) (fun I_38 H_39 e_40 s_41 hm => ?_)
        · refine q_ret (tz := tNext) (E := E) (K := K) (σ := [some v_word, some v_31]) x_bl s_37 (fun _ _ h => PX.mono (e_7.trans (e_27.trans e_36)) fr_21 h) hm fun a_42 v_43 I_44 H_45 e_46 s_47 r_48 hm => ?_
          exact hm v_43 I_44 H_45 (e_7.trans (e_27.trans (e_36.trans e_46))) (St.less s_47 fr_21) (Im.im r_48)
        · exact hm _ _ _ _ e_40 s_41 ⟨some v_31, rfl, fr_21⟩
      subst hs_55
      refine q_ret (tz := tNext) (E := E) (K := K) (σ := [some v_word, w_56]) x_bl s_53 (fun _ _ h => PX.mono (e_7.trans e_52) fr_59 h) hm fun a_60 v_61 I_62 H_63 e_64 s_65 r_66 hm => ?_
      exact hm v_61 I_62 H_63 (e_7.trans (e_52.trans e_64)) (St.less s_65 fr_59) (Im.im r_66)
def m_check_names (ar_names : (List Str)) (ar_most : Int) : Res Unit :=
  (ifR (bin rGt (un rLen (Res.ok ar_names)) (Res.ok ar_most)) ((Res.ok ar_most).bind fun i => Res.exc .TooMany i) (((un enumR (Res.ok ar_names)).bind fun xs => loopN (fun (x_16 : (Int × Str)) (z_9 : Unit) => (ifR (orR (un notR (un m_is_name (Res.ok x_16.2))) (bin inR (Res.ok x_16.2) (slR (Res.ok ar_names) (Res.ok none) (someR (Res.ok x_16.1))))) ((Res.ok x_16.1).bind fun i => Res.exc .BadName i) (Res.ok ()))) xs ()).bind fun (z_43 : Unit) => (Res.ok ())))
abbrev N_check_names : List Str := ["names", "most", "k", "name"]
theorem sc_check_names : FnScope N_check_names ["names", "most"] (defScope s_check_names) := ⟨rfl, rfl, rfl, by decide +kernel, rfl, by decide +kernel, by decide +kernel⟩
theorem bind_check_names {K : PySem.W.Frag} {mg : Str → Option Value} {T : Tx K mg} : Binds K T.d_check_names ["names", "most"] [] := FunD.bindsN T.F_check_names fun _ _ _ _ _ _ us hl => match us, hl with | [_, _], _ => rfl
abbrev sp_check_names (K : PySem.W.Frag) : Sp := spP K (tc (pL pS) (t1 pI)) (fun (p : ((List Str) × Int)) => m_check_names p.1 p.2) pN
theorem ok_check_names (T : Tx K mg) : FnOk P w K mg base (L2.CX P w) 3 T.f_check_names T.d_check_names ["names", "most"] (sp_check_names K) := by
  refine T.F_check_names.ok sc_check_names (fun vs H Q E h => ?_) (fun cdv A outer s H vs Q E hr h => ?_)
  · obtain ⟨I, C, a, _, hr, _⟩ := h
    exact Rt.len _ hr
  · obtain ⟨I0, C0, ⟨ar_names, ar_most⟩, hs, ⟨v_names, us0, rfl, r_names, v_most, rfl, r_most⟩, hm⟩ := h
    have hm : Post (m_check_names ar_names ar_most) (PQ pN I0 C0 Q) (PX E K I0 C0) := hm
    replace r_names : Rp.r (pL pS) ar_names v_names I0 Z := Im.im r_names
    replace r_most : Rp.r pI ar_most v_most I0 Z := Im.im r_most
    unfold m_check_names at hm
    refine ⟨_, (pss_cons (ps_if (pt_cmpR op_gt (pe_callB (r := rLen1 K) call_len_seq (by rfl) T.gb_len bt_len (pa_cons (pv 0) pa_nil)) (pv 1) (nomark _)) (pss_cons (ps_raise rfl (takes_of rfl rfl rfl rfl) (pmk_oex (T.xs .TooMany (by decide)).o (T.xs .TooMany (by decide)).ic (T.xs .TooMany (by decide)).ti (ok_err T) (hr.mono (by decide)) bind_err .nil passL rfl (T.xs .TooMany (by decide)).g (pa_cons (pv 1) pa_nil))) pss_nil) pss_nil) (pss_cons (ps_for (passes_of rfl) rfl (show PI _ _ _ (iEnum K _) from pi_enum (by rfl) T.gb_enumerate (pa_cons (pv 0) pa_nil)) (show PG _ _ (gTup K 2 _) from pg_tup rfl (pgs_cons (pg_name (i := 2) sc_check_names.nd rfl (Or.inl rfl)) (pgs_cons (pg_name (i := 3) sc_check_names.nd rfl (Or.inl rfl)) pgs_nil))) (pss_cons (ps_if (PW.pt (pw_or (pt_not (pt_val (pe_call (ok_is_name T) (hr.mono (by decide)) rfl T.g_is_name T.F_is_name.kp bind_is_name .nil passE (pa_cons (pv 3) pa_nil)))) (pw_or1 (pt_cmpR (r := rIn K false) op_in_seq (pv 3) (pe_slice (r := rSlL K) sl_list (pv 0) po_none (po_some (pv 2))) rfl)))) (pss_cons (ps_raise rfl (takes_of rfl rfl rfl rfl) (pmk_oex (T.xs .BadName (by decide)).o (T.xs .BadName (by decide)).ic (T.xs .BadName (by decide)).ti (ok_err T) (hr.mono (by decide)) bind_err .nil passL rfl (T.xs .BadName (by decide)).g (pa_cons (pv 2) pa_nil))) pss_nil) pss_nil) pss_nil)) pss_nil)), ?_⟩
    refine s_if (E := E) (K := K) (σ := [some v_names, some v_most, none, none]) (t_test (x_op o_gt (x_cb o_len (a_one (x_v (x_var (i := 0) rfl (Rp.mono _ (Ex.refl _) exz r_names))))) (x_var (i := 1) rfl (Rp.mono _ (Ex.refl _) exz r_most)))) hs (fun _ _ h => PX.mono (Ex.refl _) (Ex.refl _) h) hm (fun I_1 H_2 e_3 s_4 hm => ?_) (fun I_5 H_6 e_7 s_8 hm => ?_)
    · exact s_raise (E := E) (K := K) (σ := [some v_names, some v_most, none, none]) (T.xs .TooMany (by decide)) (a_one (x_var (i := 1) rfl (Rp.mono _ e_3 exz r_most))) s_4 (fun _ _ h => PX.mono e_3 (Ex.refl _) h) hm
    · refine s_forN (E := E) (K := K) (σ := [some v_names, some v_most, none, none]) (fun (z_9 : Unit) σ2 I_13 C_14 => ∃ w_11 : Option V, ∃ w_12 : Option V, σ2 = [some v_names, some v_most, w_11, w_12] ∧ Ex C0 C_14) (i_enum (a_one (x_var (i := 0) rfl (Rp.mono _ e_7 exz r_names)))) s_8 (fun _ _ h => PX.mono e_7 (Ex.refl _) h) hm (fun _ e_24 => ⟨none, none, rfl, (Ex.refl _)⟩) (fun _ _ _ _ _ => trivial) (fun _ _ _ _ _ e ⟨w_11, w_12, hs_10, fr_15⟩ => ⟨w_11, w_12, hs_10, fr_15⟩) (fun N x_16 v_17 z_9 σ2 I_18 C_19 H_20 e_21 s_22 ⟨w_11, w_12, hs_10, fr_15⟩ r_23 hm => ?_) (fun z_43 σ2 I_38 C_39 H_40 e_41 s_42 ⟨w_45, w_46, hs_44, fr_49⟩ hm => ?_)
      · subst hs_10
        refine g2 (K := K) x_16 v_17 I_18 C_19 H_20 _ s_22 r_23 fun σ2 ⟨v_25, v_26, hs_29, r_27, r_28⟩ => ?_
        subst hs_29
        refine s_if (E := E) (K := K) (σ := [some v_names, some v_most, some v_25, some v_26]) (t_or (t_not (t_B (x_call (a_one (x_var (i := 3) rfl (Rp.mono _ (Ex.refl _) exz r_28)))))) (t_test (x_op (o_in fl_str) (x_var (i := 3) rfl (Rp.mono _ (Ex.refl _) exz r_28)) (x_v (x_sl (x_v (x_var (i := 0) rfl (Rp.mono _ (e_7.trans e_21) exz r_names))) p_none (p_some (x_var (i := 2) rfl (Rp.mono _ (Ex.refl _) exz r_27)))))))) s_22 (fun _ _ h => PX.mono (e_7.trans e_21) fr_15 h) hm (fun I_30 H_31 e_32 s_33 hm => ?_) (fun I_34 H_35 e_36 s_37 hm => ?_)
        · exact s_raise (E := E) (K := K) (σ := [some v_names, some v_most, some v_25, some v_26]) (T.xs .BadName (by decide)) (a_one (x_var (i := 2) rfl (Rp.mono _ e_32 exz r_27))) s_33 (fun _ _ h => PX.mono (e_7.trans (e_21.trans e_32)) fr_15 h) hm
        · exact hm _ _ _ _ e_36 s_37 ⟨some v_25, some v_26, rfl, fr_15⟩
      subst hs_44
      exact hm .non _ _ (e_7.trans e_41) (St.less s_42 fr_49) rfl
abbrev N_frozen : List Str := ["value", "part"]
theorem sc_frozen : FnScope N_frozen ["value"] (defScope s_frozen) := ⟨rfl, rfl, rfl, by decide +kernel, rfl, by decide +kernel, by decide +kernel⟩
theorem bind_frozen {K : PySem.W.Frag} {mg : Str → Option Value} {T : Tx K mg} : Binds K T.d_frozen ["value"] [] := FunD.bindsN T.F_frozen fun _ _ _ _ _ _ us hl => match us, hl with | [_], _ => rfl
theorem ok_frozen (T : Tx K mg) : ∀ n, FnOk P w K mg base (L2.CX P w) (n + 1) T.f_frozen T.d_frozen ["value"] (spP K (t1 (pDd K n)) (fun a => .ok (frz a)) pDo)
  | 0 => by
    refine T.F_frozen.ok sc_frozen (fun vs H Q E h => ?_) (fun cdv A outer s H vs Q E hr h => ?_)
    · obtain ⟨I, C, a, _, ⟨v, rfl, _⟩, _⟩ := h
      rfl
    · obtain ⟨I0, C0, a, hs, ⟨v, rfl, r, hd⟩, hm⟩ := h
      exact absurd hd (Nat.not_lt_zero _)
  | n + 1 => by
    refine T.F_frozen.ok sc_frozen (fun vs H Q E h => ?_) (fun cdv A outer s H vs Q E hr h => ?_)
    · obtain ⟨I, C, a, _, ⟨v, rfl, _⟩, _⟩ := h
      rfl
    · obtain ⟨I0, C0, a, hs, ⟨v, rfl, r, hd⟩, hm⟩ := h
      · have F := ok_frozen T n
        cases r with
        | i k => exact ⟨_, pss_cons (ps_if (pt_val (pe_callB (r := rIsiT K) call_isiT (by rfl) T.gb_isinstance bt_isinstance (pa_cons (pv 0) (pa_cons (pe_tup (pa_cons (pe_bltn (v := .ty "list") rfl T.gb_list bt_list rfl) (pa_cons (pe_bltn (v := .ty "tuple") rfl T.gb_tuple bt_tuple rfl) pa_nil))) pa_nil)))) (pss_cons (ps_ret (pe_callTy (r := rTuple1 K) call_tuple_of (by rfl) T.gb_tuple bt_tuple (pa_cons (pe_lc (own := [("part", 1)]) rfl sc_frozen.nd (show PI _ _ _ (iList K _) from pi_list (pv 0)) (blkOk_by (own := [("part", 1)]) (N := N_frozen) (sc := defScope s_frozen) (by decide +kernel)) (fun _ _ _ _ _ => (pg_name (i := 1) sc_frozen.nd rfl (Or.inl rfl))) (fun _ _ _ _ _ => pts_nil) (fun _ _ _ _ _ => (pe_call F (hr.mono (Nat.le_refl _)) rfl T.g_frozen T.F_frozen.kp bind_frozen .nil passL (pa_cons (pv 1) pa_nil)))) pa_nil))) pss_nil) pss_nil) (pss_cons (ps_ret (pv 0)) pss_nil), frz_flat (wi := iList K (tVar 0)) hs (.i k) hd rfl hm⟩
        | s x hx => exact ⟨_, pss_cons (ps_if (pt_val (pe_callB (r := rIsiT K) call_isiT (by rfl) T.gb_isinstance bt_isinstance (pa_cons (pv 0) (pa_cons (pe_tup (pa_cons (pe_bltn (v := .ty "list") rfl T.gb_list bt_list rfl) (pa_cons (pe_bltn (v := .ty "tuple") rfl T.gb_tuple bt_tuple rfl) pa_nil))) pa_nil)))) (pss_cons (ps_ret (pe_callTy (r := rTuple1 K) call_tuple_of (by rfl) T.gb_tuple bt_tuple (pa_cons (pe_lc (own := [("part", 1)]) rfl sc_frozen.nd (show PI _ _ _ (iList K _) from pi_list (pv 0)) (blkOk_by (own := [("part", 1)]) (N := N_frozen) (sc := defScope s_frozen) (by decide +kernel)) (fun _ _ _ _ _ => (pg_name (i := 1) sc_frozen.nd rfl (Or.inl rfl))) (fun _ _ _ _ _ => pts_nil) (fun _ _ _ _ _ => (pe_call F (hr.mono (Nat.le_refl _)) rfl T.g_frozen T.F_frozen.kp bind_frozen .nil passL (pa_cons (pv 1) pa_nil)))) pa_nil))) pss_nil) pss_nil) (pss_cons (ps_ret (pv 0)) pss_nil), frz_flat (wi := iList K (tVar 0)) hs (.s x hx) hd rfl hm⟩
        | @t xs b us h hl q => exact ⟨_, pss_cons (ps_if (pt_val (pe_callB (r := rIsiT K) call_isiT (by rfl) T.gb_isinstance bt_isinstance (pa_cons (pv 0) (pa_cons (pe_tup (pa_cons (pe_bltn (v := .ty "list") rfl T.gb_list bt_list rfl) (pa_cons (pe_bltn (v := .ty "tuple") rfl T.gb_tuple bt_tuple rfl) pa_nil))) pa_nil)))) (pss_cons (ps_ret (pe_callTy (r := rTuple1 K) call_tuple_of (by rfl) T.gb_tuple bt_tuple (pa_cons (pe_lc (own := [("part", 1)]) rfl sc_frozen.nd (show PI _ _ _ (iTup K _) from pi_tup (pv 0)) (blkOk_by (own := [("part", 1)]) (N := N_frozen) (sc := defScope s_frozen) (by decide +kernel)) (fun _ _ _ _ _ => (pg_name (i := 1) sc_frozen.nd rfl (Or.inl rfl))) (fun _ _ _ _ _ => pts_nil) (fun _ _ _ _ _ => (pe_call F (hr.mono (Nat.le_refl _)) rfl T.g_frozen T.F_frozen.kp bind_frozen .nil passL (pa_cons (pv 1) pa_nil)))) pa_nil))) pss_nil) pss_nil) (pss_cons (ps_ret (pv 0)) pss_nil), frz_deep hs (.t h hl q) hd rfl (by simp only [frz]) hm fun I1 e1 => i_tup (x_var (R := pQ K (pDd K n)) (i := 0) rfl ⟨b, us, rfl, ex_t e1 h, hl, frz_src (by simpa only [dep] using hd) (q.up e1)⟩)⟩
        | @l xs b us h hl q => exact ⟨_, pss_cons (ps_if (pt_val (pe_callB (r := rIsiT K) call_isiT (by rfl) T.gb_isinstance bt_isinstance (pa_cons (pv 0) (pa_cons (pe_tup (pa_cons (pe_bltn (v := .ty "list") rfl T.gb_list bt_list rfl) (pa_cons (pe_bltn (v := .ty "tuple") rfl T.gb_tuple bt_tuple rfl) pa_nil))) pa_nil)))) (pss_cons (ps_ret (pe_callTy (r := rTuple1 K) call_tuple_of (by rfl) T.gb_tuple bt_tuple (pa_cons (pe_lc (own := [("part", 1)]) rfl sc_frozen.nd (show PI _ _ _ (iList K _) from pi_list (pv 0)) (blkOk_by (own := [("part", 1)]) (N := N_frozen) (sc := defScope s_frozen) (by decide +kernel)) (fun _ _ _ _ _ => (pg_name (i := 1) sc_frozen.nd rfl (Or.inl rfl))) (fun _ _ _ _ _ => pts_nil) (fun _ _ _ _ _ => (pe_call F (hr.mono (Nat.le_refl _)) rfl T.g_frozen T.F_frozen.kp bind_frozen .nil passL (pa_cons (pv 1) pa_nil)))) pa_nil))) pss_nil) pss_nil) (pss_cons (ps_ret (pv 0)) pss_nil), frz_deep hs (.l h hl q) hd rfl (by simp only [frz]) hm fun I1 e1 => i_list (x_var (R := pL (pDd K n)) (i := 0) rfl ⟨b, us, rfl, e1 _ _ h, hl, frz_src (by simpa only [dep] using hd) (q.up e1)⟩)⟩
def m_check_areas (ar_areas : (List (Str × Int))) : Res Unit :=
  (ifR (bin rGt (un rLen (Res.ok ar_areas)) (Res.ok (6 : Int))) ((Res.ok (6 : Int)).bind fun i => Res.exc .TooMany i) (ifR (bin eqR (un rLen (Res.ok ar_areas)) (Res.ok (0 : Int))) ((Res.ok (0 : Int)).bind fun i => Res.exc .BadArea i) ((un (fun (p : ((List Str) × Int)) => m_check_names p.1 p.2) (pair ((Res.ok ar_areas).bind (mapR (fun (x_17 : (Str × Int)) => (un (fun p => Res.ok p.1) (Res.ok x_17))))) (Res.ok (6 : Int)))).bind fun (b_24 : Unit) => (((un enumR (Res.ok ar_areas)).bind fun xs => loopN (fun (x_36 : (Int × (Str × Int))) (z_29 : Unit) => (ifR (orR (bin rLt (un (fun p => Res.ok p.2) (Res.ok x_36.2)) (un rNeg (Res.ok (1 : Int)))) (bin rGe (un (fun p => Res.ok p.2) (Res.ok x_36.2)) (Res.ok x_36.1))) ((Res.ok x_36.1).bind fun i => Res.exc .BadArea i) (Res.ok ()))) xs ()).bind fun (z_63 : Unit) => (Res.ok ())))))
abbrev N_check_areas : List Str := ["areas", "k", "area"]
theorem sc_check_areas : FnScope N_check_areas ["areas"] (defScope s_check_areas) := ⟨rfl, rfl, rfl, by decide +kernel, rfl, by decide +kernel, by decide +kernel⟩
theorem bind_check_areas {K : PySem.W.Frag} {mg : Str → Option Value} {T : Tx K mg} : Binds K T.d_check_areas ["areas"] [] := FunD.bindsN T.F_check_areas fun _ _ _ _ _ _ us hl => match us, hl with | [_], _ => rfl
abbrev sp_check_areas (K : PySem.W.Frag) : Sp := spP K (t1 (pL (pT (tc pS (t1 pI))))) m_check_areas pN
theorem ok_check_areas (T : Tx K mg) : FnOk P w K mg base (L2.CX P w) 4 T.f_check_areas T.d_check_areas ["areas"] (sp_check_areas K) := by
  refine T.F_check_areas.ok sc_check_areas (fun vs H Q E h => ?_) (fun cdv A outer s H vs Q E hr h => ?_)
  · obtain ⟨I, C, a, _, hr, _⟩ := h
    exact Rt.len _ hr
  · obtain ⟨I0, C0, ar_areas, hs, ⟨v_areas, rfl, r_areas⟩, hm⟩ := h
    have hm : Post (m_check_areas ar_areas) (PQ pN I0 C0 Q) (PX E K I0 C0) := hm
    replace r_areas : Rp.r (pL (pT (tc pS (t1 pI)))) ar_areas v_areas I0 Z := Im.im r_areas
    unfold m_check_areas at hm
    refine ⟨_, (pss_cons (ps_if (pt_cmpR op_gt (pe_callB (r := rLen1 K) call_len_seq (by rfl) T.gb_len bt_len (pa_cons (pv 0) pa_nil)) (pe_glob (v := .int (6)) rfl T.gi_MOST_AREAS.choose_spec ⟨_, rfl⟩) (nomark _)) (pss_cons (ps_raise rfl (takes_of rfl rfl rfl rfl) (pmk_oex (T.xs .TooMany (by decide)).o (T.xs .TooMany (by decide)).ic (T.xs .TooMany (by decide)).ti (ok_err T) (hr.mono (by decide)) bind_err .nil passL rfl (T.xs .TooMany (by decide)).g (pa_cons (pe_glob (v := .int (6)) rfl T.gi_MOST_AREAS.choose_spec ⟨_, rfl⟩) pa_nil))) pss_nil) pss_nil) (pss_cons (ps_if (pt_cmpR op_eq (pe_callB (r := rLen1 K) call_len_seq (by rfl) T.gb_len bt_len (pa_cons (pv 0) pa_nil)) pe_int (nomark _)) (pss_cons (ps_raise rfl (takes_of rfl rfl rfl rfl) (pmk_oex (T.xs .BadArea (by decide)).o (T.xs .BadArea (by decide)).ic (T.xs .BadArea (by decide)).ti (ok_err T) (hr.mono (by decide)) bind_err .nil passL rfl (T.xs .BadArea (by decide)).g (pa_cons pe_int pa_nil))) pss_nil) pss_nil) (pss_cons (ps_expr (pe_call (ok_check_names T) (hr.mono (by decide)) rfl T.g_check_names T.F_check_names.kp bind_check_names .nil passE (pa_cons (pe_lc (own := [("area", 2)]) rfl sc_check_areas.nd (show PI _ _ _ (iList K _) from pi_list (pv 0)) (blkOk_by (own := [("area", 2)]) (N := N_check_areas) (sc := defScope s_check_areas) (by decide +kernel)) (fun _ _ _ _ _ => (pg_name (i := 2) sc_check_areas.nd rfl (Or.inl rfl))) (fun _ _ _ _ _ => pts_nil) (fun _ _ _ _ _ => (pe_ix (r := rIxT K) ix_tup (pv 2) pe_int (fun _ _ => rfl)))) (pa_cons (pe_glob (v := .int (6)) rfl T.gi_MOST_AREAS.choose_spec ⟨_, rfl⟩) pa_nil)))) (pss_cons (ps_for (passes_of rfl) rfl (show PI _ _ _ (iEnum K _) from pi_enum (by rfl) T.gb_enumerate (pa_cons (pv 0) pa_nil)) (show PG _ _ (gTup K 2 _) from pg_tup rfl (pgs_cons (pg_name (i := 1) sc_check_areas.nd rfl (Or.inl rfl)) (pgs_cons (pg_name (i := 2) sc_check_areas.nd rfl (Or.inl rfl)) pgs_nil))) (pss_cons (ps_if (PW.pt (pw_or (pt_cmpR op_lt (pe_ix (r := rIxT K) ix_tup (pv 2) pe_int (fun _ _ => rfl)) (pe_un un_neg pe_int) (nomark _)) (pw_or1 (pt_cmpR op_ge (pe_ix (r := rIxT K) ix_tup (pv 2) pe_int (fun _ _ => rfl)) (pv 1) (nomark _))))) (pss_cons (ps_raise rfl (takes_of rfl rfl rfl rfl) (pmk_oex (T.xs .BadArea (by decide)).o (T.xs .BadArea (by decide)).ic (T.xs .BadArea (by decide)).ti (ok_err T) (hr.mono (by decide)) bind_err .nil passL rfl (T.xs .BadArea (by decide)).g (pa_cons (pv 1) pa_nil))) pss_nil) pss_nil) pss_nil)) pss_nil)))), ?_⟩
    refine s_if (E := E) (K := K) (σ := [some v_areas, none, none]) (t_test (x_op o_gt (x_cb o_len (a_one (x_v (x_var (i := 0) rfl (Rp.mono _ (Ex.refl _) exz r_areas))))) (x_int (i := 6)))) hs (fun _ _ h => PX.mono (Ex.refl _) (Ex.refl _) h) hm (fun I_1 H_2 e_3 s_4 hm => ?_) (fun I_5 H_6 e_7 s_8 hm => ?_)
    · exact s_raise (E := E) (K := K) (σ := [some v_areas, none, none]) (T.xs .TooMany (by decide)) (a_one (x_int (i := 6))) s_4 (fun _ _ h => PX.mono e_3 (Ex.refl _) h) hm
    · refine s_if (E := E) (K := K) (σ := [some v_areas, none, none]) (t_test (x_op o_eqI (x_cb o_len (a_one (x_v (x_var (i := 0) rfl (Rp.mono _ e_7 exz r_areas))))) (x_int (i := 0)))) s_8 (fun _ _ h => PX.mono e_7 (Ex.refl _) h) hm (fun I_9 H_10 e_11 s_12 hm => ?_) (fun I_13 H_14 e_15 s_16 hm => ?_)
      · exact s_raise (E := E) (K := K) (σ := [some v_areas, none, none]) (T.xs .BadArea (by decide)) (a_one (x_int (i := 0))) s_12 (fun _ _ h => PX.mono (e_7.trans e_11) (Ex.refl _) h) hm
      · refine s_expr (E := E) (K := K) (σ := [some v_areas, none, none]) (x_call (a_cons (x_lc (i_list (x_var (i := 0) rfl (Rp.mono _ (e_7.trans e_15) exz r_areas))) g1 (fun _ _ _ _ ⟨_, h, _⟩ => by rw [h]; rfl) (fun x_17 σ2 I_18 C_19 e_20 c_21 ⟨v_22, h, r_23⟩ => by subst h; exact (x_k (k := ((0 : Nat) : Int)) (o_pj pj0) (x_var (i := 2) rfl (Rp.mono _ (Ex.refl _) exz r_23)))) (fun _ _ _ _ _ e ⟨v_22, h, r_23⟩ => ⟨v_22, h, Rp.mono _ e exz r_23⟩)) (a_one (x_int (i := 6))))) s_16 (fun _ _ h => PX.mono (e_7.trans e_15) (Ex.refl _) h) hm fun b_24 I_25 H_26 e_27 s_28 hm => ?_
        refine s_forN (E := E) (K := K) (σ := [some v_areas, none, none]) (fun (z_29 : Unit) σ2 I_33 C_34 => ∃ w_31 : Option V, ∃ w_32 : Option V, σ2 = [some v_areas, w_31, w_32] ∧ Ex C0 C_34) (i_enum (a_one (x_var (i := 0) rfl (Rp.mono _ (e_7.trans (e_15.trans e_27)) exz r_areas)))) s_28 (fun _ _ h => PX.mono (e_7.trans (e_15.trans e_27)) (Ex.refl _) h) hm (fun _ e_44 => ⟨none, none, rfl, (Ex.refl _)⟩) (fun _ _ _ _ _ => trivial) (fun _ _ _ _ _ e ⟨w_31, w_32, hs_30, fr_35⟩ => ⟨w_31, w_32, hs_30, fr_35⟩) (fun N x_36 v_37 z_29 σ2 I_38 C_39 H_40 e_41 s_42 ⟨w_31, w_32, hs_30, fr_35⟩ r_43 hm => ?_) (fun z_63 σ2 I_58 C_59 H_60 e_61 s_62 ⟨w_65, w_66, hs_64, fr_69⟩ hm => ?_)
        · subst hs_30
          refine g2 (K := K) x_36 v_37 I_38 C_39 H_40 _ s_42 r_43 fun σ2 ⟨v_45, v_46, hs_49, r_47, r_48⟩ => ?_
          subst hs_49
          refine s_if (E := E) (K := K) (σ := [some v_areas, some v_45, some v_46]) (t_or (t_test (x_op o_lt (x_k (k := ((1 : Nat) : Int)) (o_pj (pjs pj1)) (x_var (i := 2) rfl (Rp.mono _ (Ex.refl _) exz r_48))) (x_un o_neg (x_int (i := 1))))) (t_test (x_op o_ge (x_k (k := ((1 : Nat) : Int)) (o_pj (pjs pj1)) (x_var (i := 2) rfl (Rp.mono _ (Ex.refl _) exz r_48))) (x_var (i := 1) rfl (Rp.mono _ (Ex.refl _) exz r_47))))) s_42 (fun _ _ h => PX.mono (e_7.trans (e_15.trans (e_27.trans e_41))) fr_35 h) hm (fun I_50 H_51 e_52 s_53 hm => ?_) (fun I_54 H_55 e_56 s_57 hm => ?_)
          · exact s_raise (E := E) (K := K) (σ := [some v_areas, some v_45, some v_46]) (T.xs .BadArea (by decide)) (a_one (x_var (i := 1) rfl (Rp.mono _ e_52 exz r_47))) s_53 (fun _ _ h => PX.mono (e_7.trans (e_15.trans (e_27.trans (e_41.trans e_52)))) fr_35 h) hm
          · exact hm _ _ _ _ e_56 s_57 ⟨some v_45, some v_46, rfl, fr_35⟩
        subst hs_64
        exact hm .non _ _ (e_7.trans (e_15.trans (e_27.trans e_61))) (St.less s_62 fr_69) rfl
def m_are_limits (ar_limits : (List Int)) (ar_top : Int) : Res Bool :=
  (ifR (bin neR (un rLen (Res.ok ar_limits)) (Res.ok ar_top)) ((Res.ok false).bind fun a_9 => Res.ok a_9) (((un enumR (Res.ok ar_limits)).bind fun xs => loopR (fun (x_23 : (Int × Int)) (z_16 : Unit) => (ifR (orR (bin rLt (Res.ok x_23.2) (Res.ok (-999 : Int))) (bin rGt (Res.ok x_23.2) (Res.ok (9999 : Int)))) ((Res.ok false).bind fun a_45 => Res.ok (Out.rt a_45)) (ifR (andR (bin rGt (Res.ok x_23.1) (Res.ok (0 : Int))) (bin rLe (Res.ok x_23.2) (bin ix (Res.ok ar_limits) (bin rSub (Res.ok x_23.1) (Res.ok (1 : Int)))))) ((Res.ok false).bind fun a_60 => Res.ok (Out.rt a_60)) (Res.ok (Out.nx ()))))) xs ()).bind fun (o : Out Unit Bool) => match o with | .nx z_72 => ((Res.ok true).bind fun a_79 => Res.ok a_79) | .br _ => Res.bad | .rt r => Res.ok r))
abbrev N_are_limits : List Str := ["limits", "top", "k", "limit"]
theorem sc_are_limits : FnScope N_are_limits ["limits", "top"] (defScope s_are_limits) := ⟨rfl, rfl, rfl, by decide +kernel, rfl, by decide +kernel, by decide +kernel⟩
theorem bind_are_limits {K : PySem.W.Frag} {mg : Str → Option Value} {T : Tx K mg} : Binds K T.d_are_limits ["limits", "top"] [] := FunD.bindsN T.F_are_limits fun _ _ _ _ _ _ us hl => match us, hl with | [_, _], _ => rfl
abbrev sp_are_limits (K : PySem.W.Frag) : Sp := spP K (tc (pL pI) (t1 pI)) (fun (p : ((List Int) × Int)) => m_are_limits p.1 p.2) pB
theorem ok_are_limits (T : Tx K mg) : FnOk P w K mg base (L2.CX P w) 1 T.f_are_limits T.d_are_limits ["limits", "top"] (sp_are_limits K) := by
  refine T.F_are_limits.ok sc_are_limits (fun vs H Q E h => ?_) (fun cdv A outer s H vs Q E hr h => ?_)
  · obtain ⟨I, C, a, _, hr, _⟩ := h
    exact Rt.len _ hr
  · obtain ⟨I0, C0, ⟨ar_limits, ar_top⟩, hs, ⟨v_limits, us0, rfl, r_limits, v_top, rfl, r_top⟩, hm⟩ := h
    have hm : Post (m_are_limits ar_limits ar_top) (PQ pB I0 C0 Q) (PX E K I0 C0) := hm
    replace r_limits : Rp.r (pL pI) ar_limits v_limits I0 Z := Im.im r_limits
    replace r_top : Rp.r pI ar_top v_top I0 Z := Im.im r_top
    unfold m_are_limits at hm
    refine ⟨_, (pss_cons (ps_if (pt_cmpR op_ne (pe_callB (r := rLen1 K) call_len_seq (by rfl) T.gb_len bt_len (pa_cons (pv 0) pa_nil)) (pv 1) (nomark _)) (pss_cons (ps_ret pe_bl) pss_nil) pss_nil) (pss_cons (ps_for (passes_of rfl) rfl (show PI _ _ _ (iEnum K _) from pi_enum (by rfl) T.gb_enumerate (pa_cons (pv 0) pa_nil)) (show PG _ _ (gTup K 2 _) from pg_tup rfl (pgs_cons (pg_name (i := 2) sc_are_limits.nd rfl (Or.inl rfl)) (pgs_cons (pg_name (i := 3) sc_are_limits.nd rfl (Or.inl rfl)) pgs_nil))) (pss_cons (ps_if (PW.pt (pw_or (pt_cmpR op_lt (pv 3) (pe_glob (v := .int (-999)) rfl T.gi_LOWEST.choose_spec ⟨_, rfl⟩) (nomark _)) (pw_or1 (pt_cmpR op_gt (pv 3) (pe_glob (v := .int (9999)) rfl T.gi_HIGHEST.choose_spec ⟨_, rfl⟩) (nomark _))))) (pss_cons (ps_ret pe_bl) pss_nil) pss_nil) (pss_cons (ps_if (PW.pt (pw_and (pt_cmpR op_gt (pv 2) pe_int (nomark _)) (pw_and1 (pt_cmpR op_le (pv 3) (pe_ix (r := rIxL K) ix_list (pv 0) (pe_op op_sub (pv 2) pe_int) (fun _ _ => rfl)) (nomark _))))) (pss_cons (ps_ret pe_bl) pss_nil) pss_nil) pss_nil))) (pss_cons (ps_ret pe_bl) pss_nil))), ?_⟩
    refine s_if (E := E) (K := K) (σ := [some v_limits, some v_top, none, none]) (t_test (x_op o_neI (x_cb o_len (a_one (x_v (x_var (i := 0) rfl (Rp.mono _ (Ex.refl _) exz r_limits))))) (x_var (i := 1) rfl (Rp.mono _ (Ex.refl _) exz r_top)))) hs (fun _ _ h => PX.mono (Ex.refl _) (Ex.refl _) h) hm (fun I_1 H_2 e_3 s_4 hm => ?_) (fun I_5 H_6 e_7 s_8 hm => ?_)
    · refine q_ret (tz := tNext) (E := E) (K := K) (σ := [some v_limits, some v_top, none, none]) x_bl s_4 (fun _ _ h => PX.mono e_3 (Ex.refl _) h) hm fun a_9 v_10 I_11 H_12 e_13 s_14 r_15 hm => ?_
      exact hm v_10 I_11 H_12 (e_3.trans e_13) (St.less s_14 (Ex.refl _)) (Im.im r_15)
    · refine s_forR (E := E) (K := K) (σ := [some v_limits, some v_top, none, none]) (fun (z_16 : Unit) σ2 I_20 C_21 => ∃ w_18 : Option V, ∃ w_19 : Option V, σ2 = [some v_limits, some v_top, w_18, w_19] ∧ Ex C0 C_21) (i_enum (a_one (x_var (i := 0) rfl (Rp.mono _ e_7 exz r_limits)))) s_8 (fun _ _ h => PX.mono e_7 (Ex.refl _) h) hm (fun _ e_31 => ⟨none, none, rfl, (Ex.refl _)⟩) (fun _ _ _ _ _ => trivial) (fun _ _ _ _ _ e ⟨w_18, w_19, hs_17, fr_22⟩ => ⟨w_18, w_19, hs_17, fr_22⟩) (fun N x_23 v_24 z_16 σ2 I_25 C_26 H_27 e_28 s_29 ⟨w_18, w_19, hs_17, fr_22⟩ r_30 hm => ?_) (fun z_72 σ2 I_67 C_68 H_69 e_70 s_71 ⟨w_74, w_75, hs_73, fr_78⟩ hm => ?_)
      · subst hs_17
        refine g2 (K := K) x_23 v_24 I_25 C_26 H_27 _ s_29 r_30 fun σ2 ⟨v_32, v_33, hs_36, r_34, r_35⟩ => ?_
        subst hs_36
        refine s_if (E := E) (K := K) (σ := [some v_limits, some v_top, some v_32, some v_33]) (t_or (t_test (x_op o_lt (x_var (i := 3) rfl (Rp.mono _ (Ex.refl _) exz r_35)) (x_int (i := -999)))) (t_test (x_op o_gt (x_var (i := 3) rfl (Rp.mono _ (Ex.refl _) exz r_35)) (x_int (i := 9999))))) s_29 (fun _ _ h => PX.mono (e_7.trans e_28) fr_22 h) hm (fun I_37 H_38 e_39 s_40 hm => ?_) (fun I_41 H_42 e_43 s_44 hm => ?_)
        · refine q_ret (tz := tNext) (E := E) (K := K) (σ := [some v_limits, some v_top, some v_32, some v_33]) x_bl s_40 (fun _ _ h => PX.mono (e_7.trans (e_28.trans e_39)) fr_22 h) hm fun a_45 v_46 I_47 H_48 e_49 s_50 r_51 hm => ?_
          exact hm v_46 I_47 H_48 (e_7.trans (e_28.trans (e_39.trans e_49))) (St.less s_50 fr_22) (Im.im r_51)
        · refine s_if (E := E) (K := K) (σ := [some v_limits, some v_top, some v_32, some v_33]) (t_and (t_test (x_op o_gt (x_var (i := 2) rfl (Rp.mono _ e_43 exz r_34)) (x_int (i := 0)))) (t_test (x_op o_le (x_var (i := 3) rfl (Rp.mono _ e_43 exz r_35)) (x_op o_ix (x_v (x_var (i := 0) rfl (Rp.mono _ (e_7.trans (e_28.trans e_43)) exz r_limits))) (x_op o_sub (x_var (i := 2) rfl (Rp.mono _ e_43 exz r_34)) (x_int (i := 1))))))) s_44 (fun _ _ h => PX.mono (e_7.trans (e_28.trans e_43)) fr_22 h) hm (fun I_52 H_53 e_54 s_55 hm => ?_) (fun I_56 H_57 e_58 s_59 hm => ?_)
          · refine q_ret (tz := tNext) (E := E) (K := K) (σ := [some v_limits, some v_top, some v_32, some v_33]) x_bl s_55 (fun _ _ h => PX.mono (e_7.trans (e_28.trans (e_43.trans e_54))) fr_22 h) hm fun a_60 v_61 I_62 H_63 e_64 s_65 r_66 hm => ?_
            exact hm v_61 I_62 H_63 (e_7.trans (e_28.trans (e_43.trans (e_54.trans e_64)))) (St.less s_65 fr_22) (Im.im r_66)
          · exact hm _ _ _ _ (e_43.trans e_58) s_59 ⟨some v_32, some v_33, rfl, fr_22⟩
      subst hs_73
      refine q_ret (tz := tNext) (E := E) (K := K) (σ := [some v_limits, some v_top, w_74, w_75]) x_bl s_71 (fun _ _ h => PX.mono (e_7.trans e_70) fr_78 h) hm fun a_79 v_80 I_81 H_82 e_83 s_84 r_85 hm => ?_
      exact hm v_80 I_81 H_82 (e_7.trans (e_70.trans e_83)) (St.less s_84 fr_78) (Im.im r_85)
def m_check_gauges (ar_top : Int) (ar_many_areas : Int) (ar_gauges : (List (Str × Int × (List Int)))) : Res Unit :=
  ((un (fun (p : ((List Str) × Int)) => m_check_names p.1 p.2) (pair ((Res.ok ar_gauges).bind (mapR (fun (x_1 : (Str × Int × (List Int))) => (un (fun p => Res.ok p.1) (Res.ok x_1))))) (Res.ok (6 : Int)))).bind fun (b_8 : Unit) => (((un enumR (Res.ok ar_gauges)).bind fun xs => loopN (fun (x_20 : (Int × (Str × Int × (List Int)))) (z_13 : Unit) => (ifR (orR (bin rLt (un (fun p => Res.ok p.2.1) (Res.ok x_20.2)) (Res.ok (0 : Int))) (bin rGe (un (fun p => Res.ok p.2.1) (Res.ok x_20.2)) (Res.ok ar_many_areas))) ((Res.ok x_20.1).bind fun i => Res.exc .BadGauge i) (ifR (un notR (un (fun (p : ((List Int) × Int)) => m_are_limits p.1 p.2) (pair (un (fun p => Res.ok p.2.2) (Res.ok x_20.2)) (Res.ok ar_top)))) ((Res.ok x_20.1).bind fun i => Res.exc .BadGauge i) (Res.ok ())))) xs ()).bind fun (z_55 : Unit) => (Res.ok ())))
abbrev N_check_gauges : List Str := ["top", "many_areas", "gauges", "k", "gauge"]
theorem sc_check_gauges : FnScope N_check_gauges ["top", "many_areas", "gauges"] (defScope s_check_gauges) := ⟨rfl, rfl, rfl, by decide +kernel, rfl, by decide +kernel, by decide +kernel⟩
theorem bind_check_gauges {K : PySem.W.Frag} {mg : Str → Option Value} {T : Tx K mg} : Binds K T.d_check_gauges ["top", "many_areas", "gauges"] [] := FunD.bindsN T.F_check_gauges fun _ _ _ _ _ _ us hl => match us, hl with | [_, _, _], _ => rfl
abbrev sp_check_gauges (K : PySem.W.Frag) : Sp := spP K (tc pI (tc pI (t1 (pL (pT (tc pS (tc pI (t1 (pL pI))))))))) (fun (p : (Int × Int × (List (Str × Int × (List Int))))) => m_check_gauges p.1 p.2.1 p.2.2) pN
theorem ok_check_gauges (T : Tx K mg) : FnOk P w K mg base (L2.CX P w) 4 T.f_check_gauges T.d_check_gauges ["top", "many_areas", "gauges"] (sp_check_gauges K) := by
  refine T.F_check_gauges.ok sc_check_gauges (fun vs H Q E h => ?_) (fun cdv A outer s H vs Q E hr h => ?_)
  · obtain ⟨I, C, a, _, hr, _⟩ := h
    exact Rt.len _ hr
  · obtain ⟨I0, C0, ⟨ar_top, ar_many_areas, ar_gauges⟩, hs, ⟨v_top, us0, rfl, r_top, v_many_areas, us1, rfl, r_many_areas, v_gauges, rfl, r_gauges⟩, hm⟩ := h
    have hm : Post (m_check_gauges ar_top ar_many_areas ar_gauges) (PQ pN I0 C0 Q) (PX E K I0 C0) := hm
    replace r_top : Rp.r pI ar_top v_top I0 Z := Im.im r_top
    replace r_many_areas : Rp.r pI ar_many_areas v_many_areas I0 Z := Im.im r_many_areas
    replace r_gauges : Rp.r (pL (pT (tc pS (tc pI (t1 (pL pI)))))) ar_gauges v_gauges I0 Z := Im.im r_gauges
    unfold m_check_gauges at hm
    refine ⟨_, (pss_cons (ps_expr (pe_call (ok_check_names T) (hr.mono (by decide)) rfl T.g_check_names T.F_check_names.kp bind_check_names .nil passE (pa_cons (pe_lc (own := [("gauge", 4)]) rfl sc_check_gauges.nd (show PI _ _ _ (iList K _) from pi_list (pv 2)) (blkOk_by (own := [("gauge", 4)]) (N := N_check_gauges) (sc := defScope s_check_gauges) (by decide +kernel)) (fun _ _ _ _ _ => (pg_name (i := 4) sc_check_gauges.nd rfl (Or.inl rfl))) (fun _ _ _ _ _ => pts_nil) (fun _ _ _ _ _ => (pe_ix (r := rIxT K) ix_tup (pv 4) pe_int (fun _ _ => rfl)))) (pa_cons (pe_glob (v := .int (6)) rfl T.gi_MOST_GAUGES.choose_spec ⟨_, rfl⟩) pa_nil)))) (pss_cons (ps_for (passes_of rfl) rfl (show PI _ _ _ (iEnum K _) from pi_enum (by rfl) T.gb_enumerate (pa_cons (pv 2) pa_nil)) (show PG _ _ (gTup K 2 _) from pg_tup rfl (pgs_cons (pg_name (i := 3) sc_check_gauges.nd rfl (Or.inl rfl)) (pgs_cons (pg_name (i := 4) sc_check_gauges.nd rfl (Or.inl rfl)) pgs_nil))) (pss_cons (ps_if (PW.pt (pw_or (pt_cmpR op_lt (pe_ix (r := rIxT K) ix_tup (pv 4) pe_int (fun _ _ => rfl)) pe_int (nomark _)) (pw_or1 (pt_cmpR op_ge (pe_ix (r := rIxT K) ix_tup (pv 4) pe_int (fun _ _ => rfl)) (pv 1) (nomark _))))) (pss_cons (ps_raise rfl (takes_of rfl rfl rfl rfl) (pmk_oex (T.xs .BadGauge (by decide)).o (T.xs .BadGauge (by decide)).ic (T.xs .BadGauge (by decide)).ti (ok_err T) (hr.mono (by decide)) bind_err .nil passL rfl (T.xs .BadGauge (by decide)).g (pa_cons (pv 3) pa_nil))) pss_nil) pss_nil) (pss_cons (ps_if (pt_not (pt_val (pe_call (ok_are_limits T) (hr.mono (by decide)) rfl T.g_are_limits T.F_are_limits.kp bind_are_limits .nil passE (pa_cons (pe_ix (r := rIxT K) ix_tup (pv 4) pe_int (fun _ _ => rfl)) (pa_cons (pv 0) pa_nil))))) (pss_cons (ps_raise rfl (takes_of rfl rfl rfl rfl) (pmk_oex (T.xs .BadGauge (by decide)).o (T.xs .BadGauge (by decide)).ic (T.xs .BadGauge (by decide)).ti (ok_err T) (hr.mono (by decide)) bind_err .nil passL rfl (T.xs .BadGauge (by decide)).g (pa_cons (pv 3) pa_nil))) pss_nil) pss_nil) pss_nil))) pss_nil)), ?_⟩
    refine s_expr (E := E) (K := K) (σ := [some v_top, some v_many_areas, some v_gauges, none, none]) (x_call (a_cons (x_lc (i_list (x_var (i := 2) rfl (Rp.mono _ (Ex.refl _) exz r_gauges))) g1 (fun _ _ _ _ ⟨_, h, _⟩ => by rw [h]; rfl) (fun x_1 σ2 I_2 C_3 e_4 c_5 ⟨v_6, h, r_7⟩ => by subst h; exact (x_k (k := ((0 : Nat) : Int)) (o_pj pj0) (x_var (i := 4) rfl (Rp.mono _ (Ex.refl _) exz r_7)))) (fun _ _ _ _ _ e ⟨v_6, h, r_7⟩ => ⟨v_6, h, Rp.mono _ e exz r_7⟩)) (a_one (x_int (i := 6))))) hs (fun _ _ h => PX.mono (Ex.refl _) (Ex.refl _) h) hm fun b_8 I_9 H_10 e_11 s_12 hm => ?_
    refine s_forN (E := E) (K := K) (σ := [some v_top, some v_many_areas, some v_gauges, none, none]) (fun (z_13 : Unit) σ2 I_17 C_18 => ∃ w_15 : Option V, ∃ w_16 : Option V, σ2 = [some v_top, some v_many_areas, some v_gauges, w_15, w_16] ∧ Ex C0 C_18) (i_enum (a_one (x_var (i := 2) rfl (Rp.mono _ e_11 exz r_gauges)))) s_12 (fun _ _ h => PX.mono e_11 (Ex.refl _) h) hm (fun _ e_28 => ⟨none, none, rfl, (Ex.refl _)⟩) (fun _ _ _ _ _ => trivial) (fun _ _ _ _ _ e ⟨w_15, w_16, hs_14, fr_19⟩ => ⟨w_15, w_16, hs_14, fr_19⟩) (fun N x_20 v_21 z_13 σ2 I_22 C_23 H_24 e_25 s_26 ⟨w_15, w_16, hs_14, fr_19⟩ r_27 hm => ?_) (fun z_55 σ2 I_50 C_51 H_52 e_53 s_54 ⟨w_57, w_58, hs_56, fr_61⟩ hm => ?_)
    · subst hs_14
      refine g2 (K := K) x_20 v_21 I_22 C_23 H_24 _ s_26 r_27 fun σ2 ⟨v_29, v_30, hs_33, r_31, r_32⟩ => ?_
      subst hs_33
      refine s_if (E := E) (K := K) (σ := [some v_top, some v_many_areas, some v_gauges, some v_29, some v_30]) (t_or (t_test (x_op o_lt (x_k (k := ((1 : Nat) : Int)) (o_pj (pjs pj0)) (x_var (i := 4) rfl (Rp.mono _ (Ex.refl _) exz r_32))) (x_int (i := 0)))) (t_test (x_op o_ge (x_k (k := ((1 : Nat) : Int)) (o_pj (pjs pj0)) (x_var (i := 4) rfl (Rp.mono _ (Ex.refl _) exz r_32))) (x_var (i := 1) rfl (Rp.mono _ (e_11.trans e_25) exz r_many_areas))))) s_26 (fun _ _ h => PX.mono (e_11.trans e_25) fr_19 h) hm (fun I_34 H_35 e_36 s_37 hm => ?_) (fun I_38 H_39 e_40 s_41 hm => ?_)
      · exact s_raise (E := E) (K := K) (σ := [some v_top, some v_many_areas, some v_gauges, some v_29, some v_30]) (T.xs .BadGauge (by decide)) (a_one (x_var (i := 3) rfl (Rp.mono _ e_36 exz r_31))) s_37 (fun _ _ h => PX.mono (e_11.trans (e_25.trans e_36)) fr_19 h) hm
      · refine s_if (E := E) (K := K) (σ := [some v_top, some v_many_areas, some v_gauges, some v_29, some v_30]) (t_not (t_B (x_call (a_cons (x_k (k := ((2 : Nat) : Int)) (o_pj (pjs (pjs pj1))) (x_var (i := 4) rfl (Rp.mono _ e_40 exz r_32))) (a_one (x_var (i := 0) rfl (Rp.mono _ (e_11.trans (e_25.trans e_40)) exz r_top))))))) s_41 (fun _ _ h => PX.mono (e_11.trans (e_25.trans e_40)) fr_19 h) hm (fun I_42 H_43 e_44 s_45 hm => ?_) (fun I_46 H_47 e_48 s_49 hm => ?_)
        · exact s_raise (E := E) (K := K) (σ := [some v_top, some v_many_areas, some v_gauges, some v_29, some v_30]) (T.xs .BadGauge (by decide)) (a_one (x_var (i := 3) rfl (Rp.mono _ (e_40.trans e_44) exz r_31))) s_45 (fun _ _ h => PX.mono (e_11.trans (e_25.trans (e_40.trans e_44))) fr_19 h) hm
        · exact hm _ _ _ _ (e_40.trans e_48) s_49 ⟨some v_29, some v_30, rfl, fr_19⟩
    subst hs_56
    exact hm .non _ _ (e_11.trans e_53) (St.less s_54 fr_61) rfl
def m_are_readings (ar_rows : (List (List Int))) (ar_hours : Int) (ar_many_gauges : Int) : Res Bool :=
  (ifR (bin neR (un rLen (Res.ok ar_rows)) (Res.ok ar_many_gauges)) ((Res.ok false).bind fun a_9 => Res.ok a_9) (((Res.ok ar_rows).bind fun xs => loopR (fun (x_23 : (List Int)) (z_16 : Unit) => (ifR (bin neR (un rLen (Res.ok x_23)) (Res.ok ar_hours)) ((Res.ok false).bind fun a_43 => Res.ok (Out.rt a_43)) (((Res.ok x_23).bind fun xs => loopR (fun (x_56 : Int) (z_50 : Unit) => (ifR (orR (bin rLt (Res.ok x_56) (Res.ok (-999 : Int))) (bin rGt (Res.ok x_56) (Res.ok (9999 : Int)))) ((Res.ok false).bind fun a_76 => Res.ok (Out.rt a_76)) (Res.ok (Out.nx ())))) xs ()).bind fun (o : Out Unit Bool) => match o with | .nx z_88 => (Res.ok (Out.nx ())) | .br _ => Res.bad | .rt r => Res.ok (Out.rt r)))) xs ()).bind fun (o : Out Unit Bool) => match o with | .nx z_99 => ((Res.ok true).bind fun a_106 => Res.ok a_106) | .br _ => Res.bad | .rt r => Res.ok r))
abbrev N_are_readings : List Str := ["rows", "hours", "many_gauges", "row", "value"]
theorem sc_are_readings : FnScope N_are_readings ["rows", "hours", "many_gauges"] (defScope s_are_readings) := ⟨rfl, rfl, rfl, by decide +kernel, rfl, by decide +kernel, by decide +kernel⟩
theorem bind_are_readings {K : PySem.W.Frag} {mg : Str → Option Value} {T : Tx K mg} : Binds K T.d_are_readings ["rows", "hours", "many_gauges"] [] := FunD.bindsN T.F_are_readings fun _ _ _ _ _ _ us hl => match us, hl with | [_, _, _], _ => rfl
abbrev sp_are_readings (K : PySem.W.Frag) : Sp := spP K (tc (pL (pL pI)) (tc pI (t1 pI))) (fun (p : ((List (List Int)) × Int × Int)) => m_are_readings p.1 p.2.1 p.2.2) pB
theorem ok_are_readings (T : Tx K mg) : FnOk P w K mg base (L2.CX P w) 1 T.f_are_readings T.d_are_readings ["rows", "hours", "many_gauges"] (sp_are_readings K) := by
  refine T.F_are_readings.ok sc_are_readings (fun vs H Q E h => ?_) (fun cdv A outer s H vs Q E hr h => ?_)
  · obtain ⟨I, C, a, _, hr, _⟩ := h
    exact Rt.len _ hr
  · obtain ⟨I0, C0, ⟨ar_rows, ar_hours, ar_many_gauges⟩, hs, ⟨v_rows, us0, rfl, r_rows, v_hours, us1, rfl, r_hours, v_many_gauges, rfl, r_many_gauges⟩, hm⟩ := h
    have hm : Post (m_are_readings ar_rows ar_hours ar_many_gauges) (PQ pB I0 C0 Q) (PX E K I0 C0) := hm
    replace r_rows : Rp.r (pL (pL pI)) ar_rows v_rows I0 Z := Im.im r_rows
    replace r_hours : Rp.r pI ar_hours v_hours I0 Z := Im.im r_hours
    replace r_many_gauges : Rp.r pI ar_many_gauges v_many_gauges I0 Z := Im.im r_many_gauges
    unfold m_are_readings at hm
    refine ⟨_, (pss_cons (ps_if (pt_cmpR op_ne (pe_callB (r := rLen1 K) call_len_seq (by rfl) T.gb_len bt_len (pa_cons (pv 0) pa_nil)) (pv 2) (nomark _)) (pss_cons (ps_ret pe_bl) pss_nil) pss_nil) (pss_cons (ps_for (passes_of rfl) rfl (show PI _ _ _ (iList K _) from pi_list (pv 0)) (pg_name (i := 3) sc_are_readings.nd rfl (Or.inl rfl)) (pss_cons (ps_if (pt_cmpR op_ne (pe_callB (r := rLen1 K) call_len_seq (by rfl) T.gb_len bt_len (pa_cons (pv 3) pa_nil)) (pv 1) (nomark _)) (pss_cons (ps_ret pe_bl) pss_nil) pss_nil) (pss_cons (ps_for (passes_of rfl) rfl (show PI _ _ _ (iList K _) from pi_list (pv 3)) (pg_name (i := 4) sc_are_readings.nd rfl (Or.inl rfl)) (pss_cons (ps_if (PW.pt (pw_or (pt_cmpR op_lt (pv 4) (pe_glob (v := .int (-999)) rfl T.gi_LOWEST.choose_spec ⟨_, rfl⟩) (nomark _)) (pw_or1 (pt_cmpR op_gt (pv 4) (pe_glob (v := .int (9999)) rfl T.gi_HIGHEST.choose_spec ⟨_, rfl⟩) (nomark _))))) (pss_cons (ps_ret pe_bl) pss_nil) pss_nil) pss_nil)) pss_nil))) (pss_cons (ps_ret pe_bl) pss_nil))), ?_⟩
    refine s_if (E := E) (K := K) (σ := [some v_rows, some v_hours, some v_many_gauges, none, none]) (t_test (x_op o_neI (x_cb o_len (a_one (x_v (x_var (i := 0) rfl (Rp.mono _ (Ex.refl _) exz r_rows))))) (x_var (i := 2) rfl (Rp.mono _ (Ex.refl _) exz r_many_gauges)))) hs (fun _ _ h => PX.mono (Ex.refl _) (Ex.refl _) h) hm (fun I_1 H_2 e_3 s_4 hm => ?_) (fun I_5 H_6 e_7 s_8 hm => ?_)
    · refine q_ret (tz := tNext) (E := E) (K := K) (σ := [some v_rows, some v_hours, some v_many_gauges, none, none]) x_bl s_4 (fun _ _ h => PX.mono e_3 (Ex.refl _) h) hm fun a_9 v_10 I_11 H_12 e_13 s_14 r_15 hm => ?_
      exact hm v_10 I_11 H_12 (e_3.trans e_13) (St.less s_14 (Ex.refl _)) (Im.im r_15)
    · refine s_forR (E := E) (K := K) (σ := [some v_rows, some v_hours, some v_many_gauges, none, none]) (fun (z_16 : Unit) σ2 I_20 C_21 => ∃ w_18 : Option V, ∃ w_19 : Option V, σ2 = [some v_rows, some v_hours, some v_many_gauges, w_18, w_19] ∧ Ex C0 C_21) (i_list (x_var (i := 0) rfl (Rp.mono _ e_7 exz r_rows))) s_8 (fun _ _ h => PX.mono e_7 (Ex.refl _) h) hm (fun _ e_31 => ⟨none, none, rfl, (Ex.refl _)⟩) (fun _ _ _ _ _ => trivial) (fun _ _ _ _ _ e ⟨w_18, w_19, hs_17, fr_22⟩ => ⟨w_18, w_19, hs_17, fr_22⟩) (fun N x_23 v_24 z_16 σ2 I_25 C_26 H_27 e_28 s_29 ⟨w_18, w_19, hs_17, fr_22⟩ r_30 hm => ?_) (fun z_99 σ2 I_94 C_95 H_96 e_97 s_98 ⟨w_101, w_102, hs_100, fr_105⟩ hm => ?_)
      · subst hs_17
        refine g1 (K := K) x_23 v_24 I_25 C_26 H_27 _ s_29 r_30 fun σ2 ⟨v_32, hs_34, r_33⟩ => ?_
        subst hs_34
        refine s_if (E := E) (K := K) (σ := [some v_rows, some v_hours, some v_many_gauges, some v_32, w_19]) (t_test (x_op o_neI (x_cb o_len (a_one (x_v (x_var (i := 3) rfl (Rp.mono _ (Ex.refl _) exz r_33))))) (x_var (i := 1) rfl (Rp.mono _ (e_7.trans e_28) exz r_hours)))) s_29 (fun _ _ h => PX.mono (e_7.trans e_28) fr_22 h) hm (fun I_35 H_36 e_37 s_38 hm => ?_) (fun I_39 H_40 e_41 s_42 hm => ?_)
        · refine q_ret (tz := tNext) (E := E) (K := K) (σ := [some v_rows, some v_hours, some v_many_gauges, some v_32, w_19]) x_bl s_38 (fun _ _ h => PX.mono (e_7.trans (e_28.trans e_37)) fr_22 h) hm fun a_43 v_44 I_45 H_46 e_47 s_48 r_49 hm => ?_
          exact hm v_44 I_45 H_46 (e_7.trans (e_28.trans (e_37.trans e_47))) (St.less s_48 fr_22) (Im.im r_49)
        · refine s_forR (E := E) (K := K) (σ := [some v_rows, some v_hours, some v_many_gauges, some v_32, w_19]) (fun (z_50 : Unit) σ2 I_53 C_54 => ∃ w_52 : Option V, σ2 = [some v_rows, some v_hours, some v_many_gauges, some v_32, w_52] ∧ Ex C0 C_54) (i_list (x_var (i := 3) rfl (Rp.mono _ e_41 exz r_33))) s_42 (fun _ _ h => PX.mono (e_7.trans (e_28.trans e_41)) fr_22 h) hm (fun _ e_64 => ⟨w_19, rfl, fr_22⟩) (fun _ _ _ _ _ => trivial) (fun _ _ _ _ _ e ⟨w_52, hs_51, fr_55⟩ => ⟨w_52, hs_51, fr_55⟩) (fun N x_56 v_57 z_50 σ2 I_58 C_59 H_60 e_61 s_62 ⟨w_52, hs_51, fr_55⟩ r_63 hm => ?_) (fun z_88 σ2 I_83 C_84 H_85 e_86 s_87 ⟨w_90, hs_89, fr_93⟩ hm => ?_)
          · subst hs_51
            refine g1 (K := K) x_56 v_57 I_58 C_59 H_60 _ s_62 r_63 fun σ2 ⟨v_65, hs_67, r_66⟩ => ?_
            subst hs_67
            refine s_if (E := E) (K := K) (σ := [some v_rows, some v_hours, some v_many_gauges, some v_32, some v_65]) (t_or (t_test (x_op o_lt (x_var (i := 4) rfl (Rp.mono _ (Ex.refl _) exz r_66)) (x_int (i := -999)))) (t_test (x_op o_gt (x_var (i := 4) rfl (Rp.mono _ (Ex.refl _) exz r_66)) (x_int (i := 9999))))) s_62 (fun _ _ h => PX.mono (e_7.trans (e_28.trans (e_41.trans e_61))) fr_55 h) hm (fun I_68 H_69 e_70 s_71 hm => ?_) (fun I_72 H_73 e_74 s_75 hm => ?_)
            · refine q_ret (tz := tNext) (E := E) (K := K) (σ := [some v_rows, some v_hours, some v_many_gauges, some v_32, some v_65]) x_bl s_71 (fun _ _ h => PX.mono (e_7.trans (e_28.trans (e_41.trans (e_61.trans e_70)))) fr_55 h) hm fun a_76 v_77 I_78 H_79 e_80 s_81 r_82 hm => ?_
              exact hm v_77 I_78 H_79 (e_7.trans (e_28.trans (e_41.trans (e_61.trans (e_70.trans e_80))))) (St.less s_81 fr_55) (Im.im r_82)
            · exact hm _ _ _ _ e_74 s_75 ⟨some v_65, rfl, fr_55⟩
          subst hs_89
          exact hm _ _ _ _ (e_41.trans e_86) s_87 ⟨some v_32, w_90, rfl, fr_93⟩
      subst hs_100
      refine q_ret (tz := tNext) (E := E) (K := K) (σ := [some v_rows, some v_hours, some v_many_gauges, w_101, w_102]) x_bl s_98 (fun _ _ h => PX.mono (e_7.trans e_97) fr_105 h) hm fun a_106 v_107 I_108 H_109 e_110 s_111 r_112 hm => ?_
      exact hm v_107 I_108 H_109 (e_7.trans (e_97.trans e_110)) (St.less s_111 fr_105) (Im.im r_112)
def m_check_runs (ar_hours : Int) (ar_many_gauges : Int) (ar_runs : (List (Str × Int × (List (List Int))))) : Res Unit :=
  (ifR (bin rGt (un rLen (Res.ok ar_runs)) (Res.ok (6 : Int))) ((Res.ok (6 : Int)).bind fun i => Res.exc .TooMany i) (ifR (bin eqR (un rLen (Res.ok ar_runs)) (Res.ok (0 : Int))) ((Res.ok (0 : Int)).bind fun i => Res.exc .BadRun i) ((un (fun (p : ((List Str) × Int)) => m_check_names p.1 p.2) (pair ((Res.ok ar_runs).bind (mapR (fun (x_17 : (Str × Int × (List (List Int)))) => (un (fun p => Res.ok p.1) (Res.ok x_17))))) (Res.ok (6 : Int)))).bind fun (b_24 : Unit) => (((un enumR (Res.ok ar_runs)).bind fun xs => loopN (fun (x_36 : (Int × (Str × Int × (List (List Int))))) (z_29 : Unit) => (ifR (orR (bin rLt (un (fun p => Res.ok p.2.1) (Res.ok x_36.2)) (Res.ok (1 : Int))) (bin rGt (un (fun p => Res.ok p.2.1) (Res.ok x_36.2)) (Res.ok (1000 : Int)))) ((Res.ok x_36.1).bind fun i => Res.exc .BadRun i) (ifR (un notR (un (fun (p : ((List (List Int)) × Int × Int)) => m_are_readings p.1 p.2.1 p.2.2) (pair (un (fun p => Res.ok p.2.2) (Res.ok x_36.2)) (pair (Res.ok ar_hours) (Res.ok ar_many_gauges))))) ((Res.ok x_36.1).bind fun i => Res.exc .BadRun i) (Res.ok ())))) xs ()).bind fun (z_71 : Unit) => (Res.ok ())))))
abbrev N_check_runs : List Str := ["hours", "many_gauges", "runs", "k", "run"]
theorem sc_check_runs : FnScope N_check_runs ["hours", "many_gauges", "runs"] (defScope s_check_runs) := ⟨rfl, rfl, rfl, by decide +kernel, rfl, by decide +kernel, by decide +kernel⟩
theorem bind_check_runs {K : PySem.W.Frag} {mg : Str → Option Value} {T : Tx K mg} : Binds K T.d_check_runs ["hours", "many_gauges", "runs"] [] := FunD.bindsN T.F_check_runs fun _ _ _ _ _ _ us hl => match us, hl with | [_, _, _], _ => rfl
abbrev sp_check_runs (K : PySem.W.Frag) : Sp := spP K (tc pI (tc pI (t1 (pL (pT (tc pS (tc pI (t1 (pL (pL pI)))))))))) (fun (p : (Int × Int × (List (Str × Int × (List (List Int)))))) => m_check_runs p.1 p.2.1 p.2.2) pN
theorem ok_check_runs (T : Tx K mg) : FnOk P w K mg base (L2.CX P w) 4 T.f_check_runs T.d_check_runs ["hours", "many_gauges", "runs"] (sp_check_runs K) := by
  refine T.F_check_runs.ok sc_check_runs (fun vs H Q E h => ?_) (fun cdv A outer s H vs Q E hr h => ?_)
  · obtain ⟨I, C, a, _, hr, _⟩ := h
    exact Rt.len _ hr
  · obtain ⟨I0, C0, ⟨ar_hours, ar_many_gauges, ar_runs⟩, hs, ⟨v_hours, us0, rfl, r_hours, v_many_gauges, us1, rfl, r_many_gauges, v_runs, rfl, r_runs⟩, hm⟩ := h
    have hm : Post (m_check_runs ar_hours ar_many_gauges ar_runs) (PQ pN I0 C0 Q) (PX E K I0 C0) := hm
    replace r_hours : Rp.r pI ar_hours v_hours I0 Z := Im.im r_hours
    replace r_many_gauges : Rp.r pI ar_many_gauges v_many_gauges I0 Z := Im.im r_many_gauges
    replace r_runs : Rp.r (pL (pT (tc pS (tc pI (t1 (pL (pL pI))))))) ar_runs v_runs I0 Z := Im.im r_runs
    unfold m_check_runs at hm
    refine ⟨_, (pss_cons (ps_if (pt_cmpR op_gt (pe_callB (r := rLen1 K) call_len_seq (by rfl) T.gb_len bt_len (pa_cons (pv 2) pa_nil)) (pe_glob (v := .int (6)) rfl T.gi_MOST_RUNS.choose_spec ⟨_, rfl⟩) (nomark _)) (pss_cons (ps_raise rfl (takes_of rfl rfl rfl rfl) (pmk_oex (T.xs .TooMany (by decide)).o (T.xs .TooMany (by decide)).ic (T.xs .TooMany (by decide)).ti (ok_err T) (hr.mono (by decide)) bind_err .nil passL rfl (T.xs .TooMany (by decide)).g (pa_cons (pe_glob (v := .int (6)) rfl T.gi_MOST_RUNS.choose_spec ⟨_, rfl⟩) pa_nil))) pss_nil) pss_nil) (pss_cons (ps_if (pt_cmpR op_eq (pe_callB (r := rLen1 K) call_len_seq (by rfl) T.gb_len bt_len (pa_cons (pv 2) pa_nil)) pe_int (nomark _)) (pss_cons (ps_raise rfl (takes_of rfl rfl rfl rfl) (pmk_oex (T.xs .BadRun (by decide)).o (T.xs .BadRun (by decide)).ic (T.xs .BadRun (by decide)).ti (ok_err T) (hr.mono (by decide)) bind_err .nil passL rfl (T.xs .BadRun (by decide)).g (pa_cons pe_int pa_nil))) pss_nil) pss_nil) (pss_cons (ps_expr (pe_call (ok_check_names T) (hr.mono (by decide)) rfl T.g_check_names T.F_check_names.kp bind_check_names .nil passE (pa_cons (pe_lc (own := [("run", 4)]) rfl sc_check_runs.nd (show PI _ _ _ (iList K _) from pi_list (pv 2)) (blkOk_by (own := [("run", 4)]) (N := N_check_runs) (sc := defScope s_check_runs) (by decide +kernel)) (fun _ _ _ _ _ => (pg_name (i := 4) sc_check_runs.nd rfl (Or.inl rfl))) (fun _ _ _ _ _ => pts_nil) (fun _ _ _ _ _ => (pe_ix (r := rIxT K) ix_tup (pv 4) pe_int (fun _ _ => rfl)))) (pa_cons (pe_glob (v := .int (6)) rfl T.gi_MOST_RUNS.choose_spec ⟨_, rfl⟩) pa_nil)))) (pss_cons (ps_for (passes_of rfl) rfl (show PI _ _ _ (iEnum K _) from pi_enum (by rfl) T.gb_enumerate (pa_cons (pv 2) pa_nil)) (show PG _ _ (gTup K 2 _) from pg_tup rfl (pgs_cons (pg_name (i := 3) sc_check_runs.nd rfl (Or.inl rfl)) (pgs_cons (pg_name (i := 4) sc_check_runs.nd rfl (Or.inl rfl)) pgs_nil))) (pss_cons (ps_if (PW.pt (pw_or (pt_cmpR op_lt (pe_ix (r := rIxT K) ix_tup (pv 4) pe_int (fun _ _ => rfl)) pe_int (nomark _)) (pw_or1 (pt_cmpR op_gt (pe_ix (r := rIxT K) ix_tup (pv 4) pe_int (fun _ _ => rfl)) (pe_glob (v := .int (1000)) rfl T.gi_MOST_WEIGHT.choose_spec ⟨_, rfl⟩) (nomark _))))) (pss_cons (ps_raise rfl (takes_of rfl rfl rfl rfl) (pmk_oex (T.xs .BadRun (by decide)).o (T.xs .BadRun (by decide)).ic (T.xs .BadRun (by decide)).ti (ok_err T) (hr.mono (by decide)) bind_err .nil passL rfl (T.xs .BadRun (by decide)).g (pa_cons (pv 3) pa_nil))) pss_nil) pss_nil) (pss_cons (ps_if (pt_not (pt_val (pe_call (ok_are_readings T) (hr.mono (by decide)) rfl T.g_are_readings T.F_are_readings.kp bind_are_readings .nil passE (pa_cons (pe_ix (r := rIxT K) ix_tup (pv 4) pe_int (fun _ _ => rfl)) (pa_cons (pv 0) (pa_cons (pv 1) pa_nil)))))) (pss_cons (ps_raise rfl (takes_of rfl rfl rfl rfl) (pmk_oex (T.xs .BadRun (by decide)).o (T.xs .BadRun (by decide)).ic (T.xs .BadRun (by decide)).ti (ok_err T) (hr.mono (by decide)) bind_err .nil passL rfl (T.xs .BadRun (by decide)).g (pa_cons (pv 3) pa_nil))) pss_nil) pss_nil) pss_nil))) pss_nil)))), ?_⟩
    refine s_if (E := E) (K := K) (σ := [some v_hours, some v_many_gauges, some v_runs, none, none]) (t_test (x_op o_gt (x_cb o_len (a_one (x_v (x_var (i := 2) rfl (Rp.mono _ (Ex.refl _) exz r_runs))))) (x_int (i := 6)))) hs (fun _ _ h => PX.mono (Ex.refl _) (Ex.refl _) h) hm (fun I_1 H_2 e_3 s_4 hm => ?_) (fun I_5 H_6 e_7 s_8 hm => ?_)
    · exact s_raise (E := E) (K := K) (σ := [some v_hours, some v_many_gauges, some v_runs, none, none]) (T.xs .TooMany (by decide)) (a_one (x_int (i := 6))) s_4 (fun _ _ h => PX.mono e_3 (Ex.refl _) h) hm
    · refine s_if (E := E) (K := K) (σ := [some v_hours, some v_many_gauges, some v_runs, none, none]) (t_test (x_op o_eqI (x_cb o_len (a_one (x_v (x_var (i := 2) rfl (Rp.mono _ e_7 exz r_runs))))) (x_int (i := 0)))) s_8 (fun _ _ h => PX.mono e_7 (Ex.refl _) h) hm (fun I_9 H_10 e_11 s_12 hm => ?_) (fun I_13 H_14 e_15 s_16 hm => ?_)
      · exact s_raise (E := E) (K := K) (σ := [some v_hours, some v_many_gauges, some v_runs, none, none]) (T.xs .BadRun (by decide)) (a_one (x_int (i := 0))) s_12 (fun _ _ h => PX.mono (e_7.trans e_11) (Ex.refl _) h) hm
      · refine s_expr (E := E) (K := K) (σ := [some v_hours, some v_many_gauges, some v_runs, none, none]) (x_call (a_cons (x_lc (i_list (x_var (i := 2) rfl (Rp.mono _ (e_7.trans e_15) exz r_runs))) g1 (fun _ _ _ _ ⟨_, h, _⟩ => by rw [h]; rfl) (fun x_17 σ2 I_18 C_19 e_20 c_21 ⟨v_22, h, r_23⟩ => by subst h; exact (x_k (k := ((0 : Nat) : Int)) (o_pj pj0) (x_var (i := 4) rfl (Rp.mono _ (Ex.refl _) exz r_23)))) (fun _ _ _ _ _ e ⟨v_22, h, r_23⟩ => ⟨v_22, h, Rp.mono _ e exz r_23⟩)) (a_one (x_int (i := 6))))) s_16 (fun _ _ h => PX.mono (e_7.trans e_15) (Ex.refl _) h) hm fun b_24 I_25 H_26 e_27 s_28 hm => ?_
        refine s_forN (E := E) (K := K) (σ := [some v_hours, some v_many_gauges, some v_runs, none, none]) (fun (z_29 : Unit) σ2 I_33 C_34 => ∃ w_31 : Option V, ∃ w_32 : Option V, σ2 = [some v_hours, some v_many_gauges, some v_runs, w_31, w_32] ∧ Ex C0 C_34) (i_enum (a_one (x_var (i := 2) rfl (Rp.mono _ (e_7.trans (e_15.trans e_27)) exz r_runs)))) s_28 (fun _ _ h => PX.mono (e_7.trans (e_15.trans e_27)) (Ex.refl _) h) hm (fun _ e_44 => ⟨none, none, rfl, (Ex.refl _)⟩) (fun _ _ _ _ _ => trivial) (fun _ _ _ _ _ e ⟨w_31, w_32, hs_30, fr_35⟩ => ⟨w_31, w_32, hs_30, fr_35⟩) (fun N x_36 v_37 z_29 σ2 I_38 C_39 H_40 e_41 s_42 ⟨w_31, w_32, hs_30, fr_35⟩ r_43 hm => ?_) (fun z_71 σ2 I_66 C_67 H_68 e_69 s_70 ⟨w_73, w_74, hs_72, fr_77⟩ hm => ?_)
        · subst hs_30
          refine g2 (K := K) x_36 v_37 I_38 C_39 H_40 _ s_42 r_43 fun σ2 ⟨v_45, v_46, hs_49, r_47, r_48⟩ => ?_
          subst hs_49
          refine s_if (E := E) (K := K) (σ := [some v_hours, some v_many_gauges, some v_runs, some v_45, some v_46]) (t_or (t_test (x_op o_lt (x_k (k := ((1 : Nat) : Int)) (o_pj (pjs pj0)) (x_var (i := 4) rfl (Rp.mono _ (Ex.refl _) exz r_48))) (x_int (i := 1)))) (t_test (x_op o_gt (x_k (k := ((1 : Nat) : Int)) (o_pj (pjs pj0)) (x_var (i := 4) rfl (Rp.mono _ (Ex.refl _) exz r_48))) (x_int (i := 1000))))) s_42 (fun _ _ h => PX.mono (e_7.trans (e_15.trans (e_27.trans e_41))) fr_35 h) hm (fun I_50 H_51 e_52 s_53 hm => ?_) (fun I_54 H_55 e_56 s_57 hm => ?_)
          · exact s_raise (E := E) (K := K) (σ := [some v_hours, some v_many_gauges, some v_runs, some v_45, some v_46]) (T.xs .BadRun (by decide)) (a_one (x_var (i := 3) rfl (Rp.mono _ e_52 exz r_47))) s_53 (fun _ _ h => PX.mono (e_7.trans (e_15.trans (e_27.trans (e_41.trans e_52)))) fr_35 h) hm
          · refine s_if (E := E) (K := K) (σ := [some v_hours, some v_many_gauges, some v_runs, some v_45, some v_46]) (t_not (t_B (x_call (a_cons (x_k (k := ((2 : Nat) : Int)) (o_pj (pjs (pjs pj1))) (x_var (i := 4) rfl (Rp.mono _ e_56 exz r_48))) (a_cons (x_var (i := 0) rfl (Rp.mono _ (e_7.trans (e_15.trans (e_27.trans (e_41.trans e_56)))) exz r_hours)) (a_one (x_var (i := 1) rfl (Rp.mono _ (e_7.trans (e_15.trans (e_27.trans (e_41.trans e_56)))) exz r_many_gauges)))))))) s_57 (fun _ _ h => PX.mono (e_7.trans (e_15.trans (e_27.trans (e_41.trans e_56)))) fr_35 h) hm (fun I_58 H_59 e_60 s_61 hm => ?_) (fun I_62 H_63 e_64 s_65 hm => ?_)
            · exact s_raise (E := E) (K := K) (σ := [some v_hours, some v_many_gauges, some v_runs, some v_45, some v_46]) (T.xs .BadRun (by decide)) (a_one (x_var (i := 3) rfl (Rp.mono _ (e_56.trans e_60) exz r_47))) s_61 (fun _ _ h => PX.mono (e_7.trans (e_15.trans (e_27.trans (e_41.trans (e_56.trans e_60))))) fr_35 h) hm
            · exact hm _ _ _ _ (e_56.trans e_64) s_65 ⟨some v_45, some v_46, rfl, fr_35⟩
        subst hs_72
        exact hm .non _ _ (e_7.trans (e_15.trans (e_27.trans e_69))) (St.less s_70 fr_77) rfl
def m_World_init (ar_top : Int) (ar_hours : Int) (ar_areas : (List (Str × Int))) (ar_gauges : (List (Str × Int × (List Int)))) (ar_runs : (List (Str × Int × (List (List Int))))) : Res (Int × Int × (List (Str × Int)) × (List (Str × Int × (List Int))) × (List (Str × Int × (List (List Int))))) :=
  (ifR (orR (bin rLt (Res.ok ar_top) (Res.ok (1 : Int))) (bin rGt (Res.ok ar_top) (Res.ok (4 : Int)))) ((Res.ok (0 : Int)).bind fun i => Res.exc .BadWorld i) (ifR (orR (bin rLt (Res.ok ar_hours) (Res.ok (1 : Int))) (bin rGt (Res.ok ar_hours) (Res.ok (24 : Int)))) ((Res.ok (1 : Int)).bind fun i => Res.exc .BadWorld i) ((un m_check_areas (Res.ok ar_areas)).bind fun (b_17 : Unit) => ((un (fun (p : (Int × Int × (List (Str × Int × (List Int))))) => m_check_gauges p.1 p.2.1 p.2.2) (pair (Res.ok ar_top) (pair (un rLen (Res.ok ar_areas)) (Res.ok ar_gauges)))).bind fun (b_22 : Unit) => ((un (fun (p : (Int × Int × (List (Str × Int × (List (List Int)))))) => m_check_runs p.1 p.2.1 p.2.2) (pair (Res.ok ar_hours) (pair (un rLen (Res.ok ar_gauges)) (Res.ok ar_runs)))).bind fun (b_27 : Unit) => ((Res.ok ar_top).bind fun (top_32 : Int) => ((Res.ok ar_hours).bind fun (hours_43 : Int) => ((Res.ok ar_areas).bind fun (areas_54 : (List (Str × Int))) => ((Res.ok ar_gauges).bind fun (gauges_65 : (List (Str × Int × (List Int)))) => ((Res.ok ar_runs).bind fun (runs_76 : (List (Str × Int × (List (List Int))))) => (Res.ok (top_32, hours_43, areas_54, gauges_65, runs_76))))))))))))
abbrev N_World_init : List Str := ["self", "top", "hours", "areas", "gauges", "runs"]
theorem sc_World_init : FnScope N_World_init ["self", "top", "hours", "areas", "gauges", "runs"] (defScope s_World_init) := ⟨rfl, rfl, rfl, by decide +kernel, rfl, by decide +kernel, by decide +kernel⟩
theorem bind_World_init {K : PySem.W.Frag} {mg : Str → Option Value} {T : Tx K mg} : Binds K T.d_World_init ["self", "top", "hours", "areas", "gauges", "runs"] [] := FunD.bindsN T.F_World_init fun _ _ _ _ _ _ us hl => match us, hl with | [_, _, _, _, _, _], _ => rfl
abbrev sp_World_init (K : PySem.W.Frag) : Sp := spI K (He.ga K "World") ns_World (tc pI (tc pI (tc (pQ K (pT (tc pS (t1 pI)))) (tc (pQ K (pT (tc pS (tc pI (t1 (pQ K pI)))))) (t1 (pQ K (pT (tc pS (tc pI (t1 (pQ K (pQ K pI)))))))))))) (tc pI (tc pI (tc (pL (pT (tc pS (t1 pI)))) (tc (pL (pT (tc pS (tc pI (t1 (pL pI)))))) (t1 (pL (pT (tc pS (tc pI (t1 (pL (pL pI)))))))))))) (fun (p : (Int × Int × (List (Str × Int)) × (List (Str × Int × (List Int))) × (List (Str × Int × (List (List Int)))))) => m_World_init p.1 p.2.1 p.2.2.1 p.2.2.2.1 p.2.2.2.2)
theorem ok_World_init (T : Tx K mg) : FnOk P w K mg base (L2.CX P w) 9 T.f_World_init T.d_World_init ["self", "top", "hours", "areas", "gauges", "runs"] (sp_World_init K) := by
  refine T.F_World_init.ok sc_World_init (fun vs H Q E h => ?_) (fun cdv A outer s H vs Q E hr h => ?_)
  · obtain ⟨I, C, x, dx, us, a, rfl, _, _, hr, _⟩ := h
    exact congrArg (· + 1) (Rt.len _ hr)
  · obtain ⟨I0, C0, x0, dx0, us, ⟨ar_top, ar_hours, ar_areas, ar_gauges, ar_runs⟩, rfl, hs, hc0, ⟨v_top, us0, rfl, r_top, v_hours, us1, rfl, r_hours, v_areas, us2, rfl, r_areas, v_gauges, us3, rfl, r_gauges, v_runs, rfl, r_runs⟩, hm⟩ := h
    have hm : Post (m_World_init ar_top ar_hours ar_areas ar_gauges ar_runs) (fun y => ∀ vs' I2 H2, Ex I0 I2 → St I2 (upd C0 x0 (.ins (He.ga K "World") dx0 (ns_World.zip vs'))) H2 → Rt.r (tc pI (tc pI (tc (pQ K (pT (tc pS (t1 pI)))) (tc (pQ K (pT (tc pS (tc pI (t1 (pQ K pI)))))) (t1 (pQ K (pT (tc pS (tc pI (t1 (pQ K (pQ K pI)))))))))))) y vs' I2 Z → Q .non H2) (PX E K I0 (off C0 x0)) := hm
    replace r_top : Rp.r pI ar_top v_top I0 Z := Im.im r_top
    replace r_hours : Rp.r pI ar_hours v_hours I0 Z := Im.im r_hours
    replace r_areas : Rp.r (pL (pT (tc pS (t1 pI)))) ar_areas v_areas I0 Z := Im.im r_areas
    replace r_gauges : Rp.r (pL (pT (tc pS (tc pI (t1 (pL pI)))))) ar_gauges v_gauges I0 Z := Im.im r_gauges
    replace r_runs : Rp.r (pL (pT (tc pS (tc pI (t1 (pL (pL pI))))))) ar_runs v_runs I0 Z := Im.im r_runs
    unfold m_World_init at hm
    refine ⟨_, (pss_cons (ps_if (PW.pt (pw_or (pt_cmpR op_lt (pv 1) pe_int (nomark _)) (pw_or1 (pt_cmpR op_gt (pv 1) (pe_glob (v := .int (4)) rfl T.gi_MOST_TOP.choose_spec ⟨_, rfl⟩) (nomark _))))) (pss_cons (ps_raise rfl (takes_of rfl rfl rfl rfl) (pmk_oex (T.xs .BadWorld (by decide)).o (T.xs .BadWorld (by decide)).ic (T.xs .BadWorld (by decide)).ti (ok_err T) (hr.mono (by decide)) bind_err .nil passL rfl (T.xs .BadWorld (by decide)).g (pa_cons pe_int pa_nil))) pss_nil) pss_nil) (pss_cons (ps_if (PW.pt (pw_or (pt_cmpR op_lt (pv 2) pe_int (nomark _)) (pw_or1 (pt_cmpR op_gt (pv 2) (pe_glob (v := .int (24)) rfl T.gi_MOST_HOURS.choose_spec ⟨_, rfl⟩) (nomark _))))) (pss_cons (ps_raise rfl (takes_of rfl rfl rfl rfl) (pmk_oex (T.xs .BadWorld (by decide)).o (T.xs .BadWorld (by decide)).ic (T.xs .BadWorld (by decide)).ti (ok_err T) (hr.mono (by decide)) bind_err .nil passL rfl (T.xs .BadWorld (by decide)).g (pa_cons pe_int pa_nil))) pss_nil) pss_nil) (pss_cons (ps_expr (pe_call (ok_check_areas T) (hr.mono (by decide)) rfl T.g_check_areas T.F_check_areas.kp bind_check_areas .nil passE (pa_cons (pv 3) pa_nil))) (pss_cons (ps_expr (pe_call (ok_check_gauges T) (hr.mono (by decide)) rfl T.g_check_gauges T.F_check_gauges.kp bind_check_gauges .nil passE (pa_cons (pv 1) (pa_cons (pe_callB (r := rLen1 K) call_len_seq (by rfl) T.gb_len bt_len (pa_cons (pv 3) pa_nil)) (pa_cons (pv 4) pa_nil))))) (pss_cons (ps_expr (pe_call (ok_check_runs T) (hr.mono (by decide)) rfl T.g_check_runs T.F_check_runs.kp bind_check_runs .nil passE (pa_cons (pv 2) (pa_cons (pe_callB (r := rLen1 K) call_len_seq (by rfl) T.gb_len bt_len (pa_cons (pv 4) pa_nil)) (pa_cons (pv 5) pa_nil))))) (pss_cons (ps_fld (pv 0) (pv 1) (by rfl)) (pss_cons (ps_fld (pv 0) (pv 2) (by rfl)) (pss_cons (ps_fld (pv 0) (pe_call (ok_frozen T 7) (hr.mono (by decide)) rfl T.g_frozen T.F_frozen.kp bind_frozen .nil passE (pa_cons (pv 3) pa_nil)) (by rfl)) (pss_cons (ps_fld (pv 0) (pe_call (ok_frozen T 7) (hr.mono (by decide)) rfl T.g_frozen T.F_frozen.kp bind_frozen .nil passE (pa_cons (pv 4) pa_nil)) (by rfl)) (pss_cons (ps_fld (pv 0) (pe_call (ok_frozen T 7) (hr.mono (by decide)) rfl T.g_frozen T.F_frozen.kp bind_frozen .nil passE (pa_cons (pv 5) pa_nil)) (by rfl)) pss_nil)))))))))), ?_⟩
    refine s_if (E := E) (K := K) (σ := [some (.ref x0), some v_top, some v_hours, some v_areas, some v_gauges, some v_runs]) (t_or (t_test (x_op o_lt (x_var (i := 1) rfl (Rp.mono _ (Ex.refl _) exz r_top)) (x_int (i := 1)))) (t_test (x_op o_gt (x_var (i := 1) rfl (Rp.mono _ (Ex.refl _) exz r_top)) (x_int (i := 4))))) hs (fun _ _ h => PX.mono (Ex.refl _) (off_ex (C := C0) (p := x0)) h) hm (fun I_1 H_2 e_3 s_4 hm => ?_) (fun I_5 H_6 e_7 s_8 hm => ?_)
    · exact s_raise (E := E) (K := K) (σ := [some (.ref x0), some v_top, some v_hours, some v_areas, some v_gauges, some v_runs]) (T.xs .BadWorld (by decide)) (a_one (x_int (i := 0))) s_4 (fun _ _ h => PX.mono e_3 (off_ex (C := C0) (p := x0)) h) hm
    · refine s_if (E := E) (K := K) (σ := [some (.ref x0), some v_top, some v_hours, some v_areas, some v_gauges, some v_runs]) (t_or (t_test (x_op o_lt (x_var (i := 2) rfl (Rp.mono _ e_7 exz r_hours)) (x_int (i := 1)))) (t_test (x_op o_gt (x_var (i := 2) rfl (Rp.mono _ e_7 exz r_hours)) (x_int (i := 24))))) s_8 (fun _ _ h => PX.mono e_7 (off_ex (C := C0) (p := x0)) h) hm (fun I_9 H_10 e_11 s_12 hm => ?_) (fun I_13 H_14 e_15 s_16 hm => ?_)
      · exact s_raise (E := E) (K := K) (σ := [some (.ref x0), some v_top, some v_hours, some v_areas, some v_gauges, some v_runs]) (T.xs .BadWorld (by decide)) (a_one (x_int (i := 1))) s_12 (fun _ _ h => PX.mono (e_7.trans e_11) (off_ex (C := C0) (p := x0)) h) hm
      · refine s_expr (E := E) (K := K) (σ := [some (.ref x0), some v_top, some v_hours, some v_areas, some v_gauges, some v_runs]) (x_call (a_one (x_var (i := 3) rfl (Rp.mono _ (e_7.trans e_15) exz r_areas)))) s_16 (fun _ _ h => PX.mono (e_7.trans e_15) (off_ex (C := C0) (p := x0)) h) hm fun b_17 I_18 H_19 e_20 s_21 hm => ?_
        refine s_expr (E := E) (K := K) (σ := [some (.ref x0), some v_top, some v_hours, some v_areas, some v_gauges, some v_runs]) (x_call (a_cons (x_var (i := 1) rfl (Rp.mono _ (e_7.trans (e_15.trans e_20)) exz r_top)) (a_cons (x_cb o_len (a_one (x_v (x_var (i := 3) rfl (Rp.mono _ (e_7.trans (e_15.trans e_20)) exz r_areas))))) (a_one (x_var (i := 4) rfl (Rp.mono _ (e_7.trans (e_15.trans e_20)) exz r_gauges)))))) s_21 (fun _ _ h => PX.mono (e_7.trans (e_15.trans e_20)) (off_ex (C := C0) (p := x0)) h) hm fun b_22 I_23 H_24 e_25 s_26 hm => ?_
        refine s_expr (E := E) (K := K) (σ := [some (.ref x0), some v_top, some v_hours, some v_areas, some v_gauges, some v_runs]) (x_call (a_cons (x_var (i := 2) rfl (Rp.mono _ (e_7.trans (e_15.trans (e_20.trans e_25))) exz r_hours)) (a_cons (x_cb o_len (a_one (x_v (x_var (i := 4) rfl (Rp.mono _ (e_7.trans (e_15.trans (e_20.trans e_25))) exz r_gauges))))) (a_one (x_var (i := 5) rfl (Rp.mono _ (e_7.trans (e_15.trans (e_20.trans e_25))) exz r_runs)))))) s_26 (fun _ _ h => PX.mono (e_7.trans (e_15.trans (e_20.trans e_25))) (off_ex (C := C0) (p := x0)) h) hm fun b_27 I_28 H_29 e_30 s_31 hm => ?_
        refine q_fld (E := E) (K := K) (σ := [some (.ref x0), some v_top, some v_hours, some v_areas, some v_gauges, some v_runs]) (i := 0) (f := "top") (fs := ([] : List (Str × V))) T.c_World T.n_World_top (Nat.le_of_ble_eq_true rfl) rfl hc0 (x_var (i := 1) rfl (Rp.mono _ (e_7.trans (e_15.trans (e_20.trans (e_25.trans e_30)))) exz r_top)) s_31 (fun _ _ h => PX.mono (e_7.trans (e_15.trans (e_20.trans (e_25.trans e_30)))) (off_ex (C := C0) (p := x0)) h) hm fun top_32 v_33 I_34 C_35 H_36 e_37 s_38 hc_39 k_40 r_41 hm => ?_
        rw [putF_new (by rfl)] at hc_39
        have fr_42 := fr_pool (off_ex (C := C0) (p := x0)) k_40
        refine q_fld (E := E) (K := K) (σ := [some (.ref x0), some v_top, some v_hours, some v_areas, some v_gauges, some v_runs]) (i := 0) (f := "hours") (fs := (([] : List (Str × V)) ++ [(("top" : Str), v_33)])) T.c_World T.n_World_hours (Nat.le_of_ble_eq_true rfl) rfl hc_39 (x_var (i := 2) rfl (Rp.mono _ (e_7.trans (e_15.trans (e_20.trans (e_25.trans (e_30.trans e_37))))) exz r_hours)) s_38 (fun _ _ h => PX.mono (e_7.trans (e_15.trans (e_20.trans (e_25.trans (e_30.trans e_37))))) fr_42 h) hm fun hours_43 v_44 I_45 C_46 H_47 e_48 s_49 hc_50 k_51 r_52 hm => ?_
        rw [putF_new (by rfl)] at hc_50
        have fr_53 := fr_pool fr_42 k_51
        refine q_fld (E := E) (K := K) (σ := [some (.ref x0), some v_top, some v_hours, some v_areas, some v_gauges, some v_runs]) (i := 0) (f := "areas") (fs := ((([] : List (Str × V)) ++ [(("top" : Str), v_33)]) ++ [(("hours" : Str), v_44)])) T.c_World T.n_World_areas (Nat.le_of_ble_eq_true rfl) rfl hc_50 (x_frz (fz_L (fz_T (fr_cons fz_str (fr_one fz_int) (Nat.le_of_ble_eq_true rfl)))) (by decide) (x_var (i := 3) rfl (Rp.mono _ (e_7.trans (e_15.trans (e_20.trans (e_25.trans (e_30.trans (e_37.trans e_48)))))) exz r_areas))) s_49 (fun _ _ h => PX.mono (e_7.trans (e_15.trans (e_20.trans (e_25.trans (e_30.trans (e_37.trans e_48)))))) fr_53 h) hm fun areas_54 v_55 I_56 C_57 H_58 e_59 s_60 hc_61 k_62 r_63 hm => ?_
        rw [putF_new (by rfl)] at hc_61
        have fr_64 := fr_pool fr_53 k_62
        refine q_fld (E := E) (K := K) (σ := [some (.ref x0), some v_top, some v_hours, some v_areas, some v_gauges, some v_runs]) (i := 0) (f := "gauges") (fs := (((([] : List (Str × V)) ++ [(("top" : Str), v_33)]) ++ [(("hours" : Str), v_44)]) ++ [(("areas" : Str), v_55)])) T.c_World T.n_World_gauges (Nat.le_of_ble_eq_true rfl) rfl hc_61 (x_frz (fz_L (fz_T (fr_cons fz_str (fr_cons fz_int (fr_one (fz_L fz_int)) (Nat.le_of_ble_eq_true rfl)) (Nat.le_of_ble_eq_true rfl)))) (by decide) (x_var (i := 4) rfl (Rp.mono _ (e_7.trans (e_15.trans (e_20.trans (e_25.trans (e_30.trans (e_37.trans (e_48.trans e_59))))))) exz r_gauges))) s_60 (fun _ _ h => PX.mono (e_7.trans (e_15.trans (e_20.trans (e_25.trans (e_30.trans (e_37.trans (e_48.trans e_59))))))) fr_64 h) hm fun gauges_65 v_66 I_67 C_68 H_69 e_70 s_71 hc_72 k_73 r_74 hm => ?_
        rw [putF_new (by rfl)] at hc_72
        have fr_75 := fr_pool fr_64 k_73
        refine q_fld (E := E) (K := K) (σ := [some (.ref x0), some v_top, some v_hours, some v_areas, some v_gauges, some v_runs]) (i := 0) (f := "runs") (fs := ((((([] : List (Str × V)) ++ [(("top" : Str), v_33)]) ++ [(("hours" : Str), v_44)]) ++ [(("areas" : Str), v_55)]) ++ [(("gauges" : Str), v_66)])) T.c_World T.n_World_runs (Nat.le_of_ble_eq_true rfl) rfl hc_72 (x_frz (fz_L (fz_T (fr_cons fz_str (fr_cons fz_int (fr_one (fz_L (fz_L fz_int))) (Nat.le_of_ble_eq_true rfl)) (Nat.le_of_ble_eq_true rfl)))) (by decide) (x_var (i := 5) rfl (Rp.mono _ (e_7.trans (e_15.trans (e_20.trans (e_25.trans (e_30.trans (e_37.trans (e_48.trans (e_59.trans e_70)))))))) exz r_runs))) s_71 (fun _ _ h => PX.mono (e_7.trans (e_15.trans (e_20.trans (e_25.trans (e_30.trans (e_37.trans (e_48.trans (e_59.trans e_70)))))))) fr_75 h) hm fun runs_76 v_77 I_78 C_79 H_80 e_81 s_82 hc_83 k_84 r_85 hm => ?_
        rw [putF_new (by rfl)] at hc_83
        have fr_86 := fr_pool fr_75 k_84
        exact ret_init (vs := [v_33, v_44, v_55, v_66, v_77]) hm (e_7.trans (e_15.trans (e_20.trans (e_25.trans (e_30.trans (e_37.trans (e_48.trans (e_59.trans (e_70.trans e_81))))))))) fr_86 s_82 hc_83 ⟨_, _, rfl, Rp.mono _ (e_48.trans (e_59.trans (e_70.trans e_81))) exz r_41, _, _, rfl, Rp.mono _ (e_59.trans (e_70.trans e_81)) exz r_52, _, _, rfl, Rp.mono _ (e_70.trans e_81) exz r_63, _, _, rfl, Rp.mono _ e_81 exz r_74, _, rfl, Rp.mono _ (Ex.refl _) exz r_85⟩
def m_parents_of (ar_world : (Int × Int × (List (Str × Int)) × (List (Str × Int × (List Int))) × (List (Str × Int × (List (List Int)))))) : Res (List Int) :=
  (((un (fun p => Res.ok p.2.2.1) (Res.ok ar_world)).bind (mapR (fun (x_1 : (Str × Int)) => (un (fun p => Res.ok p.2) (Res.ok x_1))))).bind fun a_8 => Res.ok a_8)
abbrev N_parents_of : List Str := ["world", "area"]
theorem sc_parents_of : FnScope N_parents_of ["world"] (defScope s_parents_of) := ⟨rfl, rfl, rfl, by decide +kernel, rfl, by decide +kernel, by decide +kernel⟩
theorem bind_parents_of {K : PySem.W.Frag} {mg : Str → Option Value} {T : Tx K mg} : Binds K T.d_parents_of ["world"] [] := FunD.bindsN T.F_parents_of fun _ _ _ _ _ _ us hl => match us, hl with | [_], _ => rfl
abbrev sp_parents_of (K : PySem.W.Frag) : Sp := spP K (t1 (pC (He.ga K "World") ns_World (tc pI (tc pI (tc (pQ K (pT (tc pS (t1 pI)))) (tc (pQ K (pT (tc pS (tc pI (t1 (pQ K pI)))))) (t1 (pQ K (pT (tc pS (tc pI (t1 (pQ K (pQ K pI)))))))))))))) m_parents_of (pL pI)
theorem ok_parents_of (T : Tx K mg) : FnOk P w K mg base (L2.CX P w) 1 T.f_parents_of T.d_parents_of ["world"] (sp_parents_of K) := by
  refine T.F_parents_of.ok sc_parents_of (fun vs H Q E h => ?_) (fun cdv A outer s H vs Q E hr h => ?_)
  · obtain ⟨I, C, a, _, hr, _⟩ := h
    exact Rt.len _ hr
  · obtain ⟨I0, C0, ar_world, hs, ⟨v_world, rfl, r_world⟩, hm⟩ := h
    have hm : Post (m_parents_of ar_world) (PQ (pL pI) I0 C0 Q) (PX E K I0 C0) := hm
    replace r_world : Rp.r (pC (He.ga K "World") ns_World (tc pI (tc pI (tc (pQ K (pT (tc pS (t1 pI)))) (tc (pQ K (pT (tc pS (tc pI (t1 (pQ K pI)))))) (t1 (pQ K (pT (tc pS (tc pI (t1 (pQ K (pQ K pI))))))))))))) ar_world v_world I0 Z := Im.im r_world
    unfold m_parents_of at hm
    refine ⟨_, (pss_cons (ps_ret (pe_lc (own := [("area", 1)]) rfl sc_parents_of.nd (show PI _ _ _ (iTup K _) from pi_tup (pe_fld (pv 0) (by rfl))) (blkOk_by (own := [("area", 1)]) (N := N_parents_of) (sc := defScope s_parents_of) (by decide +kernel)) (fun _ _ _ _ _ => (pg_name (i := 1) sc_parents_of.nd rfl (Or.inl rfl))) (fun _ _ _ _ _ => pts_nil) (fun _ _ _ _ _ => (pe_ix (r := rIxT K) ix_tup (pv 1) pe_int (fun _ _ => rfl))))) pss_nil), ?_⟩
    refine q_ret (tz := tNext) (E := E) (K := K) (σ := [some v_world, none]) (x_lc (i_tup (x_fld (k := 2) (f := "areas") T.c_World T.n_World_areas rfl (nodup_to (by decide +kernel)) rfl (pjs (pjs pj0)) (x_var (i := 0) rfl (Rp.mono _ (Ex.refl _) exz r_world)))) g1 (fun _ _ _ _ ⟨_, h, _⟩ => by rw [h]; rfl) (fun x_1 σ2 I_2 C_3 e_4 c_5 ⟨v_6, h, r_7⟩ => by subst h; exact (x_k (k := ((1 : Nat) : Int)) (o_pj (pjs pj1)) (x_var (i := 1) rfl (Rp.mono _ (Ex.refl _) exz r_7)))) (fun _ _ _ _ _ e ⟨v_6, h, r_7⟩ => ⟨v_6, h, Rp.mono _ e exz r_7⟩)) hs (fun _ _ h => PX.mono (Ex.refl _) (Ex.refl _) h) hm fun a_8 v_9 I_10 H_11 e_12 s_13 r_14 hm => ?_
    exact hm v_9 I_10 H_11 e_12 (St.less s_13 (Ex.refl _)) (Im.im r_14)
def m_level_of (ar_limits : (List Int)) (ar_value : Int) : Res Int :=
  ((un rLen ((Res.ok ar_limits).bind (filR (fun (x_1 : Int) => (bin rLe (Res.ok x_1) (Res.ok ar_value))) (fun (x_1 : Int) => (Res.ok x_1))))).bind fun a_8 => Res.ok a_8)
abbrev N_level_of : List Str := ["limits", "value", "limit"]
theorem sc_level_of : FnScope N_level_of ["limits", "value"] (defScope s_level_of) := ⟨rfl, rfl, rfl, by decide +kernel, rfl, by decide +kernel, by decide +kernel⟩
theorem bind_level_of {K : PySem.W.Frag} {mg : Str → Option Value} {T : Tx K mg} : Binds K T.d_level_of ["limits", "value"] [] := FunD.bindsN T.F_level_of fun _ _ _ _ _ _ us hl => match us, hl with | [_, _], _ => rfl
abbrev sp_level_of (K : PySem.W.Frag) : Sp := spP K (tc (pQ K pI) (t1 pI)) (fun (p : ((List Int) × Int)) => m_level_of p.1 p.2) pI
theorem ok_level_of (T : Tx K mg) : FnOk P w K mg base (L2.CX P w) 1 T.f_level_of T.d_level_of ["limits", "value"] (sp_level_of K) := by
  refine T.F_level_of.ok sc_level_of (fun vs H Q E h => ?_) (fun cdv A outer s H vs Q E hr h => ?_)
  · obtain ⟨I, C, a, _, hr, _⟩ := h
    exact Rt.len _ hr
  · obtain ⟨I0, C0, ⟨ar_limits, ar_value⟩, hs, ⟨v_limits, us0, rfl, r_limits, v_value, rfl, r_value⟩, hm⟩ := h
    have hm : Post (m_level_of ar_limits ar_value) (PQ pI I0 C0 Q) (PX E K I0 C0) := hm
    replace r_limits : Rp.r (pQ K pI) ar_limits v_limits I0 Z := Im.im r_limits
    replace r_value : Rp.r pI ar_value v_value I0 Z := Im.im r_value
    unfold m_level_of at hm
    refine ⟨_, (pss_cons (ps_ret (pe_callB (r := rLen1 K) call_len_seq (by rfl) T.gb_len bt_len (pa_cons (pe_lc (own := [("limit", 2)]) rfl sc_level_of.nd (show PI _ _ _ (iTup K _) from pi_tup (pv 0)) (blkOk_by (own := [("limit", 2)]) (N := N_level_of) (sc := defScope s_level_of) (by decide +kernel)) (fun _ _ _ _ _ => (pg_name (i := 2) sc_level_of.nd rfl (Or.inl rfl))) (fun _ _ _ _ _ => (pts_one (pt_cmpR op_le (pv 2) (pv 1) (nomark _)))) (fun _ _ _ _ _ => (pv 2))) pa_nil))) pss_nil), ?_⟩
    refine q_ret (tz := tNext) (E := E) (K := K) (σ := [some v_limits, some v_value, none]) (x_cb o_len (a_one (x_v (x_lcg (i_tup (x_var (i := 0) rfl (Rp.mono _ (Ex.refl _) exz r_limits))) g1 (fun _ _ _ _ ⟨_, h, _⟩ => by rw [h]; rfl) (fun x_1 σ2 I_2 C_3 e_4 c_5 ⟨v_6, h, r_7⟩ => by subst h; exact (t_test (x_op o_le (x_var (i := 2) rfl (Rp.mono _ (Ex.refl _) exz r_7)) (x_var (i := 1) rfl (Rp.mono _ e_4 exz r_value))))) (fun x_1 σ2 I_2 C_3 e_4 c_5 ⟨v_6, h, r_7⟩ => by subst h; exact (x_var (i := 2) rfl (Rp.mono _ (Ex.refl _) exz r_7))) (fun _ _ _ _ _ e ⟨v_6, h, r_7⟩ => ⟨v_6, h, Rp.mono _ e exz r_7⟩))))) hs (fun _ _ h => PX.mono (Ex.refl _) (Ex.refl _) h) hm fun a_8 v_9 I_10 H_11 e_12 s_13 r_14 hm => ?_
    exact hm v_9 I_10 H_11 e_12 (St.less s_13 (Ex.refl _)) (Im.im r_14)
def m_gauges_under (ar_world : (Int × Int × (List (Str × Int)) × (List (Str × Int × (List Int))) × (List (Str × Int × (List (List Int)))))) (ar_area : Int) : Res (List Int) :=
  ((un (fun (p : ((List Int) × Int)) => m_below p.1 p.2) (pair (un m_parents_of (Res.ok ar_world)) (Res.ok ar_area))).bind fun (inside_1 : (List Int)) => (((un enumR (un (fun p => Res.ok p.2.2.2.1) (Res.ok ar_world))).bind (filR (fun (x_8 : (Int × (Str × Int × (List Int)))) => (bin inR (un (fun p => Res.ok p.2.1) (Res.ok x_8.2)) (Res.ok inside_1))) (fun (x_8 : (Int × (Str × Int × (List Int)))) => (Res.ok x_8.1)))).bind fun a_17 => Res.ok a_17))
abbrev N_gauges_under : List Str := ["world", "area", "inside", "k", "gauge"]
theorem sc_gauges_under : FnScope N_gauges_under ["world", "area"] (defScope s_gauges_under) := ⟨rfl, rfl, rfl, by decide +kernel, rfl, by decide +kernel, by decide +kernel⟩
theorem bind_gauges_under {K : PySem.W.Frag} {mg : Str → Option Value} {T : Tx K mg} : Binds K T.d_gauges_under ["world", "area"] [] := FunD.bindsN T.F_gauges_under fun _ _ _ _ _ _ us hl => match us, hl with | [_, _], _ => rfl
abbrev sp_gauges_under (K : PySem.W.Frag) : Sp := spP K (tc (pC (He.ga K "World") ns_World (tc pI (tc pI (tc (pQ K (pT (tc pS (t1 pI)))) (tc (pQ K (pT (tc pS (tc pI (t1 (pQ K pI)))))) (t1 (pQ K (pT (tc pS (tc pI (t1 (pQ K (pQ K pI))))))))))))) (t1 pI)) (fun (p : ((Int × Int × (List (Str × Int)) × (List (Str × Int × (List Int))) × (List (Str × Int × (List (List Int))))) × Int)) => m_gauges_under p.1 p.2) (pL pI)
theorem ok_gauges_under (T : Tx K mg) : FnOk P w K mg base (L2.CX P w) 3 T.f_gauges_under T.d_gauges_under ["world", "area"] (sp_gauges_under K) := by
  refine T.F_gauges_under.ok sc_gauges_under (fun vs H Q E h => ?_) (fun cdv A outer s H vs Q E hr h => ?_)
  · obtain ⟨I, C, a, _, hr, _⟩ := h
    exact Rt.len _ hr
  · obtain ⟨I0, C0, ⟨ar_world, ar_area⟩, hs, ⟨v_world, us0, rfl, r_world, v_area, rfl, r_area⟩, hm⟩ := h
    have hm : Post (m_gauges_under ar_world ar_area) (PQ (pL pI) I0 C0 Q) (PX E K I0 C0) := hm
    replace r_world : Rp.r (pC (He.ga K "World") ns_World (tc pI (tc pI (tc (pQ K (pT (tc pS (t1 pI)))) (tc (pQ K (pT (tc pS (tc pI (t1 (pQ K pI)))))) (t1 (pQ K (pT (tc pS (tc pI (t1 (pQ K (pQ K pI))))))))))))) ar_world v_world I0 Z := Im.im r_world
    replace r_area : Rp.r pI ar_area v_area I0 Z := Im.im r_area
    unfold m_gauges_under at hm
    refine ⟨_, (pss_cons (ps_set (i := 2) sc_gauges_under.nd rfl (Or.inr rfl) (pe_call (ok_below T) (hr.mono (by decide)) rfl T.g_below T.F_below.kp bind_below .nil passE (pa_cons (pe_call (ok_parents_of T) (hr.mono (by decide)) rfl T.g_parents_of T.F_parents_of.kp bind_parents_of .nil passE (pa_cons (pv 0) pa_nil)) (pa_cons (pv 1) pa_nil)))) (pss_cons (ps_ret (pe_lc (own := [("k", 3), ("gauge", 4)]) rfl sc_gauges_under.nd (show PI _ _ _ (iEnumT K _) from pi_enumT (by rfl) T.gb_enumerate (pa_cons (pe_fld (pv 0) (by rfl)) pa_nil)) (blkOk_by (own := [("k", 3), ("gauge", 4)]) (N := N_gauges_under) (sc := defScope s_gauges_under) (by decide +kernel)) (fun _ _ _ _ _ => (show PG _ _ (gTup K 2 _) from pg_tup rfl (pgs_cons (pg_name (i := 3) sc_gauges_under.nd rfl (Or.inl rfl)) (pgs_cons (pg_name (i := 4) sc_gauges_under.nd rfl (Or.inl rfl)) pgs_nil)))) (fun _ _ _ _ _ => (pts_one (pt_cmpR (r := rIn K false) op_in_seq (pe_ix (r := rIxT K) ix_tup (pv 4) pe_int (fun _ _ => rfl)) (pv 2) rfl))) (fun _ _ _ _ _ => (pv 3)))) pss_nil)), ?_⟩
    refine q_asg (E := E) (K := K) (σ := [some v_world, some v_area, none, none, none]) (i := 2) (x_call (a_cons (x_call (a_one (x_var (i := 0) rfl (Rp.mono _ (Ex.refl _) exz r_world)))) (a_one (x_var (i := 1) rfl (Rp.mono _ (Ex.refl _) exz r_area))))) hs (fun _ _ h => PX.mono (Ex.refl _) (Ex.refl _) h) hm fun inside_1 v_2 I_3 H_4 e_5 s_6 r_7 hm => ?_
    refine q_ret (tz := tNext) (E := E) (K := K) (σ := [some v_world, some v_area, some v_2, none, none]) (x_lcg (i_enumT (a_one (x_fld (k := 3) (f := "gauges") T.c_World T.n_World_gauges rfl (nodup_to (by decide +kernel)) rfl (pjs (pjs (pjs pj0))) (x_var (i := 0) rfl (Rp.mono _ e_5 exz r_world))))) g2 (fun _ _ _ _ ⟨_, _, h, _, _⟩ => by rw [h]; rfl) (fun x_8 σ2 I_9 C_10 e_11 c_12 ⟨v_13, v_14, h, r_15, r_16⟩ => by subst h; exact (t_test (x_op (o_in fl_int) (x_k (k := ((1 : Nat) : Int)) (o_pj (pjs pj0)) (x_var (i := 4) rfl (Rp.mono _ (Ex.refl _) exz r_16))) (x_v (x_var (i := 2) rfl (Rp.mono _ e_11 exz r_7)))))) (fun x_8 σ2 I_9 C_10 e_11 c_12 ⟨v_13, v_14, h, r_15, r_16⟩ => by subst h; exact (x_var (i := 3) rfl (Rp.mono _ (Ex.refl _) exz r_15))) (fun _ _ _ _ _ e ⟨v_13, v_14, h, r_15, r_16⟩ => ⟨v_13, v_14, h, Rp.mono _ e exz r_15, Rp.mono _ e exz r_16⟩)) s_6 (fun _ _ h => PX.mono e_5 (Ex.refl _) h) hm fun a_17 v_18 I_19 H_20 e_21 s_22 r_23 hm => ?_
    exact hm v_18 I_19 H_20 (e_5.trans e_21) (St.less s_22 (Ex.refl _)) (Im.im r_23)
def m_highest_level (ar_world : (Int × Int × (List (Str × Int)) × (List (Str × Int × (List Int))) × (List (Str × Int × (List (List Int)))))) (ar_run : Int) (ar_gauges : (List Int)) (ar_hour : Int) : Res Int :=
  ((un (fun p => Res.ok p.2.2) (bin ix (un (fun p => Res.ok p.2.2.2.2) (Res.ok ar_world)) (Res.ok ar_run))).bind fun (rows_1 : (List (List Int))) => ((Res.ok (0 : Int)).bind fun (best_8 : Int) => (((Res.ok ar_gauges).bind fun xs => loopN (fun (x_23 : Int) (z_15 : Int) => ((un max2 (pair (Res.ok z_15) (un (fun (p : ((List Int) × Int)) => m_level_of p.1 p.2) (pair (un (fun p => Res.ok p.2.2) (bin ix (un (fun p => Res.ok p.2.2.2.1) (Res.ok ar_world)) (Res.ok x_23))) (bin ix (bin ix (Res.ok rows_1) (Res.ok x_23)) (Res.ok ar_hour)))))).bind fun (best_35 : Int) => (Res.ok best_35))) xs best_8).bind fun (z_47 : Int) => ((Res.ok z_47).bind fun a_55 => Res.ok a_55))))
abbrev N_highest_level : List Str := ["world", "run", "gauges", "hour", "rows", "best", "k"]
theorem sc_highest_level : FnScope N_highest_level ["world", "run", "gauges", "hour"] (defScope s_highest_level) := ⟨rfl, rfl, rfl, by decide +kernel, rfl, by decide +kernel, by decide +kernel⟩
theorem bind_highest_level {K : PySem.W.Frag} {mg : Str → Option Value} {T : Tx K mg} : Binds K T.d_highest_level ["world", "run", "gauges", "hour"] [] := FunD.bindsN T.F_highest_level fun _ _ _ _ _ _ us hl => match us, hl with | [_, _, _, _], _ => rfl
abbrev sp_highest_level (K : PySem.W.Frag) : Sp := spP K (tc (pC (He.ga K "World") ns_World (tc pI (tc pI (tc (pQ K (pT (tc pS (t1 pI)))) (tc (pQ K (pT (tc pS (tc pI (t1 (pQ K pI)))))) (t1 (pQ K (pT (tc pS (tc pI (t1 (pQ K (pQ K pI))))))))))))) (tc pI (tc (pL pI) (t1 pI)))) (fun (p : ((Int × Int × (List (Str × Int)) × (List (Str × Int × (List Int))) × (List (Str × Int × (List (List Int))))) × Int × (List Int) × Int)) => m_highest_level p.1 p.2.1 p.2.2.1 p.2.2.2) pI
theorem ok_highest_level (T : Tx K mg) : FnOk P w K mg base (L2.CX P w) 2 T.f_highest_level T.d_highest_level ["world", "run", "gauges", "hour"] (sp_highest_level K) := by
  refine T.F_highest_level.ok sc_highest_level (fun vs H Q E h => ?_) (fun cdv A outer s H vs Q E hr h => ?_)
  · obtain ⟨I, C, a, _, hr, _⟩ := h
    exact Rt.len _ hr
  · obtain ⟨I0, C0, ⟨ar_world, ar_run, ar_gauges, ar_hour⟩, hs, ⟨v_world, us0, rfl, r_world, v_run, us1, rfl, r_run, v_gauges, us2, rfl, r_gauges, v_hour, rfl, r_hour⟩, hm⟩ := h
    have hm : Post (m_highest_level ar_world ar_run ar_gauges ar_hour) (PQ pI I0 C0 Q) (PX E K I0 C0) := hm
    replace r_world : Rp.r (pC (He.ga K "World") ns_World (tc pI (tc pI (tc (pQ K (pT (tc pS (t1 pI)))) (tc (pQ K (pT (tc pS (tc pI (t1 (pQ K pI)))))) (t1 (pQ K (pT (tc pS (tc pI (t1 (pQ K (pQ K pI))))))))))))) ar_world v_world I0 Z := Im.im r_world
    replace r_run : Rp.r pI ar_run v_run I0 Z := Im.im r_run
    replace r_gauges : Rp.r (pL pI) ar_gauges v_gauges I0 Z := Im.im r_gauges
    replace r_hour : Rp.r pI ar_hour v_hour I0 Z := Im.im r_hour
    unfold m_highest_level at hm
    refine ⟨_, (pss_cons (ps_set (i := 4) sc_highest_level.nd rfl (Or.inl rfl) (pe_ix (r := rIxT K) ix_tup (pe_ix (r := rIxT K) ix_tup (pe_fld (pv 0) (by rfl)) (pv 1) (fun _ _ => rfl)) pe_int (fun _ _ => rfl))) (pss_cons (ps_set (i := 5) sc_highest_level.nd rfl (Or.inl rfl) pe_int) (pss_cons (ps_for (passes_of rfl) rfl (show PI _ _ _ (iList K _) from pi_list (pv 2)) (pg_name (i := 6) sc_highest_level.nd rfl (Or.inl rfl)) (pss_cons (ps_set (i := 5) sc_highest_level.nd rfl (Or.inl rfl) (pe_callB (call_max2 rfl) (by rfl) T.gb_max bt_max (pa_cons (pv 5) (pa_cons (pe_call (ok_level_of T) (hr.mono (by decide)) rfl T.g_level_of T.F_level_of.kp bind_level_of .nil passE (pa_cons (pe_ix (r := rIxT K) ix_tup (pe_ix (r := rIxT K) ix_tup (pe_fld (pv 0) (by rfl)) (pv 6) (fun _ _ => rfl)) pe_int (fun _ _ => rfl)) (pa_cons (pe_ix (r := rIxT K) ix_tup (pe_ix (r := rIxT K) ix_tup (pv 4) (pv 6) (fun _ _ => rfl)) (pv 3) (fun _ _ => rfl)) pa_nil))) pa_nil)))) pss_nil)) (pss_cons (ps_ret (pv 5)) pss_nil)))), ?_⟩
    refine q_asg (E := E) (K := K) (σ := [some v_world, some v_run, some v_gauges, some v_hour, none, none, none]) (i := 4) (x_k (k := ((2 : Nat) : Int)) (o_pj (pjs (pjs pj1))) (x_op o_ixQ (x_fld (k := 4) (f := "runs") T.c_World T.n_World_runs rfl (nodup_to (by decide +kernel)) rfl (pjs (pjs (pjs (pjs pj1)))) (x_var (i := 0) rfl (Rp.mono _ (Ex.refl _) exz r_world))) (x_var (i := 1) rfl (Rp.mono _ (Ex.refl _) exz r_run)))) hs (fun _ _ h => PX.mono (Ex.refl _) (Ex.refl _) h) hm fun rows_1 v_2 I_3 H_4 e_5 s_6 r_7 hm => ?_
    refine q_asg (E := E) (K := K) (σ := [some v_world, some v_run, some v_gauges, some v_hour, some v_2, none, none]) (i := 5) (x_int (i := 0)) s_6 (fun _ _ h => PX.mono e_5 (Ex.refl _) h) hm fun best_8 v_9 I_10 H_11 e_12 s_13 r_14 hm => ?_
    refine s_forN (E := E) (K := K) (σ := [some v_world, some v_run, some v_gauges, some v_hour, some v_2, some v_9, none]) (fun (z_15 : Int) σ2 I_18 C_19 => ∃ w_17 : Option V, ∃ v_20 : V, σ2 = [some v_world, some v_run, some v_gauges, some v_hour, some v_2, some v_20, w_17] ∧ Rp.r pI z_15 v_20 I_18 Z ∧ Ex C0 C_19) (i_list (x_var (i := 2) rfl (Rp.mono _ (e_5.trans e_12) exz r_gauges))) s_13 (fun _ _ h => PX.mono (e_5.trans e_12) (Ex.refl _) h) hm (fun _ e_31 => ⟨none, v_9, rfl, Rp.mono _ (Ex.trans (Ex.refl _) e_31) exz r_14, (Ex.refl _)⟩) (fun _ _ _ _ _ => trivial) (fun _ _ _ _ _ e ⟨w_17, v_20, hs_16, r_21, fr_22⟩ => ⟨w_17, v_20, hs_16, Rp.mono _ e exz r_21, fr_22⟩) (fun N x_23 v_24 z_15 σ2 I_25 C_26 H_27 e_28 s_29 ⟨w_17, v_20, hs_16, r_21, fr_22⟩ r_30 hm => ?_) (fun z_47 σ2 I_42 C_43 H_44 e_45 s_46 ⟨w_49, v_52, hs_48, r_53, fr_54⟩ hm => ?_)
    · subst hs_16
      refine g1 (K := K) x_23 v_24 I_25 C_26 H_27 _ s_29 r_30 fun σ2 ⟨v_32, hs_34, r_33⟩ => ?_
      subst hs_34
      refine q_asg (E := E) (K := K) (σ := [some v_world, some v_run, some v_gauges, some v_hour, some v_2, some v_20, some v_32]) (i := 5) (x_cb o_max2 (a_cons (x_var (i := 5) rfl (Rp.mono _ (Ex.refl _) exz r_21)) (a_one (x_call (a_cons (x_k (k := ((2 : Nat) : Int)) (o_pj (pjs (pjs pj1))) (x_op o_ixQ (x_fld (k := 3) (f := "gauges") T.c_World T.n_World_gauges rfl (nodup_to (by decide +kernel)) rfl (pjs (pjs (pjs pj0))) (x_var (i := 0) rfl (Rp.mono _ (e_5.trans (e_12.trans e_28)) exz r_world))) (x_var (i := 6) rfl (Rp.mono _ (Ex.refl _) exz r_33)))) (a_one (x_op o_ixQ (x_op o_ixQ (x_var (i := 4) rfl (Rp.mono _ (e_12.trans e_28) exz r_7)) (x_var (i := 6) rfl (Rp.mono _ (Ex.refl _) exz r_33))) (x_var (i := 3) rfl (Rp.mono _ (e_5.trans (e_12.trans e_28)) exz r_hour))))))))) s_29 (fun _ _ h => PX.mono (e_5.trans (e_12.trans e_28)) fr_22 h) hm fun best_35 v_36 I_37 H_38 e_39 s_40 r_41 hm => ?_
      exact hm _ _ _ _ e_39 s_40 ⟨some v_32, v_36, rfl, Rp.mono _ (Ex.refl _) exz r_41, fr_22⟩
    subst hs_48
    refine q_ret (tz := tNext) (E := E) (K := K) (σ := [some v_world, some v_run, some v_gauges, some v_hour, some v_2, some v_52, w_49]) (x_var (i := 5) rfl (Rp.mono _ (Ex.refl _) exz r_53)) s_46 (fun _ _ h => PX.mono (e_5.trans (e_12.trans e_45)) fr_54 h) hm fun a_55 v_56 I_57 H_58 e_59 s_60 r_61 hm => ?_
    exact hm v_56 I_57 H_58 (e_5.trans (e_12.trans (e_45.trans e_59))) (St.less s_60 fr_54) (Im.im r_61)
def m_reached (ar_world : (Int × Int × (List (Str × Int)) × (List (Str × Int × (List Int))) × (List (Str × Int × (List (List Int)))))) (ar_run : Int) (ar_area : Int) (ar_hour : Int) : Res Int :=
  ((un (fun (p : ((Int × Int × (List (Str × Int)) × (List (Str × Int × (List Int))) × (List (Str × Int × (List (List Int))))) × Int × (List Int) × Int)) => m_highest_level p.1 p.2.1 p.2.2.1 p.2.2.2) (pair (Res.ok ar_world) (pair (Res.ok ar_run) (pair (un (fun (p : ((Int × Int × (List (Str × Int)) × (List (Str × Int × (List Int))) × (List (Str × Int × (List (List Int))))) × Int)) => m_gauges_under p.1 p.2) (pair (Res.ok ar_world) (Res.ok ar_area))) (Res.ok ar_hour))))).bind fun a_1 => Res.ok a_1)
abbrev N_reached : List Str := ["world", "run", "area", "hour"]
theorem sc_reached : FnScope N_reached ["world", "run", "area", "hour"] (defScope s_reached) := ⟨rfl, rfl, rfl, by decide +kernel, rfl, by decide +kernel, by decide +kernel⟩
theorem bind_reached {K : PySem.W.Frag} {mg : Str → Option Value} {T : Tx K mg} : Binds K T.d_reached ["world", "run", "area", "hour"] [] := FunD.bindsN T.F_reached fun _ _ _ _ _ _ us hl => match us, hl with | [_, _, _, _], _ => rfl
abbrev sp_reached (K : PySem.W.Frag) : Sp := spP K (tc (pC (He.ga K "World") ns_World (tc pI (tc pI (tc (pQ K (pT (tc pS (t1 pI)))) (tc (pQ K (pT (tc pS (tc pI (t1 (pQ K pI)))))) (t1 (pQ K (pT (tc pS (tc pI (t1 (pQ K (pQ K pI))))))))))))) (tc pI (tc pI (t1 pI)))) (fun (p : ((Int × Int × (List (Str × Int)) × (List (Str × Int × (List Int))) × (List (Str × Int × (List (List Int))))) × Int × Int × Int)) => m_reached p.1 p.2.1 p.2.2.1 p.2.2.2) pI
theorem ok_reached (T : Tx K mg) : FnOk P w K mg base (L2.CX P w) 4 T.f_reached T.d_reached ["world", "run", "area", "hour"] (sp_reached K) := by
  refine T.F_reached.ok sc_reached (fun vs H Q E h => ?_) (fun cdv A outer s H vs Q E hr h => ?_)
  · obtain ⟨I, C, a, _, hr, _⟩ := h
    exact Rt.len _ hr
  · obtain ⟨I0, C0, ⟨ar_world, ar_run, ar_area, ar_hour⟩, hs, ⟨v_world, us0, rfl, r_world, v_run, us1, rfl, r_run, v_area, us2, rfl, r_area, v_hour, rfl, r_hour⟩, hm⟩ := h
    have hm : Post (m_reached ar_world ar_run ar_area ar_hour) (PQ pI I0 C0 Q) (PX E K I0 C0) := hm
    replace r_world : Rp.r (pC (He.ga K "World") ns_World (tc pI (tc pI (tc (pQ K (pT (tc pS (t1 pI)))) (tc (pQ K (pT (tc pS (tc pI (t1 (pQ K pI)))))) (t1 (pQ K (pT (tc pS (tc pI (t1 (pQ K (pQ K pI))))))))))))) ar_world v_world I0 Z := Im.im r_world
    replace r_run : Rp.r pI ar_run v_run I0 Z := Im.im r_run
    replace r_area : Rp.r pI ar_area v_area I0 Z := Im.im r_area
    replace r_hour : Rp.r pI ar_hour v_hour I0 Z := Im.im r_hour
    unfold m_reached at hm
    refine ⟨_, (pss_cons (ps_ret (pe_call (ok_highest_level T) (hr.mono (by decide)) rfl T.g_highest_level T.F_highest_level.kp bind_highest_level .nil passE (pa_cons (pv 0) (pa_cons (pv 1) (pa_cons (pe_call (ok_gauges_under T) (hr.mono (by decide)) rfl T.g_gauges_under T.F_gauges_under.kp bind_gauges_under .nil passE (pa_cons (pv 0) (pa_cons (pv 2) pa_nil))) (pa_cons (pv 3) pa_nil)))))) pss_nil), ?_⟩
    refine q_ret (tz := tNext) (E := E) (K := K) (σ := [some v_world, some v_run, some v_area, some v_hour]) (x_call (a_cons (x_var (i := 0) rfl (Rp.mono _ (Ex.refl _) exz r_world)) (a_cons (x_var (i := 1) rfl (Rp.mono _ (Ex.refl _) exz r_run)) (a_cons (x_call (a_cons (x_var (i := 0) rfl (Rp.mono _ (Ex.refl _) exz r_world)) (a_one (x_var (i := 2) rfl (Rp.mono _ (Ex.refl _) exz r_area))))) (a_one (x_var (i := 3) rfl (Rp.mono _ (Ex.refl _) exz r_hour))))))) hs (fun _ _ h => PX.mono (Ex.refl _) (Ex.refl _) h) hm fun a_1 v_2 I_3 H_4 e_5 s_6 r_7 hm => ?_
    exact hm v_2 I_3 H_4 e_5 (St.less s_6 (Ex.refl _)) (Im.im r_7)
def m_reached_row (ar_world : (Int × Int × (List (Str × Int)) × (List (Str × Int × (List Int))) × (List (Str × Int × (List (List Int)))))) (ar_run : Int) (ar_area : Int) : Res (List Int) :=
  ((un (fun (p : ((Int × Int × (List (Str × Int)) × (List (Str × Int × (List Int))) × (List (Str × Int × (List (List Int))))) × Int)) => m_gauges_under p.1 p.2) (pair (Res.ok ar_world) (Res.ok ar_area))).bind fun (gauges_1 : (List Int)) => (((un rng1 (un (fun p => Res.ok p.2.1) (Res.ok ar_world))).bind (mapR (fun (x_8 : Int) => (un (fun (p : ((Int × Int × (List (Str × Int)) × (List (Str × Int × (List Int))) × (List (Str × Int × (List (List Int))))) × Int × (List Int) × Int)) => m_highest_level p.1 p.2.1 p.2.2.1 p.2.2.2) (pair (Res.ok ar_world) (pair (Res.ok ar_run) (pair (Res.ok gauges_1) (Res.ok x_8)))))))).bind fun a_15 => Res.ok a_15))
abbrev N_reached_row : List Str := ["world", "run", "area", "gauges", "hour"]
theorem sc_reached_row : FnScope N_reached_row ["world", "run", "area"] (defScope s_reached_row) := ⟨rfl, rfl, rfl, by decide +kernel, rfl, by decide +kernel, by decide +kernel⟩
theorem bind_reached_row {K : PySem.W.Frag} {mg : Str → Option Value} {T : Tx K mg} : Binds K T.d_reached_row ["world", "run", "area"] [] := FunD.bindsN T.F_reached_row fun _ _ _ _ _ _ us hl => match us, hl with | [_, _, _], _ => rfl
abbrev sp_reached_row (K : PySem.W.Frag) : Sp := spP K (tc (pC (He.ga K "World") ns_World (tc pI (tc pI (tc (pQ K (pT (tc pS (t1 pI)))) (tc (pQ K (pT (tc pS (tc pI (t1 (pQ K pI)))))) (t1 (pQ K (pT (tc pS (tc pI (t1 (pQ K (pQ K pI))))))))))))) (tc pI (t1 pI))) (fun (p : ((Int × Int × (List (Str × Int)) × (List (Str × Int × (List Int))) × (List (Str × Int × (List (List Int))))) × Int × Int)) => m_reached_row p.1 p.2.1 p.2.2) (pL pI)
theorem ok_reached_row (T : Tx K mg) : FnOk P w K mg base (L2.CX P w) 4 T.f_reached_row T.d_reached_row ["world", "run", "area"] (sp_reached_row K) := by
  refine T.F_reached_row.ok sc_reached_row (fun vs H Q E h => ?_) (fun cdv A outer s H vs Q E hr h => ?_)
  · obtain ⟨I, C, a, _, hr, _⟩ := h
    exact Rt.len _ hr
  · obtain ⟨I0, C0, ⟨ar_world, ar_run, ar_area⟩, hs, ⟨v_world, us0, rfl, r_world, v_run, us1, rfl, r_run, v_area, rfl, r_area⟩, hm⟩ := h
    have hm : Post (m_reached_row ar_world ar_run ar_area) (PQ (pL pI) I0 C0 Q) (PX E K I0 C0) := hm
    replace r_world : Rp.r (pC (He.ga K "World") ns_World (tc pI (tc pI (tc (pQ K (pT (tc pS (t1 pI)))) (tc (pQ K (pT (tc pS (tc pI (t1 (pQ K pI)))))) (t1 (pQ K (pT (tc pS (tc pI (t1 (pQ K (pQ K pI))))))))))))) ar_world v_world I0 Z := Im.im r_world
    replace r_run : Rp.r pI ar_run v_run I0 Z := Im.im r_run
    replace r_area : Rp.r pI ar_area v_area I0 Z := Im.im r_area
    unfold m_reached_row at hm
    refine ⟨_, (pss_cons (ps_set (i := 3) sc_reached_row.nd rfl (Or.inr rfl) (pe_call (ok_gauges_under T) (hr.mono (by decide)) rfl T.g_gauges_under T.F_gauges_under.kp bind_gauges_under .nil passE (pa_cons (pv 0) (pa_cons (pv 2) pa_nil)))) (pss_cons (ps_ret (pe_lc (own := [("hour", 4)]) rfl sc_reached_row.nd (pi_range1 (by rfl) T.gb_range (pa_cons (pe_fld (pv 0) (by rfl)) pa_nil)) (blkOk_by (own := [("hour", 4)]) (N := N_reached_row) (sc := defScope s_reached_row) (by decide +kernel)) (fun _ _ _ _ _ => (pg_name (i := 4) sc_reached_row.nd rfl (Or.inl rfl))) (fun _ _ _ _ _ => pts_nil) (fun _ _ _ _ _ => (pe_call (ok_highest_level T) (hr.mono (by decide)) rfl T.g_highest_level T.F_highest_level.kp bind_highest_level .nil passL (pa_cons (pv 0) (pa_cons (pv 1) (pa_cons (pv 3) (pa_cons (pv 4) pa_nil)))))))) pss_nil)), ?_⟩
    refine q_asg (E := E) (K := K) (σ := [some v_world, some v_run, some v_area, none, none]) (i := 3) (x_call (a_cons (x_var (i := 0) rfl (Rp.mono _ (Ex.refl _) exz r_world)) (a_one (x_var (i := 2) rfl (Rp.mono _ (Ex.refl _) exz r_area))))) hs (fun _ _ h => PX.mono (Ex.refl _) (Ex.refl _) h) hm fun gauges_1 v_2 I_3 H_4 e_5 s_6 r_7 hm => ?_
    refine q_ret (tz := tNext) (E := E) (K := K) (σ := [some v_world, some v_run, some v_area, some v_2, none]) (x_lc (i_rng1 (a_one (x_fld (k := 1) (f := "hours") T.c_World T.n_World_hours rfl (nodup_to (by decide +kernel)) rfl (pjs pj0) (x_var (i := 0) rfl (Rp.mono _ e_5 exz r_world))))) g1 (fun _ _ _ _ ⟨_, h, _⟩ => by rw [h]; rfl) (fun x_8 σ2 I_9 C_10 e_11 c_12 ⟨v_13, h, r_14⟩ => by subst h; exact (x_call (a_cons (x_var (i := 0) rfl (Rp.mono _ (e_5.trans e_11) exz r_world)) (a_cons (x_var (i := 1) rfl (Rp.mono _ (e_5.trans e_11) exz r_run)) (a_cons (x_var (i := 3) rfl (Rp.mono _ e_11 exz r_7)) (a_one (x_var (i := 4) rfl (Rp.mono _ (Ex.refl _) exz r_14)))))))) (fun _ _ _ _ _ e ⟨v_13, h, r_14⟩ => ⟨v_13, h, Rp.mono _ e exz r_14⟩)) s_6 (fun _ _ h => PX.mono e_5 (Ex.refl _) h) hm fun a_15 v_16 I_17 H_18 e_19 s_20 r_21 hm => ?_
    exact hm v_16 I_17 H_18 (e_5.trans e_19) (St.less s_20 (Ex.refl _)) (Im.im r_21)
def m_stretches_from (ar_row : (List Int)) (ar_level : Int) : Res (List (Int × Int)) :=
  ((Res.ok ([] : List (Int × Int))).bind fun (found_1 : (List (Int × Int))) => ((un rNeg (Res.ok (1 : Int))).bind fun (start_16 : Int) => (((un enumR (bin rCatR (un idR (Res.ok ar_row)) (consR (Res.ok (0 : Int)) (Res.ok [])))).bind fun xs => loopN (fun (x_36 : (Int × Int)) (z_23 : ((List (Int × Int)) × Int)) => ((ifR (andR (bin rGe (Res.ok x_36.2) (Res.ok ar_level)) (bin rLt (Res.ok z_23.2) (Res.ok (0 : Int)))) ((Res.ok x_36.1).bind fun (start_66 : Int) => (Res.ok start_66)) (Res.ok z_23.2)).bind fun (z_58 : Int) => (ifR (andR (bin rLt (Res.ok x_36.2) (Res.ok ar_level)) (bin rGe (Res.ok z_58) (Res.ok (0 : Int)))) (((pair (Res.ok z_58) (Res.ok x_36.1)).bind fun x => push z_23.1 x).bind fun (found_86 : (List (Int × Int))) => ((un rNeg (Res.ok (1 : Int))).bind fun (start_98 : Int) => (Res.ok (found_86, start_98)))) (Res.ok (z_23.1, z_58))))) xs (found_1, start_16)).bind fun (z_110 : ((List (Int × Int)) × Int)) => (Res.ok z_110.1))))
abbrev N_stretches_from : List Str := ["row", "level", "found", "start", "hour", "value"]
theorem sc_stretches_from : FnScope N_stretches_from ["row", "level"] (defScope s_stretches_from) := ⟨rfl, rfl, rfl, by decide +kernel, rfl, by decide +kernel, by decide +kernel⟩
theorem bind_stretches_from {K : PySem.W.Frag} {mg : Str → Option Value} {T : Tx K mg} : Binds K T.d_stretches_from ["row", "level"] [] := FunD.bindsN T.F_stretches_from fun _ _ _ _ _ _ us hl => match us, hl with | [_, _], _ => rfl
abbrev sp_stretches_from (K : PySem.W.Frag) : Sp := spO K (tc (pV pI) (t1 pI)) (fun (p : ((List Int) × Int)) => m_stretches_from p.1 p.2) (pT (tc pI (t1 pI)))
theorem ok_stretches_from (T : Tx K mg) : FnOk P w K mg base (L2.CX P w) 1 T.f_stretches_from T.d_stretches_from ["row", "level"] (sp_stretches_from K) := by
  refine T.F_stretches_from.ok sc_stretches_from (fun vs H Q E h => ?_) (fun cdv A outer s H vs Q E hr h => ?_)
  · obtain ⟨I, C, a, _, hr, _⟩ := h
    exact Rt.len _ hr
  · obtain ⟨I0, C0, ⟨ar_row, ar_level⟩, hs, ⟨v_row, us0, rfl, r_row, v_level, rfl, r_level⟩, hm⟩ := h
    have hm : Post (m_stretches_from ar_row ar_level) (PN (pT (tc pI (t1 pI))) I0 C0 Q) (PX E K I0 C0) := hm
    replace r_level : Rp.r pI ar_level v_level I0 Z := Im.im r_level
    unfold m_stretches_from at hm
    refine ⟨_, (pss_cons (ps_set (i := 2) sc_stretches_from.nd rfl (Or.inl rfl) (pe_lst pa_nil)) (pss_cons (ps_set (i := 3) sc_stretches_from.nd rfl (Or.inl rfl) (pe_un un_neg pe_int)) (pss_cons (ps_for (passes_of rfl) rfl (show PI _ _ _ (iEnum K _) from pi_enum (by rfl) T.gb_enumerate (pa_cons (pe_op op_cat (pe_callTy (r := rList1 K) call_list_of (by rfl) T.gb_list bt_list (pa_cons (pv 0) pa_nil)) (pe_lst (pa_cons pe_int pa_nil))) pa_nil)) (show PG _ _ (gTup K 2 _) from pg_tup rfl (pgs_cons (pg_name (i := 4) sc_stretches_from.nd rfl (Or.inl rfl)) (pgs_cons (pg_name (i := 5) sc_stretches_from.nd rfl (Or.inl rfl)) pgs_nil))) (Evl.pss_cut (ps_if (PW.pt (pw_and (pt_cmpR op_ge (pv 5) (pv 1) (nomark _)) (pw_and1 (pt_cmpR op_lt (pv 3) pe_int (nomark _))))) (pss_cons (ps_set (i := 3) sc_stretches_from.nd rfl (Or.inl rfl) (pv 4)) pss_nil) pss_nil) (pss_cons (ps_if (PW.pt (pw_and (pt_cmpR op_lt (pv 5) (pv 1) (nomark _)) (pw_and1 (pt_cmpR op_ge (pv 3) pe_int (nomark _))))) (pss_cons (ps_expr (show PE _ _ (tBM K "list" rAppend _ _) from pe_bm PySem.F.plainAttrs_list PySem.F.slot_list_append PySem.F.type_list_append mt_append (pv 2) (pa_cons (pe_tup (pa_cons (pv 3) (pa_cons (pv 4) pa_nil))) pa_nil))) (pss_cons (ps_set (i := 3) sc_stretches_from.nd rfl (Or.inl rfl) (pe_un un_neg pe_int)) pss_nil)) pss_nil) pss_nil))) (pss_cons (ps_ret (pv 2)) pss_nil)))), ?_⟩
    refine q_asgN (E := E) (K := K) (σ := [some v_row, some v_level, none, none, none, none]) (i := 2) (n_lst (R := (pT (tc pI (t1 pI)))) al_nil (by decide)) hs (fun _ _ h => PX.mono (Ex.refl _) (Ex.refl _) h) hm fun found_1 p_2 vs_3 I_4 C_5 H_6 e_7 hp_8 s_9 hc_10 k_11 hl_12 hr_13 hm => ?_
    have hB_14 := Ex.free (Ex.refl _) hp_8
    have fr_15 := fr_keep (Ex.refl _) hB_14 k_11
    refine q_asg (E := E) (K := K) (σ := [some v_row, some v_level, some (.ref p_2), none, none, none]) (i := 3) (x_un o_neg (x_int (i := 1))) s_9 (fun _ _ h => PX.mono e_7 fr_15 h) hm fun start_16 v_17 I_18 H_19 e_20 s_21 r_22 hm => ?_
    refine s_forN (E := E) (K := K) (σ := [some v_row, some v_level, some (.ref p_2), some v_17, none, none]) (fun (z_23 : ((List (Int × Int)) × Int)) σ2 I_27 C_28 => ∃ w_25 : Option V, ∃ w_26 : Option V, ∃ v_33 : V, σ2 = [some v_row, some v_level, some (.ref p_2), some v_33, w_25, w_26] ∧ (∃ vs_29 : List V, C_28 p_2 = some (.lst vs_29) ∧ vs_29.length ≤ sizeLine ∧ A2 (fun x u => Rp.r (pT (tc pI (t1 pI))) x u I_27 Z) z_23.1 vs_29) ∧ Rp.r pI z_23.2 v_33 I_27 Z ∧ Ex C0 C_28) (i_enum (a_one (x_op o_cat (x_v (x_cb o_list (a_one (x_var (i := 0) rfl (Rp.mono _ (e_7.trans e_20) fr_15 r_row))))) (x_v (x_lst (al_cons (x_int (i := 0)) al_nil) (Nat.le_of_ble_eq_true rfl)))))) s_21 (fun _ _ h => PX.mono (e_7.trans e_20) fr_15 h) hm (fun _ e_44 => ⟨none, none, v_17, rfl, ⟨_, hc_10, hl_12, a2up (Ex.trans e_20 e_44) hr_13⟩, Rp.mono _ (Ex.trans (Ex.refl _) e_44) exz r_22, fr_15⟩) (fun _ _ _ _ _ => trivial) (fun _ _ _ _ _ e ⟨w_25, w_26, v_33, hs_24, ⟨vs_29, hc_30, hl_31, hr_32⟩, r_34, fr_35⟩ => ⟨w_25, w_26, v_33, hs_24, ⟨vs_29, hc_30, hl_31, a2up e hr_32⟩, Rp.mono _ e exz r_34, fr_35⟩) (fun N x_36 v_37 z_23 σ2 I_38 C_39 H_40 e_41 s_42 ⟨w_25, w_26, v_33, hs_24, ⟨vs_29, hc_30, hl_31, hr_32⟩, r_34, fr_35⟩ r_43 hm => ?_) (fun z_110 σ2 I_105 C_106 H_107 e_108 s_109 ⟨w_112, w_113, v_120, hs_111, ⟨vs_116, hc_117, hl_118, hr_119⟩, r_121, fr_122⟩ hm => ?_)
    · subst hs_24
      refine g2 (K := K) x_36 v_37 I_38 C_39 H_40 _ s_42 r_43 fun σ2 ⟨v_45, v_46, hs_49, r_47, r_48⟩ => ?_
      subst hs_49
      refine s_ifj (E := E) (K := K) (σ := [some v_row, some v_level, some (.ref p_2), some v_33, some v_45, some v_46]) (fun (z_58 : Int) σ2 I_60 C_61 => ∃ v_62 : V, σ2 = [some v_row, some v_level, some (.ref p_2), some v_62, some v_45, some v_46] ∧ Rp.r pI z_58 v_62 I_60 Z ∧ C_61 p_2 = some (.lst vs_29) ∧ Ex C0 C_61) (t_and (t_test (x_op o_ge (x_var (i := 5) rfl (Rp.mono _ (Ex.refl _) exz r_48)) (x_var (i := 1) rfl (Rp.mono _ (e_7.trans (e_20.trans e_41)) exz r_level)))) (t_test (x_op o_lt (x_var (i := 3) rfl (Rp.mono _ (Ex.refl _) exz r_34)) (x_int (i := 0))))) s_42 (fun _ _ h => PX.mono (e_7.trans (e_20.trans e_41)) fr_35 h) hm (fun N I_50 H_51 e_52 s_53 hm => ?_) (fun N I_54 H_55 e_56 s_57 hm => ?_) (fun z_58 σ2 I_73 C_74 H_75 e_76 s_77 ⟨v_62, hs_59, r_63, hc_64, fr_65⟩ hm => ?_)
      · refine q_asg (E := E) (K := K) (σ := [some v_row, some v_level, some (.ref p_2), some v_33, some v_45, some v_46]) (i := 3) (x_var (i := 4) rfl (Rp.mono _ e_52 exz r_47)) s_53 (fun _ _ h => PX.mono (e_7.trans (e_20.trans (e_41.trans e_52))) fr_35 h) hm fun start_66 v_67 I_68 H_69 e_70 s_71 r_72 hm => ?_
        exact hm _ _ _ _ (e_52.trans e_70) s_71 ⟨v_67, rfl, Rp.mono _ (Ex.refl _) exz r_72, hc_30, fr_35⟩
      · exact hm _ _ _ _ e_56 s_57 ⟨v_33, rfl, Rp.mono _ e_56 exz r_34, hc_30, fr_35⟩
      subst hs_59
      refine s_if (E := E) (K := K) (σ := [some v_row, some v_level, some (.ref p_2), some v_62, some v_45, some v_46]) (t_and (t_test (x_op o_lt (x_var (i := 5) rfl (Rp.mono _ e_76 exz r_48)) (x_var (i := 1) rfl (Rp.mono _ (e_7.trans (e_20.trans (e_41.trans e_76))) exz r_level)))) (t_test (x_op o_ge (x_var (i := 3) rfl (Rp.mono _ (Ex.refl _) exz r_63)) (x_int (i := 0))))) s_77 (fun _ _ h => PX.mono (e_7.trans (e_20.trans (e_41.trans e_76))) fr_65 h) hm (fun I_78 H_79 e_80 s_81 hm => ?_) (fun I_82 H_83 e_84 s_85 hm => ?_)
      · refine q_app (E := E) (K := K) (σ := [some v_row, some v_level, some (.ref p_2), some v_62, some v_45, some v_46]) (i := 2) rfl hc_64 (a2up (e_76.trans e_80) hr_32) (x_tup (a_cons (x_var (i := 3) rfl (Rp.mono _ e_80 exz r_63)) (a_one (x_var (i := 4) rfl (Rp.mono _ (e_76.trans e_80) exz r_47)))) (Nat.le_of_ble_eq_true rfl)) s_81 (fun _ _ h => PX.mono (e_7.trans (e_20.trans (e_41.trans (e_76.trans e_80)))) fr_65 h) hm fun found_86 vs_87 I_88 C_89 H_90 e_91 s_92 hc_93 k_94 hl_95 hr_96 hm => ?_
        have fr_97 := fr_keep fr_65 hB_14 k_94
        refine q_asg (E := E) (K := K) (σ := [some v_row, some v_level, some (.ref p_2), some v_62, some v_45, some v_46]) (i := 3) (x_un o_neg (x_int (i := 1))) s_92 (fun _ _ h => PX.mono (e_7.trans (e_20.trans (e_41.trans (e_76.trans (e_80.trans e_91))))) fr_97 h) hm fun start_98 v_99 I_100 H_101 e_102 s_103 r_104 hm => ?_
        exact hm _ _ _ _ (e_76.trans (e_80.trans (e_91.trans e_102))) s_103 ⟨some v_45, some v_46, v_99, rfl, ⟨_, hc_93, hl_95, a2up e_102 hr_96⟩, Rp.mono _ (Ex.refl _) exz r_104, fr_97⟩
      · exact hm _ _ _ _ (e_76.trans e_84) s_85 ⟨some v_45, some v_46, v_62, rfl, ⟨_, hc_64, hl_31, a2up (e_76.trans e_84) hr_32⟩, Rp.mono _ e_84 exz r_63, fr_65⟩
    subst hs_111
    refine q_retO (i := 2) rfl s_109 fr_122 hB_14 hc_117 hl_118 (a2up (Ex.refl _) hr_119) fun s hr => ?_
    exact hm _ _ _ _ (e_7.trans (e_20.trans e_108)) hB_14 s hl_118 hr
def m_stretches_from_Q (ar_row : (List Int)) (ar_level : Int) : Res (List (Int × Int)) :=
  ((Res.ok ([] : List (Int × Int))).bind fun (found_1 : (List (Int × Int))) => ((un rNeg (Res.ok (1 : Int))).bind fun (start_16 : Int) => (((un enumR (bin rCatR (un idR (Res.ok ar_row)) (consR (Res.ok (0 : Int)) (Res.ok [])))).bind fun xs => loopN (fun (x_36 : (Int × Int)) (z_23 : ((List (Int × Int)) × Int)) => ((ifR (andR (bin rGe (Res.ok x_36.2) (Res.ok ar_level)) (bin rLt (Res.ok z_23.2) (Res.ok (0 : Int)))) ((Res.ok x_36.1).bind fun (start_66 : Int) => (Res.ok start_66)) (Res.ok z_23.2)).bind fun (z_58 : Int) => (ifR (andR (bin rLt (Res.ok x_36.2) (Res.ok ar_level)) (bin rGe (Res.ok z_58) (Res.ok (0 : Int)))) (((pair (Res.ok z_58) (Res.ok x_36.1)).bind fun x => push z_23.1 x).bind fun (found_86 : (List (Int × Int))) => ((un rNeg (Res.ok (1 : Int))).bind fun (start_98 : Int) => (Res.ok (found_86, start_98)))) (Res.ok (z_23.1, z_58))))) xs (found_1, start_16)).bind fun (z_110 : ((List (Int × Int)) × Int)) => (Res.ok z_110.1))))
abbrev N_stretches_from_Q : List Str := N_stretches_from
theorem sc_stretches_from_Q : FnScope N_stretches_from_Q ["row", "level"] (defScope s_stretches_from) := sc_stretches_from
abbrev sp_stretches_from_Q (K : PySem.W.Frag) : Sp := spO K (tc (pQ K pI) (t1 pI)) (fun (p : ((List Int) × Int)) => m_stretches_from_Q p.1 p.2) (pT (tc pI (t1 pI)))
theorem ok_stretches_from_Q (T : Tx K mg) : FnOk P w K mg base (L2.CX P w) 1 T.f_stretches_from T.d_stretches_from ["row", "level"] (sp_stretches_from_Q K) := by
  refine T.F_stretches_from.ok sc_stretches_from_Q (fun vs H Q E h => ?_) (fun cdv A outer s H vs Q E hr h => ?_)
  · obtain ⟨I, C, a, _, hr, _⟩ := h
    exact Rt.len _ hr
  · obtain ⟨I0, C0, ⟨ar_row, ar_level⟩, hs, ⟨v_row, us0, rfl, r_row, v_level, rfl, r_level⟩, hm⟩ := h
    have hm : Post (m_stretches_from_Q ar_row ar_level) (PN (pT (tc pI (t1 pI))) I0 C0 Q) (PX E K I0 C0) := hm
    replace r_row : Rp.r (pQ K pI) ar_row v_row I0 Z := Im.im r_row
    replace r_level : Rp.r pI ar_level v_level I0 Z := Im.im r_level
    unfold m_stretches_from_Q at hm
    refine ⟨_, (pss_cons (ps_set (i := 2) sc_stretches_from_Q.nd rfl (Or.inl rfl) (pe_lst pa_nil)) (pss_cons (ps_set (i := 3) sc_stretches_from_Q.nd rfl (Or.inl rfl) (pe_un un_neg pe_int)) (pss_cons (ps_for (passes_of rfl) rfl (show PI _ _ _ (iEnum K _) from pi_enum (by rfl) T.gb_enumerate (pa_cons (pe_op op_cat (pe_callTy (r := rList1 K) call_list_of (by rfl) T.gb_list bt_list (pa_cons (pv 0) pa_nil)) (pe_lst (pa_cons pe_int pa_nil))) pa_nil)) (show PG _ _ (gTup K 2 _) from pg_tup rfl (pgs_cons (pg_name (i := 4) sc_stretches_from_Q.nd rfl (Or.inl rfl)) (pgs_cons (pg_name (i := 5) sc_stretches_from_Q.nd rfl (Or.inl rfl)) pgs_nil))) (Evl.pss_cut (ps_if (PW.pt (pw_and (pt_cmpR op_ge (pv 5) (pv 1) (nomark _)) (pw_and1 (pt_cmpR op_lt (pv 3) pe_int (nomark _))))) (pss_cons (ps_set (i := 3) sc_stretches_from_Q.nd rfl (Or.inl rfl) (pv 4)) pss_nil) pss_nil) (pss_cons (ps_if (PW.pt (pw_and (pt_cmpR op_lt (pv 5) (pv 1) (nomark _)) (pw_and1 (pt_cmpR op_ge (pv 3) pe_int (nomark _))))) (pss_cons (ps_expr (show PE _ _ (tBM K "list" rAppend _ _) from pe_bm PySem.F.plainAttrs_list PySem.F.slot_list_append PySem.F.type_list_append mt_append (pv 2) (pa_cons (pe_tup (pa_cons (pv 3) (pa_cons (pv 4) pa_nil))) pa_nil))) (pss_cons (ps_set (i := 3) sc_stretches_from_Q.nd rfl (Or.inl rfl) (pe_un un_neg pe_int)) pss_nil)) pss_nil) pss_nil))) (pss_cons (ps_ret (pv 2)) pss_nil)))), ?_⟩
    refine q_asgN (E := E) (K := K) (σ := [some v_row, some v_level, none, none, none, none]) (i := 2) (n_lst (R := (pT (tc pI (t1 pI)))) al_nil (by decide)) hs (fun _ _ h => PX.mono (Ex.refl _) (Ex.refl _) h) hm fun found_1 p_2 vs_3 I_4 C_5 H_6 e_7 hp_8 s_9 hc_10 k_11 hl_12 hr_13 hm => ?_
    have hB_14 := Ex.free (Ex.refl _) hp_8
    have fr_15 := fr_keep (Ex.refl _) hB_14 k_11
    refine q_asg (E := E) (K := K) (σ := [some v_row, some v_level, some (.ref p_2), none, none, none]) (i := 3) (x_un o_neg (x_int (i := 1))) s_9 (fun _ _ h => PX.mono e_7 fr_15 h) hm fun start_16 v_17 I_18 H_19 e_20 s_21 r_22 hm => ?_
    refine s_forN (E := E) (K := K) (σ := [some v_row, some v_level, some (.ref p_2), some v_17, none, none]) (fun (z_23 : ((List (Int × Int)) × Int)) σ2 I_27 C_28 => ∃ w_25 : Option V, ∃ w_26 : Option V, ∃ v_33 : V, σ2 = [some v_row, some v_level, some (.ref p_2), some v_33, w_25, w_26] ∧ (∃ vs_29 : List V, C_28 p_2 = some (.lst vs_29) ∧ vs_29.length ≤ sizeLine ∧ A2 (fun x u => Rp.r (pT (tc pI (t1 pI))) x u I_27 Z) z_23.1 vs_29) ∧ Rp.r pI z_23.2 v_33 I_27 Z ∧ Ex C0 C_28) (i_enum (a_one (x_op o_cat (x_v (x_cb o_listQ (a_one (x_var (i := 0) rfl (Rp.mono _ (e_7.trans e_20) exz r_row))))) (x_v (x_lst (al_cons (x_int (i := 0)) al_nil) (Nat.le_of_ble_eq_true rfl)))))) s_21 (fun _ _ h => PX.mono (e_7.trans e_20) fr_15 h) hm (fun _ e_44 => ⟨none, none, v_17, rfl, ⟨_, hc_10, hl_12, a2up (Ex.trans e_20 e_44) hr_13⟩, Rp.mono _ (Ex.trans (Ex.refl _) e_44) exz r_22, fr_15⟩) (fun _ _ _ _ _ => trivial) (fun _ _ _ _ _ e ⟨w_25, w_26, v_33, hs_24, ⟨vs_29, hc_30, hl_31, hr_32⟩, r_34, fr_35⟩ => ⟨w_25, w_26, v_33, hs_24, ⟨vs_29, hc_30, hl_31, a2up e hr_32⟩, Rp.mono _ e exz r_34, fr_35⟩) (fun N x_36 v_37 z_23 σ2 I_38 C_39 H_40 e_41 s_42 ⟨w_25, w_26, v_33, hs_24, ⟨vs_29, hc_30, hl_31, hr_32⟩, r_34, fr_35⟩ r_43 hm => ?_) (fun z_110 σ2 I_105 C_106 H_107 e_108 s_109 ⟨w_112, w_113, v_120, hs_111, ⟨vs_116, hc_117, hl_118, hr_119⟩, r_121, fr_122⟩ hm => ?_)
    · subst hs_24
      refine g2 (K := K) x_36 v_37 I_38 C_39 H_40 _ s_42 r_43 fun σ2 ⟨v_45, v_46, hs_49, r_47, r_48⟩ => ?_
      subst hs_49
      refine s_ifj (E := E) (K := K) (σ := [some v_row, some v_level, some (.ref p_2), some v_33, some v_45, some v_46]) (fun (z_58 : Int) σ2 I_60 C_61 => ∃ v_62 : V, σ2 = [some v_row, some v_level, some (.ref p_2), some v_62, some v_45, some v_46] ∧ Rp.r pI z_58 v_62 I_60 Z ∧ C_61 p_2 = some (.lst vs_29) ∧ Ex C0 C_61) (t_and (t_test (x_op o_ge (x_var (i := 5) rfl (Rp.mono _ (Ex.refl _) exz r_48)) (x_var (i := 1) rfl (Rp.mono _ (e_7.trans (e_20.trans e_41)) exz r_level)))) (t_test (x_op o_lt (x_var (i := 3) rfl (Rp.mono _ (Ex.refl _) exz r_34)) (x_int (i := 0))))) s_42 (fun _ _ h => PX.mono (e_7.trans (e_20.trans e_41)) fr_35 h) hm (fun N I_50 H_51 e_52 s_53 hm => ?_) (fun N I_54 H_55 e_56 s_57 hm => ?_) (fun z_58 σ2 I_73 C_74 H_75 e_76 s_77 ⟨v_62, hs_59, r_63, hc_64, fr_65⟩ hm => ?_)
      · refine q_asg (E := E) (K := K) (σ := [some v_row, some v_level, some (.ref p_2), some v_33, some v_45, some v_46]) (i := 3) (x_var (i := 4) rfl (Rp.mono _ e_52 exz r_47)) s_53 (fun _ _ h => PX.mono (e_7.trans (e_20.trans (e_41.trans e_52))) fr_35 h) hm fun start_66 v_67 I_68 H_69 e_70 s_71 r_72 hm => ?_
        exact hm _ _ _ _ (e_52.trans e_70) s_71 ⟨v_67, rfl, Rp.mono _ (Ex.refl _) exz r_72, hc_30, fr_35⟩
      · exact hm _ _ _ _ e_56 s_57 ⟨v_33, rfl, Rp.mono _ e_56 exz r_34, hc_30, fr_35⟩
      subst hs_59
      refine s_if (E := E) (K := K) (σ := [some v_row, some v_level, some (.ref p_2), some v_62, some v_45, some v_46]) (t_and (t_test (x_op o_lt (x_var (i := 5) rfl (Rp.mono _ e_76 exz r_48)) (x_var (i := 1) rfl (Rp.mono _ (e_7.trans (e_20.trans (e_41.trans e_76))) exz r_level)))) (t_test (x_op o_ge (x_var (i := 3) rfl (Rp.mono _ (Ex.refl _) exz r_63)) (x_int (i := 0))))) s_77 (fun _ _ h => PX.mono (e_7.trans (e_20.trans (e_41.trans e_76))) fr_65 h) hm (fun I_78 H_79 e_80 s_81 hm => ?_) (fun I_82 H_83 e_84 s_85 hm => ?_)
      · refine q_app (E := E) (K := K) (σ := [some v_row, some v_level, some (.ref p_2), some v_62, some v_45, some v_46]) (i := 2) rfl hc_64 (a2up (e_76.trans e_80) hr_32) (x_tup (a_cons (x_var (i := 3) rfl (Rp.mono _ e_80 exz r_63)) (a_one (x_var (i := 4) rfl (Rp.mono _ (e_76.trans e_80) exz r_47)))) (Nat.le_of_ble_eq_true rfl)) s_81 (fun _ _ h => PX.mono (e_7.trans (e_20.trans (e_41.trans (e_76.trans e_80)))) fr_65 h) hm fun found_86 vs_87 I_88 C_89 H_90 e_91 s_92 hc_93 k_94 hl_95 hr_96 hm => ?_
        have fr_97 := fr_keep fr_65 hB_14 k_94
        refine q_asg (E := E) (K := K) (σ := [some v_row, some v_level, some (.ref p_2), some v_62, some v_45, some v_46]) (i := 3) (x_un o_neg (x_int (i := 1))) s_92 (fun _ _ h => PX.mono (e_7.trans (e_20.trans (e_41.trans (e_76.trans (e_80.trans e_91))))) fr_97 h) hm fun start_98 v_99 I_100 H_101 e_102 s_103 r_104 hm => ?_
        exact hm _ _ _ _ (e_76.trans (e_80.trans (e_91.trans e_102))) s_103 ⟨some v_45, some v_46, v_99, rfl, ⟨_, hc_93, hl_95, a2up e_102 hr_96⟩, Rp.mono _ (Ex.refl _) exz r_104, fr_97⟩
      · exact hm _ _ _ _ (e_76.trans e_84) s_85 ⟨some v_45, some v_46, v_62, rfl, ⟨_, hc_64, hl_31, a2up (e_76.trans e_84) hr_32⟩, Rp.mono _ e_84 exz r_63, fr_65⟩
    subst hs_111
    refine q_retO (i := 2) rfl s_109 fr_122 hB_14 hc_117 hl_118 (a2up (Ex.refl _) hr_119) fun s hr => ?_
    exact hm _ _ _ _ (e_7.trans (e_20.trans e_108)) hB_14 s hl_118 hr
def m_stretches (ar_row : (List Int)) (ar_level : Int) : Res (List (Int × Int)) :=
  ((un (fun (p : ((List Int) × Int)) => m_stretches_from p.1 p.2) (pair (Res.ok ar_row) (Res.ok ar_level))).bind fun a_1 => Res.ok a_1)
abbrev N_stretches : List Str := ["row", "level"]
theorem sc_stretches : FnScope N_stretches ["row", "level"] (defScope s_stretches) := ⟨rfl, rfl, rfl, by decide +kernel, rfl, by decide +kernel, by decide +kernel⟩
theorem bind_stretches {K : PySem.W.Frag} {mg : Str → Option Value} {T : Tx K mg} : Binds K T.d_stretches ["row", "level"] [] := FunD.bindsN T.F_stretches fun _ _ _ _ _ _ us hl => match us, hl with | [_, _], _ => rfl
abbrev sp_stretches (K : PySem.W.Frag) : Sp := spO K (tc (pV pI) (t1 pI)) (fun (p : ((List Int) × Int)) => m_stretches p.1 p.2) (pT (tc pI (t1 pI)))
theorem ok_stretches (T : Tx K mg) : FnOk P w K mg base (L2.CX P w) 2 T.f_stretches T.d_stretches ["row", "level"] (sp_stretches K) := by
  refine T.F_stretches.ok sc_stretches (fun vs H Q E h => ?_) (fun cdv A outer s H vs Q E hr h => ?_)
  · obtain ⟨I, C, a, _, hr, _⟩ := h
    exact Rt.len _ hr
  · obtain ⟨I0, C0, ⟨ar_row, ar_level⟩, hs, ⟨v_row, us0, rfl, r_row, v_level, rfl, r_level⟩, hm⟩ := h
    have hm : Post (m_stretches ar_row ar_level) (PN (pT (tc pI (t1 pI))) I0 C0 Q) (PX E K I0 C0) := hm
    replace r_level : Rp.r pI ar_level v_level I0 Z := Im.im r_level
    unfold m_stretches at hm
    refine ⟨_, (pss_cons (ps_ret (pe_call (ok_stretches_from T) (hr.mono (by decide)) rfl T.g_stretches_from T.F_stretches_from.kp bind_stretches_from .nil passE (pa_cons (pv 0) (pa_cons (pv 1) pa_nil)))) pss_nil), ?_⟩
    refine q_retN (E := E) (K := K) (σ := [some v_row, some v_level]) (n_call (a_cons (x_var (i := 0) rfl (Rp.mono _ (Ex.refl _) (Ex.refl _) r_row)) (a_one (x_var (i := 1) rfl (Rp.mono _ (Ex.refl _) exz r_level))))) hs (fun _ _ h => PX.mono (Ex.refl _) (Ex.refl _) h) hm fun a_1 p_2 vs_3 I_4 H_5 e_6 hp_7 s_8 hl_9 hr_10 hm => ?_
    exact ret_own hm e_6 (Ex.refl _) hp_7 s_8 hl_9 hr_10
def m_stretches_Q (ar_row : (List Int)) (ar_level : Int) : Res (List (Int × Int)) :=
  ((un (fun (p : ((List Int) × Int)) => m_stretches_from_Q p.1 p.2) (pair (Res.ok ar_row) (Res.ok ar_level))).bind fun a_1 => Res.ok a_1)
abbrev N_stretches_Q : List Str := N_stretches
theorem sc_stretches_Q : FnScope N_stretches_Q ["row", "level"] (defScope s_stretches) := sc_stretches
abbrev sp_stretches_Q (K : PySem.W.Frag) : Sp := spO K (tc (pQ K pI) (t1 pI)) (fun (p : ((List Int) × Int)) => m_stretches_Q p.1 p.2) (pT (tc pI (t1 pI)))
theorem ok_stretches_Q (T : Tx K mg) : FnOk P w K mg base (L2.CX P w) 2 T.f_stretches T.d_stretches ["row", "level"] (sp_stretches_Q K) := by
  refine T.F_stretches.ok sc_stretches_Q (fun vs H Q E h => ?_) (fun cdv A outer s H vs Q E hr h => ?_)
  · obtain ⟨I, C, a, _, hr, _⟩ := h
    exact Rt.len _ hr
  · obtain ⟨I0, C0, ⟨ar_row, ar_level⟩, hs, ⟨v_row, us0, rfl, r_row, v_level, rfl, r_level⟩, hm⟩ := h
    have hm : Post (m_stretches_Q ar_row ar_level) (PN (pT (tc pI (t1 pI))) I0 C0 Q) (PX E K I0 C0) := hm
    replace r_row : Rp.r (pQ K pI) ar_row v_row I0 Z := Im.im r_row
    replace r_level : Rp.r pI ar_level v_level I0 Z := Im.im r_level
    unfold m_stretches_Q at hm
    refine ⟨_, (pss_cons (ps_ret (pe_call (ok_stretches_from_Q T) (hr.mono (by decide)) rfl T.g_stretches_from T.F_stretches_from.kp bind_stretches_from .nil passE (pa_cons (pv 0) (pa_cons (pv 1) pa_nil)))) pss_nil), ?_⟩
    refine q_retN (E := E) (K := K) (σ := [some v_row, some v_level]) (n_call (a_cons (x_var (i := 0) rfl (Rp.mono _ (Ex.refl _) exz r_row)) (a_one (x_var (i := 1) rfl (Rp.mono _ (Ex.refl _) exz r_level))))) hs (fun _ _ h => PX.mono (Ex.refl _) (Ex.refl _) h) hm fun a_1 p_2 vs_3 I_4 H_5 e_6 hp_7 s_8 hl_9 hr_10 hm => ?_
    exact ret_own hm e_6 (Ex.refl _) hp_7 s_8 hl_9 hr_10
def m_events (ar_world : (Int × Int × (List (Str × Int)) × (List (Str × Int × (List Int))) × (List (Str × Int × (List (List Int)))))) (ar_run : Int) (ar_area : Int) (ar_level : Int) : Res (List (Int × Int)) :=
  ((un (fun (p : ((List Int) × Int)) => m_stretches p.1 p.2) (pair (un (fun (p : ((Int × Int × (List (Str × Int)) × (List (Str × Int × (List Int))) × (List (Str × Int × (List (List Int))))) × Int × Int)) => m_reached_row p.1 p.2.1 p.2.2) (pair (Res.ok ar_world) (pair (Res.ok ar_run) (Res.ok ar_area)))) (Res.ok ar_level))).bind fun a_1 => Res.ok a_1)
abbrev N_events : List Str := ["world", "run", "area", "level"]
theorem sc_events : FnScope N_events ["world", "run", "area", "level"] (defScope s_events) := ⟨rfl, rfl, rfl, by decide +kernel, rfl, by decide +kernel, by decide +kernel⟩
theorem bind_events {K : PySem.W.Frag} {mg : Str → Option Value} {T : Tx K mg} : Binds K T.d_events ["world", "run", "area", "level"] [] := FunD.bindsN T.F_events fun _ _ _ _ _ _ us hl => match us, hl with | [_, _, _, _], _ => rfl
abbrev sp_events (K : PySem.W.Frag) : Sp := spO K (tc (pC (He.ga K "World") ns_World (tc pI (tc pI (tc (pQ K (pT (tc pS (t1 pI)))) (tc (pQ K (pT (tc pS (tc pI (t1 (pQ K pI)))))) (t1 (pQ K (pT (tc pS (tc pI (t1 (pQ K (pQ K pI))))))))))))) (tc pI (tc pI (t1 pI)))) (fun (p : ((Int × Int × (List (Str × Int)) × (List (Str × Int × (List Int))) × (List (Str × Int × (List (List Int))))) × Int × Int × Int)) => m_events p.1 p.2.1 p.2.2.1 p.2.2.2) (pT (tc pI (t1 pI)))
theorem ok_events (T : Tx K mg) : FnOk P w K mg base (L2.CX P w) 5 T.f_events T.d_events ["world", "run", "area", "level"] (sp_events K) := by
  refine T.F_events.ok sc_events (fun vs H Q E h => ?_) (fun cdv A outer s H vs Q E hr h => ?_)
  · obtain ⟨I, C, a, _, hr, _⟩ := h
    exact Rt.len _ hr
  · obtain ⟨I0, C0, ⟨ar_world, ar_run, ar_area, ar_level⟩, hs, ⟨v_world, us0, rfl, r_world, v_run, us1, rfl, r_run, v_area, us2, rfl, r_area, v_level, rfl, r_level⟩, hm⟩ := h
    have hm : Post (m_events ar_world ar_run ar_area ar_level) (PN (pT (tc pI (t1 pI))) I0 C0 Q) (PX E K I0 C0) := hm
    replace r_world : Rp.r (pC (He.ga K "World") ns_World (tc pI (tc pI (tc (pQ K (pT (tc pS (t1 pI)))) (tc (pQ K (pT (tc pS (tc pI (t1 (pQ K pI)))))) (t1 (pQ K (pT (tc pS (tc pI (t1 (pQ K (pQ K pI))))))))))))) ar_world v_world I0 Z := Im.im r_world
    replace r_run : Rp.r pI ar_run v_run I0 Z := Im.im r_run
    replace r_area : Rp.r pI ar_area v_area I0 Z := Im.im r_area
    replace r_level : Rp.r pI ar_level v_level I0 Z := Im.im r_level
    unfold m_events at hm
    refine ⟨_, (pss_cons (ps_ret (pe_call (ok_stretches T) (hr.mono (by decide)) rfl T.g_stretches T.F_stretches.kp bind_stretches .nil passE (pa_cons (pe_call (ok_reached_row T) (hr.mono (by decide)) rfl T.g_reached_row T.F_reached_row.kp bind_reached_row .nil passE (pa_cons (pv 0) (pa_cons (pv 1) (pa_cons (pv 2) pa_nil)))) (pa_cons (pv 3) pa_nil)))) pss_nil), ?_⟩
    refine q_retN (E := E) (K := K) (σ := [some v_world, some v_run, some v_area, some v_level]) (n_call (a_cons (x_v (x_call (a_cons (x_var (i := 0) rfl (Rp.mono _ (Ex.refl _) exz r_world)) (a_cons (x_var (i := 1) rfl (Rp.mono _ (Ex.refl _) exz r_run)) (a_one (x_var (i := 2) rfl (Rp.mono _ (Ex.refl _) exz r_area))))))) (a_one (x_var (i := 3) rfl (Rp.mono _ (Ex.refl _) exz r_level))))) hs (fun _ _ h => PX.mono (Ex.refl _) (Ex.refl _) h) hm fun a_1 p_2 vs_3 I_4 H_5 e_6 hp_7 s_8 hl_9 hr_10 hm => ?_
    exact ret_own hm e_6 (Ex.refl _) hp_7 s_8 hl_9 hr_10
def m_hour_tally (ar_world : (Int × Int × (List (Str × Int)) × (List (Str × Int × (List Int))) × (List (Str × Int × (List (List Int)))))) (ar_run : Int) (ar_area : Int) (ar_level : Int) (ar_row : (List Int)) : Res (List Int) :=
  (ifR (bin neR (un rLen (Res.ok ar_row)) (un (fun p => Res.ok p.2.1) (Res.ok ar_world))) ((Res.ok (0 : Int)).bind fun i => Res.exc .BadTable i) ((consR (Res.ok (0 : Int)) (consR (Res.ok (0 : Int)) (consR (Res.ok (0 : Int)) (consR (Res.ok (0 : Int)) (Res.ok []))))).bind fun (counts_9 : (List Int)) => (((un enumR (Res.ok ar_row)).bind fun xs => loopN (fun (x_36 : (Int × Int)) (z_24 : (List Int)) => ((Res.ok (0 : Int)).bind fun (place_50 : Int) => ((ifR (bin rLt (Res.ok x_36.2) (Res.ok ar_level)) (((Res.ok (2 : Int)).bind fun b => Res.ok ((fun i j => i + j) place_50 b)).bind fun (place_73 : Int) => (Res.ok place_73)) (Res.ok place_50)).bind fun (z_65 : Int) => ((ifR (bin rLt (un (fun (p : ((Int × Int × (List (Str × Int)) × (List (Str × Int × (List Int))) × (List (Str × Int × (List (List Int))))) × Int × Int × Int)) => m_reached p.1 p.2.1 p.2.2.1 p.2.2.2) (pair (Res.ok ar_world) (pair (Res.ok ar_run) (pair (Res.ok ar_area) (Res.ok x_36.1))))) (Res.ok ar_level)) (((Res.ok (1 : Int)).bind fun b => Res.ok ((fun i j => i + j) z_65 b)).bind fun (place_101 : Int) => (Res.ok place_101)) (Res.ok z_65)).bind fun (z_93 : Int) => (((Res.ok z_93).bind fun j => (ix z_24 j).bind fun a => (Res.ok (1 : Int)).bind fun b => setR z_24 j ((fun i j => i + j) a b)).bind fun (counts_113 : (List Int)) => (Res.ok counts_113)))))) xs counts_9).bind fun (z_130 : (List Int)) => ((un idR (Res.ok z_130)).bind fun a_151 => Res.ok a_151))))
abbrev N_hour_tally : List Str := ["world", "run", "area", "level", "row", "counts", "hour", "warned", "place"]
theorem sc_hour_tally : FnScope N_hour_tally ["world", "run", "area", "level", "row"] (defScope s_hour_tally) := ⟨rfl, rfl, rfl, by decide +kernel, rfl, by decide +kernel, by decide +kernel⟩
theorem bind_hour_tally {K : PySem.W.Frag} {mg : Str → Option Value} {T : Tx K mg} : Binds K T.d_hour_tally ["world", "run", "area", "level", "row"] [] := FunD.bindsN T.F_hour_tally fun _ _ _ _ _ _ us hl => match us, hl with | [_, _, _, _, _], _ => rfl
abbrev sp_hour_tally (K : PySem.W.Frag) : Sp := spP K (tc (pC (He.ga K "World") ns_World (tc pI (tc pI (tc (pQ K (pT (tc pS (t1 pI)))) (tc (pQ K (pT (tc pS (tc pI (t1 (pQ K pI)))))) (t1 (pQ K (pT (tc pS (tc pI (t1 (pQ K (pQ K pI))))))))))))) (tc pI (tc pI (tc pI (t1 (pL pI)))))) (fun (p : ((Int × Int × (List (Str × Int)) × (List (Str × Int × (List Int))) × (List (Str × Int × (List (List Int))))) × Int × Int × Int × (List Int))) => m_hour_tally p.1 p.2.1 p.2.2.1 p.2.2.2.1 p.2.2.2.2) (pQ K pI)
theorem ok_hour_tally (T : Tx K mg) : FnOk P w K mg base (L2.CX P w) 5 T.f_hour_tally T.d_hour_tally ["world", "run", "area", "level", "row"] (sp_hour_tally K) := by
  refine T.F_hour_tally.ok sc_hour_tally (fun vs H Q E h => ?_) (fun cdv A outer s H vs Q E hr h => ?_)
  · obtain ⟨I, C, a, _, hr, _⟩ := h
    exact Rt.len _ hr
  · obtain ⟨I0, C0, ⟨ar_world, ar_run, ar_area, ar_level, ar_row⟩, hs, ⟨v_world, us0, rfl, r_world, v_run, us1, rfl, r_run, v_area, us2, rfl, r_area, v_level, us3, rfl, r_level, v_row, rfl, r_row⟩, hm⟩ := h
    have hm : Post (m_hour_tally ar_world ar_run ar_area ar_level ar_row) (PQ (pQ K pI) I0 C0 Q) (PX E K I0 C0) := hm
    replace r_world : Rp.r (pC (He.ga K "World") ns_World (tc pI (tc pI (tc (pQ K (pT (tc pS (t1 pI)))) (tc (pQ K (pT (tc pS (tc pI (t1 (pQ K pI)))))) (t1 (pQ K (pT (tc pS (tc pI (t1 (pQ K (pQ K pI))))))))))))) ar_world v_world I0 Z := Im.im r_world
    replace r_run : Rp.r pI ar_run v_run I0 Z := Im.im r_run
    replace r_area : Rp.r pI ar_area v_area I0 Z := Im.im r_area
    replace r_level : Rp.r pI ar_level v_level I0 Z := Im.im r_level
    replace r_row : Rp.r (pL pI) ar_row v_row I0 Z := Im.im r_row
    unfold m_hour_tally at hm
    refine ⟨_, (pss_cons (ps_if (pt_cmpR op_ne (pe_callB (r := rLen1 K) call_len_seq (by rfl) T.gb_len bt_len (pa_cons (pv 4) pa_nil)) (pe_fld (pv 0) (by rfl)) (nomark _)) (pss_cons (ps_raise rfl (takes_of rfl rfl rfl rfl) (pmk_oex (T.xs .BadTable (by decide)).o (T.xs .BadTable (by decide)).ic (T.xs .BadTable (by decide)).ti (ok_err T) (hr.mono (by decide)) bind_err .nil passL rfl (T.xs .BadTable (by decide)).g (pa_cons pe_int pa_nil))) pss_nil) pss_nil) (pss_cons (ps_set (i := 5) sc_hour_tally.nd rfl (Or.inl rfl) (pe_lst (pa_cons pe_int (pa_cons pe_int (pa_cons pe_int (pa_cons pe_int pa_nil)))))) (pss_cons (ps_for (passes_of rfl) rfl (show PI _ _ _ (iEnum K _) from pi_enum (by rfl) T.gb_enumerate (pa_cons (pv 4) pa_nil)) (show PG _ _ (gTup K 2 _) from pg_tup rfl (pgs_cons (pg_name (i := 6) sc_hour_tally.nd rfl (Or.inl rfl)) (pgs_cons (pg_name (i := 7) sc_hour_tally.nd rfl (Or.inl rfl)) pgs_nil))) (pss_cons (ps_set (i := 8) sc_hour_tally.nd rfl (Or.inl rfl) pe_int) (Evl.pss_cut (ps_if (pt_cmpR op_lt (pv 7) (pv 3) (nomark _)) (pss_cons (ps_aug (i := 8) sc_hour_tally.nd rfl (Or.inl rfl) pe_int ip_add) pss_nil) pss_nil) (Evl.pss_cut (ps_if (pt_cmpR op_lt (pe_call (ok_reached T) (hr.mono (by decide)) rfl T.g_reached T.F_reached.kp bind_reached .nil passE (pa_cons (pv 0) (pa_cons (pv 1) (pa_cons (pv 2) (pa_cons (pv 6) pa_nil))))) (pv 3) (nomark _)) (pss_cons (ps_aug (i := 8) sc_hour_tally.nd rfl (Or.inl rfl) pe_int ip_add) pss_nil) pss_nil) (pss_cons (ps_augS (pv 5) (pv 8) get_list pe_int ip_add set_list) pss_nil))))) (pss_cons (ps_ret (pe_callTy (r := rTuple1 K) call_tuple_of (by rfl) T.gb_tuple bt_tuple (pa_cons (pv 5) pa_nil))) pss_nil)))), ?_⟩
    refine s_if (E := E) (K := K) (σ := [some v_world, some v_run, some v_area, some v_level, some v_row, none, none, none, none]) (t_test (x_op o_neI (x_cb o_len (a_one (x_v (x_var (i := 4) rfl (Rp.mono _ (Ex.refl _) exz r_row))))) (x_fld (k := 1) (f := "hours") T.c_World T.n_World_hours rfl (nodup_to (by decide +kernel)) rfl (pjs pj0) (x_var (i := 0) rfl (Rp.mono _ (Ex.refl _) exz r_world))))) hs (fun _ _ h => PX.mono (Ex.refl _) (Ex.refl _) h) hm (fun I_1 H_2 e_3 s_4 hm => ?_) (fun I_5 H_6 e_7 s_8 hm => ?_)
    · exact s_raise (E := E) (K := K) (σ := [some v_world, some v_run, some v_area, some v_level, some v_row, none, none, none, none]) (T.xs .BadTable (by decide)) (a_one (x_int (i := 0))) s_4 (fun _ _ h => PX.mono e_3 (Ex.refl _) h) hm
    · refine q_asgN (E := E) (K := K) (σ := [some v_world, some v_run, some v_area, some v_level, some v_row, none, none, none, none]) (i := 5) (n_lst (al_cons (x_int (i := 0)) (al_cons (x_int (i := 0)) (al_cons (x_int (i := 0)) (al_cons (x_int (i := 0)) al_nil)))) (Nat.le_of_ble_eq_true rfl)) s_8 (fun _ _ h => PX.mono e_7 (Ex.refl _) h) hm fun counts_9 p_10 vs_11 I_12 C_13 H_14 e_15 hp_16 s_17 hc_18 k_19 hl_20 hr_21 hm => ?_
      have hB_22 := Ex.free (Ex.refl _) hp_16
      have fr_23 := fr_keep (Ex.refl _) hB_22 k_19
      refine s_forN (E := E) (K := K) (σ := [some v_world, some v_run, some v_area, some v_level, some v_row, some (.ref p_10), none, none, none]) (fun (z_24 : (List Int)) σ2 I_29 C_30 => ∃ w_26 : Option V, ∃ w_27 : Option V, ∃ w_28 : Option V, σ2 = [some v_world, some v_run, some v_area, some v_level, some v_row, some (.ref p_10), w_26, w_27, w_28] ∧ (∃ vs_31 : List V, C_30 p_10 = some (.lst vs_31) ∧ vs_31.length ≤ sizeLine ∧ A2 (fun x u => Rp.r pI x u I_29 Z) z_24 vs_31) ∧ Ex C0 C_30) (i_enum (a_one (x_var (i := 4) rfl (Rp.mono _ (e_7.trans e_15) exz r_row)))) s_17 (fun _ _ h => PX.mono (e_7.trans e_15) fr_23 h) hm (fun _ e_44 => ⟨none, none, none, rfl, ⟨_, hc_18, hl_20, a2up (Ex.trans (Ex.refl _) e_44) hr_21⟩, fr_23⟩) (fun _ _ _ _ _ => trivial) (fun _ _ _ _ _ e ⟨w_26, w_27, w_28, hs_25, ⟨vs_31, hc_32, hl_33, hr_34⟩, fr_35⟩ => ⟨w_26, w_27, w_28, hs_25, ⟨vs_31, hc_32, hl_33, a2up e hr_34⟩, fr_35⟩) (fun N x_36 v_37 z_24 σ2 I_38 C_39 H_40 e_41 s_42 ⟨w_26, w_27, w_28, hs_25, ⟨vs_31, hc_32, hl_33, hr_34⟩, fr_35⟩ r_43 hm => ?_) (fun z_130 σ2 I_125 C_126 H_127 e_128 s_129 ⟨w_132, w_133, w_134, hs_131, ⟨vs_137, hc_138, hl_139, hr_140⟩, fr_141⟩ hm => ?_)
      · subst hs_25
        refine g2 (K := K) x_36 v_37 I_38 C_39 H_40 _ s_42 r_43 fun σ2 ⟨v_45, v_46, hs_49, r_47, r_48⟩ => ?_
        subst hs_49
        refine q_asg (E := E) (K := K) (σ := [some v_world, some v_run, some v_area, some v_level, some v_row, some (.ref p_10), some v_45, some v_46, w_28]) (i := 8) (x_int (i := 0)) s_42 (fun _ _ h => PX.mono (e_7.trans (e_15.trans e_41)) fr_35 h) hm fun place_50 v_51 I_52 H_53 e_54 s_55 r_56 hm => ?_
        refine s_ifj (E := E) (K := K) (σ := [some v_world, some v_run, some v_area, some v_level, some v_row, some (.ref p_10), some v_45, some v_46, some v_51]) (fun (z_65 : Int) σ2 I_67 C_68 => ∃ v_69 : V, σ2 = [some v_world, some v_run, some v_area, some v_level, some v_row, some (.ref p_10), some v_45, some v_46, some v_69] ∧ Rp.r pI z_65 v_69 I_67 Z ∧ C_68 p_10 = some (.lst vs_31) ∧ Ex C0 C_68) (t_test (x_op o_lt (x_var (i := 7) rfl (Rp.mono _ e_54 exz r_48)) (x_var (i := 3) rfl (Rp.mono _ (e_7.trans (e_15.trans (e_41.trans e_54))) exz r_level)))) s_55 (fun _ _ h => PX.mono (e_7.trans (e_15.trans (e_41.trans e_54))) fr_35 h) hm (fun N I_57 H_58 e_59 s_60 hm => ?_) (fun N I_61 H_62 e_63 s_64 hm => ?_) (fun z_65 σ2 I_80 C_81 H_82 e_83 s_84 ⟨v_69, hs_66, r_70, hc_71, fr_72⟩ hm => ?_)
        · refine q_aug (E := E) (K := K) (σ := [some v_world, some v_run, some v_area, some v_level, some v_row, some (.ref p_10), some v_45, some v_46, some v_51]) (i := 8) rfl (Rp.mono _ e_59 exz r_56) (x_int (i := 2)) s_60 (fun _ _ h => PX.mono (e_7.trans (e_15.trans (e_41.trans (e_54.trans e_59)))) fr_35 h) hm fun place_73 v_74 I_75 H_76 e_77 s_78 r_79 hm => ?_
          exact hm _ _ _ _ (e_59.trans e_77) s_78 ⟨v_74, rfl, Rp.mono _ (Ex.refl _) exz r_79, hc_32, fr_35⟩
        · exact hm _ _ _ _ e_63 s_64 ⟨v_51, rfl, Rp.mono _ e_63 exz r_56, hc_32, fr_35⟩
        subst hs_66
        refine s_ifj (E := E) (K := K) (σ := [some v_world, some v_run, some v_area, some v_level, some v_row, some (.ref p_10), some v_45, some v_46, some v_69]) (fun (z_93 : Int) σ2 I_95 C_96 => ∃ v_97 : V, σ2 = [some v_world, some v_run, some v_area, some v_level, some v_row, some (.ref p_10), some v_45, some v_46, some v_97] ∧ Rp.r pI z_93 v_97 I_95 Z ∧ C_96 p_10 = some (.lst vs_31) ∧ Ex C0 C_96) (t_test (x_op o_lt (x_call (a_cons (x_var (i := 0) rfl (Rp.mono _ (e_7.trans (e_15.trans (e_41.trans (e_54.trans e_83)))) exz r_world)) (a_cons (x_var (i := 1) rfl (Rp.mono _ (e_7.trans (e_15.trans (e_41.trans (e_54.trans e_83)))) exz r_run)) (a_cons (x_var (i := 2) rfl (Rp.mono _ (e_7.trans (e_15.trans (e_41.trans (e_54.trans e_83)))) exz r_area)) (a_one (x_var (i := 6) rfl (Rp.mono _ (e_54.trans e_83) exz r_47))))))) (x_var (i := 3) rfl (Rp.mono _ (e_7.trans (e_15.trans (e_41.trans (e_54.trans e_83)))) exz r_level)))) s_84 (fun _ _ h => PX.mono (e_7.trans (e_15.trans (e_41.trans (e_54.trans e_83)))) fr_72 h) hm (fun N I_85 H_86 e_87 s_88 hm => ?_) (fun N I_89 H_90 e_91 s_92 hm => ?_) (fun z_93 σ2 I_108 C_109 H_110 e_111 s_112 ⟨v_97, hs_94, r_98, hc_99, fr_100⟩ hm => ?_)
        · refine q_aug (E := E) (K := K) (σ := [some v_world, some v_run, some v_area, some v_level, some v_row, some (.ref p_10), some v_45, some v_46, some v_69]) (i := 8) rfl (Rp.mono _ e_87 exz r_70) (x_int (i := 1)) s_88 (fun _ _ h => PX.mono (e_7.trans (e_15.trans (e_41.trans (e_54.trans (e_83.trans e_87))))) fr_72 h) hm fun place_101 v_102 I_103 H_104 e_105 s_106 r_107 hm => ?_
          exact hm _ _ _ _ (e_87.trans e_105) s_106 ⟨v_102, rfl, Rp.mono _ (Ex.refl _) exz r_107, hc_71, fr_72⟩
        · exact hm _ _ _ _ e_91 s_92 ⟨v_69, rfl, Rp.mono _ e_91 exz r_70, hc_71, fr_72⟩
        subst hs_94
        refine q_augL (E := E) (K := K) (σ := [some v_world, some v_run, some v_area, some v_level, some v_row, some (.ref p_10), some v_45, some v_46, some v_97]) (i := 5) (f := (fun i j => i + j)) rfl hc_99 hl_33 (a2up (e_54.trans (e_83.trans e_111)) hr_34) (x_int (i := 1)) (x_var (i := 8) rfl (Rp.mono _ (Ex.refl _) exz r_98)) s_112 (fun _ _ h => PX.mono (e_7.trans (e_15.trans (e_41.trans (e_54.trans (e_83.trans e_111))))) fr_100 h) hm fun counts_113 vs_114 I_115 C_116 H_117 e_118 s_119 hc_120 k_121 hl_122 hr_123 hm => ?_
        have fr_124 := fr_keep fr_100 hB_22 k_121
        exact hm _ _ _ _ (e_54.trans (e_83.trans (e_111.trans e_118))) s_119 ⟨some v_45, some v_46, some v_97, rfl, ⟨_, hc_120, hl_122, a2up (Ex.refl _) hr_123⟩, fr_124⟩
      subst hs_131
      obtain ⟨I_142, C_143, e_144, s_145, h_146, k_147⟩ := freeze s_129 hc_138
      have r_149 := frz_list e_144 h_146 hl_139 hr_140
      have fr_150 := fr_keep fr_141 hB_22 k_147
      refine q_ret (tz := tNext) (E := E) (K := K) (σ := [some v_world, some v_run, some v_area, some v_level, some v_row, some (.ref p_10), w_132, w_133, w_134]) (x_cb o_tuple (a_one (x_v (x_var (i := 5) rfl (Rp.mono _ (Ex.refl _) exz r_149))))) s_145 (fun _ _ h => PX.mono (e_7.trans (e_15.trans (e_128.trans e_144))) fr_150 h) hm fun a_151 v_152 I_153 H_154 e_155 s_156 r_157 hm => ?_
      exact hm v_152 I_153 H_154 (e_7.trans (e_15.trans (e_128.trans (e_144.trans e_155)))) (St.less s_156 fr_150) (Im.im r_157)
def m__law_mix (ar_cell : Int) (ar_turn : Int) : Res Int :=
  ((bin rMod (un idR (bin rAdd (bin rAdd (bin rMul (Res.ok ar_cell) (Res.ok (69621 : Int))) (bin rMul (Res.ok ar_turn) (Res.ok (48271 : Int)))) (Res.ok (12345 : Int)))) (Res.ok (2147483647 : Int))).bind fun (x_1 : Int) => ((bin rMod (un idR (bin rAdd (bin rMul (Res.ok x_1) (Res.ok (16807 : Int))) (Res.ok (97 : Int)))) (Res.ok (2147483629 : Int))).bind fun (x_8 : Int) => ((bin rMod (un idR (bin rAdd (bin rAdd (bin rMul (Res.ok x_8) (Res.ok (69069 : Int))) (Res.ok ar_cell)) (bin rMul (Res.ok ar_turn) (Res.ok (7 : Int))))) (Res.ok (2147483587 : Int))).bind fun (y_15 : Int) => ((bin rMod (un idR (bin rAdd (bin rMul (Res.ok y_15) (Res.ok (39373 : Int))) (Res.ok (7 : Int)))) (Res.ok (2147483579 : Int))).bind fun (y_22 : Int) => ((bin rAdd (bin rMul (Res.ok x_8) (Res.ok (2147483647 : Int))) (Res.ok y_22)).bind fun a_29 => Res.ok a_29)))))
abbrev N__law_mix : List Str := ["cell", "turn", "x", "y"]
theorem sc__law_mix : FnScope N__law_mix ["cell", "turn"] (defScope s__law_mix) := ⟨rfl, rfl, rfl, by decide +kernel, rfl, by decide +kernel, by decide +kernel⟩
theorem bind__law_mix {K : PySem.W.Frag} {mg : Str → Option Value} {T : Tx K mg} : Binds K T.d__law_mix ["cell", "turn"] [] := FunD.bindsN T.F__law_mix fun _ _ _ _ _ _ us hl => match us, hl with | [_, _], _ => rfl
abbrev sp__law_mix (K : PySem.W.Frag) : Sp := spP K (tc pI (t1 pI)) (fun (p : (Int × Int)) => m__law_mix p.1 p.2) pI
theorem ok__law_mix (T : Tx K mg) : FnOk P w K mg base (L2.CX P w) 1 T.f__law_mix T.d__law_mix ["cell", "turn"] (sp__law_mix K) := by
  refine T.F__law_mix.ok sc__law_mix (fun vs H Q E h => ?_) (fun cdv A outer s H vs Q E hr h => ?_)
  · obtain ⟨I, C, a, _, hr, _⟩ := h
    exact Rt.len _ hr
  · obtain ⟨I0, C0, ⟨ar_cell, ar_turn⟩, hs, ⟨v_cell, us0, rfl, r_cell, v_turn, rfl, r_turn⟩, hm⟩ := h
    have hm : Post (m__law_mix ar_cell ar_turn) (PQ pI I0 C0 Q) (PX E K I0 C0) := hm
    replace r_cell : Rp.r pI ar_cell v_cell I0 Z := Im.im r_cell
    replace r_turn : Rp.r pI ar_turn v_turn I0 Z := Im.im r_turn
    unfold m__law_mix at hm
    refine ⟨_, (pss_cons (ps_set (i := 2) sc__law_mix.nd rfl (Or.inl rfl) (pe_op op_mod (pe_callTy call_int1 (by rfl) T.gb_int bt_int (pa_cons (pe_op op_add (pe_op op_add (pe_op op_mul (pv 0) pe_int) (pe_op op_mul (pv 1) pe_int)) pe_int) pa_nil)) pe_int)) (pss_cons (ps_set (i := 2) sc__law_mix.nd rfl (Or.inl rfl) (pe_op op_mod (pe_callTy call_int1 (by rfl) T.gb_int bt_int (pa_cons (pe_op op_add (pe_op op_mul (pv 2) pe_int) pe_int) pa_nil)) pe_int)) (pss_cons (ps_set (i := 3) sc__law_mix.nd rfl (Or.inl rfl) (pe_op op_mod (pe_callTy call_int1 (by rfl) T.gb_int bt_int (pa_cons (pe_op op_add (pe_op op_add (pe_op op_mul (pv 2) pe_int) (pv 0)) (pe_op op_mul (pv 1) pe_int)) pa_nil)) pe_int)) (pss_cons (ps_set (i := 3) sc__law_mix.nd rfl (Or.inl rfl) (pe_op op_mod (pe_callTy call_int1 (by rfl) T.gb_int bt_int (pa_cons (pe_op op_add (pe_op op_mul (pv 3) pe_int) pe_int) pa_nil)) pe_int)) (pss_cons (ps_ret (pe_op op_add (pe_op op_mul (pv 2) pe_int) (pv 3))) pss_nil))))), ?_⟩
    refine q_asg (E := E) (K := K) (σ := [some v_cell, some v_turn, none, none]) (i := 2) (x_op o_mod (x_cb o_int (a_one (x_op o_add (x_op o_add (x_op o_mul (x_var (i := 0) rfl (Rp.mono _ (Ex.refl _) exz r_cell)) (x_int (i := 69621))) (x_op o_mul (x_var (i := 1) rfl (Rp.mono _ (Ex.refl _) exz r_turn)) (x_int (i := 48271)))) (x_int (i := 12345))))) (x_int (i := 2147483647))) hs (fun _ _ h => PX.mono (Ex.refl _) (Ex.refl _) h) hm fun x_1 v_2 I_3 H_4 e_5 s_6 r_7 hm => ?_
    refine q_asg (E := E) (K := K) (σ := [some v_cell, some v_turn, some v_2, none]) (i := 2) (x_op o_mod (x_cb o_int (a_one (x_op o_add (x_op o_mul (x_var (i := 2) rfl (Rp.mono _ (Ex.refl _) exz r_7)) (x_int (i := 16807))) (x_int (i := 97))))) (x_int (i := 2147483629))) s_6 (fun _ _ h => PX.mono e_5 (Ex.refl _) h) hm fun x_8 v_9 I_10 H_11 e_12 s_13 r_14 hm => ?_
    refine q_asg (E := E) (K := K) (σ := [some v_cell, some v_turn, some v_9, none]) (i := 3) (x_op o_mod (x_cb o_int (a_one (x_op o_add (x_op o_add (x_op o_mul (x_var (i := 2) rfl (Rp.mono _ (Ex.refl _) exz r_14)) (x_int (i := 69069))) (x_var (i := 0) rfl (Rp.mono _ (e_5.trans e_12) exz r_cell))) (x_op o_mul (x_var (i := 1) rfl (Rp.mono _ (e_5.trans e_12) exz r_turn)) (x_int (i := 7)))))) (x_int (i := 2147483587))) s_13 (fun _ _ h => PX.mono (e_5.trans e_12) (Ex.refl _) h) hm fun y_15 v_16 I_17 H_18 e_19 s_20 r_21 hm => ?_
    refine q_asg (E := E) (K := K) (σ := [some v_cell, some v_turn, some v_9, some v_16]) (i := 3) (x_op o_mod (x_cb o_int (a_one (x_op o_add (x_op o_mul (x_var (i := 3) rfl (Rp.mono _ (Ex.refl _) exz r_21)) (x_int (i := 39373))) (x_int (i := 7))))) (x_int (i := 2147483579))) s_20 (fun _ _ h => PX.mono (e_5.trans (e_12.trans e_19)) (Ex.refl _) h) hm fun y_22 v_23 I_24 H_25 e_26 s_27 r_28 hm => ?_
    refine q_ret (tz := tNext) (E := E) (K := K) (σ := [some v_cell, some v_turn, some v_9, some v_23]) (x_op o_add (x_op o_mul (x_var (i := 2) rfl (Rp.mono _ (e_19.trans e_26) exz r_14)) (x_int (i := 2147483647))) (x_var (i := 3) rfl (Rp.mono _ (Ex.refl _) exz r_28))) s_27 (fun _ _ h => PX.mono (e_5.trans (e_12.trans (e_19.trans e_26))) (Ex.refl _) h) hm fun a_29 v_30 I_31 H_32 e_33 s_34 r_35 hm => ?_
    exact hm v_30 I_31 H_32 (e_5.trans (e_12.trans (e_19.trans (e_26.trans e_33)))) (St.less s_34 (Ex.refl _)) (Im.im r_35)
abbrev N__law_pool : List Str := ["script"]
theorem sc__law_pool : FnScope N__law_pool ["script"] (defScope s__law_pool) := ⟨rfl, rfl, rfl, by decide +kernel, rfl, by decide +kernel, by decide +kernel⟩
theorem bind__law_pool {K : PySem.W.Frag} {mg : Str → Option Value} {T : Tx K mg} : Binds K T.d__law_pool ["script"] [] := FunD.bindsN T.F__law_pool fun _ _ _ _ _ _ us hl => match us, hl with | [_], _ => rfl
theorem ok__law_pool (T : Tx K mg) : FnOk P w K mg base (L2.CX P w) 1 T.f__law_pool T.d__law_pool ["script"] (spPool K) := by
  refine T.F__law_pool.ok sc__law_pool (fun vs H Q E h => ?_) (fun cdv A outer s H vs Q E hr h => ?_)
  · obtain ⟨I, C, ns, v, rfl, _⟩ := h
    rfl
  · obtain ⟨I0, C0, ns, v, rfl, hs, r, hm⟩ := h
    refine ⟨_, pss_cons (ps_ret (pe_lst (pa_cons pe_int (pa_cons pe_int (pa_cons pe_int (pa_cons (pe_callTy (r := rList1 K) call_list_of (by rfl) T.gb_list bt_list (pa_cons (pe_slice (r := rSlL K) sl_list (pv 0) po_none (po_some pe_int)) pa_nil)) pa_nil)))))) pss_nil, ?_⟩
    exact n_lstP (E := E) (A := pM) (m := .ok (0, 0, 0, cut ns none (some 63))) (x_is' (a_cons x_int (a_cons x_int (a_cons x_int (a_one (x_cb o_list (a_one (x_v (x_slS (x_var (i := 0) rfl (Im.im r)) p_none (p_some x_int))))))))) rfl) (by decide) hs fun p ws I2 H2 e hp s2 hx => hm p ws I2 H2 e hp s2 hx
def m__law_fill (_ : Unit) (a_pool : Pl) : Res (Unit × Pl) :=
  ((Res.ok a_pool.2.2.2).bind fun (numbers_1 : (List Int)) => ((Res.ok (0 : Int)).bind fun (cell_8 : Int) => ((ifR (bin rLt (Res.ok a_pool.2.1) (un rLen (Res.ok numbers_1))) ((bin ix (Res.ok numbers_1) (Res.ok a_pool.2.1)).bind fun (cell_33 : Int) => (Res.ok (a_pool, cell_33))) (ifR (bin rGt (un rLen (Res.ok numbers_1)) (Res.ok (0 : Int))) ((bin ix (Res.ok numbers_1) (bin rMod (un idR (Res.ok a_pool.2.2.1)) (un rLen (Res.ok numbers_1)))).bind fun (cell_48 : Int) => (Res.ok (a_pool, cell_48))) (Res.ok (a_pool, cell_8)))).bind fun (z_23 : (Pl × Int)) => ((ifR (bin rLt (Res.ok z_23.2) (Res.ok (0 : Int))) ((bin rSub (Res.ok (1 : Int)) (bin rMul (Res.ok (2 : Int)) (Res.ok z_23.2))).bind fun (cell_76 : Int) => (Res.ok cell_76)) (Res.ok z_23.2)).bind fun (z_68 : Int) => (thenR (bin rAdd (Res.ok z_23.1.2.1) (Res.ok (1 : Int))) (fun (a_98 : Int) => (z_23.1.1, (a_98, z_23.1.2.2))) (fun (y_88 : Pl) => (thenR (bin rAdd (Res.ok y_88.2.2.1) (Res.ok (1 : Int))) (fun (a_110 : Int) => (y_88.1, (y_88.2.1, (a_110, y_88.2.2.2)))) (fun (y_100 : Pl) => (ifR (andR (bin rGe (Res.ok z_68) (bin rPow (Res.ok (10 : Int)) (Res.ok (18 : Int)))) (bin rLe (Res.ok y_100.2.1) (un rLen (Res.ok numbers_1)))) (thenR (Res.ok z_68) (fun (a_130 : Int) => (a_130, y_100.2)) (fun (y_120 : Pl) => (Res.ok ((), y_120)))) (thenR (un (fun (p : (Int × Int)) => m__law_mix p.1 p.2) (pair (Res.ok z_68) (Res.ok y_100.2.2.1))) (fun (a_142 : Int) => (a_142, y_100.2)) (fun (y_132 : Pl) => (Res.ok ((), y_132)))))))))))))
abbrev N__law_fill : List Str := ["pool", "numbers", "cell"]
theorem sc__law_fill : FnScope N__law_fill ["pool"] (defScope s__law_fill) := ⟨rfl, rfl, rfl, by decide +kernel, rfl, by decide +kernel, by decide +kernel⟩
theorem bind__law_fill {K : PySem.W.Frag} {mg : Str → Option Value} {T : Tx K mg} : Binds K T.d__law_fill ["pool"] [] := FunD.bindsN T.F__law_fill fun _ _ _ _ _ _ us hl => match us, hl with | [_], _ => rfl
abbrev sp__law_fill (K : PySem.W.Frag) : Sp := spM pM t0 m__law_fill pN
theorem ok__law_fill (T : Tx K mg) : FnOk P w K mg base (L2.CX P w) 2 T.f__law_fill T.d__law_fill ["pool"] (sp__law_fill K) := by
  refine T.F__law_fill.ok sc__law_fill (fun vs H Q E h => ?_) (fun cdv A outer s H vs Q E hr h => ?_)
  · obtain ⟨I, C, p, ws, us, x, a, rfl, _, _, _, hr, _⟩ := h
    exact congrArg (· + 1) (Rt.len _ hr)
  · obtain ⟨I0, C0, p0, ws0, us, a_pool, ⟨⟩, rfl, hs, hc0, hx1, rfl, hm⟩ := h
    have hx0 := It.im (C' := Z) hx1
    have hm : Post (m__law_fill () a_pool) (PM p0 pM pN I0 C0 Q) XF := hm
    unfold m__law_fill at hm
    refine ⟨_, (pss_cons (ps_set (i := 1) sc__law_fill.nd rfl (Or.inl rfl) (pe_ix (r := rIxL K) ix_list (pv 0) pe_int (fun _ _ => rfl))) (pss_cons (ps_set (i := 2) sc__law_fill.nd rfl (Or.inl rfl) pe_int) (Evl.pss_cut (ps_if (pt_cmpR op_lt (pe_ix (r := rIxL K) ix_list (pv 0) pe_int (fun _ _ => rfl)) (pe_callB (r := rLen1 K) call_len_seq (by rfl) T.gb_len bt_len (pa_cons (pv 1) pa_nil)) (nomark _)) (pss_cons (ps_set (i := 2) sc__law_fill.nd rfl (Or.inl rfl) (pe_ix (r := rIxL K) ix_list (pv 1) (pe_ix (r := rIxL K) ix_list (pv 0) pe_int (fun _ _ => rfl)) (fun _ _ => rfl))) pss_nil) (pss_cons (ps_if (pt_cmpR op_gt (pe_callB (r := rLen1 K) call_len_seq (by rfl) T.gb_len bt_len (pa_cons (pv 1) pa_nil)) pe_int (nomark _)) (pss_cons (ps_set (i := 2) sc__law_fill.nd rfl (Or.inl rfl) (pe_ix (r := rIxL K) ix_list (pv 1) (pe_op op_mod (pe_callTy call_int1 (by rfl) T.gb_int bt_int (pa_cons (pe_ix (r := rIxL K) ix_list (pv 0) pe_int (fun _ _ => rfl)) pa_nil)) (pe_callB (r := rLen1 K) call_len_seq (by rfl) T.gb_len bt_len (pa_cons (pv 1) pa_nil))) (fun _ _ => rfl))) pss_nil) pss_nil) pss_nil)) (Evl.pss_cut (ps_if (pt_cmpR op_lt (pv 2) pe_int (nomark _)) (pss_cons (ps_set (i := 2) sc__law_fill.nd rfl (Or.inl rfl) (pe_op op_sub pe_int (pe_op op_mul pe_int (pv 2)))) pss_nil) pss_nil) (pss_cons (ps_asg (pe_op op_add (pe_ix (r := rIxL K) ix_list (pv 0) pe_int (fun _ _ => rfl)) pe_int) (pg_sub (pv 0) pe_int set_list)) (pss_cons (ps_asg (pe_op op_add (pe_ix (r := rIxL K) ix_list (pv 0) pe_int (fun _ _ => rfl)) pe_int) (pg_sub (pv 0) pe_int set_list)) (pss_cons (ps_if (PW.pt (pw_and (pt_cmpR op_ge (pv 2) (pe_op op_pow pe_int pe_int) (nomark _)) (pw_and1 (pt_cmpR op_le (pe_ix (r := rIxL K) ix_list (pv 0) pe_int (fun _ _ => rfl)) (pe_callB (r := rLen1 K) call_len_seq (by rfl) T.gb_len bt_len (pa_cons (pv 1) pa_nil)) (nomark _))))) (pss_cons (ps_asg (pv 2) (pg_sub (pv 0) pe_int set_list)) pss_nil) (pss_cons (ps_asg (pe_call (ok__law_mix T) (hr.mono (by decide)) rfl T.g__law_mix T.F__law_mix.kp bind__law_mix .nil passE (pa_cons (pv 2) (pa_cons (pe_ix (r := rIxL K) ix_list (pv 0) pe_int (fun _ _ => rfl)) pa_nil))) (pg_sub (pv 0) pe_int set_list)) pss_nil)) pss_nil))))))), ?_⟩
    refine q_asg (E := E) (K := K) (σ := [some (.ref p0), none, none]) (i := 1) (q_pool (i := 0) (k := 3) rfl hc0 (Rt.mono _ (Ex.refl _) exz hx0) (pjs (pjs (pjs pj1)))) hs (fun _ _ h => h.elim) hm fun numbers_1 v_2 I_3 H_4 e_5 s_6 r_7 hm => ?_
    refine q_asg (E := E) (K := K) (σ := [some (.ref p0), some v_2, none]) (i := 2) (x_int (i := 0)) s_6 (fun _ _ h => h.elim) hm fun cell_8 v_9 I_10 H_11 e_12 s_13 r_14 hm => ?_
    refine s_ifj (E := E) (K := K) (σ := [some (.ref p0), some v_2, some v_9]) (fun (z_23 : (Pl × Int)) σ2 I_25 C_26 => ∃ v_30 : V, σ2 = [some (.ref p0), some v_2, some v_30] ∧ (∃ ws_27 : List V, C_26 p0 = some (.lst ws_27) ∧ Rt.r pM z_23.1 ws_27 I_25 Z) ∧ Rp.r pI z_23.2 v_30 I_25 Z ∧ Ex (off C0 p0) C_26) (t_test (x_op o_lt (q_pool (i := 0) (k := 1) rfl hc0 (Rt.mono _ (e_5.trans e_12) exz hx0) (pjs pj0)) (x_cb o_len (a_one (x_v (x_var (i := 1) rfl (Rp.mono _ e_12 exz r_7))))))) s_13 (fun _ _ h => h.elim) hm (fun N I_15 H_16 e_17 s_18 hm => ?_) (fun N I_19 H_20 e_21 s_22 hm => ?_) (fun z_23 σ2 I_55 C_56 H_57 e_58 s_59 ⟨v_30, hs_24, ⟨ws_27, hc_28, hx_29⟩, r_31, fr_32⟩ hm => ?_)
    · refine q_asg (E := E) (K := K) (σ := [some (.ref p0), some v_2, some v_9]) (i := 2) (x_op o_ix (x_v (x_var (i := 1) rfl (Rp.mono _ (e_12.trans e_17) exz r_7))) (q_pool (i := 0) (k := 1) rfl hc0 (Rt.mono _ (e_5.trans (e_12.trans e_17)) exz hx0) (pjs pj0))) s_18 (fun _ _ h => h.elim) hm fun cell_33 v_34 I_35 H_36 e_37 s_38 r_39 hm => ?_
      exact hm _ _ _ _ (e_17.trans e_37) s_38 ⟨v_34, rfl, ⟨_, hc0, Rt.mono _ (e_5.trans (e_12.trans (e_17.trans e_37))) exz hx0⟩, Rp.mono _ (Ex.refl _) exz r_39, (off_ex (C := C0) (p := p0))⟩
    · refine s_if (E := E) (K := K) (σ := [some (.ref p0), some v_2, some v_9]) (t_test (x_op o_gt (x_cb o_len (a_one (x_v (x_var (i := 1) rfl (Rp.mono _ (e_12.trans e_21) exz r_7))))) (x_int (i := 0)))) s_22 (fun _ _ h => h.elim) hm (fun I_40 H_41 e_42 s_43 hm => ?_) (fun I_44 H_45 e_46 s_47 hm => ?_)
      · refine q_asg (E := E) (K := K) (σ := [some (.ref p0), some v_2, some v_9]) (i := 2) (x_op o_ix (x_v (x_var (i := 1) rfl (Rp.mono _ (e_12.trans (e_21.trans e_42)) exz r_7))) (x_op o_mod (x_cb o_int (a_one (q_pool (i := 0) (k := 2) rfl hc0 (Rt.mono _ (e_5.trans (e_12.trans (e_21.trans e_42))) exz hx0) (pjs (pjs pj0))))) (x_cb o_len (a_one (x_v (x_var (i := 1) rfl (Rp.mono _ (e_12.trans (e_21.trans e_42)) exz r_7))))))) s_43 (fun _ _ h => h.elim) hm fun cell_48 v_49 I_50 H_51 e_52 s_53 r_54 hm => ?_
        exact hm _ _ _ _ (e_21.trans (e_42.trans e_52)) s_53 ⟨v_49, rfl, ⟨_, hc0, Rt.mono _ (e_5.trans (e_12.trans (e_21.trans (e_42.trans e_52)))) exz hx0⟩, Rp.mono _ (Ex.refl _) exz r_54, (off_ex (C := C0) (p := p0))⟩
      · exact hm _ _ _ _ (e_21.trans e_46) s_47 ⟨v_9, rfl, ⟨_, hc0, Rt.mono _ (e_5.trans (e_12.trans (e_21.trans e_46))) exz hx0⟩, Rp.mono _ (e_21.trans e_46) exz r_14, (off_ex (C := C0) (p := p0))⟩
    subst hs_24
    refine s_ifj (E := E) (K := K) (σ := [some (.ref p0), some v_2, some v_30]) (fun (z_68 : Int) σ2 I_70 C_71 => ∃ v_72 : V, σ2 = [some (.ref p0), some v_2, some v_72] ∧ Rp.r pI z_68 v_72 I_70 Z ∧ C_71 p0 = some (.lst ws_27) ∧ Ex (off C0 p0) C_71) (t_test (x_op o_lt (x_var (i := 2) rfl (Rp.mono _ (Ex.refl _) exz r_31)) (x_int (i := 0)))) s_59 (fun _ _ h => h.elim) hm (fun N I_60 H_61 e_62 s_63 hm => ?_) (fun N I_64 H_65 e_66 s_67 hm => ?_) (fun z_68 σ2 I_83 C_84 H_85 e_86 s_87 ⟨v_72, hs_69, r_73, hc_74, fr_75⟩ hm => ?_)
    · refine q_asg (E := E) (K := K) (σ := [some (.ref p0), some v_2, some v_30]) (i := 2) (x_op o_sub (x_int (i := 1)) (x_op o_mul (x_int (i := 2)) (x_var (i := 2) rfl (Rp.mono _ e_62 exz r_31)))) s_63 (fun _ _ h => h.elim) hm fun cell_76 v_77 I_78 H_79 e_80 s_81 r_82 hm => ?_
      exact hm _ _ _ _ (e_62.trans e_80) s_81 ⟨v_77, rfl, Rp.mono _ (Ex.refl _) exz r_82, hc_28, fr_32⟩
    · exact hm _ _ _ _ e_66 s_67 ⟨v_30, rfl, Rp.mono _ e_66 exz r_31, hc_28, fr_32⟩
    subst hs_69
    refine q_setT (E := E) (K := K) (σ := [some (.ref p0), some v_2, some v_72]) (i := 0) (k := 1) rfl (x_op o_add (q_pool (i := 0) (k := 1) rfl hc_74 (Rt.mono _ e_86 exz hx_29) (pjs pj0)) (x_int (i := 1))) (pks pk0) s_87 hc_74 (Rt.mono _ e_86 exz hx_29) hm fun y_88 ws_89 I_90 C_91 H_92 e_93 s_94 hc_95 k_96 hx_97 hm => ?_
    have fr_99 := fr_pool fr_75 k_96
    refine q_setT (E := E) (K := K) (σ := [some (.ref p0), some v_2, some v_72]) (i := 0) (k := 2) rfl (x_op o_add (q_pool (i := 0) (k := 2) rfl hc_95 (Rt.mono _ (Ex.refl _) exz hx_97) (pjs (pjs pj0))) (x_int (i := 1))) (pks (pks pk0)) s_94 hc_95 (Rt.mono _ (Ex.refl _) exz hx_97) hm fun y_100 ws_101 I_102 C_103 H_104 e_105 s_106 hc_107 k_108 hx_109 hm => ?_
    have fr_111 := fr_pool fr_99 k_108
    refine s_if (E := E) (K := K) (σ := [some (.ref p0), some v_2, some v_72]) (t_and (t_test (x_op o_ge (x_var (i := 2) rfl (Rp.mono _ (e_93.trans e_105) exz r_73)) (x_op o_pow (x_int (i := 10)) (x_int (i := 18))))) (t_test (x_op o_le (q_pool (i := 0) (k := 1) rfl hc_107 (Rt.mono _ (Ex.refl _) exz hx_109) (pjs pj0)) (x_cb o_len (a_one (x_v (x_var (i := 1) rfl (Rp.mono _ (e_12.trans (e_58.trans (e_86.trans (e_93.trans e_105)))) exz r_7)))))))) s_106 (fun _ _ h => h.elim) hm (fun I_112 H_113 e_114 s_115 hm => ?_) (fun I_116 H_117 e_118 s_119 hm => ?_)
    · refine q_setT (E := E) (K := K) (σ := [some (.ref p0), some v_2, some v_72]) (i := 0) (k := 0) rfl (x_var (i := 2) rfl (Rp.mono _ (e_93.trans (e_105.trans e_114)) exz r_73)) pk0 s_115 hc_107 (Rt.mono _ e_114 exz hx_109) hm fun y_120 ws_121 I_122 C_123 H_124 e_125 s_126 hc_127 k_128 hx_129 hm => ?_
      have fr_131 := fr_pool fr_111 k_128
      exact ret_poolN hm (e_5.trans (e_12.trans (e_58.trans (e_86.trans (e_93.trans (e_105.trans (e_114.trans e_125))))))) fr_131 s_126 hc_127 (Rt.mono _ (Ex.refl _) exz hx_129)
    · refine q_setT (E := E) (K := K) (σ := [some (.ref p0), some v_2, some v_72]) (i := 0) (k := 0) rfl (x_call (a_cons (x_var (i := 2) rfl (Rp.mono _ (e_93.trans (e_105.trans e_118)) exz r_73)) (a_one (q_pool (i := 0) (k := 2) rfl hc_107 (Rt.mono _ e_118 exz hx_109) (pjs (pjs pj0)))))) pk0 s_119 hc_107 (Rt.mono _ e_118 exz hx_109) hm fun y_132 ws_133 I_134 C_135 H_136 e_137 s_138 hc_139 k_140 hx_141 hm => ?_
      have fr_143 := fr_pool fr_111 k_140
      exact ret_poolN hm (e_5.trans (e_12.trans (e_58.trans (e_86.trans (e_93.trans (e_105.trans (e_118.trans e_137))))))) fr_143 s_138 hc_139 (Rt.mono _ (Ex.refl _) exz hx_141)
def m__law_take (ar_many : Int) (a_pool : Pl) : Res (Int × Pl) :=
  ((ifR (bin rLt (Res.ok a_pool.1) (Res.ok ar_many)) (((m__law_fill ()) a_pool).bind fun (b_17 : Unit × Pl) => (Res.ok b_17.2)) (Res.ok a_pool)).bind fun (z_9 : Pl) => ((bin rMod (un idR (Res.ok z_9.1)) (Res.ok ar_many)).bind fun (value_33 : Int) => (thenR (bin rDiv (Res.ok z_9.1) (Res.ok ar_many)) (fun (a_50 : Int) => (a_50, z_9.2)) (fun (y_40 : Pl) => ((Res.ok value_33).bind fun a_52 => Res.ok (a_52, y_40))))))
abbrev N__law_take : List Str := ["pool", "many", "value"]
theorem sc__law_take : FnScope N__law_take ["pool", "many"] (defScope s__law_take) := ⟨rfl, rfl, rfl, by decide +kernel, rfl, by decide +kernel, by decide +kernel⟩
theorem bind__law_take {K : PySem.W.Frag} {mg : Str → Option Value} {T : Tx K mg} : Binds K T.d__law_take ["pool", "many"] [] := FunD.bindsN T.F__law_take fun _ _ _ _ _ _ us hl => match us, hl with | [_, _], _ => rfl
abbrev sp__law_take (K : PySem.W.Frag) : Sp := spM pM (t1 pI) m__law_take pI
theorem ok__law_take (T : Tx K mg) : FnOk P w K mg base (L2.CX P w) 3 T.f__law_take T.d__law_take ["pool", "many"] (sp__law_take K) := by
  refine T.F__law_take.ok sc__law_take (fun vs H Q E h => ?_) (fun cdv A outer s H vs Q E hr h => ?_)
  · obtain ⟨I, C, p, ws, us, x, a, rfl, _, _, _, hr, _⟩ := h
    exact congrArg (· + 1) (Rt.len _ hr)
  · obtain ⟨I0, C0, p0, ws0, us, a_pool, ar_many, rfl, hs, hc0, hx1, ⟨v_many, rfl, r_many⟩, hm⟩ := h
    have hx0 := It.im (C' := Z) hx1
    have hm : Post (m__law_take ar_many a_pool) (PM p0 pM pI I0 C0 Q) XF := hm
    replace r_many : Rp.r pI ar_many v_many I0 Z := Im.im r_many
    unfold m__law_take at hm
    refine ⟨_, (Evl.pss_cut (ps_if (pt_cmpR op_lt (pe_ix (r := rIxL K) ix_list (pv 0) pe_int (fun _ _ => rfl)) (pv 1) (nomark _)) (pss_cons (ps_expr (pe_call (ok__law_fill T) (hr.mono (by decide)) rfl T.g__law_fill T.F__law_fill.kp bind__law_fill .nil passE (pa_cons (pv 0) pa_nil))) pss_nil) pss_nil) (pss_cons (ps_set (i := 2) sc__law_take.nd rfl (Or.inl rfl) (pe_op op_mod (pe_callTy call_int1 (by rfl) T.gb_int bt_int (pa_cons (pe_ix (r := rIxL K) ix_list (pv 0) pe_int (fun _ _ => rfl)) pa_nil)) (pv 1))) (pss_cons (ps_asg (pe_op op_fdiv (pe_ix (r := rIxL K) ix_list (pv 0) pe_int (fun _ _ => rfl)) (pv 1)) (pg_sub (pv 0) pe_int set_list)) (pss_cons (ps_ret (pv 2)) pss_nil)))), ?_⟩
    refine s_ifj (E := E) (K := K) (σ := [some (.ref p0), some v_many, none]) (fun (z_9 : Pl) σ2 I_11 C_12 => σ2 = [some (.ref p0), some v_many, none] ∧ (∃ ws_13 : List V, C_12 p0 = some (.lst ws_13) ∧ Rt.r pM z_9 ws_13 I_11 Z) ∧ Ex (off C0 p0) C_12) (t_test (x_op o_lt (q_pool (i := 0) (k := 0) rfl hc0 (Rt.mono _ (Ex.refl _) exz hx0) pj0) (x_var (i := 1) rfl (Rp.mono _ (Ex.refl _) exz r_many)))) hs (fun _ _ h => h.elim) hm (fun N I_1 H_2 e_3 s_4 hm => ?_) (fun N I_5 H_6 e_7 s_8 hm => ?_) (fun z_9 σ2 I_28 C_29 H_30 e_31 s_32 ⟨hs_10, ⟨ws_13, hc_14, hx_15⟩, fr_16⟩ hm => ?_)
    · refine qm_expr (E := E) (K := K) (σ := [some (.ref p0), some v_many, none]) (m_callM0 (i := 0) rfl) s_4 hc0 (Rt.mono _ e_3 exz hx0) hm fun b_17 ws_18 I_19 C_20 H_21 e_22 s_23 hc_24 k_25 hx_26 hm => ?_
      have fr_27 := fr_pool (off_ex (C := C0) (p := p0)) k_25
      exact hm _ _ _ _ (e_3.trans e_22) s_23 ⟨rfl, ⟨_, hc_24, Rt.mono _ (Ex.refl _) exz hx_26⟩, fr_27⟩
    · exact hm _ _ _ _ e_7 s_8 ⟨rfl, ⟨_, hc0, Rt.mono _ e_7 exz hx0⟩, (off_ex (C := C0) (p := p0))⟩
    subst hs_10
    refine q_asg (E := E) (K := K) (σ := [some (.ref p0), some v_many, none]) (i := 2) (x_op o_mod (x_cb o_int (a_one (q_pool (i := 0) (k := 0) rfl hc_14 (Rt.mono _ (Ex.refl _) exz hx_15) pj0))) (x_var (i := 1) rfl (Rp.mono _ e_31 exz r_many))) s_32 (fun _ _ h => h.elim) hm fun value_33 v_34 I_35 H_36 e_37 s_38 r_39 hm => ?_
    refine q_setT (E := E) (K := K) (σ := [some (.ref p0), some v_many, some v_34]) (i := 0) (k := 0) rfl (x_op o_fdiv (q_pool (i := 0) (k := 0) rfl hc_14 (Rt.mono _ e_37 exz hx_15) pj0) (x_var (i := 1) rfl (Rp.mono _ (e_31.trans e_37) exz r_many))) pk0 s_38 hc_14 (Rt.mono _ e_37 exz hx_15) hm fun y_40 ws_41 I_42 C_43 H_44 e_45 s_46 hc_47 k_48 hx_49 hm => ?_
    have fr_51 := fr_pool fr_16 k_48
    refine q_ret (tz := tNext) (E := E) (K := K) (σ := [some (.ref p0), some v_many, some v_34]) (x_var (i := 2) rfl (Rp.mono _ e_45 exz r_39)) s_46 (fun _ _ h => h.elim) hm fun a_52 v_53 I_54 H_55 e_56 s_57 r_58 hm => ?_
    exact ret_pool hm (e_31.trans (e_37.trans (e_45.trans e_56))) fr_51 s_57 hc_47 (Rt.mono _ e_56 exz hx_49) r_58
def m__law_from (ar_low : Int) (ar_high : Int) (a_pool : Pl) : Res (Int × Pl) :=
  (((binM rAdd (liftM (Res.ok ar_low)) (callM m__law_take (liftM (bin rAdd (bin rSub (Res.ok ar_high) (Res.ok ar_low)) (Res.ok (1 : Int)))))) a_pool).bind fun a_1 => Res.ok (a_1.1, a_1.2))
abbrev N__law_from : List Str := ["pool", "low", "high"]
theorem sc__law_from : FnScope N__law_from ["pool", "low", "high"] (defScope s__law_from) := ⟨rfl, rfl, rfl, by decide +kernel, rfl, by decide +kernel, by decide +kernel⟩
theorem bind__law_from {K : PySem.W.Frag} {mg : Str → Option Value} {T : Tx K mg} : Binds K T.d__law_from ["pool", "low", "high"] [] := FunD.bindsN T.F__law_from fun _ _ _ _ _ _ us hl => match us, hl with | [_, _, _], _ => rfl
abbrev sp__law_from (K : PySem.W.Frag) : Sp := spM pM (tc pI (t1 pI)) (fun (p : (Int × Int)) => m__law_from p.1 p.2) pI
theorem ok__law_from (T : Tx K mg) : FnOk P w K mg base (L2.CX P w) 4 T.f__law_from T.d__law_from ["pool", "low", "high"] (sp__law_from K) := by
  refine T.F__law_from.ok sc__law_from (fun vs H Q E h => ?_) (fun cdv A outer s H vs Q E hr h => ?_)
  · obtain ⟨I, C, p, ws, us, x, a, rfl, _, _, _, hr, _⟩ := h
    exact congrArg (· + 1) (Rt.len _ hr)
  · obtain ⟨I0, C0, p0, ws0, us, a_pool, ⟨ar_low, ar_high⟩, rfl, hs, hc0, hx1, ⟨v_low, us0, rfl, r_low, v_high, rfl, r_high⟩, hm⟩ := h
    have hx0 := It.im (C' := Z) hx1
    have hm : Post (m__law_from ar_low ar_high a_pool) (PM p0 pM pI I0 C0 Q) XF := hm
    replace r_low : Rp.r pI ar_low v_low I0 Z := Im.im r_low
    replace r_high : Rp.r pI ar_high v_high I0 Z := Im.im r_high
    unfold m__law_from at hm
    refine ⟨_, (pss_cons (ps_ret (pe_op op_add (pv 1) (pe_call (ok__law_take T) (hr.mono (by decide)) rfl T.g__law_take T.F__law_take.kp bind__law_take .nil passE (pa_cons (pv 0) (pa_cons (pe_op op_add (pe_op op_sub (pv 2) (pv 1)) pe_int) pa_nil))))) pss_nil), ?_⟩
    refine qm_ret (E := E) (K := K) (σ := [some (.ref p0), some v_low, some v_high]) (m_op (fun _ => o_add) off_same (m_pure (x_var (i := 1) rfl (Rp.mono _ (Ex.refl _) exz r_low))) (m_callM (i := 0) rfl (am_pure (a_one (x_op o_add (x_op o_sub (x_var (i := 2) rfl (Rp.mono _ (Ex.refl _) exz r_high)) (x_var (i := 1) rfl (Rp.mono _ (Ex.refl _) exz r_low))) (x_int (i := 1))))))) hs hc0 (Rt.mono _ (Ex.refl _) exz hx0) hm fun a_1 v_2 ws_8 I_3 C_9 H_4 e_5 s_6 hc_10 k_11 hx_12 r_7 hm => ?_
    have fr_13 := fr_pool (off_ex (C := C0) (p := p0)) k_11
    exact ret_pool hm e_5 fr_13 s_6 hc_10 hx_12 r_7
def m__law_name (ar_names : (List Str)) (a_pool : Pl) : Res (Str × Pl) :=
  ((Res.ok ("" : Str)).bind fun (word_1 : Str) => ((((unM rng1 (callM (fun (p : (Int × Int)) => m__law_from p.1 p.2) (liftM (pair (Res.ok (1 : Int)) (Res.ok (12 : Int)))))) a_pool).bind fun b => loopN (fun (x_19 : Int) (z_8 : (Str × Pl)) => (((binM rCatS (liftM (Res.ok z_8.1)) (binM ixS (liftM (Res.ok ("abcdefghijklmnopqrstuvwxyz" : Str))) (callM m__law_take (liftM (Res.ok (26 : Int)))))) z_8.2).bind fun (word_39 : Str × Pl) => (Res.ok (word_39.1, word_39.2)))) b.1 ((fun (y_28 : Pl) => (word_1, y_28)) b.2)).bind fun (z_57 : (Str × Pl)) => ((ifR (bin inR (Res.ok z_57.1) (Res.ok ar_names)) (((un rng2 (pair (Res.ok (1 : Int)) (Res.ok (13 : Int)))).bind fun xs => loopR (fun (x_90 : Int) (z_83 : Unit) => (ifR (bin ninR (bin repSR (Res.ok ("y" : Str)) (Res.ok x_90)) (Res.ok ar_names)) ((bin repSR (Res.ok ("y" : Str)) (Res.ok x_90)).bind fun a_110 => Res.ok (Out.rt (a_110, z_57.2))) (Res.ok (Out.nx ())))) xs ()).bind fun (o : Out Unit (Str × Pl)) => match o with | .nx z_122 => (Res.ok (Out.nx ())) | .br _ => Res.bad | .rt r => Res.ok (Out.rt r)) (Res.ok (Out.nx ()))).bind fun (o : Out Unit (Str × Pl)) => match o with | .nx z_76 => ((Res.ok z_57.1).bind fun a_134 => Res.ok (a_134, z_57.2)) | .br _ => Res.bad | .rt r => Res.ok r)))
abbrev N__law_name : List Str := ["pool", "names", "word", "k", "size"]
theorem sc__law_name : FnScope N__law_name ["pool", "names"] (defScope s__law_name) := ⟨rfl, rfl, rfl, by decide +kernel, rfl, by decide +kernel, by decide +kernel⟩
theorem bind__law_name {K : PySem.W.Frag} {mg : Str → Option Value} {T : Tx K mg} : Binds K T.d__law_name ["pool", "names"] [] := FunD.bindsN T.F__law_name fun _ _ _ _ _ _ us hl => match us, hl with | [_, _], _ => rfl
abbrev sp__law_name (K : PySem.W.Frag) : Sp := spMo pM (t1 (pV pS)) m__law_name pS
theorem ok__law_name (T : Tx K mg) : FnOk P w K mg base (L2.CX P w) 5 T.f__law_name T.d__law_name ["pool", "names"] (sp__law_name K) := by
  refine T.F__law_name.ok sc__law_name (fun vs H Q E h => ?_) (fun cdv A outer s H vs Q E hr h => ?_)
  · obtain ⟨I, C, p, ws, us, x, a, rfl, _, _, _, hr, _⟩ := h
    exact congrArg (· + 1) (Rt.len _ hr)
  · obtain ⟨I0, C0, p0, ws0, us, a_pool, ar_names, rfl, hs, hc0, hx1, ⟨v_names, rfl, r_names⟩, hm⟩ := h
    have hx0 := It.im (C' := Z) hx1
    have hm : Post (m__law_name ar_names a_pool) (PM p0 pM pS I0 C0 Q) XF := hm
    unfold m__law_name at hm
    refine ⟨_, (pss_cons (ps_set (i := 2) sc__law_name.nd rfl (Or.inl rfl) pe_str) (pss_cons (ps_for (passes_of rfl) rfl (pi_range1 (by rfl) T.gb_range (pa_cons (pe_call (ok__law_from T) (hr.mono (by decide)) rfl T.g__law_from T.F__law_from.kp bind__law_from .nil passE (pa_cons (pv 0) (pa_cons pe_int (pa_cons pe_int pa_nil)))) pa_nil)) (pg_name (i := 3) sc__law_name.nd rfl (Or.inl rfl)) (pss_cons (ps_set (i := 2) sc__law_name.nd rfl (Or.inl rfl) (pe_op op_add_str (pv 2) (pe_ix (r := rIxS) ix_str pe_str (pe_call (ok__law_take T) (hr.mono (by decide)) rfl T.g__law_take T.F__law_take.kp bind__law_take .nil passE (pa_cons (pv 0) (pa_cons pe_int pa_nil))) (fun _ _ => rfl)))) pss_nil)) (Evl.pss_cut (ps_if (pt_cmpR (r := rIn K false) op_in_seq (pv 2) (pv 1) rfl) (pss_cons (ps_for (passes_of rfl) rfl (pi_range2 (by rfl) T.gb_range (pa_cons pe_int (pa_cons pe_int pa_nil))) (pg_name (i := 4) sc__law_name.nd rfl (Or.inl rfl)) (pss_cons (ps_if (pt_cmpR (r := rIn K true) op_notIn_seq (pe_op op_repS pe_str (pv 4)) (pv 1) rfl) (pss_cons (ps_ret (pe_op op_repS pe_str (pv 4))) pss_nil) pss_nil) pss_nil)) pss_nil) pss_nil) (pss_cons (ps_ret (pv 2)) pss_nil)))), ?_⟩
    refine q_asg (E := E) (K := K) (σ := [some (.ref p0), some v_names, none, none, none]) (i := 2) (x_str (by decide +kernel)) hs (fun _ _ h => h.elim) hm fun word_1 v_2 I_3 H_4 e_5 s_6 r_7 hm => ?_
    refine qm_forN (E := E) (K := K) (σ := [some (.ref p0), some v_names, some v_2, none, none]) (s0 := fun (y_28 : Pl) => (word_1, y_28)) (fun (z_8 : (Str × Pl)) σ2 I_11 C_12 => ∃ w_10 : Option V, ∃ v_13 : V, σ2 = [some (.ref p0), some v_names, some v_13, w_10, none] ∧ Rp.r pS z_8.1 v_13 I_11 Z ∧ (∃ ws_15 : List V, C_12 p0 = some (.lst ws_15) ∧ Rt.r pM z_8.2 ws_15 I_11 Z) ∧ Ex (off C0 p0) C_12) (im_rng1 (am_one (m_callM (i := 0) rfl (am_pure (a_cons (x_int (i := 1)) (a_one (x_int (i := 12)))))))) s_6 hc0 (Rt.mono _ e_5 exz hx0) hm (fun y_28 ws_29 I_30 C_31 e_27 hc_32 k_33 hx_34 => by
      have fr_35 := fr_pool (off_ex (C := C0) (p := p0)) k_33
      exact ⟨none, v_2, rfl, Rp.mono _ e_27 exz r_7, ⟨_, hc_32, Rt.mono _ (Ex.refl _) exz hx_34⟩, fr_35⟩) (fun _ _ _ _ _ e ⟨w_10, v_13, hs_9, r_14, ⟨ws_15, hc_16, hx_17⟩, fr_18⟩ => ⟨w_10, v_13, hs_9, Rp.mono _ e exz r_14, ⟨ws_15, hc_16, Rt.mono _ e exz hx_17⟩, fr_18⟩) (fun N x_19 v_20 z_8 σ2 I_21 C_22 H_23 e_24 s_25 ⟨w_10, v_13, hs_9, r_14, ⟨ws_15, hc_16, hx_17⟩, fr_18⟩ r_26 hm => ?_) (fun z_57 σ2 I_52 C_53 H_54 e_55 s_56 ⟨w_59, v_62, hs_58, r_63, ⟨ws_64, hc_65, hx_66⟩, fr_67⟩ hm => ?_)
    · subst hs_9
      refine g1 (K := K) x_19 v_20 I_21 C_22 H_23 _ s_25 r_26 fun σ2 ⟨v_36, hs_38, r_37⟩ => ?_
      subst hs_38
      refine qm_asg (E := E) (K := K) (σ := [some (.ref p0), some v_names, some v_13, some v_36, none]) (i := 2) (m_op (fun _ => o_catS) off_same (m_pure (x_var (i := 2) rfl (Rp.mono _ (Ex.refl _) exz r_14))) (m_op (fun _ => o_ixS) off_same (m_pure (x_str (by decide +kernel))) (m_callM (i := 0) rfl (am_pure (a_one (x_int (i := 26))))))) s_25 hc_16 (Rt.mono _ (Ex.refl _) exz hx_17) hm fun word_39 v_40 ws_46 I_41 C_47 H_42 e_43 s_44 hc_48 k_49 hx_50 r_45 hm => ?_
      have fr_51 := fr_pool fr_18 k_49
      exact hm _ _ _ _ e_43 s_44 ⟨some v_36, v_40, rfl, Rp.mono _ (Ex.refl _) exz r_45, ⟨_, hc_48, Rt.mono _ (Ex.refl _) exz hx_50⟩, fr_51⟩
    subst hs_58
    refine s_ifr (E := E) (K := K) (σ := [some (.ref p0), some v_names, some v_62, w_59, none]) (fun (z_76 : Unit) σ2 I_79 C_80 => ∃ w_78 : Option V, σ2 = [some (.ref p0), some v_names, some v_62, w_59, w_78] ∧ C_80 p0 = some (.lst ws_64) ∧ Ex (off C0 p0) C_80) (t_test (x_op (o_in fl_str) (x_var (i := 2) rfl (Rp.mono _ (Ex.refl _) exz r_63)) (x_var (i := 1) rfl (Rp.mono _ (e_5.trans e_55) fr_67 r_names)))) s_56 (fun _ _ h => h.elim) hm (fun N I_68 H_69 e_70 s_71 hm => ?_) (fun N I_72 H_73 e_74 s_75 hm => ?_) (fun z_76 σ2 I_129 C_130 H_131 e_132 s_133 ⟨w_78, hs_77, hc_81, fr_82⟩ hm => ?_)
    · refine s_forR (E := E) (K := K) (σ := [some (.ref p0), some v_names, some v_62, w_59, none]) (fun (z_83 : Unit) σ2 I_86 C_87 => ∃ w_85 : Option V, σ2 = [some (.ref p0), some v_names, some v_62, w_59, w_85] ∧ C_87 p0 = some (.lst ws_64) ∧ Ex (off C0 p0) C_87) (i_rng2 (a_cons (x_int (i := 1)) (a_one (x_int (i := 13))))) s_71 (fun _ _ h => h.elim) hm (fun _ e_98 => ⟨none, rfl, hc_65, fr_67⟩) (fun _ _ _ _ _ => trivial) (fun _ _ _ _ _ e ⟨w_85, hs_84, hc_88, fr_89⟩ => ⟨w_85, hs_84, hc_88, fr_89⟩) (fun N x_90 v_91 z_83 σ2 I_92 C_93 H_94 e_95 s_96 ⟨w_85, hs_84, hc_88, fr_89⟩ r_97 hm => ?_) (fun z_122 σ2 I_117 C_118 H_119 e_120 s_121 ⟨w_124, hs_123, hc_127, fr_128⟩ hm => ?_)
      · subst hs_84
        refine g1 (K := K) x_90 v_91 I_92 C_93 H_94 _ s_96 r_97 fun σ2 ⟨v_99, hs_101, r_100⟩ => ?_
        subst hs_101
        refine s_if (E := E) (K := K) (σ := [some (.ref p0), some v_names, some v_62, w_59, some v_99]) (t_test (x_op (o_nin fl_str) (x_op o_repS (x_str (by decide +kernel)) (x_var (i := 4) rfl (Rp.mono _ (Ex.refl _) exz r_100))) (x_var (i := 1) rfl (Rp.mono _ (e_5.trans (e_55.trans (e_70.trans e_95))) fr_89 r_names)))) s_96 (fun _ _ h => h.elim) hm (fun I_102 H_103 e_104 s_105 hm => ?_) (fun I_106 H_107 e_108 s_109 hm => ?_)
        · refine q_ret (tz := tNext) (E := E) (K := K) (σ := [some (.ref p0), some v_names, some v_62, w_59, some v_99]) (x_op o_repS (x_str (by decide +kernel)) (x_var (i := 4) rfl (Rp.mono _ e_104 exz r_100))) s_105 (fun _ _ h => h.elim) hm fun a_110 v_111 I_112 H_113 e_114 s_115 r_116 hm => ?_
          exact ret_pool hm (e_5.trans (e_55.trans (e_70.trans (e_95.trans (e_104.trans e_114))))) fr_89 s_115 hc_88 (Rt.mono _ (e_70.trans (e_95.trans (e_104.trans e_114))) exz hx_66) r_116
        · exact hm _ _ _ _ e_108 s_109 ⟨some v_99, rfl, hc_88, fr_89⟩
      subst hs_123
      exact hm _ _ _ _ (e_70.trans e_120) s_121 ⟨w_124, rfl, hc_127, fr_128⟩
    · exact hm _ _ _ _ e_74 s_75 ⟨none, rfl, hc_65, fr_67⟩
    subst hs_77
    refine q_ret (tz := tNext) (E := E) (K := K) (σ := [some (.ref p0), some v_names, some v_62, w_59, w_78]) (x_var (i := 2) rfl (Rp.mono _ e_132 exz r_63)) s_133 (fun _ _ h => h.elim) hm fun a_134 v_135 I_136 H_137 e_138 s_139 r_140 hm => ?_
    exact ret_pool hm (e_5.trans (e_55.trans (e_132.trans e_138))) fr_82 s_139 hc_81 (Rt.mono _ (e_132.trans e_138) exz hx_66) r_140
def m__law_names (ar_many : Int) (a_pool : Pl) : Res ((List Str) × Pl) :=
  ((Res.ok ([] : List Str)).bind fun (names_1 : (List Str)) => (((un rng1 (Res.ok ar_many)).bind fun xs => loopN (fun (x_31 : Int) (z_18 : ((List Str) × Pl)) => ((((callM m__law_name (liftM (Res.ok z_18.1))) z_18.2).bind fun b => (push z_18.1 b.1).bind fun ys => Res.ok (ys, b.2)).bind fun (names_43 : (List Str) × Pl) => (Res.ok (names_43.1, names_43.2)))) xs (names_1, a_pool)).bind fun (z_63 : ((List Str) × Pl)) => ((Res.ok z_63.1).bind fun a_86 => Res.ok (a_86, z_63.2))))
abbrev N__law_names : List Str := ["pool", "many", "names", "k"]
theorem sc__law_names : FnScope N__law_names ["pool", "many"] (defScope s__law_names) := ⟨rfl, rfl, rfl, by decide +kernel, rfl, by decide +kernel, by decide +kernel⟩
theorem bind__law_names {K : PySem.W.Frag} {mg : Str → Option Value} {T : Tx K mg} : Binds K T.d__law_names ["pool", "many"] [] := FunD.bindsN T.F__law_names fun _ _ _ _ _ _ us hl => match us, hl with | [_, _], _ => rfl
abbrev sp__law_names (K : PySem.W.Frag) : Sp := spM pM (t1 pI) m__law_names (pL pS)
theorem ok__law_names (T : Tx K mg) : FnOk P w K mg base (L2.CX P w) 6 T.f__law_names T.d__law_names ["pool", "many"] (sp__law_names K) := by
  refine T.F__law_names.ok sc__law_names (fun vs H Q E h => ?_) (fun cdv A outer s H vs Q E hr h => ?_)
  · obtain ⟨I, C, p, ws, us, x, a, rfl, _, _, _, hr, _⟩ := h
    exact congrArg (· + 1) (Rt.len _ hr)
  · obtain ⟨I0, C0, p0, ws0, us, a_pool, ar_many, rfl, hs, hc0, hx1, ⟨v_many, rfl, r_many⟩, hm⟩ := h
    have hx0 := It.im (C' := Z) hx1
    have hm : Post (m__law_names ar_many a_pool) (PM p0 pM (pL pS) I0 C0 Q) XF := hm
    replace r_many : Rp.r pI ar_many v_many I0 Z := Im.im r_many
    unfold m__law_names at hm
    refine ⟨_, (pss_cons (ps_set (i := 2) sc__law_names.nd rfl (Or.inl rfl) (pe_lst pa_nil)) (pss_cons (ps_for (passes_of rfl) rfl (pi_range1 (by rfl) T.gb_range (pa_cons (pv 1) pa_nil)) (pg_name (i := 3) sc__law_names.nd rfl (Or.inl rfl)) (pss_cons (ps_expr (show PE _ _ (tBM K "list" rAppend _ _) from pe_bm PySem.F.plainAttrs_list PySem.F.slot_list_append PySem.F.type_list_append mt_append (pv 2) (pa_cons (pe_call (ok__law_name T) (hr.mono (by decide)) rfl T.g__law_name T.F__law_name.kp bind__law_name .nil passE (pa_cons (pv 0) (pa_cons (pv 2) pa_nil))) pa_nil))) pss_nil)) (pss_cons (ps_ret (pv 2)) pss_nil))), ?_⟩
    refine q_asgN (E := E) (K := K) (σ := [some (.ref p0), some v_many, none, none]) (i := 2) (n_lst (R := pS) al_nil (by decide)) hs (fun _ _ h => h.elim) hm fun names_1 p_2 vs_3 I_4 C_5 H_6 e_7 hp_8 s_9 hc_10 k_11 hl_12 hr_13 hm => ?_
    have ne_14 := ne_new hc0 hp_8
    have hB_15 := Ex.free (off_ex (C := C0) (p := p0)) hp_8
    have hc_16 := (k_11 _ ne_14).trans hc0
    have fr_17 := fr_keep (off_ex (C := C0) (p := p0)) hB_15 k_11
    refine s_forN (E := E) (K := K) (σ := [some (.ref p0), some v_many, some (.ref p_2), none]) (fun (z_18 : ((List Str) × Pl)) σ2 I_21 C_22 => ∃ w_20 : Option V, σ2 = [some (.ref p0), some v_many, some (.ref p_2), w_20] ∧ (∃ vs_23 : List V, C_22 p_2 = some (.lst vs_23) ∧ vs_23.length ≤ sizeLine ∧ A2 (fun x u => Rp.r pS x u I_21 Z) z_18.1 vs_23) ∧ (∃ ws_27 : List V, C_22 p0 = some (.lst ws_27) ∧ Rt.r pM z_18.2 ws_27 I_21 Z) ∧ Ex (off C0 p0) C_22) (i_rng1 (a_one (x_var (i := 1) rfl (Rp.mono _ e_7 exz r_many)))) s_9 (fun _ _ h => h.elim) hm (fun _ e_39 => ⟨none, rfl, ⟨_, hc_10, hl_12, a2up (Ex.trans (Ex.refl _) e_39) hr_13⟩, ⟨_, hc_16, Rt.mono _ (Ex.trans e_7 e_39) exz hx0⟩, fr_17⟩) (fun _ _ _ _ _ => trivial) (fun _ _ _ _ _ e ⟨w_20, hs_19, ⟨vs_23, hc_24, hl_25, hr_26⟩, ⟨ws_27, hc_28, hx_29⟩, fr_30⟩ => ⟨w_20, hs_19, ⟨vs_23, hc_24, hl_25, a2up e hr_26⟩, ⟨ws_27, hc_28, Rt.mono _ e exz hx_29⟩, fr_30⟩) (fun N x_31 v_32 z_18 σ2 I_33 C_34 H_35 e_36 s_37 ⟨w_20, hs_19, ⟨vs_23, hc_24, hl_25, hr_26⟩, ⟨ws_27, hc_28, hx_29⟩, fr_30⟩ r_38 hm => ?_) (fun z_63 σ2 I_58 C_59 H_60 e_61 s_62 ⟨w_65, hs_64, ⟨vs_68, hc_69, hl_70, hr_71⟩, ⟨ws_72, hc_73, hx_74⟩, fr_75⟩ hm => ?_)
    · subst hs_19
      refine g1 (K := K) x_31 v_32 I_33 C_34 H_35 _ s_37 r_38 fun σ2 ⟨v_40, hs_42, r_41⟩ => ?_
      subst hs_42
      refine qm_app (E := E) (K := K) (σ := [some (.ref p0), some v_many, some (.ref p_2), some v_40]) (i := 2) rfl hc_24 (Ne.symm ne_14) (a2up (Ex.refl _) hr_26) (m_callMo (i := 0) off_same rfl (amo_var1 (R := (pV pS)) (i := 2) rfl (show (pV _).r _ _ _ _ from ⟨_, _, rfl, Or.inr ((off_ne (Ne.symm ne_14)).trans hc_24), hl_25, A2.imp (fun _ _ h => Im.im h) (a2up (Ex.refl _) hr_26)⟩))) s_37 hc_28 (Rt.mono _ (Ex.refl _) exz hx_29) hm fun names_43 vs_44 ws_45 I_46 C_47 H_48 e_49 s_50 hc_51 hc_52 k_53 hl_54 hr_55 hx_56 hm => ?_
      have fr_57 := fr_pool2 fr_30 hB_15 k_53
      exact hm _ _ _ _ e_49 s_50 ⟨some v_40, rfl, ⟨_, hc_51, hl_54, a2up (Ex.refl _) hr_55⟩, ⟨_, hc_52, Rt.mono _ (Ex.refl _) exz hx_56⟩, fr_57⟩
    subst hs_64
    obtain ⟨I_76, C_77, e_78, s_79, h_80, k_81⟩ := freeze s_62 hc_69
    have r_83 := frz_list e_78 h_80 hl_70 hr_71
    have hc_84 := (k_81 _ ne_14).trans hc_73
    have fr_85 := fr_keep fr_75 hB_15 k_81
    refine q_ret (tz := tNext) (E := E) (K := K) (σ := [some (.ref p0), some v_many, some (.ref p_2), w_65]) (x_var (i := 2) rfl (Rp.mono _ (Ex.refl _) exz r_83)) s_79 (fun _ _ h => h.elim) hm fun a_86 v_87 I_88 H_89 e_90 s_91 r_92 hm => ?_
    exact ret_pool hm (e_7.trans (e_61.trans (e_78.trans e_90))) fr_85 s_91 hc_84 (Rt.mono _ (e_78.trans e_90) exz hx_74) r_92
def m__law_areas (ar_many : Int) (a_pool : Pl) : Res ((List (Str × Int)) × Pl) :=
  (((callM m__law_names (liftM (Res.ok ar_many))) a_pool).bind fun (names_1 : (List Str) × Pl) => (((fun y_29 => ((liftM (un rng1 (Res.ok ar_many))) y_29).bind fun b => mapM (fun (x_22 : Int) => (pairM (liftM (bin ix (Res.ok names_1.1) (Res.ok x_22))) (binM rSub (callM m__law_take (liftM (bin rAdd (Res.ok x_22) (Res.ok (1 : Int))))) (liftM (Res.ok (1 : Int)))))) b.1 b.2) names_1.2).bind fun a_30 => Res.ok (a_30.1, a_30.2)))
abbrev N__law_areas : List Str := ["pool", "many", "names", "k"]
theorem sc__law_areas : FnScope N__law_areas ["pool", "many"] (defScope s__law_areas) := ⟨rfl, rfl, rfl, by decide +kernel, rfl, by decide +kernel, by decide +kernel⟩
theorem bind__law_areas {K : PySem.W.Frag} {mg : Str → Option Value} {T : Tx K mg} : Binds K T.d__law_areas ["pool", "many"] [] := FunD.bindsN T.F__law_areas fun _ _ _ _ _ _ us hl => match us, hl with | [_, _], _ => rfl
abbrev sp__law_areas (K : PySem.W.Frag) : Sp := spM pM (t1 pI) m__law_areas (pL (pT (tc pS (t1 pI))))
theorem ok__law_areas (T : Tx K mg) : FnOk P w K mg base (L2.CX P w) 7 T.f__law_areas T.d__law_areas ["pool", "many"] (sp__law_areas K) := by
  refine T.F__law_areas.ok sc__law_areas (fun vs H Q E h => ?_) (fun cdv A outer s H vs Q E hr h => ?_)
  · obtain ⟨I, C, p, ws, us, x, a, rfl, _, _, _, hr, _⟩ := h
    exact congrArg (· + 1) (Rt.len _ hr)
  · obtain ⟨I0, C0, p0, ws0, us, a_pool, ar_many, rfl, hs, hc0, hx1, ⟨v_many, rfl, r_many⟩, hm⟩ := h
    have hx0 := It.im (C' := Z) hx1
    have hm : Post (m__law_areas ar_many a_pool) (PM p0 pM (pL (pT (tc pS (t1 pI)))) I0 C0 Q) XF := hm
    replace r_many : Rp.r pI ar_many v_many I0 Z := Im.im r_many
    unfold m__law_areas at hm
    refine ⟨_, (pss_cons (ps_set (i := 2) sc__law_areas.nd rfl (Or.inr rfl) (pe_call (ok__law_names T) (hr.mono (by decide)) rfl T.g__law_names T.F__law_names.kp bind__law_names .nil passE (pa_cons (pv 0) (pa_cons (pv 1) pa_nil)))) (pss_cons (ps_ret (pe_lc (own := [("k", 3)]) rfl sc__law_areas.nd (pi_range1 (by rfl) T.gb_range (pa_cons (pv 1) pa_nil)) (blkOk_by (own := [("k", 3)]) (N := N__law_areas) (sc := defScope s__law_areas) (by decide +kernel)) (fun _ _ _ _ _ => (pg_name (i := 3) sc__law_areas.nd rfl (Or.inl rfl))) (fun _ _ _ _ _ => pts_nil) (fun _ _ _ _ _ => (pe_tup (pa_cons (pe_ix (r := rIxL K) ix_list (pv 2) (pv 3) (fun _ _ => rfl)) (pa_cons (pe_op op_sub (pe_call (ok__law_take T) (hr.mono (by decide)) rfl T.g__law_take T.F__law_take.kp bind__law_take .nil passL (pa_cons (pv 0) (pa_cons (pe_op op_add (pv 3) pe_int) pa_nil))) pe_int) pa_nil)))))) pss_nil)), ?_⟩
    refine qm_asg (E := E) (K := K) (σ := [some (.ref p0), some v_many, none, none]) (i := 2) (m_callM (i := 0) rfl (am_pure (a_one (x_var (i := 1) rfl (Rp.mono _ (Ex.refl _) exz r_many))))) hs hc0 (Rt.mono _ (Ex.refl _) exz hx0) hm fun names_1 v_2 ws_8 I_3 C_9 H_4 e_5 s_6 hc_10 k_11 hx_12 r_7 hm => ?_
    have fr_13 := fr_pool (off_ex (C := C0) (p := p0)) k_11
    refine qm_ret (E := E) (K := K) (σ := [some (.ref p0), some v_many, some v_2, none]) (m_lc off_same (im_pure (i_rng1 (a_one (x_var (i := 1) rfl (Rp.mono _ e_5 exz r_many))))) g1 (fun _ _ _ _ ⟨_, h, _⟩ => by rw [h]; rfl) (fun x_22 σ2 I_23 C_24 e_25 c_26 ⟨v_27, h, r_28⟩ => by subst h; exact (m_tup (am_cons off_same (m_pure (x_op o_ix (x_v (x_var (i := 2) rfl (Rp.mono _ e_25 exz r_7))) (x_var (i := 3) rfl (Rp.mono _ (Ex.refl _) exz r_28)))) (am_one (m_op (fun _ => o_sub) off_same (m_callM (i := 0) rfl (am_pure (a_one (x_op o_add (x_var (i := 3) rfl (Rp.mono _ (Ex.refl _) exz r_28)) (x_int (i := 1)))))) (m_pure (x_int (i := 1)))))) (Nat.le_of_ble_eq_true rfl)))) s_6 hc_10 (Rt.mono _ (Ex.refl _) exz hx_12) hm fun a_30 v_31 ws_37 I_32 C_38 H_33 e_34 s_35 hc_39 k_40 hx_41 r_36 hm => ?_
    have fr_42 := fr_pool fr_13 k_40
    exact ret_pool hm (e_5.trans e_34) fr_42 s_35 hc_39 hx_41 r_36
def m__law_limits (ar_top : Int) (ar_far : Int) (a_pool : Pl) : Res ((List Int) × Pl) :=
  (((callM m__law_take (liftM (Res.ok (30 : Int)))) a_pool).bind fun (low_1 : Int × Pl) => ((ifR (bin eqR (Res.ok ar_far) (Res.ok (1 : Int))) ((un rNeg (Res.ok (999 : Int))).bind fun (low_30 : Int) => (Res.ok low_30)) (Res.ok low_1.1)).bind fun (z_22 : Int) => (ifR (bin eqR (Res.ok ar_far) (Res.ok (2 : Int))) (((un rng1 (Res.ok ar_top)).bind (mapR (fun (x_50 : Int) => (bin rAdd (bin rAdd (bin rSub (Res.ok (9999 : Int)) (Res.ok ar_top)) (Res.ok (1 : Int))) (Res.ok x_50))))).bind fun a_57 => Res.ok (a_57, low_1.2)) ((consR (Res.ok z_22) (Res.ok [])).bind fun (ladder_64 : (List Int)) => (((un rng1 (bin rSub (Res.ok ar_top) (Res.ok (1 : Int)))).bind fun xs => loopN (fun (x_94 : Int) (z_81 : ((List Int) × Pl)) => ((((binM rAdd (liftM (bin ix (Res.ok z_81.1) (un rNeg (Res.ok (1 : Int))))) (callM (fun (p : (Int × Int)) => m__law_from p.1 p.2) (liftM (pair (Res.ok (1 : Int)) (Res.ok (9 : Int)))))) z_81.2).bind fun b => (push z_81.1 b.1).bind fun ys => Res.ok (ys, b.2)).bind fun (ladder_106 : (List Int) × Pl) => (Res.ok (ladder_106.1, ladder_106.2)))) xs (ladder_64, low_1.2)).bind fun (z_126 : ((List Int) × Pl)) => ((Res.ok z_126.1).bind fun a_149 => Res.ok (a_149, z_126.2)))))))
abbrev N__law_limits : List Str := ["pool", "top", "far", "low", "ladder", "k"]
theorem sc__law_limits : FnScope N__law_limits ["pool", "top", "far"] (defScope s__law_limits) := ⟨rfl, rfl, rfl, by decide +kernel, rfl, by decide +kernel, by decide +kernel⟩
theorem bind__law_limits {K : PySem.W.Frag} {mg : Str → Option Value} {T : Tx K mg} : Binds K T.d__law_limits ["pool", "top", "far"] [] := FunD.bindsN T.F__law_limits fun _ _ _ _ _ _ us hl => match us, hl with | [_, _, _], _ => rfl
abbrev sp__law_limits (K : PySem.W.Frag) : Sp := spM pM (tc pI (t1 pI)) (fun (p : (Int × Int)) => m__law_limits p.1 p.2) (pL pI)
theorem ok__law_limits (T : Tx K mg) : FnOk P w K mg base (L2.CX P w) 5 T.f__law_limits T.d__law_limits ["pool", "top", "far"] (sp__law_limits K) := by
  refine T.F__law_limits.ok sc__law_limits (fun vs H Q E h => ?_) (fun cdv A outer s H vs Q E hr h => ?_)
  · obtain ⟨I, C, p, ws, us, x, a, rfl, _, _, _, hr, _⟩ := h
    exact congrArg (· + 1) (Rt.len _ hr)
  · obtain ⟨I0, C0, p0, ws0, us, a_pool, ⟨ar_top, ar_far⟩, rfl, hs, hc0, hx1, ⟨v_top, us0, rfl, r_top, v_far, rfl, r_far⟩, hm⟩ := h
    have hx0 := It.im (C' := Z) hx1
    have hm : Post (m__law_limits ar_top ar_far a_pool) (PM p0 pM (pL pI) I0 C0 Q) XF := hm
    replace r_top : Rp.r pI ar_top v_top I0 Z := Im.im r_top
    replace r_far : Rp.r pI ar_far v_far I0 Z := Im.im r_far
    unfold m__law_limits at hm
    refine ⟨_, (pss_cons (ps_set (i := 3) sc__law_limits.nd rfl (Or.inl rfl) (pe_call (ok__law_take T) (hr.mono (by decide)) rfl T.g__law_take T.F__law_take.kp bind__law_take .nil passE (pa_cons (pv 0) (pa_cons pe_int pa_nil)))) (Evl.pss_cut (ps_if (pt_cmpR op_eq (pv 2) pe_int (nomark _)) (pss_cons (ps_set (i := 3) sc__law_limits.nd rfl (Or.inl rfl) (pe_un un_neg pe_int)) pss_nil) pss_nil) (pss_cons (ps_if (pt_cmpR op_eq (pv 2) pe_int (nomark _)) (pss_cons (ps_ret (pe_lc (own := [("k", 5)]) rfl sc__law_limits.nd (pi_range1 (by rfl) T.gb_range (pa_cons (pv 1) pa_nil)) (blkOk_by (own := [("k", 5)]) (N := N__law_limits) (sc := defScope s__law_limits) (by decide +kernel)) (fun _ _ _ _ _ => (pg_name (i := 5) sc__law_limits.nd rfl (Or.inl rfl))) (fun _ _ _ _ _ => pts_nil) (fun _ _ _ _ _ => (pe_op op_add (pe_op op_add (pe_op op_sub pe_int (pv 1)) pe_int) (pv 5))))) pss_nil) pss_nil) (pss_cons (ps_set (i := 4) sc__law_limits.nd rfl (Or.inl rfl) (pe_lst (pa_cons (pv 3) pa_nil))) (pss_cons (ps_for (passes_of rfl) rfl (pi_range1 (by rfl) T.gb_range (pa_cons (pe_op op_sub (pv 1) pe_int) pa_nil)) (pg_name (i := 5) sc__law_limits.nd rfl (Or.inl rfl)) (pss_cons (ps_expr (show PE _ _ (tBM K "list" rAppend _ _) from pe_bm PySem.F.plainAttrs_list PySem.F.slot_list_append PySem.F.type_list_append mt_append (pv 4) (pa_cons (pe_op op_add (pe_ix (r := rIxL K) ix_list (pv 4) (pe_un un_neg pe_int) (fun _ _ => rfl)) (pe_call (ok__law_from T) (hr.mono (by decide)) rfl T.g__law_from T.F__law_from.kp bind__law_from .nil passE (pa_cons (pv 0) (pa_cons pe_int (pa_cons pe_int pa_nil))))) pa_nil))) pss_nil)) (pss_cons (ps_ret (pv 4)) pss_nil)))))), ?_⟩
    refine qm_asg (E := E) (K := K) (σ := [some (.ref p0), some v_top, some v_far, none, none, none]) (i := 3) (m_callM (i := 0) rfl (am_pure (a_one (x_int (i := 30))))) hs hc0 (Rt.mono _ (Ex.refl _) exz hx0) hm fun low_1 v_2 ws_8 I_3 C_9 H_4 e_5 s_6 hc_10 k_11 hx_12 r_7 hm => ?_
    have fr_13 := fr_pool (off_ex (C := C0) (p := p0)) k_11
    refine s_ifj (E := E) (K := K) (σ := [some (.ref p0), some v_top, some v_far, some v_2, none, none]) (fun (z_22 : Int) σ2 I_24 C_25 => ∃ v_26 : V, σ2 = [some (.ref p0), some v_top, some v_far, some v_26, none, none] ∧ Rp.r pI z_22 v_26 I_24 Z ∧ C_25 p0 = some (.lst ws_8) ∧ Ex (off C0 p0) C_25) (t_test (x_op o_eqI (x_var (i := 2) rfl (Rp.mono _ e_5 exz r_far)) (x_int (i := 1)))) s_6 (fun _ _ h => h.elim) hm (fun N I_14 H_15 e_16 s_17 hm => ?_) (fun N I_18 H_19 e_20 s_21 hm => ?_) (fun z_22 σ2 I_37 C_38 H_39 e_40 s_41 ⟨v_26, hs_23, r_27, hc_28, fr_29⟩ hm => ?_)
    · refine q_asg (E := E) (K := K) (σ := [some (.ref p0), some v_top, some v_far, some v_2, none, none]) (i := 3) (x_un o_neg (x_int (i := 999))) s_17 (fun _ _ h => h.elim) hm fun low_30 v_31 I_32 H_33 e_34 s_35 r_36 hm => ?_
      exact hm _ _ _ _ (e_16.trans e_34) s_35 ⟨v_31, rfl, Rp.mono _ (Ex.refl _) exz r_36, hc_10, fr_13⟩
    · exact hm _ _ _ _ e_20 s_21 ⟨v_2, rfl, Rp.mono _ e_20 exz r_7, hc_10, fr_13⟩
    subst hs_23
    refine s_if (E := E) (K := K) (σ := [some (.ref p0), some v_top, some v_far, some v_26, none, none]) (t_test (x_op o_eqI (x_var (i := 2) rfl (Rp.mono _ (e_5.trans e_40) exz r_far)) (x_int (i := 2)))) s_41 (fun _ _ h => h.elim) hm (fun I_42 H_43 e_44 s_45 hm => ?_) (fun I_46 H_47 e_48 s_49 hm => ?_)
    · refine q_ret (tz := tNext) (E := E) (K := K) (σ := [some (.ref p0), some v_top, some v_far, some v_26, none, none]) (x_lc (i_rng1 (a_one (x_var (i := 1) rfl (Rp.mono _ (e_5.trans (e_40.trans e_44)) exz r_top)))) g1 (fun _ _ _ _ ⟨_, h, _⟩ => by rw [h]; rfl) (fun x_50 σ2 I_51 C_52 e_53 c_54 ⟨v_55, h, r_56⟩ => by subst h; exact (x_op o_add (x_op o_add (x_op o_sub (x_int (i := 9999)) (x_var (i := 1) rfl (Rp.mono _ (e_5.trans (e_40.trans (e_44.trans e_53))) exz r_top))) (x_int (i := 1))) (x_var (i := 5) rfl (Rp.mono _ (Ex.refl _) exz r_56)))) (fun _ _ _ _ _ e ⟨v_55, h, r_56⟩ => ⟨v_55, h, Rp.mono _ e exz r_56⟩)) s_45 (fun _ _ h => h.elim) hm fun a_57 v_58 I_59 H_60 e_61 s_62 r_63 hm => ?_
      exact ret_pool hm (e_5.trans (e_40.trans (e_44.trans e_61))) fr_29 s_62 hc_28 (Rt.mono _ (e_40.trans (e_44.trans e_61)) exz hx_12) r_63
    · refine q_asgN (E := E) (K := K) (σ := [some (.ref p0), some v_top, some v_far, some v_26, none, none]) (i := 4) (n_lst (al_cons (x_var (i := 3) rfl (Rp.mono _ e_48 exz r_27)) al_nil) (Nat.le_of_ble_eq_true rfl)) s_49 (fun _ _ h => h.elim) hm fun ladder_64 p_65 vs_66 I_67 C_68 H_69 e_70 hp_71 s_72 hc_73 k_74 hl_75 hr_76 hm => ?_
      have ne_77 := ne_new hc_28 hp_71
      have hB_78 := Ex.free fr_29 hp_71
      have hc_79 := (k_74 _ ne_77).trans hc_28
      have fr_80 := fr_keep fr_29 hB_78 k_74
      refine s_forN (E := E) (K := K) (σ := [some (.ref p0), some v_top, some v_far, some v_26, some (.ref p_65), none]) (fun (z_81 : ((List Int) × Pl)) σ2 I_84 C_85 => ∃ w_83 : Option V, σ2 = [some (.ref p0), some v_top, some v_far, some v_26, some (.ref p_65), w_83] ∧ (∃ vs_86 : List V, C_85 p_65 = some (.lst vs_86) ∧ vs_86.length ≤ sizeLine ∧ A2 (fun x u => Rp.r pI x u I_84 Z) z_81.1 vs_86) ∧ (∃ ws_90 : List V, C_85 p0 = some (.lst ws_90) ∧ Rt.r pM z_81.2 ws_90 I_84 Z) ∧ Ex (off C0 p0) C_85) (i_rng1 (a_one (x_op o_sub (x_var (i := 1) rfl (Rp.mono _ (e_5.trans (e_40.trans (e_48.trans e_70))) exz r_top)) (x_int (i := 1))))) s_72 (fun _ _ h => h.elim) hm (fun _ e_102 => ⟨none, rfl, ⟨_, hc_73, hl_75, a2up (Ex.trans (Ex.refl _) e_102) hr_76⟩, ⟨_, hc_79, Rt.mono _ (Ex.trans (e_40.trans (e_48.trans e_70)) e_102) exz hx_12⟩, fr_80⟩) (fun _ _ _ _ _ => trivial) (fun _ _ _ _ _ e ⟨w_83, hs_82, ⟨vs_86, hc_87, hl_88, hr_89⟩, ⟨ws_90, hc_91, hx_92⟩, fr_93⟩ => ⟨w_83, hs_82, ⟨vs_86, hc_87, hl_88, a2up e hr_89⟩, ⟨ws_90, hc_91, Rt.mono _ e exz hx_92⟩, fr_93⟩) (fun N x_94 v_95 z_81 σ2 I_96 C_97 H_98 e_99 s_100 ⟨w_83, hs_82, ⟨vs_86, hc_87, hl_88, hr_89⟩, ⟨ws_90, hc_91, hx_92⟩, fr_93⟩ r_101 hm => ?_) (fun z_126 σ2 I_121 C_122 H_123 e_124 s_125 ⟨w_128, hs_127, ⟨vs_131, hc_132, hl_133, hr_134⟩, ⟨ws_135, hc_136, hx_137⟩, fr_138⟩ hm => ?_)
      · subst hs_82
        refine g1 (K := K) x_94 v_95 I_96 C_97 H_98 _ s_100 r_101 fun σ2 ⟨v_103, hs_105, r_104⟩ => ?_
        subst hs_105
        refine qm_app (E := E) (K := K) (σ := [some (.ref p0), some v_top, some v_far, some v_26, some (.ref p_65), some v_103]) (i := 4) rfl hc_87 (Ne.symm ne_77) (a2up (Ex.refl _) hr_89) (m_op (fun _ => o_add) off_same (m_pure (x_op o_ix (x_cell (i := 4) rfl ((off_ne (Ne.symm ne_77)).trans hc_87) hl_88 (a2up (Ex.refl _) hr_89)) (x_un o_neg (x_int (i := 1))))) (m_callM (i := 0) rfl (am_pure (a_cons (x_int (i := 1)) (a_one (x_int (i := 9))))))) s_100 hc_91 (Rt.mono _ (Ex.refl _) exz hx_92) hm fun ladder_106 vs_107 ws_108 I_109 C_110 H_111 e_112 s_113 hc_114 hc_115 k_116 hl_117 hr_118 hx_119 hm => ?_
        have fr_120 := fr_pool2 fr_93 hB_78 k_116
        exact hm _ _ _ _ e_112 s_113 ⟨some v_103, rfl, ⟨_, hc_114, hl_117, a2up (Ex.refl _) hr_118⟩, ⟨_, hc_115, Rt.mono _ (Ex.refl _) exz hx_119⟩, fr_120⟩
      subst hs_127
      obtain ⟨I_139, C_140, e_141, s_142, h_143, k_144⟩ := freeze s_125 hc_132
      have r_146 := frz_list e_141 h_143 hl_133 hr_134
      have hc_147 := (k_144 _ ne_77).trans hc_136
      have fr_148 := fr_keep fr_138 hB_78 k_144
      refine q_ret (tz := tNext) (E := E) (K := K) (σ := [some (.ref p0), some v_top, some v_far, some v_26, some (.ref p_65), w_128]) (x_var (i := 4) rfl (Rp.mono _ (Ex.refl _) exz r_146)) s_142 (fun _ _ h => h.elim) hm fun a_149 v_150 I_151 H_152 e_153 s_154 r_155 hm => ?_
      exact ret_pool hm (e_5.trans (e_40.trans (e_48.trans (e_70.trans (e_124.trans (e_141.trans e_153)))))) fr_148 s_154 hc_147 (Rt.mono _ (e_141.trans e_153) exz hx_137) r_155
def m__law_reading (ar_far : Int) (a_pool : Pl) : Res (Int × Pl) :=
  (ifMR (andM (liftM (bin eqR (Res.ok ar_far) (Res.ok (1 : Int)))) (binM eqR (callM m__law_take (liftM (Res.ok (3 : Int)))) (liftM (Res.ok (0 : Int))))) a_pool (fun (y_9 : Pl) => (((binM rAdd (liftM (un rNeg (Res.ok (999 : Int)))) (callM m__law_take (liftM (Res.ok (3 : Int))))) y_9).bind fun a_22 => Res.ok (a_22.1, a_22.2))) (fun (y_15 : Pl) => (ifMR (andM (liftM (bin eqR (Res.ok ar_far) (Res.ok (2 : Int)))) (binM eqR (callM m__law_take (liftM (Res.ok (2 : Int)))) (liftM (Res.ok (0 : Int))))) y_15 (fun (y_44 : Pl) => (((binM rSub (liftM (Res.ok (9999 : Int))) (callM m__law_take (liftM (Res.ok (5 : Int))))) y_44).bind fun a_57 => Res.ok (a_57.1, a_57.2))) (fun (y_50 : Pl) => (((binM rSub (callM m__law_take (liftM (Res.ok (70 : Int)))) (liftM (Res.ok (5 : Int)))) y_50).bind fun a_71 => Res.ok (a_71.1, a_71.2))))))
abbrev N__law_reading : List Str := ["pool", "far"]
theorem sc__law_reading : FnScope N__law_reading ["pool", "far"] (defScope s__law_reading) := ⟨rfl, rfl, rfl, by decide +kernel, rfl, by decide +kernel, by decide +kernel⟩
theorem bind__law_reading {K : PySem.W.Frag} {mg : Str → Option Value} {T : Tx K mg} : Binds K T.d__law_reading ["pool", "far"] [] := FunD.bindsN T.F__law_reading fun _ _ _ _ _ _ us hl => match us, hl with | [_, _], _ => rfl
abbrev sp__law_reading (K : PySem.W.Frag) : Sp := spM pM (t1 pI) m__law_reading pI
theorem ok__law_reading (T : Tx K mg) : FnOk P w K mg base (L2.CX P w) 4 T.f__law_reading T.d__law_reading ["pool", "far"] (sp__law_reading K) := by
  refine T.F__law_reading.ok sc__law_reading (fun vs H Q E h => ?_) (fun cdv A outer s H vs Q E hr h => ?_)
  · obtain ⟨I, C, p, ws, us, x, a, rfl, _, _, _, hr, _⟩ := h
    exact congrArg (· + 1) (Rt.len _ hr)
  · obtain ⟨I0, C0, p0, ws0, us, a_pool, ar_far, rfl, hs, hc0, hx1, ⟨v_far, rfl, r_far⟩, hm⟩ := h
    have hx0 := It.im (C' := Z) hx1
    have hm : Post (m__law_reading ar_far a_pool) (PM p0 pM pI I0 C0 Q) XF := hm
    replace r_far : Rp.r pI ar_far v_far I0 Z := Im.im r_far
    unfold m__law_reading at hm
    refine ⟨_, (pss_cons (ps_if (PW.pt (pw_and (pt_cmpR op_eq (pv 1) pe_int (nomark _)) (pw_and1 (pt_cmpR op_eq (pe_call (ok__law_take T) (hr.mono (by decide)) rfl T.g__law_take T.F__law_take.kp bind__law_take .nil passE (pa_cons (pv 0) (pa_cons pe_int pa_nil))) pe_int (nomark _))))) (pss_cons (ps_ret (pe_op op_add (pe_un un_neg pe_int) (pe_call (ok__law_take T) (hr.mono (by decide)) rfl T.g__law_take T.F__law_take.kp bind__law_take .nil passE (pa_cons (pv 0) (pa_cons pe_int pa_nil))))) pss_nil) pss_nil) (pss_cons (ps_if (PW.pt (pw_and (pt_cmpR op_eq (pv 1) pe_int (nomark _)) (pw_and1 (pt_cmpR op_eq (pe_call (ok__law_take T) (hr.mono (by decide)) rfl T.g__law_take T.F__law_take.kp bind__law_take .nil passE (pa_cons (pv 0) (pa_cons pe_int pa_nil))) pe_int (nomark _))))) (pss_cons (ps_ret (pe_op op_sub pe_int (pe_call (ok__law_take T) (hr.mono (by decide)) rfl T.g__law_take T.F__law_take.kp bind__law_take .nil passE (pa_cons (pv 0) (pa_cons pe_int pa_nil))))) pss_nil) pss_nil) (pss_cons (ps_ret (pe_op op_sub (pe_call (ok__law_take T) (hr.mono (by decide)) rfl T.g__law_take T.F__law_take.kp bind__law_take .nil passE (pa_cons (pv 0) (pa_cons pe_int pa_nil))) pe_int)) pss_nil))), ?_⟩
    refine qm_if (E := E) (K := K) (σ := [some (.ref p0), some v_far]) (tm_and off_same (tm_pure (t_test (x_op o_eqI (x_var (i := 1) rfl (Rp.mono _ (Ex.refl _) exz r_far)) (x_int (i := 1))))) (tm_test (m_op (fun _ => o_eqI) off_same (m_callM (i := 0) rfl (am_pure (a_one (x_int (i := 3))))) (m_pure (x_int (i := 0)))))) hs hc0 (Rt.mono _ (Ex.refl _) exz hx0) hm (fun y_9 ws_10 I_1 C_11 H_2 e_3 s_4 hc_12 k_13 hx_14 hm => ?_) (fun y_15 ws_16 I_5 C_17 H_6 e_7 s_8 hc_18 k_19 hx_20 hm => ?_)
    · have fr_21 := fr_pool (off_ex (C := C0) (p := p0)) k_13
      refine qm_ret (E := E) (K := K) (σ := [some (.ref p0), some v_far]) (m_op (fun _ => o_add) off_same (m_pure (x_un o_neg (x_int (i := 999)))) (m_callM (i := 0) rfl (am_pure (a_one (x_int (i := 3)))))) s_4 hc_12 (Rt.mono _ (Ex.refl _) exz hx_14) hm fun a_22 v_23 ws_29 I_24 C_30 H_25 e_26 s_27 hc_31 k_32 hx_33 r_28 hm => ?_
      have fr_34 := fr_pool fr_21 k_32
      exact ret_pool hm (e_3.trans e_26) fr_34 s_27 hc_31 hx_33 r_28
    · have fr_35 := fr_pool (off_ex (C := C0) (p := p0)) k_19
      refine qm_if (E := E) (K := K) (σ := [some (.ref p0), some v_far]) (tm_and off_same (tm_pure (t_test (x_op o_eqI (x_var (i := 1) rfl (Rp.mono _ e_7 exz r_far)) (x_int (i := 2))))) (tm_test (m_op (fun _ => o_eqI) off_same (m_callM (i := 0) rfl (am_pure (a_one (x_int (i := 2))))) (m_pure (x_int (i := 0)))))) s_8 hc_18 (Rt.mono _ (Ex.refl _) exz hx_20) hm (fun y_44 ws_45 I_36 C_46 H_37 e_38 s_39 hc_47 k_48 hx_49 hm => ?_) (fun y_50 ws_51 I_40 C_52 H_41 e_42 s_43 hc_53 k_54 hx_55 hm => ?_)
      · have fr_56 := fr_pool fr_35 k_48
        refine qm_ret (E := E) (K := K) (σ := [some (.ref p0), some v_far]) (m_op (fun _ => o_sub) off_same (m_pure (x_int (i := 9999))) (m_callM (i := 0) rfl (am_pure (a_one (x_int (i := 5)))))) s_39 hc_47 (Rt.mono _ (Ex.refl _) exz hx_49) hm fun a_57 v_58 ws_64 I_59 C_65 H_60 e_61 s_62 hc_66 k_67 hx_68 r_63 hm => ?_
        have fr_69 := fr_pool fr_56 k_67
        exact ret_pool hm (e_7.trans (e_38.trans e_61)) fr_69 s_62 hc_66 hx_68 r_63
      · have fr_70 := fr_pool fr_35 k_54
        refine qm_ret (E := E) (K := K) (σ := [some (.ref p0), some v_far]) (m_op (fun _ => o_sub) off_same (m_callM (i := 0) rfl (am_pure (a_one (x_int (i := 70))))) (m_pure (x_int (i := 5)))) s_43 hc_53 (Rt.mono _ (Ex.refl _) exz hx_55) hm fun a_71 v_72 ws_78 I_73 C_79 H_74 e_75 s_76 hc_80 k_81 hx_82 r_77 hm => ?_
        have fr_83 := fr_pool fr_70 k_81
        exact ret_pool hm (e_7.trans (e_42.trans e_75)) fr_83 s_76 hc_80 hx_82 r_77
def m__law_run_rows (ar_many : Int) (ar_hours : Int) (ar_far : Int) (ar_runs : (List (Str × Int × (List (List Int))))) (a_pool : Pl) : Res ((List (List Int)) × Pl) :=
  (((fun y_48 => ((liftM (un rng1 (Res.ok ar_many))) y_48).bind fun b => mapM (fun (x_25 : Int) => (fun y_47 => ((liftM (un rng1 (Res.ok ar_hours))) y_47).bind fun b => mapM (fun (x_40 : Int) => (callM m__law_reading (liftM (Res.ok ar_far)))) b.1 b.2)) b.1 b.2) a_pool).bind fun (rows_49 : (List (List Int)) × Pl) => ((ifR (bin rGt (un rLen (Res.ok ar_runs)) (Res.ok (0 : Int))) (((unM (fun p => Res.ok p.2.2) (binM ix (liftM (Res.ok ar_runs)) (callM m__law_take (liftM (un rLen (Res.ok ar_runs)))))) rows_49.2).bind fun (base_97 : (List (List Int)) × Pl) => (((callM m__law_take (liftM (bin rAdd (Res.ok ar_hours) (Res.ok (1 : Int))))) base_97.2).bind fun (hour_111 : Int × Pl) => (((un rng1 (Res.ok ar_many)).bind fun xs => loopN (fun (x_136 : Int) (z_125 : (List (List Int))) => (((bin rCatR (un idR (slR (bin ix (Res.ok base_97.1) (Res.ok x_136)) (Res.ok none) (someR (Res.ok hour_111.1)))) (slR (bin ix (Res.ok z_125) (Res.ok x_136)) (someR (Res.ok hour_111.1)) (Res.ok none))).bind fun x => (Res.ok x_136).bind fun j => setR z_125 j x).bind fun (rows_148 : (List (List Int))) => (Res.ok rows_148))) xs rows_49.1).bind fun (z_166 : (List (List Int))) => (Res.ok (hour_111.2, z_166))))) (Res.ok (rows_49.2, rows_49.1))).bind fun (z_82 : (Pl × (List (List Int)))) => ((Res.ok z_82.2).bind fun a_192 => Res.ok (a_192, z_82.1))))
abbrev N__law_run_rows : List Str := ["pool", "many", "hours", "far", "runs", "rows", "base", "hour", "k", "h"]
theorem sc__law_run_rows : FnScope N__law_run_rows ["pool", "many", "hours", "far", "runs"] (defScope s__law_run_rows) := ⟨rfl, rfl, rfl, by decide +kernel, rfl, by decide +kernel, by decide +kernel⟩
theorem bind__law_run_rows {K : PySem.W.Frag} {mg : Str → Option Value} {T : Tx K mg} : Binds K T.d__law_run_rows ["pool", "many", "hours", "far", "runs"] [] := FunD.bindsN T.F__law_run_rows fun _ _ _ _ _ _ us hl => match us, hl with | [_, _, _, _, _], _ => rfl
abbrev sp__law_run_rows (K : PySem.W.Frag) : Sp := spMo pM (tc pI (tc pI (tc pI (t1 (pV (pT (tc pS (tc pI (t1 (pL (pL pI))))))))))) (fun (p : (Int × Int × Int × (List (Str × Int × (List (List Int)))))) => m__law_run_rows p.1 p.2.1 p.2.2.1 p.2.2.2) (pL (pL pI))
theorem ok__law_run_rows (T : Tx K mg) : FnOk P w K mg base (L2.CX P w) 5 T.f__law_run_rows T.d__law_run_rows ["pool", "many", "hours", "far", "runs"] (sp__law_run_rows K) := by
  refine T.F__law_run_rows.ok sc__law_run_rows (fun vs H Q E h => ?_) (fun cdv A outer s H vs Q E hr h => ?_)
  · obtain ⟨I, C, p, ws, us, x, a, rfl, _, _, _, hr, _⟩ := h
    exact congrArg (· + 1) (Rt.len _ hr)
  · obtain ⟨I0, C0, p0, ws0, us, a_pool, ⟨ar_many, ar_hours, ar_far, ar_runs⟩, rfl, hs, hc0, hx1, ⟨v_many, us0, rfl, r_many, v_hours, us1, rfl, r_hours, v_far, us2, rfl, r_far, v_runs, rfl, r_runs⟩, hm⟩ := h
    have hx0 := It.im (C' := Z) hx1
    have hm : Post (m__law_run_rows ar_many ar_hours ar_far ar_runs a_pool) (PM p0 pM (pL (pL pI)) I0 C0 Q) XF := hm
    replace r_many : Rp.r pI ar_many v_many I0 Z := Im.im r_many
    replace r_hours : Rp.r pI ar_hours v_hours I0 Z := Im.im r_hours
    replace r_far : Rp.r pI ar_far v_far I0 Z := Im.im r_far
    unfold m__law_run_rows at hm
    refine ⟨_, (pss_cons (ps_setLc (i := 5) (own := [("k", 8)]) rfl sc__law_run_rows.nd rfl rfl (sw_true rfl rfl rfl (by decide +kernel)) (pi_range1 (by rfl) T.gb_range (pa_cons (pv 1) pa_nil)) (blkOk_by (own := [("k", 8)]) (N := N__law_run_rows) (sc := defScope s__law_run_rows) (by decide +kernel)) (fun _ _ _ _ _ => (pg_name (i := 8) sc__law_run_rows.nd rfl (Or.inl rfl))) (fun _ _ _ _ _ => pts_nil) (fun _ _ _ _ _ => (pe_lc (own := [("h", 9)]) rfl sc__law_run_rows.nd (pi_range1 (by rfl) T.gb_range (pa_cons (pv 2) pa_nil)) (blkOk_by (own := [("h", 9)]) (N := N__law_run_rows) (sc := _) (by kernel_rfl)) (fun _ _ _ _ _ => (pg_name (i := 9) sc__law_run_rows.nd rfl (Or.inl rfl))) (fun _ _ _ _ _ => pts_nil) (fun _ _ _ _ _ => (pe_call (ok__law_reading T) (hr.mono (by decide)) rfl T.g__law_reading T.F__law_reading.kp bind__law_reading .nil passL (pa_cons (pv 0) (pa_cons (pv 3) pa_nil))))))) (Evl.pss_cut (ps_if (pt_cmpR op_gt (pe_callB (r := rLen1 K) call_len_seq (by rfl) T.gb_len bt_len (pa_cons (pv 4) pa_nil)) pe_int (nomark _)) (pss_cons (ps_set (i := 6) sc__law_run_rows.nd rfl (Or.inl rfl) (pe_ix (r := rIxT K) ix_tup (pe_ix (r := rIxL K) ix_list (pv 4) (pe_call (ok__law_take T) (hr.mono (by decide)) rfl T.g__law_take T.F__law_take.kp bind__law_take .nil passE (pa_cons (pv 0) (pa_cons (pe_callB (r := rLen1 K) call_len_seq (by rfl) T.gb_len bt_len (pa_cons (pv 4) pa_nil)) pa_nil))) (fun _ _ => rfl)) pe_int (fun _ _ => rfl))) (pss_cons (ps_set (i := 7) sc__law_run_rows.nd rfl (Or.inl rfl) (pe_call (ok__law_take T) (hr.mono (by decide)) rfl T.g__law_take T.F__law_take.kp bind__law_take .nil passE (pa_cons (pv 0) (pa_cons (pe_op op_add (pv 2) pe_int) pa_nil)))) (pss_cons (ps_for (passes_of rfl) rfl (pi_range1 (by rfl) T.gb_range (pa_cons (pv 1) pa_nil)) (pg_name (i := 8) sc__law_run_rows.nd rfl (Or.inl rfl)) (pss_cons (ps_asg (pe_op op_cat (pe_callTy (r := rList1 K) call_list_of (by rfl) T.gb_list bt_list (pa_cons (pe_slice (r := rSlL K) sl_list (pe_ix (r := rIxL K) ix_list (pv 6) (pv 8) (fun _ _ => rfl)) po_none (po_some (pv 7))) pa_nil)) (pe_slice (r := rSlL K) sl_list (pe_ix (r := rIxL K) ix_list (pv 5) (pv 8) (fun _ _ => rfl)) (po_some (pv 7)) po_none)) (pg_sub (pv 5) (pv 8) set_list)) pss_nil)) pss_nil))) pss_nil) (pss_cons (ps_ret (pv 5)) pss_nil))), ?_⟩
    refine qm_asgN (E := E) (K := K) (σ := [some (.ref p0), some v_many, some v_hours, some v_far, some v_runs, none, none, none, none, none]) (i := 5) (mn_lc off_same (im_pure (i_rng1 (a_one (x_var (i := 1) rfl (Rp.mono _ (Ex.refl _) exz r_many))))) g1 (fun _ _ _ _ ⟨_, h, _⟩ => by rw [h]; rfl) (fun x_25 σ2 I_26 C_27 e_28 c_29 ⟨v_30, h, r_31⟩ => by subst h; exact (m_lc off_same (im_pure (i_rng1 (a_one (x_var (i := 2) rfl (Rp.mono _ e_28 exz r_hours))))) g1 (fun _ _ _ _ ⟨_, h, _⟩ => by rw [h]; rfl) (fun x_40 σ2 I_41 C_42 e_43 c_44 ⟨v_45, h, r_46⟩ => by subst h; exact (m_callM (i := 0) rfl (am_pure (a_one (x_var (i := 3) rfl (Rp.mono _ (e_28.trans e_43) exz r_far))))))))) hs hc0 (Rt.mono _ (Ex.refl _) exz hx0) hm fun rows_49 q_50 vs_51 ws_52 I_53 C_54 C_55 H_56 e_57 hq_58 k_59 hc_60 s_61 hc_62 k_63 hx_64 hl_65 hr_66 hm => ?_
    have ne_67 := ne_new hc0 hq_58
    have hq_68 := (k_59 _ (Ne.symm ne_67)).trans hq_58
    have fr_69 := fr_pool (off_ex (C := C0) (p := p0)) k_59
    have ne_70 := ne_new hc_60 hq_68
    have hB_71 := Ex.free fr_69 hq_68
    have hc_72 := (k_63 _ ne_70).trans hc_60
    have fr_73 := fr_keep fr_69 hB_71 k_63
    refine s_ifj (E := E) (K := K) (σ := [some (.ref p0), some v_many, some v_hours, some v_far, some v_runs, some (.ref q_50), none, none, none, none]) (fun (z_82 : (Pl × (List (List Int)))) σ2 I_87 C_88 => ∃ w_84 : Option V, ∃ w_85 : Option V, ∃ w_86 : Option V, σ2 = [some (.ref p0), some v_many, some v_hours, some v_far, some v_runs, some (.ref q_50), w_84, w_85, w_86, none] ∧ (∃ ws_89 : List V, C_88 p0 = some (.lst ws_89) ∧ Rt.r pM z_82.1 ws_89 I_87 Z) ∧ (∃ vs_92 : List V, C_88 q_50 = some (.lst vs_92) ∧ vs_92.length ≤ sizeLine ∧ A2 (fun x u => Rp.r (pL pI) x u I_87 Z) z_82.2 vs_92) ∧ Ex (off C0 p0) C_88) (t_test (x_op o_gt (x_cb o_len (a_one (x_var (i := 4) rfl (Rp.mono _ e_57 fr_73 r_runs)))) (x_int (i := 0)))) s_61 (fun _ _ h => h.elim) hm (fun N I_74 H_75 e_76 s_77 hm => ?_) (fun N I_78 H_79 e_80 s_81 hm => ?_) (fun z_82 σ2 I_177 C_178 H_179 e_180 s_181 ⟨w_84, w_85, w_86, hs_83, ⟨ws_89, hc_90, hx_91⟩, ⟨vs_92, hc_93, hl_94, hr_95⟩, fr_96⟩ hm => ?_)
    · refine qm_asg (E := E) (K := K) (σ := [some (.ref p0), some v_many, some v_hours, some v_far, some v_runs, some (.ref q_50), none, none, none, none]) (i := 6) (m_k (k := ((2 : Nat) : Int)) (fun _ => o_pj (pjs (pjs pj1))) off_same (m_opv (i := 4) (fun _ => o_ix) off_same rfl (Rp.mono _ (e_57.trans e_76) (ex_off fr_73) r_runs) (m_callM (i := 0) rfl (am_pure (a_one (x_cb o_len (a_one (x_var (i := 4) rfl (Rp.mono _ (e_57.trans e_76) (ex_off fr_73) r_runs))))))))) s_77 hc_72 (Rt.mono _ e_76 exz hx_64) hm fun base_97 v_98 ws_104 I_99 C_105 H_100 e_101 s_102 hc_106 k_107 hx_108 r_103 hm => ?_
      have hc_109 := (k_107 _ (Ne.symm ne_70)).trans hc_62
      have fr_110 := fr_pool fr_73 k_107
      refine qm_asg (E := E) (K := K) (σ := [some (.ref p0), some v_many, some v_hours, some v_far, some v_runs, some (.ref q_50), some v_98, none, none, none]) (i := 7) (m_callM (i := 0) rfl (am_pure (a_one (x_op o_add (x_var (i := 2) rfl (Rp.mono _ (e_57.trans (e_76.trans e_101)) exz r_hours)) (x_int (i := 1)))))) s_102 hc_106 (Rt.mono _ (Ex.refl _) exz hx_108) hm fun hour_111 v_112 ws_118 I_113 C_119 H_114 e_115 s_116 hc_120 k_121 hx_122 r_117 hm => ?_
      have hc_123 := (k_121 _ (Ne.symm ne_70)).trans hc_109
      have fr_124 := fr_pool fr_110 k_121
      refine s_forN (E := E) (K := K) (σ := [some (.ref p0), some v_many, some v_hours, some v_far, some v_runs, some (.ref q_50), some v_98, some v_112, none, none]) (fun (z_125 : (List (List Int))) σ2 I_128 C_129 => ∃ w_127 : Option V, σ2 = [some (.ref p0), some v_many, some v_hours, some v_far, some v_runs, some (.ref q_50), some v_98, some v_112, w_127, none] ∧ (∃ vs_130 : List V, C_129 q_50 = some (.lst vs_130) ∧ vs_130.length ≤ sizeLine ∧ A2 (fun x u => Rp.r (pL pI) x u I_128 Z) z_125 vs_130) ∧ C_129 p0 = some (.lst ws_118) ∧ Ex (off C0 p0) C_129) (i_rng1 (a_one (x_var (i := 1) rfl (Rp.mono _ (e_57.trans (e_76.trans (e_101.trans e_115))) exz r_many)))) s_116 (fun _ _ h => h.elim) hm (fun _ e_144 => ⟨none, rfl, ⟨_, hc_123, hl_65, a2up (Ex.trans (e_76.trans (e_101.trans e_115)) e_144) hr_66⟩, hc_120, fr_124⟩) (fun _ _ _ _ _ => trivial) (fun _ _ _ _ _ e ⟨w_127, hs_126, ⟨vs_130, hc_131, hl_132, hr_133⟩, hc_134, fr_135⟩ => ⟨w_127, hs_126, ⟨vs_130, hc_131, hl_132, a2up e hr_133⟩, hc_134, fr_135⟩) (fun N x_136 v_137 z_125 σ2 I_138 C_139 H_140 e_141 s_142 ⟨w_127, hs_126, ⟨vs_130, hc_131, hl_132, hr_133⟩, hc_134, fr_135⟩ r_143 hm => ?_) (fun z_166 σ2 I_161 C_162 H_163 e_164 s_165 ⟨w_168, hs_167, ⟨vs_171, hc_172, hl_173, hr_174⟩, hc_175, fr_176⟩ hm => ?_)
      · subst hs_126
        refine g1 (K := K) x_136 v_137 I_138 C_139 H_140 _ s_142 r_143 fun σ2 ⟨v_145, hs_147, r_146⟩ => ?_
        subst hs_147
        refine q_setL (E := E) (K := K) (σ := [some (.ref p0), some v_many, some v_hours, some v_far, some v_runs, some (.ref q_50), some v_98, some v_112, some v_145, none]) (i := 5) rfl hc_131 hl_132 (a2up (Ex.refl _) hr_133) (x_op o_cat (x_v (x_cb o_list (a_one (x_v (x_sl (x_v (x_op o_ix (x_v (x_var (i := 6) rfl (Rp.mono _ (e_115.trans e_141) exz r_103))) (x_var (i := 8) rfl (Rp.mono _ (Ex.refl _) exz r_146)))) p_none (p_some (x_var (i := 7) rfl (Rp.mono _ e_141 exz r_117)))))))) (x_v (x_sl (x_v (x_op o_ix (x_cell (i := 5) rfl hc_131 hl_132 (a2up (Ex.refl _) hr_133)) (x_var (i := 8) rfl (Rp.mono _ (Ex.refl _) exz r_146)))) (p_some (x_var (i := 7) rfl (Rp.mono _ e_141 exz r_117))) p_none))) (x_var (i := 8) rfl (Rp.mono _ (Ex.refl _) exz r_146)) s_142 (fun _ _ h => h.elim) hm fun rows_148 vs_149 I_150 C_151 H_152 e_153 s_154 hc_155 k_156 hl_157 hr_158 hm => ?_
        have hc_159 := (k_156 _ ne_70).trans hc_134
        have fr_160 := fr_keep fr_135 hB_71 k_156
        exact hm _ _ _ _ e_153 s_154 ⟨some v_145, rfl, ⟨_, hc_155, hl_157, a2up (Ex.refl _) hr_158⟩, hc_159, fr_160⟩
      subst hs_167
      exact hm _ _ _ _ (e_76.trans (e_101.trans (e_115.trans e_164))) s_165 ⟨some v_98, some v_112, w_168, rfl, ⟨_, hc_175, Rt.mono _ e_164 exz hx_122⟩, ⟨_, hc_172, hl_173, a2up (Ex.refl _) hr_174⟩, fr_176⟩
    · exact hm _ _ _ _ e_80 s_81 ⟨none, none, none, rfl, ⟨_, hc_72, Rt.mono _ e_80 exz hx_64⟩, ⟨_, hc_62, hl_65, a2up e_80 hr_66⟩, fr_73⟩
    subst hs_83
    obtain ⟨I_182, C_183, e_184, s_185, h_186, k_187⟩ := freeze s_181 hc_93
    have r_189 := frz_list e_184 h_186 hl_94 hr_95
    have hc_190 := (k_187 _ ne_70).trans hc_90
    have fr_191 := fr_keep fr_96 hB_71 k_187
    refine q_ret (tz := tNext) (E := E) (K := K) (σ := [some (.ref p0), some v_many, some v_hours, some v_far, some v_runs, some (.ref q_50), w_84, w_85, w_86, none]) (x_var (i := 5) rfl (Rp.mono _ (Ex.refl _) exz r_189)) s_185 (fun _ _ h => h.elim) hm fun a_192 v_193 I_194 H_195 e_196 s_197 r_198 hm => ?_
    exact ret_pool hm (e_57.trans (e_180.trans (e_184.trans e_196))) fr_191 s_197 hc_190 (Rt.mono _ (e_184.trans e_196) exz hx_91) r_198
def m__law_data (ar_many_runs : Int) (ar_many_areas : Int) (ar_hours : Int) (a_pool : Pl) : Res ((Int × Int × (List (Str × Int)) × (List (Str × Int × (List Int))) × (List (Str × Int × (List (List Int))))) × Pl) :=
  (((callM (fun (p : (Int × Int)) => m__law_from p.1 p.2) (liftM (pair (Res.ok (1 : Int)) (Res.ok (4 : Int))))) a_pool).bind fun (top_1 : Int × Pl) => (((callM m__law_take (liftM (Res.ok (6 : Int)))) top_1.2).bind fun (far_14 : Int × Pl) => (((callM m__law_areas (liftM (Res.ok ar_many_areas))) far_14.2).bind fun (areas_27 : (List (Str × Int)) × Pl) => (((callM m__law_take (liftM (Res.ok (4 : Int)))) areas_27.2).bind fun (many_40 : Int × Pl) => (((callM m__law_names (liftM (Res.ok many_40.1))) many_40.2).bind fun (names_53 : (List Str) × Pl) => (((fun y_81 => ((liftM (un rng1 (Res.ok many_40.1))) y_81).bind fun b => mapM (fun (x_74 : Int) => (pairM (liftM (bin ix (Res.ok names_53.1) (Res.ok x_74))) (pairM (callM m__law_take (liftM (Res.ok ar_many_areas))) (callM (fun (p : (Int × Int)) => m__law_limits p.1 p.2) (liftM (pair (Res.ok top_1.1) (Res.ok far_14.1))))))) b.1 b.2) names_53.2).bind fun (gauges_82 : (List (Str × Int × (List Int))) × Pl) => (((callM m__law_names (liftM (Res.ok ar_many_runs))) gauges_82.2).bind fun (titles_95 : (List Str) × Pl) => ((Res.ok ([] : List (Str × Int × (List (List Int))))).bind fun (runs_108 : (List (Str × Int × (List (List Int))))) => (((un rng1 (Res.ok ar_many_runs)).bind fun xs => loopN (fun (x_139 : Int) (z_125 : ((List (Str × Int × (List (List Int)))) × Pl)) => (((callM (fun (p : (Int × Int)) => m__law_from p.1 p.2) (liftM (pair (Res.ok (1 : Int)) (Res.ok (5 : Int))))) z_125.2).bind fun (weight_151 : Int × Pl) => ((ifMR (binM eqR (callM m__law_take (liftM (Res.ok (5 : Int)))) (liftM (Res.ok (0 : Int)))) weight_151.2 (fun (y_173 : Pl) => (((callM (fun (p : (Int × Int)) => m__law_from p.1 p.2) (liftM (pair (Res.ok (1 : Int)) (Res.ok (1000 : Int))))) y_173).bind fun (weight_198 : Int × Pl) => (Res.ok (weight_198.2, weight_198.1)))) (fun (y_179 : Pl) => (Res.ok (y_179, weight_151.1)))).bind fun (z_185 : (Pl × Int)) => ((((pairM (liftM (bin ix (Res.ok titles_95.1) (Res.ok x_139))) (pairM (liftM (Res.ok z_185.2)) (callM (fun (p : (Int × Int × Int × (List (Str × Int × (List (List Int)))))) => m__law_run_rows p.1 p.2.1 p.2.2.1 p.2.2.2) (pairM (liftM (Res.ok many_40.1)) (pairM (liftM (Res.ok ar_hours)) (pairM (liftM (Res.ok far_14.1)) (liftM (Res.ok z_125.1)))))))) z_185.1).bind fun b => (push z_125.1 b.1).bind fun ys => Res.ok (ys, b.2)).bind fun (runs_219 : (List (Str × Int × (List (List Int)))) × Pl) => (Res.ok (runs_219.1, runs_219.2)))))) xs (runs_108, titles_95.2)).bind fun (z_239 : ((List (Str × Int × (List (List Int)))) × Pl)) => ((pair (Res.ok top_1.1) (pair (Res.ok ar_hours) (pair (Res.ok areas_27.1) (pair (Res.ok gauges_82.1) (Res.ok z_239.1))))).bind fun a_263 => Res.ok (a_263, z_239.2)))))))))))
abbrev N__law_data : List Str := ["pool", "many_runs", "many_areas", "hours", "top", "far", "areas", "many", "names", "gauges", "titles", "runs", "k", "weight"]
theorem sc__law_data : FnScope N__law_data ["pool", "many_runs", "many_areas", "hours"] (defScope s__law_data) := ⟨rfl, rfl, rfl, by decide +kernel, rfl, by decide +kernel, by decide +kernel⟩
theorem bind__law_data {K : PySem.W.Frag} {mg : Str → Option Value} {T : Tx K mg} : Binds K T.d__law_data ["pool", "many_runs", "many_areas", "hours"] [] := FunD.bindsN T.F__law_data fun _ _ _ _ _ _ us hl => match us, hl with | [_, _, _, _], _ => rfl
abbrev sp__law_data (K : PySem.W.Frag) : Sp := spM pM (tc pI (tc pI (t1 pI))) (fun (p : (Int × Int × Int)) => m__law_data p.1 p.2.1 p.2.2) (pD (tc pI (tc pI (tc (pL (pT (tc pS (t1 pI)))) (tc (pL (pT (tc pS (tc pI (t1 (pL pI)))))) (t1 (pL (pT (tc pS (tc pI (t1 (pL (pL pI)))))))))))))
theorem ok__law_data (T : Tx K mg) : FnOk P w K mg base (L2.CX P w) 8 T.f__law_data T.d__law_data ["pool", "many_runs", "many_areas", "hours"] (sp__law_data K) := by
  refine T.F__law_data.ok sc__law_data (fun vs H Q E h => ?_) (fun cdv A outer s H vs Q E hr h => ?_)
  · obtain ⟨I, C, p, ws, us, x, a, rfl, _, _, _, hr, _⟩ := h
    exact congrArg (· + 1) (Rt.len _ hr)
  · obtain ⟨I0, C0, p0, ws0, us, a_pool, ⟨ar_many_runs, ar_many_areas, ar_hours⟩, rfl, hs, hc0, hx1, ⟨v_many_runs, us0, rfl, r_many_runs, v_many_areas, us1, rfl, r_many_areas, v_hours, rfl, r_hours⟩, hm⟩ := h
    have hx0 := It.im (C' := Z) hx1
    have hm : Post (m__law_data ar_many_runs ar_many_areas ar_hours a_pool) (PM p0 pM (pD (tc pI (tc pI (tc (pL (pT (tc pS (t1 pI)))) (tc (pL (pT (tc pS (tc pI (t1 (pL pI)))))) (t1 (pL (pT (tc pS (tc pI (t1 (pL (pL pI))))))))))))) I0 C0 Q) XF := hm
    replace r_many_runs : Rp.r pI ar_many_runs v_many_runs I0 Z := Im.im r_many_runs
    replace r_many_areas : Rp.r pI ar_many_areas v_many_areas I0 Z := Im.im r_many_areas
    replace r_hours : Rp.r pI ar_hours v_hours I0 Z := Im.im r_hours
    unfold m__law_data at hm
    refine ⟨_, (pss_cons (ps_set (i := 4) sc__law_data.nd rfl (Or.inr rfl) (pe_call (ok__law_from T) (hr.mono (by decide)) rfl T.g__law_from T.F__law_from.kp bind__law_from .nil passE (pa_cons (pv 0) (pa_cons pe_int (pa_cons pe_int pa_nil))))) (pss_cons (ps_set (i := 5) sc__law_data.nd rfl (Or.inr rfl) (pe_call (ok__law_take T) (hr.mono (by decide)) rfl T.g__law_take T.F__law_take.kp bind__law_take .nil passE (pa_cons (pv 0) (pa_cons pe_int pa_nil)))) (pss_cons (ps_set (i := 6) sc__law_data.nd rfl (Or.inl rfl) (pe_call (ok__law_areas T) (hr.mono (by decide)) rfl T.g__law_areas T.F__law_areas.kp bind__law_areas .nil passE (pa_cons (pv 0) (pa_cons (pv 2) pa_nil)))) (pss_cons (ps_set (i := 7) sc__law_data.nd rfl (Or.inl rfl) (pe_call (ok__law_take T) (hr.mono (by decide)) rfl T.g__law_take T.F__law_take.kp bind__law_take .nil passE (pa_cons (pv 0) (pa_cons pe_int pa_nil)))) (pss_cons (ps_set (i := 8) sc__law_data.nd rfl (Or.inr rfl) (pe_call (ok__law_names T) (hr.mono (by decide)) rfl T.g__law_names T.F__law_names.kp bind__law_names .nil passE (pa_cons (pv 0) (pa_cons (pv 7) pa_nil)))) (pss_cons (ps_setLc (i := 9) (own := [("k", 12)]) rfl sc__law_data.nd rfl rfl (sw_true rfl rfl rfl (by decide +kernel)) (pi_range1 (by rfl) T.gb_range (pa_cons (pv 7) pa_nil)) (blkOk_by (own := [("k", 12)]) (N := N__law_data) (sc := defScope s__law_data) (by decide +kernel)) (fun _ _ _ _ _ => (pg_name (i := 12) sc__law_data.nd rfl (Or.inl rfl))) (fun _ _ _ _ _ => pts_nil) (fun _ _ _ _ _ => (pe_tup (pa_cons (pe_ix (r := rIxL K) ix_list (pv 8) (pv 12) (fun _ _ => rfl)) (pa_cons (pe_call (ok__law_take T) (hr.mono (by decide)) rfl T.g__law_take T.F__law_take.kp bind__law_take .nil passL (pa_cons (pv 0) (pa_cons (pv 2) pa_nil))) (pa_cons (pe_call (ok__law_limits T) (hr.mono (by decide)) rfl T.g__law_limits T.F__law_limits.kp bind__law_limits .nil passL (pa_cons (pv 0) (pa_cons (pv 4) (pa_cons (pv 5) pa_nil)))) pa_nil)))))) (pss_cons (ps_set (i := 10) sc__law_data.nd rfl (Or.inl rfl) (pe_call (ok__law_names T) (hr.mono (by decide)) rfl T.g__law_names T.F__law_names.kp bind__law_names .nil passE (pa_cons (pv 0) (pa_cons (pv 1) pa_nil)))) (pss_cons (ps_set (i := 11) sc__law_data.nd rfl (Or.inl rfl) (pe_lst pa_nil)) (pss_cons (ps_for (passes_of rfl) rfl (pi_range1 (by rfl) T.gb_range (pa_cons (pv 1) pa_nil)) (pg_name (i := 12) sc__law_data.nd rfl (Or.inl rfl)) (pss_cons (ps_set (i := 13) sc__law_data.nd rfl (Or.inl rfl) (pe_call (ok__law_from T) (hr.mono (by decide)) rfl T.g__law_from T.F__law_from.kp bind__law_from .nil passE (pa_cons (pv 0) (pa_cons pe_int (pa_cons pe_int pa_nil))))) (Evl.pss_cut (ps_if (pt_cmpR op_eq (pe_call (ok__law_take T) (hr.mono (by decide)) rfl T.g__law_take T.F__law_take.kp bind__law_take .nil passE (pa_cons (pv 0) (pa_cons pe_int pa_nil))) pe_int (nomark _)) (pss_cons (ps_set (i := 13) sc__law_data.nd rfl (Or.inl rfl) (pe_call (ok__law_from T) (hr.mono (by decide)) rfl T.g__law_from T.F__law_from.kp bind__law_from .nil passE (pa_cons (pv 0) (pa_cons pe_int (pa_cons pe_int pa_nil))))) pss_nil) pss_nil) (pss_cons (ps_expr (show PE _ _ (tBM K "list" rAppend _ _) from pe_bm PySem.F.plainAttrs_list PySem.F.slot_list_append PySem.F.type_list_append mt_append (pv 11) (pa_cons (pe_tup (pa_cons (pe_ix (r := rIxL K) ix_list (pv 10) (pv 12) (fun _ _ => rfl)) (pa_cons (pv 13) (pa_cons (pe_call (ok__law_run_rows T) (hr.mono (by decide)) rfl T.g__law_run_rows T.F__law_run_rows.kp bind__law_run_rows .nil passE (pa_cons (pv 0) (pa_cons (pv 7) (pa_cons (pv 3) (pa_cons (pv 5) (pa_cons (pv 11) pa_nil)))))) pa_nil)))) pa_nil))) pss_nil)))) (pss_cons (ps_ret (pe_lst (pa_cons (pv 4) (pa_cons (pv 3) (pa_cons (pv 6) (pa_cons (pv 9) (pa_cons (pv 11) pa_nil))))))) pss_nil)))))))))), ?_⟩
    refine qm_asg (E := E) (K := K) (σ := [some (.ref p0), some v_many_runs, some v_many_areas, some v_hours, none, none, none, none, none, none, none, none, none, none]) (i := 4) (m_callM (i := 0) rfl (am_pure (a_cons (x_int (i := 1)) (a_one (x_int (i := 4)))))) hs hc0 (Rt.mono _ (Ex.refl _) exz hx0) hm fun top_1 v_2 ws_8 I_3 C_9 H_4 e_5 s_6 hc_10 k_11 hx_12 r_7 hm => ?_
    have fr_13 := fr_pool (off_ex (C := C0) (p := p0)) k_11
    refine qm_asg (E := E) (K := K) (σ := [some (.ref p0), some v_many_runs, some v_many_areas, some v_hours, some v_2, none, none, none, none, none, none, none, none, none]) (i := 5) (m_callM (i := 0) rfl (am_pure (a_one (x_int (i := 6))))) s_6 hc_10 (Rt.mono _ (Ex.refl _) exz hx_12) hm fun far_14 v_15 ws_21 I_16 C_22 H_17 e_18 s_19 hc_23 k_24 hx_25 r_20 hm => ?_
    have fr_26 := fr_pool fr_13 k_24
    refine qm_asg (E := E) (K := K) (σ := [some (.ref p0), some v_many_runs, some v_many_areas, some v_hours, some v_2, some v_15, none, none, none, none, none, none, none, none]) (i := 6) (m_callM (i := 0) rfl (am_pure (a_one (x_var (i := 2) rfl (Rp.mono _ (e_5.trans e_18) exz r_many_areas))))) s_19 hc_23 (Rt.mono _ (Ex.refl _) exz hx_25) hm fun areas_27 v_28 ws_34 I_29 C_35 H_30 e_31 s_32 hc_36 k_37 hx_38 r_33 hm => ?_
    have fr_39 := fr_pool fr_26 k_37
    refine qm_asg (E := E) (K := K) (σ := [some (.ref p0), some v_many_runs, some v_many_areas, some v_hours, some v_2, some v_15, some v_28, none, none, none, none, none, none, none]) (i := 7) (m_callM (i := 0) rfl (am_pure (a_one (x_int (i := 4))))) s_32 hc_36 (Rt.mono _ (Ex.refl _) exz hx_38) hm fun many_40 v_41 ws_47 I_42 C_48 H_43 e_44 s_45 hc_49 k_50 hx_51 r_46 hm => ?_
    have fr_52 := fr_pool fr_39 k_50
    refine qm_asg (E := E) (K := K) (σ := [some (.ref p0), some v_many_runs, some v_many_areas, some v_hours, some v_2, some v_15, some v_28, some v_41, none, none, none, none, none, none]) (i := 8) (m_callM (i := 0) rfl (am_pure (a_one (x_var (i := 7) rfl (Rp.mono _ (Ex.refl _) exz r_46))))) s_45 hc_49 (Rt.mono _ (Ex.refl _) exz hx_51) hm fun names_53 v_54 ws_60 I_55 C_61 H_56 e_57 s_58 hc_62 k_63 hx_64 r_59 hm => ?_
    have fr_65 := fr_pool fr_52 k_63
    refine qm_asg (E := E) (K := K) (σ := [some (.ref p0), some v_many_runs, some v_many_areas, some v_hours, some v_2, some v_15, some v_28, some v_41, some v_54, none, none, none, none, none]) (i := 9) (m_lc off_same (im_pure (i_rng1 (a_one (x_var (i := 7) rfl (Rp.mono _ e_57 exz r_46))))) g1 (fun _ _ _ _ ⟨_, h, _⟩ => by rw [h]; rfl) (fun x_74 σ2 I_75 C_76 e_77 c_78 ⟨v_79, h, r_80⟩ => by subst h; exact (m_tup (am_cons off_same (m_pure (x_op o_ix (x_v (x_var (i := 8) rfl (Rp.mono _ e_77 exz r_59))) (x_var (i := 12) rfl (Rp.mono _ (Ex.refl _) exz r_80)))) (am_cons off_same (m_callM (i := 0) rfl (am_pure (a_one (x_var (i := 2) rfl (Rp.mono _ (e_5.trans (e_18.trans (e_31.trans (e_44.trans (e_57.trans e_77))))) exz r_many_areas))))) (am_one (m_callM (i := 0) rfl (am_pure (a_cons (x_var (i := 4) rfl (Rp.mono _ (e_18.trans (e_31.trans (e_44.trans (e_57.trans e_77)))) exz r_7)) (a_one (x_var (i := 5) rfl (Rp.mono _ (e_31.trans (e_44.trans (e_57.trans e_77))) exz r_20))))))))) (Nat.le_of_ble_eq_true rfl)))) s_58 hc_62 (Rt.mono _ (Ex.refl _) exz hx_64) hm fun gauges_82 v_83 ws_89 I_84 C_90 H_85 e_86 s_87 hc_91 k_92 hx_93 r_88 hm => ?_
    have fr_94 := fr_pool fr_65 k_92
    refine qm_asg (E := E) (K := K) (σ := [some (.ref p0), some v_many_runs, some v_many_areas, some v_hours, some v_2, some v_15, some v_28, some v_41, some v_54, some v_83, none, none, none, none]) (i := 10) (m_callM (i := 0) rfl (am_pure (a_one (x_var (i := 1) rfl (Rp.mono _ (e_5.trans (e_18.trans (e_31.trans (e_44.trans (e_57.trans e_86))))) exz r_many_runs))))) s_87 hc_91 (Rt.mono _ (Ex.refl _) exz hx_93) hm fun titles_95 v_96 ws_102 I_97 C_103 H_98 e_99 s_100 hc_104 k_105 hx_106 r_101 hm => ?_
    have fr_107 := fr_pool fr_94 k_105
    refine q_asgN (E := E) (K := K) (σ := [some (.ref p0), some v_many_runs, some v_many_areas, some v_hours, some v_2, some v_15, some v_28, some v_41, some v_54, some v_83, some v_96, none, none, none]) (i := 11) (n_lst (R := (pT (tc pS (tc pI (t1 (pL (pL pI))))))) al_nil (by decide)) s_100 (fun _ _ h => h.elim) hm fun runs_108 p_109 vs_110 I_111 C_112 H_113 e_114 hp_115 s_116 hc_117 k_118 hl_119 hr_120 hm => ?_
    have ne_121 := ne_new hc_104 hp_115
    have hB_122 := Ex.free fr_107 hp_115
    have hc_123 := (k_118 _ ne_121).trans hc_104
    have fr_124 := fr_keep fr_107 hB_122 k_118
    refine s_forN (E := E) (K := K) (σ := [some (.ref p0), some v_many_runs, some v_many_areas, some v_hours, some v_2, some v_15, some v_28, some v_41, some v_54, some v_83, some v_96, some (.ref p_109), none, none]) (fun (z_125 : ((List (Str × Int × (List (List Int)))) × Pl)) σ2 I_129 C_130 => ∃ w_127 : Option V, ∃ w_128 : Option V, σ2 = [some (.ref p0), some v_many_runs, some v_many_areas, some v_hours, some v_2, some v_15, some v_28, some v_41, some v_54, some v_83, some v_96, some (.ref p_109), w_127, w_128] ∧ (∃ vs_131 : List V, C_130 p_109 = some (.lst vs_131) ∧ vs_131.length ≤ sizeLine ∧ A2 (fun x u => Rp.r (pT (tc pS (tc pI (t1 (pL (pL pI)))))) x u I_129 Z) z_125.1 vs_131) ∧ (∃ ws_135 : List V, C_130 p0 = some (.lst ws_135) ∧ Rt.r pM z_125.2 ws_135 I_129 Z) ∧ Ex (off C0 p0) C_130) (i_rng1 (a_one (x_var (i := 1) rfl (Rp.mono _ (e_5.trans (e_18.trans (e_31.trans (e_44.trans (e_57.trans (e_86.trans (e_99.trans e_114))))))) exz r_many_runs)))) s_116 (fun _ _ h => h.elim) hm (fun _ e_147 => ⟨none, none, rfl, ⟨_, hc_117, hl_119, a2up (Ex.trans (Ex.refl _) e_147) hr_120⟩, ⟨_, hc_123, Rt.mono _ (Ex.trans e_114 e_147) exz hx_106⟩, fr_124⟩) (fun _ _ _ _ _ => trivial) (fun _ _ _ _ _ e ⟨w_127, w_128, hs_126, ⟨vs_131, hc_132, hl_133, hr_134⟩, ⟨ws_135, hc_136, hx_137⟩, fr_138⟩ => ⟨w_127, w_128, hs_126, ⟨vs_131, hc_132, hl_133, a2up e hr_134⟩, ⟨ws_135, hc_136, Rt.mono _ e exz hx_137⟩, fr_138⟩) (fun N x_139 v_140 z_125 σ2 I_141 C_142 H_143 e_144 s_145 ⟨w_127, w_128, hs_126, ⟨vs_131, hc_132, hl_133, hr_134⟩, ⟨ws_135, hc_136, hx_137⟩, fr_138⟩ r_146 hm => ?_) (fun z_239 σ2 I_234 C_235 H_236 e_237 s_238 ⟨w_241, w_242, hs_240, ⟨vs_245, hc_246, hl_247, hr_248⟩, ⟨ws_249, hc_250, hx_251⟩, fr_252⟩ hm => ?_)
    · subst hs_126
      refine g1 (K := K) x_139 v_140 I_141 C_142 H_143 _ s_145 r_146 fun σ2 ⟨v_148, hs_150, r_149⟩ => ?_
      subst hs_150
      refine qm_asg (E := E) (K := K) (σ := [some (.ref p0), some v_many_runs, some v_many_areas, some v_hours, some v_2, some v_15, some v_28, some v_41, some v_54, some v_83, some v_96, some (.ref p_109), some v_148, w_128]) (i := 13) (m_callM (i := 0) rfl (am_pure (a_cons (x_int (i := 1)) (a_one (x_int (i := 5)))))) s_145 hc_136 (Rt.mono _ (Ex.refl _) exz hx_137) hm fun weight_151 v_152 ws_158 I_153 C_159 H_154 e_155 s_156 hc_160 k_161 hx_162 r_157 hm => ?_
      have hc_163 := (k_161 _ (Ne.symm ne_121)).trans hc_132
      have fr_164 := fr_pool fr_138 k_161
      refine qm_ifj (E := E) (K := K) (σ := [some (.ref p0), some v_many_runs, some v_many_areas, some v_hours, some v_2, some v_15, some v_28, some v_41, some v_54, some v_83, some v_96, some (.ref p_109), some v_148, some v_152]) (fun (z_185 : (Pl × Int)) σ2 I_187 C_188 => ∃ v_192 : V, σ2 = [some (.ref p0), some v_many_runs, some v_many_areas, some v_hours, some v_2, some v_15, some v_28, some v_41, some v_54, some v_83, some v_96, some (.ref p_109), some v_148, some v_192] ∧ (∃ ws_189 : List V, C_188 p0 = some (.lst ws_189) ∧ Rt.r pM z_185.1 ws_189 I_187 Z) ∧ Rp.r pI z_185.2 v_192 I_187 Z ∧ C_188 p_109 = some (.lst vs_131) ∧ Ex (off C0 p0) C_188) (tm_test (m_op (fun _ => o_eqI) off_same (m_callM (i := 0) rfl (am_pure (a_one (x_int (i := 5))))) (m_pure (x_int (i := 0))))) s_156 hc_160 (Rt.mono _ (Ex.refl _) exz hx_162) hm (fun N y_173 ws_174 I_165 C_175 H_166 e_167 s_168 hc_176 k_177 hx_178 hm => ?_) (fun N y_179 ws_180 I_169 C_181 H_170 e_171 s_172 hc_182 k_183 hx_184 hm => ?_) (fun z_185 σ2 I_214 C_215 H_216 e_217 s_218 ⟨v_192, hs_186, ⟨ws_189, hc_190, hx_191⟩, r_193, hc_194, fr_195⟩ hm => ?_)
      · have hc_196 := (k_177 _ (Ne.symm ne_121)).trans hc_163
        have fr_197 := fr_pool fr_164 k_177
        refine qm_asg (E := E) (K := K) (σ := [some (.ref p0), some v_many_runs, some v_many_areas, some v_hours, some v_2, some v_15, some v_28, some v_41, some v_54, some v_83, some v_96, some (.ref p_109), some v_148, some v_152]) (i := 13) (m_callM (i := 0) rfl (am_pure (a_cons (x_int (i := 1)) (a_one (x_int (i := 1000)))))) s_168 hc_176 (Rt.mono _ (Ex.refl _) exz hx_178) hm fun weight_198 v_199 ws_205 I_200 C_206 H_201 e_202 s_203 hc_207 k_208 hx_209 r_204 hm => ?_
        have hc_210 := (k_208 _ (Ne.symm ne_121)).trans hc_196
        have fr_211 := fr_pool fr_197 k_208
        exact hm _ _ _ _ (e_167.trans e_202) s_203 ⟨v_199, rfl, ⟨_, hc_207, Rt.mono _ (Ex.refl _) exz hx_209⟩, Rp.mono _ (Ex.refl _) exz r_204, hc_210, fr_211⟩
      · have hc_212 := (k_183 _ (Ne.symm ne_121)).trans hc_163
        have fr_213 := fr_pool fr_164 k_183
        exact hm _ _ _ _ e_171 s_172 ⟨v_152, rfl, ⟨_, hc_182, Rt.mono _ (Ex.refl _) exz hx_184⟩, Rp.mono _ e_171 exz r_157, hc_212, fr_213⟩
      subst hs_186
      refine qm_app (E := E) (K := K) (σ := [some (.ref p0), some v_many_runs, some v_many_areas, some v_hours, some v_2, some v_15, some v_28, some v_41, some v_54, some v_83, some v_96, some (.ref p_109), some v_148, some v_192]) (i := 11) rfl hc_194 (Ne.symm ne_121) (a2up (e_155.trans e_217) hr_134) (m_tup (am_cons off_same (m_pure (x_op o_ix (x_v (x_var (i := 10) rfl (Rp.mono _ (e_114.trans (e_144.trans (e_155.trans e_217))) exz r_101))) (x_var (i := 12) rfl (Rp.mono _ (e_155.trans e_217) exz r_149)))) (am_cons off_same (m_pure (x_var (i := 13) rfl (Rp.mono _ (Ex.refl _) exz r_193))) (am_one (m_callMo (i := 0) off_same rfl (amo_cons off_same (m_pure (x_var (i := 7) rfl (Rp.mono _ (e_57.trans (e_86.trans (e_99.trans (e_114.trans (e_144.trans (e_155.trans e_217)))))) exz r_46))) (amo_cons off_same (m_pure (x_var (i := 3) rfl (Rp.mono _ (e_5.trans (e_18.trans (e_31.trans (e_44.trans (e_57.trans (e_86.trans (e_99.trans (e_114.trans (e_144.trans (e_155.trans e_217)))))))))) exz r_hours))) (amo_cons off_same (m_pure (x_var (i := 5) rfl (Rp.mono _ (e_31.trans (e_44.trans (e_57.trans (e_86.trans (e_99.trans (e_114.trans (e_144.trans (e_155.trans e_217)))))))) exz r_20))) (amo_var1 (R := (pV (pT (tc pS (tc pI (t1 (pL (pL pI)))))))) (i := 11) rfl (show (pV _).r _ _ _ _ from ⟨_, _, rfl, Or.inr ((off_ne (Ne.symm ne_121)).trans hc_194), hl_133, A2.imp (fun _ _ h => Im.im h) (a2up (e_155.trans e_217) hr_134)⟩))))))))) (Nat.le_of_ble_eq_true rfl)) s_218 hc_190 (Rt.mono _ (Ex.refl _) exz hx_191) hm fun runs_219 vs_220 ws_221 I_222 C_223 H_224 e_225 s_226 hc_227 hc_228 k_229 hl_230 hr_231 hx_232 hm => ?_
      have fr_233 := fr_pool2 fr_195 hB_122 k_229
      exact hm _ _ _ _ (e_155.trans (e_217.trans e_225)) s_226 ⟨some v_148, some v_192, rfl, ⟨_, hc_227, hl_230, a2up (Ex.refl _) hr_231⟩, ⟨_, hc_228, Rt.mono _ (Ex.refl _) exz hx_232⟩, fr_233⟩
    subst hs_240
    obtain ⟨I_253, C_254, e_255, s_256, h_257, k_258⟩ := freeze s_238 hc_246
    have r_260 := frz_list e_255 h_257 hl_247 hr_248
    have hc_261 := (k_258 _ ne_121).trans hc_250
    have fr_262 := fr_keep fr_252 hB_122 k_258
    refine q_ret (tz := tNext) (E := E) (K := K) (σ := [some (.ref p0), some v_many_runs, some v_many_areas, some v_hours, some v_2, some v_15, some v_28, some v_41, some v_54, some v_83, some v_96, some (.ref p_109), w_241, w_242]) (x_lstD (a_cons (x_var (i := 4) rfl (Rp.mono _ (e_18.trans (e_31.trans (e_44.trans (e_57.trans (e_86.trans (e_99.trans (e_114.trans (e_237.trans e_255)))))))) exz r_7)) (a_cons (x_var (i := 3) rfl (Rp.mono _ (e_5.trans (e_18.trans (e_31.trans (e_44.trans (e_57.trans (e_86.trans (e_99.trans (e_114.trans (e_237.trans e_255))))))))) exz r_hours)) (a_cons (x_var (i := 6) rfl (Rp.mono _ (e_44.trans (e_57.trans (e_86.trans (e_99.trans (e_114.trans (e_237.trans e_255)))))) exz r_33)) (a_cons (x_var (i := 9) rfl (Rp.mono _ (e_99.trans (e_114.trans (e_237.trans e_255))) exz r_88)) (a_one (x_var (i := 11) rfl (Rp.mono _ (Ex.refl _) exz r_260))))))) (Nat.le_of_ble_eq_true rfl)) s_256 (fun _ _ h => h.elim) hm fun a_263 v_264 I_265 H_266 e_267 s_268 r_269 hm => ?_
    exact ret_pool hm (e_5.trans (e_18.trans (e_31.trans (e_44.trans (e_57.trans (e_86.trans (e_99.trans (e_114.trans (e_237.trans (e_255.trans e_267)))))))))) fr_262 s_268 hc_261 (Rt.mono _ (e_255.trans e_267) exz hx_251) r_269
def m__law_line (ar_parents : (List Int)) (ar_k : Int) : Res (List Int) :=
  ((consR (Res.ok ar_k) (Res.ok [])).bind fun (line_v_1 : (List Int)) => (((un rng1 (un rLen (Res.ok ar_parents))).bind fun xs => loopN (fun (x_26 : Int) (z_16 : (List Int)) => (ifR (bin rGe (bin ix (Res.ok ar_parents) (bin ix (Res.ok z_16) (un rNeg (Res.ok (1 : Int))))) (Res.ok (0 : Int))) (((bin ix (Res.ok ar_parents) (bin ix (Res.ok z_16) (un rNeg (Res.ok (1 : Int))))).bind fun x => push z_16 x).bind fun (line_v_46 : (List Int)) => (Res.ok line_v_46)) (Res.ok z_16))) xs line_v_1).bind fun (z_63 : (List Int)) => (Res.ok z_63)))
abbrev N__law_line : List Str := ["parents", "k", "line_v", "step"]
theorem sc__law_line : FnScope N__law_line ["parents", "k"] (defScope s__law_line) := ⟨rfl, rfl, rfl, by decide +kernel, rfl, by decide +kernel, by decide +kernel⟩
theorem bind__law_line {K : PySem.W.Frag} {mg : Str → Option Value} {T : Tx K mg} : Binds K T.d__law_line ["parents", "k"] [] := FunD.bindsN T.F__law_line fun _ _ _ _ _ _ us hl => match us, hl with | [_, _], _ => rfl
abbrev sp__law_line (K : PySem.W.Frag) : Sp := spO K (tc (pL pI) (t1 pI)) (fun (p : ((List Int) × Int)) => m__law_line p.1 p.2) pI
theorem ok__law_line (T : Tx K mg) : FnOk P w K mg base (L2.CX P w) 1 T.f__law_line T.d__law_line ["parents", "k"] (sp__law_line K) := by
  refine T.F__law_line.ok sc__law_line (fun vs H Q E h => ?_) (fun cdv A outer s H vs Q E hr h => ?_)
  · obtain ⟨I, C, a, _, hr, _⟩ := h
    exact Rt.len _ hr
  · obtain ⟨I0, C0, ⟨ar_parents, ar_k⟩, hs, ⟨v_parents, us0, rfl, r_parents, v_k, rfl, r_k⟩, hm⟩ := h
    have hm : Post (m__law_line ar_parents ar_k) (PN pI I0 C0 Q) (PX E K I0 C0) := hm
    replace r_parents : Rp.r (pL pI) ar_parents v_parents I0 Z := Im.im r_parents
    replace r_k : Rp.r pI ar_k v_k I0 Z := Im.im r_k
    unfold m__law_line at hm
    refine ⟨_, (pss_cons (ps_set (i := 2) sc__law_line.nd rfl (Or.inl rfl) (pe_lst (pa_cons (pv 1) pa_nil))) (pss_cons (ps_for (passes_of rfl) rfl (pi_range1 (by rfl) T.gb_range (pa_cons (pe_callB (r := rLen1 K) call_len_seq (by rfl) T.gb_len bt_len (pa_cons (pv 0) pa_nil)) pa_nil)) (pg_name (i := 3) sc__law_line.nd rfl (Or.inl rfl)) (pss_cons (ps_if (pt_cmpR op_ge (pe_ix (r := rIxL K) ix_list (pv 0) (pe_ix (r := rIxL K) ix_list (pv 2) (pe_un un_neg pe_int) (fun _ _ => rfl)) (fun _ _ => rfl)) pe_int (nomark _)) (pss_cons (ps_expr (show PE _ _ (tBM K "list" rAppend _ _) from pe_bm PySem.F.plainAttrs_list PySem.F.slot_list_append PySem.F.type_list_append mt_append (pv 2) (pa_cons (pe_ix (r := rIxL K) ix_list (pv 0) (pe_ix (r := rIxL K) ix_list (pv 2) (pe_un un_neg pe_int) (fun _ _ => rfl)) (fun _ _ => rfl)) pa_nil))) pss_nil) pss_nil) pss_nil)) (pss_cons (ps_ret (pv 2)) pss_nil))), ?_⟩
    refine q_asgN (E := E) (K := K) (σ := [some v_parents, some v_k, none, none]) (i := 2) (n_lst (al_cons (x_var (i := 1) rfl (Rp.mono _ (Ex.refl _) exz r_k)) al_nil) (Nat.le_of_ble_eq_true rfl)) hs (fun _ _ h => PX.mono (Ex.refl _) (Ex.refl _) h) hm fun line_v_1 p_2 vs_3 I_4 C_5 H_6 e_7 hp_8 s_9 hc_10 k_11 hl_12 hr_13 hm => ?_
    have hB_14 := Ex.free (Ex.refl _) hp_8
    have fr_15 := fr_keep (Ex.refl _) hB_14 k_11
    refine s_forN (E := E) (K := K) (σ := [some v_parents, some v_k, some (.ref p_2), none]) (fun (z_16 : (List Int)) σ2 I_19 C_20 => ∃ w_18 : Option V, σ2 = [some v_parents, some v_k, some (.ref p_2), w_18] ∧ (∃ vs_21 : List V, C_20 p_2 = some (.lst vs_21) ∧ vs_21.length ≤ sizeLine ∧ A2 (fun x u => Rp.r pI x u I_19 Z) z_16 vs_21) ∧ Ex C0 C_20) (i_rng1 (a_one (x_cb o_len (a_one (x_v (x_var (i := 0) rfl (Rp.mono _ e_7 exz r_parents))))))) s_9 (fun _ _ h => PX.mono e_7 fr_15 h) hm (fun _ e_34 => ⟨none, rfl, ⟨_, hc_10, hl_12, a2up (Ex.trans (Ex.refl _) e_34) hr_13⟩, fr_15⟩) (fun _ _ _ _ _ => trivial) (fun _ _ _ _ _ e ⟨w_18, hs_17, ⟨vs_21, hc_22, hl_23, hr_24⟩, fr_25⟩ => ⟨w_18, hs_17, ⟨vs_21, hc_22, hl_23, a2up e hr_24⟩, fr_25⟩) (fun N x_26 v_27 z_16 σ2 I_28 C_29 H_30 e_31 s_32 ⟨w_18, hs_17, ⟨vs_21, hc_22, hl_23, hr_24⟩, fr_25⟩ r_33 hm => ?_) (fun z_63 σ2 I_58 C_59 H_60 e_61 s_62 ⟨w_65, hs_64, ⟨vs_68, hc_69, hl_70, hr_71⟩, fr_72⟩ hm => ?_)
    · subst hs_17
      refine g1 (K := K) x_26 v_27 I_28 C_29 H_30 _ s_32 r_33 fun σ2 ⟨v_35, hs_37, r_36⟩ => ?_
      subst hs_37
      refine s_if (E := E) (K := K) (σ := [some v_parents, some v_k, some (.ref p_2), some v_35]) (t_test (x_op o_ge (x_op o_ix (x_v (x_var (i := 0) rfl (Rp.mono _ (e_7.trans e_31) exz r_parents))) (x_op o_ix (x_cell (i := 2) rfl hc_22 hl_23 (a2up (Ex.refl _) hr_24)) (x_un o_neg (x_int (i := 1))))) (x_int (i := 0)))) s_32 (fun _ _ h => PX.mono (e_7.trans e_31) fr_25 h) hm (fun I_38 H_39 e_40 s_41 hm => ?_) (fun I_42 H_43 e_44 s_45 hm => ?_)
      · refine q_app (E := E) (K := K) (σ := [some v_parents, some v_k, some (.ref p_2), some v_35]) (i := 2) rfl hc_22 (a2up e_40 hr_24) (x_op o_ix (x_v (x_var (i := 0) rfl (Rp.mono _ (e_7.trans (e_31.trans e_40)) exz r_parents))) (x_op o_ix (x_cell (i := 2) rfl hc_22 hl_23 (a2up e_40 hr_24)) (x_un o_neg (x_int (i := 1))))) s_41 (fun _ _ h => PX.mono (e_7.trans (e_31.trans e_40)) fr_25 h) hm fun line_v_46 vs_47 I_48 C_49 H_50 e_51 s_52 hc_53 k_54 hl_55 hr_56 hm => ?_
        have fr_57 := fr_keep fr_25 hB_14 k_54
        exact hm _ _ _ _ (e_40.trans e_51) s_52 ⟨some v_35, rfl, ⟨_, hc_53, hl_55, a2up (Ex.refl _) hr_56⟩, fr_57⟩
      · exact hm _ _ _ _ e_44 s_45 ⟨some v_35, rfl, ⟨_, hc_22, hl_23, a2up e_44 hr_24⟩, fr_25⟩
    subst hs_64
    refine q_retO (i := 2) rfl s_62 fr_72 hB_14 hc_69 hl_70 (a2up (Ex.refl _) hr_71) fun s hr => ?_
    exact hm _ _ _ _ (e_7.trans e_61) hB_14 s hl_70 hr
def m__law_reached (ar_data : (Int × Int × (List (Str × Int)) × (List (Str × Int × (List Int))) × (List (Str × Int × (List (List Int)))))) (ar_run : Int) (ar_area : Int) (ar_hour : Int) : Res Int :=
  (((un (fun p => Res.ok p.2.2.1) (Res.ok ar_data)).bind (mapR (fun (x_1 : (Str × Int)) => (un (fun p => Res.ok p.2) (Res.ok x_1))))).bind fun (parents_8 : (List Int)) => ((Res.ok (0 : Int)).bind fun (best_15 : Int) => (((un rng1 (un rLen (un (fun p => Res.ok p.2.2.2.1) (Res.ok ar_data)))).bind fun xs => loopN (fun (x_32 : Int) (z_22 : Int) => ((bin ix (un (fun p => Res.ok p.2.2.2.1) (Res.ok ar_data)) (Res.ok x_32)).bind fun (gauge_44 : (Str × Int × (List Int))) => (ifR (bin inR (Res.ok ar_area) (un (fun (p : ((List Int) × Int)) => m__law_line p.1 p.2) (pair (Res.ok parents_8) (un (fun p => Res.ok p.2.1) (Res.ok gauge_44))))) ((bin ix (bin ix (un (fun p => Res.ok p.2.2) (bin ix (un (fun p => Res.ok p.2.2.2.2) (Res.ok ar_data)) (Res.ok ar_run))) (Res.ok x_32)) (Res.ok ar_hour)).bind fun (value_59 : Int) => ((un max2 (pair (Res.ok z_22) (un rLen ((un (fun p => Res.ok p.2.2) (Res.ok gauge_44)).bind (filR (fun (x_66 : Int) => (bin rLe (Res.ok x_66) (Res.ok value_59))) (fun (x_66 : Int) => (Res.ok x_66))))))).bind fun (best_73 : Int) => (Res.ok best_73))) (Res.ok z_22)))) xs best_15).bind fun (z_85 : Int) => ((Res.ok z_85).bind fun a_95 => Res.ok a_95))))
abbrev N__law_reached : List Str := ["data", "run", "area", "hour", "parents", "best", "k", "gauge", "value", "pair", "limit"]
theorem sc__law_reached : FnScope N__law_reached ["data", "run", "area", "hour"] (defScope s__law_reached) := ⟨rfl, rfl, rfl, by decide +kernel, rfl, by decide +kernel, by decide +kernel⟩
theorem bind__law_reached {K : PySem.W.Frag} {mg : Str → Option Value} {T : Tx K mg} : Binds K T.d__law_reached ["data", "run", "area", "hour"] [] := FunD.bindsN T.F__law_reached fun _ _ _ _ _ _ us hl => match us, hl with | [_, _, _, _], _ => rfl
abbrev sp__law_reached (K : PySem.W.Frag) : Sp := spP K (tc (pD (tc pI (tc pI (tc (pL (pT (tc pS (t1 pI)))) (tc (pL (pT (tc pS (tc pI (t1 (pL pI)))))) (t1 (pL (pT (tc pS (tc pI (t1 (pL (pL pI))))))))))))) (tc pI (tc pI (t1 pI)))) (fun (p : ((Int × Int × (List (Str × Int)) × (List (Str × Int × (List Int))) × (List (Str × Int × (List (List Int))))) × Int × Int × Int)) => m__law_reached p.1 p.2.1 p.2.2.1 p.2.2.2) pI
theorem ok__law_reached (T : Tx K mg) : FnOk P w K mg base (L2.CX P w) 2 T.f__law_reached T.d__law_reached ["data", "run", "area", "hour"] (sp__law_reached K) := by
  refine T.F__law_reached.ok sc__law_reached (fun vs H Q E h => ?_) (fun cdv A outer s H vs Q E hr h => ?_)
  · obtain ⟨I, C, a, _, hr, _⟩ := h
    exact Rt.len _ hr
  · obtain ⟨I0, C0, ⟨ar_data, ar_run, ar_area, ar_hour⟩, hs, ⟨v_data, us0, rfl, r_data, v_run, us1, rfl, r_run, v_area, us2, rfl, r_area, v_hour, rfl, r_hour⟩, hm⟩ := h
    have hm : Post (m__law_reached ar_data ar_run ar_area ar_hour) (PQ pI I0 C0 Q) (PX E K I0 C0) := hm
    replace r_data : Rp.r (pD (tc pI (tc pI (tc (pL (pT (tc pS (t1 pI)))) (tc (pL (pT (tc pS (tc pI (t1 (pL pI)))))) (t1 (pL (pT (tc pS (tc pI (t1 (pL (pL pI))))))))))))) ar_data v_data I0 Z := Im.im r_data
    replace r_run : Rp.r pI ar_run v_run I0 Z := Im.im r_run
    replace r_area : Rp.r pI ar_area v_area I0 Z := Im.im r_area
    replace r_hour : Rp.r pI ar_hour v_hour I0 Z := Im.im r_hour
    unfold m__law_reached at hm
    refine ⟨_, (pss_cons (ps_setLc (i := 4) (own := [("pair", 9)]) rfl sc__law_reached.nd rfl rfl (sw_true rfl rfl rfl (by decide +kernel)) (show PI _ _ _ (iList K _) from pi_list (pe_ix (r := rIxL K) ix_list (pv 0) pe_int (fun _ _ => rfl))) (blkOk_by (own := [("pair", 9)]) (N := N__law_reached) (sc := defScope s__law_reached) (by decide +kernel)) (fun _ _ _ _ _ => (pg_name (i := 9) sc__law_reached.nd rfl (Or.inl rfl))) (fun _ _ _ _ _ => pts_nil) (fun _ _ _ _ _ => (pe_ix (r := rIxT K) ix_tup (pv 9) pe_int (fun _ _ => rfl)))) (pss_cons (ps_set (i := 5) sc__law_reached.nd rfl (Or.inl rfl) pe_int) (pss_cons (ps_for (passes_of rfl) rfl (pi_range1 (by rfl) T.gb_range (pa_cons (pe_callB (r := rLen1 K) call_len_seq (by rfl) T.gb_len bt_len (pa_cons (pe_ix (r := rIxL K) ix_list (pv 0) pe_int (fun _ _ => rfl)) pa_nil)) pa_nil)) (pg_name (i := 6) sc__law_reached.nd rfl (Or.inl rfl)) (pss_cons (ps_set (i := 7) sc__law_reached.nd rfl (Or.inl rfl) (pe_ix (r := rIxL K) ix_list (pe_ix (r := rIxL K) ix_list (pv 0) pe_int (fun _ _ => rfl)) (pv 6) (fun _ _ => rfl))) (pss_cons (ps_if (pt_cmpR (r := rIn K false) op_in_seq (pv 2) (pe_call (ok__law_line T) (hr.mono (by decide)) rfl T.g__law_line T.F__law_line.kp bind__law_line .nil passE (pa_cons (pv 4) (pa_cons (pe_ix (r := rIxT K) ix_tup (pv 7) pe_int (fun _ _ => rfl)) pa_nil))) rfl) (pss_cons (ps_set (i := 8) sc__law_reached.nd rfl (Or.inr rfl) (pe_ix (r := rIxL K) ix_list (pe_ix (r := rIxL K) ix_list (pe_ix (r := rIxT K) ix_tup (pe_ix (r := rIxL K) ix_list (pe_ix (r := rIxL K) ix_list (pv 0) pe_int (fun _ _ => rfl)) (pv 1) (fun _ _ => rfl)) pe_int (fun _ _ => rfl)) (pv 6) (fun _ _ => rfl)) (pv 3) (fun _ _ => rfl))) (pss_cons (ps_set (i := 5) sc__law_reached.nd rfl (Or.inl rfl) (pe_callB (call_max2 rfl) (by rfl) T.gb_max bt_max (pa_cons (pv 5) (pa_cons (pe_callB (r := rLen1 K) call_len_seq (by rfl) T.gb_len bt_len (pa_cons (pe_lc (own := [("limit", 10)]) rfl sc__law_reached.nd (show PI _ _ _ (iList K _) from pi_list (pe_ix (r := rIxT K) ix_tup (pv 7) pe_int (fun _ _ => rfl))) (blkOk_by (own := [("limit", 10)]) (N := N__law_reached) (sc := defScope s__law_reached) (by decide +kernel)) (fun _ _ _ _ _ => (pg_name (i := 10) sc__law_reached.nd rfl (Or.inl rfl))) (fun _ _ _ _ _ => (pts_one (pt_cmpR op_le (pv 10) (pv 8) (nomark _)))) (fun _ _ _ _ _ => (pv 10))) pa_nil)) pa_nil)))) pss_nil)) pss_nil) pss_nil))) (pss_cons (ps_ret (pv 5)) pss_nil)))), ?_⟩
    refine q_asg (E := E) (K := K) (σ := [some v_data, some v_run, some v_area, some v_hour, none, none, none, none, none, none, none]) (i := 4) (x_lc (i_list (x_k (k := ((2 : Nat) : Int)) (o_pjD (pjs (pjs pj0))) (x_var (i := 0) rfl (Rp.mono _ (Ex.refl _) exz r_data)))) g1 (fun _ _ _ _ ⟨_, h, _⟩ => by rw [h]; rfl) (fun x_1 σ2 I_2 C_3 e_4 c_5 ⟨v_6, h, r_7⟩ => by subst h; exact (x_k (k := ((1 : Nat) : Int)) (o_pj (pjs pj1)) (x_var (i := 9) rfl (Rp.mono _ (Ex.refl _) exz r_7)))) (fun _ _ _ _ _ e ⟨v_6, h, r_7⟩ => ⟨v_6, h, Rp.mono _ e exz r_7⟩)) hs (fun _ _ h => PX.mono (Ex.refl _) (Ex.refl _) h) hm fun parents_8 v_9 I_10 H_11 e_12 s_13 r_14 hm => ?_
    refine q_asg (E := E) (K := K) (σ := [some v_data, some v_run, some v_area, some v_hour, some v_9, none, none, none, none, none, none]) (i := 5) (x_int (i := 0)) s_13 (fun _ _ h => PX.mono e_12 (Ex.refl _) h) hm fun best_15 v_16 I_17 H_18 e_19 s_20 r_21 hm => ?_
    refine s_forN (E := E) (K := K) (σ := [some v_data, some v_run, some v_area, some v_hour, some v_9, some v_16, none, none, none, none, none]) (fun (z_22 : Int) σ2 I_27 C_28 => ∃ w_24 : Option V, ∃ w_25 : Option V, ∃ w_26 : Option V, ∃ v_29 : V, σ2 = [some v_data, some v_run, some v_area, some v_hour, some v_9, some v_29, w_24, w_25, w_26, none, none] ∧ Rp.r pI z_22 v_29 I_27 Z ∧ Ex C0 C_28) (i_rng1 (a_one (x_cb o_len (a_one (x_v (x_k (k := ((3 : Nat) : Int)) (o_pjD (pjs (pjs (pjs pj0)))) (x_var (i := 0) rfl (Rp.mono _ (e_12.trans e_19) exz r_data)))))))) s_20 (fun _ _ h => PX.mono (e_12.trans e_19) (Ex.refl _) h) hm (fun _ e_40 => ⟨none, none, none, v_16, rfl, Rp.mono _ (Ex.trans (Ex.refl _) e_40) exz r_21, (Ex.refl _)⟩) (fun _ _ _ _ _ => trivial) (fun _ _ _ _ _ e ⟨w_24, w_25, w_26, v_29, hs_23, r_30, fr_31⟩ => ⟨w_24, w_25, w_26, v_29, hs_23, Rp.mono _ e exz r_30, fr_31⟩) (fun N x_32 v_33 z_22 σ2 I_34 C_35 H_36 e_37 s_38 ⟨w_24, w_25, w_26, v_29, hs_23, r_30, fr_31⟩ r_39 hm => ?_) (fun z_85 σ2 I_80 C_81 H_82 e_83 s_84 ⟨w_87, w_88, w_89, v_92, hs_86, r_93, fr_94⟩ hm => ?_)
    · subst hs_23
      refine g1 (K := K) x_32 v_33 I_34 C_35 H_36 _ s_38 r_39 fun σ2 ⟨v_41, hs_43, r_42⟩ => ?_
      subst hs_43
      refine q_asg (E := E) (K := K) (σ := [some v_data, some v_run, some v_area, some v_hour, some v_9, some v_29, some v_41, w_25, w_26, none, none]) (i := 7) (x_op o_ix (x_v (x_k (k := ((3 : Nat) : Int)) (o_pjD (pjs (pjs (pjs pj0)))) (x_var (i := 0) rfl (Rp.mono _ (e_12.trans (e_19.trans e_37)) exz r_data)))) (x_var (i := 6) rfl (Rp.mono _ (Ex.refl _) exz r_42))) s_38 (fun _ _ h => PX.mono (e_12.trans (e_19.trans e_37)) fr_31 h) hm fun gauge_44 v_45 I_46 H_47 e_48 s_49 r_50 hm => ?_
      refine s_if (E := E) (K := K) (σ := [some v_data, some v_run, some v_area, some v_hour, some v_9, some v_29, some v_41, some v_45, w_26, none, none]) (t_test (x_op (o_in fl_int) (x_var (i := 2) rfl (Rp.mono _ (e_12.trans (e_19.trans (e_37.trans e_48))) exz r_area)) (x_v (x_own (n_call (a_cons (x_var (i := 4) rfl (Rp.mono _ (e_19.trans (e_37.trans e_48)) exz r_14)) (a_one (x_k (k := ((1 : Nat) : Int)) (o_pj (pjs pj0)) (x_var (i := 7) rfl (Rp.mono _ (Ex.refl _) exz r_50)))))))))) s_49 (fun _ _ h => PX.mono (e_12.trans (e_19.trans (e_37.trans e_48))) fr_31 h) hm (fun I_51 H_52 e_53 s_54 hm => ?_) (fun I_55 H_56 e_57 s_58 hm => ?_)
      · refine q_asg (E := E) (K := K) (σ := [some v_data, some v_run, some v_area, some v_hour, some v_9, some v_29, some v_41, some v_45, w_26, none, none]) (i := 8) (x_op o_ix (x_v (x_op o_ix (x_v (x_k (k := ((2 : Nat) : Int)) (o_pj (pjs (pjs pj1))) (x_op o_ix (x_v (x_k (k := ((4 : Nat) : Int)) (o_pjD (pjs (pjs (pjs (pjs pj1))))) (x_var (i := 0) rfl (Rp.mono _ (e_12.trans (e_19.trans (e_37.trans (e_48.trans e_53)))) exz r_data)))) (x_var (i := 1) rfl (Rp.mono _ (e_12.trans (e_19.trans (e_37.trans (e_48.trans e_53)))) exz r_run))))) (x_var (i := 6) rfl (Rp.mono _ (e_48.trans e_53) exz r_42)))) (x_var (i := 3) rfl (Rp.mono _ (e_12.trans (e_19.trans (e_37.trans (e_48.trans e_53)))) exz r_hour))) s_54 (fun _ _ h => PX.mono (e_12.trans (e_19.trans (e_37.trans (e_48.trans e_53)))) fr_31 h) hm fun value_59 v_60 I_61 H_62 e_63 s_64 r_65 hm => ?_
        refine q_asg (E := E) (K := K) (σ := [some v_data, some v_run, some v_area, some v_hour, some v_9, some v_29, some v_41, some v_45, some v_60, none, none]) (i := 5) (x_cb o_max2 (a_cons (x_var (i := 5) rfl (Rp.mono _ (e_48.trans (e_53.trans e_63)) exz r_30)) (a_one (x_cb o_len (a_one (x_v (x_lcg (i_list (x_k (k := ((2 : Nat) : Int)) (o_pj (pjs (pjs pj1))) (x_var (i := 7) rfl (Rp.mono _ (e_53.trans e_63) exz r_50)))) g1 (fun _ _ _ _ ⟨_, h, _⟩ => by rw [h]; rfl) (fun x_66 σ2 I_67 C_68 e_69 c_70 ⟨v_71, h, r_72⟩ => by subst h; exact (t_test (x_op o_le (x_var (i := 10) rfl (Rp.mono _ (Ex.refl _) exz r_72)) (x_var (i := 8) rfl (Rp.mono _ e_69 exz r_65))))) (fun x_66 σ2 I_67 C_68 e_69 c_70 ⟨v_71, h, r_72⟩ => by subst h; exact (x_var (i := 10) rfl (Rp.mono _ (Ex.refl _) exz r_72))) (fun _ _ _ _ _ e ⟨v_71, h, r_72⟩ => ⟨v_71, h, Rp.mono _ e exz r_72⟩)))))))) s_64 (fun _ _ h => PX.mono (e_12.trans (e_19.trans (e_37.trans (e_48.trans (e_53.trans e_63))))) fr_31 h) hm fun best_73 v_74 I_75 H_76 e_77 s_78 r_79 hm => ?_
        exact hm _ _ _ _ (e_48.trans (e_53.trans (e_63.trans e_77))) s_78 ⟨some v_41, some v_45, some v_60, v_74, rfl, Rp.mono _ (Ex.refl _) exz r_79, fr_31⟩
      · exact hm _ _ _ _ (e_48.trans e_57) s_58 ⟨some v_41, some v_45, w_26, v_29, rfl, Rp.mono _ (e_48.trans e_57) exz r_30, fr_31⟩
    subst hs_86
    refine q_ret (tz := tNext) (E := E) (K := K) (σ := [some v_data, some v_run, some v_area, some v_hour, some v_9, some v_92, w_87, w_88, w_89, none, none]) (x_var (i := 5) rfl (Rp.mono _ (Ex.refl _) exz r_93)) s_84 (fun _ _ h => PX.mono (e_12.trans (e_19.trans e_83)) fr_94 h) hm fun a_95 v_96 I_97 H_98 e_99 s_100 r_101 hm => ?_
    exact hm v_96 I_97 H_98 (e_12.trans (e_19.trans (e_83.trans e_99))) (St.less s_100 fr_94) (Im.im r_101)
def m__law_is_int (ar_value : Int) : Res Bool :=
  ((andR (un (fun _ => Res.ok true) (pair (Res.ok ar_value) (Res.ok ()))) (un notR (un (fun _ => Res.ok false) (pair (Res.ok ar_value) (Res.ok ()))))).bind fun a_1 => Res.ok a_1)
abbrev N__law_is_int : List Str := ["value"]
theorem sc__law_is_int : FnScope N__law_is_int ["value"] (defScope s__law_is_int) := ⟨rfl, rfl, rfl, by decide +kernel, rfl, by decide +kernel, by decide +kernel⟩
theorem bind__law_is_int {K : PySem.W.Frag} {mg : Str → Option Value} {T : Tx K mg} : Binds K T.d__law_is_int ["value"] [] := FunD.bindsN T.F__law_is_int fun _ _ _ _ _ _ us hl => match us, hl with | [_], _ => rfl
abbrev sp__law_is_int (K : PySem.W.Frag) : Sp := spP K (t1 pI) m__law_is_int pB
theorem ok__law_is_int (T : Tx K mg) : FnOk P w K mg base (L2.CX P w) 1 T.f__law_is_int T.d__law_is_int ["value"] (sp__law_is_int K) := by
  refine T.F__law_is_int.ok sc__law_is_int (fun vs H Q E h => ?_) (fun cdv A outer s H vs Q E hr h => ?_)
  · obtain ⟨I, C, a, _, hr, _⟩ := h
    exact Rt.len _ hr
  · obtain ⟨I0, C0, ar_value, hs, ⟨v_value, rfl, r_value⟩, hm⟩ := h
    have hm : Post (m__law_is_int ar_value) (PQ pB I0 C0 Q) (PX E K I0 C0) := hm
    replace r_value : Rp.r pI ar_value v_value I0 Z := Im.im r_value
    unfold m__law_is_int at hm
    refine ⟨_, (pss_cons (ps_ret (pe_and (pe_callB (r := rIsi K) call_isi (by rfl) T.gb_isinstance bt_isinstance (pa_cons (pv 0) (pa_cons (pe_bltn (v := .ty "int") rfl T.gb_int bt_int rfl) pa_nil))) (pe_one (pe_not (pe_callB (r := rIsi K) call_isi (by rfl) T.gb_isinstance bt_isinstance (pa_cons (pv 0) (pa_cons (pe_bltn (v := .ty "bool") rfl T.gb_bool bt_bool rfl) pa_nil))))))) pss_nil), ?_⟩
    refine q_ret (tz := tNext) (E := E) (K := K) (σ := [some v_value]) (x_andV (x_cb (o_isi (n := "int") (by decide +kernel)) (a_cons (x_var (i := 0) rfl (Rp.mono _ (Ex.refl _) exz r_value)) (a_one (x_c (R := pY "int") (a := ()) fun _ _ => rfl)))) (x_notV (x_cb (o_isi (n := "int") (by decide +kernel)) (a_cons (x_var (i := 0) rfl (Rp.mono _ (Ex.refl _) exz r_value)) (a_one (x_c (R := pY "bool") (a := ()) fun _ _ => rfl)))))) hs (fun _ _ h => PX.mono (Ex.refl _) (Ex.refl _) h) hm fun a_1 v_2 I_3 H_4 e_5 s_6 r_7 hm => ?_
    exact hm v_2 I_3 H_4 e_5 (St.less s_6 (Ex.refl _)) (Im.im r_7)
theorem okJ__law_is_int (T : Tx K mg) : L2H.FnJ P w K mg base (L2.CX P w) 1 T.f__law_is_int T.d__law_is_int ["value"] (sp__law_is_int K) := by
  refine T.F__law_is_int.okJ sc__law_is_int (fun vs H Q E h => ?_) (fun cdv A outer s H vs Q E hp hr h => ?_)
  · obtain ⟨I, C, a, _, hr, _⟩ := h
    exact Rt.len _ hr
  · obtain ⟨I0, C0, ar_value, hs, ⟨v_value, rfl, r_value⟩, hm⟩ := h
    have hm : Post (m__law_is_int ar_value) (PQ pB I0 C0 Q) (PX E K I0 C0) := hm
    replace r_value : Rp.r pI ar_value v_value I0 Z := Im.im r_value
    unfold m__law_is_int at hm
    refine ⟨_, (pss_cons (ps_ret (pe_and (pe_callB (r := rIsi K) call_isi (by rfl) T.gb_isinstance bt_isinstance (pa_cons (pv 0) (pa_cons (pe_bltn (v := .ty "int") rfl T.gb_int bt_int rfl) pa_nil))) (pe_one (pe_not (pe_callB (r := rIsi K) call_isi (by rfl) T.gb_isinstance bt_isinstance (pa_cons (pv 0) (pa_cons (pe_bltn (v := .ty "bool") rfl T.gb_bool bt_bool rfl) pa_nil))))))) pss_nil), ?_⟩
    refine q_ret (tz := tNext) (E := E) (K := K) (σ := [some v_value]) (x_andV (x_cb (o_isi (n := "int") (by decide +kernel)) (a_cons (x_var (i := 0) rfl (Rp.mono _ (Ex.refl _) exz r_value)) (a_one (x_c (R := pY "int") (a := ()) fun _ _ => rfl)))) (x_notV (x_cb (o_isi (n := "int") (by decide +kernel)) (a_cons (x_var (i := 0) rfl (Rp.mono _ (Ex.refl _) exz r_value)) (a_one (x_c (R := pY "bool") (a := ()) fun _ _ => rfl)))))) hs (fun _ _ h => PX.mono (Ex.refl _) (Ex.refl _) h) hm fun a_1 v_2 I_3 H_4 e_5 s_6 r_7 hm => ?_
    exact hm v_2 I_3 H_4 e_5 (St.less s_6 (Ex.refl _)) (Im.im r_7)
def m__law_same_tuples (ar_told : (List (List Int))) (ar_due : (List (List Int))) : Res Bool :=
  (ifR (orR (un notR (un (fun _ => Res.ok true) (pair (Res.ok ar_told) (Res.ok ())))) (bin neR (un rLen (Res.ok ar_told)) (un rLen (Res.ok ar_due)))) ((Res.ok false).bind fun a_9 => Res.ok a_9) (((un rng1 (un rLen (Res.ok ar_due))).bind fun xs => loopR (fun (x_23 : Int) (z_16 : Unit) => (ifR (orR (un notR (un (fun _ => Res.ok true) (pair (bin ix (Res.ok ar_told) (Res.ok x_23)) (Res.ok ())))) (bin neR (un rLen (bin ix (Res.ok ar_told) (Res.ok x_23))) (un rLen (bin ix (Res.ok ar_due) (Res.ok x_23))))) ((Res.ok false).bind fun a_43 => Res.ok (Out.rt a_43)) (((bin ix (Res.ok ar_told) (Res.ok x_23)).bind fun xs => loopR (fun (x_56 : Int) (z_50 : Unit) => (ifR (un notR (un m__law_is_int (Res.ok x_56))) ((Res.ok false).bind fun a_76 => Res.ok (Out.rt a_76)) (Res.ok (Out.nx ())))) xs ()).bind fun (o : Out Unit Bool) => match o with | .nx z_88 => (Res.ok (Out.nx ())) | .br _ => Res.bad | .rt r => Res.ok (Out.rt r)))) xs ()).bind fun (o : Out Unit Bool) => match o with | .nx z_99 => ((bin eqR (Res.ok ar_told) (Res.ok ar_due)).bind fun a_106 => Res.ok a_106) | .br _ => Res.bad | .rt r => Res.ok r))
abbrev N__law_same_tuples : List Str := ["told", "due", "k", "number"]
theorem sc__law_same_tuples : FnScope N__law_same_tuples ["told", "due"] (defScope s__law_same_tuples) := ⟨rfl, rfl, rfl, by decide +kernel, rfl, by decide +kernel, by decide +kernel⟩
theorem bind__law_same_tuples {K : PySem.W.Frag} {mg : Str → Option Value} {T : Tx K mg} : Binds K T.d__law_same_tuples ["told", "due"] [] := FunD.bindsN T.F__law_same_tuples fun _ _ _ _ _ _ us hl => match us, hl with | [_, _], _ => rfl
abbrev sp__law_same_tuples (K : PySem.W.Frag) : Sp := spP K (tc (pL (pQ K pI)) (t1 (pL (pQ K pI)))) (fun (p : ((List (List Int)) × (List (List Int)))) => m__law_same_tuples p.1 p.2) pB
theorem ok__law_same_tuples (T : Tx K mg) : FnOk P w K mg base (L2.CX P w) 2 T.f__law_same_tuples T.d__law_same_tuples ["told", "due"] (sp__law_same_tuples K) := by
  refine T.F__law_same_tuples.ok sc__law_same_tuples (fun vs H Q E h => ?_) (fun cdv A outer s H vs Q E hr h => ?_)
  · obtain ⟨I, C, a, _, hr, _⟩ := h
    exact Rt.len _ hr
  · obtain ⟨I0, C0, ⟨ar_told, ar_due⟩, hs, ⟨v_told, us0, rfl, r_told, v_due, rfl, r_due⟩, hm⟩ := h
    have hm : Post (m__law_same_tuples ar_told ar_due) (PQ pB I0 C0 Q) (PX E K I0 C0) := hm
    replace r_told : Rp.r (pL (pQ K pI)) ar_told v_told I0 Z := Im.im r_told
    replace r_due : Rp.r (pL (pQ K pI)) ar_due v_due I0 Z := Im.im r_due
    unfold m__law_same_tuples at hm
    refine ⟨_, (pss_cons (ps_if (PW.pt (pw_or (pt_not (pt_val (pe_callB (r := rIsi K) call_isi (by rfl) T.gb_isinstance bt_isinstance (pa_cons (pv 0) (pa_cons (pe_bltn (v := .ty "list") rfl T.gb_list bt_list rfl) pa_nil))))) (pw_or1 (pt_cmpR op_ne (pe_callB (r := rLen1 K) call_len_seq (by rfl) T.gb_len bt_len (pa_cons (pv 0) pa_nil)) (pe_callB (r := rLen1 K) call_len_seq (by rfl) T.gb_len bt_len (pa_cons (pv 1) pa_nil)) (nomark _))))) (pss_cons (ps_ret pe_bl) pss_nil) pss_nil) (pss_cons (ps_for (passes_of rfl) rfl (pi_range1 (by rfl) T.gb_range (pa_cons (pe_callB (r := rLen1 K) call_len_seq (by rfl) T.gb_len bt_len (pa_cons (pv 1) pa_nil)) pa_nil)) (pg_name (i := 2) sc__law_same_tuples.nd rfl (Or.inl rfl)) (pss_cons (ps_if (PW.pt (pw_or (pt_not (pt_val (pe_callB (r := rIsi K) call_isi (by rfl) T.gb_isinstance bt_isinstance (pa_cons (pe_ix (r := rIxL K) ix_list (pv 0) (pv 2) (fun _ _ => rfl)) (pa_cons (pe_bltn (v := .ty "tuple") rfl T.gb_tuple bt_tuple rfl) pa_nil))))) (pw_or1 (pt_cmpR op_ne (pe_callB (r := rLen1 K) call_len_seq (by rfl) T.gb_len bt_len (pa_cons (pe_ix (r := rIxL K) ix_list (pv 0) (pv 2) (fun _ _ => rfl)) pa_nil)) (pe_callB (r := rLen1 K) call_len_seq (by rfl) T.gb_len bt_len (pa_cons (pe_ix (r := rIxL K) ix_list (pv 1) (pv 2) (fun _ _ => rfl)) pa_nil)) (nomark _))))) (pss_cons (ps_ret pe_bl) pss_nil) pss_nil) (pss_cons (ps_for (passes_of rfl) rfl (show PI _ _ _ (iTup K _) from pi_tup (pe_ix (r := rIxL K) ix_list (pv 0) (pv 2) (fun _ _ => rfl))) (pg_name (i := 3) sc__law_same_tuples.nd rfl (Or.inl rfl)) (pss_cons (ps_if (pt_not (pt_val (pe_call (ok__law_is_int T) (hr.mono (by decide)) rfl T.g__law_is_int T.F__law_is_int.kp bind__law_is_int .nil passE (pa_cons (pv 3) pa_nil)))) (pss_cons (ps_ret pe_bl) pss_nil) pss_nil) pss_nil)) pss_nil))) (pss_cons (ps_ret (pe_cmpR (r := rEqD K) (op_eqD hr.units) (pv 0) (pv 1) (nomark _))) pss_nil))), ?_⟩
    refine s_if (E := E) (K := K) (σ := [some v_told, some v_due, none, none]) (t_or (t_not (t_B (x_cb (o_isi (n := "list") (by decide +kernel)) (a_cons (x_var (i := 0) rfl (Rp.mono _ (Ex.refl _) exz r_told)) (a_one (x_c (R := pY "list") (a := ()) fun _ _ => rfl)))))) (t_test (x_op o_neI (x_cb o_len (a_one (x_v (x_var (i := 0) rfl (Rp.mono _ (Ex.refl _) exz r_told))))) (x_cb o_len (a_one (x_v (x_var (i := 1) rfl (Rp.mono _ (Ex.refl _) exz r_due)))))))) hs (fun _ _ h => PX.mono (Ex.refl _) (Ex.refl _) h) hm (fun I_1 H_2 e_3 s_4 hm => ?_) (fun I_5 H_6 e_7 s_8 hm => ?_)
    · refine q_ret (tz := tNext) (E := E) (K := K) (σ := [some v_told, some v_due, none, none]) x_bl s_4 (fun _ _ h => PX.mono e_3 (Ex.refl _) h) hm fun a_9 v_10 I_11 H_12 e_13 s_14 r_15 hm => ?_
      exact hm v_10 I_11 H_12 (e_3.trans e_13) (St.less s_14 (Ex.refl _)) (Im.im r_15)
    · refine s_forR (E := E) (K := K) (σ := [some v_told, some v_due, none, none]) (fun (z_16 : Unit) σ2 I_20 C_21 => ∃ w_18 : Option V, ∃ w_19 : Option V, σ2 = [some v_told, some v_due, w_18, w_19] ∧ Ex C0 C_21) (i_rng1 (a_one (x_cb o_len (a_one (x_v (x_var (i := 1) rfl (Rp.mono _ e_7 exz r_due))))))) s_8 (fun _ _ h => PX.mono e_7 (Ex.refl _) h) hm (fun _ e_31 => ⟨none, none, rfl, (Ex.refl _)⟩) (fun _ _ _ _ _ => trivial) (fun _ _ _ _ _ e ⟨w_18, w_19, hs_17, fr_22⟩ => ⟨w_18, w_19, hs_17, fr_22⟩) (fun N x_23 v_24 z_16 σ2 I_25 C_26 H_27 e_28 s_29 ⟨w_18, w_19, hs_17, fr_22⟩ r_30 hm => ?_) (fun z_99 σ2 I_94 C_95 H_96 e_97 s_98 ⟨w_101, w_102, hs_100, fr_105⟩ hm => ?_)
      · subst hs_17
        refine g1 (K := K) x_23 v_24 I_25 C_26 H_27 _ s_29 r_30 fun σ2 ⟨v_32, hs_34, r_33⟩ => ?_
        subst hs_34
        refine s_if (E := E) (K := K) (σ := [some v_told, some v_due, some v_32, w_19]) (t_or (t_not (t_B (x_cb (o_isi (n := "tuple") (by decide +kernel)) (a_cons (x_op o_ix (x_v (x_var (i := 0) rfl (Rp.mono _ (e_7.trans e_28) exz r_told))) (x_var (i := 2) rfl (Rp.mono _ (Ex.refl _) exz r_33))) (a_one (x_c (R := pY "tuple") (a := ()) fun _ _ => rfl)))))) (t_test (x_op o_neI (x_cb o_lenQ (a_one (x_op o_ix (x_v (x_var (i := 0) rfl (Rp.mono _ (e_7.trans e_28) exz r_told))) (x_var (i := 2) rfl (Rp.mono _ (Ex.refl _) exz r_33))))) (x_cb o_lenQ (a_one (x_op o_ix (x_v (x_var (i := 1) rfl (Rp.mono _ (e_7.trans e_28) exz r_due))) (x_var (i := 2) rfl (Rp.mono _ (Ex.refl _) exz r_33)))))))) s_29 (fun _ _ h => PX.mono (e_7.trans e_28) fr_22 h) hm (fun I_35 H_36 e_37 s_38 hm => ?_) (fun I_39 H_40 e_41 s_42 hm => ?_)
        · refine q_ret (tz := tNext) (E := E) (K := K) (σ := [some v_told, some v_due, some v_32, w_19]) x_bl s_38 (fun _ _ h => PX.mono (e_7.trans (e_28.trans e_37)) fr_22 h) hm fun a_43 v_44 I_45 H_46 e_47 s_48 r_49 hm => ?_
          exact hm v_44 I_45 H_46 (e_7.trans (e_28.trans (e_37.trans e_47))) (St.less s_48 fr_22) (Im.im r_49)
        · refine s_forR (E := E) (K := K) (σ := [some v_told, some v_due, some v_32, w_19]) (fun (z_50 : Unit) σ2 I_53 C_54 => ∃ w_52 : Option V, σ2 = [some v_told, some v_due, some v_32, w_52] ∧ Ex C0 C_54) (i_tup (x_op o_ix (x_v (x_var (i := 0) rfl (Rp.mono _ (e_7.trans (e_28.trans e_41)) exz r_told))) (x_var (i := 2) rfl (Rp.mono _ e_41 exz r_33)))) s_42 (fun _ _ h => PX.mono (e_7.trans (e_28.trans e_41)) fr_22 h) hm (fun _ e_64 => ⟨w_19, rfl, fr_22⟩) (fun _ _ _ _ _ => trivial) (fun _ _ _ _ _ e ⟨w_52, hs_51, fr_55⟩ => ⟨w_52, hs_51, fr_55⟩) (fun N x_56 v_57 z_50 σ2 I_58 C_59 H_60 e_61 s_62 ⟨w_52, hs_51, fr_55⟩ r_63 hm => ?_) (fun z_88 σ2 I_83 C_84 H_85 e_86 s_87 ⟨w_90, hs_89, fr_93⟩ hm => ?_)
          · subst hs_51
            refine g1 (K := K) x_56 v_57 I_58 C_59 H_60 _ s_62 r_63 fun σ2 ⟨v_65, hs_67, r_66⟩ => ?_
            subst hs_67
            refine s_if (E := E) (K := K) (σ := [some v_told, some v_due, some v_32, some v_65]) (t_not (t_B (x_call (a_one (x_var (i := 3) rfl (Rp.mono _ (Ex.refl _) exz r_66)))))) s_62 (fun _ _ h => PX.mono (e_7.trans (e_28.trans (e_41.trans e_61))) fr_55 h) hm (fun I_68 H_69 e_70 s_71 hm => ?_) (fun I_72 H_73 e_74 s_75 hm => ?_)
            · refine q_ret (tz := tNext) (E := E) (K := K) (σ := [some v_told, some v_due, some v_32, some v_65]) x_bl s_71 (fun _ _ h => PX.mono (e_7.trans (e_28.trans (e_41.trans (e_61.trans e_70)))) fr_55 h) hm fun a_76 v_77 I_78 H_79 e_80 s_81 r_82 hm => ?_
              exact hm v_77 I_78 H_79 (e_7.trans (e_28.trans (e_41.trans (e_61.trans (e_70.trans e_80))))) (St.less s_81 fr_55) (Im.im r_82)
            · exact hm _ _ _ _ e_74 s_75 ⟨some v_65, rfl, fr_55⟩
          subst hs_89
          exact hm _ _ _ _ (e_41.trans e_86) s_87 ⟨some v_32, w_90, rfl, fr_93⟩
      subst hs_100
      refine q_ret (tz := tNext) (E := E) (K := K) (σ := [some v_told, some v_due, w_101, w_102]) (x_op (o_eqD (de_lst (de_seq de_int)) (de_lst (de_seq de_int)) (by decide)) (x_var (i := 0) rfl (Rp.mono _ (e_7.trans e_97) exz r_told)) (x_var (i := 1) rfl (Rp.mono _ (e_7.trans e_97) exz r_due))) s_98 (fun _ _ h => PX.mono (e_7.trans e_97) fr_105 h) hm fun a_106 v_107 I_108 H_109 e_110 s_111 r_112 hm => ?_
      exact hm v_107 I_108 H_109 (e_7.trans (e_97.trans e_110)) (St.less s_111 fr_105) (Im.im r_112)
def m__law_levels (ar_size : Int) (ar_top : Int) (a_pool : Pl) : Res ((List Int) × Pl) :=
  ((Res.ok ([] : List Int)).bind fun (row_1 : (List Int)) => (((callM m__law_take (liftM (Res.ok (2 : Int)))) a_pool).bind fun (steady_18 : Int × Pl) => (((un rng1 (Res.ok ar_size)).bind fun xs => loopN (fun (x_45 : Int) (z_32 : ((List Int) × Pl)) => (ifMR (andM (liftM (bin eqR (Res.ok steady_18.1) (Res.ok (1 : Int)))) (andM (liftM (bin rGt (Res.ok x_45) (Res.ok (0 : Int)))) (binM rGt (callM m__law_take (liftM (Res.ok (3 : Int)))) (liftM (Res.ok (0 : Int)))))) z_32.2 (fun (y_65 : Pl) => (((bin ix (Res.ok z_32.1) (un rNeg (Res.ok (1 : Int)))).bind fun x => push z_32.1 x).bind fun (row_79 : (List Int)) => (Res.ok (row_79, y_65)))) (fun (y_71 : Pl) => ((((callM m__law_take (liftM (bin rAdd (Res.ok ar_top) (Res.ok (1 : Int))))) y_71).bind fun b => (push z_32.1 b.1).bind fun ys => Res.ok (ys, b.2)).bind fun (row_94 : (List Int) × Pl) => (Res.ok (row_94.1, row_94.2)))))) xs (row_1, steady_18.2)).bind fun (z_114 : ((List Int) × Pl)) => ((Res.ok z_114.1).bind fun a_137 => Res.ok (a_137, z_114.2)))))
abbrev N__law_levels : List Str := ["pool", "size", "top", "row", "steady", "hour"]
theorem sc__law_levels : FnScope N__law_levels ["pool", "size", "top"] (defScope s__law_levels) := ⟨rfl, rfl, rfl, by decide +kernel, rfl, by decide +kernel, by decide +kernel⟩
theorem bind__law_levels {K : PySem.W.Frag} {mg : Str → Option Value} {T : Tx K mg} : Binds K T.d__law_levels ["pool", "size", "top"] [] := FunD.bindsN T.F__law_levels fun _ _ _ _ _ _ us hl => match us, hl with | [_, _, _], _ => rfl
abbrev sp__law_levels (K : PySem.W.Frag) : Sp := spM pM (tc pI (t1 pI)) (fun (p : (Int × Int)) => m__law_levels p.1 p.2) (pL pI)
theorem ok__law_levels (T : Tx K mg) : FnOk P w K mg base (L2.CX P w) 4 T.f__law_levels T.d__law_levels ["pool", "size", "top"] (sp__law_levels K) := by
  refine T.F__law_levels.ok sc__law_levels (fun vs H Q E h => ?_) (fun cdv A outer s H vs Q E hr h => ?_)
  · obtain ⟨I, C, p, ws, us, x, a, rfl, _, _, _, hr, _⟩ := h
    exact congrArg (· + 1) (Rt.len _ hr)
  · obtain ⟨I0, C0, p0, ws0, us, a_pool, ⟨ar_size, ar_top⟩, rfl, hs, hc0, hx1, ⟨v_size, us0, rfl, r_size, v_top, rfl, r_top⟩, hm⟩ := h
    have hx0 := It.im (C' := Z) hx1
    have hm : Post (m__law_levels ar_size ar_top a_pool) (PM p0 pM (pL pI) I0 C0 Q) XF := hm
    replace r_size : Rp.r pI ar_size v_size I0 Z := Im.im r_size
    replace r_top : Rp.r pI ar_top v_top I0 Z := Im.im r_top
    unfold m__law_levels at hm
    refine ⟨_, (pss_cons (ps_set (i := 3) sc__law_levels.nd rfl (Or.inl rfl) (pe_lst pa_nil)) (pss_cons (ps_set (i := 4) sc__law_levels.nd rfl (Or.inl rfl) (pe_call (ok__law_take T) (hr.mono (by decide)) rfl T.g__law_take T.F__law_take.kp bind__law_take .nil passE (pa_cons (pv 0) (pa_cons pe_int pa_nil)))) (pss_cons (ps_for (passes_of rfl) rfl (pi_range1 (by rfl) T.gb_range (pa_cons (pv 1) pa_nil)) (pg_name (i := 5) sc__law_levels.nd rfl (Or.inl rfl)) (pss_cons (ps_if (PW.pt (pw_and (pt_cmpR op_eq (pv 4) pe_int (nomark _)) (pw_and (pt_cmpR op_gt (pv 5) pe_int (nomark _)) (pw_and1 (pt_cmpR op_gt (pe_call (ok__law_take T) (hr.mono (by decide)) rfl T.g__law_take T.F__law_take.kp bind__law_take .nil passE (pa_cons (pv 0) (pa_cons pe_int pa_nil))) pe_int (nomark _)))))) (pss_cons (ps_expr (show PE _ _ (tBM K "list" rAppend _ _) from pe_bm PySem.F.plainAttrs_list PySem.F.slot_list_append PySem.F.type_list_append mt_append (pv 3) (pa_cons (pe_ix (r := rIxL K) ix_list (pv 3) (pe_un un_neg pe_int) (fun _ _ => rfl)) pa_nil))) pss_nil) (pss_cons (ps_expr (show PE _ _ (tBM K "list" rAppend _ _) from pe_bm PySem.F.plainAttrs_list PySem.F.slot_list_append PySem.F.type_list_append mt_append (pv 3) (pa_cons (pe_call (ok__law_take T) (hr.mono (by decide)) rfl T.g__law_take T.F__law_take.kp bind__law_take .nil passE (pa_cons (pv 0) (pa_cons (pe_op op_add (pv 2) pe_int) pa_nil))) pa_nil))) pss_nil)) pss_nil)) (pss_cons (ps_ret (pv 3)) pss_nil)))), ?_⟩
    refine q_asgN (E := E) (K := K) (σ := [some (.ref p0), some v_size, some v_top, none, none, none]) (i := 3) (n_lst (R := pI) al_nil (by decide)) hs (fun _ _ h => h.elim) hm fun row_1 p_2 vs_3 I_4 C_5 H_6 e_7 hp_8 s_9 hc_10 k_11 hl_12 hr_13 hm => ?_
    have ne_14 := ne_new hc0 hp_8
    have hB_15 := Ex.free (off_ex (C := C0) (p := p0)) hp_8
    have hc_16 := (k_11 _ ne_14).trans hc0
    have fr_17 := fr_keep (off_ex (C := C0) (p := p0)) hB_15 k_11
    refine qm_asg (E := E) (K := K) (σ := [some (.ref p0), some v_size, some v_top, some (.ref p_2), none, none]) (i := 4) (m_callM (i := 0) rfl (am_pure (a_one (x_int (i := 2))))) s_9 hc_16 (Rt.mono _ e_7 exz hx0) hm fun steady_18 v_19 ws_25 I_20 C_26 H_21 e_22 s_23 hc_27 k_28 hx_29 r_24 hm => ?_
    have hc_30 := (k_28 _ (Ne.symm ne_14)).trans hc_10
    have fr_31 := fr_pool fr_17 k_28
    refine s_forN (E := E) (K := K) (σ := [some (.ref p0), some v_size, some v_top, some (.ref p_2), some v_19, none]) (fun (z_32 : ((List Int) × Pl)) σ2 I_35 C_36 => ∃ w_34 : Option V, σ2 = [some (.ref p0), some v_size, some v_top, some (.ref p_2), some v_19, w_34] ∧ (∃ vs_37 : List V, C_36 p_2 = some (.lst vs_37) ∧ vs_37.length ≤ sizeLine ∧ A2 (fun x u => Rp.r pI x u I_35 Z) z_32.1 vs_37) ∧ (∃ ws_41 : List V, C_36 p0 = some (.lst ws_41) ∧ Rt.r pM z_32.2 ws_41 I_35 Z) ∧ Ex (off C0 p0) C_36) (i_rng1 (a_one (x_var (i := 1) rfl (Rp.mono _ (e_7.trans e_22) exz r_size)))) s_23 (fun _ _ h => h.elim) hm (fun _ e_53 => ⟨none, rfl, ⟨_, hc_30, hl_12, a2up (Ex.trans e_22 e_53) hr_13⟩, ⟨_, hc_27, Rt.mono _ (Ex.trans (Ex.refl _) e_53) exz hx_29⟩, fr_31⟩) (fun _ _ _ _ _ => trivial) (fun _ _ _ _ _ e ⟨w_34, hs_33, ⟨vs_37, hc_38, hl_39, hr_40⟩, ⟨ws_41, hc_42, hx_43⟩, fr_44⟩ => ⟨w_34, hs_33, ⟨vs_37, hc_38, hl_39, a2up e hr_40⟩, ⟨ws_41, hc_42, Rt.mono _ e exz hx_43⟩, fr_44⟩) (fun N x_45 v_46 z_32 σ2 I_47 C_48 H_49 e_50 s_51 ⟨w_34, hs_33, ⟨vs_37, hc_38, hl_39, hr_40⟩, ⟨ws_41, hc_42, hx_43⟩, fr_44⟩ r_52 hm => ?_) (fun z_114 σ2 I_109 C_110 H_111 e_112 s_113 ⟨w_116, hs_115, ⟨vs_119, hc_120, hl_121, hr_122⟩, ⟨ws_123, hc_124, hx_125⟩, fr_126⟩ hm => ?_)
    · subst hs_33
      refine g1 (K := K) x_45 v_46 I_47 C_48 H_49 _ s_51 r_52 fun σ2 ⟨v_54, hs_56, r_55⟩ => ?_
      subst hs_56
      refine qm_if (E := E) (K := K) (σ := [some (.ref p0), some v_size, some v_top, some (.ref p_2), some v_19, some v_54]) (tm_and off_same (tm_pure (t_test (x_op o_eqI (x_var (i := 4) rfl (Rp.mono _ e_50 exz r_24)) (x_int (i := 1))))) (tm_and off_same (tm_pure (t_test (x_op o_gt (x_var (i := 5) rfl (Rp.mono _ (Ex.refl _) exz r_55)) (x_int (i := 0))))) (tm_test (m_op (fun _ => o_gt) off_same (m_callM (i := 0) rfl (am_pure (a_one (x_int (i := 3))))) (m_pure (x_int (i := 0))))))) s_51 hc_42 (Rt.mono _ (Ex.refl _) exz hx_43) hm (fun y_65 ws_66 I_57 C_67 H_58 e_59 s_60 hc_68 k_69 hx_70 hm => ?_) (fun y_71 ws_72 I_61 C_73 H_62 e_63 s_64 hc_74 k_75 hx_76 hm => ?_)
      · have hc_77 := (k_69 _ (Ne.symm ne_14)).trans hc_38
        have fr_78 := fr_pool fr_44 k_69
        refine q_app (E := E) (K := K) (σ := [some (.ref p0), some v_size, some v_top, some (.ref p_2), some v_19, some v_54]) (i := 3) rfl hc_77 (a2up e_59 hr_40) (x_op o_ix (x_cell (i := 3) rfl hc_77 hl_39 (a2up e_59 hr_40)) (x_un o_neg (x_int (i := 1)))) s_60 (fun _ _ h => h.elim) hm fun row_79 vs_80 I_81 C_82 H_83 e_84 s_85 hc_86 k_87 hl_88 hr_89 hm => ?_
        have hc_90 := (k_87 _ ne_14).trans hc_68
        have fr_91 := fr_keep fr_78 hB_15 k_87
        exact hm _ _ _ _ (e_59.trans e_84) s_85 ⟨some v_54, rfl, ⟨_, hc_86, hl_88, a2up (Ex.refl _) hr_89⟩, ⟨_, hc_90, Rt.mono _ e_84 exz hx_70⟩, fr_91⟩
      · have hc_92 := (k_75 _ (Ne.symm ne_14)).trans hc_38
        have fr_93 := fr_pool fr_44 k_75
        refine qm_app (E := E) (K := K) (σ := [some (.ref p0), some v_size, some v_top, some (.ref p_2), some v_19, some v_54]) (i := 3) rfl hc_92 (Ne.symm ne_14) (a2up e_63 hr_40) (m_callM (i := 0) rfl (am_pure (a_one (x_op o_add (x_var (i := 2) rfl (Rp.mono _ (e_7.trans (e_22.trans (e_50.trans e_63))) exz r_top)) (x_int (i := 1)))))) s_64 hc_74 (Rt.mono _ (Ex.refl _) exz hx_76) hm fun row_94 vs_95 ws_96 I_97 C_98 H_99 e_100 s_101 hc_102 hc_103 k_104 hl_105 hr_106 hx_107 hm => ?_
        have fr_108 := fr_pool2 fr_93 hB_15 k_104
        exact hm _ _ _ _ (e_63.trans e_100) s_101 ⟨some v_54, rfl, ⟨_, hc_102, hl_105, a2up (Ex.refl _) hr_106⟩, ⟨_, hc_103, Rt.mono _ (Ex.refl _) exz hx_107⟩, fr_108⟩
    subst hs_115
    obtain ⟨I_127, C_128, e_129, s_130, h_131, k_132⟩ := freeze s_113 hc_120
    have r_134 := frz_list e_129 h_131 hl_121 hr_122
    have hc_135 := (k_132 _ ne_14).trans hc_124
    have fr_136 := fr_keep fr_126 hB_15 k_132
    refine q_ret (tz := tNext) (E := E) (K := K) (σ := [some (.ref p0), some v_size, some v_top, some (.ref p_2), some v_19, w_116]) (x_var (i := 3) rfl (Rp.mono _ (Ex.refl _) exz r_134)) s_130 (fun _ _ h => h.elim) hm fun a_137 v_138 I_139 H_140 e_141 s_142 r_143 hm => ?_
    exact ret_pool hm (e_7.trans (e_22.trans (e_112.trans (e_129.trans e_141)))) fr_136 s_142 hc_135 (Rt.mono _ (e_129.trans e_141) exz hx_125) r_143
def m__law_stretches (ar_row : (List Int)) (ar_level : Int) : Res (List (Int × Int)) :=
  ((Res.ok ([] : List (Int × Int))).bind fun (found_1 : (List (Int × Int))) => (((un rng1 (un rLen (Res.ok ar_row))).bind fun xs => loopN (fun (x_28 : Int) (z_16 : (List (Int × Int))) => (ifR (andR (bin rGe (bin ix (Res.ok ar_row) (Res.ok x_28)) (Res.ok ar_level)) (orR (bin eqR (Res.ok x_28) (Res.ok (0 : Int))) (bin rLt (bin ix (Res.ok ar_row) (bin rSub (Res.ok x_28) (Res.ok (1 : Int)))) (Res.ok ar_level)))) ((Res.ok x_28).bind fun (end_48 : Int) => (((un rng2 (pair (Res.ok x_28) (un rLen (Res.ok ar_row)))).bind fun xs => loopN (fun (x_64 : Int) (z_55 : Int) => (ifR (andR (bin eqR (Res.ok z_55) (Res.ok x_64)) (bin rGe (bin ix (Res.ok ar_row) (Res.ok x_64)) (Res.ok ar_level))) ((bin rAdd (Res.ok x_64) (Res.ok (1 : Int))).bind fun (end_84 : Int) => (Res.ok end_84)) (Res.ok z_55))) xs end_48).bind fun (z_96 : Int) => (((pair (Res.ok x_28) (Res.ok z_96)).bind fun x => push z_16 x).bind fun (found_105 : (List (Int × Int))) => (Res.ok found_105)))) (Res.ok z_16))) xs found_1).bind fun (z_122 : (List (Int × Int))) => (Res.ok z_122)))
abbrev N__law_stretches : List Str := ["row", "level", "found", "start", "end", "hour"]
theorem sc__law_stretches : FnScope N__law_stretches ["row", "level"] (defScope s__law_stretches) := ⟨rfl, rfl, rfl, by decide +kernel, rfl, by decide +kernel, by decide +kernel⟩
theorem bind__law_stretches {K : PySem.W.Frag} {mg : Str → Option Value} {T : Tx K mg} : Binds K T.d__law_stretches ["row", "level"] [] := FunD.bindsN T.F__law_stretches fun _ _ _ _ _ _ us hl => match us, hl with | [_, _], _ => rfl
abbrev sp__law_stretches (K : PySem.W.Frag) : Sp := spO K (tc (pV pI) (t1 pI)) (fun (p : ((List Int) × Int)) => m__law_stretches p.1 p.2) (pT (tc pI (t1 pI)))
theorem ok__law_stretches (T : Tx K mg) : FnOk P w K mg base (L2.CX P w) 1 T.f__law_stretches T.d__law_stretches ["row", "level"] (sp__law_stretches K) := by
  refine T.F__law_stretches.ok sc__law_stretches (fun vs H Q E h => ?_) (fun cdv A outer s H vs Q E hr h => ?_)
  · obtain ⟨I, C, a, _, hr, _⟩ := h
    exact Rt.len _ hr
  · obtain ⟨I0, C0, ⟨ar_row, ar_level⟩, hs, ⟨v_row, us0, rfl, r_row, v_level, rfl, r_level⟩, hm⟩ := h
    have hm : Post (m__law_stretches ar_row ar_level) (PN (pT (tc pI (t1 pI))) I0 C0 Q) (PX E K I0 C0) := hm
    replace r_level : Rp.r pI ar_level v_level I0 Z := Im.im r_level
    unfold m__law_stretches at hm
    refine ⟨_, (pss_cons (ps_set (i := 2) sc__law_stretches.nd rfl (Or.inl rfl) (pe_lst pa_nil)) (pss_cons (ps_for (passes_of rfl) rfl (pi_range1 (by rfl) T.gb_range (pa_cons (pe_callB (r := rLen1 K) call_len_seq (by rfl) T.gb_len bt_len (pa_cons (pv 0) pa_nil)) pa_nil)) (pg_name (i := 3) sc__law_stretches.nd rfl (Or.inl rfl)) (pss_cons (ps_if (PW.pt (pw_and (pt_cmpR op_ge (pe_ix (r := rIxL K) ix_list (pv 0) (pv 3) (fun _ _ => rfl)) (pv 1) (nomark _)) (pw_and1 (PW.pt (pw_or (pt_cmpR op_eq (pv 3) pe_int (nomark _)) (pw_or1 (pt_cmpR op_lt (pe_ix (r := rIxL K) ix_list (pv 0) (pe_op op_sub (pv 3) pe_int) (fun _ _ => rfl)) (pv 1) (nomark _)))))))) (pss_cons (ps_set (i := 4) sc__law_stretches.nd rfl (Or.inl rfl) (pv 3)) (pss_cons (ps_for (passes_of rfl) rfl (pi_range2 (by rfl) T.gb_range (pa_cons (pv 3) (pa_cons (pe_callB (r := rLen1 K) call_len_seq (by rfl) T.gb_len bt_len (pa_cons (pv 0) pa_nil)) pa_nil))) (pg_name (i := 5) sc__law_stretches.nd rfl (Or.inl rfl)) (pss_cons (ps_if (PW.pt (pw_and (pt_cmpR op_eq (pv 4) (pv 5) (nomark _)) (pw_and1 (pt_cmpR op_ge (pe_ix (r := rIxL K) ix_list (pv 0) (pv 5) (fun _ _ => rfl)) (pv 1) (nomark _))))) (pss_cons (ps_set (i := 4) sc__law_stretches.nd rfl (Or.inl rfl) (pe_op op_add (pv 5) pe_int)) pss_nil) pss_nil) pss_nil)) (pss_cons (ps_expr (show PE _ _ (tBM K "list" rAppend _ _) from pe_bm PySem.F.plainAttrs_list PySem.F.slot_list_append PySem.F.type_list_append mt_append (pv 2) (pa_cons (pe_tup (pa_cons (pv 3) (pa_cons (pv 4) pa_nil))) pa_nil))) pss_nil))) pss_nil) pss_nil)) (pss_cons (ps_ret (pv 2)) pss_nil))), ?_⟩
    refine q_asgN (E := E) (K := K) (σ := [some v_row, some v_level, none, none, none, none]) (i := 2) (n_lst (R := (pT (tc pI (t1 pI)))) al_nil (by decide)) hs (fun _ _ h => PX.mono (Ex.refl _) (Ex.refl _) h) hm fun found_1 p_2 vs_3 I_4 C_5 H_6 e_7 hp_8 s_9 hc_10 k_11 hl_12 hr_13 hm => ?_
    have hB_14 := Ex.free (Ex.refl _) hp_8
    have fr_15 := fr_keep (Ex.refl _) hB_14 k_11
    refine s_forN (E := E) (K := K) (σ := [some v_row, some v_level, some (.ref p_2), none, none, none]) (fun (z_16 : (List (Int × Int))) σ2 I_21 C_22 => ∃ w_18 : Option V, ∃ w_19 : Option V, ∃ w_20 : Option V, σ2 = [some v_row, some v_level, some (.ref p_2), w_18, w_19, w_20] ∧ (∃ vs_23 : List V, C_22 p_2 = some (.lst vs_23) ∧ vs_23.length ≤ sizeLine ∧ A2 (fun x u => Rp.r (pT (tc pI (t1 pI))) x u I_21 Z) z_16 vs_23) ∧ Ex C0 C_22) (i_rng1 (a_one (x_cb o_len (a_one (x_var (i := 0) rfl (Rp.mono _ e_7 fr_15 r_row)))))) s_9 (fun _ _ h => PX.mono e_7 fr_15 h) hm (fun _ e_36 => ⟨none, none, none, rfl, ⟨_, hc_10, hl_12, a2up (Ex.trans (Ex.refl _) e_36) hr_13⟩, fr_15⟩) (fun _ _ _ _ _ => trivial) (fun _ _ _ _ _ e ⟨w_18, w_19, w_20, hs_17, ⟨vs_23, hc_24, hl_25, hr_26⟩, fr_27⟩ => ⟨w_18, w_19, w_20, hs_17, ⟨vs_23, hc_24, hl_25, a2up e hr_26⟩, fr_27⟩) (fun N x_28 v_29 z_16 σ2 I_30 C_31 H_32 e_33 s_34 ⟨w_18, w_19, w_20, hs_17, ⟨vs_23, hc_24, hl_25, hr_26⟩, fr_27⟩ r_35 hm => ?_) (fun z_122 σ2 I_117 C_118 H_119 e_120 s_121 ⟨w_124, w_125, w_126, hs_123, ⟨vs_129, hc_130, hl_131, hr_132⟩, fr_133⟩ hm => ?_)
    · subst hs_17
      refine g1 (K := K) x_28 v_29 I_30 C_31 H_32 _ s_34 r_35 fun σ2 ⟨v_37, hs_39, r_38⟩ => ?_
      subst hs_39
      refine s_if (E := E) (K := K) (σ := [some v_row, some v_level, some (.ref p_2), some v_37, w_19, w_20]) (t_and (t_test (x_op o_ge (x_op o_ix (x_var (i := 0) rfl (Rp.mono _ (e_7.trans e_33) fr_27 r_row)) (x_var (i := 3) rfl (Rp.mono _ (Ex.refl _) exz r_38))) (x_var (i := 1) rfl (Rp.mono _ (e_7.trans e_33) exz r_level)))) (t_or (t_test (x_op o_eqI (x_var (i := 3) rfl (Rp.mono _ (Ex.refl _) exz r_38)) (x_int (i := 0)))) (t_test (x_op o_lt (x_op o_ix (x_var (i := 0) rfl (Rp.mono _ (e_7.trans e_33) fr_27 r_row)) (x_op o_sub (x_var (i := 3) rfl (Rp.mono _ (Ex.refl _) exz r_38)) (x_int (i := 1)))) (x_var (i := 1) rfl (Rp.mono _ (e_7.trans e_33) exz r_level)))))) s_34 (fun _ _ h => PX.mono (e_7.trans e_33) fr_27 h) hm (fun I_40 H_41 e_42 s_43 hm => ?_) (fun I_44 H_45 e_46 s_47 hm => ?_)
      · refine q_asg (E := E) (K := K) (σ := [some v_row, some v_level, some (.ref p_2), some v_37, w_19, w_20]) (i := 4) (x_var (i := 3) rfl (Rp.mono _ e_42 exz r_38)) s_43 (fun _ _ h => PX.mono (e_7.trans (e_33.trans e_42)) fr_27 h) hm fun end_48 v_49 I_50 H_51 e_52 s_53 r_54 hm => ?_
        refine s_forN (E := E) (K := K) (σ := [some v_row, some v_level, some (.ref p_2), some v_37, some v_49, w_20]) (fun (z_55 : Int) σ2 I_58 C_59 => ∃ w_57 : Option V, ∃ v_60 : V, σ2 = [some v_row, some v_level, some (.ref p_2), some v_37, some v_60, w_57] ∧ Rp.r pI z_55 v_60 I_58 Z ∧ C_59 p_2 = some (.lst vs_23) ∧ Ex C0 C_59) (i_rng2 (a_cons (x_var (i := 3) rfl (Rp.mono _ (e_42.trans e_52) exz r_38)) (a_one (x_cb o_len (a_one (x_var (i := 0) rfl (Rp.mono _ (e_7.trans (e_33.trans (e_42.trans e_52))) fr_27 r_row))))))) s_53 (fun _ _ h => PX.mono (e_7.trans (e_33.trans (e_42.trans e_52))) fr_27 h) hm (fun _ e_72 => ⟨w_20, v_49, rfl, Rp.mono _ (Ex.trans (Ex.refl _) e_72) exz r_54, hc_24, fr_27⟩) (fun _ _ _ _ _ => trivial) (fun _ _ _ _ _ e ⟨w_57, v_60, hs_56, r_61, hc_62, fr_63⟩ => ⟨w_57, v_60, hs_56, Rp.mono _ e exz r_61, hc_62, fr_63⟩) (fun N x_64 v_65 z_55 σ2 I_66 C_67 H_68 e_69 s_70 ⟨w_57, v_60, hs_56, r_61, hc_62, fr_63⟩ r_71 hm => ?_) (fun z_96 σ2 I_91 C_92 H_93 e_94 s_95 ⟨w_98, v_101, hs_97, r_102, hc_103, fr_104⟩ hm => ?_)
        · subst hs_56
          refine g1 (K := K) x_64 v_65 I_66 C_67 H_68 _ s_70 r_71 fun σ2 ⟨v_73, hs_75, r_74⟩ => ?_
          subst hs_75
          refine s_if (E := E) (K := K) (σ := [some v_row, some v_level, some (.ref p_2), some v_37, some v_60, some v_73]) (t_and (t_test (x_op o_eqI (x_var (i := 4) rfl (Rp.mono _ (Ex.refl _) exz r_61)) (x_var (i := 5) rfl (Rp.mono _ (Ex.refl _) exz r_74)))) (t_test (x_op o_ge (x_op o_ix (x_var (i := 0) rfl (Rp.mono _ (e_7.trans (e_33.trans (e_42.trans (e_52.trans e_69)))) fr_63 r_row)) (x_var (i := 5) rfl (Rp.mono _ (Ex.refl _) exz r_74))) (x_var (i := 1) rfl (Rp.mono _ (e_7.trans (e_33.trans (e_42.trans (e_52.trans e_69)))) exz r_level))))) s_70 (fun _ _ h => PX.mono (e_7.trans (e_33.trans (e_42.trans (e_52.trans e_69)))) fr_63 h) hm (fun I_76 H_77 e_78 s_79 hm => ?_) (fun I_80 H_81 e_82 s_83 hm => ?_)
          · refine q_asg (E := E) (K := K) (σ := [some v_row, some v_level, some (.ref p_2), some v_37, some v_60, some v_73]) (i := 4) (x_op o_add (x_var (i := 5) rfl (Rp.mono _ e_78 exz r_74)) (x_int (i := 1))) s_79 (fun _ _ h => PX.mono (e_7.trans (e_33.trans (e_42.trans (e_52.trans (e_69.trans e_78))))) fr_63 h) hm fun end_84 v_85 I_86 H_87 e_88 s_89 r_90 hm => ?_
            exact hm _ _ _ _ (e_78.trans e_88) s_89 ⟨some v_73, v_85, rfl, Rp.mono _ (Ex.refl _) exz r_90, hc_62, fr_63⟩
          · exact hm _ _ _ _ e_82 s_83 ⟨some v_73, v_60, rfl, Rp.mono _ e_82 exz r_61, hc_62, fr_63⟩
        subst hs_97
        refine q_app (E := E) (K := K) (σ := [some v_row, some v_level, some (.ref p_2), some v_37, some v_101, w_98]) (i := 2) rfl hc_103 (a2up (e_42.trans (e_52.trans e_94)) hr_26) (x_tup (a_cons (x_var (i := 3) rfl (Rp.mono _ (e_42.trans (e_52.trans e_94)) exz r_38)) (a_one (x_var (i := 4) rfl (Rp.mono _ (Ex.refl _) exz r_102)))) (Nat.le_of_ble_eq_true rfl)) s_95 (fun _ _ h => PX.mono (e_7.trans (e_33.trans (e_42.trans (e_52.trans e_94)))) fr_104 h) hm fun found_105 vs_106 I_107 C_108 H_109 e_110 s_111 hc_112 k_113 hl_114 hr_115 hm => ?_
        have fr_116 := fr_keep fr_104 hB_14 k_113
        exact hm _ _ _ _ (e_42.trans (e_52.trans (e_94.trans e_110))) s_111 ⟨some v_37, some v_101, w_98, rfl, ⟨_, hc_112, hl_114, a2up (Ex.refl _) hr_115⟩, fr_116⟩
      · exact hm _ _ _ _ e_46 s_47 ⟨some v_37, w_19, w_20, rfl, ⟨_, hc_24, hl_25, a2up e_46 hr_26⟩, fr_27⟩
    subst hs_123
    refine q_retO (i := 2) rfl s_121 fr_133 hB_14 hc_130 hl_131 (a2up (Ex.refl _) hr_132) fun s hr => ?_
    exact hm _ _ _ _ (e_7.trans e_120) hB_14 s hl_131 hr
def m__law_hours (ar_row : (List Int)) (ar_came : (List Int)) (ar_level : Int) : Res (List Int) :=
  ((consR (Res.ok (0 : Int)) (consR (Res.ok (0 : Int)) (consR (Res.ok (0 : Int)) (consR (Res.ok (0 : Int)) (Res.ok []))))).bind fun (counts_1 : (List Int)) => (((un rng1 (un rLen (Res.ok ar_row))).bind fun xs => loopN (fun (x_26 : Int) (z_16 : (List Int)) => (ifR (andR (bin rGe (bin ix (Res.ok ar_row) (Res.ok x_26)) (Res.ok ar_level)) (bin rGe (bin ix (Res.ok ar_came) (Res.ok x_26)) (Res.ok ar_level))) (((bin rAdd (bin ix (Res.ok z_16) (Res.ok (0 : Int))) (Res.ok (1 : Int))).bind fun x => (Res.ok (0 : Int)).bind fun j => setR z_16 j x).bind fun (counts_46 : (List Int)) => (Res.ok counts_46)) (ifR (bin rGe (bin ix (Res.ok ar_row) (Res.ok x_26)) (Res.ok ar_level)) (((bin rAdd (bin ix (Res.ok z_16) (Res.ok (1 : Int))) (Res.ok (1 : Int))).bind fun x => (Res.ok (1 : Int)).bind fun j => setR z_16 j x).bind fun (counts_66 : (List Int)) => (Res.ok counts_66)) (ifR (bin rGe (bin ix (Res.ok ar_came) (Res.ok x_26)) (Res.ok ar_level)) (((bin rAdd (bin ix (Res.ok z_16) (Res.ok (2 : Int))) (Res.ok (1 : Int))).bind fun x => (Res.ok (2 : Int)).bind fun j => setR z_16 j x).bind fun (counts_86 : (List Int)) => (Res.ok counts_86)) (((bin rAdd (bin ix (Res.ok z_16) (Res.ok (3 : Int))) (Res.ok (1 : Int))).bind fun x => (Res.ok (3 : Int)).bind fun j => setR z_16 j x).bind fun (counts_98 : (List Int)) => (Res.ok counts_98)))))) xs counts_1).bind fun (z_115 : (List Int)) => (Res.ok z_115)))
abbrev N__law_hours : List Str := ["row", "came", "level", "counts", "hour"]
theorem sc__law_hours : FnScope N__law_hours ["row", "came", "level"] (defScope s__law_hours) := ⟨rfl, rfl, rfl, by decide +kernel, rfl, by decide +kernel, by decide +kernel⟩
theorem bind__law_hours {K : PySem.W.Frag} {mg : Str → Option Value} {T : Tx K mg} : Binds K T.d__law_hours ["row", "came", "level"] [] := FunD.bindsN T.F__law_hours fun _ _ _ _ _ _ us hl => match us, hl with | [_, _, _], _ => rfl
abbrev sp__law_hours (K : PySem.W.Frag) : Sp := spO K (tc (pL pI) (tc (pL pI) (t1 pI))) (fun (p : ((List Int) × (List Int) × Int)) => m__law_hours p.1 p.2.1 p.2.2) pI
theorem ok__law_hours (T : Tx K mg) : FnOk P w K mg base (L2.CX P w) 1 T.f__law_hours T.d__law_hours ["row", "came", "level"] (sp__law_hours K) := by
  refine T.F__law_hours.ok sc__law_hours (fun vs H Q E h => ?_) (fun cdv A outer s H vs Q E hr h => ?_)
  · obtain ⟨I, C, a, _, hr, _⟩ := h
    exact Rt.len _ hr
  · obtain ⟨I0, C0, ⟨ar_row, ar_came, ar_level⟩, hs, ⟨v_row, us0, rfl, r_row, v_came, us1, rfl, r_came, v_level, rfl, r_level⟩, hm⟩ := h
    have hm : Post (m__law_hours ar_row ar_came ar_level) (PN pI I0 C0 Q) (PX E K I0 C0) := hm
    replace r_row : Rp.r (pL pI) ar_row v_row I0 Z := Im.im r_row
    replace r_came : Rp.r (pL pI) ar_came v_came I0 Z := Im.im r_came
    replace r_level : Rp.r pI ar_level v_level I0 Z := Im.im r_level
    unfold m__law_hours at hm
    refine ⟨_, (pss_cons (ps_set (i := 3) sc__law_hours.nd rfl (Or.inl rfl) (pe_lst (pa_cons pe_int (pa_cons pe_int (pa_cons pe_int (pa_cons pe_int pa_nil)))))) (pss_cons (ps_for (passes_of rfl) rfl (pi_range1 (by rfl) T.gb_range (pa_cons (pe_callB (r := rLen1 K) call_len_seq (by rfl) T.gb_len bt_len (pa_cons (pv 0) pa_nil)) pa_nil)) (pg_name (i := 4) sc__law_hours.nd rfl (Or.inl rfl)) (pss_cons (ps_if (PW.pt (pw_and (pt_cmpR op_ge (pe_ix (r := rIxL K) ix_list (pv 0) (pv 4) (fun _ _ => rfl)) (pv 2) (nomark _)) (pw_and1 (pt_cmpR op_ge (pe_ix (r := rIxL K) ix_list (pv 1) (pv 4) (fun _ _ => rfl)) (pv 2) (nomark _))))) (pss_cons (ps_asg (pe_op op_add (pe_ix (r := rIxL K) ix_list (pv 3) pe_int (fun _ _ => rfl)) pe_int) (pg_sub (pv 3) pe_int set_list)) pss_nil) (pss_cons (ps_if (pt_cmpR op_ge (pe_ix (r := rIxL K) ix_list (pv 0) (pv 4) (fun _ _ => rfl)) (pv 2) (nomark _)) (pss_cons (ps_asg (pe_op op_add (pe_ix (r := rIxL K) ix_list (pv 3) pe_int (fun _ _ => rfl)) pe_int) (pg_sub (pv 3) pe_int set_list)) pss_nil) (pss_cons (ps_if (pt_cmpR op_ge (pe_ix (r := rIxL K) ix_list (pv 1) (pv 4) (fun _ _ => rfl)) (pv 2) (nomark _)) (pss_cons (ps_asg (pe_op op_add (pe_ix (r := rIxL K) ix_list (pv 3) pe_int (fun _ _ => rfl)) pe_int) (pg_sub (pv 3) pe_int set_list)) pss_nil) (pss_cons (ps_asg (pe_op op_add (pe_ix (r := rIxL K) ix_list (pv 3) pe_int (fun _ _ => rfl)) pe_int) (pg_sub (pv 3) pe_int set_list)) pss_nil)) pss_nil)) pss_nil)) pss_nil)) (pss_cons (ps_ret (pv 3)) pss_nil))), ?_⟩
    refine q_asgN (E := E) (K := K) (σ := [some v_row, some v_came, some v_level, none, none]) (i := 3) (n_lst (al_cons (x_int (i := 0)) (al_cons (x_int (i := 0)) (al_cons (x_int (i := 0)) (al_cons (x_int (i := 0)) al_nil)))) (Nat.le_of_ble_eq_true rfl)) hs (fun _ _ h => PX.mono (Ex.refl _) (Ex.refl _) h) hm fun counts_1 p_2 vs_3 I_4 C_5 H_6 e_7 hp_8 s_9 hc_10 k_11 hl_12 hr_13 hm => ?_
    have hB_14 := Ex.free (Ex.refl _) hp_8
    have fr_15 := fr_keep (Ex.refl _) hB_14 k_11
    refine s_forN (E := E) (K := K) (σ := [some v_row, some v_came, some v_level, some (.ref p_2), none]) (fun (z_16 : (List Int)) σ2 I_19 C_20 => ∃ w_18 : Option V, σ2 = [some v_row, some v_came, some v_level, some (.ref p_2), w_18] ∧ (∃ vs_21 : List V, C_20 p_2 = some (.lst vs_21) ∧ vs_21.length ≤ sizeLine ∧ A2 (fun x u => Rp.r pI x u I_19 Z) z_16 vs_21) ∧ Ex C0 C_20) (i_rng1 (a_one (x_cb o_len (a_one (x_v (x_var (i := 0) rfl (Rp.mono _ e_7 exz r_row))))))) s_9 (fun _ _ h => PX.mono e_7 fr_15 h) hm (fun _ e_34 => ⟨none, rfl, ⟨_, hc_10, hl_12, a2up (Ex.trans (Ex.refl _) e_34) hr_13⟩, fr_15⟩) (fun _ _ _ _ _ => trivial) (fun _ _ _ _ _ e ⟨w_18, hs_17, ⟨vs_21, hc_22, hl_23, hr_24⟩, fr_25⟩ => ⟨w_18, hs_17, ⟨vs_21, hc_22, hl_23, a2up e hr_24⟩, fr_25⟩) (fun N x_26 v_27 z_16 σ2 I_28 C_29 H_30 e_31 s_32 ⟨w_18, hs_17, ⟨vs_21, hc_22, hl_23, hr_24⟩, fr_25⟩ r_33 hm => ?_) (fun z_115 σ2 I_110 C_111 H_112 e_113 s_114 ⟨w_117, hs_116, ⟨vs_120, hc_121, hl_122, hr_123⟩, fr_124⟩ hm => ?_)
    · subst hs_17
      refine g1 (K := K) x_26 v_27 I_28 C_29 H_30 _ s_32 r_33 fun σ2 ⟨v_35, hs_37, r_36⟩ => ?_
      subst hs_37
      refine s_if (E := E) (K := K) (σ := [some v_row, some v_came, some v_level, some (.ref p_2), some v_35]) (t_and (t_test (x_op o_ge (x_op o_ix (x_v (x_var (i := 0) rfl (Rp.mono _ (e_7.trans e_31) exz r_row))) (x_var (i := 4) rfl (Rp.mono _ (Ex.refl _) exz r_36))) (x_var (i := 2) rfl (Rp.mono _ (e_7.trans e_31) exz r_level)))) (t_test (x_op o_ge (x_op o_ix (x_v (x_var (i := 1) rfl (Rp.mono _ (e_7.trans e_31) exz r_came))) (x_var (i := 4) rfl (Rp.mono _ (Ex.refl _) exz r_36))) (x_var (i := 2) rfl (Rp.mono _ (e_7.trans e_31) exz r_level))))) s_32 (fun _ _ h => PX.mono (e_7.trans e_31) fr_25 h) hm (fun I_38 H_39 e_40 s_41 hm => ?_) (fun I_42 H_43 e_44 s_45 hm => ?_)
      · refine q_setL (E := E) (K := K) (σ := [some v_row, some v_came, some v_level, some (.ref p_2), some v_35]) (i := 3) rfl hc_22 hl_23 (a2up e_40 hr_24) (x_op o_add (x_op o_ix (x_cell (i := 3) rfl hc_22 hl_23 (a2up e_40 hr_24)) (x_int (i := 0))) (x_int (i := 1))) (x_int (i := 0)) s_41 (fun _ _ h => PX.mono (e_7.trans (e_31.trans e_40)) fr_25 h) hm fun counts_46 vs_47 I_48 C_49 H_50 e_51 s_52 hc_53 k_54 hl_55 hr_56 hm => ?_
        have fr_57 := fr_keep fr_25 hB_14 k_54
        exact hm _ _ _ _ (e_40.trans e_51) s_52 ⟨some v_35, rfl, ⟨_, hc_53, hl_55, a2up (Ex.refl _) hr_56⟩, fr_57⟩
      · refine s_if (E := E) (K := K) (σ := [some v_row, some v_came, some v_level, some (.ref p_2), some v_35]) (t_test (x_op o_ge (x_op o_ix (x_v (x_var (i := 0) rfl (Rp.mono _ (e_7.trans (e_31.trans e_44)) exz r_row))) (x_var (i := 4) rfl (Rp.mono _ e_44 exz r_36))) (x_var (i := 2) rfl (Rp.mono _ (e_7.trans (e_31.trans e_44)) exz r_level)))) s_45 (fun _ _ h => PX.mono (e_7.trans (e_31.trans e_44)) fr_25 h) hm (fun I_58 H_59 e_60 s_61 hm => ?_) (fun I_62 H_63 e_64 s_65 hm => ?_)
        · refine q_setL (E := E) (K := K) (σ := [some v_row, some v_came, some v_level, some (.ref p_2), some v_35]) (i := 3) rfl hc_22 hl_23 (a2up (e_44.trans e_60) hr_24) (x_op o_add (x_op o_ix (x_cell (i := 3) rfl hc_22 hl_23 (a2up (e_44.trans e_60) hr_24)) (x_int (i := 1))) (x_int (i := 1))) (x_int (i := 1)) s_61 (fun _ _ h => PX.mono (e_7.trans (e_31.trans (e_44.trans e_60))) fr_25 h) hm fun counts_66 vs_67 I_68 C_69 H_70 e_71 s_72 hc_73 k_74 hl_75 hr_76 hm => ?_
          have fr_77 := fr_keep fr_25 hB_14 k_74
          exact hm _ _ _ _ (e_44.trans (e_60.trans e_71)) s_72 ⟨some v_35, rfl, ⟨_, hc_73, hl_75, a2up (Ex.refl _) hr_76⟩, fr_77⟩
        · refine s_if (E := E) (K := K) (σ := [some v_row, some v_came, some v_level, some (.ref p_2), some v_35]) (t_test (x_op o_ge (x_op o_ix (x_v (x_var (i := 1) rfl (Rp.mono _ (e_7.trans (e_31.trans (e_44.trans e_64))) exz r_came))) (x_var (i := 4) rfl (Rp.mono _ (e_44.trans e_64) exz r_36))) (x_var (i := 2) rfl (Rp.mono _ (e_7.trans (e_31.trans (e_44.trans e_64))) exz r_level)))) s_65 (fun _ _ h => PX.mono (e_7.trans (e_31.trans (e_44.trans e_64))) fr_25 h) hm (fun I_78 H_79 e_80 s_81 hm => ?_) (fun I_82 H_83 e_84 s_85 hm => ?_)
          · refine q_setL (E := E) (K := K) (σ := [some v_row, some v_came, some v_level, some (.ref p_2), some v_35]) (i := 3) rfl hc_22 hl_23 (a2up (e_44.trans (e_64.trans e_80)) hr_24) (x_op o_add (x_op o_ix (x_cell (i := 3) rfl hc_22 hl_23 (a2up (e_44.trans (e_64.trans e_80)) hr_24)) (x_int (i := 2))) (x_int (i := 1))) (x_int (i := 2)) s_81 (fun _ _ h => PX.mono (e_7.trans (e_31.trans (e_44.trans (e_64.trans e_80)))) fr_25 h) hm fun counts_86 vs_87 I_88 C_89 H_90 e_91 s_92 hc_93 k_94 hl_95 hr_96 hm => ?_
            have fr_97 := fr_keep fr_25 hB_14 k_94
            exact hm _ _ _ _ (e_44.trans (e_64.trans (e_80.trans e_91))) s_92 ⟨some v_35, rfl, ⟨_, hc_93, hl_95, a2up (Ex.refl _) hr_96⟩, fr_97⟩
          · refine q_setL (E := E) (K := K) (σ := [some v_row, some v_came, some v_level, some (.ref p_2), some v_35]) (i := 3) rfl hc_22 hl_23 (a2up (e_44.trans (e_64.trans e_84)) hr_24) (x_op o_add (x_op o_ix (x_cell (i := 3) rfl hc_22 hl_23 (a2up (e_44.trans (e_64.trans e_84)) hr_24)) (x_int (i := 3))) (x_int (i := 1))) (x_int (i := 3)) s_85 (fun _ _ h => PX.mono (e_7.trans (e_31.trans (e_44.trans (e_64.trans e_84)))) fr_25 h) hm fun counts_98 vs_99 I_100 C_101 H_102 e_103 s_104 hc_105 k_106 hl_107 hr_108 hm => ?_
            have fr_109 := fr_keep fr_25 hB_14 k_106
            exact hm _ _ _ _ (e_44.trans (e_64.trans (e_84.trans e_103))) s_104 ⟨some v_35, rfl, ⟨_, hc_105, hl_107, a2up (Ex.refl _) hr_108⟩, fr_109⟩
    subst hs_116
    refine q_retO (i := 3) rfl s_114 fr_124 hB_14 hc_121 hl_122 (a2up (Ex.refl _) hr_123) fun s hr => ?_
    exact hm _ _ _ _ (e_7.trans e_113) hB_14 s hl_122 hr
def m__law_refused (ar_world : (Int × Int × (List (Str × Int)) × (List (Str × Int × (List Int))) × (List (Str × Int × (List (List Int)))))) (ar_run : Int) (ar_area : Int) (ar_level : Int) (ar_row : (List Int)) : Res Int :=
  ((tryR knE (fun c => isaE c .DeskError) ((un (fun (p : ((Int × Int × (List (Str × Int)) × (List (Str × Int × (List Int))) × (List (Str × Int × (List (List Int))))) × Int × Int × Int × (List Int))) => m_hour_tally p.1 p.2.1 p.2.2.1 p.2.2.2.1 p.2.2.2.2) (pair (Res.ok ar_world) (pair (Res.ok ar_run) (pair (Res.ok ar_area) (pair (Res.ok ar_level) (Res.ok ar_row)))))).bind fun (b_13 : (List Int)) => (Res.ok (Out.nx ()))) (fun c_25 j_26 => (ifR (andR (Res.ok (isaE c_25 .BadTable)) (andR (Res.ok true) (un m__law_is_int (Res.ok j_26)))) ((Res.ok j_26).bind fun a_38 => Res.ok (Out.rt a_38)) ((un rNeg (Res.ok (2 : Int))).bind fun a_45 => Res.ok (Out.rt a_45))))).bind fun (o : Out Unit Int) => match o with | .nx z_2 => ((un rNeg (Res.ok (1 : Int))).bind fun a_57 => Res.ok a_57) | .br _ => Res.bad | .rt r => Res.ok r)
abbrev N__law_refused : List Str := ["world", "run", "area", "level", "row", "e"]
theorem sc__law_refused : FnScope N__law_refused ["world", "run", "area", "level", "row"] (defScope s__law_refused) := ⟨rfl, rfl, rfl, by decide +kernel, rfl, by decide +kernel, by decide +kernel⟩
theorem bind__law_refused {K : PySem.W.Frag} {mg : Str → Option Value} {T : Tx K mg} : Binds K T.d__law_refused ["world", "run", "area", "level", "row"] [] := FunD.bindsN T.F__law_refused fun _ _ _ _ _ _ us hl => match us, hl with | [_, _, _, _, _], _ => rfl
abbrev sp__law_refused (K : PySem.W.Frag) : Sp := spP K (tc (pC (He.ga K "World") ns_World (tc pI (tc pI (tc (pQ K (pT (tc pS (t1 pI)))) (tc (pQ K (pT (tc pS (tc pI (t1 (pQ K pI)))))) (t1 (pQ K (pT (tc pS (tc pI (t1 (pQ K (pQ K pI))))))))))))) (tc pI (tc pI (tc pI (t1 (pL pI)))))) (fun (p : ((Int × Int × (List (Str × Int)) × (List (Str × Int × (List Int))) × (List (Str × Int × (List (List Int))))) × Int × Int × Int × (List Int))) => m__law_refused p.1 p.2.1 p.2.2.1 p.2.2.2.1 p.2.2.2.2) pI
theorem ok__law_refused (T : Tx K mg) : FnOk P w K mg base (L2.CX P w) 6 T.f__law_refused T.d__law_refused ["world", "run", "area", "level", "row"] (sp__law_refused K) := by
  refine T.F__law_refused.ok sc__law_refused (fun vs H Q E h => ?_) (fun cdv A outer s H vs Q E hr h => ?_)
  · obtain ⟨I, C, a, _, hr, _⟩ := h
    exact Rt.len _ hr
  · obtain ⟨I0, C0, ⟨ar_world, ar_run, ar_area, ar_level, ar_row⟩, hs, ⟨v_world, us0, rfl, r_world, v_run, us1, rfl, r_run, v_area, us2, rfl, r_area, v_level, us3, rfl, r_level, v_row, rfl, r_row⟩, hm⟩ := h
    have hm : Post (m__law_refused ar_world ar_run ar_area ar_level ar_row) (PQ pI I0 C0 Q) (PX E K I0 C0) := hm
    replace r_world : Rp.r (pC (He.ga K "World") ns_World (tc pI (tc pI (tc (pQ K (pT (tc pS (t1 pI)))) (tc (pQ K (pT (tc pS (tc pI (t1 (pQ K pI)))))) (t1 (pQ K (pT (tc pS (tc pI (t1 (pQ K (pQ K pI))))))))))))) ar_world v_world I0 Z := Im.im r_world
    replace r_run : Rp.r pI ar_run v_run I0 Z := Im.im r_run
    replace r_area : Rp.r pI ar_area v_area I0 Z := Im.im r_area
    replace r_level : Rp.r pI ar_level v_level I0 Z := Im.im r_level
    replace r_row : Rp.r (pL pI) ar_row v_row I0 Z := Im.im r_row
    unfold m__law_refused at hm
    refine ⟨_, (Evl.pss_cut (ps_tryS (c := .ref (He.ga K "DeskError")) (i := 5) rfl rfl sc__law_refused.nd rfl rfl ⟨rfl, by decide, Or.inl (T.xs .DeskError (by decide)).g⟩ (takes_of rfl rfl rfl rfl) (fun W pn xe tk hp => (pss_cons (ps_expr (by exact (pe_callS (ok_hour_tally T) (hr.mono (by decide)) rfl T.g_hour_tally T.F_hour_tally.kp bind_hour_tally (fun σ => passAt tk σ) (by exact (pa_cons (pv 0) (pa_cons (pv 1) (pa_cons (pv 2) (pa_cons (pv 3) (pa_cons (pv 4) pa_nil))))))))) pss_nil)) (fun a oe cls d pn hz hf => (pss_cons (ps_if (PW.pt (pw_and (pt_val (pe_callB (r := rIsX K a cls d) (call_isX hz hf) (by rfl) T.gb_isinstance bt_isinstance (pa_cons (pv 5) (pa_cons (pe_glob (v := .ref (He.ga K "BadTable")) rfl (T.xs .BadTable (by decide)).g rfl) pa_nil)))) (pw_and (pt_val (pe_callB (r := rIsX K a cls d) (call_isX hz hf) (by rfl) T.gb_isinstance bt_isinstance (pa_cons (pv 5) (pa_cons (pe_bltn (v := .ty "ValueError") rfl T.gb_ValueError bt_ValueError rfl) pa_nil)))) (pw_and1 (pt_val (L2H.pe_callJ (p := (a, oe)) (okJ__law_is_int T) (roomJ hr (by decide)) List.mem_cons_self rfl T.g__law_is_int T.F__law_is_int.kp bind__law_is_int (fun σ => passZ σ) (pa_cons (pe_xfX hz hf (pv 5)) pa_nil))))))) (pss_cons (ps_ret (pe_xfX hz hf (pv 5))) pss_nil) pss_nil) (pss_cons (ps_ret (pe_un un_neg pe_int)) pss_nil)))) (pss_cons (ps_ret (pe_un un_neg pe_int)) pss_nil)), ?_⟩
    refine s_try (E := E) (K := K) (σ := [some v_world, some v_run, some v_area, some v_level, some v_row, none]) (mg := mg) (fun (z_2 : Unit) σ2 I_9 C_10 => ∃ w_8 : Option V, σ2 = [some v_world, some v_run, some v_area, some v_level, some v_row, w_8] ∧ Ex C0 C_10) ((fun (z_1 : Unit) σ2 I_4 C_5 => σ2 = [some v_world, some v_run, some v_area, some v_level, some v_row, none] ∧ Ex C0 C_5) ()) (fun c h => ⟨T.ex c .DeskError h (by decide), T.xs c h⟩) (fun _ _ _ e ⟨hs_3, fr_6⟩ => fun _ _ h => PX.mono (Ex.trans (Ex.refl _) e) fr_6 h) (fun _ _ _ _ e ⟨hs_3, fr_6⟩ => ⟨hs_3, fr_6⟩) hm (fun N W hW_12 hm => ?_) (fun N c_25 j_26 a_27 cls_29 d_28 σ2 I_18 C_19 H_20 kn_24 cg_23 e_21 s_22 ⟨hs_3, fr_6⟩ hm => ?_) (fun z_2 σ2 I_52 C_53 H_54 e_55 s_56 ⟨w_8, hs_7, fr_11⟩ hm => ?_)
    · refine s_expr (E := WE W _) (K := K) (σ := [some v_world, some v_run, some v_area, some v_level, some v_row, none]) (x_callS (a_cons (x_var (i := 0) rfl (Rp.mono _ (Ex.refl _) exz r_world)) (a_cons (x_var (i := 1) rfl (Rp.mono _ (Ex.refl _) exz r_run)) (a_cons (x_var (i := 2) rfl (Rp.mono _ (Ex.refl _) exz r_area)) (a_cons (x_var (i := 3) rfl (Rp.mono _ (Ex.refl _) exz r_level)) (a_one (x_var (i := 4) rfl (Rp.mono _ (Ex.refl _) exz r_row)))))))) hs (hW_12 _ _ _ (Ex.refl _) ⟨rfl, (Ex.refl _)⟩) hm fun b_13 I_14 H_15 e_16 s_17 hm => ?_
      exact hm _ _ _ _ e_16 s_17 ⟨none, rfl, (Ex.refl _)⟩
    · subst hs_3
      refine s_if (E := E) (K := K) (σ := [some v_world, some v_run, some v_area, some v_level, some v_row, some (.ref a_27)]) (t_and (t_B (x_isE (Cg.up (Ex.refl _) cg_23) (T.ki _ .BadTable kn_24 (by decide)) (by rfl))) (t_and (t_B (x_isVE (Cg.up (Ex.refl _) cg_23) (by rfl))) (t_B (x_callZ (fun _ _ _ h => by cases h) (a_one (x_at (Cg.up (Ex.refl _) cg_23) (by rfl))))))) s_22 (fun _ _ h => PX.mono e_21 fr_6 h) hm (fun I_30 H_31 e_32 s_33 hm => ?_) (fun I_34 H_35 e_36 s_37 hm => ?_)
      · refine q_ret (tz := tNext) (E := E) (K := K) (σ := [some v_world, some v_run, some v_area, some v_level, some v_row, some (.ref a_27)]) (x_at (Cg.up e_32 cg_23) (by rfl)) s_33 (fun _ _ h => PX.mono (e_21.trans e_32) fr_6 h) hm fun a_38 v_39 I_40 H_41 e_42 s_43 r_44 hm => ?_
        exact hm v_39 I_40 H_41 (e_21.trans (e_32.trans e_42)) (St.less s_43 fr_6) (Im.im r_44)
      · refine q_ret (tz := tNext) (E := E) (K := K) (σ := [some v_world, some v_run, some v_area, some v_level, some v_row, some (.ref a_27)]) (x_un o_neg (x_int (i := 2))) s_37 (fun _ _ h => PX.mono (e_21.trans e_36) fr_6 h) hm fun a_45 v_46 I_47 H_48 e_49 s_50 r_51 hm => ?_
        exact hm v_46 I_47 H_48 (e_21.trans (e_36.trans e_49)) (St.less s_50 fr_6) (Im.im r_51)
    subst hs_7
    refine q_ret (tz := tNext) (E := E) (K := K) (σ := [some v_world, some v_run, some v_area, some v_level, some v_row, w_8]) (x_un o_neg (x_int (i := 1))) s_56 (fun _ _ h => PX.mono e_55 fr_11 h) hm fun a_57 v_58 I_59 H_60 e_61 s_62 r_63 hm => ?_
    exact hm v_58 I_59 H_60 (e_55.trans e_61) (St.less s_62 fr_11) (Im.im r_63)
def m_law (a_script : List Int) : Res Bool :=
  ((poolR a_script).bind fun (pool_10 : Pl) => (((callM (fun (p : (Int × Int)) => m__law_levels p.1 p.2) (pairM (callM m__law_take (liftM (Res.ok (25 : Int)))) (liftM (Res.ok (4 : Int))))) pool_10).bind fun (row_11 : (List Int) × Pl) => (((callM (fun (p : (Int × Int)) => m__law_from p.1 p.2) (liftM (pair (Res.ok (1 : Int)) (Res.ok (4 : Int))))) row_11.2).bind fun (level_23 : Int × Pl) => ((un idR (Res.ok row_11.1)).bind fun (handed_35 : (List Int)) => ((un (fun (p : ((List Int) × Int)) => m__law_stretches p.1 p.2) (pair (Res.ok row_11.1) (Res.ok level_23.1))).bind fun (due_51 : (List (Int × Int))) => (ifR (orR (un notR (un (fun (p : ((List (List Int)) × (List (List Int)))) => m__law_same_tuples p.1 p.2) (pair (un (fun x => Res.ok ((List.map (fun p : (Int × Int) => [p.1, p.2])) x)) (un (fun (p : ((List Int) × Int)) => m_stretches p.1 p.2) (pair (Res.ok handed_35) (Res.ok level_23.1)))) (un (fun x => Res.ok ((List.map (fun p : (Int × Int) => [p.1, p.2])) x)) (Res.ok due_51))))) (bin neR (Res.ok handed_35) (Res.ok row_11.1))) ((Res.ok false).bind fun a_66 => Res.ok a_66) ((ifR (bin rGt (un rLen (Res.ok row_11.1)) (Res.ok (0 : Int))) (((callM m__law_take (liftM (un rLen (Res.ok row_11.1)))) level_23.2).bind fun (place_95 : Int × Pl) => (((bin rSub (Res.ok (4 : Int)) (bin ix (Res.ok row_11.1) (Res.ok place_95.1))).bind fun x => (Res.ok place_95.1).bind fun j => setR handed_35 j x).bind fun (handed_108 : (List Int)) => ((un (fun (p : ((List Int) × Int)) => m__law_stretches p.1 p.2) (pair (Res.ok handed_108) (Res.ok level_23.1))).bind fun (due_120 : (List (Int × Int))) => (ifR (un notR (un (fun (p : ((List (List Int)) × (List (List Int)))) => m__law_same_tuples p.1 p.2) (pair (un (fun x => Res.ok ((List.map (fun p : (Int × Int) => [p.1, p.2])) x)) (un (fun (p : ((List Int) × Int)) => m_stretches p.1 p.2) (pair (Res.ok handed_108) (Res.ok level_23.1)))) (un (fun x => Res.ok ((List.map (fun p : (Int × Int) => [p.1, p.2])) x)) (Res.ok due_120))))) ((Res.ok false).bind fun a_135 => Res.ok (Out.rt a_135)) (Res.ok (Out.nx (place_95.2, handed_108))))))) (Res.ok (Out.nx (level_23.2, handed_35)))).bind fun (o : Out (Pl × (List Int)) Bool) => match o with | .nx z_81 => (ifR (un notR (un (fun (p : ((List (List Int)) × (List (List Int)))) => m__law_same_tuples p.1 p.2) (pair (un (fun x => Res.ok ((List.map (fun p : (Int × Int) => [p.1, p.2])) x)) (un (fun (p : ((List Int) × Int)) => m_stretches_Q p.1 p.2) (pair (un idR (Res.ok row_11.1)) (Res.ok level_23.1)))) (un (fun x => Res.ok ((List.map (fun p : (Int × Int) => [p.1, p.2])) x)) (un (fun (p : ((List Int) × Int)) => m__law_stretches p.1 p.2) (pair (Res.ok row_11.1) (Res.ok level_23.1))))))) ((Res.ok false).bind fun a_155 => Res.ok a_155) (((callM (fun (p : (Int × Int)) => m__law_from p.1 p.2) (liftM (pair (Res.ok (1 : Int)) (Res.ok (8 : Int))))) z_81.1).bind fun (hours_162 : Int × Pl) => ((ifMR (binM eqR (callM m__law_take (liftM (Res.ok (5 : Int)))) (liftM (Res.ok (0 : Int)))) hours_162.2 (fun (y_183 : Pl) => (((callM (fun (p : (Int × Int)) => m__law_from p.1 p.2) (liftM (pair (Res.ok (1 : Int)) (Res.ok (24 : Int))))) y_183).bind fun (hours_207 : Int × Pl) => (Res.ok (hours_207.2, hours_207.1)))) (fun (y_189 : Pl) => (Res.ok (y_189, hours_162.1)))).bind fun (z_195 : (Pl × Int)) => (((callM (fun (p : (Int × Int × Int)) => m__law_data p.1 p.2.1 p.2.2) (pairM (callM (fun (p : (Int × Int)) => m__law_from p.1 p.2) (liftM (pair (Res.ok (1 : Int)) (Res.ok (4 : Int))))) (pairM (callM (fun (p : (Int × Int)) => m__law_from p.1 p.2) (liftM (pair (Res.ok (1 : Int)) (Res.ok (6 : Int))))) (liftM (Res.ok z_195.2))))) z_195.1).bind fun (data_226 : (Int × Int × (List (Str × Int)) × (List (Str × Int × (List Int))) × (List (Str × Int × (List (List Int))))) × Pl) => ((un (fun (p : (Int × Int × (List (Str × Int)) × (List (Str × Int × (List Int))) × (List (Str × Int × (List (List Int)))))) => m_World_init p.1 p.2.1 p.2.2.1 p.2.2.2.1 p.2.2.2.2) (pair (un (fun p => Res.ok p.1) (Res.ok data_226.1)) (pair (un (fun p => Res.ok p.2.1) (Res.ok data_226.1)) (pair (un (fun p => Res.ok p.2.2.1) (Res.ok data_226.1)) (pair (un (fun p => Res.ok p.2.2.2.1) (Res.ok data_226.1)) (un (fun p => Res.ok p.2.2.2.2) (Res.ok data_226.1))))))).bind fun (world_239 : (Int × Int × (List (Str × Int)) × (List (Str × Int × (List Int))) × (List (Str × Int × (List (List Int)))))) => (((callM m__law_take (liftM (un rLen (un (fun p => Res.ok p.2.2.2.2) (Res.ok data_226.1))))) data_226.2).bind fun (run_246 : Int × Pl) => (((callM m__law_take (liftM (un rLen (un (fun p => Res.ok p.2.2.1) (Res.ok data_226.1))))) run_246.2).bind fun (area_259 : Int × Pl) => (((callM (fun (p : (Int × Int)) => m__law_from p.1 p.2) (liftM (pair (Res.ok (1 : Int)) (un (fun p => Res.ok p.1) (Res.ok data_226.1))))) area_259.2).bind fun (level_272 : Int × Pl) => (((un rng1 (Res.ok z_195.2)).bind (mapR (fun (x_285 : Int) => (un (fun (p : ((Int × Int × (List (Str × Int)) × (List (Str × Int × (List Int))) × (List (Str × Int × (List (List Int))))) × Int × Int × Int)) => m__law_reached p.1 p.2.1 p.2.2.1 p.2.2.2) (pair (Res.ok data_226.1) (pair (Res.ok run_246.1) (pair (Res.ok area_259.1) (Res.ok x_285)))))))).bind fun (came_292 : (List Int)) => (ifR (un notR (un (fun (p : ((List (List Int)) × (List (List Int)))) => m__law_same_tuples p.1 p.2) (pair (un (fun x => Res.ok ((List.map (fun p : (Int × Int) => [p.1, p.2])) x)) (un (fun (p : ((Int × Int × (List (Str × Int)) × (List (Str × Int × (List Int))) × (List (Str × Int × (List (List Int))))) × Int × Int × Int)) => m_events p.1 p.2.1 p.2.2.1 p.2.2.2) (pair (Res.ok world_239) (pair (Res.ok run_246.1) (pair (Res.ok area_259.1) (Res.ok level_272.1)))))) (un (fun x => Res.ok ((List.map (fun p : (Int × Int) => [p.1, p.2])) x)) (un (fun (p : ((List Int) × Int)) => m__law_stretches p.1 p.2) (pair (Res.ok came_292) (Res.ok level_272.1))))))) ((Res.ok false).bind fun a_307 => Res.ok a_307) (((callM (fun (p : (Int × Int)) => m__law_levels p.1 p.2) (liftM (pair (Res.ok z_195.2) (un (fun p => Res.ok p.1) (Res.ok data_226.1))))) level_272.2).bind fun (warning_314 : (List Int) × Pl) => ((un idR (Res.ok warning_314.1)).bind fun (handed_327 : (List Int)) => ((un (fun (p : ((Int × Int × (List (Str × Int)) × (List (Str × Int × (List Int))) × (List (Str × Int × (List (List Int))))) × Int × Int × Int × (List Int))) => m_hour_tally p.1 p.2.1 p.2.2.1 p.2.2.2.1 p.2.2.2.2) (pair (Res.ok world_239) (pair (Res.ok run_246.1) (pair (Res.ok area_259.1) (pair (Res.ok level_272.1) (Res.ok handed_327)))))).bind fun (told_334 : (List Int)) => (ifR (orR (un notR (un (fun _ => Res.ok true) (pair (Res.ok told_334) (Res.ok ())))) (un notR (un (fun (p : ((List (List Int)) × (List (List Int)))) => m__law_same_tuples p.1 p.2) (pair (consR (Res.ok told_334) (Res.ok [])) (consR (un idR (un (fun (p : ((List Int) × (List Int) × Int)) => m__law_hours p.1 p.2.1 p.2.2) (pair (Res.ok warning_314.1) (pair (Res.ok came_292) (Res.ok level_272.1))))) (Res.ok [])))))) ((Res.ok false).bind fun a_349 => Res.ok a_349) (((consR (slR (Res.ok warning_314.1) (someR (Res.ok (1 : Int))) (Res.ok none)) (consR (bin rCatR (Res.ok warning_314.1) (consR (Res.ok (0 : Int)) (Res.ok []))) (consR (bin rCatR (Res.ok warning_314.1) (Res.ok warning_314.1)) (consR (Res.ok ([] : List Int)) (Res.ok []))))).bind fun xs => loopR (fun (x_363 : (List Int)) (z_356 : Unit) => (ifR (bin neR (un (fun (p : ((Int × Int × (List (Str × Int)) × (List (Str × Int × (List Int))) × (List (Str × Int × (List (List Int))))) × Int × Int × Int × (List Int))) => m__law_refused p.1 p.2.1 p.2.2.1 p.2.2.2.1 p.2.2.2.2) (pair (Res.ok world_239) (pair (Res.ok run_246.1) (pair (Res.ok area_259.1) (pair (Res.ok level_272.1) (Res.ok x_363)))))) (Res.ok (0 : Int))) ((Res.ok false).bind fun a_383 => Res.ok (Out.rt a_383)) (Res.ok (Out.nx ())))) xs ()).bind fun (o : Out Unit Bool) => match o with | .nx z_395 => ((andR (bin eqR (Res.ok handed_327) (Res.ok warning_314.1)) (bin eqR (un (fun (p : ((Int × Int × (List (Str × Int)) × (List (Str × Int × (List Int))) × (List (Str × Int × (List (List Int))))) × Int × Int × Int × (List Int))) => m__law_refused p.1 p.2.1 p.2.2.1 p.2.2.2.1 p.2.2.2.2) (pair (Res.ok world_239) (pair (Res.ok run_246.1) (pair (Res.ok area_259.1) (pair (Res.ok level_272.1) (Res.ok handed_327)))))) (un rNeg (Res.ok (1 : Int))))).bind fun a_402 => Res.ok a_402) | .br _ => Res.bad | .rt r => Res.ok r))))))))))))))) | .br _ => Res.bad | .rt r => Res.ok r)))))))
abbrev N_law : List Str := ["script", "pool", "row", "level", "handed", "due", "place", "hours", "data", "world", "run", "area", "came", "warning", "told", "wrong", "hour"]
theorem sc_law : FnScope N_law ["script"] (defScope s_law) := ⟨rfl, rfl, rfl, by decide +kernel, rfl, by decide +kernel, by decide +kernel⟩
theorem ok_law (T : Tx K mg) : FnOk P w K mg base CX0 11 T.f_law T.d_law ["script"] (spLaw K m_law) := by
  refine T.F_law.ok sc_law (fun vs H Q E h => ?_) (fun cdv A outer s H vs Q E hr h => ?_)
  · obtain ⟨a, ns, rfl, _⟩ := h
    rfl
  · obtain ⟨a0, a_script, rfl, hS, hz, hm⟩ := h
    obtain ⟨I0, hs, r_script⟩ := law_start hS hz
    unfold m_law at hm
    refine ⟨_, (pss_cons (ps_set (i := 1) sc_law.nd rfl (Or.inl rfl) (pe_call (ok__law_pool T) (hr.mono (by decide)) rfl T.g__law_pool T.F__law_pool.kp bind__law_pool .nil passL (pa_cons (pv 0) pa_nil))) (pss_cons (ps_set (i := 2) sc_law.nd rfl (Or.inl rfl) (pe_call (ok__law_levels T) (hr.mono (by decide)) rfl T.g__law_levels T.F__law_levels.kp bind__law_levels .nil passL (pa_cons (pv 1) (pa_cons (pe_call (ok__law_take T) (hr.mono (by decide)) rfl T.g__law_take T.F__law_take.kp bind__law_take .nil passL (pa_cons (pv 1) (pa_cons pe_int pa_nil))) (pa_cons pe_int pa_nil))))) (pss_cons (ps_set (i := 3) sc_law.nd rfl (Or.inl rfl) (pe_call (ok__law_from T) (hr.mono (by decide)) rfl T.g__law_from T.F__law_from.kp bind__law_from .nil passL (pa_cons (pv 1) (pa_cons pe_int (pa_cons pe_int pa_nil))))) (pss_cons (ps_set (i := 4) sc_law.nd rfl (Or.inl rfl) (pe_callTy (r := rList1 K) call_list_of (by rfl) T.gb_list bt_list (pa_cons (pv 2) pa_nil))) (pss_cons (ps_set (i := 5) sc_law.nd rfl (Or.inl rfl) (pe_call (ok__law_stretches T) (hr.mono (by decide)) rfl T.g__law_stretches T.F__law_stretches.kp bind__law_stretches .nil passL (pa_cons (pv 2) (pa_cons (pv 3) pa_nil)))) (pss_cons (ps_if (PW.pt (pw_or (pt_not (pt_val (pe_call (ok__law_same_tuples T) (hr.mono (by decide)) rfl T.g__law_same_tuples T.F__law_same_tuples.kp bind__law_same_tuples .nil passL (pa_cons (pe_call (ok_stretches T) (hr.mono (by decide)) rfl T.g_stretches T.F_stretches.kp bind_stretches .nil passL (pa_cons (pv 4) (pa_cons (pv 3) pa_nil))) (pa_cons (pv 5) pa_nil))))) (pw_or1 (pt_cmpR (r := rNeD K) (op_neD hr.units) (pv 4) (pv 2) (nomark _))))) (pss_cons (ps_ret pe_bl) pss_nil) pss_nil) (Evl.pss_cut (ps_if (pt_cmpR op_gt (pe_callB (r := rLen1 K) call_len_seq (by rfl) T.gb_len bt_len (pa_cons (pv 2) pa_nil)) pe_int (nomark _)) (pss_cons (ps_set (i := 6) sc_law.nd rfl (Or.inl rfl) (pe_call (ok__law_take T) (hr.mono (by decide)) rfl T.g__law_take T.F__law_take.kp bind__law_take .nil passL (pa_cons (pv 1) (pa_cons (pe_callB (r := rLen1 K) call_len_seq (by rfl) T.gb_len bt_len (pa_cons (pv 2) pa_nil)) pa_nil)))) (pss_cons (ps_asg (pe_op op_sub pe_int (pe_ix (r := rIxL K) ix_list (pv 2) (pv 6) (fun _ _ => rfl))) (pg_sub (pv 4) (pv 6) set_list)) (pss_cons (ps_set (i := 5) sc_law.nd rfl (Or.inl rfl) (pe_call (ok__law_stretches T) (hr.mono (by decide)) rfl T.g__law_stretches T.F__law_stretches.kp bind__law_stretches .nil passL (pa_cons (pv 4) (pa_cons (pv 3) pa_nil)))) (pss_cons (ps_if (pt_not (pt_val (pe_call (ok__law_same_tuples T) (hr.mono (by decide)) rfl T.g__law_same_tuples T.F__law_same_tuples.kp bind__law_same_tuples .nil passL (pa_cons (pe_call (ok_stretches T) (hr.mono (by decide)) rfl T.g_stretches T.F_stretches.kp bind_stretches .nil passL (pa_cons (pv 4) (pa_cons (pv 3) pa_nil))) (pa_cons (pv 5) pa_nil))))) (pss_cons (ps_ret pe_bl) pss_nil) pss_nil) pss_nil)))) pss_nil) (pss_cons (ps_if (pt_not (pt_val (pe_call (ok__law_same_tuples T) (hr.mono (by decide)) rfl T.g__law_same_tuples T.F__law_same_tuples.kp bind__law_same_tuples .nil passL (pa_cons (pe_call (ok_stretches_Q T) (hr.mono (by decide)) rfl T.g_stretches T.F_stretches.kp bind_stretches .nil passL (pa_cons (pe_callTy (r := rTuple1 K) call_tuple_of (by rfl) T.gb_tuple bt_tuple (pa_cons (pv 2) pa_nil)) (pa_cons (pv 3) pa_nil))) (pa_cons (pe_call (ok__law_stretches T) (hr.mono (by decide)) rfl T.g__law_stretches T.F__law_stretches.kp bind__law_stretches .nil passL (pa_cons (pv 2) (pa_cons (pv 3) pa_nil))) pa_nil))))) (pss_cons (ps_ret pe_bl) pss_nil) pss_nil) (pss_cons (ps_set (i := 7) sc_law.nd rfl (Or.inl rfl) (pe_call (ok__law_from T) (hr.mono (by decide)) rfl T.g__law_from T.F__law_from.kp bind__law_from .nil passL (pa_cons (pv 1) (pa_cons pe_int (pa_cons pe_int pa_nil))))) (Evl.pss_cut (ps_if (pt_cmpR op_eq (pe_call (ok__law_take T) (hr.mono (by decide)) rfl T.g__law_take T.F__law_take.kp bind__law_take .nil passL (pa_cons (pv 1) (pa_cons pe_int pa_nil))) pe_int (nomark _)) (pss_cons (ps_set (i := 7) sc_law.nd rfl (Or.inl rfl) (pe_call (ok__law_from T) (hr.mono (by decide)) rfl T.g__law_from T.F__law_from.kp bind__law_from .nil passL (pa_cons (pv 1) (pa_cons pe_int (pa_cons pe_int pa_nil))))) pss_nil) pss_nil) (pss_cons (ps_set (i := 8) sc_law.nd rfl (Or.inr rfl) (pe_call (ok__law_data T) (hr.mono (by decide)) rfl T.g__law_data T.F__law_data.kp bind__law_data .nil passL (pa_cons (pv 1) (pa_cons (pe_call (ok__law_from T) (hr.mono (by decide)) rfl T.g__law_from T.F__law_from.kp bind__law_from .nil passL (pa_cons (pv 1) (pa_cons pe_int (pa_cons pe_int pa_nil)))) (pa_cons (pe_call (ok__law_from T) (hr.mono (by decide)) rfl T.g__law_from T.F__law_from.kp bind__law_from .nil passL (pa_cons (pv 1) (pa_cons pe_int (pa_cons pe_int pa_nil)))) (pa_cons (pv 7) pa_nil)))))) (pss_cons (ps_set (i := 9) sc_law.nd rfl (Or.inl rfl) (pe_make T.mk_World (ok_World_init T) (hr.mono (by decide)) rfl T.g_World bind_World_init .nil passL (pa_cons (pe_ix (r := rIxL K) ix_list (pv 8) pe_int (fun _ _ => rfl)) (pa_cons (pe_ix (r := rIxL K) ix_list (pv 8) pe_int (fun _ _ => rfl)) (pa_cons (pe_ix (r := rIxL K) ix_list (pv 8) pe_int (fun _ _ => rfl)) (pa_cons (pe_ix (r := rIxL K) ix_list (pv 8) pe_int (fun _ _ => rfl)) (pa_cons (pe_ix (r := rIxL K) ix_list (pv 8) pe_int (fun _ _ => rfl)) pa_nil))))))) (pss_cons (ps_set (i := 10) sc_law.nd rfl (Or.inr rfl) (pe_call (ok__law_take T) (hr.mono (by decide)) rfl T.g__law_take T.F__law_take.kp bind__law_take .nil passL (pa_cons (pv 1) (pa_cons (pe_callB (r := rLen1 K) call_len_seq (by rfl) T.gb_len bt_len (pa_cons (pe_ix (r := rIxL K) ix_list (pv 8) pe_int (fun _ _ => rfl)) pa_nil)) pa_nil)))) (pss_cons (ps_set (i := 11) sc_law.nd rfl (Or.inr rfl) (pe_call (ok__law_take T) (hr.mono (by decide)) rfl T.g__law_take T.F__law_take.kp bind__law_take .nil passL (pa_cons (pv 1) (pa_cons (pe_callB (r := rLen1 K) call_len_seq (by rfl) T.gb_len bt_len (pa_cons (pe_ix (r := rIxL K) ix_list (pv 8) pe_int (fun _ _ => rfl)) pa_nil)) pa_nil)))) (pss_cons (ps_set (i := 3) sc_law.nd rfl (Or.inl rfl) (pe_call (ok__law_from T) (hr.mono (by decide)) rfl T.g__law_from T.F__law_from.kp bind__law_from .nil passL (pa_cons (pv 1) (pa_cons pe_int (pa_cons (pe_ix (r := rIxL K) ix_list (pv 8) pe_int (fun _ _ => rfl)) pa_nil))))) (pss_cons (ps_setLc (i := 12) (own := [("hour", 16)]) rfl sc_law.nd rfl rfl (sw_true rfl rfl rfl (by decide +kernel)) (pi_range1 (by rfl) T.gb_range (pa_cons (pv 7) pa_nil)) (blkOk_by (own := [("hour", 16)]) (N := N_law) (sc := defScope s_law) (by decide +kernel)) (fun _ _ _ _ _ => (pg_name (i := 16) sc_law.nd rfl (Or.inl rfl))) (fun _ _ _ _ _ => pts_nil) (fun _ _ _ _ _ => (pe_call (ok__law_reached T) (hr.mono (by decide)) rfl T.g__law_reached T.F__law_reached.kp bind__law_reached .nil passL (pa_cons (pv 8) (pa_cons (pv 10) (pa_cons (pv 11) (pa_cons (pv 16) pa_nil))))))) (pss_cons (ps_if (pt_not (pt_val (pe_call (ok__law_same_tuples T) (hr.mono (by decide)) rfl T.g__law_same_tuples T.F__law_same_tuples.kp bind__law_same_tuples .nil passL (pa_cons (pe_call (ok_events T) (hr.mono (by decide)) rfl T.g_events T.F_events.kp bind_events .nil passL (pa_cons (pv 9) (pa_cons (pv 10) (pa_cons (pv 11) (pa_cons (pv 3) pa_nil))))) (pa_cons (pe_call (ok__law_stretches T) (hr.mono (by decide)) rfl T.g__law_stretches T.F__law_stretches.kp bind__law_stretches .nil passL (pa_cons (pv 12) (pa_cons (pv 3) pa_nil))) pa_nil))))) (pss_cons (ps_ret pe_bl) pss_nil) pss_nil) (pss_cons (ps_set (i := 13) sc_law.nd rfl (Or.inl rfl) (pe_call (ok__law_levels T) (hr.mono (by decide)) rfl T.g__law_levels T.F__law_levels.kp bind__law_levels .nil passL (pa_cons (pv 1) (pa_cons (pv 7) (pa_cons (pe_ix (r := rIxL K) ix_list (pv 8) pe_int (fun _ _ => rfl)) pa_nil))))) (pss_cons (ps_set (i := 4) sc_law.nd rfl (Or.inl rfl) (pe_callTy (r := rList1 K) call_list_of (by rfl) T.gb_list bt_list (pa_cons (pv 13) pa_nil))) (pss_cons (ps_set (i := 14) sc_law.nd rfl (Or.inl rfl) (pe_call (ok_hour_tally T) (hr.mono (by decide)) rfl T.g_hour_tally T.F_hour_tally.kp bind_hour_tally .nil passL (pa_cons (pv 9) (pa_cons (pv 10) (pa_cons (pv 11) (pa_cons (pv 3) (pa_cons (pv 4) pa_nil))))))) (pss_cons (ps_if (PW.pt (pw_or (pt_not (pt_val (pe_callB (r := rIsi K) call_isi (by rfl) T.gb_isinstance bt_isinstance (pa_cons (pv 14) (pa_cons (pe_bltn (v := .ty "tuple") rfl T.gb_tuple bt_tuple rfl) pa_nil))))) (pw_or1 (pt_not (pt_val (pe_call (ok__law_same_tuples T) (hr.mono (by decide)) rfl T.g__law_same_tuples T.F__law_same_tuples.kp bind__law_same_tuples .nil passL (pa_cons (pe_lst (pa_cons (pv 14) pa_nil)) (pa_cons (pe_lst (pa_cons (pe_callTy (r := rTuple1 K) call_tuple_of (by rfl) T.gb_tuple bt_tuple (pa_cons (pe_call (ok__law_hours T) (hr.mono (by decide)) rfl T.g__law_hours T.F__law_hours.kp bind__law_hours .nil passL (pa_cons (pv 13) (pa_cons (pv 12) (pa_cons (pv 3) pa_nil)))) pa_nil)) pa_nil)) pa_nil)))))))) (pss_cons (ps_ret pe_bl) pss_nil) pss_nil) (pss_cons (ps_for (passes_of rfl) rfl (show PI _ _ _ (iList K _) from pi_list (pe_lst (pa_cons (pe_slice (r := rSlL K) sl_list (pv 13) (po_some pe_int) po_none) (pa_cons (pe_op op_cat (pv 13) (pe_lst (pa_cons pe_int pa_nil))) (pa_cons (pe_op op_cat (pv 13) (pv 13)) (pa_cons (pe_lst pa_nil) pa_nil)))))) (pg_name (i := 15) sc_law.nd rfl (Or.inl rfl)) (pss_cons (ps_if (pt_cmpR op_ne (pe_call (ok__law_refused T) (hr.mono (by decide)) rfl T.g__law_refused T.F__law_refused.kp bind__law_refused .nil passL (pa_cons (pv 9) (pa_cons (pv 10) (pa_cons (pv 11) (pa_cons (pv 3) (pa_cons (pv 15) pa_nil)))))) pe_int (nomark _)) (pss_cons (ps_ret pe_bl) pss_nil) pss_nil) pss_nil)) (pss_cons (ps_ret (pe_and (pe_cmpR (r := rEqD K) (op_eqD hr.units) (pv 4) (pv 13) (nomark _)) (pe_one (pe_cmpR op_eq (pe_call (ok__law_refused T) (hr.mono (by decide)) rfl T.g__law_refused T.F__law_refused.kp bind__law_refused .nil passL (pa_cons (pv 9) (pa_cons (pv 10) (pa_cons (pv 11) (pa_cons (pv 3) (pa_cons (pv 4) pa_nil)))))) (pe_un un_neg pe_int) (nomark _))))) pss_nil))))))))))))))))))))))), ?_⟩
    refine q_mkpool (E := EZ) (K := K) (σ := [some (.ref a0), none, none, none, none, none, none, none, none, none, none, none, none, none, none, none, none]) (i := 1) (j := 0) rfl (Rp.mono _ (Ex.refl _) exz r_script) hs hm fun pool_10 p_1 ws_2 I_3 C_4 H_5 e_6 s_7 hc_8 hx_9 hm => ?_
    refine qm_asg (E := EZ) (K := K) (σ := [some (.ref a0), some (.ref p_1), none, none, none, none, none, none, none, none, none, none, none, none, none, none, none]) (i := 2) (m_callM (i := 1) rfl (am_cons off_same (m_callM (i := 1) rfl (am_pure (a_one (x_int (i := 25))))) (am_one (m_pure (x_int (i := 4)))))) s_7 hc_8 (Rt.mono _ (Ex.refl _) exz hx_9) hm fun row_11 v_12 ws_18 I_13 C_19 H_14 e_15 s_16 hc_20 k_21 hx_22 r_17 hm => ?_
    refine qm_asg (E := EZ) (K := K) (σ := [some (.ref a0), some (.ref p_1), some v_12, none, none, none, none, none, none, none, none, none, none, none, none, none, none]) (i := 3) (m_callM (i := 1) rfl (am_pure (a_cons (x_int (i := 1)) (a_one (x_int (i := 4)))))) s_16 hc_20 (Rt.mono _ (Ex.refl _) exz hx_22) hm fun level_23 v_24 ws_30 I_25 C_31 H_26 e_27 s_28 hc_32 k_33 hx_34 r_29 hm => ?_
    refine q_asgN (E := EZ) (K := K) (σ := [some (.ref a0), some (.ref p_1), some v_12, some v_24, none, none, none, none, none, none, none, none, none, none, none, none, none]) (i := 4) (n_cb n_list (a_one (x_v (x_var (i := 2) rfl (Rp.mono _ e_27 exz r_17))))) s_28 (fun _ _ h => h.elim) hm fun handed_35 p_36 vs_37 I_38 C_39 H_40 e_41 hp_42 s_43 hc_44 k_45 hl_46 hr_47 hm => ?_
    have ne_48 := ne_new hc_32 hp_42
    have hB_49 : Z p_36 = none := rfl
    have hc_50 := (k_45 _ ne_48).trans hc_32
    refine q_asg (E := EZ) (K := K) (σ := [some (.ref a0), some (.ref p_1), some v_12, some v_24, some (.ref p_36), none, none, none, none, none, none, none, none, none, none, none, none]) (i := 5) (x_own (n_call (a_cons (x_v (x_var (i := 2) rfl (Rp.mono _ (e_27.trans e_41) exz r_17))) (a_one (x_var (i := 3) rfl (Rp.mono _ e_41 exz r_29)))))) s_43 (fun _ _ h => h.elim) hm fun due_51 v_52 I_53 H_54 e_55 s_56 r_57 hm => ?_
    refine s_if (E := EZ) (K := K) (σ := [some (.ref a0), some (.ref p_1), some v_12, some v_24, some (.ref p_36), some v_52, none, none, none, none, none, none, none, none, none, none, none]) (t_or (t_not (t_B (x_call (a_cons (x_see (see_L see_t2) (x_own (n_call (a_cons (x_cell (i := 4) rfl hc_44 hl_46 (a2up e_55 hr_47)) (a_one (x_var (i := 3) rfl (Rp.mono _ (e_41.trans e_55) exz r_29))))))) (a_one (x_see (see_L see_t2) (x_var (i := 5) rfl (Rp.mono _ (Ex.refl _) exz r_57)))))))) (t_test (x_op (o_neD (de_vw de_int) (de_lst de_int) (by decide)) (x_cell (i := 4) rfl hc_44 hl_46 (a2up e_55 hr_47)) (x_var (i := 2) rfl (Rp.mono _ (e_27.trans (e_41.trans e_55)) exz r_17))))) s_56 (fun _ _ h => h.elim) hm (fun I_58 H_59 e_60 s_61 hm => ?_) (fun I_62 H_63 e_64 s_65 hm => ?_)
    · refine q_ret (tz := tNext) (E := EZ) (K := K) (σ := [some (.ref a0), some (.ref p_1), some v_12, some v_24, some (.ref p_36), some v_52, none, none, none, none, none, none, none, none, none, none, none]) x_bl s_61 (fun _ _ h => h.elim) hm fun a_66 v_67 I_68 H_69 e_70 s_71 r_72 hm => ?_
      exact hm v_67 H_69 r_72
    · refine s_ifr (E := EZ) (K := K) (σ := [some (.ref a0), some (.ref p_1), some v_12, some v_24, some (.ref p_36), some v_52, none, none, none, none, none, none, none, none, none, none, none]) (fun (z_81 : (Pl × (List Int))) σ2 I_85 C_86 => ∃ w_83 : Option V, ∃ w_84 : Option V, σ2 = [some (.ref a0), some (.ref p_1), some v_12, some v_24, some (.ref p_36), w_83, w_84, none, none, none, none, none, none, none, none, none, none] ∧ (∃ ws_87 : List V, C_86 p_1 = some (.lst ws_87) ∧ Rt.r pM z_81.1 ws_87 I_85 Z) ∧ (∃ vs_90 : List V, C_86 p_36 = some (.lst vs_90) ∧ vs_90.length ≤ sizeLine ∧ A2 (fun x u => Rp.r pI x u I_85 Z) z_81.2 vs_90)) (t_test (x_op o_gt (x_cb o_len (a_one (x_v (x_var (i := 2) rfl (Rp.mono _ (e_27.trans (e_41.trans (e_55.trans e_64))) exz r_17))))) (x_int (i := 0)))) s_65 (fun _ _ h => h.elim) hm (fun N I_73 H_74 e_75 s_76 hm => ?_) (fun N I_77 H_78 e_79 s_80 hm => ?_) (fun z_81 σ2 I_142 C_143 H_144 e_145 s_146 ⟨w_83, w_84, hs_82, ⟨ws_87, hc_88, hx_89⟩, ⟨vs_90, hc_91, hl_92, hr_93⟩⟩ hm => ?_)
      · refine qm_asg (E := EZ) (K := K) (σ := [some (.ref a0), some (.ref p_1), some v_12, some v_24, some (.ref p_36), some v_52, none, none, none, none, none, none, none, none, none, none, none]) (i := 6) (m_callM (i := 1) rfl (am_pure (a_one (x_cb o_len (a_one (x_v (x_var (i := 2) rfl (Rp.mono _ (e_27.trans (e_41.trans (e_55.trans (e_64.trans e_75)))) exz r_17)))))))) s_76 hc_50 (Rt.mono _ (e_41.trans (e_55.trans (e_64.trans e_75))) exz hx_34) hm fun place_95 v_96 ws_102 I_97 C_103 H_98 e_99 s_100 hc_104 k_105 hx_106 r_101 hm => ?_
        have hc_107 := (k_105 _ (Ne.symm ne_48)).trans hc_44
        refine q_setL (E := EZ) (K := K) (σ := [some (.ref a0), some (.ref p_1), some v_12, some v_24, some (.ref p_36), some v_52, some v_96, none, none, none, none, none, none, none, none, none, none]) (i := 4) rfl hc_107 hl_46 (a2up (e_55.trans (e_64.trans (e_75.trans e_99))) hr_47) (x_op o_sub (x_int (i := 4)) (x_op o_ix (x_v (x_var (i := 2) rfl (Rp.mono _ (e_27.trans (e_41.trans (e_55.trans (e_64.trans (e_75.trans e_99))))) exz r_17))) (x_var (i := 6) rfl (Rp.mono _ (Ex.refl _) exz r_101)))) (x_var (i := 6) rfl (Rp.mono _ (Ex.refl _) exz r_101)) s_100 (fun _ _ h => h.elim) hm fun handed_108 vs_109 I_110 C_111 H_112 e_113 s_114 hc_115 k_116 hl_117 hr_118 hm => ?_
        have hc_119 := (k_116 _ ne_48).trans hc_104
        refine q_asg (E := EZ) (K := K) (σ := [some (.ref a0), some (.ref p_1), some v_12, some v_24, some (.ref p_36), some v_52, some v_96, none, none, none, none, none, none, none, none, none, none]) (i := 5) (x_own (n_call (a_cons (x_cell (i := 4) rfl hc_115 hl_117 (a2up (Ex.refl _) hr_118)) (a_one (x_var (i := 3) rfl (Rp.mono _ (e_41.trans (e_55.trans (e_64.trans (e_75.trans (e_99.trans e_113))))) exz r_29)))))) s_114 (fun _ _ h => h.elim) hm fun due_120 v_121 I_122 H_123 e_124 s_125 r_126 hm => ?_
        refine s_if (E := EZ) (K := K) (σ := [some (.ref a0), some (.ref p_1), some v_12, some v_24, some (.ref p_36), some v_121, some v_96, none, none, none, none, none, none, none, none, none, none]) (t_not (t_B (x_call (a_cons (x_see (see_L see_t2) (x_own (n_call (a_cons (x_cell (i := 4) rfl hc_115 hl_117 (a2up e_124 hr_118)) (a_one (x_var (i := 3) rfl (Rp.mono _ (e_41.trans (e_55.trans (e_64.trans (e_75.trans (e_99.trans (e_113.trans e_124)))))) exz r_29))))))) (a_one (x_see (see_L see_t2) (x_var (i := 5) rfl (Rp.mono _ (Ex.refl _) exz r_126)))))))) s_125 (fun _ _ h => h.elim) hm (fun I_127 H_128 e_129 s_130 hm => ?_) (fun I_131 H_132 e_133 s_134 hm => ?_)
        · refine q_ret (tz := tNext) (E := EZ) (K := K) (σ := [some (.ref a0), some (.ref p_1), some v_12, some v_24, some (.ref p_36), some v_121, some v_96, none, none, none, none, none, none, none, none, none, none]) x_bl s_130 (fun _ _ h => h.elim) hm fun a_135 v_136 I_137 H_138 e_139 s_140 r_141 hm => ?_
          exact hm v_136 H_138 r_141
        · exact hm _ _ _ _ (e_75.trans (e_99.trans (e_113.trans (e_124.trans e_133)))) s_134 ⟨some v_121, some v_96, rfl, ⟨_, hc_119, Rt.mono _ (e_113.trans (e_124.trans e_133)) exz hx_106⟩, ⟨_, hc_115, hl_117, a2up (e_124.trans e_133) hr_118⟩⟩
      · exact hm _ _ _ _ e_79 s_80 ⟨some v_52, none, rfl, ⟨_, hc_50, Rt.mono _ (e_41.trans (e_55.trans (e_64.trans e_79))) exz hx_34⟩, ⟨_, hc_44, hl_46, a2up (e_55.trans (e_64.trans e_79)) hr_47⟩⟩
      subst hs_82
      refine s_if (E := EZ) (K := K) (σ := [some (.ref a0), some (.ref p_1), some v_12, some v_24, some (.ref p_36), w_83, w_84, none, none, none, none, none, none, none, none, none, none]) (t_not (t_B (x_call (a_cons (x_see (see_L see_t2) (x_own (n_call (a_cons (x_cb o_tuple (a_one (x_v (x_var (i := 2) rfl (Rp.mono _ (e_27.trans (e_41.trans (e_55.trans (e_64.trans e_145)))) exz r_17))))) (a_one (x_var (i := 3) rfl (Rp.mono _ (e_41.trans (e_55.trans (e_64.trans e_145))) exz r_29))))))) (a_one (x_see (see_L see_t2) (x_own (n_call (a_cons (x_v (x_var (i := 2) rfl (Rp.mono _ (e_27.trans (e_41.trans (e_55.trans (e_64.trans e_145)))) exz r_17))) (a_one (x_var (i := 3) rfl (Rp.mono _ (e_41.trans (e_55.trans (e_64.trans e_145))) exz r_29)))))))))))) s_146 (fun _ _ h => h.elim) hm (fun I_147 H_148 e_149 s_150 hm => ?_) (fun I_151 H_152 e_153 s_154 hm => ?_)
      · refine q_ret (tz := tNext) (E := EZ) (K := K) (σ := [some (.ref a0), some (.ref p_1), some v_12, some v_24, some (.ref p_36), w_83, w_84, none, none, none, none, none, none, none, none, none, none]) x_bl s_150 (fun _ _ h => h.elim) hm fun a_155 v_156 I_157 H_158 e_159 s_160 r_161 hm => ?_
        exact hm v_156 H_158 r_161
      · refine qm_asg (E := EZ) (K := K) (σ := [some (.ref a0), some (.ref p_1), some v_12, some v_24, some (.ref p_36), w_83, w_84, none, none, none, none, none, none, none, none, none, none]) (i := 7) (m_callM (i := 1) rfl (am_pure (a_cons (x_int (i := 1)) (a_one (x_int (i := 8)))))) s_154 hc_88 (Rt.mono _ e_153 exz hx_89) hm fun hours_162 v_163 ws_169 I_164 C_170 H_165 e_166 s_167 hc_171 k_172 hx_173 r_168 hm => ?_
        have hc_174 := (k_172 _ (Ne.symm ne_48)).trans hc_91
        refine qm_ifj (E := EZ) (K := K) (σ := [some (.ref a0), some (.ref p_1), some v_12, some v_24, some (.ref p_36), w_83, w_84, some v_163, none, none, none, none, none, none, none, none, none]) (fun (z_195 : (Pl × Int)) σ2 I_197 C_198 => ∃ v_202 : V, σ2 = [some (.ref a0), some (.ref p_1), some v_12, some v_24, some (.ref p_36), w_83, w_84, some v_202, none, none, none, none, none, none, none, none, none] ∧ (∃ ws_199 : List V, C_198 p_1 = some (.lst ws_199) ∧ Rt.r pM z_195.1 ws_199 I_197 Z) ∧ Rp.r pI z_195.2 v_202 I_197 Z ∧ C_198 p_36 = some (.lst vs_90)) (tm_test (m_op (fun _ => o_eqI) off_same (m_callM (i := 1) rfl (am_pure (a_one (x_int (i := 5))))) (m_pure (x_int (i := 0))))) s_167 hc_171 (Rt.mono _ (Ex.refl _) exz hx_173) hm (fun N y_183 ws_184 I_175 C_185 H_176 e_177 s_178 hc_186 k_187 hx_188 hm => ?_) (fun N y_189 ws_190 I_179 C_191 H_180 e_181 s_182 hc_192 k_193 hx_194 hm => ?_) (fun z_195 σ2 I_221 C_222 H_223 e_224 s_225 ⟨v_202, hs_196, ⟨ws_199, hc_200, hx_201⟩, r_203, hc_204⟩ hm => ?_)
        · have hc_206 := (k_187 _ (Ne.symm ne_48)).trans hc_174
          refine qm_asg (E := EZ) (K := K) (σ := [some (.ref a0), some (.ref p_1), some v_12, some v_24, some (.ref p_36), w_83, w_84, some v_163, none, none, none, none, none, none, none, none, none]) (i := 7) (m_callM (i := 1) rfl (am_pure (a_cons (x_int (i := 1)) (a_one (x_int (i := 24)))))) s_178 hc_186 (Rt.mono _ (Ex.refl _) exz hx_188) hm fun hours_207 v_208 ws_214 I_209 C_215 H_210 e_211 s_212 hc_216 k_217 hx_218 r_213 hm => ?_
          have hc_219 := (k_217 _ (Ne.symm ne_48)).trans hc_206
          exact hm _ _ _ _ (e_177.trans e_211) s_212 ⟨v_208, rfl, ⟨_, hc_216, Rt.mono _ (Ex.refl _) exz hx_218⟩, Rp.mono _ (Ex.refl _) exz r_213, hc_219⟩
        · have hc_220 := (k_193 _ (Ne.symm ne_48)).trans hc_174
          exact hm _ _ _ _ e_181 s_182 ⟨v_163, rfl, ⟨_, hc_192, Rt.mono _ (Ex.refl _) exz hx_194⟩, Rp.mono _ e_181 exz r_168, hc_220⟩
        subst hs_196
        refine qm_asg (E := EZ) (K := K) (σ := [some (.ref a0), some (.ref p_1), some v_12, some v_24, some (.ref p_36), w_83, w_84, some v_202, none, none, none, none, none, none, none, none, none]) (i := 8) (m_callM (i := 1) rfl (am_cons off_same (m_callM (i := 1) rfl (am_pure (a_cons (x_int (i := 1)) (a_one (x_int (i := 4)))))) (am_cons off_same (m_callM (i := 1) rfl (am_pure (a_cons (x_int (i := 1)) (a_one (x_int (i := 6)))))) (am_one (m_pure (x_var (i := 7) rfl (Rp.mono _ (Ex.refl _) exz r_203))))))) s_225 hc_200 (Rt.mono _ (Ex.refl _) exz hx_201) hm fun data_226 v_227 ws_233 I_228 C_234 H_229 e_230 s_231 hc_235 k_236 hx_237 r_232 hm => ?_
        have hc_238 := (k_236 _ (Ne.symm ne_48)).trans hc_204
        refine q_asg (E := EZ) (K := K) (σ := [some (.ref a0), some (.ref p_1), some v_12, some v_24, some (.ref p_36), w_83, w_84, some v_202, some v_227, none, none, none, none, none, none, none, none]) (i := 9) (x_make (a_cons (x_k (k := ((0 : Nat) : Int)) (o_pjD pj0) (x_var (i := 8) rfl (Rp.mono _ (Ex.refl _) exz r_232))) (a_cons (x_k (k := ((1 : Nat) : Int)) (o_pjD (pjs pj0)) (x_var (i := 8) rfl (Rp.mono _ (Ex.refl _) exz r_232))) (a_cons (x_k (k := ((2 : Nat) : Int)) (o_pjD (pjs (pjs pj0))) (x_var (i := 8) rfl (Rp.mono _ (Ex.refl _) exz r_232))) (a_cons (x_k (k := ((3 : Nat) : Int)) (o_pjD (pjs (pjs (pjs pj0)))) (x_var (i := 8) rfl (Rp.mono _ (Ex.refl _) exz r_232))) (a_one (x_k (k := ((4 : Nat) : Int)) (o_pjD (pjs (pjs (pjs (pjs pj1))))) (x_var (i := 8) rfl (Rp.mono _ (Ex.refl _) exz r_232))))))))) s_231 (fun _ _ h => h.elim) hm fun world_239 v_240 I_241 H_242 e_243 s_244 r_245 hm => ?_
        refine qm_asg (E := EZ) (K := K) (σ := [some (.ref a0), some (.ref p_1), some v_12, some v_24, some (.ref p_36), w_83, w_84, some v_202, some v_227, some v_240, none, none, none, none, none, none, none]) (i := 10) (m_callM (i := 1) rfl (am_pure (a_one (x_cb o_len (a_one (x_v (x_k (k := ((4 : Nat) : Int)) (o_pjD (pjs (pjs (pjs (pjs pj1))))) (x_var (i := 8) rfl (Rp.mono _ e_243 exz r_232))))))))) s_244 hc_235 (Rt.mono _ e_243 exz hx_237) hm fun run_246 v_247 ws_253 I_248 C_254 H_249 e_250 s_251 hc_255 k_256 hx_257 r_252 hm => ?_
        have hc_258 := (k_256 _ (Ne.symm ne_48)).trans hc_238
        refine qm_asg (E := EZ) (K := K) (σ := [some (.ref a0), some (.ref p_1), some v_12, some v_24, some (.ref p_36), w_83, w_84, some v_202, some v_227, some v_240, some v_247, none, none, none, none, none, none]) (i := 11) (m_callM (i := 1) rfl (am_pure (a_one (x_cb o_len (a_one (x_v (x_k (k := ((2 : Nat) : Int)) (o_pjD (pjs (pjs pj0))) (x_var (i := 8) rfl (Rp.mono _ (e_243.trans e_250) exz r_232))))))))) s_251 hc_255 (Rt.mono _ (Ex.refl _) exz hx_257) hm fun area_259 v_260 ws_266 I_261 C_267 H_262 e_263 s_264 hc_268 k_269 hx_270 r_265 hm => ?_
        have hc_271 := (k_269 _ (Ne.symm ne_48)).trans hc_258
        refine qm_asg (E := EZ) (K := K) (σ := [some (.ref a0), some (.ref p_1), some v_12, some v_24, some (.ref p_36), w_83, w_84, some v_202, some v_227, some v_240, some v_247, some v_260, none, none, none, none, none]) (i := 3) (m_callM (i := 1) rfl (am_pure (a_cons (x_int (i := 1)) (a_one (x_k (k := ((0 : Nat) : Int)) (o_pjD pj0) (x_var (i := 8) rfl (Rp.mono _ (e_243.trans (e_250.trans e_263)) exz r_232))))))) s_264 hc_268 (Rt.mono _ (Ex.refl _) exz hx_270) hm fun level_272 v_273 ws_279 I_274 C_280 H_275 e_276 s_277 hc_281 k_282 hx_283 r_278 hm => ?_
        have hc_284 := (k_282 _ (Ne.symm ne_48)).trans hc_271
        refine q_asg (E := EZ) (K := K) (σ := [some (.ref a0), some (.ref p_1), some v_12, some v_273, some (.ref p_36), w_83, w_84, some v_202, some v_227, some v_240, some v_247, some v_260, none, none, none, none, none]) (i := 12) (x_lc (i_rng1 (a_one (x_var (i := 7) rfl (Rp.mono _ (e_230.trans (e_243.trans (e_250.trans (e_263.trans e_276)))) exz r_203)))) g1 (fun _ _ _ _ ⟨_, h, _⟩ => by rw [h]; rfl) (fun x_285 σ2 I_286 C_287 e_288 c_289 ⟨v_290, h, r_291⟩ => by subst h; exact (x_call (a_cons (x_var (i := 8) rfl (Rp.mono _ (e_243.trans (e_250.trans (e_263.trans (e_276.trans e_288)))) exz r_232)) (a_cons (x_var (i := 10) rfl (Rp.mono _ (e_263.trans (e_276.trans e_288)) exz r_252)) (a_cons (x_var (i := 11) rfl (Rp.mono _ (e_276.trans e_288) exz r_265)) (a_one (x_var (i := 16) rfl (Rp.mono _ (Ex.refl _) exz r_291)))))))) (fun _ _ _ _ _ e ⟨v_290, h, r_291⟩ => ⟨v_290, h, Rp.mono _ e exz r_291⟩)) s_277 (fun _ _ h => h.elim) hm fun came_292 v_293 I_294 H_295 e_296 s_297 r_298 hm => ?_
        refine s_if (E := EZ) (K := K) (σ := [some (.ref a0), some (.ref p_1), some v_12, some v_273, some (.ref p_36), w_83, w_84, some v_202, some v_227, some v_240, some v_247, some v_260, some v_293, none, none, none, none]) (t_not (t_B (x_call (a_cons (x_see (see_L see_t2) (x_own (n_call (a_cons (x_var (i := 9) rfl (Rp.mono _ (e_250.trans (e_263.trans (e_276.trans e_296))) exz r_245)) (a_cons (x_var (i := 10) rfl (Rp.mono _ (e_263.trans (e_276.trans e_296)) exz r_252)) (a_cons (x_var (i := 11) rfl (Rp.mono _ (e_276.trans e_296) exz r_265)) (a_one (x_var (i := 3) rfl (Rp.mono _ e_296 exz r_278))))))))) (a_one (x_see (see_L see_t2) (x_own (n_call (a_cons (x_v (x_var (i := 12) rfl (Rp.mono _ (Ex.refl _) exz r_298))) (a_one (x_var (i := 3) rfl (Rp.mono _ e_296 exz r_278)))))))))))) s_297 (fun _ _ h => h.elim) hm (fun I_299 H_300 e_301 s_302 hm => ?_) (fun I_303 H_304 e_305 s_306 hm => ?_)
        · refine q_ret (tz := tNext) (E := EZ) (K := K) (σ := [some (.ref a0), some (.ref p_1), some v_12, some v_273, some (.ref p_36), w_83, w_84, some v_202, some v_227, some v_240, some v_247, some v_260, some v_293, none, none, none, none]) x_bl s_302 (fun _ _ h => h.elim) hm fun a_307 v_308 I_309 H_310 e_311 s_312 r_313 hm => ?_
          exact hm v_308 H_310 r_313
        · refine qm_asg (E := EZ) (K := K) (σ := [some (.ref a0), some (.ref p_1), some v_12, some v_273, some (.ref p_36), w_83, w_84, some v_202, some v_227, some v_240, some v_247, some v_260, some v_293, none, none, none, none]) (i := 13) (m_callM (i := 1) rfl (am_pure (a_cons (x_var (i := 7) rfl (Rp.mono _ (e_230.trans (e_243.trans (e_250.trans (e_263.trans (e_276.trans (e_296.trans e_305)))))) exz r_203)) (a_one (x_k (k := ((0 : Nat) : Int)) (o_pjD pj0) (x_var (i := 8) rfl (Rp.mono _ (e_243.trans (e_250.trans (e_263.trans (e_276.trans (e_296.trans e_305))))) exz r_232))))))) s_306 hc_281 (Rt.mono _ (e_296.trans e_305) exz hx_283) hm fun warning_314 v_315 ws_321 I_316 C_322 H_317 e_318 s_319 hc_323 k_324 hx_325 r_320 hm => ?_
          have hc_326 := (k_324 _ (Ne.symm ne_48)).trans hc_284
          refine q_asg (E := EZ) (K := K) (σ := [some (.ref a0), some (.ref p_1), some v_12, some v_273, some (.ref p_36), w_83, w_84, some v_202, some v_227, some v_240, some v_247, some v_260, some v_293, some v_315, none, none, none]) (i := 4) (x_cb o_list (a_one (x_v (x_var (i := 13) rfl (Rp.mono _ (Ex.refl _) exz r_320))))) s_319 (fun _ _ h => h.elim) hm fun handed_327 v_328 I_329 H_330 e_331 s_332 r_333 hm => ?_
          refine q_asg (E := EZ) (K := K) (σ := [some (.ref a0), some (.ref p_1), some v_12, some v_273, some v_328, w_83, w_84, some v_202, some v_227, some v_240, some v_247, some v_260, some v_293, some v_315, none, none, none]) (i := 14) (x_call (a_cons (x_var (i := 9) rfl (Rp.mono _ (e_250.trans (e_263.trans (e_276.trans (e_296.trans (e_305.trans (e_318.trans e_331)))))) exz r_245)) (a_cons (x_var (i := 10) rfl (Rp.mono _ (e_263.trans (e_276.trans (e_296.trans (e_305.trans (e_318.trans e_331))))) exz r_252)) (a_cons (x_var (i := 11) rfl (Rp.mono _ (e_276.trans (e_296.trans (e_305.trans (e_318.trans e_331)))) exz r_265)) (a_cons (x_var (i := 3) rfl (Rp.mono _ (e_296.trans (e_305.trans (e_318.trans e_331))) exz r_278)) (a_one (x_var (i := 4) rfl (Rp.mono _ (Ex.refl _) exz r_333)))))))) s_332 (fun _ _ h => h.elim) hm fun told_334 v_335 I_336 H_337 e_338 s_339 r_340 hm => ?_
          refine s_if (E := EZ) (K := K) (σ := [some (.ref a0), some (.ref p_1), some v_12, some v_273, some v_328, w_83, w_84, some v_202, some v_227, some v_240, some v_247, some v_260, some v_293, some v_315, some v_335, none, none]) (t_or (t_not (t_B (x_cb (o_isi (n := "tuple") (by decide +kernel)) (a_cons (x_var (i := 14) rfl (Rp.mono _ (Ex.refl _) exz r_340)) (a_one (x_c (R := pY "tuple") (a := ()) fun _ _ => rfl)))))) (t_not (t_B (x_call (a_cons (x_lst (al_cons (x_var (i := 14) rfl (Rp.mono _ (Ex.refl _) exz r_340)) al_nil) (Nat.le_of_ble_eq_true rfl)) (a_one (x_lst (al_cons (x_cb o_tuple (a_one (x_v (x_own (n_call (a_cons (x_var (i := 13) rfl (Rp.mono _ (e_331.trans e_338) exz r_320)) (a_cons (x_var (i := 12) rfl (Rp.mono _ (e_305.trans (e_318.trans (e_331.trans e_338))) exz r_298)) (a_one (x_var (i := 3) rfl (Rp.mono _ (e_296.trans (e_305.trans (e_318.trans (e_331.trans e_338)))) exz r_278)))))))))) al_nil) (Nat.le_of_ble_eq_true rfl)))))))) s_339 (fun _ _ h => h.elim) hm (fun I_341 H_342 e_343 s_344 hm => ?_) (fun I_345 H_346 e_347 s_348 hm => ?_)
          · refine q_ret (tz := tNext) (E := EZ) (K := K) (σ := [some (.ref a0), some (.ref p_1), some v_12, some v_273, some v_328, w_83, w_84, some v_202, some v_227, some v_240, some v_247, some v_260, some v_293, some v_315, some v_335, none, none]) x_bl s_344 (fun _ _ h => h.elim) hm fun a_349 v_350 I_351 H_352 e_353 s_354 r_355 hm => ?_
            exact hm v_350 H_352 r_355
          · refine s_forR (E := EZ) (K := K) (σ := [some (.ref a0), some (.ref p_1), some v_12, some v_273, some v_328, w_83, w_84, some v_202, some v_227, some v_240, some v_247, some v_260, some v_293, some v_315, some v_335, none, none]) (fun (z_356 : Unit) σ2 I_359 C_360 => ∃ w_358 : Option V, σ2 = [some (.ref a0), some (.ref p_1), some v_12, some v_273, some v_328, w_83, w_84, some v_202, some v_227, some v_240, some v_247, some v_260, some v_293, some v_315, some v_335, w_358, none] ∧ C_360 p_1 = some (.lst ws_321)) (i_list (x_lst (al_cons (x_sl (x_v (x_var (i := 13) rfl (Rp.mono _ (e_331.trans (e_338.trans e_347)) exz r_320))) (p_some (x_int (i := 1))) p_none) (al_cons (x_op o_cat (x_v (x_var (i := 13) rfl (Rp.mono _ (e_331.trans (e_338.trans e_347)) exz r_320))) (x_v (x_lst (al_cons (x_int (i := 0)) al_nil) (Nat.le_of_ble_eq_true rfl)))) (al_cons (x_op o_cat (x_v (x_var (i := 13) rfl (Rp.mono _ (e_331.trans (e_338.trans e_347)) exz r_320))) (x_v (x_var (i := 13) rfl (Rp.mono _ (e_331.trans (e_338.trans e_347)) exz r_320)))) (al_cons (x_lst (R := pI) al_nil (by decide)) al_nil)))) (Nat.le_of_ble_eq_true rfl))) s_348 (fun _ _ h => h.elim) hm (fun _ e_371 => ⟨none, rfl, hc_323⟩) (fun _ _ _ _ _ => trivial) (fun _ _ _ _ _ e ⟨w_358, hs_357, hc_361⟩ => ⟨w_358, hs_357, hc_361⟩) (fun N x_363 v_364 z_356 σ2 I_365 C_366 H_367 e_368 s_369 ⟨w_358, hs_357, hc_361⟩ r_370 hm => ?_) (fun z_395 σ2 I_390 C_391 H_392 e_393 s_394 ⟨w_397, hs_396, hc_400⟩ hm => ?_)
            · subst hs_357
              refine g1 (K := K) x_363 v_364 I_365 C_366 H_367 _ s_369 r_370 fun σ2 ⟨v_372, hs_374, r_373⟩ => ?_
              subst hs_374
              refine s_if (E := EZ) (K := K) (σ := [some (.ref a0), some (.ref p_1), some v_12, some v_273, some v_328, w_83, w_84, some v_202, some v_227, some v_240, some v_247, some v_260, some v_293, some v_315, some v_335, some v_372, none]) (t_test (x_op o_neI (x_call (a_cons (x_var (i := 9) rfl (Rp.mono _ (e_250.trans (e_263.trans (e_276.trans (e_296.trans (e_305.trans (e_318.trans (e_331.trans (e_338.trans (e_347.trans e_368))))))))) exz r_245)) (a_cons (x_var (i := 10) rfl (Rp.mono _ (e_263.trans (e_276.trans (e_296.trans (e_305.trans (e_318.trans (e_331.trans (e_338.trans (e_347.trans e_368)))))))) exz r_252)) (a_cons (x_var (i := 11) rfl (Rp.mono _ (e_276.trans (e_296.trans (e_305.trans (e_318.trans (e_331.trans (e_338.trans (e_347.trans e_368))))))) exz r_265)) (a_cons (x_var (i := 3) rfl (Rp.mono _ (e_296.trans (e_305.trans (e_318.trans (e_331.trans (e_338.trans (e_347.trans e_368)))))) exz r_278)) (a_one (x_var (i := 15) rfl (Rp.mono _ (Ex.refl _) exz r_373)))))))) (x_int (i := 0)))) s_369 (fun _ _ h => h.elim) hm (fun I_375 H_376 e_377 s_378 hm => ?_) (fun I_379 H_380 e_381 s_382 hm => ?_)
              · refine q_ret (tz := tNext) (E := EZ) (K := K) (σ := [some (.ref a0), some (.ref p_1), some v_12, some v_273, some v_328, w_83, w_84, some v_202, some v_227, some v_240, some v_247, some v_260, some v_293, some v_315, some v_335, some v_372, none]) x_bl s_378 (fun _ _ h => h.elim) hm fun a_383 v_384 I_385 H_386 e_387 s_388 r_389 hm => ?_
                exact hm v_384 H_386 r_389
              · exact hm _ _ _ _ e_381 s_382 ⟨some v_372, rfl, hc_361⟩
            subst hs_396
            refine q_ret (tz := tNext) (E := EZ) (K := K) (σ := [some (.ref a0), some (.ref p_1), some v_12, some v_273, some v_328, w_83, w_84, some v_202, some v_227, some v_240, some v_247, some v_260, some v_293, some v_315, some v_335, w_397, none]) (x_andV (x_op (o_eqD (de_lst de_int) (de_lst de_int) (by decide)) (x_var (i := 4) rfl (Rp.mono _ (e_338.trans (e_347.trans e_393)) exz r_333)) (x_var (i := 13) rfl (Rp.mono _ (e_331.trans (e_338.trans (e_347.trans e_393))) exz r_320))) (x_op o_eqI (x_call (a_cons (x_var (i := 9) rfl (Rp.mono _ (e_250.trans (e_263.trans (e_276.trans (e_296.trans (e_305.trans (e_318.trans (e_331.trans (e_338.trans (e_347.trans e_393))))))))) exz r_245)) (a_cons (x_var (i := 10) rfl (Rp.mono _ (e_263.trans (e_276.trans (e_296.trans (e_305.trans (e_318.trans (e_331.trans (e_338.trans (e_347.trans e_393)))))))) exz r_252)) (a_cons (x_var (i := 11) rfl (Rp.mono _ (e_276.trans (e_296.trans (e_305.trans (e_318.trans (e_331.trans (e_338.trans (e_347.trans e_393))))))) exz r_265)) (a_cons (x_var (i := 3) rfl (Rp.mono _ (e_296.trans (e_305.trans (e_318.trans (e_331.trans (e_338.trans (e_347.trans e_393)))))) exz r_278)) (a_one (x_var (i := 4) rfl (Rp.mono _ (e_338.trans (e_347.trans e_393)) exz r_333)))))))) (x_un o_neg (x_int (i := 1))))) s_394 (fun _ _ h => h.elim) hm fun a_402 v_403 I_404 H_405 e_406 s_407 r_408 hm => ?_
            exact hm v_403 H_405 r_408
end
end K61

namespace K61
open PySem Sd
/-! the pool -/
theorem mix_ok (c t : Int) : ∃ v, m__law_mix c t = .ok v := by
  unfold m__law_mix
  simp [rMul, rMod]
/-- the pool's counter does not run below 0 -/
abbrev PI_ (p : Pl) : Prop := 0 ≤ p.2.1 ∧ 0 ≤ p.2.2.1
theorem fill_is (p : Pl) (h : PI_ p) : Is (m__law_fill () p) fun b => PI_ b.2 := by
  unfold m__law_fill
  simp only [Res.bind_ok, rLen_eq, bin_ok, un_ok, rLt_eq, rGt_eq, ifR_ok, idR_eq]
  refine Is.bind (Q := fun z => z.1 = p) ?_ fun z hz => ?_
  · by_cases h1 : p.2.1 < (p.2.2.2.length : Int)
    · obtain ⟨x, e, _⟩ := ix_get h.1 h1
      simp only [decide_eq_true_eq, if_pos h1, e, Res.bind_ok]
      exact rfl
    · simp only [decide_eq_true_eq, if_neg h1]
      by_cases h2 : 0 < (p.2.2.2.length : Int)
      · obtain ⟨x, e, _⟩ := ix_get (xs := p.2.2.2) (Int.emod_nonneg p.2.2.1 (by omega)) (Int.emod_lt_of_pos p.2.2.1 h2)
        simp only [if_pos h2, rMod_ok h2, bin, Res.bind_ok, e]
        exact rfl
      · simp only [if_neg h2]
        exact rfl
  · obtain ⟨q, c⟩ := z
    have hz : q = p := hz
    subst hz
    refine Is.bind (Q := fun _ => True) ?_ fun c2 _ => ?_
    · dsimp only
      by_cases h3 : c < 0
      · simp only [decide_eq_true_eq, if_pos h3, bin, Res.bind_ok]
        rw [rMul_ok (.inl (by decide))]
        trivial
      · simp only [decide_eq_true_eq, if_neg h3]
        trivial
    · have hp : rPow 10 18 = .ok (10 ^ 18) := rPow_ok (by decide)
      simp only [thenR_eq, bin_ok, rAdd_eq, Res.bind_ok, hp, rGe_eq, rLe_eq, andR_ok, ifR_ok]
      split
      · exact ⟨by dsimp only; omega, by dsimp only; omega⟩
      · obtain ⟨v, hv⟩ := mix_ok c2 (q.2.2.1 + 1)
        simp only [pair_ok, un_ok, hv, Res.bind_ok]
        exact ⟨by dsimp only; omega, by dsimp only; omega⟩
theorem take_is {n : Int} {p : Pl} (h : PI_ p) (h0 : 0 < n) (h1 : n < 1073741824) : Is (m__law_take n p) fun b => (0 ≤ b.1 ∧ b.1 < n) ∧ PI_ b.2 := by
  unfold m__law_take
  simp only [bin_ok, rLt_eq, ifR_ok]
  refine Is.bind (Q := PI_) ?_ fun z hz => ?_
  · split
    · exact Is.bind (fill_is p h) fun b hb => hb
    · exact h
  · simp only [un_ok, idR_eq, bin_ok, rMod_ok h0, rDiv_ok ⟨h0, h1⟩, Res.bind_ok, thenR_eq]
    exact ⟨⟨Int.emod_nonneg _ (by omega), Int.emod_lt_of_pos _ h0⟩, hz⟩
theorem take_ok {n : Int} {p : Pl} (h : PI_ p) (h0 : 0 < n) (h1 : n < 1073741824) : ∃ b, m__law_take n p = .ok b ∧ (0 ≤ b.1 ∧ b.1 < n) ∧ PI_ b.2 := (take_is h h0 h1).get
theorem from_is {lo hi : Int} {p : Pl} (h : PI_ p) (h0 : lo ≤ hi) (h1 : hi - lo < 1073741823) : Is (m__law_from lo hi p) fun b => (lo ≤ b.1 ∧ b.1 ≤ hi) ∧ PI_ b.2 := by
  unfold m__law_from
  obtain ⟨b, e, hb, hp⟩ := take_ok (n := hi - lo + 1) h (by omega) (by omega)
  simp only [binM, callM, liftM_eq, bin_ok, rSub_eq, rAdd_eq, Res.bind_ok, e]
  exact ⟨⟨by dsimp only; omega, by dsimp only; omega⟩, hp⟩
theorem from_ok {lo hi : Int} {p : Pl} (h : PI_ p) (h0 : lo ≤ hi) (h1 : hi - lo < 1073741823) : ∃ b, m__law_from lo hi p = .ok b ∧ (lo ≤ b.1 ∧ b.1 ≤ hi) ∧ PI_ b.2 := (from_is h h0 h1).get

/-! a world that is drawn: names -/
abbrev ABC : Str := "abcdefghijklmnopqrstuvwxyz"
def Nm (w : Str) : Prop := 1 ≤ w.length ∧ w.length ≤ 12 ∧ ∀ c ∈ w.cps.toList, c ∈ ABC.cps.toList
theorem isname {w : Str} (h : Nm w) : m_is_name w = .ok true := by
  obtain ⟨h1, h2, h3⟩ := h
  unfold m_is_name
  simp only [un_ok, rLenS_ok (a := w) (by omega), bin_ok, rLt_eq, rGt_eq, orR_ok, ifR_ok, signsR_ok (z := w) (by omega), Res.bind_ok]
  rw [if_neg (by simp; omega)]
  rw [loopR_any (p := fun _ => false) (r := false) fun x hx => ?_]
  · simp
  · unfold signs at hx
    obtain ⟨c, hc, rfl⟩ := List.mem_map.mp hx
    unfold ninC
    rw [oneR_ok, Res.bind_ok, decide_eq_true (h3 c hc)]
    rfl
structure Nms (ns : List Str) : Prop where
  ok : ∀ w ∈ ns, Nm w
  nd : ns.Nodup
theorem nd_take {α : Type} {l : List α} (h : l.Nodup) {i : Nat} {x : α} (hx : l[i]? = some x) : x ∉ l.take i := fun hm => by
  obtain ⟨j, hj⟩ := List.mem_iff_getElem?.mp hm
  have hji : j < i := by
    have := (List.getElem?_eq_some_iff.mp hj).1
    rw [List.length_take] at this
    omega
  rw [List.getElem?_take_of_lt hji] at hj
  obtain ⟨h1, e1⟩ := List.getElem?_eq_some_iff.mp hj
  obtain ⟨h2, e2⟩ := List.getElem?_eq_some_iff.mp hx
  exact List.pairwise_iff_getElem.mp h j i h1 h2 hji (e1.trans e2.symm)
theorem names_ok {ns : List Str} (h : Nms ns) {m : Int} (hl : (ns.length : Int) ≤ m) (hm : m ≤ 1000) : m_check_names ns m = .ok () := by
  unfold m_check_names
  simp only [un_ok, rLen_eq, bin_ok, rGt_eq, ifR_ok, Res.bind_ok, enumR_eq]
  rw [if_neg (by simp; omega)]
  have := loopN_inv' (fun _ : Unit => True) (xs := enumF 0 ns) (s := ()) (f := ?f) trivial ?h
  case f => exact (fun (x_16 : (Int × Str)) (z_9 : Unit) => (ifR (orR (un notR (un m_is_name (Res.ok x_16.2))) (bin inR (Res.ok x_16.2) (slR (Res.ok ns) (Res.ok none) (someR (Res.ok x_16.1))))) ((Res.ok x_16.1).bind fun i => Res.exc .BadName i) (Res.ok ())))
  case h =>
    intro x _ hx _
    obtain ⟨i, hi, e⟩ := mem_enumF.mp hx
    rw [un_ok, isname (h.ok _ (List.mem_of_getElem? hi)), someR_ok, slR_ok, e, cut_lo (by omega), Int.toNat_natCast, bin_ok, inR_eq, decide_eq_false (nd_take h.nd hi)]
    trivial
  obtain ⟨u, e, _⟩ := this.get
  refine (congrArg (fun m => Res.bind m _) e).trans ?_
  rfl
theorem nm_y : ∀ n ∈ rangeL 1 13, Nm (repS "y" n) := by
  unfold Nm
  decide +kernel
theorem nd_y : ((rangeL 1 13).map (repS "y")).Nodup := by decide +kernel
theorem sub_len {α : Type} [DecidableEq α] : ∀ {l m : List α}, l.Nodup → (∀ x ∈ l, x ∈ m) → l.length ≤ m.length
  | [], m, _, _ => Nat.zero_le _
  | x :: l, m, h, hs => by
    rw [List.nodup_cons] at h
    have hx := hs x List.mem_cons_self
    have := sub_len (m := m.erase x) h.2 fun y hy => (List.mem_erase_of_ne (by rintro rfl; exact h.1 hy)).mpr (hs y (List.mem_cons_of_mem _ hy))
    rw [List.length_erase_of_mem hx] at this
    have := List.length_pos_of_mem hx
    rw [List.length_cons]
    omega
theorem name_is {ns : List Str} (h : Nms ns) (hl : ns.length ≤ 11) {p : Pl} (hp : PI_ p) : Is (m__law_name ns p) fun b => (Nm b.1 ∧ b.1 ∉ ns) ∧ PI_ b.2 := by
  unfold m__law_name
  obtain ⟨n, en, hn, pn⟩ := from_ok (lo := 1) (hi := 12) hp (by decide) (by decide)
  simp only [Res.bind_ok, unM_eq, pair_ok, callM_ok, en, rng1_ok (n := n.1) (by omega), liftM_eq]
  refine Is.bind (loopN_inv (fun i (z : Str × Pl) => (z.1.length = i ∧ ∀ c ∈ z.1.cps.toList, c ∈ ABC.cps.toList) ∧ PI_ z.2) ⟨⟨rfl, fun c hc => by cases hc⟩, pn⟩ fun i x z hx ⟨⟨z1, z2⟩, z3⟩ => ?_) fun z ⟨⟨z1, z2⟩, z3⟩ => ?_
  · have hi := List.getElem?_eq_some_iff.mp hx |>.1
    rw [rangeL_length] at hi
    obtain ⟨k, ek, hk, pk⟩ := take_ok (n := 26) z3 (by decide) (by decide)
    obtain ⟨c, hc⟩ : ∃ c, L2.atI ABC.cps.toList k.1 = some c := by
      unfold L2.atI L2.ixN
      rw [if_pos hk.1, if_pos (by have : (ABC.cps.toList.length : Int) = 26 := by decide +kernel
                                  omega)]
      have : k.1.toNat < ABC.cps.toList.length := by
        have : ABC.cps.toList.length = 26 := by decide +kernel
        omega
      exact ⟨_, List.getElem?_eq_getElem this⟩
    simp only [binM_eq, liftM_eq, Res.bind_ok, callM_ok, ek]
    rw [ixS_ok (z := ABC) (by decide +kernel) hc, Res.bind_ok, Res.bind_ok, rCatS_ok (by rw [z1]; show i + 1 ≤ _; omega)]
    refine ⟨⟨?_, fun d hd => ?_⟩, pk⟩
    · show (z.1.cps ++ #[c]).size = i + 1
      rw [Array.size_append]
      exact congrArg (· + 1) z1
    · have hd : d ∈ (z.1.cps ++ #[c]).toList := hd
      rw [Array.toList_append, List.mem_append] at hd
      rcases hd with hd | hd
      · exact z2 d hd
      · rw [List.mem_singleton.mp hd]
        exact atI_mem hc
  · rw [rangeL_length] at z1
    have hz : Nm z.1 := ⟨by omega, by omega, z2⟩
    rw [bin_ok, inR_eq, ifR_ok]
    by_cases hm : z.1 ∈ ns
    · rw [if_pos (decide_eq_true hm), un_ok, rng2_ok (a := 1) (b := 13) (by decide), Res.bind_ok]
      rw [loopR_find (g := fun n => if repS "y" n ∈ ns then none else some (repS "y" n, z.2)) fun x hx => ?_]
      · rw [Res.bind_ok]
        cases q : (rangeL 1 13).findSome? fun n => if repS "y" n ∈ ns then none else some (repS "y" n, z.2) with
        | none =>
          exfalso
          have := sub_len nd_y (m := ns) fun w hw => by
            obtain ⟨n, hn, rfl⟩ := List.mem_map.mp hw
            have := findSome_none q n hn
            by_cases c : repS "y" n ∈ ns
            · exact c
            · rw [if_neg c] at this
              cases this
          rw [List.length_map, rangeL_length] at this
          omega
        | some b =>
          obtain ⟨n, hn, e⟩ := findSome_some q
          by_cases c : repS "y" n ∈ ns
          · rw [if_pos c] at e
            cases e
          · rw [if_neg c] at e
            cases e
            exact ⟨⟨nm_y n hn, c⟩, z3⟩
      · have hx := mem_rangeL.mp hx
        have e1 : bin repSR (Res.ok ("y" : Str)) (Res.ok x) = .ok (repS "y" x) := repSR_ok (by
          have : ("y" : Str).length = 1 := by decide +kernel
          rw [this]
          omega)
        rw [e1, bin_ok, ninR_eq, ifR_ok, Res.bind_ok]
        by_cases c : repS "y" x ∈ ns
        · rw [decide_eq_true c, if_pos c]
          rfl
        · rw [decide_eq_false c, if_neg c]
          rfl
    · rw [if_neg (by rw [decide_eq_false hm]; decide)]
      exact ⟨⟨hz, hm⟩, z3⟩
theorem names_is {many : Int} (h0 : 0 ≤ many) (h1 : many ≤ 11) {p : Pl} (hp : PI_ p) : Is (m__law_names many p) fun b => ((b.1.length : Int) = many ∧ Nms b.1) ∧ PI_ b.2 := by
  unfold m__law_names
  rw [Res.bind_ok, un_ok, rng1_ok (by omega), Res.bind_ok]
  refine Is.bind (loopN_inv (fun i (z : List Str × Pl) => (z.1.length = i ∧ Nms z.1) ∧ PI_ z.2) ⟨⟨rfl, ⟨fun w hw => (nomatch hw), List.nodup_nil⟩⟩, hp⟩ fun i x z hx ⟨⟨z1, z2⟩, z3⟩ => ?_) fun z ⟨⟨z1, z2⟩, z3⟩ => ?_
  · have hi := List.getElem?_eq_some_iff.mp hx |>.1
    rw [rangeL_length] at hi
    rw [callM_ok]
    refine Is.bind (Q := fun b : List Str × Pl => b.1.length = i + 1 ∧ Nms b.1 ∧ PI_ b.2) (Is.bind (name_is z2 (by omega) z3) fun b ⟨⟨b1, b2⟩, b3⟩ => ?_) fun b ⟨b1, b2, b3⟩ => ⟨⟨b1, b2⟩, b3⟩
    rw [push_ok (by omega), Res.bind_ok]
    refine ⟨by simp [z1], ⟨fun w hw => ?_, ?_⟩, b3⟩
    · rcases List.mem_append.mp hw with hw | hw
      · exact z2.ok w hw
      · rw [List.mem_singleton.mp hw]
        exact b1
    · exact List.nodup_append.mpr ⟨z2.nd, by simp, fun a ha b' hb' e => by
        rw [List.mem_singleton.mp hb'] at e
        exact b2 (e ▸ ha)⟩
  · rw [rangeL_length] at z1
    exact ⟨⟨by show (z.1.length : Int) = many; omega, z2⟩, z3⟩

/-! a world that is drawn: limits, readings -/
theorem mapM_at {α β μ : Type} {f : α → μ → Res (β × μ)} {J : μ → Prop} {B : α → β → Prop} : ∀ {xs : List α} {y : μ}, J y → (∀ x y, x ∈ xs → J y → Is (f x y) fun b => B x b.1 ∧ J b.2) → Is (mapM f xs y) fun c => (c.1.length = xs.length ∧ ∀ (i : Nat) b, c.1[i]? = some b → ∃ x, xs[i]? = some x ∧ B x b) ∧ J c.2
  | [], y, h0, _ => ⟨⟨rfl, fun i b h => (nomatch h)⟩, h0⟩
  | x :: xs, y, h0, h => by
    refine Is.bind (h x y List.mem_cons_self h0) fun b hb => ?_
    refine Is.bind (mapM_at (xs := xs) hb.2 fun z w hz hw => h z w (List.mem_cons_of_mem _ hz) hw) fun c hc => ?_
    exact ⟨⟨by simp [hc.1.1], fun i d hd => by
      cases i with
      | zero =>
        cases hd
        exact ⟨x, rfl, hb.1⟩
      | succ i => exact hc.1.2 i d hd⟩, hc.2⟩
theorem ix_last {α : Type} {L : List α} {x : α} : ix (L ++ [x]) (-1) = .ok x := by
  unfold ix
  rw [if_neg (by decide), if_pos (by rw [List.length_append, List.length_singleton]; omega)]
  have : ((-1 : Int) + ((L ++ [x]).length : Int)).toNat = L.length := by
    rw [List.length_append, List.length_singleton]
    omega
  rw [this, List.getElem?_append_right (Nat.le_refl _), Nat.sub_self]
  rfl
structure Lim (top : Int) (l : List Int) : Prop where
  len : (l.length : Int) = top
  bd : ∀ v ∈ l, -999 ≤ v ∧ v ≤ 9999
  up : l.Pairwise (· < ·)
theorem limits_ok {top : Int} {l : List Int} (h : Lim top l) : m_are_limits l top = .ok true := by
  unfold m_are_limits
  simp only [un_ok, rLen_eq, bin_ok, neR_eq, ifR_ok, Res.bind_ok, enumR_eq]
  rw [if_neg (by simp [h.len])]
  rw [loopR_any (p := fun _ => false) (r := false) fun x hx => ?_]
  · simp
  · obtain ⟨i, hi, e⟩ := mem_enumF.mp hx
    have b := h.bd _ (List.mem_of_getElem? hi)
    simp only [bin_ok, rLt_eq, rGt_eq, orR_ok, ifR_ok]
    rw [if_neg (by simp; omega)]
    cases i with
    | zero =>
      rw [e]
      rfl
    | succ i =>
      have h2 := (List.getElem?_eq_some_iff.mp hi).1
      have hx2 : l[i]? = some l[i] := List.getElem?_eq_getElem (by omega)
      have hlt : l[i] < x.2 := by
        have := List.pairwise_iff_getElem.mp h.up i (i + 1) (by omega) h2 (by omega)
        rw [List.getElem?_eq_getElem h2] at hi
        rw [← Option.some.inj hi]
        exact this
      rw [e, rSub_eq, bin_ok, show ((i + 1 : Nat) : Int) - 1 = (i : Int) by omega, ix_nat hx2, bin_ok, rLe_eq]
      rw [decide_eq_false (p := x.2 ≤ l[i]) (by omega), andR_ok, Bool.and_false]
      rfl
theorem limits_is {top far : Int} (h1 : 1 ≤ top) (h2 : top ≤ 4) {p : Pl} (hp : PI_ p) : Is (m__law_limits top far p) fun b => Lim top b.1 ∧ PI_ b.2 := by
  unfold m__law_limits
  obtain ⟨lo, el, hlo, pl⟩ := take_ok (n := 30) hp (by decide) (by decide)
  simp only [callM_ok, el, Res.bind_ok, bin_ok, eqR_eq, un_ok, rNeg_eq, ifR_ok, rSub_eq, rAdd_eq, consR_ok]
  refine Is.bind (Q := fun z : Int => -999 ≤ z ∧ z ≤ 29) ?_ fun z hz => ?_
  · refine Is.if_ (fun _ => ⟨by decide, by decide⟩) fun _ => ⟨by omega, by omega⟩
  refine Is.if_ (fun _ => ?_) fun _ => ?_
  · rw [rng1_ok (by omega), Res.bind_ok]
    simp only [mapR_okf, Res.bind_ok]
    refine ⟨⟨?_, fun v hv => ?_, ?_⟩, pl⟩
    · rw [List.length_map, rangeL_length]
      omega
    · obtain ⟨k, hk, rfl⟩ := List.mem_map.mp hv
      have := mem_rangeL.mp hk
      omega
    · rw [List.pairwise_map]
      unfold rangeL
      rw [List.pairwise_map]
      exact List.pairwise_lt_range.imp fun h => by omega
  · rw [rng1_ok (by omega), Res.bind_ok]
    refine Is.bind (loopN_inv (fun i (y : List Int × Pl) => (∃ (L : List Int) (x : Int), y.1 = L ++ [x] ∧ L.length = i ∧ (∀ a ∈ L, a < x) ∧ L.Pairwise (· < ·) ∧ (∀ v ∈ L, -999 ≤ v) ∧ -999 ≤ x ∧ x ≤ 29 + 9 * i) ∧ PI_ y.2) ⟨⟨[], z, rfl, rfl, fun a ha => (nomatch ha), List.Pairwise.nil, fun a ha => (nomatch ha), hz.1, by omega⟩, pl⟩ fun i t y ht ⟨⟨L, x, e, l1, l2, l3, l4, l5, l6⟩, hy⟩ => ?_) fun y ⟨⟨L, x, e, l1, l2, l3, l4, l5, l6⟩, hy⟩ => ?_
    · have hi := List.getElem?_eq_some_iff.mp ht |>.1
      rw [rangeL_length] at hi
      obtain ⟨k, ek, hk, pk⟩ := from_ok (lo := 1) (hi := 9) hy (by decide) (by decide)
      simp only [binM_eq, liftM_eq, Res.bind_ok, pair_ok, callM_ok, ek, e, ix_last, rAdd_eq]
      rw [push_ok (by simp; omega), Res.bind_ok]
      refine ⟨⟨L ++ [x], x + k.1, rfl, by simp [l1], fun a ha => ?_, ?_, fun a ha => ?_, by omega, by omega⟩, pk⟩
      · rcases List.mem_append.mp ha with ha | ha
        · have := l2 a ha
          omega
        · rw [List.mem_singleton.mp ha]
          omega
      · exact List.pairwise_append.mpr ⟨l3, List.pairwise_singleton .., fun a ha b hb => by
          rw [List.mem_singleton.mp hb]
          exact l2 a ha⟩
      · rcases List.mem_append.mp ha with ha | ha
        · exact l4 a ha
        · rw [List.mem_singleton.mp ha]
          exact l5
    · rw [rangeL_length] at l1 l6
      refine ⟨⟨?_, fun v hv => ?_, ?_⟩, hy⟩
      · rw [e, List.length_append, l1, List.length_singleton]
        omega
      · rw [e] at hv
        rcases List.mem_append.mp hv with hv | hv
        · have := l4 v hv
          have := l2 v hv
          omega
        · rw [List.mem_singleton.mp hv]
          omega
      · show y.1.Pairwise _
        rw [e]
        exact List.pairwise_append.mpr ⟨l3, List.pairwise_singleton .., fun a ha b hb => by
          rw [List.mem_singleton.mp hb]
          exact l2 a ha⟩
theorem reading_is {far : Int} {p : Pl} (hp : PI_ p) : Is (m__law_reading far p) fun b => (-999 ≤ b.1 ∧ b.1 ≤ 9999) ∧ PI_ b.2 := by
  unfold m__law_reading
  rw [ifMR_eq]
  refine Is.bind (Q := fun b => PI_ b.2) ?_ fun b pb => ?_
  · rw [andM_eq, liftM_eq, bin_ok, eqR_eq, Res.bind_ok, Res.bind_ok]
    refine Is.if_ (fun _ => ?_) fun _ => hp
    obtain ⟨k, ek, hk, pk⟩ := take_ok (n := 3) hp (by decide) (by decide)
    simp only [binM_eq, callM_ok, ek, Res.bind_ok, liftM_eq, eqR_eq]
    exact pk
  refine Is.if_ (fun _ => ?_) fun _ => ?_
  · obtain ⟨k, ek, hk, pk⟩ := take_ok (n := 3) pb (by decide) (by decide)
    simp only [binM_eq, callM_ok, ek, Res.bind_ok, liftM_eq, un_ok, rNeg_eq, rAdd_eq]
    exact ⟨⟨by dsimp only; omega, by dsimp only; omega⟩, pk⟩
  rw [ifMR_eq]
  refine Is.bind (Q := fun b => PI_ b.2) ?_ fun c pc => ?_
  · rw [andM_eq, liftM_eq, bin_ok, eqR_eq, Res.bind_ok, Res.bind_ok]
    refine Is.if_ (fun _ => ?_) fun _ => pb
    obtain ⟨k, ek, hk, pk⟩ := take_ok (n := 2) pb (by decide) (by decide)
    simp only [binM_eq, callM_ok, ek, Res.bind_ok, liftM_eq, eqR_eq]
    exact pk
  refine Is.if_ (fun _ => ?_) fun _ => ?_
  · obtain ⟨k, ek, hk, pk⟩ := take_ok (n := 5) pc (by decide) (by decide)
    simp only [binM_eq, callM_ok, ek, Res.bind_ok, liftM_eq, rSub_eq]
    exact ⟨⟨by dsimp only; omega, by dsimp only; omega⟩, pk⟩
  · obtain ⟨k, ek, hk, pk⟩ := take_ok (n := 70) pc (by decide) (by decide)
    simp only [binM_eq, callM_ok, ek, Res.bind_ok, liftM_eq, rSub_eq]
    exact ⟨⟨by dsimp only; omega, by dsimp only; omega⟩, pk⟩
abbrev Rdg (v : Int) : Prop := -999 ≤ v ∧ v ≤ 9999
structure Rows (many hours : Int) (rows : List (List Int)) : Prop where
  len : (rows.length : Int) = many
  row : ∀ r ∈ rows, (r.length : Int) = hours ∧ ∀ v ∈ r, Rdg v
theorem rows_ok {many hours : Int} {rows : List (List Int)} (h : Rows many hours rows) : m_are_readings rows hours many = .ok true := by
  unfold m_are_readings
  simp only [un_ok, rLen_eq, bin_ok, neR_eq, ifR_ok, Res.bind_ok]
  rw [if_neg (by simp [h.len])]
  rw [loopR_any (p := fun _ => false) (r := false) fun x hx => ?_]
  · simp
  · obtain ⟨l, b⟩ := h.row x hx
    rw [if_neg (by simp [l])]
    rw [loopR_any (p := fun _ => false) (r := false) fun v hv => ?_]
    · simp
    · have := b v hv
      simp only [bin_ok, rLt_eq, rGt_eq, orR_ok, ifR_ok]
      rw [if_neg (by simp; omega)]
      rfl
abbrev Run_ := Str × Int × List (List Int)
theorem run_rows_is {many hours far : Int} (h0 : 0 ≤ many) (h1 : many ≤ 1000) (h2 : 0 ≤ hours) (h3 : hours ≤ 1000) {runs : List Run_} (hr : ∀ r ∈ runs, Rows many hours r.2.2) (hl : runs.length ≤ 1000) {p : Pl} (hp : PI_ p) : Is (m__law_run_rows many hours far runs p) fun b => Rows many hours b.1 ∧ PI_ b.2 := by
  unfold m__law_run_rows
  simp only [un_ok, liftM_eq, rng1_ok (n := many) (by omega), rng1_ok (n := hours) (by omega), Res.bind_ok, callM_ok]
  refine Is.bind (Q := fun b => Rows many hours b.1 ∧ PI_ b.2) ?_ fun rows ⟨r1, r2⟩ => ?_
  · refine Is.imp (mapM_is (J := PI_) (B := fun r : List Int => (r.length : Int) = hours ∧ ∀ v ∈ r, Rdg v) hp fun x y _ hy => ?_) fun c ⟨c1, c2, c3⟩ => ⟨⟨by rw [c1, rangeL_length]; omega, c2⟩, c3⟩
    exact Is.imp (mapM_is (J := PI_) (B := Rdg) hy fun x y _ hy => reading_is hy) fun c ⟨c1, c2, c3⟩ => ⟨⟨by rw [c1, rangeL_length]; omega, c2⟩, c3⟩
  · simp only [rLen_eq, bin_ok, rGt_eq, ifR_ok, rAdd_eq]
    refine Is.bind (Q := fun z : Pl × List (List Int) => Rows many hours z.2 ∧ PI_ z.1) ?_ fun z hz => hz
    refine Is.if_ (fun hc => ?_) fun _ => ⟨r1, r2⟩
    have hc := of_decide_eq_true hc
    obtain ⟨k, ek, hk, pk⟩ := take_ok (n := (runs.length : Int)) r2 (by omega) (by omega)
    obtain ⟨b, eb, hb⟩ := ix_get (xs := runs) hk.1 hk.2
    have hB := hr b (List.mem_of_getElem? hb)
    obtain ⟨g, eg, hg, pg⟩ := take_ok (n := hours + 1) pk (by omega) (by omega)
    simp only [unM_eq, binM_eq, liftM_eq, Res.bind_ok, callM_ok, ek, eb, eg]
    refine Is.bind (loopN_inv' (fun z => Rows many hours z) r1 fun x z hx hz => ?_) fun z hz => ⟨hz, pg⟩
    have hx := mem_rangeL.mp hx
    obtain ⟨u, eu, hu⟩ := ix_get (xs := b.2.2) hx.1 (by rw [hB.len]; exact hx.2)
    obtain ⟨w, ew, hw⟩ := ix_get (xs := z) hx.1 (by rw [hz.len]; exact hx.2)
    obtain ⟨u1, u2⟩ := hB.row u (List.mem_of_getElem? hu)
    obtain ⟨w1, w2⟩ := hz.row w (List.mem_of_getElem? hw)
    simp only [eu, ew, someR_ok, slR_ok, un_ok, idR_eq, bin_ok]
    rw [cut_lo hg.1, cut_hi hg.1, rCatR_ok (by rw [List.length_take, List.length_drop]; omega), Res.bind_ok, setR_nat hx.1 (by rw [hz.len]; exact hx.2), Res.bind_ok]
    refine ⟨by rw [List.length_set]; exact hz.len, fun r hr => ?_⟩
    rcases List.mem_or_eq_of_mem_set hr with hr | rfl
    · exact hz.row r hr
    · refine ⟨by rw [List.length_append, List.length_take, List.length_drop]; omega, fun v hv => ?_⟩
      rcases List.mem_append.mp hv with hv | hv
      · exact u2 v (List.mem_of_mem_take hv)
      · exact w2 v (List.mem_of_mem_drop hv)

/-! a world that is drawn: all of it -/
abbrev Gau_ := Str × Int × List Int
abbrev Dat_ := Int × Int × List (Str × Int) × List Gau_ × List Run_
structure WD (d : Dat_) : Prop where
  top : 1 ≤ d.1 ∧ d.1 ≤ 4
  hrs : 1 ≤ d.2.1 ∧ d.2.1 ≤ 24
  al : 1 ≤ d.2.2.1.length ∧ d.2.2.1.length ≤ 6
  an : Nms (d.2.2.1.map Prod.fst)
  ap : ∀ (i : Nat) x, d.2.2.1[i]? = some x → -1 ≤ x.2 ∧ x.2 < (i : Int)
  gl : d.2.2.2.1.length ≤ 6
  gn : Nms (d.2.2.2.1.map Prod.fst)
  ga : ∀ g ∈ d.2.2.2.1, (0 ≤ g.2.1 ∧ g.2.1 < (d.2.2.1.length : Int)) ∧ Lim d.1 g.2.2
  rl : 1 ≤ d.2.2.2.2.length ∧ d.2.2.2.2.length ≤ 6
  rn : Nms (d.2.2.2.2.map Prod.fst)
  ru : ∀ r ∈ d.2.2.2.2, (1 ≤ r.2.1 ∧ r.2.1 ≤ 1000) ∧ Rows d.2.2.2.1.length d.2.1 r.2.2
theorem areas_is {many : Int} (h0 : 1 ≤ many) (h1 : many ≤ 6) {p : Pl} (hp : PI_ p) : Is (m__law_areas many p) fun b => ((b.1.length : Int) = many ∧ Nms (b.1.map Prod.fst) ∧ ∀ (i : Nat) x, b.1[i]? = some x → -1 ≤ x.2 ∧ x.2 < (i : Int)) ∧ PI_ b.2 := by
  unfold m__law_areas
  rw [callM_ok]
  refine Is.bind (names_is (by omega) (by omega) hp) fun n ⟨⟨n1, n2⟩, n3⟩ => ?_
  simp only [un_ok, liftM_eq, rng1_ok (n := many) (by omega), Res.bind_ok]
  refine Is.bind (mapM_at (J := PI_) (B := fun (x : Int) (b : Str × Int) => n.1[x.toNat]? = some b.1 ∧ -1 ≤ b.2 ∧ b.2 < x) n3 fun x y hx hy => ?_) fun c ⟨⟨c1, c2⟩, c3⟩ => ?_
  · have hx := mem_rangeL.mp hx
    obtain ⟨w, ew, hw⟩ := ix_get (xs := n.1) hx.1 (by rw [n1]; exact hx.2)
    obtain ⟨k, ek, hk, pk⟩ := take_ok (n := x + 1) hy (by omega) (by omega)
    simp only [pairM_eq, binM_eq, liftM_eq, bin_ok, ew, rAdd_eq, Res.bind_ok, callM_ok, ek, rSub_eq]
    exact ⟨⟨hw, by dsimp only; omega, by dsimp only; omega⟩, pk⟩
  · rw [rangeL_length] at c1
    have e : c.1.map Prod.fst = n.1 := by
      refine List.ext_getElem? fun i => ?_
      rw [List.getElem?_map]
      cases q : c.1[i]? with
      | none =>
        have := List.getElem?_eq_none_iff.mp q
        rw [List.getElem?_eq_none_iff.mpr (by omega)]
        rfl
      | some b =>
        obtain ⟨x, hx, b1, _⟩ := c2 i b q
        rw [rangeL_get hx] at b1
        rw [show (0 + (i : Int)).toNat = i by omega] at b1
        rw [b1]
        rfl
    refine ⟨⟨by show (c.1.length : Int) = many; omega, by show Nms (c.1.map Prod.fst); rw [e]; exact n2, fun i x hx => ?_⟩, c3⟩
    obtain ⟨y, hy, _, b2, b3⟩ := c2 i x hx
    rw [rangeL_get hy] at b3
    exact ⟨b2, by omega⟩
theorem data_is {mr ma hours : Int} (r0 : 1 ≤ mr) (r1 : mr ≤ 6) (a0 : 1 ≤ ma) (a1 : ma ≤ 6) (h0 : 1 ≤ hours) (h1 : hours ≤ 24) {p : Pl} (hp : PI_ p) : Is (m__law_data mr ma hours p) fun b => (WD b.1 ∧ b.1.2.1 = hours) ∧ PI_ b.2 := by
  unfold m__law_data
  obtain ⟨top, e1, t1, p1⟩ := from_ok (lo := 1) (hi := 4) hp (by decide) (by decide)
  obtain ⟨far, e2, t2, p2⟩ := take_ok (n := 6) p1 (by decide) (by decide)
  simp only [pair_ok, callM_ok, e1, e2, Res.bind_ok]
  refine Is.bind (areas_is a0 a1 p2) fun ar ⟨⟨ar1, ar2, ar3⟩, ar4⟩ => ?_
  obtain ⟨many, e3, t3, p3⟩ := take_ok (n := 4) ar4 (by decide) (by decide)
  simp only [e3, Res.bind_ok]
  refine Is.bind (names_is (by omega) (by omega) p3) fun n ⟨⟨n1, n2⟩, n3⟩ => ?_
  simp only [un_ok, liftM_eq, rng1_ok (n := many.1) (by omega), rng1_ok (n := mr) (by omega), Res.bind_ok]
  refine Is.bind (mapM_at (J := PI_) (B := fun (x : Int) (b : Gau_) => n.1[x.toNat]? = some b.1 ∧ (0 ≤ b.2.1 ∧ b.2.1 < ma) ∧ Lim top.1 b.2.2) n3 fun x y hx hy => ?_) fun g ⟨⟨g1, g2⟩, g3⟩ => ?_
  · have hx := mem_rangeL.mp hx
    obtain ⟨w, ew, hw⟩ := ix_get (xs := n.1) hx.1 (by rw [n1]; exact hx.2)
    obtain ⟨k, ek, hk, pk⟩ := take_ok (n := ma) hy (by omega) (by omega)
    simp only [pairM_eq, liftM_eq, bin_ok, ew, Res.bind_ok, callM_ok, ek, callM_eq]
    obtain ⟨l, el, l1, l2⟩ := (limits_is (far := far.1) t1.1 t1.2 pk).get
    simp only [el, Res.bind_ok]
    exact ⟨⟨hw, hk, l1⟩, l2⟩
  rw [rangeL_length] at g1
  have eg : g.1.map Prod.fst = n.1 := by
    refine List.ext_getElem? fun i => ?_
    rw [List.getElem?_map]
    cases q : g.1[i]? with
    | none =>
      have := List.getElem?_eq_none_iff.mp q
      rw [List.getElem?_eq_none_iff.mpr (by omega)]
      rfl
    | some b =>
      obtain ⟨x, hx, b1, _⟩ := g2 i b q
      rw [rangeL_get hx] at b1
      rw [show (0 + (i : Int)).toNat = i by omega] at b1
      rw [b1]
      rfl
  refine Is.bind (names_is (by omega) (by omega) g3) fun ti ⟨⟨ti1, ti2⟩, ti3⟩ => ?_
  refine Is.bind (loopN_inv (fun i (z : List Run_ × Pl) => (z.1.map Prod.fst = ti.1.take i ∧ z.1.length = i ∧ ∀ r ∈ z.1, (1 ≤ r.2.1 ∧ r.2.1 ≤ 1000) ∧ Rows many.1 hours r.2.2) ∧ PI_ z.2) ⟨⟨by simp, rfl, fun r hr => (nomatch hr)⟩, ti3⟩ fun i x z hx ⟨⟨z1, z2, z3⟩, z4⟩ => ?_) fun z ⟨⟨z1, z2, z3⟩, z4⟩ => ?_
  · have hi := List.getElem?_eq_some_iff.mp hx |>.1
    rw [rangeL_length] at hi
    have hx2 := rangeL_get hx
    obtain ⟨w, ew, hw, pw⟩ := from_ok (lo := 1) (hi := 5) z4 (by decide) (by decide)
    obtain ⟨f, ef, hf, pf⟩ := take_ok (n := 5) pw (by decide) (by decide)
    obtain ⟨w2, ew2, hw2, pw2⟩ := from_ok (lo := 1) (hi := 1000) pf (by decide) (by decide)
    simp only [ew, Res.bind_ok, ifMR_eq, binM_eq, liftM_eq, callM_ok, ef, eqR_eq, ew2]
    refine Is.bind (Q := fun v : Pl × Int => (1 ≤ v.2 ∧ v.2 ≤ 1000) ∧ PI_ v.1) (Is.if_ (fun _ => ⟨hw2, pw2⟩) fun _ => ⟨⟨by dsimp only; omega, by dsimp only; omega⟩, pf⟩) fun v ⟨v1, v2⟩ => ?_
    obtain ⟨u, eu, hu⟩ := ix_get (xs := ti.1) (i := x) (by omega) (by omega)
    simp only [pairM_eq, liftM_eq, Res.bind_ok, bin_ok, eu, callM_eq]
    obtain ⟨rr, er, hr, pr⟩ := (run_rows_is (many := many.1) (hours := hours) (far := far.1) (by omega) (by omega) (by omega) (by omega) (runs := z.1) (fun r hr => (z3 r hr).2) (by omega) v2).get
    simp only [er, Res.bind_ok]
    rw [push_ok (by omega), Res.bind_ok]
    refine ⟨⟨?_, by simp [z2], fun r hr => ?_⟩, pr⟩
    · rw [List.map_append, z1, List.take_succ]
      rw [hx2, show (0 + (i : Int)).toNat = i by omega] at hu
      rw [hu]
      rfl
    · rcases List.mem_append.mp hr with hr | hr
      · exact z3 r hr
      · rw [List.mem_singleton.mp hr]
        exact ⟨v1, by assumption⟩
  · rw [rangeL_length] at z1 z2
    have ez : z.1.map Prod.fst = ti.1 := by
      rw [z1, List.take_of_length_le (by omega)]
    refine ⟨⟨⟨t1, ⟨h0, h1⟩, ⟨by dsimp only; omega, by dsimp only; omega⟩, ar2, ar3, by dsimp only; omega, by show Nms (g.1.map Prod.fst); rw [eg]; exact n2, fun y hy => ?_, ⟨by dsimp only; omega, by dsimp only; omega⟩, by show Nms (z.1.map Prod.fst); rw [ez]; exact ti2, fun r hr => ?_⟩, rfl⟩, z4⟩
    · obtain ⟨i, hi⟩ := List.mem_iff_getElem?.mp hy
      obtain ⟨x, _, b1, b2, b3⟩ := g2 i y hi
      exact ⟨⟨b2.1, by dsimp only; omega⟩, b3⟩
    · have := z3 r hr
      refine ⟨this.1, ?_⟩
      have e : ((g.1.length : Nat) : Int) = many.1 := by omega
      show Rows (g.1.length : Int) hours r.2.2
      rw [e]
      exact this.2
theorem loopU {α : Type} {f : α → Unit → Res Unit} {xs : List α} (h : ∀ x ∈ xs, f x () = .ok ()) : loopN f xs () = .ok () := by
  obtain ⟨u, e, _⟩ := (loopN_inv' (f := f) (fun _ : Unit => True) (xs := xs) (s := ()) trivial fun x s hx _ => by
    cases s
    rw [h x hx]
    trivial).get
  exact e
theorem areas_ok {d : Dat_} (h : WD d) : m_check_areas d.2.2.1 = .ok () := by
  unfold m_check_areas
  have := h.al
  simp only [un_ok, rLen_eq, bin_ok, rGt_eq, eqR_eq, ifR_ok, Res.bind_ok, mapR_okf, pair_ok, enumR_eq]
  rw [if_neg (by rw [decide_eq_true_eq]; omega), if_neg (by rw [decide_eq_true_eq]; omega)]
  rw [names_ok (m := 6) (ns := d.2.2.1.map fun x => x.1) h.an (by rw [List.length_map]; omega) (by decide), Res.bind_ok]
  rw [loopU fun x hx => ?_]
  · rfl
  · obtain ⟨i, hi, e⟩ := mem_enumF.mp hx
    have := h.ap i x.2 hi
    simp only [bin_ok, rNeg_eq, rLt_eq, rGe_eq, orR_ok, ifR_ok]
    rw [if_neg (by simp; omega)]
theorem gauges_ok {d : Dat_} (h : WD d) : m_check_gauges d.1 d.2.2.1.length d.2.2.2.1 = .ok () := by
  unfold m_check_gauges
  have := h.gl
  simp only [un_ok, Res.bind_ok, mapR_okf, pair_ok, enumR_eq]
  rw [names_ok (m := 6) (ns := d.2.2.2.1.map fun x => x.1) h.gn (by rw [List.length_map]; omega) (by decide), Res.bind_ok]
  rw [loopU fun x hx => ?_]
  · rfl
  · obtain ⟨i, hi, e⟩ := mem_enumF.mp hx
    obtain ⟨g1, g2⟩ := h.ga x.2 (List.mem_of_getElem? hi)
    simp only [bin_ok, rLt_eq, rGe_eq, orR_ok, ifR_ok, limits_ok g2, un_ok, notR_eq]
    rw [if_neg (by simp; omega)]
    rfl
theorem runs_ok {d : Dat_} (h : WD d) : m_check_runs d.2.1 d.2.2.2.1.length d.2.2.2.2 = .ok () := by
  unfold m_check_runs
  have := h.rl
  simp only [un_ok, rLen_eq, bin_ok, rGt_eq, eqR_eq, ifR_ok, Res.bind_ok, mapR_okf, pair_ok, enumR_eq]
  rw [if_neg (by rw [decide_eq_true_eq]; omega), if_neg (by rw [decide_eq_true_eq]; omega)]
  rw [names_ok (m := 6) (ns := d.2.2.2.2.map fun x => x.1) h.rn (by rw [List.length_map]; omega) (by decide), Res.bind_ok]
  rw [loopU fun x hx => ?_]
  · rfl
  · obtain ⟨i, hi, e⟩ := mem_enumF.mp hx
    obtain ⟨g1, g2⟩ := h.ru x.2 (List.mem_of_getElem? hi)
    simp only [bin_ok, rLt_eq, rGt_eq, orR_ok, ifR_ok, rows_ok g2, un_ok, notR_eq]
    rw [if_neg (by simp; omega)]
    rfl
theorem world_ok {d : Dat_} (h : WD d) : m_World_init d.1 d.2.1 d.2.2.1 d.2.2.2.1 d.2.2.2.2 = .ok d := by
  unfold m_World_init
  have h1 := h.top
  have h2 := h.hrs
  simp only [un_ok, rLen_eq, bin_ok, rLt_eq, rGt_eq, orR_ok, ifR_ok, pair_ok]
  rw [if_neg (by simp; omega), if_neg (by simp; omega), areas_ok h, gauges_ok h, runs_ok h]
  rfl

/-! the forest, the reached level -/
theorem filR_idf {α : Type} (q : α → Bool) (xs : List α) : filR (fun x => .ok (q x)) (fun x => .ok x) xs = .ok (xs.filter q) := filR_id fun _ _ => rfl
abbrev Pg (P : List Int) (k : Int) : Int := P.getD k.toNat (-1)
def up (P : List Int) : Nat → Int → List Int
  | 0, k => [k]
  | n + 1, k => if 0 ≤ Pg P k then k :: up P n (Pg P k) else [k]
def For (P : List Int) : Prop := ∀ k : Int, 0 ≤ k → k < P.length → -1 ≤ Pg P k ∧ Pg P k < k
theorem up_root {P : List Int} {k : Int} (h : ¬ 0 ≤ Pg P k) : ∀ n, up P n k = [k]
  | 0 => rfl
  | n + 1 => by rw [up, if_neg h]
theorem line_while {P : List Int} (F : For P) {c : Int × List Int → Res Bool} {f : Int × List Int → Res (Out (Int × List Int) (List Int))} (hc : ∀ (k : Int) (r : List Int), 0 ≤ k → k < P.length → c (k, r) = .ok (decide (0 ≤ Pg P k))) (hf : ∀ (k : Int) (r : List Int), 0 ≤ k → k < P.length → r.length < 1000000 → f (k, r) = .ok (.nx (Pg P k, r ++ [Pg P k]))) :
    ∀ (N : Nat) (k : Int) (acc : List Int) (n : Nat), 0 ≤ k → k < P.length → k.toNat < N → k.toNat ≤ n → acc.length + k.toNat < 900000 → Is (whileF c f N (k, acc ++ [k])) fun o => ∃ k', o = .nx (k', acc ++ up P n k)
  | 0, _, _, _, _, _, h, _, _ => by omega
  | N + 1, k, acc, n, h0, h1, h2, h3, h4 => by
    unfold whileF
    rw [hc _ _ h0 h1, Res.bind_ok]
    have := F k h0 h1
    by_cases h : 0 ≤ Pg P k
    · rw [if_pos (decide_eq_true h), hf _ _ h0 h1 (by simp; omega), Res.bind_ok]
      cases n with
      | zero => omega
      | succ n =>
        rw [up, if_pos h]
        have ih := line_while F hc hf N (Pg P k) (acc ++ [k]) n h (by omega) (by omega) (by omega) (by rw [List.length_append, List.length_singleton]; omega)
        refine Is.imp ih fun o ⟨k', e⟩ => ⟨k', ?_⟩
        rw [e, List.append_assoc]
        rfl
    · rw [if_neg (by rw [decide_eq_false h]; decide), up_root h]
      exact ⟨k, rfl⟩
theorem line_eq {P : List Int} (F : For P) (hl : P.length ≤ 1000) {k : Int} (h0 : 0 ≤ k) (h1 : k < P.length) : m_line P k = .ok (up P P.length k) := by
  unfold m_line
  rw [consR_ok, Res.bind_ok]
  have ix1 : ∀ k : Int, 0 ≤ k → k < P.length → ix P k = .ok (Pg P k) := fun k a b => ix_getD a b
  refine Is.eq ?_
  refine Is.bind (line_while (P := P) F (fun k r a b => ?_) (fun k r a b hr => ?_) fuel k [] P.length h0 h1 (by rw [fuel_eq]; omega) (by omega) (by simp; omega)) fun o ⟨k', e⟩ => ?_
  · simp only [bin_ok, ix1 k a b, rGe_eq]
  · simp only [bin_ok, ix1 k a b, Res.bind_ok]
    rw [push_ok hr]
    rfl
  · subst e
    rfl
theorem lline_loop {P : List Int} (F : For P) {α : Type} {f : α → List Int → Res (List Int)} (hf : ∀ (x : α) (L : List Int) (k : Int), 0 ≤ k → k < P.length → L.length < 900000 → f x (L ++ [k]) = .ok (if 0 ≤ Pg P k then L ++ [k] ++ [Pg P k] else L ++ [k])) :
    ∀ (xs : List α) (L : List Int) (k : Int), 0 ≤ k → k < P.length → L.length + xs.length < 900000 → loopN f xs (L ++ [k]) = .ok (L ++ up P xs.length k)
  | [], L, k, _, _, _ => rfl
  | x :: xs, L, k, h0, h1, hl => by
    rw [List.length_cons] at hl ⊢
    have := F k h0 h1
    rw [loopN_cons, hf x L k h0 h1 (by omega), Res.bind_ok]
    by_cases h : 0 ≤ Pg P k
    · rw [if_pos h, lline_loop F hf xs (L ++ [k]) (Pg P k) h (by omega) (by simp; omega), up, if_pos h, List.append_assoc]
      rfl
    · rw [if_neg h, lline_loop F hf xs L k h0 h1 (by omega), up_root h, up_root h]
theorem lline_loop0 {P : List Int} (F : For P) {α : Type} {f : α → List Int → Res (List Int)} (hf : ∀ (x : α) (L : List Int) (k : Int), 0 ≤ k → k < P.length → L.length < 900000 → f x (L ++ [k]) = .ok (if 0 ≤ Pg P k then L ++ [k] ++ [Pg P k] else L ++ [k])) (xs : List α) (k : Int) (h0 : 0 ≤ k) (h1 : k < P.length) (hl : xs.length < 900000) : loopN f xs [k] = .ok (up P xs.length k) := lline_loop F hf xs [] k h0 h1 (by simpa using hl)
theorem lline_eq {P : List Int} (F : For P) (hl : P.length ≤ 1000) {k : Int} (h0 : 0 ≤ k) (h1 : k < P.length) : m__law_line P k = .ok (up P P.length k) := by
  unfold m__law_line
  have ix1 : ∀ k : Int, 0 ≤ k → k < P.length → ix P k = .ok (Pg P k) := fun k a b => ix_getD a b
  rw [consR_ok, Res.bind_ok, un_ok, rLen_eq, un_ok, rng1_ok (by omega), Res.bind_ok]
  rw [lline_loop0 F (fun x L k a b hL => ?_) _ k h0 h1 (by rw [rangeL_length]; omega)]
  · rw [rangeL_length, show ((P.length : Int) - 0).toNat = P.length by omega]
    rfl
  · simp only [un_ok, rNeg_eq, bin_ok, ix_last, ix1 k a b, rGe_eq, ifR_ok, Res.bind_ok]
    by_cases h : 0 ≤ Pg P k
    · rw [if_pos (decide_eq_true h), if_pos h, push_ok (by rw [List.length_append, List.length_singleton]; omega)]
      rfl
    · rw [if_neg (by rw [decide_eq_false h]; decide), if_neg h]
abbrev Par (d : Dat_) : List Int := d.2.2.1.map fun x => x.2
theorem WD.fo {d : Dat_} (h : WD d) : For (Par d) := fun k h0 h1 => by
  obtain ⟨x, e, hx⟩ := ix_get (xs := Par d) h0 h1
  have : Pg (Par d) k = x := by
    unfold Pg
    rw [List.getD_eq_getElem?_getD, hx]
    rfl
  rw [this]
  rw [List.getElem?_map] at hx
  cases q : d.2.2.1[k.toNat]? with
  | none =>
    rw [q] at hx
    cases hx
  | some y =>
    rw [q] at hx
    cases hx
    have := h.ap _ _ q
    show -1 ≤ y.2 ∧ y.2 < k
    omega
def und (d : Dat_) (a g : Int) : Bool := decide (a ∈ up (Par d) (Par d).length g)
theorem below_eq {d : Dat_} (h : WD d) (a : Int) : m_below (Par d) a = .ok ((rangeL 0 (Par d).length).filter (und d a)) := by
  unfold m_below
  have hl := h.al
  have hp : (Par d).length = d.2.2.1.length := List.length_map ..
  rw [un_ok, rLen_eq, un_ok, rng1_ok (by omega), Res.bind_ok]
  rw [filR_id (q := und d a) fun x hx => ?_]
  · rfl
  · have hx := mem_rangeL.mp hx
    rw [pair_ok, un_ok, line_eq h.fo (by omega) hx.1 hx.2, bin_ok, inR_eq]
    rfl
abbrev Ga (d : Dat_) (k : Int) : Gau_ := d.2.2.2.1.getD k.toNat ("", 0, [])
abbrev Rw (d : Dat_) (r : Int) : List (List Int) := (d.2.2.2.2.getD r.toNat ("", 0, [])).2.2
abbrev Vl (d : Dat_) (r k t : Int) : Int := ((Rw d r).getD k.toNat []).getD t.toNat 0
def lv (ls : List Int) (v : Int) : Int := ((ls.filter fun x => decide (x ≤ v)).length : Int)
def Gu (d : Dat_) (a : Int) : List Int := (rangeL 0 d.2.2.2.1.length).filter fun k => und d a (Ga d k).2.1
def RC (d : Dat_) (r a t : Int) : Int := (Gu d a).foldl (fun b k => max b (lv (Ga d k).2.2 (Vl d r k t))) 0
theorem enumF_fst {α : Type} (xs : List α) : (enumF 0 xs).map Prod.fst = rangeL 0 xs.length := by
  refine List.ext_getElem? fun i => ?_
  rw [List.getElem?_map, enumF_get, rangeL_nat, List.getElem?_map, Int.toNat_natCast]
  by_cases h : i < xs.length
  · rw [List.getElem?_eq_getElem h, List.getElem?_range h]
    simp
  · rw [List.getElem?_eq_none (by omega), List.getElem?_eq_none (by simp; omega)]
    rfl
theorem under_eq {d : Dat_} (h : WD d) (a : Int) : m_gauges_under d a = .ok (Gu d a) := by
  unfold m_gauges_under m_parents_of
  have hp : (Par d).length = d.2.2.1.length := List.length_map ..
  simp only [un_ok, Res.bind_ok, mapR_okf, pair_ok]
  rw [show (List.map (fun x => x.2) d.2.2.1 : List Int) = Par d from rfl, below_eq h a]
  simp only [Res.bind_ok, enumR_eq, bin_ok, inR_eq, filR_okf]
  unfold Gu
  rw [show rangeL 0 (d.2.2.2.1.length : Int) = (enumF 0 d.2.2.2.1).map Prod.fst from (enumF_fst _).symm, List.filter_map]
  congr 2
  refine List.filter_congr fun x hx => ?_
  obtain ⟨i, hi, e⟩ := mem_enumF.mp hx
  obtain ⟨⟨g1, g2⟩, _⟩ := h.ga _ (List.mem_of_getElem? hi)
  have eG : Ga d x.1 = x.2 := by
    unfold Ga
    rw [e, Int.toNat_natCast, List.getD_eq_getElem?_getD, hi]
    rfl
  show _ = und d a (Ga d x.1).2.1
  rw [eG]
  by_cases c : und d a x.2.2.1 = true
  · rw [c]
    exact decide_eq_true (List.mem_filter.mpr ⟨mem_rangeL.mpr ⟨g1, by omega⟩, c⟩)
  · rw [Bool.eq_false_iff.mpr c]
    exact decide_eq_false fun z => c (List.mem_filter.mp z).2
theorem mem_Gu {d : Dat_} {a k : Int} (h : k ∈ Gu d a) : 0 ≤ k ∧ k < d.2.2.2.1.length := mem_rangeL.mp (List.mem_filter.mp h).1
theorem rows_at {d : Dat_} (h : WD d) {r k t : Int} (r0 : 0 ≤ r) (r1 : r < d.2.2.2.2.length) (k0 : 0 ≤ k) (k1 : k < d.2.2.2.1.length) (t0 : 0 ≤ t) (t1 : t < d.2.1) :
    (∃ x, ix d.2.2.2.2 r = .ok x ∧ x.2.2 = Rw d r) ∧ ix d.2.2.2.1 k = .ok (Ga d k) ∧ ∃ w, ix (Rw d r) k = .ok w ∧ ix w t = .ok (Vl d r k t) := by
  obtain ⟨x, ex, hx⟩ := ix_get (xs := d.2.2.2.2) r0 r1
  have e : x.2.2 = Rw d r := by
    unfold Rw
    rw [List.getD_eq_getElem?_getD, hx]
    rfl
  obtain ⟨_, q⟩ := h.ru x (List.mem_of_getElem? hx)
  rw [e] at q
  obtain ⟨w, ew, hw⟩ := ix_get (xs := Rw d r) k0 (by rw [q.len]; exact k1)
  have l := (q.row w (List.mem_of_getElem? hw)).1
  have ev : w = (Rw d r).getD k.toNat [] := by
    rw [List.getD_eq_getElem?_getD, hw]
    rfl
  refine ⟨⟨x, ex, e⟩, ix_getD k0 k1, w, ew, ?_⟩
  rw [ev]
  exact ix_getD t0 (by rw [← ev, l]; exact t1)
theorem highest_eq {d : Dat_} (h : WD d) {r a t : Int} (r0 : 0 ≤ r) (r1 : r < d.2.2.2.2.length) (t0 : 0 ≤ t) (t1 : t < d.2.1) : m_highest_level d r (Gu d a) t = .ok (RC d r a t) := by
  unfold m_highest_level
  obtain ⟨x, ex, hx⟩ := ix_get (xs := d.2.2.2.2) r0 r1
  have e : x.2.2 = Rw d r := by
    unfold Rw
    rw [List.getD_eq_getElem?_getD, hx]
    rfl
  simp only [un_ok, bin_ok, ex, Res.bind_ok, e]
  rw [loopN_ok (g := fun b k => max b (lv (Ga d k).2.2 (Vl d r k t))) fun k hk b => ?_]
  · rfl
  · obtain ⟨k0, k1⟩ := mem_Gu hk
    obtain ⟨_, eg, w, ew, ev⟩ := rows_at h r0 r1 k0 k1 t0 t1
    unfold m_level_of
    simp only [eg, ew, bin_ok, ev, pair_ok, un_ok, rLe_eq, filR_idf, Res.bind_ok, rLen_eq, max2_eq]
    rfl
theorem reached_eq {d : Dat_} (h : WD d) {r a t : Int} (r0 : 0 ≤ r) (r1 : r < d.2.2.2.2.length) (t0 : 0 ≤ t) (t1 : t < d.2.1) : m_reached d r a t = .ok (RC d r a t) := by
  unfold m_reached
  simp only [pair_ok, un_ok, under_eq h, highest_eq h r0 r1 t0 t1, Res.bind_ok]
theorem mapR_mem {α β : Type} {f : α → Res β} {g : α → β} : ∀ {xs : List α}, (∀ x ∈ xs, f x = .ok (g x)) → mapR f xs = .ok (xs.map g)
  | [], _ => rfl
  | x :: xs, h => by
    have := mapR_mem (xs := xs) fun y hy => h y (List.mem_cons_of_mem _ hy)
    unfold mapR
    rw [h x List.mem_cons_self, this]
    rfl
theorem reached_row_eq {d : Dat_} (h : WD d) {r a : Int} (r0 : 0 ≤ r) (r1 : r < d.2.2.2.2.length) : m_reached_row d r a = .ok ((rangeL 0 d.2.1).map (RC d r a)) := by
  unfold m_reached_row
  have := h.hrs
  simp only [pair_ok, un_ok, under_eq h, Res.bind_ok, rng1_ok (n := d.2.1) (by omega)]
  rw [mapR_mem (g := RC d r a) fun t ht => highest_eq h r0 r1 (mem_rangeL.mp ht).1 (mem_rangeL.mp ht).2]
  rfl
theorem lreached_eq {d : Dat_} (h : WD d) {r a t : Int} (r0 : 0 ≤ r) (r1 : r < d.2.2.2.2.length) (t0 : 0 ≤ t) (t1 : t < d.2.1) : m__law_reached d r a t = .ok (RC d r a t) := by
  unfold m__law_reached
  have hg := h.gl
  have ha := h.al
  have hp : (Par d).length = d.2.2.1.length := List.length_map ..
  simp only [un_ok, Res.bind_ok, mapR_okf, rLen_eq, rng1_ok (n := (d.2.2.2.1.length : Int)) (by omega)]
  rw [show (List.map (fun x => x.2) d.2.2.1 : List Int) = Par d from rfl]
  rw [loopN_ok (g := fun b k => if und d a (Ga d k).2.1 = true then max b (lv (Ga d k).2.2 (Vl d r k t)) else b) fun k hk b => ?_]
  · unfold RC Gu
    rw [List.foldl_filter]
    rfl
  · obtain ⟨k0, k1⟩ := mem_rangeL.mp hk
    obtain ⟨⟨x, ex, e⟩, eg, w, ew, ev⟩ := rows_at h r0 r1 k0 k1 t0 t1
    obtain ⟨⟨g1, g2⟩, _⟩ := h.ga (Ga d k) (by
      obtain ⟨y, ey, hy⟩ := ix_get (xs := d.2.2.2.1) k0 k1
      rw [eg] at ey
      cases ey
      exact List.mem_of_getElem? hy)
    simp only [bin_ok, eg, Res.bind_ok, un_ok, pair_ok, lline_eq h.fo (by omega) g1 (by rw [hp]; exact g2), inR_eq, ifR_ok, ex, e, ew, ev, rLe_eq, filR_idf, rLen_eq, max2_eq]
    show (if und d a (Ga d k).2.1 = true then _ else _) = _
    split <;> rfl

/-! the longest stretches -/
theorem rangeL_nil {a b : Int} (h : b ≤ a) : rangeL a b = [] := by
  unfold rangeL
  rw [show (b - a).toNat = 0 by omega]
  rfl
theorem rangeL_cons {a b : Int} (h : a < b) : rangeL a b = a :: rangeL (a + 1) b := by
  unfold rangeL
  rw [show (b - a).toNat = (b - (a + 1)).toNat + 1 by omega, List.range_succ_eq_map, List.map_cons, List.map_map]
  refine congr (congrArg _ (by simp)) (List.map_congr_left fun i _ => ?_)
  simp
  omega
def tw (lev : Int) : List Int → Int
  | [] => 0
  | v :: vs => if lev ≤ v then 1 + tw lev vs else 0
def scan (lev : Int) : Int → Option Int → List Int → List (Int × Int)
  | _, none, [] => []
  | k, some s, [] => [(s, k)]
  | k, none, v :: vs => if lev ≤ v then scan lev (k + 1) (some k) vs else scan lev (k + 1) none vs
  | k, some s, v :: vs => if lev ≤ v then scan lev (k + 1) (some s) vs else (s, k) :: scan lev (k + 1) none vs
def lawL (lev : Int) : Int → Bool → List Int → List (Int × Int)
  | _, _, [] => []
  | k, pv, v :: vs => if lev ≤ v ∧ pv = false then (k, k + (1 + tw lev vs)) :: lawL lev (k + 1) true vs else lawL lev (k + 1) (decide (lev ≤ v)) vs
theorem scan_law (lev : Int) : ∀ (l : List Int) (k : Int), scan lev k none l = lawL lev k false l ∧ ∀ s, scan lev k (some s) l = (s, k + tw lev l) :: lawL lev k true l
  | [], k => ⟨rfl, fun s => by simp [scan, lawL, tw]⟩
  | v :: vs, k => by
    obtain ⟨h1, h2⟩ := scan_law lev vs (k + 1)
    refine ⟨?_, fun s => ?_⟩
    · unfold scan lawL
      by_cases h : lev ≤ v
      · rw [if_pos h, if_pos ⟨h, rfl⟩, h2]
        rw [show k + 1 + tw lev vs = k + (1 + tw lev vs) by omega]
      · rw [if_neg h, if_neg (fun z => h z.1), h1, decide_eq_false h]
    · unfold scan lawL tw
      by_cases h : lev ≤ v
      · rw [if_pos h, if_pos h, if_neg (by simp), h2, decide_eq_true h]
        rw [show k + 1 + tw lev vs = k + (1 + tw lev vs) by omega]
      · rw [if_neg h, if_neg h, if_neg (by simp), h1, decide_eq_false h, Int.add_zero]
def so : Option Int → Int := fun o => o.getD (-1)
theorem sf_loop {lev : Int} (hlev : 0 < lev) {f : Int × Int → List (Int × Int) × Int → Res (List (Int × Int) × Int)}
    (hf : ∀ (k v : Int) acc (st : Int), acc.length < 1000000 → f (k, v) (acc, st) = .ok (if v < lev ∧ 0 ≤ (if lev ≤ v ∧ st < 0 then k else st) then (acc ++ [((if lev ≤ v ∧ st < 0 then k else st), k)], -1) else (acc, if lev ≤ v ∧ st < 0 then k else st))) :
    ∀ (l : List Int) (k : Int) (o : Option Int) (acc : List (Int × Int)), 0 ≤ k → (∀ s, o = some s → 0 ≤ s) → acc.length + l.length < 999999 → loopN f (enumF k (l ++ [0])) (acc, so o) = .ok (acc ++ scan lev k o l, -1)
  | [], k, o, acc, hk, ho, hl => by
    rw [List.nil_append]
    unfold enumF enumF
    rw [loopN_cons, hf k 0 acc (so o) (by omega), Res.bind_ok]
    rw [if_neg (c := lev ≤ 0 ∧ so o < 0) (fun z => by omega)]
    cases o with
    | none =>
      rw [if_neg (fun z => absurd z.2 (by decide))]
      show Res.ok _ = _
      rw [scan, List.append_nil]
      rfl
    | some s =>
      have hs := ho s rfl
      rw [if_pos ⟨by omega, hs⟩]
      rfl
  | v :: vs, k, o, acc, hk, ho, hl => by
    rw [List.length_cons] at hl
    rw [List.cons_append]
    unfold enumF
    rw [loopN_cons, hf k v acc (so o) (by omega), Res.bind_ok]
    by_cases h : lev ≤ v
    · rw [if_neg (fun z => by omega)]
      cases o with
      | none =>
        rw [if_pos ⟨h, by decide⟩]
        have := sf_loop hlev hf vs (k + 1) (some k) acc (by omega) (fun s e => by cases e; exact hk) (by omega)
        rw [show scan lev k none (v :: vs) = scan lev (k + 1) (some k) vs by rw [scan, if_pos h]]
        exact this
      | some s =>
        have hs := ho s rfl
        rw [if_neg (fun z => absurd z.2 (by show ¬ s < 0; omega))]
        have := sf_loop hlev hf vs (k + 1) (some s) acc (by omega) (fun t e => by cases e; exact hs) (by omega)
        rw [show scan lev k (some s) (v :: vs) = scan lev (k + 1) (some s) vs by rw [scan, if_pos h]]
        exact this
    · rw [if_neg (c := lev ≤ v ∧ so o < 0) (fun z => h z.1)]
      cases o with
      | none =>
        rw [if_neg (fun z => absurd z.2 (by decide))]
        have := sf_loop hlev hf vs (k + 1) none acc (by omega) (fun t e => by cases e) (by omega)
        rw [show scan lev k none (v :: vs) = scan lev (k + 1) none vs by rw [scan, if_neg h]]
        exact this
      | some s =>
        have hs := ho s rfl
        rw [if_pos ⟨by omega, hs⟩]
        have := sf_loop hlev hf vs (k + 1) none (acc ++ [(s, k)]) (by omega) (fun t e => by cases e) (by simp; omega)
        rw [show scan lev k (some s) (v :: vs) = (s, k) :: scan lev (k + 1) none vs by rw [scan, if_neg h]]
        refine this.trans ?_
        rw [List.append_assoc]
        rfl
def ST (row : List Int) (lev : Int) : List (Int × Int) := scan lev 0 none row
theorem sf_eq {row : List Int} {lev : Int} (h : 0 < lev) (hl : row.length ≤ 1000) : m_stretches_from row lev = .ok (ST row lev) := by
  unfold m_stretches_from
  simp only [Res.bind_ok, un_ok, rNeg_eq, idR_eq, consR_ok, bin_ok, rCatR_ok (xs := row) (ys := [0]) (by simp; omega), enumR_eq]
  rw [show (-1 : Int) = so none from rfl, sf_loop h (fun k v acc st ha => ?_) row 0 none [] (Int.le_refl _) (fun s e => by cases e) (by simp; omega)]
  · rfl
  · simp only [bin_ok, rGe_eq, rLt_eq, andR_ok, ifR_ok, Res.bind_ok, pair_ok]
    simp only [Bool.and_eq_true, decide_eq_true_eq]
    by_cases c : lev ≤ v ∧ st < 0
    · rw [if_pos c, if_pos c]
      simp only [Res.bind_ok]
      by_cases d : v < lev ∧ 0 ≤ k
      · omega
      · rw [if_neg d, if_neg d]
    · rw [if_neg c, if_neg c]
      simp only [Res.bind_ok]
      by_cases d : v < lev ∧ 0 ≤ st
      · rw [if_pos d, if_pos d, push_ok ha]
        rfl
      · rw [if_neg d, if_neg d]
theorem sfQ_eq {row : List Int} {lev : Int} (h : 0 < lev) (hl : row.length ≤ 1000) : m_stretches_from_Q row lev = .ok (ST row lev) := sf_eq h hl
theorem st_eq {row : List Int} {lev : Int} (h : 0 < lev) (hl : row.length ≤ 1000) : m_stretches row lev = .ok (ST row lev) := by
  unfold m_stretches
  rw [pair_ok, un_ok, sf_eq h hl]
  rfl
theorem stQ_eq {row : List Int} {lev : Int} (h : 0 < lev) (hl : row.length ≤ 1000) : m_stretches_Q row lev = .ok (ST row lev) := by
  unfold m_stretches_Q
  rw [pair_ok, un_ok, sfQ_eq h hl]
  rfl
/-! the law's way -/
theorem ix_at {pre l : List Int} {v : Int} : ix (pre ++ v :: l) (pre.length : Int) = .ok v := ix_nat (by simp)
theorem tw_loop {lev n : Int} {row : List Int} (hn : n = row.length) {f : Int → Int → Res Int} (hf : ∀ y e : Int, f y e = ifR (andR (.ok (decide (e = y))) (bin rGe (bin ix (.ok row) (.ok y)) (.ok lev))) (.ok (y + 1)) (.ok e)) :
    ∀ (l pre : List Int), row = pre ++ l → loopN f (rangeL pre.length n) pre.length = .ok ((pre.length : Int) + tw lev l) ∧ ∀ e : Int, e < pre.length → loopN f (rangeL pre.length n) e = .ok e
  | [], pre, hr => by
    have : n ≤ (pre.length : Int) := by rw [hn, hr]; simp
    rw [rangeL_nil this]
    exact ⟨by rw [tw, Int.add_zero]; rfl, fun e _ => rfl⟩
  | v :: l, pre, hr => by
    have hlt : (pre.length : Int) < n := by rw [hn, hr]; simp; omega
    have hr2 : row = (pre ++ [v]) ++ l := by rw [hr]; simp
    obtain ⟨i1, i2⟩ := tw_loop hn hf l (pre ++ [v]) hr2
    rw [List.length_append, List.length_singleton, Int.natCast_add, Int.natCast_one] at i1 i2
    rw [rangeL_cons hlt]
    refine ⟨?_, fun e he => ?_⟩
    · have e1 : bin ix (Res.ok row) (Res.ok (pre.length : Int)) = .ok v := by rw [hr]; exact ix_at
      rw [loopN_cons, hf, e1]
      simp only [decide_true, bin_ok, rGe_eq, andR_ok, ifR_ok, Bool.true_and, decide_eq_true_eq]
      unfold tw
      by_cases h : lev ≤ v
      · rw [if_pos h, if_pos h, Res.bind_ok, i1]
        congr 1
        omega
      · rw [if_neg h, if_neg h, Res.bind_ok, i2 _ (by omega), Int.add_zero]
    · rw [loopN_cons, hf, decide_eq_false (by omega), andR_false, ifR_ok, if_neg Bool.false_ne_true, Res.bind_ok, i2 _ (by omega)]
def pvf (lev : Int) (pre : List Int) : Bool := match pre.getLast? with | some u => decide (lev ≤ u) | none => false
theorem pvf_app {lev v : Int} {pre : List Int} : pvf lev (pre ++ [v]) = decide (lev ≤ v) := by
  unfold pvf
  rw [List.getLast?_append]
  rfl
theorem ls_loop {lev n : Int} {row : List Int} (hn : n = row.length) {f : Int → List (Int × Int) → Res (List (Int × Int))}
    (hf : ∀ (l pre : List Int) (v : Int) acc, row = pre ++ v :: l → acc.length < 1000000 → f pre.length acc = .ok (if lev ≤ v ∧ (pvf lev pre) = false then acc ++ [((pre.length : Int), pre.length + tw lev (v :: l))] else acc)) :
    ∀ (l pre : List Int) (acc : List (Int × Int)), row = pre ++ l → acc.length + l.length < 1000000 → loopN f (rangeL pre.length n) acc = .ok (acc ++ lawL lev pre.length (pvf lev pre) l)
  | [], pre, acc, hr, hl => by
    have : n ≤ (pre.length : Int) := by rw [hn, hr]; simp
    rw [rangeL_nil this, lawL, List.append_nil]
    rfl
  | v :: l, pre, acc, hr, hl => by
    rw [List.length_cons] at hl
    have hlt : (pre.length : Int) < n := by rw [hn, hr]; simp; omega
    have hr2 : row = (pre ++ [v]) ++ l := by rw [hr]; simp
    have ih := fun acc h => ls_loop hn hf l (pre ++ [v]) acc hr2 h
    rw [List.length_append, List.length_singleton, Int.natCast_add, Int.natCast_one, pvf_app] at ih
    rw [rangeL_cons hlt, loopN_cons, hf l pre v acc hr (by omega), Res.bind_ok, lawL]
    split
    · rename_i c
      rw [ih _ (by simp; omega), List.append_assoc, tw, if_pos c.1, decide_eq_true c.1]
      rfl
    · rename_i c
      rw [ih _ (by omega)]
theorem ls_loop0 {lev n : Int} {row : List Int} (hn : n = row.length) {f : Int → List (Int × Int) → Res (List (Int × Int))}
    (hf : ∀ (l pre : List Int) (v : Int) acc, row = pre ++ v :: l → acc.length < 1000000 → f pre.length acc = .ok (if lev ≤ v ∧ (pvf lev pre) = false then acc ++ [((pre.length : Int), pre.length + tw lev (v :: l))] else acc)) (hl : row.length ≤ 1000) : loopN f (rangeL 0 n) [] = .ok (ST row lev) := by
  have := ls_loop hn hf row [] [] rfl (by simp; omega)
  unfold ST
  rw [(scan_law lev row 0).1]
  exact this
theorem lst_eq {row : List Int} {lev : Int} (hl : row.length ≤ 1000) : m__law_stretches row lev = .ok (ST row lev) := by
  unfold m__law_stretches
  rw [Res.bind_ok, un_ok, rLen_eq, un_ok, rng1_ok (n := (row.length : Int)) (by omega), Res.bind_ok, ls_loop0 (lev := lev) (n := (row.length : Int)) rfl (fun l pre v acc hr ha => ?_) hl]
  · rfl
  · have e1 : bin ix (Res.ok row) (Res.ok (pre.length : Int)) = .ok v := by rw [hr]; exact ix_at
    rw [e1]
    have hlen : row.length = pre.length + (l.length + 1) := by rw [hr]; simp
    have e2 : orR (bin eqR (Res.ok (pre.length : Int)) (Res.ok (0 : Int))) (bin rLt (bin ix (Res.ok row) (bin rSub (Res.ok (pre.length : Int)) (Res.ok (1 : Int)))) (Res.ok lev)) = .ok (!(pvf lev pre)) := by
      rcases List.eq_nil_or_concat pre with e | ⟨L, u, e⟩
      · subst e
        rfl
      · rw [List.concat_eq_append] at e
        have e3 : bin ix (Res.ok row) (Res.ok ((pre.length : Int) - 1)) = .ok u := by
          rw [hr, e]
          rw [show (((L ++ [u]).length : Nat) : Int) - 1 = (L.length : Int) by simp, List.append_assoc]
          exact ix_at
        rw [bin_ok, bin_ok, rSub_eq, e3]
        simp only [bin_ok, eqR_eq, rLt_eq]
        have hp : decide ((pre.length : Int) = 0) = false := by
          rw [e]
          simp
          omega
        rw [hp, orR_false, e, pvf_app]
        by_cases h : lev ≤ u
        · rw [decide_eq_true h, decide_eq_false (by omega)]; rfl
        · rw [decide_eq_false h, decide_eq_true (by omega)]; rfl
    rw [e2]
    simp only [bin_ok, rGe_eq, andR_ok, ifR_ok, Bool.and_eq_true, decide_eq_true_eq, Bool.not_eq_true']
    split
    · rw [pair_ok, un_ok, rng2_ok (a := (pre.length : Int)) (b := (row.length : Int)) (by omega)]
      simp only [Res.bind_ok, pair_ok, eqR_eq, rAdd_eq]
      rw [(tw_loop (lev := lev) (n := (row.length : Int)) (row := row) rfl (fun y e => ?_) (v :: l) pre hr).1]
      · rw [Res.bind_ok, push_ok ha]
        rfl
      · rfl
    · rfl
/-! tuples of numbers, alike -/
theorem same_eq {xs : List (List Int)} (h : xs.length ≤ 1000) : m__law_same_tuples xs xs = .ok true := by
  have isInt : ∀ v, m__law_is_int v = .ok true := fun v => rfl
  unfold m__law_same_tuples
  simp only [un_ok, pair_ok, notR_eq, bin_ok, rLen_eq, neR_eq, Bool.not_true, orR_ok, Bool.false_or, ifR_ok, rng1_ok (n := (xs.length : Int)) (by omega), Res.bind_ok, isInt]
  rw [if_neg (by simp)]
  rw [loopR_any (p := fun _ => false) (r := false) fun x hx => ?_]
  · simp [eqR_eq]
  · have hx := mem_rangeL.mp hx
    obtain ⟨t, et, _⟩ := ix_get (xs := xs) hx.1 hx.2
    simp only [et, un_ok, pair_ok, notR_eq, bin_ok, rLen_eq, neR_eq, Bool.not_true, orR_ok, Bool.false_or, ifR_ok, Res.bind_ok]
    rw [if_neg (by simp)]
    rw [loopR_any (p := fun _ => false) (r := false) fun y hy => ?_]
    · simp
    · simp [ifR_ok]

/-! drawn rows -/
theorem levels_is {size top : Int} (h0 : 0 ≤ size) (h1 : size ≤ 1000) (h2 : 0 ≤ top) (h3 : top ≤ 1000) {p : Pl} (hp : PI_ p) : Is (m__law_levels size top p) fun b => (b.1.length : Int) = size ∧ PI_ b.2 := by
  unfold m__law_levels
  obtain ⟨st, e1, t1, p1⟩ := take_ok (n := 2) hp (by decide) (by decide)
  simp only [Res.bind_ok, callM_ok, e1, un_ok, rng1_ok (n := size) (by omega)]
  refine Is.bind (loopN_inv (fun i (z : List Int × Pl) => z.1.length = i ∧ PI_ z.2) ⟨rfl, p1⟩ fun i x z hx ⟨z1, z2⟩ => ?_) fun z ⟨z1, z2⟩ => ?_
  · have hi := List.getElem?_eq_some_iff.mp hx |>.1
    rw [rangeL_length] at hi
    have hx2 := rangeL_get hx
    rw [ifMR_eq]
    refine Is.bind (Q := fun b => (b.1 = true → 0 < x) ∧ PI_ b.2) ?_ fun b ⟨b1, b2⟩ => ?_
    · rw [andM_eq, liftM_eq, bin_ok, eqR_eq, Res.bind_ok, Res.bind_ok]
      refine Is.if_ (fun _ => ?_) fun _ => ⟨fun h => (nomatch h), z2⟩
      rw [andM_eq, liftM_eq, bin_ok, rGt_eq, Res.bind_ok, Res.bind_ok]
      refine Is.if_ (fun h => ?_) fun _ => ⟨fun h => (nomatch h), z2⟩
      obtain ⟨k, ek, hk, pk⟩ := take_ok (n := 3) z2 (by decide) (by decide)
      simp only [binM_eq, callM_ok, ek, Res.bind_ok, liftM_eq, rGt_eq]
      exact ⟨fun _ => of_decide_eq_true h, pk⟩
    · refine Is.if_ (fun h => ?_) fun _ => ?_
      · have hx0 := b1 h
        rcases List.eq_nil_or_concat z.1 with e | ⟨L, y, e⟩
        · rw [e] at z1
          simp at z1
          omega
        · rw [List.concat_eq_append] at e
          rw [e, rNeg_eq, bin_ok, ix_last, Res.bind_ok, push_ok (by rw [← e]; omega)]
          refine ⟨?_, b2⟩
          show (L ++ [y] ++ [y]).length = i + 1
          rw [← e, List.length_append, z1]
          rfl
      · rw [bin_ok, rAdd_eq, callM_ok]
        obtain ⟨k, ek, hk, pk⟩ := take_ok (n := top + 1) b2 (by omega) (by omega)
        simp only [ek, Res.bind_ok]
        rw [push_ok (by omega), Res.bind_ok]
        exact ⟨by simp [z1], pk⟩
  · rw [rangeL_length] at z1
    exact ⟨by show (z.1.length : Int) = size; omega, z2⟩
/-! the four numbers -/
def bump (c : List Int) (j : Int) : List Int := c.set j.toNat (c.getD j.toNat 0 + 1)
theorem bump_len {c : List Int} {j : Int} : (bump c j).length = c.length := List.length_set ..
def tal (pl : Int → Int → Int) : Int → List Int → List Int → List Int
  | _, [], c => c
  | k, v :: l, c => tal pl (k + 1) l (bump c (pl v k))
theorem tal_f {n : Int} {f : Int × Int → List Int → Res (List Int)} (pl : Int → Int → Int) (hf : ∀ k v c, 0 ≤ k → k < n → c.length = 4 → f (k, v) c = .ok (bump c (pl v k))) :
    ∀ (l : List Int) (k : Int) (c : List Int), 0 ≤ k → k + l.length ≤ n → c.length = 4 → loopN f (enumF k l) c = .ok (tal pl k l c)
  | [], k, c, _, _, _ => rfl
  | v :: l, k, c, h0, h1, h2 => by
    rw [List.length_cons] at h1
    unfold enumF tal
    rw [loopN_cons, hf k v c h0 (by omega) h2, Res.bind_ok]
    exact tal_f pl hf l (k + 1) _ (by omega) (by omega) (bump_len.trans h2)
theorem tal_g {row : List Int} {g : Int → List Int → Res (List Int)} (pl : Int → Int → Int) (hg : ∀ (pre : List Int) v l c, row = pre ++ v :: l → c.length = 4 → g pre.length c = .ok (bump c (pl v pre.length))) :
    ∀ (l pre c : List Int), row = pre ++ l → c.length = 4 → loopN g (rangeL pre.length row.length) c = .ok (tal pl pre.length l c)
  | [], pre, c, hr, _ => by
    rw [rangeL_nil (by rw [hr]; simp)]
    rfl
  | v :: l, pre, c, hr, h2 => by
    rw [rangeL_cons (by rw [hr]; simp; omega), loopN_cons, hg pre v l c hr h2, Res.bind_ok]
    have := tal_g pl hg l (pre ++ [v]) (bump c (pl v pre.length)) (by rw [hr]; simp) (bump_len.trans h2)
    rw [List.length_append, List.length_singleton, Int.natCast_add, Int.natCast_one] at this
    exact this
theorem tal_g0 {row : List Int} {g : Int → List Int → Res (List Int)} (pl : Int → Int → Int) (hg : ∀ (pre : List Int) v l c, row = pre ++ v :: l → c.length = 4 → g pre.length c = .ok (bump c (pl v pre.length))) (c : List Int) (hc : c.length = 4) : loopN g (rangeL 0 row.length) c = .ok (tal pl 0 row c) := tal_g pl hg row [] c rfl hc
def plc (d : Dat_) (r a lev v k : Int) : Int := (if v < lev then 2 else 0) + (if RC d r a k < lev then 1 else 0)
theorem plc_bd {d : Dat_} {r a lev v k : Int} : 0 ≤ plc d r a lev v k ∧ plc d r a lev v k < 4 := by
  unfold plc
  split <;> split <;> omega
theorem tally_eq {d : Dat_} (h : WD d) {r a lev : Int} (r0 : 0 ≤ r) (r1 : r < d.2.2.2.2.length) {row : List Int} (hr : (row.length : Int) = d.2.1) : m_hour_tally d r a lev row = .ok (tal (plc d r a lev) 0 row [0, 0, 0, 0]) := by
  unfold m_hour_tally
  simp only [un_ok, rLen_eq, bin_ok, neR_eq, ifR_ok, consR_ok, Res.bind_ok, enumR_eq, pair_ok]
  rw [if_neg (by simp [hr])]
  rw [tal_f (n := row.length) (plc d r a lev) (fun k v c h0 h1 h2 => ?_) row 0 [0, 0, 0, 0] (Int.le_refl _) (by omega) rfl]
  · rfl
  · simp only [rLt_eq, ifR_ok]
    rw [reached_eq h r0 r1 h0 (by omega)]
    have e1 : (if decide (v < lev) = true then Res.ok ((0 : Int) + 2) else Res.ok 0) = .ok (if v < lev then 2 else 0) := by
      by_cases c : v < lev <;> simp [c]
    rw [e1, Res.bind_ok, bin_ok, rLt_eq, ifR_ok]
    have e2 : (if decide (RC d r a k < lev) = true then Res.ok ((if v < lev then (2 : Int) else 0) + 1) else Res.ok (if v < lev then 2 else 0)) = .ok (plc d r a lev v k) := by
      unfold plc
      by_cases c : RC d r a k < lev <;> simp [c]
    rw [e2, Res.bind_ok]
    have b := plc_bd (d := d) (r := r) (a := a) (lev := lev) (v := v) (k := k)
    rw [ix_getD (d := 0) b.1 (by omega), Res.bind_ok, setR_nat b.1 (by omega)]
    rfl
theorem tally_bad {d : Dat_} {r a lev : Int} {row : List Int} (hr : (row.length : Int) ≠ d.2.1) : m_hour_tally d r a lev row = .exc .BadTable 0 := by
  unfold m_hour_tally
  simp only [un_ok, rLen_eq, bin_ok, neR_eq, ifR_ok, Res.bind_ok]
  rw [if_pos (by simp [hr])]
theorem hours_eq {d : Dat_} {r a lev : Int} {row : List Int} (hr : (row.length : Int) = d.2.1) (hl : row.length ≤ 1000) : m__law_hours row ((rangeL 0 d.2.1).map (RC d r a)) lev = .ok (tal (plc d r a lev) 0 row [0, 0, 0, 0]) := by
  unfold m__law_hours
  rw [consR_ok, consR_ok, consR_ok, consR_ok, Res.bind_ok, un_ok, rLen_eq, un_ok, rng1_ok (n := (row.length : Int)) (by omega), Res.bind_ok]
  rw [tal_g0 (row := row) (plc d r a lev) (fun pre v l c hrow hc => ?_) [0, 0, 0, 0] rfl]
  · rfl
  · have e1 : bin ix (Res.ok row) (Res.ok (pre.length : Int)) = .ok v := by rw [hrow]; exact ix_at
    have hlen : row.length = pre.length + (l.length + 1) := by rw [hrow]; simp
    have e2 : bin ix (Res.ok ((rangeL 0 d.2.1).map (RC d r a))) (Res.ok (pre.length : Int)) = .ok (RC d r a pre.length) := by
      refine ix_nat ?_
      rw [List.getElem?_map, rangeL_nat, List.getElem?_map, List.getElem?_range (by omega)]
      rfl
    have e3 : ∀ j : Int, 0 ≤ j → j < 4 → (((bin rAdd (bin ix (Res.ok c) (Res.ok j)) (Res.ok (1 : Int))).bind fun x => (Res.ok j).bind fun j => setR c j x).bind fun y => (Res.ok y : Res (List Int))) = .ok (bump c j) := fun j j0 j1 => by
      simp only [bin_ok, ix_getD (xs := c) (d := 0) j0 (by omega), rAdd_eq, Res.bind_ok, setR_nat (xs := c) j0 (by omega)]
      rfl
    rw [e1, e2, e3 0 (by decide) (by decide), e3 1 (by decide) (by decide), e3 2 (by decide) (by decide), e3 3 (by decide) (by decide)]
    simp only [bin_ok, rGe_eq, andR_ok, ifR_ok, Bool.and_eq_true, decide_eq_true_eq]
    unfold plc
    by_cases c1 : lev ≤ v
    · by_cases c2 : lev ≤ RC d r a pre.length
      · rw [if_pos ⟨c1, c2⟩, if_neg (by omega), if_neg (by omega)]
        rfl
      · rw [if_neg (fun z => c2 z.2), if_pos c1, if_neg (by omega), if_pos (by omega)]
        rfl
    · by_cases c2 : lev ≤ RC d r a pre.length
      · rw [if_neg (fun z => c1 z.1), if_neg c1, if_pos c2, if_pos (by omega), if_neg (by omega)]
        rfl
      · rw [if_neg (fun z => c1 z.1), if_neg c1, if_neg c2, if_pos (by omega), if_pos (by omega)]
        rfl
/-! the law -/
theorem refused_same {d : Dat_} (h : WD d) {r a lev : Int} (r0 : 0 ≤ r) (r1 : r < d.2.2.2.2.length) {row : List Int} (hr : (row.length : Int) = d.2.1) : m__law_refused d r a lev row = .ok (-1) := by
  unfold m__law_refused
  simp only [pair_ok, un_ok, tally_eq h r0 r1 hr, Res.bind_ok, tryR_ok, rNeg_eq]
theorem refused_other {d : Dat_} {r a lev : Int} {row : List Int} (hr : (row.length : Int) ≠ d.2.1) : m__law_refused d r a lev row = .ok 0 := by
  unfold m__law_refused
  simp only [pair_ok, un_ok, tally_bad hr]
  rw [show ((Res.exc Ec.BadTable 0 : Res (List Int)).bind fun _ => (Res.ok (Out.nx ()) : Res (Out Unit Int))) = .exc .BadTable 0 from rfl, tryR_exc (by decide) (by decide)]
  rfl
theorem scan_len (lev : Int) : ∀ (l : List Int) (k : Int), (scan lev k none l).length ≤ l.length ∧ ∀ s, (scan lev k (some s) l).length ≤ l.length + 1
  | [], k => ⟨Nat.le_refl _, fun s => Nat.le_refl _⟩
  | v :: l, k => by
    obtain ⟨h1, h2⟩ := scan_len lev l (k + 1)
    refine ⟨?_, fun s => ?_⟩
    · unfold scan
      have := h2 k
      split
      · rw [List.length_cons]; omega
      · rw [List.length_cons]; omega
    · unfold scan
      have := h2 s
      split
      · rw [List.length_cons]; omega
      · rw [List.length_cons, List.length_cons]; omega
theorem law_true (ns : List Int) (hns : ns.length ≤ 63) : m_law ns = .ok true := by
  refine Is.eq ?_
  unfold m_law
  have p0 : PI_ (0, 0, 0, cut ns none (some 63)) := ⟨Int.le_refl _, Int.le_refl _⟩
  obtain ⟨k, ek, hk, pk⟩ := take_ok (n := 25) p0 (by decide) (by decide)
  simp only [poolR_eq, Res.bind_ok]
  rw [callM_eq, pairM_eq, callM_ok, ek, Res.bind_ok, liftM_eq, Res.bind_ok, Res.bind_ok]
  obtain ⟨row, er, hrow, pr⟩ := (levels_is (size := k.1) (top := 4) (by omega) (by omega) (by decide) (by decide) pk).get
  have hrl : row.1.length ≤ 1000 := by omega
  obtain ⟨lev, el, hlev, pl⟩ := from_ok (lo := 1) (hi := 4) pr (by decide) (by decide)
  simp only [er, el, callM_ok, pair_ok, Res.bind_ok, un_ok, idR_eq, lst_eq hrl, st_eq (row := row.1) (lev := lev.1) (by omega) hrl, stQ_eq (row := row.1) (lev := lev.1) (by omega) hrl]
  have stl : ∀ (row : List Int) (lev : Int), row.length ≤ 1000 → (List.map (fun p : Int × Int => [p.1, p.2]) (ST row lev)).length ≤ 1000 := fun row lev h => by
    rw [List.length_map]
    have := scan_len lev row 0
    unfold ST
    omega
  rw [same_eq (stl _ _ hrl)]
  simp only [un_ok, notR_eq, bin_ok, neR_eq, orR_ok, ifR_ok, rLen_eq, rGt_eq, callM_ok]
  rw [if_neg (by simp)]
  refine Is.bind (Q := fun o => ∃ q h, o = .nx (q, h) ∧ PI_ q) ?_ fun o ⟨q, h, e, pq⟩ => ?_
  · refine Is.if_ (fun hc => ?_) fun _ => ⟨_, _, rfl, pl⟩
    have hc := of_decide_eq_true hc
    obtain ⟨pc, ep, hp, pp⟩ := take_ok (n := (row.1.length : Int)) pl hc (by omega)
    obtain ⟨v, ev, _⟩ := ix_get (xs := row.1) hp.1 hp.2
    simp only [ep, Res.bind_ok, ev, bin_ok, rSub_eq, setR_nat hp.1 hp.2]
    have hl2 : (row.1.set pc.1.toNat (4 - v)).length ≤ 1000 := by rw [List.length_set]; exact hrl
    rw [lst_eq hl2, Res.bind_ok, st_eq (by omega) hl2]
    simp only [un_ok, pair_ok]
    rw [same_eq (stl _ _ hl2)]
    exact ⟨_, _, rfl, pp⟩
  subst e
  dsimp only
  rw [if_neg (by simp)]
  obtain ⟨h1, e1, hh1, ph1⟩ := from_ok (lo := 1) (hi := 8) pq (by decide) (by decide)
  rw [e1, Res.bind_ok, ifMR_eq]
  obtain ⟨f, ef, hf, pf⟩ := take_ok (n := 5) ph1 (by decide) (by decide)
  obtain ⟨h2, e2, hh2, ph2⟩ := from_ok (lo := 1) (hi := 24) pf (by decide) (by decide)
  simp only [binM_eq, callM_ok, ef, Res.bind_ok, liftM_eq, eqR_eq, e2]
  refine Is.bind (Q := fun v : Pl × Int => (1 ≤ v.2 ∧ v.2 ≤ 24) ∧ PI_ v.1) (Is.if_ (fun _ => ⟨hh2, ph2⟩) fun _ => ⟨⟨by dsimp only; omega, by dsimp only; omega⟩, pf⟩) fun hv ⟨hv1, hv2⟩ => ?_
  obtain ⟨mr, emr, hmr, pmr⟩ := from_ok (lo := 1) (hi := 4) hv2 (by decide) (by decide)
  obtain ⟨ma, ema, hma, pma⟩ := from_ok (lo := 1) (hi := 6) pmr (by decide) (by decide)
  obtain ⟨dp, edp, ⟨W, hW⟩, pdp⟩ := (data_is (mr := mr.1) (ma := ma.1) (hours := hv.2) (by omega) (by omega) (by omega) (by omega) (by omega) (by omega) pma).get
  obtain ⟨d, q⟩ := dp
  dsimp only at W hW pdp
  have hal := W.al
  have hrl2 := W.rl
  have htop := W.top
  have hhrs := W.hrs
  obtain ⟨r, er2, hr, pr2⟩ := take_ok (n := (d.2.2.2.2.length : Int)) pdp (by omega) (by omega)
  obtain ⟨a, ea, ha, pa⟩ := take_ok (n := (d.2.2.1.length : Int)) pr2 (by omega) (by omega)
  obtain ⟨l, el2, hl, pl2⟩ := from_ok (lo := 1) (hi := d.1) pa (by omega) (by omega)
  obtain ⟨wn, ewn, hwn, pwn⟩ := (levels_is (size := hv.2) (top := d.1) (by omega) (by omega) (by omega) (by omega) pl2).get
  have hwl : wn.1.length ≤ 1000 := by omega
  simp only [callM_eq, pairM_eq, emr, ema, edp, Res.bind_ok, liftM_eq, world_ok W, er2, ea, el2, rng1_ok (n := hv.2) (by omega)]
  rw [mapR_mem (g := RC d r.1 a.1) fun t ht => lreached_eq W hr.1 hr.2 (mem_rangeL.mp ht).1 (by have := (mem_rangeL.mp ht).2; omega), Res.bind_ok]
  have hcl : ((rangeL 0 hv.2).map (RC d r.1 a.1)).length ≤ 1000 := by rw [List.length_map, rangeL_length]; omega
  have eev : m_events d r.1 a.1 l.1 = .ok (ST ((rangeL 0 hv.2).map (RC d r.1 a.1)) l.1) := by
    unfold m_events
    rw [← hW] at hcl ⊢
    simp only [pair_ok, un_ok, reached_row_eq W hr.1 hr.2, st_eq (row := (rangeL 0 d.2.1).map (RC d r.1 a.1)) (lev := l.1) (by omega) hcl, Res.bind_ok]
  rw [eev, lst_eq hcl]
  simp only [un_ok, pair_ok]
  rw [same_eq (stl _ _ hcl)]
  simp only [un_ok, notR_eq, ifR_ok]
  rw [if_neg (by simp), ewn, Res.bind_ok, tally_eq W hr.1 hr.2 (by omega), Res.bind_ok]
  have ehrs : m__law_hours wn.1 ((rangeL 0 hv.2).map (RC d r.1 a.1)) l.1 = .ok (tal (plc d r.1 a.1 l.1) 0 wn.1 [0, 0, 0, 0]) := by
    rw [← hW]
    exact hours_eq (by omega) hwl
  rw [ehrs]
  simp only [un_ok, idR_eq, consR_ok, pair_ok]
  rw [same_eq (by simp)]
  simp only [un_ok, notR_eq, orR_ok, ifR_ok, someR_ok, slR_ok, bin_ok]
  rw [if_neg (by simp), rCatR_ok (by simp; omega), rCatR_ok (by omega)]
  simp only [consR_ok, Res.bind_ok]
  have hwn2 : (wn.1.length : Int) = d.2.1 := by omega
  rw [loopR_any (p := fun _ => false) (r := false) fun x hx => ?_]
  · simp only [Bool.false_eq_true, if_false, List.any_eq_false, implies_true, refused_same W hr.1 hr.2 hwn2, rNeg_eq, bin_ok, eqR_eq, andR_ok, Res.bind_ok]
    simp
    exact rfl
  · rw [refused_other ?_]
    · simp
    · have hcut := cut_hi (xs := wn.1) (k := 1) (by decide)
      simp only [List.mem_cons, List.not_mem_nil, or_false] at hx
      rcases hx with rfl | rfl | rfl | rfl
      · rw [hcut, List.length_drop]
        show _ ≠ _
        omega
      · rw [List.length_append, List.length_singleton]
        omega
      · rw [List.length_append]
        omega
      · rw [List.length_nil]
        omega

end K61
set_option maxHeartbeats 0
namespace K61
open PySem PySem.Spec PyProof.Rows L2 Sd
def dd0 : He.DefD := ⟨("line", none), "line", "line", defArgs s_line, defBody s_line, defScope s_line, [], []⟩
def dd1 : He.DefD := ⟨("below", none), "below", "below", defArgs s_below, defBody s_below, defScope s_below, [], []⟩
def dd2 : He.DefD := ⟨("is_name", none), "is_name", "is_name", defArgs s_is_name, defBody s_is_name, defScope s_is_name, [], []⟩
def dd3 : He.DefD := ⟨("check_names", none), "check_names", "check_names", defArgs s_check_names, defBody s_check_names, defScope s_check_names, [], []⟩
def dd4 : He.DefD := ⟨("frozen", none), "frozen", "frozen", defArgs s_frozen, defBody s_frozen, defScope s_frozen, [], []⟩
def dd5 : He.DefD := ⟨("check_areas", none), "check_areas", "check_areas", defArgs s_check_areas, defBody s_check_areas, defScope s_check_areas, [], []⟩
def dd6 : He.DefD := ⟨("are_limits", none), "are_limits", "are_limits", defArgs s_are_limits, defBody s_are_limits, defScope s_are_limits, [], []⟩
def dd7 : He.DefD := ⟨("check_gauges", none), "check_gauges", "check_gauges", defArgs s_check_gauges, defBody s_check_gauges, defScope s_check_gauges, [], []⟩
def dd8 : He.DefD := ⟨("are_readings", none), "are_readings", "are_readings", defArgs s_are_readings, defBody s_are_readings, defScope s_are_readings, [], []⟩
def dd9 : He.DefD := ⟨("check_runs", none), "check_runs", "check_runs", defArgs s_check_runs, defBody s_check_runs, defScope s_check_runs, [], []⟩
def dd10 : He.DefD := ⟨("World", some "__init__"), "__init__", "World.__init__", defArgs s_World_init, defBody s_World_init, defScope s_World_init, [], []⟩
def dd11 : He.DefD := ⟨("parents_of", none), "parents_of", "parents_of", defArgs s_parents_of, defBody s_parents_of, defScope s_parents_of, [], []⟩
def dd12 : He.DefD := ⟨("level_of", none), "level_of", "level_of", defArgs s_level_of, defBody s_level_of, defScope s_level_of, [], []⟩
def dd13 : He.DefD := ⟨("gauges_under", none), "gauges_under", "gauges_under", defArgs s_gauges_under, defBody s_gauges_under, defScope s_gauges_under, [], []⟩
def dd14 : He.DefD := ⟨("highest_level", none), "highest_level", "highest_level", defArgs s_highest_level, defBody s_highest_level, defScope s_highest_level, [], []⟩
def dd15 : He.DefD := ⟨("reached", none), "reached", "reached", defArgs s_reached, defBody s_reached, defScope s_reached, [], []⟩
def dd16 : He.DefD := ⟨("reached_row", none), "reached_row", "reached_row", defArgs s_reached_row, defBody s_reached_row, defScope s_reached_row, [], []⟩
def dd17 : He.DefD := ⟨("stretches_from", none), "stretches_from", "stretches_from", defArgs s_stretches_from, defBody s_stretches_from, defScope s_stretches_from, [], []⟩
def dd18 : He.DefD := ⟨("stretches", none), "stretches", "stretches", defArgs s_stretches, defBody s_stretches, defScope s_stretches, [], []⟩
def dd19 : He.DefD := ⟨("events", none), "events", "events", defArgs s_events, defBody s_events, defScope s_events, [], []⟩
def dd20 : He.DefD := ⟨("hour_tally", none), "hour_tally", "hour_tally", defArgs s_hour_tally, defBody s_hour_tally, defScope s_hour_tally, [], []⟩
def dd21 : He.DefD := ⟨("_law_mix", none), "_law_mix", "_law_mix", defArgs s__law_mix, defBody s__law_mix, defScope s__law_mix, [], []⟩
def dd22 : He.DefD := ⟨("_law_pool", none), "_law_pool", "_law_pool", defArgs s__law_pool, defBody s__law_pool, defScope s__law_pool, [], []⟩
def dd23 : He.DefD := ⟨("_law_fill", none), "_law_fill", "_law_fill", defArgs s__law_fill, defBody s__law_fill, defScope s__law_fill, [], []⟩
def dd24 : He.DefD := ⟨("_law_take", none), "_law_take", "_law_take", defArgs s__law_take, defBody s__law_take, defScope s__law_take, [], []⟩
def dd25 : He.DefD := ⟨("_law_from", none), "_law_from", "_law_from", defArgs s__law_from, defBody s__law_from, defScope s__law_from, [], []⟩
def dd26 : He.DefD := ⟨("_law_name", none), "_law_name", "_law_name", defArgs s__law_name, defBody s__law_name, defScope s__law_name, [], []⟩
def dd27 : He.DefD := ⟨("_law_names", none), "_law_names", "_law_names", defArgs s__law_names, defBody s__law_names, defScope s__law_names, [], []⟩
def dd28 : He.DefD := ⟨("_law_areas", none), "_law_areas", "_law_areas", defArgs s__law_areas, defBody s__law_areas, defScope s__law_areas, [], []⟩
def dd29 : He.DefD := ⟨("_law_limits", none), "_law_limits", "_law_limits", defArgs s__law_limits, defBody s__law_limits, defScope s__law_limits, [], []⟩
def dd30 : He.DefD := ⟨("_law_reading", none), "_law_reading", "_law_reading", defArgs s__law_reading, defBody s__law_reading, defScope s__law_reading, [], []⟩
def dd31 : He.DefD := ⟨("_law_run_rows", none), "_law_run_rows", "_law_run_rows", defArgs s__law_run_rows, defBody s__law_run_rows, defScope s__law_run_rows, [], []⟩
def dd32 : He.DefD := ⟨("_law_data", none), "_law_data", "_law_data", defArgs s__law_data, defBody s__law_data, defScope s__law_data, [], []⟩
def dd33 : He.DefD := ⟨("_law_line", none), "_law_line", "_law_line", defArgs s__law_line, defBody s__law_line, defScope s__law_line, [], []⟩
def dd34 : He.DefD := ⟨("_law_reached", none), "_law_reached", "_law_reached", defArgs s__law_reached, defBody s__law_reached, defScope s__law_reached, [], []⟩
def dd35 : He.DefD := ⟨("_law_is_int", none), "_law_is_int", "_law_is_int", defArgs s__law_is_int, defBody s__law_is_int, defScope s__law_is_int, [], []⟩
def dd36 : He.DefD := ⟨("_law_same_tuples", none), "_law_same_tuples", "_law_same_tuples", defArgs s__law_same_tuples, defBody s__law_same_tuples, defScope s__law_same_tuples, [], []⟩
def dd37 : He.DefD := ⟨("_law_levels", none), "_law_levels", "_law_levels", defArgs s__law_levels, defBody s__law_levels, defScope s__law_levels, [], []⟩
def dd38 : He.DefD := ⟨("_law_stretches", none), "_law_stretches", "_law_stretches", defArgs s__law_stretches, defBody s__law_stretches, defScope s__law_stretches, [], []⟩
def dd39 : He.DefD := ⟨("_law_hours", none), "_law_hours", "_law_hours", defArgs s__law_hours, defBody s__law_hours, defScope s__law_hours, [], []⟩
def dd40 : He.DefD := ⟨("_law_refused", none), "_law_refused", "_law_refused", defArgs s__law_refused, defBody s__law_refused, defScope s__law_refused, [], []⟩
def dd41 : He.DefD := ⟨("law", none), "law", "law", defArgs s_law, defBody s_law, defScope s_law, [], []⟩
def dd42 : He.DefD := ⟨("DeskError", some "__init__"), "__init__", "DeskError.__init__", defArgs s_err, defBody s_err, defScope s_err, [.int 0], []⟩
def dfs : List He.DefD := [dd0, dd1, dd2, dd3, dd4, dd5, dd6, dd7, dd8, dd9, dd10, dd11, dd12, dd13, dd14, dd15, dd16, dd17, dd18, dd19, dd20, dd21, dd22, dd23, dd24, dd25, dd26, dd27, dd28, dd29, dd30, dd31, dd32, dd33, dd34, dd35, dd36, dd37, dd38, dd39, dd40, dd41, dd42]
def fas : List He.Fa := [.glo "line", .glo "below", .glo "is_name", .glo "check_names", .glo "frozen", .glo "check_areas", .glo "are_limits", .glo "check_gauges", .glo "are_readings", .glo "check_runs", .glo "parents_of", .glo "level_of", .glo "gauges_under", .glo "highest_level", .glo "reached", .glo "reached_row", .glo "stretches_from", .glo "stretches", .glo "events", .glo "hour_tally", .glo "_law_mix", .glo "_law_pool", .glo "_law_fill", .glo "_law_take", .glo "_law_from", .glo "_law_name", .glo "_law_names", .glo "_law_areas", .glo "_law_limits", .glo "_law_reading", .glo "_law_run_rows", .glo "_law_data", .glo "_law_line", .glo "_law_reached", .glo "_law_is_int", .glo "_law_same_tuples", .glo "_law_levels", .glo "_law_stretches", .glo "_law_hours", .glo "_law_refused", .glo "law", .free "ValueError", .free "bool", .free "enumerate", .free "int", .free "isinstance", .free "len", .free "list", .free "max", .free "range", .free "tuple", .int "HIGHEST" (9999), .int "LONGEST" (12), .int "LOWEST" (-999), .int "MOST_AREAS" (6), .int "MOST_GAUGES" (6), .int "MOST_HOURS" (24), .int "MOST_RUNS" (6), .int "MOST_TOP" (4), .int "MOST_WEIGHT" (1000), .str "LETTERS" "abcdefghijklmnopqrstuvwxyz", .cls "World", .noat "World" "areas", .noat "World" "gauges", .noat "World" "hours", .noat "World" "runs", .noat "World" "top", .mkr "World", .glo "World"]
def exB (K : PySem.W.Frag) : Bool := errsB [.DeskError, .TooMany, .BadName, .BadWorld, .BadArea, .BadGauge, .BadRun, .BadTable] K
abbrev R : PySem.W.OpenRow := PySem.W.OpenLaw.row PySem.Challenge.rw_stormdesk_k61_stretches_and_hours
abbrev hk : PySem.W.Hook := He.hookX 6 fas dfs [] [] exB
def ob (s : PySem.W.SharedT) : He.AlX := He.obsX 6 fas dfs [] [] exB (HandSHeadRun.getT s)
theorem ob_eq (s : PySem.W.SharedT) : ob s = hk.obs s.abs := He.obsX_eq (HandSHeadRun.getT_eq s)
def lo0 : List PySem.Str := ["line", "below", "DeskError", "TooMany", "BadName", "BadWorld", "BadArea", "BadGauge", "BadRun", "BadTable", "LETTERS", "LONGEST", "is_name", "check_names", "frozen", "MOST_TOP", "MOST_HOURS", "MOST_AREAS", "MOST_GAUGES", "MOST_RUNS", "MOST_WEIGHT", "LOWEST", "HIGHEST", "check_areas", "are_limits", "check_gauges", "are_readings", "check_runs", "World", "parents_of"]
def lo1 : List PySem.Str := ["level_of", "gauges_under", "highest_level", "reached", "reached_row", "stretches_from", "stretches", "events", "hour_tally", "_law_mix", "_law_pool", "_law_fill", "_law_take", "_law_from", "_law_name", "_law_names", "_law_areas", "_law_limits", "_law_reading", "_law_run_rows", "_law_data", "_law_line", "_law_reached", "_law_is_int", "_law_same_tuples", "_law_levels", "_law_stretches", "_law_hours", "_law_refused"]
abbrev lo : List PySem.Str := lo0 ++ lo1
theorem hd_run (w : World) : HandSHeadRun.RunEq R (PySem.W.view R.prog [68]) hk ob 6000 lo w := by
  intro os
  kernel_rfl
theorem mk {K : PySem.W.Frag} {w : World} {h : Heap} {mg : Str → Option Value} (X : K.In h) (G : h.Ns mainGlobals mg) (c : He.SaysX fas dfs [] [] exB w h K) : ∃ T : Tx K mg, T.f_law = He.ga K "law" := by
  obtain ⟨d0, F0⟩ := c.t.d.def_ 0 (d := dd0) rfl
  obtain ⟨d1, F1⟩ := c.t.d.def_ 1 (d := dd1) rfl
  obtain ⟨d2, F2⟩ := c.t.d.def_ 2 (d := dd2) rfl
  obtain ⟨d3, F3⟩ := c.t.d.def_ 3 (d := dd3) rfl
  obtain ⟨d4, F4⟩ := c.t.d.def_ 4 (d := dd4) rfl
  obtain ⟨d5, F5⟩ := c.t.d.def_ 5 (d := dd5) rfl
  obtain ⟨d6, F6⟩ := c.t.d.def_ 6 (d := dd6) rfl
  obtain ⟨d7, F7⟩ := c.t.d.def_ 7 (d := dd7) rfl
  obtain ⟨d8, F8⟩ := c.t.d.def_ 8 (d := dd8) rfl
  obtain ⟨d9, F9⟩ := c.t.d.def_ 9 (d := dd9) rfl
  obtain ⟨d10, F10⟩ := c.t.d.def_ 10 (d := dd10) rfl
  obtain ⟨d11, F11⟩ := c.t.d.def_ 11 (d := dd11) rfl
  obtain ⟨d12, F12⟩ := c.t.d.def_ 12 (d := dd12) rfl
  obtain ⟨d13, F13⟩ := c.t.d.def_ 13 (d := dd13) rfl
  obtain ⟨d14, F14⟩ := c.t.d.def_ 14 (d := dd14) rfl
  obtain ⟨d15, F15⟩ := c.t.d.def_ 15 (d := dd15) rfl
  obtain ⟨d16, F16⟩ := c.t.d.def_ 16 (d := dd16) rfl
  obtain ⟨d17, F17⟩ := c.t.d.def_ 17 (d := dd17) rfl
  obtain ⟨d18, F18⟩ := c.t.d.def_ 18 (d := dd18) rfl
  obtain ⟨d19, F19⟩ := c.t.d.def_ 19 (d := dd19) rfl
  obtain ⟨d20, F20⟩ := c.t.d.def_ 20 (d := dd20) rfl
  obtain ⟨d21, F21⟩ := c.t.d.def_ 21 (d := dd21) rfl
  obtain ⟨d22, F22⟩ := c.t.d.def_ 22 (d := dd22) rfl
  obtain ⟨d23, F23⟩ := c.t.d.def_ 23 (d := dd23) rfl
  obtain ⟨d24, F24⟩ := c.t.d.def_ 24 (d := dd24) rfl
  obtain ⟨d25, F25⟩ := c.t.d.def_ 25 (d := dd25) rfl
  obtain ⟨d26, F26⟩ := c.t.d.def_ 26 (d := dd26) rfl
  obtain ⟨d27, F27⟩ := c.t.d.def_ 27 (d := dd27) rfl
  obtain ⟨d28, F28⟩ := c.t.d.def_ 28 (d := dd28) rfl
  obtain ⟨d29, F29⟩ := c.t.d.def_ 29 (d := dd29) rfl
  obtain ⟨d30, F30⟩ := c.t.d.def_ 30 (d := dd30) rfl
  obtain ⟨d31, F31⟩ := c.t.d.def_ 31 (d := dd31) rfl
  obtain ⟨d32, F32⟩ := c.t.d.def_ 32 (d := dd32) rfl
  obtain ⟨d33, F33⟩ := c.t.d.def_ 33 (d := dd33) rfl
  obtain ⟨d34, F34⟩ := c.t.d.def_ 34 (d := dd34) rfl
  obtain ⟨d35, F35⟩ := c.t.d.def_ 35 (d := dd35) rfl
  obtain ⟨d36, F36⟩ := c.t.d.def_ 36 (d := dd36) rfl
  obtain ⟨d37, F37⟩ := c.t.d.def_ 37 (d := dd37) rfl
  obtain ⟨d38, F38⟩ := c.t.d.def_ 38 (d := dd38) rfl
  obtain ⟨d39, F39⟩ := c.t.d.def_ 39 (d := dd39) rfl
  obtain ⟨d40, F40⟩ := c.t.d.def_ 40 (d := dd40) rfl
  obtain ⟨d41, F41⟩ := c.t.d.def_ 41 (d := dd41) rfl
  have x0 : (errsB [.DeskError, .TooMany, .BadName, .BadWorld, .BadArea, .BadGauge, .BadRun, .BadTable] K) = true := c.more
  obtain ⟨d42, F42⟩ := c.t.d.def_ 42 (d := dd42) rfl
  obtain ⟨e1, e2, e3⟩ := errsB_ok X G (show errsB [.DeskError, .TooMany, .BadName, .BadWorld, .BadArea, .BadGauge, .BadRun, .BadTable] K = true from x0)
  exact ⟨{ f_line := He.ga K "line", d_line := d0, F_line := F0, g_line := He.glo_ok X G (c.t.d.fact 0 (f := .glo "line") rfl), f_below := He.ga K "below", d_below := d1, F_below := F1, g_below := He.glo_ok X G (c.t.d.fact 1 (f := .glo "below") rfl), f_is_name := He.ga K "is_name", d_is_name := d2, F_is_name := F2, g_is_name := He.glo_ok X G (c.t.d.fact 2 (f := .glo "is_name") rfl), f_check_names := He.ga K "check_names", d_check_names := d3, F_check_names := F3, g_check_names := He.glo_ok X G (c.t.d.fact 3 (f := .glo "check_names") rfl), f_frozen := He.ga K "frozen", d_frozen := d4, F_frozen := F4, g_frozen := He.glo_ok X G (c.t.d.fact 4 (f := .glo "frozen") rfl), f_check_areas := He.ga K "check_areas", d_check_areas := d5, F_check_areas := F5, g_check_areas := He.glo_ok X G (c.t.d.fact 5 (f := .glo "check_areas") rfl), f_are_limits := He.ga K "are_limits", d_are_limits := d6, F_are_limits := F6, g_are_limits := He.glo_ok X G (c.t.d.fact 6 (f := .glo "are_limits") rfl), f_check_gauges := He.ga K "check_gauges", d_check_gauges := d7, F_check_gauges := F7, g_check_gauges := He.glo_ok X G (c.t.d.fact 7 (f := .glo "check_gauges") rfl), f_are_readings := He.ga K "are_readings", d_are_readings := d8, F_are_readings := F8, g_are_readings := He.glo_ok X G (c.t.d.fact 8 (f := .glo "are_readings") rfl), f_check_runs := He.ga K "check_runs", d_check_runs := d9, F_check_runs := F9, g_check_runs := He.glo_ok X G (c.t.d.fact 9 (f := .glo "check_runs") rfl), f_World_init := He.ma K (He.ga K "World") "__init__", d_World_init := d10, F_World_init := F10, f_parents_of := He.ga K "parents_of", d_parents_of := d11, F_parents_of := F11, g_parents_of := He.glo_ok X G (c.t.d.fact 10 (f := .glo "parents_of") rfl), f_level_of := He.ga K "level_of", d_level_of := d12, F_level_of := F12, g_level_of := He.glo_ok X G (c.t.d.fact 11 (f := .glo "level_of") rfl), f_gauges_under := He.ga K "gauges_under", d_gauges_under := d13, F_gauges_under := F13, g_gauges_under := He.glo_ok X G (c.t.d.fact 12 (f := .glo "gauges_under") rfl), f_highest_level := He.ga K "highest_level", d_highest_level := d14, F_highest_level := F14, g_highest_level := He.glo_ok X G (c.t.d.fact 13 (f := .glo "highest_level") rfl), f_reached := He.ga K "reached", d_reached := d15, F_reached := F15, g_reached := He.glo_ok X G (c.t.d.fact 14 (f := .glo "reached") rfl), f_reached_row := He.ga K "reached_row", d_reached_row := d16, F_reached_row := F16, g_reached_row := He.glo_ok X G (c.t.d.fact 15 (f := .glo "reached_row") rfl), f_stretches_from := He.ga K "stretches_from", d_stretches_from := d17, F_stretches_from := F17, g_stretches_from := He.glo_ok X G (c.t.d.fact 16 (f := .glo "stretches_from") rfl), f_stretches := He.ga K "stretches", d_stretches := d18, F_stretches := F18, g_stretches := He.glo_ok X G (c.t.d.fact 17 (f := .glo "stretches") rfl), f_events := He.ga K "events", d_events := d19, F_events := F19, g_events := He.glo_ok X G (c.t.d.fact 18 (f := .glo "events") rfl), f_hour_tally := He.ga K "hour_tally", d_hour_tally := d20, F_hour_tally := F20, g_hour_tally := He.glo_ok X G (c.t.d.fact 19 (f := .glo "hour_tally") rfl), f__law_mix := He.ga K "_law_mix", d__law_mix := d21, F__law_mix := F21, g__law_mix := He.glo_ok X G (c.t.d.fact 20 (f := .glo "_law_mix") rfl), f__law_pool := He.ga K "_law_pool", d__law_pool := d22, F__law_pool := F22, g__law_pool := He.glo_ok X G (c.t.d.fact 21 (f := .glo "_law_pool") rfl), f__law_fill := He.ga K "_law_fill", d__law_fill := d23, F__law_fill := F23, g__law_fill := He.glo_ok X G (c.t.d.fact 22 (f := .glo "_law_fill") rfl), f__law_take := He.ga K "_law_take", d__law_take := d24, F__law_take := F24, g__law_take := He.glo_ok X G (c.t.d.fact 23 (f := .glo "_law_take") rfl), f__law_from := He.ga K "_law_from", d__law_from := d25, F__law_from := F25, g__law_from := He.glo_ok X G (c.t.d.fact 24 (f := .glo "_law_from") rfl), f__law_name := He.ga K "_law_name", d__law_name := d26, F__law_name := F26, g__law_name := He.glo_ok X G (c.t.d.fact 25 (f := .glo "_law_name") rfl), f__law_names := He.ga K "_law_names", d__law_names := d27, F__law_names := F27, g__law_names := He.glo_ok X G (c.t.d.fact 26 (f := .glo "_law_names") rfl), f__law_areas := He.ga K "_law_areas", d__law_areas := d28, F__law_areas := F28, g__law_areas := He.glo_ok X G (c.t.d.fact 27 (f := .glo "_law_areas") rfl), f__law_limits := He.ga K "_law_limits", d__law_limits := d29, F__law_limits := F29, g__law_limits := He.glo_ok X G (c.t.d.fact 28 (f := .glo "_law_limits") rfl), f__law_reading := He.ga K "_law_reading", d__law_reading := d30, F__law_reading := F30, g__law_reading := He.glo_ok X G (c.t.d.fact 29 (f := .glo "_law_reading") rfl), f__law_run_rows := He.ga K "_law_run_rows", d__law_run_rows := d31, F__law_run_rows := F31, g__law_run_rows := He.glo_ok X G (c.t.d.fact 30 (f := .glo "_law_run_rows") rfl), f__law_data := He.ga K "_law_data", d__law_data := d32, F__law_data := F32, g__law_data := He.glo_ok X G (c.t.d.fact 31 (f := .glo "_law_data") rfl), f__law_line := He.ga K "_law_line", d__law_line := d33, F__law_line := F33, g__law_line := He.glo_ok X G (c.t.d.fact 32 (f := .glo "_law_line") rfl), f__law_reached := He.ga K "_law_reached", d__law_reached := d34, F__law_reached := F34, g__law_reached := He.glo_ok X G (c.t.d.fact 33 (f := .glo "_law_reached") rfl), f__law_is_int := He.ga K "_law_is_int", d__law_is_int := d35, F__law_is_int := F35, g__law_is_int := He.glo_ok X G (c.t.d.fact 34 (f := .glo "_law_is_int") rfl), f__law_same_tuples := He.ga K "_law_same_tuples", d__law_same_tuples := d36, F__law_same_tuples := F36, g__law_same_tuples := He.glo_ok X G (c.t.d.fact 35 (f := .glo "_law_same_tuples") rfl), f__law_levels := He.ga K "_law_levels", d__law_levels := d37, F__law_levels := F37, g__law_levels := He.glo_ok X G (c.t.d.fact 36 (f := .glo "_law_levels") rfl), f__law_stretches := He.ga K "_law_stretches", d__law_stretches := d38, F__law_stretches := F38, g__law_stretches := He.glo_ok X G (c.t.d.fact 37 (f := .glo "_law_stretches") rfl), f__law_hours := He.ga K "_law_hours", d__law_hours := d39, F__law_hours := F39, g__law_hours := He.glo_ok X G (c.t.d.fact 38 (f := .glo "_law_hours") rfl), f__law_refused := He.ga K "_law_refused", d__law_refused := d40, F__law_refused := F40, g__law_refused := He.glo_ok X G (c.t.d.fact 39 (f := .glo "_law_refused") rfl), f_law := He.ga K "law", d_law := d41, F_law := F41, g_law := He.glo_ok X G (c.t.d.fact 40 (f := .glo "law") rfl), c_World := He.cls_ok (c.t.d.fact 61 (f := .cls "World") rfl), n_World_areas := He.noat_ok (c.t.d.fact 62 (f := .noat "World" "areas") rfl), n_World_gauges := He.noat_ok (c.t.d.fact 63 (f := .noat "World" "gauges") rfl), n_World_hours := He.noat_ok (c.t.d.fact 64 (f := .noat "World" "hours") rfl), n_World_runs := He.noat_ok (c.t.d.fact 65 (f := .noat "World" "runs") rfl), n_World_top := He.noat_ok (c.t.d.fact 66 (f := .noat "World" "top") rfl), mk_World := He.mkr_ok (c.t.d.fact 67 (f := .mkr "World") rfl), g_World := He.glo_ok X G (c.t.d.fact 68 (f := .glo "World") rfl), gb_ValueError := He.free_ok X G (c.t.d.fact 41 (f := .free "ValueError") rfl), gb_bool := He.free_ok X G (c.t.d.fact 42 (f := .free "bool") rfl), gb_enumerate := He.free_ok X G (c.t.d.fact 43 (f := .free "enumerate") rfl), gb_int := He.free_ok X G (c.t.d.fact 44 (f := .free "int") rfl), gb_isinstance := He.free_ok X G (c.t.d.fact 45 (f := .free "isinstance") rfl), gb_len := He.free_ok X G (c.t.d.fact 46 (f := .free "len") rfl), gb_list := He.free_ok X G (c.t.d.fact 47 (f := .free "list") rfl), gb_max := He.free_ok X G (c.t.d.fact 48 (f := .free "max") rfl), gb_range := He.free_ok X G (c.t.d.fact 49 (f := .free "range") rfl), gb_tuple := He.free_ok X G (c.t.d.fact 50 (f := .free "tuple") rfl), gi_HIGHEST := He.int_ok X G (c.t.d.fact 51 (f := .int "HIGHEST" (9999)) rfl), gi_LONGEST := He.int_ok X G (c.t.d.fact 52 (f := .int "LONGEST" (12)) rfl), gi_LOWEST := He.int_ok X G (c.t.d.fact 53 (f := .int "LOWEST" (-999)) rfl), gi_MOST_AREAS := He.int_ok X G (c.t.d.fact 54 (f := .int "MOST_AREAS" (6)) rfl), gi_MOST_GAUGES := He.int_ok X G (c.t.d.fact 55 (f := .int "MOST_GAUGES" (6)) rfl), gi_MOST_HOURS := He.int_ok X G (c.t.d.fact 56 (f := .int "MOST_HOURS" (24)) rfl), gi_MOST_RUNS := He.int_ok X G (c.t.d.fact 57 (f := .int "MOST_RUNS" (6)) rfl), gi_MOST_TOP := He.int_ok X G (c.t.d.fact 58 (f := .int "MOST_TOP" (4)) rfl), gi_MOST_WEIGHT := He.int_ok X G (c.t.d.fact 59 (f := .int "MOST_WEIGHT" (1000)) rfl), gs_LETTERS := He.str_ok X G (c.t.d.fact 60 (f := .str "LETTERS" "abcdefghijklmnopqrstuvwxyz") rfl), f_err := He.fAd K ("DeskError", some "__init__"), d_err := d42, F_err := F42, xs := fun c h => e1 c (of_decide_eq_true h), ki := fun c b h h2 => e2 c b (of_decide_eq_true h) (of_decide_eq_true h2), ex := fun c b h h2 => e3 c b (of_decide_eq_true h) (of_decide_eq_true h2) }, rfl⟩
end K61
open PySem PySem.W PySem.Calls PyProof.Rows
theorem PySem.Challenge.cw_stormdesk_k61_stretches_and_hours_holds : PySem.Challenge.rw_stormdesk_k61_stretches_and_hours.Holds := by
  w_on; o_law
  refine HandSHeadRun.head_any (r := OpenLaw.row PySem.Challenge.rw_stormdesk_k61_stretches_and_hours) (q := view (OpenLaw.row PySem.Challenge.rw_stormdesk_k61_stretches_and_hours).prog [68]) (H := K61.hk) (ob := K61.ob) (M := 6000) (loose := K61.lo) (d := HandSHeadRun.topDef (OpenLaw.row PySem.Challenge.rw_stormdesk_k61_stretches_and_hours).prog 68) (kwd := []) K61.ob_eq
    (by kernel_rfl) (fun s => by kernel_rfl) K61.hd_run (by kernel_rfl) (by kernel_rfl) (by kernel_rfl) (by rfl) (by first | assumption | decide +kernel) (by decide +kernel) ⟨rfl, rfl, rfl, rfl, rfl, by decide +kernel⟩ ?hw ?hc
  case hw => w_witness2
  case hc =>
    refine L2.walk_ofE (l := PySem.Challenge.rw_stormdesk_k61_stretches_and_hours) (n := 63) (k := 11) (x := "script") (CX := L2.CX0) rfl (by decide) (by kernel_rfl) ⟨rfl, by decide, by decide⟩ ?F (fun _ _ _ _ z => z)
    intro w mg fa h Y G hmg0
    obtain ⟨K, KX, c⟩ := Y
    have hmg : mg ("law" : PySem.Str) = some (.ref fa) := by
      have e : (HandSHeadRun.topDef (OpenLaw.row PySem.Challenge.rw_stormdesk_k61_stretches_and_hours).prog 68).name = ("law" : PySem.Str) := by kernel_rfl
      rw [← e]
      exact hmg0
    obtain ⟨T, hT⟩ := K61.mk KX G c
    have e := hmg.symm.trans T.g_law
    have e2 : fa = T.f_law := by
      have e3 := Option.some.inj e
      injection e3
    subst e2
    have b := L2.FunD.bindsA (ps := ["script"]) T.F_law fun _ _ _ _ _ _ us hl => match us, hl with | [_], _ => rfl
    exact ⟨K, T.d_law, Sd.spLaw K K61.m_law, KX, fun s v => b s [v] rfl, fun H a ns hl _ hS => ⟨a, ns, rfl, hS, Nat.le_trans hl (by decide), by rw [K61.law_true ns hl]; exact fun v H' hv => hv⟩, fun base _ _ => K61.ok_law T⟩

