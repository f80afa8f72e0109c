import PyProof.Rows.All
import Wide.All
import OpenK.AllK
import Wide.FinOn
import HandS.ForMost
import HandS.ForExc
import HandS.Walk
import HandS.Sort
import HandS.SortRule
import HandS.SortInts
import HandS.Flow
import HandS.IsInst
import HandS.Gcd
import HandS.ExcInit
import HandS.ExcIs
import HandS.ExcField
import HandS.TryOnly
import HandS.Defaults
import HandS.TupAny
import HandS.Conv
import HandS.Style
import HandS.HeadHook4
import HandS.HeadEnd
import HandS.Head2
import HandS.Evl
import HandS.Wide
import HandS.Head3
import PyProof.StrOps2
import KE.GoesMore
import HandS.HotCalls
import HandS.DictComp
import HandS.RevRange
import PySem.Challenge.RW_stormdesk_k62_judging_pairs_and_covers
set_option Elab.async false
set_option linter.all false
set_option maxRecDepth 100000
set_option maxHeartbeats 4000000
namespace Sd
open PySem L2
/-! ### results -/
inductive Ec where
  | DeskError | TooMany | BadName | BadRatio | BadSpan | BadLine | BadWorld | BadArea | BadGauge | BadRun | BadTable | BadSignals | Unlike
  | BadPerson | BadCall | BadTree | BadRule | BadDeed | NoBulletin | BadPair | Unplayable
  deriving DecidableEq, Repr
inductive Res (α : Type) where
  | ok (a : α)
  | exc (c : Ec) (i : Int)
  | bad
namespace Res
variable {α β γ : Type}
def bind (m : Res α) (k : α → Res β) : Res β := match m with
  | .ok a => k a
  | .exc c i => .exc c i
  | .bad => .bad
@[simp] theorem bind_ok (a : α) (k : α → Res β) : (Res.ok a).bind k = k a := rfl
@[simp] theorem bind_exc (c : Ec) (i : Int) (k : α → Res β) : (Res.exc c i).bind k = .exc c i := rfl
@[simp] theorem bind_bad (k : α → Res β) : (Res.bad).bind k = .bad := rfl
@[simp] theorem bind_assoc (m : Res α) (k : α → Res β) (l : β → Res γ) : (m.bind k).bind l = m.bind fun a => (k a).bind l := by cases m <;> rfl
@[simp] theorem bind_id (m : Res α) : m.bind .ok = m := by cases m <;> rfl
end Res
/-- what is wanted of a result -/
def Post {α : Type} (m : Res α) (Q : α → Prop) (X : Ec → Int → Prop) : Prop := match m with
  | .ok a => Q a
  | .exc c i => X c i
  | .bad => False
section
variable {α β : Type} {m : Res α} {k : α → Res β} {Q Q' : α → Prop} {R : β → Prop} {X X' : Ec → Int → Prop}
theorem Post.bind (h : Post (m.bind k) R X) : Post m (fun a => Post (k a) R X) X := by
  cases m with
  | ok a => exact h
  | exc c i => exact h
  | bad => exact h
theorem Post.of_bind (h : Post m (fun a => Post (k a) R X) X) : Post (m.bind k) R X := by
  cases m with
  | ok a => exact h
  | exc c i => exact h
  | bad => exact h
theorem Post.mono (h : Post m Q X) (q : ∀ a, Q a → Q' a) (x : ∀ c i, X c i → X' c i) : Post m Q' X' := by
  cases m with
  | ok a => exact q a h
  | exc c i => exact x c i h
  | bad => exact h
theorem Post.and (h : Post m Q X) (h' : Post m Q' X) : Post m (fun a => Q a ∧ Q' a) X := by
  cases m with
  | ok a => exact ⟨h, h'⟩
  | exc c i => exact h
  | bad => exact h
end
/-! ### the heap: what is known for good (I), what may change (C) -/
abbrev Ex (H H' : Hp) : Prop := ∀ a o, H a = some o → H' a = some o
theorem Ex.refl (H : Hp) : Ex H H := fun _ _ h => h
theorem Ex.trans {H H1 H2 : Hp} (a : Ex H H1) (b : Ex H1 H2) : Ex H H2 := fun x o h => b x o (a x o h)
theorem Ex.new {H : Hp} {p : Addr} {o : HO} (h : H p = none) : Ex H (upd H p o) := fun a u e => by
  rw [upd_ne (ne_of_none e h)]
  exact e
structure St (I C H : Hp) : Prop where
  i : Ex I H
  c : Ex C H
  s : ∀ a, I a = none ∨ C a = none
theorem Ex.free {H H' : Hp} {p : Addr} (e : Ex H H') (h : H' p = none) : H p = none := by
  cases q : H p with
  | none => rfl
  | some o =>
    rw [e p o q] at h
    cases h
section
variable {I I' C C' H H' : Hp} {p : Addr} {o u : HO}
/-- a new object, known for good -/
theorem St.newI (s : St I C H) (h : H p = none) : St (upd I p o) C (upd H p o) := by
  refine ⟨fun a v e => ?_, fun a v e => ?_, fun a => ?_⟩
  · by_cases q : a = p
    · subst q
      rw [upd_same] at e ⊢
      exact e
    · rw [upd_ne q] at e ⊢
      exact s.i a v e
  · rw [upd_ne (ne_of_none (s.c a v e) h)]
    exact s.c a v e
  · by_cases q : a = p
    · subst q
      exact .inr (s.c.free h)
    · rw [upd_ne q]
      exact s.s a
/-- a new object that may change -/
theorem St.newC (s : St I C H) (h : H p = none) : St I (upd C p o) (upd H p o) := by
  refine ⟨fun a v e => ?_, fun a v e => ?_, fun a => ?_⟩
  · rw [upd_ne (ne_of_none (s.i a v e) h)]
    exact s.i a v e
  · by_cases q : a = p
    · subst q
      rw [upd_same] at e ⊢
      exact e
    · rw [upd_ne q] at e ⊢
      exact s.c a v e
  · by_cases q : a = p
    · subst q
      exact .inl (s.i.free h)
    · rw [upd_ne q]
      exact s.s a
/-- a cell changes -/
theorem St.set (s : St I C H) (h : C p = some u) : St I (upd C p o) (upd H p o) := by
  have hi : I p = none := (s.s p).elim id fun z => by
    rw [z] at h
    cases h
  refine ⟨fun a v e => ?_, fun a v e => ?_, fun a => ?_⟩
  · rw [upd_ne (ne_of_none e hi)]
    exact s.i a v e
  · by_cases q : a = p
    · subst q
      rw [upd_same] at e ⊢
      exact e
    · rw [upd_ne q] at e ⊢
      exact s.c a v e
  · by_cases q : a = p
    · subst q
      exact .inl hi
    · rw [upd_ne q]
      exact s.s a
/-- a cell is known for good from now on -/
theorem St.frz (s : St I C H) (h : C p = some o) : St (upd I p o) (fun a => if a = p then none else C a) H := by
  refine ⟨fun a v e => ?_, fun a v e => ?_, fun a => ?_⟩
  · by_cases q : a = p
    · subst q
      rw [upd_same] at e
      cases e
      exact s.c a o h
    · rw [upd_ne q] at e
      exact s.i a v e
  · by_cases q : a = p
    · rw [if_pos q] at e
      cases e
    · rw [if_neg q] at e
      exact s.c a v e
  · by_cases q : a = p
    · exact .inr (if_pos q)
    · rw [upd_ne q, if_neg q]
      exact s.s a
theorem St.less (s : St I C H) (e : Ex C' C) : St I C' H := ⟨s.i, e.trans s.c, fun a => (s.s a).imp id fun z => e.free z⟩
theorem St.freeI (s : St I C H) (h : C p = some u) : I p = none := (s.s p).elim id fun z => by
  rw [z] at h
  cases h
end
/-! ### representation -/
structure Rp (α : Type) where
  r : α → V → Hp → Hp → Prop
  mono : ∀ {a : α} {v : V} {I I' C C' : Hp}, Ex I I' → Ex C C' → r a v I C → r a v I' C'
/-- .. by what is known for good alone -/
class Im {α : Type} (R : Rp α) : Prop where
  im : ∀ {a : α} {v : V} {I C C' : Hp}, R.r a v I C → R.r a v I C'
theorem Rp.to {α : Type} (R : Rp α) [Im R] {a : α} {v : V} {I I' C C' : Hp} (e : Ex I I') (h : R.r a v I C) : R.r a v I' C' := Im.im (R.mono e (Ex.refl C) h)
/-- item by item -/
inductive A2 {α : Type} (f : α → V → Prop) : List α → List V → Prop where
  | nil : A2 f [] []
  | cons {x : α} {v : V} {xs : List α} {vs : List V} : f x v → A2 f xs vs → A2 f (x :: xs) (v :: vs)
section
variable {α β : Type} {f g : α → V → Prop} {xs ys : List α} {vs ws : List V}
theorem A2.imp (h : ∀ x v, f x v → g x v) : ∀ {xs : List α} {vs : List V}, A2 f xs vs → A2 g xs vs
  | _, _, .nil => .nil
  | _, _, .cons r t => .cons (h _ _ r) (A2.imp h t)
theorem A2.len : ∀ {xs : List α} {vs : List V}, A2 f xs vs → vs.length = xs.length
  | _, _, .nil => rfl
  | _, _, .cons _ t => by rw [List.length_cons, List.length_cons, A2.len t]
theorem A2.get : ∀ {xs : List α} {vs : List V} {i : Nat} {v : V}, A2 f xs vs → vs[i]? = some v → ∃ x, xs[i]? = some x ∧ f x v
  | _, _, _, _, .nil, e => by cases e
  | _, _, 0, _, .cons r _, e => ⟨_, rfl, by
    have e2 := Option.some.inj e
    rw [← e2]
    exact r⟩
  | _, _, i + 1, _, .cons _ t, e => A2.get (i := i) t e
theorem A2.get' : ∀ {xs : List α} {vs : List V} {i : Nat} {x : α}, A2 f xs vs → xs[i]? = some x → ∃ v, vs[i]? = some v ∧ f x v
  | _, _, _, _, .nil, e => by cases e
  | _, _, 0, _, .cons r _, e => ⟨_, rfl, by
    have e2 := Option.some.inj e
    rw [← e2]
    exact r⟩
  | _, _, i + 1, _, .cons _ t, e => A2.get' (i := i) t e
theorem A2.append : ∀ {xs : List α} {vs : List V} {ys : List α} {ws : List V}, A2 f xs vs → A2 f ys ws → A2 f (xs ++ ys) (vs ++ ws)
  | _, _, _, _, .nil, s => s
  | _, _, _, _, .cons r t, s => .cons r (A2.append t s)
theorem A2.take : ∀ {xs : List α} {vs : List V} (n : Nat), A2 f xs vs → A2 f (xs.take n) (vs.take n)
  | _, _, 0, _ => .nil
  | _, _, _ + 1, .nil => .nil
  | _, _, n + 1, .cons r t => .cons r (A2.take n t)
theorem A2.drop : ∀ {xs : List α} {vs : List V} (n : Nat), A2 f xs vs → A2 f (xs.drop n) (vs.drop n)
  | _, _, 0, r => r
  | _, _, _ + 1, .nil => .nil
  | _, _, n + 1, .cons _ t => A2.drop n t
theorem A2.set {x : α} {v : V} (r : f x v) : ∀ {xs : List α} {vs : List V} (i : Nat), A2 f xs vs → A2 f (xs.set i x) (vs.set i v)
  | _, _, _, .nil => .nil
  | _, _, 0, .cons _ t => .cons r t
  | _, _, i + 1, .cons q t => .cons q (A2.set r i t)
theorem A2.dropLast : ∀ {xs : List α} {vs : List V}, A2 f xs vs → A2 f xs.dropLast vs.dropLast
  | _, _, .nil => .nil
  | _, _, .cons _ .nil => .nil
  | _, _, .cons r (.cons q t) => .cons r (A2.dropLast (.cons q t))
theorem A2.one {x : α} {v : V} (h : f x v) : A2 f [x] [v] := .cons h .nil
/-- scalars: the values are a map -/
theorem A2.map_iff {h : α → V} (hf : ∀ x v, f x v → v = h x) : ∀ {xs : List α} {vs : List V}, A2 f xs vs → vs = xs.map h
  | _, _, .nil => rfl
  | _, _, .cons r t => by rw [List.map_cons, hf _ _ r, A2.map_iff hf t]
theorem A2.of_map {h : α → V} (hf : ∀ x, f x (h x)) : ∀ xs : List α, A2 f xs (xs.map h)
  | [] => .nil
  | x :: r => .cons (hf x) (A2.of_map hf r)
end
def pI : Rp Int := ⟨fun i v _ _ => v = .int i, fun _ _ h => h⟩
def pB : Rp Bool := ⟨fun b v _ _ => v = .bl b, fun _ _ h => h⟩
def pS : Rp Str := ⟨fun x v _ _ => v = .str x ∧ PyData.strOk x = true, fun _ _ h => h⟩
def pN : Rp Unit := ⟨fun _ v _ _ => v = .non, fun _ _ h => h⟩
instance : Im pI := ⟨fun h => h⟩
instance : Im pB := ⟨fun h => h⟩
instance : Im pS := ⟨fun h => h⟩
instance : Im pN := ⟨fun h => h⟩
def oR {α : Type} (R : Rp α) (I C : Hp) : Option α → V → Prop
  | none, v => v = .non
  | some a, v => R.r a v I C ∧ v ≠ .non
def pO {α : Type} (R : Rp α) : Rp (Option α) := ⟨fun o v I C => oR R I C o v, fun {a v I I' C C'} e e' h => by
  cases a with
  | none => exact h
  | some a => exact ⟨R.mono e e' h.1, h.2⟩⟩
instance {α : Type} {R : Rp α} [Im R] : Im (pO R) := ⟨fun {a v I C C'} h => by
  cases a with
  | none => exact h
  | some a => exact ⟨Im.im h.1, h.2⟩⟩
theorem ex_l {K : PySem.W.Frag} {H H' : Hp} {a : Addr} {xs : List V} (e : Ex H H') (h : SqL K H a xs) : SqL K H' a xs := by
  rcases h with (h | ⟨o, h⟩) | h
  · exact .inl (.inl (e a _ h))
  · exact .inl (.inr ⟨o, e a _ h⟩)
  · exact .inr h
theorem ex_t {K : PySem.W.Frag} {H H' : Hp} {a : Addr} {xs : List V} (e : Ex H H') (h : SqT K H a xs) : SqT K H' a xs := by
  rcases h with (h | ⟨o, h⟩) | h
  · exact .inl (.inl (e a _ h))
  · exact .inl (.inr ⟨o, e a _ h⟩)
  · exact .inr h
/-- the places of a row of values -/
structure Rt (α : Type) where
  r : α → List V → Hp → Hp → Prop
  mono : ∀ {a : α} {vs : List V} {I I' C C' : Hp}, Ex I I' → Ex C C' → r a vs I C → r a vs I' C'
  n : Nat
  len : ∀ {a : α} {vs : List V} {I C : Hp}, r a vs I C → vs.length = n
class It {α : Type} (T : Rt α) : Prop where
  im : ∀ {a : α} {vs : List V} {I C C' : Hp}, T.r a vs I C → T.r a vs I C'
def t1 {α : Type} (R : Rp α) : Rt α := ⟨fun a vs I C => ∃ v, vs = [v] ∧ R.r a v I C, fun e e' ⟨v, h1, h2⟩ => ⟨v, h1, R.mono e e' h2⟩, 1, fun ⟨_, h, _⟩ => by rw [h]; rfl⟩
def tc {α β : Type} (R : Rp α) (T : Rt β) : Rt (α × β) := ⟨fun p vs I C => ∃ v us, vs = v :: us ∧ R.r p.1 v I C ∧ T.r p.2 us I C, fun e e' ⟨v, us, h1, h2, h3⟩ => ⟨v, us, h1, R.mono e e' h2, T.mono e e' h3⟩, T.n + 1,
  fun ⟨_, _, h, _, h3⟩ => by rw [h, List.length_cons, T.len h3]⟩
instance {α : Type} {R : Rp α} [Im R] : It (t1 R) := ⟨fun ⟨v, h1, h2⟩ => ⟨v, h1, Im.im h2⟩⟩
instance {α β : Type} {R : Rp α} {T : Rt β} [Im R] [It T] : It (tc R T) := ⟨fun ⟨v, us, h1, h2, h3⟩ => ⟨v, us, h1, Im.im h2, It.im h3⟩⟩
section
variable (K : PySem.W.Frag) {α : Type}
/-- a list -/
def pL (R : Rp α) : Rp (List α) := ⟨fun xs v I C => ∃ a vs, v = .ref a ∧ I a = some (.lst vs) ∧ vs.length ≤ sizeLine ∧ A2 (fun x u => R.r x u I C) xs vs,
  fun e e' ⟨a, vs, h1, h2, h3, h4⟩ => ⟨a, vs, h1, e a _ h2, h3, h4.imp fun _ _ => R.mono e e'⟩⟩
/-- a tuple of any length -/
def pQ (R : Rp α) : Rp (List α) := ⟨fun xs v I C => ∃ a vs, v = .ref a ∧ SqT K I a vs ∧ vs.length ≤ sizeLine ∧ A2 (fun x u => R.r x u I C) xs vs,
  fun e e' ⟨a, vs, h1, h2, h3, h4⟩ => ⟨a, vs, h1, ex_t e h2, h3, h4.imp fun _ _ => R.mono e e'⟩⟩
/-- a list that is read: known for good, or a cell -/
def pV (R : Rp α) : Rp (List α) := ⟨fun xs v I C => ∃ a vs, v = .ref a ∧ (I a = some (.lst vs) ∨ C a = some (.lst vs)) ∧ vs.length ≤ sizeLine ∧ A2 (fun x u => R.r x u I C) xs vs,
  fun e e' ⟨a, vs, h1, h2, h3, h4⟩ => ⟨a, vs, h1, h2.imp (e a _) (e' a _), h3, h4.imp fun _ _ => R.mono e e'⟩⟩
/-- the script -/
def pW (R : Rp α) : Rp (List α) := ⟨fun xs v I C => ∃ a vs, v = .ref a ∧ SqL K I a vs ∧ vs.length ≤ sizeLine ∧ A2 (fun x u => R.r x u I C) xs vs,
  fun e e' ⟨a, vs, h1, h2, h3, h4⟩ => ⟨a, vs, h1, ex_l e h2, h3, h4.imp fun _ _ => R.mono e e'⟩⟩
/-- a tuple, a list, with fixed places -/
def pT (T : Rt α) : Rp α := ⟨fun x v I C => ∃ a vs, v = .ref a ∧ I a = some (.tup vs) ∧ T.r x vs I C, fun e e' ⟨a, vs, h1, h2, h3⟩ => ⟨a, vs, h1, e a _ h2, T.mono e e' h3⟩⟩
/-- a tuple that may stand in the written part -/
def pU (T : Rt α) : Rp α := ⟨fun x v I C => ∃ a vs, v = .ref a ∧ SqT K I a vs ∧ T.r x vs I C, fun e e' ⟨a, vs, h1, h2, h3⟩ => ⟨a, vs, h1, ex_t e h2, T.mono e e' h3⟩⟩
def pD (T : Rt α) : Rp α := ⟨fun x v I C => ∃ a vs, v = .ref a ∧ I a = some (.lst vs) ∧ T.r x vs I C, fun e e' ⟨a, vs, h1, h2, h3⟩ => ⟨a, vs, h1, e a _ h2, T.mono e e' h3⟩⟩
instance {T : Rt α} [It T] : Im (pU K T) := ⟨fun ⟨a, vs, h1, h2, h3⟩ => ⟨a, vs, h1, h2, It.im h3⟩⟩
instance {R : Rp α} [Im R] : Im (pW K R) := ⟨fun ⟨a, vs, h1, h2, h3, h4⟩ => ⟨a, vs, h1, h2, h3, h4.imp fun _ _ => Im.im⟩⟩
instance {R : Rp α} [Im R] : Im (pL R) := ⟨fun ⟨a, vs, h1, h2, h3, h4⟩ => ⟨a, vs, h1, h2, h3, h4.imp fun _ _ => Im.im⟩⟩
instance {R : Rp α} [Im R] : Im (pQ K R) := ⟨fun ⟨a, vs, h1, h2, h3, h4⟩ => ⟨a, vs, h1, h2, h3, h4.imp fun _ _ => Im.im⟩⟩
instance {T : Rt α} [It T] : Im (pT T) := ⟨fun ⟨a, vs, h1, h2, h3⟩ => ⟨a, vs, h1, h2, It.im h3⟩⟩
instance {T : Rt α} [It T] : Im (pD T) := ⟨fun ⟨a, vs, h1, h2, h3⟩ => ⟨a, vs, h1, h2, It.im h3⟩⟩
end
/-- the k-th place of such a row, its reading f -/
def Pj {α β : Type} (T : Rt α) (k : Nat) (f : α → β) (R : Rp β) : Prop := ∀ x vs I C, T.r x vs I C → ∃ w, vs[k]? = some w ∧ R.r (f x) w I C
theorem pj1 {α : Type} {R : Rp α} : Pj (t1 R) 0 (fun x => x) R := fun x vs I C ⟨v, h1, h2⟩ => ⟨v, by rw [h1]; rfl, h2⟩
theorem pj0 {α β : Type} {R : Rp α} {T : Rt β} : Pj (tc R T) 0 (fun x => x.1) R := fun x vs I C ⟨v, us, h1, h2, _⟩ => ⟨v, by rw [h1]; rfl, h2⟩
theorem pjs {α β γ : Type} {R : Rp α} {T : Rt β} {S : Rp γ} {k : Nat} {f : β → γ} (h : Pj T k f S) : Pj (tc R T) (k + 1) (fun x => f x.2) S := fun x vs I C ⟨v, us, h1, _, h3⟩ => by
  obtain ⟨w, e, r⟩ := h x.2 us I C h3
  exact ⟨w, by rw [h1]; exact e, r⟩
/-- the k-th place stored -/
def Pk {α β : Type} (T : Rt α) (k : Nat) (g : α → β → α) (R : Rp β) : Prop := ∀ x vs I C b w, T.r x vs I C → R.r b w I C → T.r (g x b) (vs.set k w) I C ∧ k < vs.length
theorem pk1 {α : Type} {R : Rp α} : Pk (t1 R) 0 (fun _ b => b) R := fun x vs I C b w ⟨v, h1, h2⟩ r => by
  subst h1
  exact ⟨⟨w, rfl, r⟩, Nat.zero_lt_one⟩
theorem pk0 {α β : Type} {R : Rp α} {T : Rt β} : Pk (tc R T) 0 (fun x b => (b, x.2)) R := fun x vs I C b w ⟨v, us, h1, h2, h3⟩ r => by
  subst h1
  exact ⟨⟨w, us, rfl, r, h3⟩, Nat.succ_pos _⟩
theorem pks {α β γ : Type} {R : Rp α} {T : Rt β} {S : Rp γ} {k : Nat} {g : β → γ → β} (h : Pk T k g S) : Pk (tc R T) (k + 1) (fun x b => (x.1, g x.2 b)) S := fun x vs I C b w ⟨v, us, h1, h2, h3⟩ r => by
  subst h1
  obtain ⟨q, l⟩ := h x.2 us I C b w h3 r
  exact ⟨⟨v, us.set k w, rfl, h2, q⟩, Nat.succ_lt_succ l⟩

/-! ### what an expression gives -/
def Ec.name : Ec → Str
  | .DeskError => "DeskError" | .TooMany => "TooMany" | .BadName => "BadName" | .BadRatio => "BadRatio" | .BadSpan => "BadSpan" | .BadLine => "BadLine"
  | .BadWorld => "BadWorld" | .BadArea => "BadArea" | .BadGauge => "BadGauge" | .BadRun => "BadRun" | .BadTable => "BadTable" | .BadSignals => "BadSignals"
  | .Unlike => "Unlike" | .BadPerson => "BadPerson" | .BadCall => "BadCall" | .BadTree => "BadTree" | .BadRule => "BadRule" | .BadDeed => "BadDeed"
  | .NoBulletin => "NoBulletin" | .BadPair => "BadPair" | .Unplayable => "Unplayable"
/-- what is wanted of an error that leaves: E, where all stands as it was -/
def PX (E : XK) (K : PySem.W.Frag) (I C : Hp) (c : Ec) (i : Int) : Prop := ∀ d I2 H2, Ex I I2 → St I2 C H2 → I2 d = some (.xd [(("at" : Str), .int i)]) → E (.ref (He.ga K c.name)) (some d) H2
theorem PX.mono {E : XK} {K : PySem.W.Frag} {I I' C C' : Hp} {c : Ec} {i : Int} (e : Ex I I') (e' : Ex C C') (h : PX E K I C c i) : PX E K I' C' c i := fun d I2 H2 a s q => h d I2 H2 (e.trans a) (s.less e') q
abbrev PQ {α : Type} (R : Rp α) (I C : Hp) (Q : VK) (a : α) : Prop := ∀ v I2 H2, Ex I I2 → St I2 C H2 → R.r a v I2 C → Q v H2
def EvX (E : XK) (K : PySem.W.Frag) (te : TE) (σ : L2.St) (I C : Hp) {α : Type} (m : Res α) (R : Rp α) : Prop :=
  ∀ I1 C1 H1, Ex I I1 → Ex C C1 → St I1 C1 H1 → ∀ Q : VK, Post m (PQ R I1 C1 Q) (PX E K I1 C1) → te σ H1 Q
def EvT (E : XK) (K : PySem.W.Frag) (tt : TT) (σ : L2.St) (I C : Hp) (m : Res Bool) : Prop :=
  ∀ I1 C1 H1, Ex I I1 → Ex C C1 → St I1 C1 H1 → ∀ Q : Bool → Hp → Prop, Post m (fun b => ∀ I2 H2, Ex I1 I2 → St I2 C1 H2 → Q b H2) (PX E K I1 C1) → tt σ H1 Q
def EvA (E : XK) (K : PySem.W.Frag) (ta : TA) (σ : L2.St) (I C : Hp) {α : Type} (m : Res α) (T : Rt α) : Prop :=
  ∀ I1 C1 H1, Ex I I1 → Ex C C1 → St I1 C1 H1 → ∀ Q : List V → Hp → Prop, Post m (fun a => ∀ vs I2 H2, Ex I1 I2 → St I2 C1 H2 → T.r a vs I2 C1 → Q vs H2) (PX E K I1 C1) → ta σ H1 Q
/-- a rule on values -/
def Op1 (E : XK) (K : PySem.W.Frag) (r : V → Hp → VK → Prop) {α γ : Type} (f : α → Res γ) (R : Rp α) (T : Rp γ) : Prop :=
  ∀ I C H a x, St I C H → R.r a x I C → ∀ Q : VK, Post (f a) (PQ T I C Q) (PX E K I C) → r x H Q
def Op2 (E : XK) (K : PySem.W.Frag) (r : R2) {α β γ : Type} (f : α → β → Res γ) (R : Rp α) (S : Rp β) (T : Rp γ) : Prop :=
  ∀ I C H a b x y, St I C H → R.r a x I C → S.r b y I C → ∀ Q : VK, Post (f a b) (PQ T I C Q) (PX E K I C) → r x y H Q
def OpL (E : XK) (K : PySem.W.Frag) (r : List V → Hp → VK → Prop) {α γ : Type} (f : α → Res γ) (R : Rt α) (T : Rp γ) : Prop :=
  ∀ I C H a vs, St I C H → R.r a vs I C → ∀ Q : VK, Post (f a) (PQ T I C Q) (PX E K I C) → r vs H Q
def un {α γ : Type} (f : α → Res γ) (m : Res α) : Res γ := m.bind f
def bin {α β γ : Type} (f : α → β → Res γ) (m : Res α) (n : Res β) : Res γ := m.bind fun a => n.bind fun b => f a b
def pair {α β : Type} (m : Res α) (n : Res β) : Res (α × β) := m.bind fun a => n.bind fun b => .ok (a, b)
@[simp] theorem un_ok {α γ : Type} (f : α → Res γ) (a : α) : un f (.ok a) = f a := rfl
@[simp] theorem bin_ok {α β γ : Type} (f : α → β → Res γ) (a : α) (b : β) : bin f (.ok a) (.ok b) = f a b := rfl
@[simp] theorem pair_ok {α β : Type} (a : α) (b : β) : pair (.ok a) (.ok b) = .ok (a, b) := rfl
section
variable {E : XK} {K : PySem.W.Frag} {σ : L2.St} {I I' C C' : Hp} {α β γ : Type} {m : Res α} {n : Res β} {R : Rp α} {S : Rp β} {T : Rp γ} {ta tb te : TE} {tt tu : TT}
theorem EvX.mono (e : Ex I I') (e' : Ex C C') (h : EvX E K te σ I C m R) : EvX E K te σ I' C' m R := fun I1 C1 H1 a b s Q q => h I1 C1 H1 (e.trans a) (e'.trans b) s Q q
theorem PQ.ret {I1 C1 H1 : Hp} {Q : VK} {a : α} {v : V} (q : PQ R I1 C1 Q a) (s : St I1 C1 H1) (r : R.r a v I1 C1) : Q v H1 := q v I1 H1 (Ex.refl _) s r
theorem x_var {i : Nat} {v : V} {a : α} (h : σ[i]? = some (some v)) (r : R.r a v I C) : EvX E K (tVar i) σ I C (.ok a) R := fun I1 C1 H1 e e' s Q q => ⟨v, h, PQ.ret (R := R) (a := a) q s (R.mono e e' r)⟩
theorem x_c {v : V} {a : α} (r : ∀ I C, R.r a v I C) : EvX E K (tC v) σ I C (.ok a) R := fun I1 C1 H1 e e' s Q q => PQ.ret (R := R) (a := a) q s (r _ _)
theorem x_int {i : Int} : EvX E K (tC (.int i)) σ I C (.ok i) pI := x_c fun _ _ => rfl
theorem x_bl {b : Bool} : EvX E K (tC (.bl b)) σ I C (.ok b) pB := x_c fun _ _ => rfl
theorem x_str {x : Str} (h : PyData.strOk x = true) : EvX E K (tC (.str x)) σ I C (.ok x) pS := x_c fun _ _ => ⟨rfl, h⟩
theorem x_non : EvX E K (tC .non) σ I C (.ok ()) pN := x_c fun _ _ => rfl
theorem x_un {r : V → Hp → VK → Prop} {f : α → Res γ} (hr : Op1 E K r f R T) (h : EvX E K ta σ I C m R) : EvX E K (tUn r ta) σ I C (un f m) T := fun I1 C1 H1 e e' s Q q =>
  h I1 C1 H1 e e' s _ ((Post.bind q).mono (fun a p v I2 H2 e2 s2 rv => hr I2 C1 H2 a v s2 rv Q (p.mono (fun c z w I3 H3 e3 s3 rw => z w I3 H3 (e2.trans e3) s3 rw) fun c i z => z.mono e2 (Ex.refl _))) fun _ _ z => z)
theorem x_op {r : R2} {f : α → β → Res γ} (hr : Op2 E K r f R S T) (h1 : EvX E K ta σ I C m R) (h2 : EvX E K tb σ I C n S) : EvX E K (tOp r ta tb) σ I C (bin f m n) T := fun I1 C1 H1 e e' s Q q =>
  h1 I1 C1 H1 e e' s _ ((Post.bind q).mono (fun a p x I2 H2 e2 s2 rx =>
    h2 I2 C1 H2 (e.trans e2) e' s2 _ ((Post.bind p).mono (fun b p2 y I3 H3 e3 s3 ry =>
      hr I3 C1 H3 a b x y s3 (R.mono e3 (Ex.refl _) rx) ry Q (p2.mono (fun c z w I4 H4 e4 s4 rw => z w I4 H4 (e2.trans (e3.trans e4)) s4 rw) fun c i z => z.mono (e2.trans e3) (Ex.refl _))) fun c i z => z.mono e2 (Ex.refl _)))
    fun _ _ z => z)
theorem a_nil : EvA E K tNil σ I C (.ok ()) (⟨fun _ vs _ _ => vs = [], fun _ _ h => h, 0, fun h => by rw [h]; rfl⟩ : Rt Unit) := fun I1 C1 H1 e e' s Q q => q [] I1 H1 (Ex.refl _) s rfl
theorem a_one (h : EvX E K ta σ I C m R) : EvA E K (tCons ta tNil) σ I C m (t1 R) := fun I1 C1 H1 e e' s Q q =>
  h I1 C1 H1 e e' s _ (q.mono (fun a p v I2 H2 e2 s2 rv => p [v] I2 H2 e2 s2 ⟨v, rfl, rv⟩) fun _ _ z => z)
theorem a_cons {tr : TA} {T : Rt β} (h1 : EvX E K ta σ I C m R) (h2 : EvA E K tr σ I C n T) : EvA E K (tCons ta tr) σ I C (pair m n) (tc R T) := fun I1 C1 H1 e e' s Q q =>
  h1 I1 C1 H1 e e' s _ ((Post.bind q).mono (fun a p x I2 H2 e2 s2 rx =>
    h2 I2 C1 H2 (e.trans e2) e' s2 _ ((Post.bind p).mono (fun b p2 ys I3 H3 e3 s3 ry => p2 (x :: ys) I3 H3 (e2.trans e3) s3 ⟨x, ys, rfl, R.mono e3 (Ex.refl _) rx, ry⟩) fun c i z => z.mono e2 (Ex.refl _)))
    fun _ _ z => z)
theorem x_cb {r : List V → Hp → VK → Prop} {f : α → Res γ} {A : Rt α} {tr : TA} (hr : OpL E K r f A T) (h : EvA E K tr σ I C m A) : EvX E K (tCB r tr) σ I C (un f m) T := fun I1 C1 H1 e e' s Q q =>
  h I1 C1 H1 e e' s _ ((Post.bind q).mono (fun a p vs I2 H2 e2 s2 rv => hr I2 C1 H2 a vs s2 rv Q (p.mono (fun c z w I3 H3 e3 s3 rw => z w I3 H3 (e2.trans e3) s3 rw) fun c i z => z.mono e2 (Ex.refl _))) fun _ _ z => z)
/-- tuples, lists with fixed places -/
theorem x_tup {A : Rt α} {tr : TA} (h : EvA E K tr σ I C m A) (hn : A.n ≤ 100) : EvX E K (tTup tr) σ I C m (pT A) := fun I1 C1 H1 e e' s Q q =>
  h I1 C1 H1 e e' s _ (q.mono (fun a p vs I2 H2 e2 s2 rv => ⟨by rw [A.len rv]; exact Nat.le_trans hn (by decide), fun t ht => p _ (upd I2 t (.tup vs)) _ (e2.trans (Ex.new (s2.i.free ht))) (s2.newI ht) ⟨t, vs, rfl, upd_same, A.mono (Ex.new (s2.i.free ht)) (Ex.refl _) rv⟩⟩) fun _ _ z => z)
theorem x_lstD {A : Rt α} {tr : TA} (h : EvA E K tr σ I C m A) (hn : A.n ≤ 100) : EvX E K (tLst tr) σ I C m (pD A) := fun I1 C1 H1 e e' s Q q =>
  h I1 C1 H1 e e' s _ (q.mono (fun a p vs I2 H2 e2 s2 rv => ⟨by rw [A.len rv]; exact Nat.le_trans hn (by decide), fun t ht => p _ (upd I2 t (.lst vs)) _ (e2.trans (Ex.new (s2.i.free ht))) (s2.newI ht) ⟨t, vs, rfl, upd_same, A.mono (Ex.new (s2.i.free ht)) (Ex.refl _) rv⟩⟩) fun _ _ z => z)
/-- a row of things of one kind -/
def tL (R : Rp α) (n : Nat) : Rt (List α) := ⟨fun xs vs I C => vs.length = n ∧ A2 (fun x u => R.r x u I C) xs vs, fun e e' ⟨h1, h2⟩ => ⟨h1, h2.imp fun _ _ => R.mono e e'⟩, n, fun h => h.1⟩
def consR (m : Res α) (n : Res (List α)) : Res (List α) := m.bind fun a => n.bind fun b => .ok (a :: b)
theorem al_nil : EvA E K tNil σ I C (.ok []) (tL R 0) := fun I1 C1 H1 e e' s Q q => q [] I1 H1 (Ex.refl _) s ⟨rfl, .nil⟩
theorem al_cons {tr : TA} {k : Nat} {n : Res (List α)} (h1 : EvX E K ta σ I C m R) (h2 : EvA E K tr σ I C n (tL R k)) : EvA E K (tCons ta tr) σ I C (consR m n) (tL R (k + 1)) := fun I1 C1 H1 e e' s Q q =>
  h1 I1 C1 H1 e e' s _ ((Post.bind q).mono (fun a p x I2 H2 e2 s2 rx =>
    h2 I2 C1 H2 (e.trans e2) e' s2 _ ((Post.bind p).mono (fun b p2 ys I3 H3 e3 s3 ry => p2 (x :: ys) I3 H3 (e2.trans e3) s3 ⟨by rw [List.length_cons, ry.1], .cons (R.mono e3 (Ex.refl _) rx) ry.2⟩) fun c i z => z.mono e2 (Ex.refl _)))
    fun _ _ z => z)
theorem x_lst {k : Nat} {m : Res (List α)} {tr : TA} (h : EvA E K tr σ I C m (tL R k)) (hn : k ≤ 100) : EvX E K (tLst tr) σ I C m (pL R) := fun I1 C1 H1 e e' s Q q =>
  h I1 C1 H1 e e' s _ (q.mono (fun a p vs I2 H2 e2 s2 rv => by
    have hl : vs.length ≤ sizeLine := by
      rw [rv.1]
      exact Nat.le_trans hn (by decide)
    exact ⟨hl, fun t ht => p _ (upd I2 t (.lst vs)) _ (e2.trans (Ex.new (s2.i.free ht))) (s2.newI ht) ⟨t, vs, rfl, upd_same, hl, rv.2.imp fun _ _ => R.mono (Ex.new (s2.i.free ht)) (Ex.refl _)⟩⟩) fun _ _ z => z)
/-- a list as one that is read -/
theorem x_v {m : Res (List α)} (h : EvX E K te σ I C m (pL R)) : EvX E K te σ I C m (pV R) := fun I1 C1 H1 e e' s Q q =>
  h I1 C1 H1 e e' s Q (q.mono (fun a p v I2 H2 e2 s2 ⟨a, vs, h1, h2, h3, h4⟩ => p v I2 H2 e2 s2 ⟨a, vs, h1, .inl h2, h3, h4⟩) fun _ _ z => z)
theorem x_is' {β : Type} {T : Rt β} {tr : TA} {m m' : Res β} (h : EvA E K tr σ I C m T) (e : m = m') : EvA E K tr σ I C m' T := e ▸ h
theorem x_is {m' : Res α} (h : EvX E K te σ I C m R) (e : m = m') : EvX E K te σ I C m' R := e ▸ h
/-! tests -/
theorem t_test {m : Res Bool} (h : EvX E K te σ I C m pB) : EvT E K (tTest te) σ I C m := fun I1 C1 H1 e e' s Q q => h I1 C1 H1 e e' s _ (q.mono (fun b p v I2 H2 e2 s2 rv => ⟨b, rv, p I2 H2 e2 s2⟩) fun _ _ z => z)
theorem t_B {m : Res Bool} (h : EvX E K te σ I C m pB) : EvT E K (tB te) σ I C m := fun I1 C1 H1 e e' s Q q => h I1 C1 H1 e e' s _ (q.mono (fun b p v I2 H2 e2 s2 rv => ⟨b, rv, p I2 H2 e2 s2⟩) fun _ _ z => z)
def andR (m n : Res Bool) : Res Bool := m.bind fun b => if b = true then n else .ok false
def orR (m n : Res Bool) : Res Bool := m.bind fun b => if b = true then .ok true else n
def notR (b : Bool) : Res Bool := .ok (!b)
@[simp] theorem andR_ok (a b : Bool) : andR (.ok a) (.ok b) = .ok (a && b) := by cases a <;> rfl
@[simp] theorem orR_ok (a b : Bool) : orR (.ok a) (.ok b) = .ok (a || b) := by cases a <;> rfl
@[simp] theorem andR_true (m : Res Bool) : andR (.ok true) m = m := rfl
@[simp] theorem andR_false (m : Res Bool) : andR (.ok false) m = .ok false := rfl
@[simp] theorem orR_true (m : Res Bool) : orR (.ok true) m = .ok true := rfl
@[simp] theorem orR_false (m : Res Bool) : orR (.ok false) m = m := rfl
@[simp] theorem notR_eq (b : Bool) : notR b = .ok (!b) := rfl
theorem t_and {m n : Res Bool} (h1 : EvT E K tt σ I C m) (h2 : EvT E K tu σ I C n) : EvT E K (tAnd tt tu) σ I C (andR m n) := fun I1 C1 H1 e e' s Q q =>
  h1 I1 C1 H1 e e' s _ ((Post.bind q).mono (fun b p I2 H2 e2 s2 => by
    cases b with
    | true => exact h2 I2 C1 H2 (e.trans e2) e' s2 Q (Post.mono (m := n) p (fun b z I3 H3 e3 s3 => z I3 H3 (e2.trans e3) s3) fun c i z => z.mono e2 (Ex.refl _))
    | false => exact p I2 H2 e2 s2) fun _ _ z => z)
theorem t_or {m n : Res Bool} (h1 : EvT E K tt σ I C m) (h2 : EvT E K tu σ I C n) : EvT E K (tOr tt tu) σ I C (orR m n) := fun I1 C1 H1 e e' s Q q =>
  h1 I1 C1 H1 e e' s _ ((Post.bind q).mono (fun b p I2 H2 e2 s2 => by
    cases b with
    | false => exact h2 I2 C1 H2 (e.trans e2) e' s2 Q (Post.mono (m := n) p (fun b z I3 H3 e3 s3 => z I3 H3 (e2.trans e3) s3) fun c i z => z.mono e2 (Ex.refl _))
    | true => exact p I2 H2 e2 s2) fun _ _ z => z)
theorem t_not {m : Res Bool} (h : EvT E K tt σ I C m) : EvT E K (tNot tt) σ I C (un notR m) := fun I1 C1 H1 e e' s Q q =>
  h I1 C1 H1 e e' s _ ((Post.bind q).mono (fun b p I2 H2 e2 s2 => p I2 H2 e2 s2) fun _ _ z => z)
theorem x_andV {m n : Res Bool} (h1 : EvX E K ta σ I C m pB) (h2 : EvX E K tb σ I C n pB) : EvX E K (tAndV ta tb) σ I C (andR m n) pB := fun I1 C1 H1 e e' s Q q =>
  h1 I1 C1 H1 e e' s _ ((Post.bind q).mono (fun b p v I2 H2 e2 s2 rv => ⟨b, rv, by
    cases b with
    | true => exact h2 I2 C1 H2 (e.trans e2) e' s2 Q (Post.mono (m := n) p (fun b z v I3 H3 e3 s3 => z v I3 H3 (e2.trans e3) s3) fun c i z => z.mono e2 (Ex.refl _))
    | false => exact p (.bl false) I2 H2 e2 s2 rfl⟩) fun _ _ z => z)
theorem x_orV {m n : Res Bool} (h1 : EvX E K ta σ I C m pB) (h2 : EvX E K tb σ I C n pB) : EvX E K (tOrV ta tb) σ I C (orR m n) pB := fun I1 C1 H1 e e' s Q q =>
  h1 I1 C1 H1 e e' s _ ((Post.bind q).mono (fun b p v I2 H2 e2 s2 rv => ⟨b, rv, by
    cases b with
    | false => exact h2 I2 C1 H2 (e.trans e2) e' s2 Q (Post.mono (m := n) p (fun b z v I3 H3 e3 s3 => z v I3 H3 (e2.trans e3) s3) fun c i z => z.mono e2 (Ex.refl _))
    | true => exact p (.bl true) I2 H2 e2 s2 rfl⟩) fun _ _ z => z)
theorem x_notV {m : Res Bool} (h : EvX E K te σ I C m pB) : EvX E K (tNotV te) σ I C (un notR m) pB := fun I1 C1 H1 e e' s Q q =>
  h I1 C1 H1 e e' s _ ((Post.bind q).mono (fun b p v I2 H2 e2 s2 rv => ⟨b, rv, p _ I2 H2 e2 s2 rfl⟩) fun _ _ z => z)
def ifR {α : Type} (c : Res Bool) (m n : Res α) : Res α := c.bind fun b => if b = true then m else n
@[simp] theorem ifR_ok {α : Type} (b : Bool) (m n : Res α) : ifR (.ok b) m n = if b = true then m else n := rfl
theorem x_if {c : Res Bool} {m n : Res α} (h : EvT E K tt σ I C c) (h1 : EvX E K ta σ I C m R) (h2 : EvX E K tb σ I C n R) : EvX E K (tIf tt ta tb) σ I C (ifR c m n) R := fun I1 C1 H1 e e' s Q q =>
  h I1 C1 H1 e e' s _ ((Post.bind q).mono (fun b p I2 H2 e2 s2 => by
    cases b with
    | true => exact h1 I2 C1 H2 (e.trans e2) e' s2 Q (Post.mono (m := m) p (fun b z v I3 H3 e3 s3 => z v I3 H3 (e2.trans e3) s3) fun c i z => z.mono e2 (Ex.refl _))
    | false => exact h2 I2 C1 H2 (e.trans e2) e' s2 Q (Post.mono (m := n) p (fun b z v I3 H3 e3 s3 => z v I3 H3 (e2.trans e3) s3) fun c i z => z.mono e2 (Ex.refl _))) fun _ _ z => z)
end
end Sd

namespace Sd
open PySem L2
/-! ### rules on values -/
section
variable {E : XK} {K : PySem.W.Frag} {α β γ : Type} {R : Rp α}
theorem PQ.now {I C H : Hp} {Q : VK} {a : α} {v : V} (q : PQ R I C Q a) (s : St I C H) (r : R.r a v I C) : Q v H := q v I H (Ex.refl _) s r
def rAdd (a b : Int) : Res Int := .ok (a + b)
def rSub (a b : Int) : Res Int := .ok (a - b)
@[irreducible] def rMul (a b : Int) : Res Int := if a.natAbs < 18446744073709551616 ∨ b.natAbs < 18446744073709551616 then .ok (a * b) else .bad
@[irreducible] def rMod (a b : Int) : Res Int := if 0 < b then .ok (a % b) else .bad
@[irreducible] def rDiv (a b : Int) : Res Int := if 0 < b ∧ b.natAbs < 1073741824 then .ok (a / b) else .bad
@[irreducible] def rPow (a b : Int) : Res Int := if 0 ≤ b ∧ b.natAbs ≤ 1000000 ∧ a.natAbs < 2 ^ 64 then .ok (a ^ b.toNat) else .bad
def rNeg (a : Int) : Res Int := .ok (-a)
@[simp] theorem rAdd_eq (a b : Int) : rAdd a b = .ok (a + b) := rfl
@[simp] theorem rSub_eq (a b : Int) : rSub a b = .ok (a - b) := rfl
@[simp] theorem rNeg_eq (a : Int) : rNeg a = .ok (-a) := rfl
theorem rMul_ok {a b : Int} (h : (-(2 ^ 64) < a ∧ a < 2 ^ 64) ∨ (-(2 ^ 64) < b ∧ b < 2 ^ 64)) : rMul a b = .ok (a * b) := by
  unfold rMul
  exact if_pos (by omega)
theorem rMod_ok {a b : Int} (h : 0 < b) : rMod a b = .ok (a % b) := by
  unfold rMod
  exact if_pos h
theorem rDiv_ok {a b : Int} (h : 0 < b ∧ b < 1073741824) : rDiv a b = .ok (a / b) := by
  unfold rDiv
  exact if_pos (by omega)
theorem rPow_ok {a b : Int} (h : 0 ≤ b ∧ b ≤ 1000000 ∧ a.natAbs < 2 ^ 64) : rPow a b = .ok (a ^ b.toNat) := by
  unfold rPow
  exact if_pos ⟨h.1, by omega, h.2.2⟩
theorem o_add : Op2 E K (rI0 fun i j => .int (i + j)) rAdd pI pI pI := fun I C H a b x y s hx hy Q q => ⟨a, b, hx, hy, PQ.now q s rfl⟩
theorem o_sub : Op2 E K (rI0 fun i j => .int (i - j)) rSub pI pI pI := fun I C H a b x y s hx hy Q q => ⟨a, b, hx, hy, PQ.now q s rfl⟩
theorem o_mul : Op2 E K (rI CMul fun i j => .int (i * j)) rMul pI pI pI := fun I C H a b x y s hx hy Q q => by
  unfold rMul at q
  split at q
  · rename_i h
    exact ⟨a, b, hx, hy, (show (-(2 ^ 64) < a ∧ a < 2 ^ 64) ∨ (-(2 ^ 64) < b ∧ b < 2 ^ 64) from by omega), PQ.now q s rfl⟩
  · exact q.elim
theorem o_mod : Op2 E K (rI (fun _ j => 0 < j) fun i j => .int (i % j)) rMod pI pI pI := fun I C H a b x y s hx hy Q q => by
  unfold rMod at q
  split at q
  · rename_i h
    exact ⟨a, b, hx, hy, h, PQ.now q s rfl⟩
  · exact q.elim
theorem o_fdiv : Op2 E K (rI CDiv fun i j => .int (i / j)) rDiv pI pI pI := fun I C H a b x y s hx hy Q q => by
  unfold rDiv at q
  split at q
  · rename_i h
    exact ⟨a, b, hx, hy, ⟨h.1, by omega⟩, PQ.now q s rfl⟩
  · exact q.elim
theorem o_pow : Op2 E K (rI CPow fun i j => .int (i ^ j.toNat)) rPow pI pI pI := fun I C H a b x y s hx hy Q q => by
  unfold rPow at q
  split at q
  · rename_i h
    exact ⟨a, b, hx, hy, ⟨h.1, by omega, h.2.2⟩, PQ.now q s rfl⟩
  · exact q.elim
theorem o_neg : Op1 E K (rU fun i => .int (-i)) rNeg pI pI := fun I C H a x s hx Q q => ⟨a, hx, PQ.now q s rfl⟩
/-! comparisons -/
def rLt (a b : Int) : Res Bool := .ok (decide (a < b))
def rLe (a b : Int) : Res Bool := .ok (decide (a ≤ b))
def rGt (a b : Int) : Res Bool := .ok (decide (b < a))
def rGe (a b : Int) : Res Bool := .ok (decide (b ≤ a))
@[simp] theorem rLt_eq (a b : Int) : rLt a b = .ok (decide (a < b)) := rfl
@[simp] theorem rLe_eq (a b : Int) : rLe a b = .ok (decide (a ≤ b)) := rfl
@[simp] theorem rGt_eq (a b : Int) : rGt a b = .ok (decide (b < a)) := rfl
@[simp] theorem rGe_eq (a b : Int) : rGe a b = .ok (decide (b ≤ a)) := rfl
theorem o_lt : Op2 E K (rI0 fun i j => .bl (decide (i < j))) rLt pI pI pB := fun I C H a b x y s hx hy Q q => ⟨a, b, hx, hy, PQ.now q s rfl⟩
theorem o_le : Op2 E K (rI0 fun i j => .bl (decide (i ≤ j))) rLe pI pI pB := fun I C H a b x y s hx hy Q q => ⟨a, b, hx, hy, PQ.now q s rfl⟩
theorem o_gt : Op2 E K (rI0 fun i j => .bl (decide (j < i))) rGt pI pI pB := fun I C H a b x y s hx hy Q q => ⟨a, b, hx, hy, PQ.now q s rfl⟩
theorem o_ge : Op2 E K (rI0 fun i j => .bl (decide (j ≤ i))) rGe pI pI pB := fun I C H a b x y s hx hy Q q => ⟨a, b, hx, hy, PQ.now q s rfl⟩
def eqR {α : Type} [DecidableEq α] (a b : α) : Res Bool := .ok (decide (a = b))
def neR {α : Type} [DecidableEq α] (a b : α) : Res Bool := .ok (!decide (a = b))
@[simp] theorem eqR_eq {α : Type} [DecidableEq α] (a b : α) : eqR a b = .ok (decide (a = b)) := rfl
@[simp] theorem neR_eq {α : Type} [DecidableEq α] (a b : α) : neR a b = .ok (!decide (a = b)) := rfl
theorem dec_congr {p q : Prop} [Decidable p] [Decidable q] (h : p ↔ q) : decide p = decide q := by
  by_cases hp : p
  · rw [decide_eq_true hp, decide_eq_true (h.mp hp)]
  · rw [decide_eq_false hp, decide_eq_false fun z => hp (h.mpr z)]
theorem o_eqI : Op2 E K rEq eqR pI pI pB := fun I C H a b x y s hx hy Q q => by
  subst hx hy
  exact ⟨rfl, PQ.now q s (congrArg V.bl (dec_congr ⟨fun h => V.int.inj h, fun h => by rw [h]⟩))⟩
theorem o_neI : Op2 E K rNe neR pI pI pB := fun I C H a b x y s hx hy Q q => by
  subst hx hy
  exact ⟨rfl, PQ.now q s (congrArg (fun z => V.bl (!z)) (dec_congr ⟨fun h => V.int.inj h, fun h => by rw [h]⟩))⟩
theorem o_eqB : Op2 E K rEq eqR pB pB pB := fun I C H a b x y s hx hy Q q => by
  subst hx hy
  exact ⟨rfl, PQ.now q s (congrArg V.bl (dec_congr ⟨fun h => V.bl.inj h, fun h => by rw [h]⟩))⟩
theorem o_neB : Op2 E K rNe neR pB pB pB := fun I C H a b x y s hx hy Q q => by
  subst hx hy
  exact ⟨rfl, PQ.now q s (congrArg (fun z => V.bl (!z)) (dec_congr ⟨fun h => V.bl.inj h, fun h => by rw [h]⟩))⟩
theorem o_eqS : Op2 E K rEq eqR pS pS pB := fun I C H a b x y s hx hy Q q => by
  obtain ⟨rfl, _⟩ := hx
  obtain ⟨rfl, _⟩ := hy
  exact ⟨rfl, PQ.now q s (congrArg V.bl (dec_congr ⟨fun h => V.str.inj h, fun h => by rw [h]⟩))⟩
theorem o_neS : Op2 E K rNe neR pS pS pB := fun I C H a b x y s hx hy Q q => by
  obtain ⟨rfl, _⟩ := hx
  obtain ⟨rfl, _⟩ := hy
  exact ⟨rfl, PQ.now q s (congrArg (fun z => V.bl (!z)) (dec_congr ⟨fun h => V.str.inj h, fun h => by rw [h]⟩))⟩
def isNone {α : Type} (o : Option α) (_ : Unit) : Res Bool := .ok o.isNone
def notNone {α : Type} (o : Option α) (_ : Unit) : Res Bool := .ok o.isSome
@[simp] theorem isNone_eq {α : Type} (o : Option α) : isNone o () = .ok o.isNone := rfl
@[simp] theorem notNone_eq {α : Type} (o : Option α) : notNone o () = .ok o.isSome := rfl
theorem o_isN : Op2 E K (fun x y H Q => y = .non ∧ Q (.bl (decide (x = .non))) H) isNone (pO R) pN pB := fun I C H a b x y s hx hy Q q => by
  refine ⟨hy, PQ.now q s (congrArg V.bl ?_)⟩
  cases a with
  | none => exact decide_eq_true hx
  | some a => exact decide_eq_false hx.2
theorem o_notN : Op2 E K (fun x y H Q => y = .non ∧ Q (.bl (!decide (x = .non))) H) notNone (pO R) pN pB := fun I C H a b x y s hx hy Q q => by
  refine ⟨hy, PQ.now q s (congrArg V.bl ?_)⟩
  cases a with
  | none =>
    have e : decide (x = V.non) = true := decide_eq_true hx
    rw [e]
    rfl
  | some a =>
    have e : decide (x = V.non) = false := decide_eq_false hx.2
    rw [e]
    rfl
/-! lists that are read -/
theorem pV.at {xs : List α} {v : V} {I C H : Hp} (s : St I C H) (h : (pV R).r xs v I C) : ∃ a vs, v = .ref a ∧ H a = some (.lst vs) ∧ vs.length ≤ sizeLine ∧ A2 (fun x u => R.r x u I C) xs vs := by
  obtain ⟨a, vs, h1, h2, h3, h4⟩ := h
  exact ⟨a, vs, h1, h2.elim (s.i a _) (s.c a _), h3, h4⟩
def rLen (xs : List α) : Res Int := .ok (xs.length : Int)
@[simp] theorem rLen_eq (xs : List α) : rLen xs = .ok (xs.length : Int) := rfl
theorem o_len : OpL E K (fun xs H Q => ∃ p ys, xs = [.ref p] ∧ (SqL K H p ys ∨ SqT K H p ys) ∧ Q (.int ys.length) H) rLen (t1 (pV R)) pI := fun I C H a vs s hv Q q => by
  obtain ⟨v, rfl, h⟩ := hv
  obtain ⟨p, us, rfl, h2, h3, h4⟩ := pV.at s h
  exact ⟨p, us, rfl, .inl (.inl (.inl h2)), PQ.now q s (by rw [h4.len]; rfl)⟩
theorem o_lenQ : OpL E K (fun xs H Q => ∃ p ys, xs = [.ref p] ∧ (SqL K H p ys ∨ SqT K H p ys) ∧ Q (.int ys.length) H) rLen (t1 (pQ K R)) pI := fun I C H a vs s hv Q q => by
  obtain ⟨v, rfl, p, us, rfl, h2, h3, h4⟩ := hv
  exact ⟨p, us, rfl, .inr (ex_t s.i h2), PQ.now q s (by rw [h4.len]; rfl)⟩
/-- xs[i] -/
def ix (xs : List α) (i : Int) : Res α := if 0 ≤ i then (match xs[i.toNat]? with
    | some x => .ok x
    | none => .bad) else if -(xs.length : Int) ≤ i then (match xs[(i + xs.length).toNat]? with
    | some x => .ok x
    | none => .bad) else .bad
theorem ix_atI {f : α → V → Prop} {xs : List α} {vs : List V} {i : Int} {x : α} (h : A2 f xs vs) (e : ix xs i = .ok x) : ∃ v, atI vs i = some v ∧ f x v := by
  have hl := h.len
  unfold ix at e
  unfold atI ixN
  by_cases h0 : 0 ≤ i
  · rw [if_pos h0] at e ⊢
    cases q : xs[i.toNat]? with
    | none =>
      rw [q] at e
      cases e
    | some y =>
      rw [q] at e
      cases e
      have hlt := (List.getElem?_eq_some_iff.mp q).1
      obtain ⟨v, hv, r⟩ := h.get' q
      rw [if_pos (by omega)]
      exact ⟨v, hv, r⟩
  · rw [if_neg h0] at e ⊢
    by_cases h1 : -(xs.length : Int) ≤ i
    · rw [if_pos h1] at e
      rw [if_pos (by omega)]
      cases q : xs[(i + xs.length).toNat]? with
      | none =>
        rw [q] at e
        cases e
      | some y =>
        rw [q] at e
        cases e
        obtain ⟨v, hv, r⟩ := h.get' q
        exact ⟨v, by rw [hl]; exact hv, r⟩
    · rw [if_neg h1] at e
      cases e
theorem o_ix : Op2 E K (rIxL K) ix (pV R) pI R := fun I C H a b x y s hx hy Q q => by
  obtain ⟨p, us, rfl, h2, h3, h4⟩ := pV.at s hx
  subst hy
  cases e : ix a b with
  | ok z =>
    rw [e] at q
    obtain ⟨v, e1, r⟩ := ix_atI h4 e
    exact ⟨p, us, b, v, rfl, rfl, .inl (.inl h2), e1, PQ.now q s r⟩
  | exc c i =>
    unfold ix at e
    split at e <;> (try split at e) <;> (try split at e) <;> cases e
  | bad =>
    rw [e] at q
    exact q.elim
theorem o_ixQ : Op2 E K (rIxT K) ix (pQ K R) pI R := fun I C H a b x y s hx hy Q q => by
  obtain ⟨p, us, rfl, h2, h3, h4⟩ := hx
  subst hy
  cases e : ix a b with
  | ok z =>
    rw [e] at q
    obtain ⟨v, e1, r⟩ := ix_atI h4 e
    exact ⟨p, us, b, v, rfl, rfl, ex_t s.i h2, e1, PQ.now q s r⟩
  | exc c i =>
    unfold ix at e
    split at e <;> (try split at e) <;> (try split at e) <;> cases e
  | bad =>
    rw [e] at q
    exact q.elim
/-- a place of a tuple, of a list with fixed places; k written -/
theorem o_pj {T : Rt α} {k : Nat} {f : α → β} {S : Rp β} (j : Pj T k f S) : Op1 E K (fun x H Q => rIxT K x (.int (k : Int)) H Q) (fun x => .ok (f x)) (pT T) S := fun I C H a x s hx Q q => by
  obtain ⟨p, vs, rfl, h2, h3⟩ := hx
  obtain ⟨w, e, r⟩ := j a vs I C h3
  exact ⟨p, vs, _, w, rfl, rfl, .inl (.inl (s.i p _ h2)), atI_nat e, PQ.now q s r⟩
theorem o_pjU {T : Rt α} {k : Nat} {f : α → β} {S : Rp β} (j : Pj T k f S) : Op1 E K (fun x H Q => rIxT K x (.int (k : Int)) H Q) (fun x => .ok (f x)) (pU K T) S := fun I C H a x s hx Q q => by
  obtain ⟨p, vs, rfl, h2, h3⟩ := hx
  obtain ⟨w, e, r⟩ := j a vs I C h3
  exact ⟨p, vs, _, w, rfl, rfl, ex_t s.i h2, atI_nat e, PQ.now q s r⟩
theorem o_pjD {T : Rt α} {k : Nat} {f : α → β} {S : Rp β} (j : Pj T k f S) : Op1 E K (fun x H Q => rIxL K x (.int (k : Int)) H Q) (fun x => .ok (f x)) (pD T) S := fun I C H a x s hx Q q => by
  obtain ⟨p, vs, rfl, h2, h3⟩ := hx
  obtain ⟨w, e, r⟩ := j a vs I C h3
  exact ⟨p, vs, _, w, rfl, rfl, .inl (.inl (s.i p _ h2)), atI_nat e, PQ.now q s r⟩
/-- e[k], k written, by a rule for this k -/
theorem x_k {r : R2} {te : TE} {σ : L2.St} {I C : Hp} {m : Res α} {f : α → Res γ} {T : Rp γ} {k : Int} (hr : Op1 E K (fun x H Q => r x (.int k) H Q) f R T) (h : EvX E K te σ I C m R) : EvX E K (tOp r te (tC (.int k))) σ I C (un f m) T :=
  fun I1 C1 H1 e e' s Q q => x_un (r := fun x H Q => r x (.int k) H Q) hr h I1 C1 H1 e e' s Q q
end
end Sd

namespace Sd
open PySem L2
/-! ### == of data -/
/-- data of this kind, as == sees them: enc; at most n deep -/
structure De (K : PySem.W.Frag) {α : Type} (R : Rp α) (enc : α → PyData) (n : Nat) : Prop where
  dp : ∀ {a v I C H}, St I C H → R.r a v I C → Dp K H v (enc a)
  ly : ∀ {a v I C}, R.r a v I C → (enc a).canLay0 = true
  de : ∀ {a v I C}, R.r a v I C → (enc a).depth ≤ n
  eq : ∀ a b, PyData.eqv (enc a) (enc b) = true ↔ a = b
section
variable {E : XK} {K : PySem.W.Frag} {α β γ : Type} {R : Rp α} {S : Rp β} {enc : α → PyData} {enb : β → PyData} {n m : Nat}
theorem de_int : De K pI PyData.int 0 := ⟨fun _ h => by cases h; exact .int _, fun _ => by simp only [PyData.canLay0], fun _ => by simp only [PyData.depth]; exact Nat.le_refl _, fun a b => by
  simp only [PyData.eqv, beq_iff_eq]⟩
theorem de_bl : De K pB PyData.bool 0 := ⟨fun _ h => by cases h; exact .bl _, fun _ => by simp only [PyData.canLay0], fun _ => by simp only [PyData.depth]; exact Nat.le_refl _, fun a b => by
  simp only [PyData.eqv, beq_iff_eq]⟩
theorem de_str : De K pS PyData.str 0 := ⟨fun _ h => by obtain ⟨rfl, _⟩ := h; exact .str _, fun h => by simp only [PyData.canLay0]; exact h.2, fun _ => by simp only [PyData.depth]; exact Nat.le_refl _, fun a b => by
  simp only [PyData.eqv, beq_iff_eq]⟩
theorem de_all (d : De K R enc n) : ∀ {xs : List α} {vs : List V} {I C H : Hp}, St I C H → A2 (fun x u => R.r x u I C) xs vs → DpAll K H vs (xs.map enc)
  | _, _, _, _, _, _, .nil => .nil
  | _, _, _, _, _, s, .cons r t => .cons (d.dp s r) (de_all d s t)
theorem ly_all (d : De K R enc n) : ∀ {xs : List α} {vs : List V} {I C : Hp}, A2 (fun x u => R.r x u I C) xs vs → PyData.canLayAll0 (xs.map enc) = true
  | _, _, _, _, .nil => by simp only [List.map_nil, PyData.canLayAll0]
  | _, _, _, _, .cons r t => by
    simp only [List.map_cons, PyData.canLayAll0, Bool.and_eq_true]
    exact ⟨d.ly r, ly_all d t⟩
theorem dp_all (d : De K R enc n) : ∀ {xs : List α} {vs : List V} {I C : Hp}, A2 (fun x u => R.r x u I C) xs vs → PyData.depthAll (xs.map enc) ≤ n
  | _, _, _, _, .nil => by
    simp only [List.map_nil, PyData.depthAll]
    exact Nat.zero_le _
  | _, _, _, _, .cons r t => by
    simp only [List.map_cons, PyData.depthAll]
    exact Nat.max_le.mpr ⟨d.de r, dp_all d t⟩
theorem eq_all (h : ∀ a b, PyData.eqv (enc a) (enc b) = true ↔ a = b) : ∀ xs ys : List α, PyData.eqvAll (xs.map enc) (ys.map enc) = true ↔ xs = ys
  | [], [] => by simp only [List.map_nil, PyData.eqvAll]
  | [], y :: ys => by
    simp only [List.map_nil, List.map_cons, PyData.eqvAll]
    exact ⟨fun q => (nomatch q), fun q => (nomatch q)⟩
  | x :: xs, [] => by
    simp only [List.map_nil, List.map_cons, PyData.eqvAll]
    exact ⟨fun q => (nomatch q), fun q => (nomatch q)⟩
  | x :: xs, y :: ys => by
    simp only [List.map_cons, PyData.eqvAll, Bool.and_eq_true, List.cons.injEq]
    rw [h x y, eq_all h xs ys]
theorem de_lst (d : De K R enc n) : De K (pL R) (fun xs => PyData.list (xs.map enc)) (n + 1) :=
  ⟨fun s ⟨a, vs, h1, h2, h3, h4⟩ => by
    subst h1
    exact .lst (.inl (.inl (s.i _ _ h2))) (de_all d s h4),
  fun ⟨a, vs, h1, h2, h3, h4⟩ => by
    simp only [PyData.canLay0]
    exact ly_all d h4,
  fun ⟨a, vs, h1, h2, h3, h4⟩ => by
    simp only [PyData.depth]
    exact Nat.succ_le_succ (dp_all d h4),
  fun a b => by
    simp only [PyData.eqv]
    exact eq_all d.eq a b⟩
theorem de_vw (d : De K R enc n) : De K (pV R) (fun xs => PyData.list (xs.map enc)) (n + 1) :=
  ⟨fun s h => by
    obtain ⟨a, vs, rfl, h2, h3, h4⟩ := pV.at s h
    exact .lst (.inl (.inl h2)) (de_all d s h4),
  fun ⟨a, vs, h1, h2, h3, h4⟩ => by
    simp only [PyData.canLay0]
    exact ly_all d h4,
  fun ⟨a, vs, h1, h2, h3, h4⟩ => by
    simp only [PyData.depth]
    exact Nat.succ_le_succ (dp_all d h4),
  fun a b => by
    simp only [PyData.eqv]
    exact eq_all d.eq a b⟩
theorem de_seq (d : De K R enc n) : De K (pQ K R) (fun xs => PyData.tuple (xs.map enc)) (n + 1) :=
  ⟨fun s ⟨a, vs, h1, h2, h3, h4⟩ => by
    subst h1
    exact .tup (ex_t s.i h2) (de_all d s h4),
  fun ⟨a, vs, h1, h2, h3, h4⟩ => by
    simp only [PyData.canLay0]
    exact ly_all d h4,
  fun ⟨a, vs, h1, h2, h3, h4⟩ => by
    simp only [PyData.depth]
    exact Nat.succ_le_succ (dp_all d h4),
  fun a b => by
    simp only [PyData.eqv]
    exact eq_all d.eq a b⟩
/-- places -/
structure Dt (K : PySem.W.Frag) {α : Type} (T : Rt α) (enc : α → List PyData) (n : Nat) : Prop where
  dp : ∀ {a vs I C H}, St I C H → T.r a vs I C → DpAll K H vs (enc a)
  ly : ∀ {a vs I C}, T.r a vs I C → PyData.canLayAll0 (enc a) = true
  de : ∀ {a vs I C}, T.r a vs I C → PyData.depthAll (enc a) ≤ n
  eq : ∀ a b, PyData.eqvAll (enc a) (enc b) = true ↔ a = b
theorem dt_one (d : De K R enc n) : Dt K (t1 R) (fun x => [enc x]) n :=
  ⟨fun s ⟨v, h1, h2⟩ => by
    subst h1
    exact .cons (d.dp s h2) .nil,
  fun ⟨v, h1, h2⟩ => by
    simp only [PyData.canLayAll0, Bool.and_true]
    exact d.ly h2,
  fun ⟨v, h1, h2⟩ => by
    simp only [PyData.depthAll]
    exact Nat.max_le.mpr ⟨d.de h2, Nat.zero_le _⟩,
  fun a b => by
    simp only [PyData.eqvAll, Bool.and_true]
    exact d.eq a b⟩
theorem dt_cons {T : Rt β} {ens : β → List PyData} (d : De K R enc n) (t : Dt K T ens m) : Dt K (tc R T) (fun x => enc x.1 :: ens x.2) (max n m) :=
  ⟨fun s ⟨v, us, h1, h2, h3⟩ => by
    subst h1
    exact .cons (d.dp s h2) (t.dp s h3),
  fun ⟨v, us, h1, h2, h3⟩ => by
    simp only [PyData.canLayAll0, Bool.and_eq_true]
    exact ⟨d.ly h2, t.ly h3⟩,
  fun ⟨v, us, h1, h2, h3⟩ => by
    simp only [PyData.depthAll]
    exact Nat.max_le.mpr ⟨Nat.le_trans (d.de h2) (Nat.le_max_left _ _), Nat.le_trans (t.de h3) (Nat.le_max_right _ _)⟩,
  fun a b => by
    simp only [PyData.eqvAll, Bool.and_eq_true]
    rw [d.eq, t.eq]
    exact ⟨fun ⟨h1, h2⟩ => Prod.ext h1 h2, fun h => by
      subst h
      exact ⟨rfl, rfl⟩⟩⟩
theorem de_tup {T : Rt α} {ens : α → List PyData} (t : Dt K T ens n) : De K (pT T) (fun x => PyData.tuple (ens x)) (n + 1) :=
  ⟨fun s ⟨a, vs, h1, h2, h3⟩ => by
    subst h1
    exact .tup (.inl (.inl (s.i _ _ h2))) (t.dp s h3),
  fun ⟨a, vs, h1, h2, h3⟩ => by
    simp only [PyData.canLay0]
    exact t.ly h3,
  fun ⟨a, vs, h1, h2, h3⟩ => by
    simp only [PyData.depth]
    exact Nat.succ_le_succ (t.de h3),
  fun a b => by
    simp only [PyData.eqv]
    exact t.eq a b⟩
theorem de_tupU {T : Rt α} {ens : α → List PyData} (t : Dt K T ens n) : De K (pU K T) (fun x => PyData.tuple (ens x)) (n + 1) :=
  ⟨fun s ⟨a, vs, h1, h2, h3⟩ => by
    subst h1
    exact .tup (ex_t s.i h2) (t.dp s h3),
  fun ⟨a, vs, h1, h2, h3⟩ => by
    simp only [PyData.canLay0]
    exact t.ly h3,
  fun ⟨a, vs, h1, h2, h3⟩ => by
    simp only [PyData.depth]
    exact Nat.succ_le_succ (t.de h3),
  fun a b => by
    simp only [PyData.eqv]
    exact t.eq a b⟩
theorem de_lstD {T : Rt α} {ens : α → List PyData} (t : Dt K T ens n) : De K (pD T) (fun x => PyData.list (ens x)) (n + 1) :=
  ⟨fun s ⟨a, vs, h1, h2, h3⟩ => by
    subst h1
    exact .lst (.inl (.inl (s.i _ _ h2))) (t.dp s h3),
  fun ⟨a, vs, h1, h2, h3⟩ => by
    simp only [PyData.canLay0]
    exact t.ly h3,
  fun ⟨a, vs, h1, h2, h3⟩ => by
    simp only [PyData.depth]
    exact Nat.succ_le_succ (t.de h3),
  fun a b => by
    simp only [PyData.eqv]
    exact t.eq a b⟩
def oEnc (enc : α → PyData) : Option α → PyData
  | none => .none
  | some a => enc a
/-- None or such a thing (that is not None itself) -/
theorem de_opt (d : De K R enc n) (hn : ∀ a, PyData.eqv (enc a) .none = false ∧ PyData.eqv .none (enc a) = false) : De K (pO R) (oEnc enc) n :=
  ⟨fun {a v I C H} s h => by
    cases a with
    | none =>
      have h' : v = .non := h
      subst h'
      exact .non
    | some a => exact d.dp s h.1,
  fun {a v I C} h => by
    cases a with
    | none => simp only [oEnc, PyData.canLay0]
    | some a => exact d.ly h.1,
  fun {a v I C} h => by
    cases a with
    | none =>
      simp only [oEnc, PyData.depth]
      exact Nat.zero_le _
    | some a => exact d.de h.1,
  fun a b => by
    cases a with
    | none =>
      cases b with
      | none => simp only [oEnc, PyData.eqv]
      | some b =>
        simp only [oEnc]
        rw [(hn b).2]
        exact ⟨fun q => (nomatch q), fun q => (nomatch q)⟩
    | some a =>
      cases b with
      | none =>
        simp only [oEnc]
        rw [(hn a).1]
        exact ⟨fun q => (nomatch q), fun q => (nomatch q)⟩
      | some b =>
        simp only [oEnc]
        rw [d.eq, Option.some.injEq]⟩
theorem o_eqD [DecidableEq α] {R' : Rp α} (d : De K R enc n) (d' : De K R' enc n) (hn : n ≤ 64) : Op2 E K (rEqD K) eqR R R' pB := fun I C H a b x y s hx hy Q q =>
  ⟨enc a, enc b, d.dp s hx, d'.dp s hy, Bool.and_eq_true_iff.mpr ⟨d.ly hx, decide_eq_true (Nat.le_trans (d.de hx) hn)⟩, Bool.and_eq_true_iff.mpr ⟨d'.ly hy, decide_eq_true (Nat.le_trans (d'.de hy) hn)⟩,
    PQ.now q s (congrArg V.bl (by
      by_cases e : a = b
      · rw [(d.eq a b).mpr e, decide_eq_true e]
      · rw [decide_eq_false e]
        exact Bool.eq_false_iff.mpr fun z => e ((d.eq a b).mp z)))⟩
theorem o_neD [DecidableEq α] {R' : Rp α} (d : De K R enc n) (d' : De K R' enc n) (hn : n ≤ 64) : Op2 E K (rNeD K) neR R R' pB := fun I C H a b x y s hx hy Q q =>
  ⟨enc a, enc b, d.dp s hx, d'.dp s hy, Bool.and_eq_true_iff.mpr ⟨d.ly hx, decide_eq_true (Nat.le_trans (d.de hx) hn)⟩, Bool.and_eq_true_iff.mpr ⟨d'.ly hy, decide_eq_true (Nat.le_trans (d'.de hy) hn)⟩,
    PQ.now q s (congrArg (fun z => V.bl (!z)) (by
      by_cases e : a = b
      · rw [(d.eq a b).mpr e, decide_eq_true e]
      · rw [decide_eq_false e]
        exact Bool.eq_false_iff.mpr fun z => e ((d.eq a b).mp z)))⟩
/-! ### in -/
def inR {α : Type} [DecidableEq α] (x : α) (xs : List α) : Res Bool := .ok (decide (x ∈ xs))
def ninR {α : Type} [DecidableEq α] (x : α) (xs : List α) : Res Bool := .ok (!decide (x ∈ xs))
@[simp] theorem inR_eq {α : Type} [DecidableEq α] (x : α) (xs : List α) : inR x xs = .ok (decide (x ∈ xs)) := rfl
@[simp] theorem ninR_eq {α : Type} [DecidableEq α] (x : α) (xs : List α) : ninR x xs = .ok (!decide (x ∈ xs)) := rfl
/-- flat things -/
structure Fl {α : Type} (R : Rp α) (f : α → V) : Prop where
  is : ∀ {a v I C}, R.r a v I C → v = f a
  flat : ∀ a, flatV (f a) = true
  eq : ∀ a b, eqV (f a) (f b) = true ↔ a = b
theorem fl_int : Fl pI V.int := ⟨fun h => h, fun _ => rfl, fun a b => by simp only [eqV, beq_iff_eq]⟩
theorem fl_str : Fl pS V.str := ⟨fun h => h.1, fun _ => rfl, fun a b => by simp only [eqV, beq_iff_eq]⟩
theorem inV_iff [DecidableEq α] {f : α → V} (F : Fl R f) (x : α) : ∀ xs : List α, inV (f x) (xs.map f) = decide (x ∈ xs)
  | [] => rfl
  | y :: ys => by
    have ih := inV_iff F x ys
    unfold inV at ih ⊢
    rw [List.map_cons, List.any_cons, ih]
    by_cases e : y = x
    · rw [(F.eq y x).mpr e, Bool.true_or, decide_eq_true (show x ∈ y :: ys by rw [e]; exact List.mem_cons_self)]
    · rw [Bool.eq_false_iff.mpr fun z => e ((F.eq y x).mp z), Bool.false_or]
      exact dec_congr ⟨fun h => List.mem_cons_of_mem _ h, fun h => (List.mem_cons.mp h).resolve_left fun q => e q.symm⟩
theorem allFlat {f : α → V} (F : Fl R f) : ∀ xs : List α, (xs.map f).all flatV = true
  | [] => rfl
  | x :: xs => by rw [List.map_cons, List.all_cons, F.flat, allFlat F xs]; rfl
theorem o_in [DecidableEq α] {f : α → V} (F : Fl R f) : Op2 E K (rIn K false) inR R (pV R) pB := fun I C H a b x y s hx hy Q q => by
  obtain ⟨p, us, rfl, h2, h3, h4⟩ := pV.at s hy
  have ex := F.is hx
  have eu := A2.map_iff (fun _ _ h => F.is h) h4
  subst ex eu
  exact ⟨p, _, rfl, .inl (.inl (.inl h2)), F.flat a, allFlat F b, PQ.now q s (congrArg V.bl (inV_iff F a b))⟩
theorem o_nin [DecidableEq α] {f : α → V} (F : Fl R f) : Op2 E K (rIn K true) ninR R (pV R) pB := fun I C H a b x y s hx hy Q q => by
  obtain ⟨p, us, rfl, h2, h3, h4⟩ := pV.at s hy
  have ex := F.is hx
  have eu := A2.map_iff (fun _ _ h => F.is h) h4
  subst ex eu
  exact ⟨p, _, rfl, .inl (.inl (.inl h2)), F.flat a, allFlat F b, PQ.now q s (congrArg (fun z => V.bl (!z)) (inV_iff F a b))⟩
theorem o_inQ [DecidableEq α] {f : α → V} (F : Fl R f) : Op2 E K (rIn K false) inR R (pQ K R) pB := fun I C H a b x y s hx hy Q q => by
  obtain ⟨p, us, rfl, h2, h3, h4⟩ := hy
  have ex := F.is hx
  have eu := A2.map_iff (fun _ _ h => F.is h) h4
  subst ex eu
  exact ⟨p, _, rfl, .inr (ex_t s.i h2), F.flat a, allFlat F b, PQ.now q s (congrArg V.bl (inV_iff F a b))⟩
theorem o_ninQ [DecidableEq α] {f : α → V} (F : Fl R f) : Op2 E K (rIn K true) ninR R (pQ K R) pB := fun I C H a b x y s hx hy Q q => by
  obtain ⟨p, us, rfl, h2, h3, h4⟩ := hy
  have ex := F.is hx
  have eu := A2.map_iff (fun _ _ h => F.is h) h4
  subst ex eu
  exact ⟨p, _, rfl, .inr (ex_t s.i h2), F.flat a, allFlat F b, PQ.now q s (congrArg (fun z => V.bl (!z)) (inV_iff F a b))⟩
/-! ### slices -/
def cut (xs : List α) (lo hi : Option Int) : List α := (xs.drop (HT.sIx xs.length 0 lo)).take (HT.sIx xs.length xs.length hi - HT.sIx xs.length 0 lo)
theorem A2.cut {f : α → V → Prop} {xs : List α} {vs : List V} (h : A2 f xs vs) (lo hi : Option Int) : A2 f (Sd.cut xs lo hi) (cutV vs lo hi) := by
  unfold Sd.cut cutV
  rw [h.len]
  exact (h.drop _).take _
def EvO (E : XK) (K : PySem.W.Frag) (to : TO) (σ : L2.St) (I C : Hp) (m : Res (Option Int)) : Prop :=
  ∀ I1 C1 H1, Ex I I1 → Ex C C1 → St I1 C1 H1 → ∀ Q : Option Int → Hp → Prop, Post m (fun o => ∀ I2 H2, Ex I1 I2 → St I2 C1 H2 → Q o H2) (PX E K I1 C1) → to σ H1 Q
def someR (m : Res Int) : Res (Option Int) := m.bind fun i => .ok (some i)
@[simp] theorem someR_ok (i : Int) : someR (.ok i) = .ok (some i) := rfl
variable {σ : L2.St} {I C : Hp} {te : TE}
theorem p_none : EvO E K tNoPart σ I C (.ok none) := fun I1 C1 H1 e e' s Q q => q I1 H1 (Ex.refl _) s
theorem p_some {m : Res Int} (h : EvX E K te σ I C m pI) : EvO E K (tPart te) σ I C (someR m) := fun I1 C1 H1 e e' s Q q =>
  h I1 C1 H1 e e' s _ ((Post.bind q).mono (fun i p v I2 H2 e2 s2 rv => ⟨i, rv, p I2 H2 e2 s2⟩) fun _ _ z => z)
def slR (m : Res (List α)) (lo hi : Res (Option Int)) : Res (List α) := m.bind fun xs => lo.bind fun a => hi.bind fun b => .ok (cut xs a b)
@[simp] theorem slR_ok (xs : List α) (a b : Option Int) : slR (.ok xs) (.ok a) (.ok b) = .ok (cut xs a b) := rfl
theorem new_list {xs : List α} {vs : List V} {I C H : Hp} {Q : VK} (q : PQ (pL R) I C Q xs) (s : St I C H) (h : A2 (fun x u => R.r x u I C) xs vs) (hl : vs.length ≤ sizeLine) : ∀ p, H p = none → Q (.ref p) (upd H p (.lst vs)) := fun p hp =>
  q (.ref p) (upd I p (.lst vs)) _ (Ex.new (s.i.free hp)) (s.newI hp) ⟨p, vs, rfl, upd_same, hl, h.imp fun _ _ => R.mono (Ex.new (s.i.free hp)) (Ex.refl _)⟩
theorem x_slW (r0 : V → Option Int → Option Int → Hp → VK → Prop) {V0 : Rp (List α)}
    (hr : ∀ I C H xs x lo hi, St I C H → V0.r xs x I C → ∀ Q, PQ (pL R) I C Q (cut xs lo hi) → r0 x lo hi H Q)
    {tl th : TO} {m : Res (List α)} {lo hi : Res (Option Int)} (h : EvX E K te σ I C m V0) (hl : EvO E K tl σ I C lo) (hh : EvO E K th σ I C hi) : EvX E K (tSl r0 te tl th) σ I C (slR m lo hi) (pL R) := fun I1 C1 H1 e e' s Q q =>
  h I1 C1 H1 e e' s _ ((Post.bind q).mono (fun a p x I2 H2 e2 s2 rx =>
    hl I2 C1 H2 (e.trans e2) e' s2 _ ((Post.bind p).mono (fun o p2 I3 H3 e3 s3 =>
      hh I3 C1 H3 (e.trans (e2.trans e3)) e' s3 _ ((Post.bind p2).mono (fun o2 p3 I4 H4 e4 s4 =>
        hr I4 C1 H4 a x o o2 s4 (V0.mono (e3.trans e4) (Ex.refl _) rx) Q fun v I5 H5 e5 s5 rv => p3 v I5 H5 (e2.trans (e3.trans (e4.trans e5))) s5 rv) fun c i z => z.mono (e2.trans e3) (Ex.refl _))) fun c i z => z.mono e2 (Ex.refl _)))
    fun _ _ z => z)
theorem x_sl {tl th : TO} {m : Res (List α)} {lo hi : Res (Option Int)} (h : EvX E K te σ I C m (pV R)) (hl : EvO E K tl σ I C lo) (hh : EvO E K th σ I C hi) : EvX E K (tSl (rSlL K) te tl th) σ I C (slR m lo hi) (pL R) :=
  x_slW (rSlL K) (fun I C H xs x lo hi s hx Q q => by
    obtain ⟨p, us, rfl, h2, h3, h4⟩ := pV.at s hx
    exact ⟨p, us, rfl, .inl (.inl h2), new_list q s (h4.cut lo hi) (Nat.le_trans (cutV_length _ _ _) h3)⟩) h hl hh
theorem x_slS {tl th : TO} {m : Res (List α)} {lo hi : Res (Option Int)} (h : EvX E K te σ I C m (pW K R)) (hl : EvO E K tl σ I C lo) (hh : EvO E K th σ I C hi) : EvX E K (tSl (rSlL K) te tl th) σ I C (slR m lo hi) (pL R) :=
  x_slW (rSlL K) (fun I C H xs x lo hi s hx Q q => by
    obtain ⟨p, us, rfl, h2, h3, h4⟩ := hx
    exact ⟨p, us, rfl, ex_l s.i h2, new_list q s (h4.cut lo hi) (Nat.le_trans (cutV_length _ _ _) h3)⟩) h hl hh
/-! ### + of lists, list(xs), tuple(xs), [x] * n -/
@[irreducible] def rCatR (xs ys : List α) : Res (List α) := if xs.length + ys.length ≤ 1000000 then .ok (xs ++ ys) else .bad
theorem rCatR_ok {xs ys : List α} (h : xs.length + ys.length ≤ 1000000) : rCatR xs ys = .ok (xs ++ ys) := by
  unfold rCatR
  exact if_pos h
theorem o_cat : Op2 E K rCat rCatR (pV R) (pV R) (pL R) := fun I C H a b x y s hx hy Q q => by
  unfold rCatR at q
  split at q
  · rename_i h
    obtain ⟨p, us, rfl, h2, h3, h4⟩ := pV.at s hx
    obtain ⟨p', us', rfl, h2', h3', h4'⟩ := pV.at s hy
    have hl : us.length + us'.length ≤ sizeLine := by
      rw [h4.len, h4'.len]
      exact Nat.le_trans h (by decide)
    exact ⟨p, p', us, us', rfl, rfl, h2, h2', hl, new_list q s (h4.append h4') (by rw [List.length_append]; exact hl)⟩
  · exact q.elim
@[irreducible] def rRepR (xs : List α) (k : Int) : Res (List α) := if k.natAbs < 1000000 ∧ xs.length * k.toNat ≤ 1000000 then .ok (List.replicate k.toNat xs).flatten else .bad
theorem rRepR_ok {xs : List α} {k : Int} (h : k < 1000000 ∧ -1000000 < k ∧ xs.length * k.toNat ≤ 1000000) : rRepR xs k = .ok (List.replicate k.toNat xs).flatten := by
  unfold rRepR
  exact if_pos ⟨by omega, h.2.2⟩
theorem A2.rep {f : α → V → Prop} {xs : List α} {vs : List V} (h : A2 f xs vs) : ∀ n : Nat, A2 f (List.replicate n xs).flatten (List.replicate n vs).flatten
  | 0 => .nil
  | n + 1 => by
    rw [List.replicate_succ, List.replicate_succ, List.flatten_cons, List.flatten_cons]
    exact h.append (A2.rep h n)
theorem flat_len {vs : List V} : ∀ n : Nat, (List.replicate n vs).flatten.length = vs.length * n
  | 0 => by simp
  | n + 1 => by
    rw [List.replicate_succ, List.flatten_cons, List.length_append, flat_len n, Nat.mul_succ, Nat.add_comm]
theorem o_rep : Op2 E K rRep rRepR (pV R) pI (pL R) := fun I C H a b x y s hx hy Q q => by
  unfold rRepR at q
  split at q
  · rename_i h
    obtain ⟨p, us, rfl, h2, h3, h4⟩ := pV.at s hx
    subst hy
    have hl : us.length * b.toNat ≤ sizeLine := by
      rw [h4.len]
      exact Nat.le_trans h.2 (by decide)
    exact ⟨p, b, us, rfl, rfl, h2, by omega, by omega, hl, new_list q s (h4.rep _) (by rw [flat_len]; exact hl)⟩
  · exact q.elim
def idR (xs : α) : Res α := .ok xs
@[simp] theorem idR_eq (xs : α) : idR xs = .ok xs := rfl
theorem o_list : OpL E K (fun xs H Q => ∃ p ys, xs = [.ref p] ∧ (SqL K H p ys ∨ SqT K H p ys) ∧ ∀ l, H l = none → Q (.ref l) (upd H l (.lst ys))) idR (t1 (pV R)) (pL R) := fun I C H a vs s hv Q q => by
  obtain ⟨v, rfl, h⟩ := hv
  obtain ⟨p, us, rfl, h2, h3, h4⟩ := pV.at s h
  exact ⟨p, us, rfl, .inl (.inl (.inl h2)), new_list q s h4 h3⟩
theorem o_listW : OpL E K (fun xs H Q => ∃ p ys, xs = [.ref p] ∧ (SqL K H p ys ∨ SqT K H p ys) ∧ ∀ l, H l = none → Q (.ref l) (upd H l (.lst ys))) idR (t1 (pW K R)) (pL R) := fun I C H a vs s hv Q q => by
  obtain ⟨v, rfl, p, us, rfl, h2, h3, h4⟩ := hv
  exact ⟨p, us, rfl, .inl (ex_l s.i h2), new_list q s h4 h3⟩
theorem o_listQ : OpL E K (fun xs H Q => ∃ p ys, xs = [.ref p] ∧ (SqL K H p ys ∨ SqT K H p ys) ∧ ∀ l, H l = none → Q (.ref l) (upd H l (.lst ys))) idR (t1 (pQ K R)) (pL R) := fun I C H a vs s hv Q q => by
  obtain ⟨v, rfl, p, us, rfl, h2, h3, h4⟩ := hv
  exact ⟨p, us, rfl, .inr (ex_t s.i h2), new_list q s h4 h3⟩
theorem new_tup {xs : List α} {vs : List V} {I C H : Hp} {Q : VK} (q : PQ (pQ K R) I C Q xs) (s : St I C H) (h : A2 (fun x u => R.r x u I C) xs vs) (hl : vs.length ≤ sizeLine) : ∀ p, H p = none → Q (.ref p) (upd H p (.tup vs)) := fun p hp =>
  q (.ref p) (upd I p (.tup vs)) _ (Ex.new (s.i.free hp)) (s.newI hp) ⟨p, vs, rfl, .inl (.inl upd_same), hl, h.imp fun _ _ => R.mono (Ex.new (s.i.free hp)) (Ex.refl _)⟩
theorem o_tuple : OpL E K (fun xs H Q => ∃ p ys, xs = [.ref p] ∧ ((SqL K H p ys ∧ ∀ l, H l = none → Q (.ref l) (upd H l (.tup ys))) ∨ (SqT K H p ys ∧ Q (.ref p) H))) idR (t1 (pV R)) (pQ K R) := fun I C H a vs s hv Q q => by
  obtain ⟨v, rfl, h⟩ := hv
  obtain ⟨p, us, rfl, h2, h3, h4⟩ := pV.at s h
  exact ⟨p, us, rfl, .inl ⟨.inl (.inl h2), new_tup q s h4 h3⟩⟩
theorem o_tupleQ : OpL E K (fun xs H Q => ∃ p ys, xs = [.ref p] ∧ ((SqL K H p ys ∧ ∀ l, H l = none → Q (.ref l) (upd H l (.tup ys))) ∨ (SqT K H p ys ∧ Q (.ref p) H))) idR (t1 (pQ K R)) (pQ K R) := fun I C H a vs s hv Q q => by
  obtain ⟨v, rfl, p, us, rfl, h2, h3, h4⟩ := hv
  exact ⟨p, us, rfl, .inr ⟨ex_t s.i h2, PQ.now q s ⟨p, us, rfl, h2, h3, h4⟩⟩⟩
/-! ### int, max, min, sum, gcd -/
theorem o_int : OpL E K (fun xs H Q => (∃ i, xs = [.int i] ∧ Q (.int i) H) ∨ ∃ k, xs = [.bl k] ∧ Q (.int (if k then 1 else 0)) H) idR (t1 pI) pI := fun I C H a vs s hv Q q => by
  obtain ⟨v, rfl, rfl⟩ := hv
  exact .inl ⟨a, rfl, PQ.now q s rfl⟩
def max2 (p : Int × Int) : Res Int := .ok (if p.2 > p.1 then p.2 else p.1)
def min2 (p : Int × Int) : Res Int := .ok (if p.2 < p.1 then p.2 else p.1)
@[simp] theorem max2_eq (a b : Int) : max2 (a, b) = .ok (max a b) := by
  unfold max2
  congr 1
  show (if b > a then b else a) = max a b
  split <;> omega
@[simp] theorem min2_eq (a b : Int) : min2 (a, b) = .ok (min a b) := by
  unfold min2
  congr 1
  show (if b < a then b else a) = min a b
  split <;> omega
theorem o_max2 : OpL E K (fun xs H Q => ∃ i j, xs = [.int i, .int j] ∧ Q (.int (if j > i then j else i)) H) max2 (tc pI (t1 pI)) pI := fun I C H a vs s hv Q q => by
  obtain ⟨v, us, rfl, rfl, w, rfl, rfl⟩ := hv
  exact ⟨_, _, rfl, PQ.now q s rfl⟩
theorem o_min2 : OpL E K (fun xs H Q => ∃ i j, xs = [.int i, .int j] ∧ Q (.int (if j < i then j else i)) H) min2 (tc pI (t1 pI)) pI := fun I C H a vs s hv Q q => by
  obtain ⟨v, us, rfl, rfl, w, rfl, rfl⟩ := hv
  exact ⟨_, _, rfl, PQ.now q s rfl⟩
def sumR (xs : List Int) : Res Int := .ok xs.sum
@[simp] theorem sumR_eq (xs : List Int) : sumR xs = .ok xs.sum := rfl
theorem o_sum : OpL E K (rSum K) sumR (t1 (pV pI)) pI := fun I C H a vs s hv Q q => by
  obtain ⟨v, rfl, h⟩ := hv
  obtain ⟨p, us, rfl, h2, h3, h4⟩ := pV.at s h
  have eu := A2.map_iff (h := V.int) (fun _ _ h => h) h4
  subst eu
  exact ⟨p, a, rfl, .inl (.inl h2), PQ.now q s rfl⟩
def gcdR (p : Int × Int) : Res Int := .ok ((Nat.gcd p.1.natAbs p.2.natAbs : Nat) : Int)
@[simp] theorem gcdR_eq (a b : Int) : gcdR (a, b) = .ok ((Nat.gcd a.natAbs b.natAbs : Nat) : Int) := rfl
theorem o_gcd : OpL E K rGcd gcdR (tc pI (t1 pI)) pI := fun I C H a vs s hv Q q => by
  obtain ⟨v, us, rfl, rfl, w, rfl, rfl⟩ := hv
  exact ⟨_, _, rfl, PQ.now q s rfl⟩
/-! ### truth of a list -/
def neR' (xs : List α) : Res Bool := .ok (!xs.isEmpty)
@[simp] theorem neR'_eq (xs : List α) : neR' xs = .ok (!xs.isEmpty) := rfl
theorem t_lst {m : Res (List α)} (h : EvX E K te σ I C m (pV R)) : EvT E K (fun σ H Q => te σ H fun x H' => ∃ k, TruV K x H' k ∧ Q k H') σ I C (un neR' m) := fun I1 C1 H1 e e' s Q q =>
  h I1 C1 H1 e e' s _ ((Post.bind q).mono (fun a p v I2 H2 e2 s2 rv => by
    obtain ⟨b, us, rfl, h2, h3, h4⟩ := pV.at s2 rv
    have hb : (!us.isEmpty) = !a.isEmpty := by
      cases h4 <;> rfl
    refine ⟨!a.isEmpty, .inl ⟨us, .inl (.inl h2), hb.symm⟩, p I2 H2 e2 s2⟩) fun _ _ z => z)
/-! ### isinstance, where the kind is known -/
def pY (n : String) : Rp Unit := ⟨fun _ v _ _ => v = .ty n, fun _ _ h => h⟩
instance {n : String} : Im (pY n) := ⟨fun h => h⟩
end
end Sd

namespace Sd
open PySem L2
/-! ### what a for walks -/
def EvI (E : XK) (K : PySem.W.Frag) (wi : TI) (σ : L2.St) (I C : Hp) (kp : Hp → Prop) {α : Type} (m : Res (List α)) (R : Rp α) : Prop :=
  ∀ I1 C1 H1, Ex I I1 → Ex C C1 → St I1 C1 H1 → ∀ Kt : L2.It → Hp → Prop, Post m (fun xs => ∀ J G Y I2 H2, Ex I1 I2 → St I2 C1 H2 → xs.length ≤ sizeLine → Walk J xs.length G Y →
    (∀ I3 C3 H3, Ex I2 I3 → kp C3 → St I3 C3 H3 → G H3) →
    (∀ i x v I3 C3 H3 H4, xs[i]? = some x → Ex I2 I3 → kp C3 → St I3 C3 H3 → Y i H3 v H4 → ∃ I4, Ex I3 I4 ∧ St I4 C3 H4 ∧ R.r x v I4 C3) → Kt J H2) (PX E K I1 C1) → wi σ H1 Kt
abbrev kpT : Hp → Prop := fun _ => True
def rangeL (lo hi : Int) : List Int := (List.range (hi - lo).toNat).map fun i : Nat => lo + ((i : Nat) : Int)
@[irreducible] def rng1 (n : Int) : Res (List Int) := if n.natAbs ≤ 1000000 then .ok (rangeL 0 n) else .bad
@[irreducible] def rng2 (p : Int × Int) : Res (List Int) := if p.1.natAbs ≤ 1000000 ∧ p.2.natAbs ≤ 1000000 then .ok (rangeL p.1 p.2) else .bad
theorem rng1_ok {n : Int} (h : n ≤ 1000000 ∧ -1000000 ≤ n) : rng1 n = .ok (rangeL 0 n) := by
  unfold rng1
  exact if_pos (by omega)
theorem rng2_ok {a b : Int} (h : a ≤ 1000000 ∧ -1000000 ≤ a ∧ b ≤ 1000000 ∧ -1000000 ≤ b) : rng2 (a, b) = .ok (rangeL a b) := by
  unfold rng2
  exact if_pos (by dsimp only; omega)
@[simp] theorem rangeL_length (lo hi : Int) : (rangeL lo hi).length = (hi - lo).toNat := by unfold rangeL; rw [List.length_map, List.length_range]
theorem rangeL_get {lo hi : Int} {i : Nat} {x : Int} (h : (rangeL lo hi)[i]? = some x) : x = lo + (i : Int) := by
  unfold rangeL at h
  rw [List.getElem?_map] at h
  cases q : (List.range (hi - lo).toNat)[i]? with
  | none =>
    rw [q] at h
    cases h
  | some j =>
    rw [q] at h
    have hj : j = i := by
      obtain ⟨_, e⟩ := List.getElem?_eq_some_iff.mp q
      rw [List.getElem_range] at e
      exact e.symm
    rw [← hj]
    exact (Option.some.inj h).symm
theorem mem_rangeL {lo hi x : Int} : x ∈ rangeL lo hi ↔ lo ≤ x ∧ x < hi := by
  unfold rangeL
  rw [List.mem_map]
  constructor
  · rintro ⟨i, h, rfl⟩
    rw [List.mem_range] at h
    omega
  · intro h
    exact ⟨(x - lo).toNat, List.mem_range.mpr (by omega), by show lo + (((x - lo).toNat : Nat) : Int) = x; omega⟩
def enumF {α : Type} (k : Int) : List α → List (Int × α)
  | [] => []
  | x :: xs => (k, x) :: enumF (k + 1) xs
def enumR {α : Type} (xs : List α) : Res (List (Int × α)) := .ok (enumF 0 xs)
@[simp] theorem enumR_eq {α : Type} (xs : List α) : enumR xs = .ok (enumF 0 xs) := rfl
@[simp] theorem enumF_length {α : Type} : ∀ (xs : List α) (k : Int), (enumF k xs).length = xs.length
  | [], _ => rfl
  | _ :: xs, k => by rw [enumF, List.length_cons, List.length_cons, enumF_length xs]
theorem enumF_get {α : Type} : ∀ (xs : List α) (k : Int) (i : Nat), (enumF k xs)[i]? = xs[i]?.map fun x => (k + (i : Int), x)
  | [], _, _ => by simp [enumF]
  | x :: xs, k, 0 => by simp [enumF]
  | x :: xs, k, i + 1 => by
    rw [enumF, List.getElem?_cons_succ, List.getElem?_cons_succ, enumF_get xs (k + 1) i]
    cases xs[i]? with
    | none => rfl
    | some y =>
      simp only [Option.map_some, Option.some.injEq, Prod.mk.injEq, and_true]
      omega
def zipR {α β : Type} (p : List α × List β) : Res (List (α × β)) := .ok (p.1.zip p.2)
@[simp] theorem zipR_eq {α β : Type} (a : List α) (b : List β) : zipR (a, b) = .ok (a.zip b) := rfl
section
variable {E : XK} {K : PySem.W.Frag} {σ : L2.St} {I C : Hp} {α β γ : Type} {R : Rp α} {S : Rp β} {T : Rp γ} {te : TE} {ta : TA} {m : Res (List α)}
theorem i_list [Im R] (h : EvX E K te σ I C m (pL R)) : EvI E K (iList K te) σ I C kpT m R := fun I1 C1 H1 e e' s Kt q =>
  h I1 C1 H1 e e' s _ (q.mono (fun xs p v I2 H2 e2 s2 ⟨a, vs, h1, h2, h3, h4⟩ => ⟨a, h1, ⟨vs, .inl (.inl (s2.i a _ h2))⟩, by
    have hl := h4.len
    refine p (Itl K a) (fun H => SqL K H a vs) (YAt vs) I2 H2 e2 s2 (by omega) (by rw [← hl]; exact walk_list) (fun I3 C3 H3 e3 _ s3 => .inl (.inl (s3.i a _ (e3 a _ h2)))) (fun i x v' I3 C3 H3 H4 hx e3 _ s3 y => ?_)
    obtain ⟨rfl, y⟩ := y
    obtain ⟨w, hw, r⟩ := h4.get' hx
    rw [hw] at y
    cases y
    exact ⟨I3, Ex.refl _, s3, R.to e3 r⟩⟩) fun _ _ z => z)
/-- over a list that is a cell: the turns leave it as it is -/
theorem i_cell [Im R] {i : Nat} {a : Addr} {vs : List V} {xs : List α} (h : σ[i]? = some (some (.ref a))) (hc : C a = some (.lst vs)) (hl : vs.length ≤ sizeLine) (hr : A2 (fun x u => R.r x u I C) xs vs) :
    EvI E K (iList K (tVar i)) σ I C (fun C3 => C3 a = some (.lst vs)) (.ok xs) R := fun I1 C1 H1 e e' s Kt q =>
  ⟨.ref a, h, a, rfl, ⟨vs, .inl (.inl (s.c a _ (e' a _ hc)))⟩, by
    have hn := hr.len
    refine q (Itl K a) (fun H => SqL K H a vs) (YAt vs) I1 H1 (Ex.refl _) s (by omega) (by rw [← hn]; exact walk_list) (fun I3 C3 H3 e3 k3 s3 => .inl (.inl (s3.c a _ k3))) (fun i x v' I3 C3 H3 H4 hx e3 _ s3 y => ?_)
    obtain ⟨rfl, y⟩ := y
    obtain ⟨w, hw, r⟩ := hr.get' hx
    rw [hw] at y
    cases y
    exact ⟨I3, Ex.refl _, s3, R.to (e.trans e3) r⟩⟩
theorem i_script [Im R] (h : EvX E K te σ I C m (pW K R)) : EvI E K (iList K te) σ I C kpT m R := fun I1 C1 H1 e e' s Kt q =>
  h I1 C1 H1 e e' s _ (q.mono (fun xs p v I2 H2 e2 s2 ⟨a, vs, h1, h2, h3, h4⟩ => ⟨a, h1, ⟨vs, ex_l s2.i h2⟩, by
    have hl := h4.len
    refine p (Itl K a) (fun H => SqL K H a vs) (YAt vs) I2 H2 e2 s2 (by omega) (by rw [← hl]; exact walk_list) (fun I3 C3 H3 e3 _ s3 => ex_l (e3.trans s3.i) h2) (fun i x v' I3 C3 H3 H4 hx e3 _ s3 y => ?_)
    obtain ⟨rfl, y⟩ := y
    obtain ⟨w, hw, r⟩ := h4.get' hx
    rw [hw] at y
    cases y
    exact ⟨I3, Ex.refl _, s3, R.to e3 r⟩⟩) fun _ _ z => z)
theorem i_tup [Im R] (h : EvX E K te σ I C m (pQ K R)) : EvI E K (iTup K te) σ I C kpT m R := fun I1 C1 H1 e e' s Kt q =>
  h I1 C1 H1 e e' s _ (q.mono (fun xs p v I2 H2 e2 s2 ⟨a, vs, h1, h2, h3, h4⟩ => ⟨a, h1, ⟨vs, ex_t s2.i h2⟩, by
    have hl := h4.len
    refine p (Itt K a) (fun H => SqT K H a vs) (YAt vs) I2 H2 e2 s2 (by omega) (by rw [← hl]; exact walk_tup) (fun I3 C3 H3 e3 _ s3 => ex_t (e3.trans s3.i) h2) (fun i x v' I3 C3 H3 H4 hx e3 _ s3 y => ?_)
    obtain ⟨rfl, y⟩ := y
    obtain ⟨w, hw, r⟩ := h4.get' hx
    rw [hw] at y
    cases y
    exact ⟨I3, Ex.refl _, s3, R.to e3 r⟩⟩) fun _ _ z => z)
theorem i_rng1 {m : Res Int} (h : EvA E K ta σ I C m (t1 pI)) : EvI E K (iRng1 ta) σ I C kpT (un rng1 m) pI := fun I1 C1 H1 e e' s Kt q =>
  h I1 C1 H1 e e' s _ ((Post.bind q).mono (fun n p vs I2 H2 e2 s2 ⟨v, hv, rv⟩ => by
    unfold rng1 at p
    split at p
    · rename_i hn
      have hv1 : v = .int n := rv
      subst hv hv1
      refine ⟨n, rfl, by omega, by omega, p (Itr 0 n.toNat) (fun _ => True) (YFn fun i => .int (0 + i)) I2 H2 e2 s2 (by rw [rangeL_length]; exact Nat.le_trans (show (n - 0).toNat ≤ 1000000 by omega) (by decide)) (by rw [rangeL_length, Int.sub_zero]; exact walk_range) (fun _ _ _ _ _ _ => trivial) (fun i x v' I3 C3 H3 H4 hx e3 _ s3 y => ?_)⟩
      obtain ⟨rfl, rfl⟩ := y
      rw [rangeL_get hx]
      exact ⟨I3, Ex.refl _, s3, rfl⟩
    · exact p.elim) fun _ _ z => z)
theorem i_rng2 {m : Res (Int × Int)} (h : EvA E K ta σ I C m (tc pI (t1 pI))) : EvI E K (iRng2 ta) σ I C kpT (un rng2 m) pI := fun I1 C1 H1 e e' s Kt q =>
  h I1 C1 H1 e e' s _ ((Post.bind q).mono (fun n p vs I2 H2 e2 s2 ⟨v, us, hv, rv, w, hw, rw⟩ => by
    unfold rng2 at p
    split at p
    · rename_i hn
      have hv1 : v = .int n.1 := rv
      have hw1 : w = .int n.2 := rw
      subst hv hw hv1 hw1
      refine ⟨n.1, n.2, rfl, by omega, p (Itr n.1 (n.2 - n.1).toNat) (fun _ => True) (YFn fun i => .int (n.1 + i)) I2 H2 e2 s2 (by rw [rangeL_length]; exact Nat.le_trans (show (n.2 - n.1).toNat ≤ 2000000 by omega) (by decide)) (by rw [rangeL_length]; exact walk_range) (fun _ _ _ _ _ _ => trivial) (fun i x v' I3 C3 H3 H4 hx e3 _ s3 y => ?_)⟩
      obtain ⟨rfl, rfl⟩ := y
      rw [rangeL_get hx]
      exact ⟨I3, Ex.refl _, s3, rfl⟩
    · exact p.elim) fun _ _ z => z)
theorem new_pair {I C H : Hp} {T : Addr} {x y : V} {a : α} {b : β} (s : St I C H) (ht : H T = none) (hx : R.r a x I C) (hy : S.r b y I C) :
    ∃ I4, Ex I I4 ∧ St I4 C (upd H T (.tup [x, y])) ∧ (pT (tc R (t1 S))).r (a, b) (.ref T) I4 C :=
  ⟨upd I T (.tup [x, y]), Ex.new (s.i.free ht), s.newI ht, T, _, rfl, upd_same, x, [y], rfl, R.mono (Ex.new (s.i.free ht)) (Ex.refl _) hx, y, rfl, S.mono (Ex.new (s.i.free ht)) (Ex.refl _) hy⟩
theorem i_enum [Im R] (h : EvA E K ta σ I C m (t1 (pL R))) : EvI E K (iEnum K ta) σ I C kpT (un enumR m) (pT (tc pI (t1 R))) := fun I1 C1 H1 e e' s Kt q =>
  h I1 C1 H1 e e' s _ ((Post.bind q).mono (fun xs p vs I2 H2 e2 s2 ⟨v, hv, a, us, h1, h2, h3, h4⟩ => by
    subst hv h1
    have hl := h4.len
    refine ⟨a, us, rfl, .inl (.inl (s2.i a _ h2)), p (Ite K a) (fun H => SqL K H a us) (YPair (fun i => some (.int (i : Nat))) (fun i => us[i]?)) I2 H2 e2 s2 (by rw [enumF_length]; omega) (by rw [enumF_length, ← hl]; exact walk_enum) (fun I3 C3 H3 e3 _ s3 => .inl (.inl (s3.i a _ (e3 a _ h2)))) (fun i x v' I3 C3 H3 H4 hx e3 _ s3 y => ?_)⟩
    obtain ⟨T, u, w, rfl, hT, rfl, hu, hw⟩ := y
    rw [enumF_get] at hx
    cases hz : xs[i]? with
    | none =>
      rw [hz] at hx
      cases hx
    | some z =>
      rw [hz] at hx
      cases hx
      obtain ⟨w', hw', r⟩ := h4.get' hz
      have hw2 : us[i]? = some w := hw
      rw [hw'] at hw2
      cases hw2
      cases hu
      exact new_pair s3 hT (show V.int (i : Nat) = V.int (0 + (i : Int)) by rw [Int.zero_add]) (R.to e3 r)) fun _ _ z => z)
theorem i_zip [Im R] [Im S] {m : Res (List α × List β)} (h : EvA E K ta σ I C m (tc (pL R) (t1 (pL S)))) : EvI E K (iZip K ta) σ I C kpT (un zipR m) (pT (tc R (t1 S))) := fun I1 C1 H1 e e' s Kt q =>
  h I1 C1 H1 e e' s _ ((Post.bind q).mono (fun xs p vs I2 H2 e2 s2 ⟨v, us0, hv, ⟨a, us, h1, h2, h3, h4⟩, v', hv', a', us', h1', h2', h3', h4'⟩ => by
    subst hv hv' h1 h1'
    have hl := h4.len
    have hl' := h4'.len
    refine ⟨a, a', us, us', rfl, .inl (.inl (s2.i a _ h2)), .inl (.inl (s2.i a' _ h2')), p (Itz K a a') (fun H => SqL K H a us ∧ SqL K H a' us') (YPair (fun i => us[i]?) (fun i => us'[i]?)) I2 H2 e2 s2 (by rw [List.length_zip]; omega) (walk_zip (by rw [List.length_zip, hl, hl']))
      (fun I3 C3 H3 e3 _ s3 => ⟨.inl (.inl (s3.i a _ (e3 a _ h2))), .inl (.inl (s3.i a' _ (e3 a' _ h2')))⟩) (fun i x v' I3 C3 H3 H4 hx e3 _ s3 y => ?_)⟩
    obtain ⟨T, u, w, rfl, hT, rfl, hu, hw⟩ := y
    obtain ⟨x1, x2⟩ := x
    obtain ⟨hx1, hx2⟩ := List.getElem?_zip_eq_some.mp hx
    obtain ⟨w1, hw1, r1⟩ := h4.get' hx1
    obtain ⟨w2, hw2, r2⟩ := h4'.get' hx2
    have hu2 : us[i]? = some u := hu
    have hw3 : us'[i]? = some w := hw
    rw [hw1] at hu2
    cases hu2
    rw [hw2] at hw3
    cases hw3
    exact new_pair s3 hT (R.to e3 r1) (S.to e3 r2)) fun _ _ z => z)
/-! ### targets -/
def Tg (K : PySem.W.Frag) {α : Type} (g : TG) (R : Rp α) (σ : L2.St) (P : α → L2.St → Hp → Hp → Prop) : Prop := ∀ x v I C H Q, St I C H → R.r x v I C → (∀ σ2, P x σ2 I C → Q σ2 H) → g v σ H Q
theorem g_name {i : Nat} : Tg K (gName i) R σ (fun x σ2 I C => ∃ v, σ2 = σ.set i (some v) ∧ R.r x v I C) := fun x v I C H Q s r k => k _ ⟨v, rfl, r⟩
theorem g_two {i j : Nat} : Tg K (gTup K 2 (gCons (gName i) (gCons (gName j) gNil))) (pT (tc R (t1 S))) σ (fun x σ2 I C => ∃ u w, σ2 = (σ.set i (some u)).set j (some w) ∧ R.r x.1 u I C ∧ S.r x.2 w I C) := fun x v I C H Q s r k => by
  obtain ⟨a, vs, rfl, h2, u, us, rfl, h3, w, rfl, h4⟩ := r
  exact ⟨a, _, rfl, .inl (.inl (s.i _ _ h2)), rfl, u, _, rfl, w, _, rfl, rfl, k _ ⟨u, w, rfl, h3, h4⟩⟩
theorem g_three {i j l : Nat} : Tg K (gTup K 3 (gCons (gName i) (gCons (gName j) (gCons (gName l) gNil)))) (pT (tc R (tc S (t1 T)))) σ
    (fun x σ2 I C => ∃ u w z, σ2 = ((σ.set i (some u)).set j (some w)).set l (some z) ∧ R.r x.1 u I C ∧ S.r x.2.1 w I C ∧ T.r x.2.2 z I C) := fun x v I C H Q s r k => by
  obtain ⟨a, vs, rfl, h2, u, us, rfl, h3, w, us', rfl, h4, z, rfl, h5⟩ := r
  exact ⟨a, _, rfl, .inl (.inl (s.i _ _ h2)), rfl, u, _, rfl, w, _, rfl, z, _, rfl, rfl, k _ ⟨u, w, z, rfl, h3, h4, h5⟩⟩
/-! ### comprehensions (an element that raises is not served) -/
def mapR (f : α → Res β) : List α → Res (List β)
  | [] => .ok []
  | x :: xs => match f x with
    | .ok y => (mapR f xs).bind fun ys => .ok (y :: ys)
    | _ => .bad
def filR (p : α → Res Bool) (f : α → Res β) : List α → Res (List β)
  | [] => .ok []
  | x :: xs => match p x with
    | .ok true => (match f x with
      | .ok y => (filR p f xs).bind fun ys => .ok (y :: ys)
      | _ => .bad)
    | .ok false => filR p f xs
    | _ => .bad
theorem mapR_ok {f : α → Res β} {g : α → β} : ∀ {xs : List α}, (∀ x, x ∈ xs → f x = .ok (g x)) → mapR f xs = .ok (xs.map g)
  | [], _ => rfl
  | x :: xs, h => by
    unfold mapR
    rw [h x List.mem_cons_self]
    show (mapR f xs).bind _ = _
    rw [mapR_ok (xs := xs) fun y hy => h y (List.mem_cons_of_mem _ hy)]
    rfl
theorem filR_ok {p : α → Res Bool} {f : α → Res β} {q : α → Bool} {g : α → β} : ∀ {xs : List α}, (∀ x, x ∈ xs → p x = .ok (q x)) → (∀ x, x ∈ xs → q x = true → f x = .ok (g x)) → filR p f xs = .ok ((xs.filter q).map g)
  | [], _, _ => rfl
  | x :: xs, h, h' => by
    have ih := filR_ok (xs := xs) (fun y hy => h y (List.mem_cons_of_mem _ hy)) (fun y hy => h' y (List.mem_cons_of_mem _ hy))
    unfold filR
    rw [h x List.mem_cons_self]
    cases hq : q x with
    | true =>
      show (match f x with
        | .ok y => (filR p f xs).bind fun ys => .ok (y :: ys)
        | _ => .bad) = _
      rw [h' x List.mem_cons_self hq, List.filter_cons, hq]
      show (filR p f xs).bind _ = _
      rw [ih]
      rfl
    | false =>
      show filR p f xs = _
      rw [ih, List.filter_cons, hq]
      rfl
@[simp] theorem mapR_okf (g : α → β) (xs : List α) : mapR (fun x => .ok (g x)) xs = .ok (xs.map g) := mapR_ok fun _ _ => rfl
@[simp] theorem filR_okf (q : α → Bool) (g : α → β) (xs : List α) : filR (fun x => .ok (q x)) (fun x => .ok (g x)) xs = .ok ((xs.filter q).map g) := filR_ok (fun _ _ => rfl) (fun _ _ _ => rfl)
abbrev EZ : XK := fun _ _ _ => False
theorem drop_cons {xs : List α} {i : Nat} {x : α} (h : xs[i]? = some x) : xs.drop i = x :: xs.drop (i + 1) := by
  obtain ⟨hi, e⟩ := List.getElem?_eq_some_iff.mp h
  rw [← e]
  exact List.drop_eq_getElem_cons hi
/-- what stands between two turns: ys made so far, the rest gives what is wanted -/
def Lc (S : Rp β) (I C : Hp) (D : Addr) (rest : Res (List β)) (W : List β → Prop) (n : Nat) (H : Hp) : Prop :=
  ∃ (ys : List β) (vs : List V) (I' : Hp), Ex I I' ∧ St I' (upd C D (.lst vs)) H ∧ vs.length ≤ n ∧ A2 (fun x u => S.r x u I' C) ys vs ∧ Post rest (fun zs => W (ys ++ zs)) (fun _ _ => False)
theorem PX.no {K : PySem.W.Frag} {I C : Hp} {c : Ec} {i : Int} (h : False) : PX EZ K I C c i := h.elim
theorem x_lcgK [Im S] {wi : TI} {g : TG} {tt : TT} {vs : List Nat} {p : α → Res Bool} {f : α → Res β} {P : α → L2.St → Hp → Hp → Prop} {kp : Hp → Prop} (hi : EvI E K wi σ I C kp m R) (hkp : ∀ C3, Ex C C3 → kp C3) (hg : Tg K g R (wipe σ vs) P)
    (hw : ∀ x σ2 I' C', P x σ2 I' C' → wipe σ2 vs = wipe σ vs)
    (hp : ∀ x σ2 I' C', Ex I I' → Ex C C' → P x σ2 I' C' → EvT EZ K tt σ2 I' C' (p x))
    (hf : ∀ x σ2 I' C', Ex I I' → Ex C C' → P x σ2 I' C' → EvX EZ K te σ2 I' C' (f x) S)
    (hm : ∀ x σ2 I' I2 C', Ex I' I2 → P x σ2 I' C' → P x σ2 I2 C') : EvX E K (tLc wi g tt te vs) σ I C (m.bind (filR p f)) (pL S) := fun I1 C1 H1 e e' s Q q =>
  hi I1 C1 H1 e e' s _ ((Post.bind q).mono (fun xs q2 J G Y I2 H2 e2 s2 hz w hG hY D hD => by
    have cD : C1 D = none := s2.c.free hD
    refine lc_it w (fun i H => Lc S I2 C1 D (filR p f (xs.drop i)) (PQ (pL S) I1 C1 Q) i H) ⟨[], [], I2, Ex.refl _, s2.newC hD, Nat.le_refl _, .nil, ?_⟩ (fun i H hi ⟨_, vs', I', e3, s3, _⟩ => hG I' _ H e3 (hkp _ (e'.trans (Ex.new cD))) s3) (fun i x H H' hi ⟨ys, us, I', e3, s3, hn, r3, po⟩ y => ?_) (fun H ⟨ys, us, I', e3, s3, hn, r3, po⟩ => ?_)
    · cases hfil : filR p f xs with
      | ok zs =>
        rw [hfil] at q2
        show Post (filR p f (xs.drop 0)) _ _
        rw [List.drop_zero, hfil]
        exact q2
      | exc c i =>
        exfalso
        revert hfil
        clear q2 hG hY w hz
        induction xs with
        | nil =>
          intro z
          cases z
        | cons x xs ih =>
          unfold filR
          cases p x with
          | ok b =>
            cases b with
            | true =>
              cases f x with
              | ok y =>
                intro z
                cases hh : filR p f xs with
                | ok zs =>
                  simp only [hh] at z
                  cases z
                | exc c' i' =>
                  simp only [hh] at z
                  have z2 : (Res.exc c' i' : Res (List β)) = .exc c i := z
                  cases z2
                  exact ih hh
                | bad =>
                  simp only [hh] at z
                  cases z
              | exc _ _ => intro z; cases z
              | bad => intro z; cases z
            | false => exact ih
          | exc _ _ => intro z; cases z
          | bad => intro z; cases z
      | bad =>
        rw [hfil] at q2
        exact q2.elim
    · obtain ⟨a, ha⟩ : ∃ a, xs[i]? = some a := ⟨xs[i], by simp [hi]⟩
      rw [drop_cons ha] at po
      obtain ⟨I4, e4, s4, ra⟩ := hY i a x I' _ H H' ha e3 (hkp _ (e'.trans (Ex.new cD))) s3 y
      refine hg a x I4 _ H' _ s4 ra fun σ2 pa => ⟨hw _ _ _ _ pa, ?_⟩
      have eI : Ex I I4 := e.trans (e2.trans (e3.trans e4))
      have eC : Ex C (upd C1 D (.lst us)) := e'.trans (Ex.new cD)
      unfold filR at po
      refine hp a σ2 I4 _ eI eC pa I4 _ H' (Ex.refl _) (Ex.refl _) s4 _ ?_
      cases hpa : p a with
      | ok b =>
        rw [hpa] at po
        cases b with
        | true =>
          show ∀ I5 H5, Ex I4 I5 → St I5 (upd C1 D (.lst us)) H5 → te σ2 H5 _
          intro I5 H5 e5 s5
          refine hf a σ2 I5 _ (eI.trans e5) eC (hm _ _ _ _ _ e5 pa) I5 _ H5 (Ex.refl _) (Ex.refl _) s5 _ ?_
          cases hfa : f a with
          | ok b =>
            have po2 : Post ((filR p f (xs.drop (i + 1))).bind fun ys => .ok (b :: ys)) (fun zs => PQ (pL S) I1 C1 Q (ys ++ zs)) (fun _ _ => False) := by
              have z := po
              simp only [hfa] at z
              exact z
            intro v I6 H6 e6 s6 rv
            have hsz : us.length < sizeLine := Nat.lt_of_le_of_lt hn (Nat.lt_of_lt_of_le hi hz)
            refine ⟨us, s6.c D _ upd_same, hsz, ⟨ys ++ [b], us ++ [v], I6, e3.trans (e4.trans (e5.trans e6)), ?_, by rw [List.length_append]; exact Nat.succ_le_succ hn, ?_, ?_⟩⟩
            · have z := s6.set (o := .lst (us ++ [v])) (p := D) upd_same
              rw [upd_upd] at z
              exact z
            · exact (r3.imp fun _ _ => S.mono (e4.trans (e5.trans e6)) (Ex.refl _)).append (.one (Im.im rv))
            · refine (Post.bind po2).mono (fun zs z => ?_) fun _ _ z => z
              rw [List.append_assoc]
              exact z
          | exc c j =>
            have z := po
            simp only [hfa] at z
            exact z.elim
          | bad =>
            have z := po
            simp only [hfa] at z
            exact z.elim
        | false =>
          show ∀ I5 H5, Ex I4 I5 → St I5 (upd C1 D (.lst us)) H5 → Lc S I2 C1 D (filR p f (xs.drop (i + 1))) (PQ (pL S) I1 C1 Q) (i + 1) H5
          intro I5 H5 e5 s5
          exact ⟨ys, us, I5, e3.trans (e4.trans e5), s5, Nat.le_succ_of_le hn, r3.imp fun _ _ => S.mono (e4.trans e5) (Ex.refl _), po⟩
      | exc c j =>
        rw [hpa] at po
        exact po.elim
      | bad =>
        rw [hpa] at po
        exact po.elim
    · rw [List.drop_length] at po
      have po2 : PQ (pL S) I1 C1 Q (ys ++ []) := po
      rw [List.append_nil] at po2
      have sf := s3.frz (p := D) upd_same
      have iD : I' D = none := s3.freeI upd_same
      refine po2 (.ref D) (upd I' D (.lst us)) H (e2.trans (e3.trans (Ex.new iD))) (sf.less fun a o ha => ?_) ⟨D, us, rfl, upd_same, Nat.le_trans hn hz, r3.imp fun _ _ => S.mono (Ex.new iD) (Ex.refl _)⟩
      have hne : a ≠ D := fun z => by
        rw [z, cD] at ha
        cases ha
      show (if a = D then none else upd C1 D (.lst us) a) = some o
      rw [if_neg hne, upd_ne hne]
      exact ha) fun _ _ z => z)
theorem x_lcg [Im S] {wi : TI} {g : TG} {tt : TT} {vs : List Nat} {p : α → Res Bool} {f : α → Res β} {P : α → L2.St → Hp → Hp → Prop} (hi : EvI E K wi σ I C kpT m R) (hg : Tg K g R (wipe σ vs) P)
    (hw : ∀ x σ2 I' C', P x σ2 I' C' → wipe σ2 vs = wipe σ vs)
    (hp : ∀ x σ2 I' C', Ex I I' → Ex C C' → P x σ2 I' C' → EvT EZ K tt σ2 I' C' (p x))
    (hf : ∀ x σ2 I' C', Ex I I' → Ex C C' → P x σ2 I' C' → EvX EZ K te σ2 I' C' (f x) S)
    (hm : ∀ x σ2 I' I2 C', Ex I' I2 → P x σ2 I' C' → P x σ2 I2 C') : EvX E K (tLc wi g tt te vs) σ I C (m.bind (filR p f)) (pL S) := x_lcgK hi (fun _ _ => trivial) hg hw hp hf hm
theorem filR_yes (f : α → Res β) : ∀ xs : List α, filR (fun _ => .ok true) f xs = mapR f xs
  | [] => rfl
  | x :: xs => by
    unfold filR mapR
    rw [filR_yes f xs]
theorem t_yes : EvT E K tYes σ I C (.ok true) := fun I1 C1 H1 e e' s Q q => q I1 H1 (Ex.refl _) s
theorem x_lc [Im S] {wi : TI} {g : TG} {vs : List Nat} {f : α → Res β} {P : α → L2.St → Hp → Hp → Prop} (hi : EvI E K wi σ I C kpT m R) (hg : Tg K g R (wipe σ vs) P)
    (hw : ∀ x σ2 I' C', P x σ2 I' C' → wipe σ2 vs = wipe σ vs)
    (hf : ∀ x σ2 I' C', Ex I I' → Ex C C' → P x σ2 I' C' → EvX EZ K te σ2 I' C' (f x) S)
    (hm : ∀ x σ2 I' I2 C', Ex I' I2 → P x σ2 I' C' → P x σ2 I2 C') : EvX E K (tLc wi g tYes te vs) σ I C (m.bind (mapR f)) (pL S) := by
  have z := x_lcg (p := fun _ => .ok true) hi hg hw (fun x σ2 I' C' _ _ _ => t_yes) hf hm
  have e : filR (fun _ => Res.ok true) f = mapR f := funext (filR_yes f)
  rw [e] at z
  exact z
theorem x_lcK [Im S] {wi : TI} {g : TG} {vs : List Nat} {f : α → Res β} {P : α → L2.St → Hp → Hp → Prop} {kp : Hp → Prop} (hi : EvI E K wi σ I C kp m R) (hkp : ∀ C3, Ex C C3 → kp C3) (hg : Tg K g R (wipe σ vs) P)
    (hw : ∀ x σ2 I' C', P x σ2 I' C' → wipe σ2 vs = wipe σ vs)
    (hf : ∀ x σ2 I' C', Ex I I' → Ex C C' → P x σ2 I' C' → EvX EZ K te σ2 I' C' (f x) S)
    (hm : ∀ x σ2 I' I2 C', Ex I' I2 → P x σ2 I' C' → P x σ2 I2 C') : EvX E K (tLc wi g tYes te vs) σ I C (m.bind (mapR f)) (pL S) := by
  have z := x_lcgK (p := fun _ => .ok true) hi hkp hg hw (fun x σ2 I' C' _ _ _ => t_yes) hf hm
  have e : filR (fun _ => Res.ok true) f = mapR f := funext (filR_yes f)
  rw [e] at z
  exact z
end
end Sd

namespace Sd
open PySem L2
/-! ### promises -/
/-- f(a ..) hands back what the mirror m tells; nothing changes -/
def spP (K : PySem.W.Frag) {α β : Type} (T : Rt α) (m : α → Res β) (R : Rp β) : Sp := fun vs H Q E => ∃ (I C : Hp) (a : α), St I C H ∧ T.r a vs I C ∧ Post (m a) (PQ R I C Q) (PX E K I C)
/-- f(pool, a ..): the list at the first place changes; nothing is raised -/
def spM {α β μ : Type} (M : Rt μ) (T : Rt α) (m : α → μ → Res (β × μ)) (R : Rp β) : Sp := fun vs H Q _ => ∃ (I C : Hp) (p : Addr) (ws us : List V) (x : μ) (a : α), vs = .ref p :: us ∧ St I C H ∧ C p = some (.lst ws) ∧ M.r x ws I C ∧ T.r a us I C ∧
  Post (m a x) (fun b => ∀ v ws' I2 H2, Ex I I2 → St I2 (upd C p (.lst ws')) H2 → M.r b.2 ws' I2 (upd C p (.lst ws')) → R.r b.1 v I2 (upd C p (.lst ws')) → Q v H2) (fun _ _ => False)
inductive Out (S ρ : Type) where
  | nx (s : S)
  | br (s : S)
  | rt (r : ρ)
section
variable {α β S ρ : Type}
def loopN (f : α → S → Res S) : List α → S → Res S
  | [], s => .ok s
  | x :: xs, s => (f x s).bind fun s' => loopN f xs s'
def loopR (f : α → S → Res (Out S ρ)) : List α → S → Res (Out S ρ)
  | [], s => .ok (.nx s)
  | x :: xs, s => (f x s).bind fun o => match o with
    | .nx s' => loopR f xs s'
    | .br s' => .ok (.nx s')
    | .rt r => .ok (.rt r)
def whileF (c : S → Res Bool) (f : S → Res (Out S ρ)) : Nat → S → Res (Out S ρ)
  | 0, _ => .bad
  | n + 1, s => (c s).bind fun b => if b = true then (f s).bind fun o => match o with
    | .nx s' => whileF c f n s'
    | .br s' => .ok (.nx s')
    | .rt r => .ok (.rt r) else .ok (.nx s)
def whileN (c : S → Res Bool) (f : S → Res S) : Nat → S → Res S
  | 0, _ => .bad
  | n + 1, s => (c s).bind fun b => if b = true then (f s).bind fun s' => whileN c f n s' else .ok s
theorem loopN_ok {f : α → S → Res S} {g : S → α → S} : ∀ {xs : List α} {s : S}, (∀ x, x ∈ xs → ∀ s, f x s = .ok (g s x)) → loopN f xs s = .ok (xs.foldl g s)
  | [], s, _ => rfl
  | x :: xs, s, h => by
    unfold loopN
    rw [h x List.mem_cons_self]
    exact loopN_ok (xs := xs) fun y hy => h y (List.mem_cons_of_mem _ hy)
theorem loopN_cons (f : α → S → Res S) (x : α) (xs : List α) (s : S) : loopN f (x :: xs) s = (f x s).bind fun s' => loopN f xs s' := rfl
theorem loopR_cons (f : α → S → Res (Out S ρ)) (x : α) (xs : List α) (s : S) : loopR f (x :: xs) s = (f x s).bind fun o => match o with
    | .nx s' => loopR f xs s'
    | .br s' => .ok (.nx s')
    | .rt r => .ok (.rt r) := rfl
end
abbrev XH (X : Ec → Int → Prop) (E : XK) (K : PySem.W.Frag) (I C : Hp) : Prop := ∀ c i, X c i → PX E K I C c i
section
variable {E : XK} {K : PySem.W.Frag} {σ : L2.St} {I C H : Hp} {α β γ ω S ρ μ : Type} {R : Rp α} {te : TE} {ta : TA} {tt : TT} {tz tu tw : TS} {D : Ends} {m : Res α} {Q : ω → Prop} {X : Ec → Int → Prop}
/-! ### calls of defs -/
theorem x_call {T : Rt α} {f : α → Res β} {R : Rp β} (h : EvA E K ta σ I C m T) : EvX E K (tCall (spP K T f R) [] E ta) σ I C (un f m) R := fun I1 C1 H1 e e' s Q q =>
  h I1 C1 H1 e e' s _ ((Post.bind q).mono (fun a p vs I2 H2 e2 s2 rv => by
    refine ⟨I2, C1, a, s2, by rw [List.append_nil]; exact rv, Post.mono (m := f a) p (fun b z v I3 H3 e3 s3 rw => z v I3 H3 (e2.trans e3) s3 rw) fun c i z => z.mono e2 (Ex.refl _)⟩) fun _ _ z => z)
/-! ### statements -/
theorem s_asg {i : Nat} {k : α → Res ω} (h : EvX E K te σ I C m R) (s : St I C H) (hX : XH X E K I C) (hm : Post (m.bind k) Q X)
    (next : ∀ a v I2 H2, Ex I I2 → St I2 C H2 → R.r a v I2 C → Post (k a) Q X → tz D (σ.set i (some v)) H2) : tSeq (tAsg te (gName i)) tz D σ H :=
  h I C H (Ex.refl _) (Ex.refl _) s _ ((Post.bind hm).mono (fun a p v I2 H2 e2 s2 rv => next a v I2 H2 e2 s2 rv p) hX)
theorem s_asgG {g : TG} {P : α → L2.St → Hp → Hp → Prop} {k : α → Res ω} (hg : Tg K g R σ P) (h : EvX E K te σ I C m R) (s : St I C H) (hX : XH X E K I C) (hm : Post (m.bind k) Q X)
    (next : ∀ a σ2 I2 H2, Ex I I2 → St I2 C H2 → P a σ2 I2 C → Post (k a) Q X → tz D σ2 H2) : tSeq (tAsg te g) tz D σ H :=
  h I C H (Ex.refl _) (Ex.refl _) s _ ((Post.bind hm).mono (fun a p v I2 H2 e2 s2 rv => hg a v I2 C H2 _ s2 rv fun σ2 pa => next a σ2 I2 H2 e2 s2 pa p) hX)
theorem s_ret {k : α → Res ω} (h : EvX E K te σ I C m R) (s : St I C H) (hX : XH X E K I C) (hm : Post (m.bind k) Q X)
    (next : ∀ a v I2 H2, Ex I I2 → St I2 C H2 → R.r a v I2 C → Post (k a) Q X → D.rt v H2) : tSeq (tRet te) tz D σ H :=
  h I C H (Ex.refl _) (Ex.refl _) s _ ((Post.bind hm).mono (fun a p v I2 H2 e2 s2 rv => next a v I2 H2 e2 s2 rv p) hX)
theorem s_expr {k : α → Res ω} (h : EvX E K te σ I C m R) (s : St I C H) (hX : XH X E K I C) (hm : Post (m.bind k) Q X)
    (next : ∀ a I2 H2, Ex I I2 → St I2 C H2 → Post (k a) Q X → tz D σ H2) : tSeq (tDrop te) tz D σ H :=
  h I C H (Ex.refl _) (Ex.refl _) s _ ((Post.bind hm).mono (fun a p v I2 H2 e2 s2 rv => next a I2 H2 e2 s2 p) hX)
theorem s_if {c : Res Bool} {m1 m2 : Res ω} (h : EvT E K tt σ I C c) (s : St I C H) (hX : XH X E K I C) (hm : Post (ifR c m1 m2) Q X)
    (h1 : ∀ I2 H2, Ex I I2 → St I2 C H2 → Post m1 Q X → tu { D with nx := tz D } σ H2) (h2 : ∀ I2 H2, Ex I I2 → St I2 C H2 → Post m2 Q X → tw { D with nx := tz D } σ H2) : tSeq (tIfS tt tu tw) tz D σ H :=
  h I C H (Ex.refl _) (Ex.refl _) s _ ((Post.bind hm).mono (fun b p I2 H2 e2 s2 => by
    cases b with
    | true => exact h1 I2 H2 e2 s2 p
    | false => exact h2 I2 H2 e2 s2 p) hX)
/-- an if whose ways meet: the word P of what stands behind it -/
theorem s_ifj (P : S → L2.St → Hp → Hp → Prop) {c : Res Bool} {m1 m2 : Res S} {k : S → Res ω} (h : EvT E K tt σ I C c) (s : St I C H) (hX : XH X E K I C) (hm : Post ((ifR c m1 m2).bind k) Q X)
    (h1 : ∀ (N : L2.St → Hp → Prop) I2 H2, Ex I I2 → St I2 C H2 → Post m1 (fun s' => ∀ σ2 I3 C3 H3, Ex I I3 → St I3 C3 H3 → P s' σ2 I3 C3 → N σ2 H3) X → tu { D with nx := N } σ H2)
    (h2 : ∀ (N : L2.St → Hp → Prop) I2 H2, Ex I I2 → St I2 C H2 → Post m2 (fun s' => ∀ σ2 I3 C3 H3, Ex I I3 → St I3 C3 H3 → P s' σ2 I3 C3 → N σ2 H3) X → tw { D with nx := N } σ H2)
    (next : ∀ s' σ2 I3 C3 H3, Ex I I3 → St I3 C3 H3 → P s' σ2 I3 C3 → Post (k s') Q X → tz D σ2 H3) : Evl.tCut (tIfS tt tu tw) tz D σ H := by
  refine ⟨fun σ2 H3 => ∃ s' I3 C3, Ex I I3 ∧ St I3 C3 H3 ∧ P s' σ2 I3 C3 ∧ Post (k s') Q X, ?_, fun σ2 H3 ⟨s', I3, C3, e3, s3, p, q⟩ => next s' σ2 I3 C3 H3 e3 s3 p q⟩
  refine h I C H (Ex.refl _) (Ex.refl _) s _ ((Post.bind (Post.bind hm)).mono (fun b p I2 H2 e2 s2 => ?_) hX)
  cases b with
  | true => exact h1 _ I2 H2 e2 s2 (Post.mono (m := m1) p (fun s' z σ2 I3 C3 H3 e3 s3 pp => ⟨s', I3, C3, e3, s3, pp, z⟩) fun _ _ z => z)
  | false => exact h2 _ I2 H2 e2 s2 (Post.mono (m := m2) p (fun s' z σ2 I3 C3 H3 e3 s3 pp => ⟨s', I3, C3, e3, s3, pp, z⟩) fun _ _ z => z)
/-- the same, a way may return -/
theorem s_ifr (P : S → L2.St → Hp → Hp → Prop) {c : Res Bool} {m1 m2 : Res (Out S ρ)} {k : Out S ρ → Res ω} (h : EvT E K tt σ I C c) (s : St I C H) (hX : XH X E K I C) (hm : Post ((ifR c m1 m2).bind k) Q X)
    (h1 : ∀ (N : L2.St → Hp → Prop) I2 H2, Ex I I2 → St I2 C H2 → Post m1 (fun o => match o with
      | .nx s' => ∀ σ2 I3 C3 H3, Ex I I3 → St I3 C3 H3 → P s' σ2 I3 C3 → N σ2 H3
      | o => Post (k o) Q X) X → tu { D with nx := N } σ H2)
    (h2 : ∀ (N : L2.St → Hp → Prop) I2 H2, Ex I I2 → St I2 C H2 → Post m2 (fun o => match o with
      | .nx s' => ∀ σ2 I3 C3 H3, Ex I I3 → St I3 C3 H3 → P s' σ2 I3 C3 → N σ2 H3
      | o => Post (k o) Q X) X → tw { D with nx := N } σ H2)
    (next : ∀ s' σ2 I3 C3 H3, Ex I I3 → St I3 C3 H3 → P s' σ2 I3 C3 → Post (k (.nx s')) Q X → tz D σ2 H3) : Evl.tCut (tIfS tt tu tw) tz D σ H := by
  refine ⟨fun σ2 H3 => ∃ s' I3 C3, Ex I I3 ∧ St I3 C3 H3 ∧ P s' σ2 I3 C3 ∧ Post (k (.nx s')) Q X, ?_, fun σ2 H3 ⟨s', I3, C3, e3, s3, p, q⟩ => next s' σ2 I3 C3 H3 e3 s3 p q⟩
  refine h I C H (Ex.refl _) (Ex.refl _) s _ ((Post.bind (Post.bind hm)).mono (fun b p I2 H2 e2 s2 => ?_) hX)
  cases b with
  | true => exact h1 _ I2 H2 e2 s2 (Post.mono (m := m1) p (fun o z => by
      cases o with
      | nx s' => exact fun σ2 I3 C3 H3 e3 s3 pp => ⟨s', I3, C3, e3, s3, pp, z⟩
      | br s' => exact z
      | rt r => exact z) fun _ _ z => z)
  | false => exact h2 _ I2 H2 e2 s2 (Post.mono (m := m2) p (fun o z => by
      cases o with
      | nx s' => exact fun σ2 I3 C3 H3 e3 s3 pp => ⟨s', I3, C3, e3, s3, pp, z⟩
      | br s' => exact z
      | rt r => exact z) fun _ _ z => z)
/-! ### loops -/
theorem s_forN (P : S → L2.St → Hp → Hp → Prop) {wi : TI} {g : TG} {kp : Hp → Prop} {m : Res (List α)} {f : α → S → Res S} {s0 : S} {k : S → Res ω} (hi : EvI E K wi σ I C kp m R) (s : St I C H) (hX : XH X E K I C) (hm : Post ((m.bind fun xs => loopN f xs s0).bind k) Q X)
    (h0 : ∀ I2, Ex I I2 → P s0 σ I2 C) (hk : ∀ s' σ' I' C', P s' σ' I' C' → kp C') (hP : ∀ s' σ' I' I2 C', Ex I' I2 → P s' σ' I' C' → P s' σ' I2 C')
    (body : ∀ (N : L2.St → Hp → Prop) x v s' σ' I' C' H', Ex I I' → St I' C' H' → P s' σ' I' C' → R.r x v I' C' → Post (f x s') (fun s2 => ∀ σ2 I3 C3 H3, Ex I' I3 → St I3 C3 H3 → P s2 σ2 I3 C3 → N σ2 H3) X →
      g v σ' H' fun σ2 H2 => tu { D with nx := N, ct := N, bk := tz D } σ2 H2)
    (next : ∀ s' σ' I' C' H', Ex I I' → St I' C' H' → P s' σ' I' C' → Post (k s') Q X → tz D σ' H') : tSeq (tFor wi g tu) tz D σ H :=
  hi I C H (Ex.refl _) (Ex.refl _) s _ ((Post.bind (Post.bind hm)).mono (fun xs q2 J G Y I2 H2 e2 s2 hz w hG hY => by
    refine for_it w (fun i σ' H' => ∃ s' I' C', Ex I2 I' ∧ St I' C' H' ∧ P s' σ' I' C' ∧ Post ((loopN f (xs.drop i) s').bind k) Q X) ⟨s0, I2, C, Ex.refl _, s2, h0 I2 e2, by rw [List.drop_zero]; exact Post.of_bind q2⟩
      (fun i σ' H' hi ⟨s', I', C', e3, s3, p, _⟩ => hG I' C' H' e3 (hk _ _ _ _ p) s3) (fun i x σ' H1 H' hi ⟨s', I', C', e3, s3, p, po⟩ y => ?_) (fun σ' H' ⟨s', I', C', e3, s3, p, po⟩ => ?_)
    · obtain ⟨a, ha⟩ : ∃ a, xs[i]? = some a := ⟨xs[i], by simp [hi]⟩
      rw [drop_cons ha] at po
      obtain ⟨I4, e4, s4, ra⟩ := hY i a x I' C' H1 H' ha e3 (hk _ _ _ _ p) s3 y
      exact body _ a x s' σ' I4 C' H' (e2.trans (e3.trans e4)) s4 (hP _ _ _ _ _ e4 p) ra ((Post.bind (Post.bind po)).mono (fun s3 z σ2 I5 C5 H5 e5 s5 p5 => ⟨s3, I5, C5, e3.trans (e4.trans e5), s5, p5, Post.of_bind z⟩) fun _ _ z => z)
    · rw [List.drop_length] at po
      exact next s' σ' I' C' H' (e2.trans e3) s3 p po) hX)
/-- .. a turn may break or return -/
theorem s_forR (P : S → L2.St → Hp → Hp → Prop) {wi : TI} {g : TG} {kp : Hp → Prop} {m : Res (List α)} {f : α → S → Res (Out S ρ)} {s0 : S} {k : Out S ρ → Res ω} (hi : EvI E K wi σ I C kp m R) (s : St I C H) (hX : XH X E K I C) (hm : Post ((m.bind fun xs => loopR f xs s0).bind k) Q X)
    (h0 : ∀ I2, Ex I I2 → P s0 σ I2 C) (hk : ∀ s' σ' I' C', P s' σ' I' C' → kp C') (hP : ∀ s' σ' I' I2 C', Ex I' I2 → P s' σ' I' C' → P s' σ' I2 C')
    (body : ∀ (N : L2.St → Hp → Prop) x v s' σ' I' C' H', Ex I I' → St I' C' H' → P s' σ' I' C' → R.r x v I' C' → Post (f x s') (fun o => match o with
        | .nx s2 => ∀ σ2 I3 C3 H3, Ex I' I3 → St I3 C3 H3 → P s2 σ2 I3 C3 → N σ2 H3
        | .br s2 => ∀ σ2 I3 C3 H3, Ex I' I3 → St I3 C3 H3 → P s2 σ2 I3 C3 → tz D σ2 H3
        | .rt r => Post (k (.rt r)) Q X) X →
      g v σ' H' fun σ2 H2 => tu { D with nx := N, ct := N, bk := tz D } σ2 H2)
    (next : ∀ s' σ' I' C' H', Ex I I' → St I' C' H' → P s' σ' I' C' → Post (k (.nx s')) Q X → tz D σ' H') : tSeq (tFor wi g tu) tz D σ H :=
  hi I C H (Ex.refl _) (Ex.refl _) s _ ((Post.bind (Post.bind hm)).mono (fun xs q2 J G Y I2 H2 e2 s2 hz w hG hY => by
    refine for_it w (fun i σ' H' => ∃ s' I' C', Ex I2 I' ∧ St I' C' H' ∧ P s' σ' I' C' ∧ Post ((loopR f (xs.drop i) s').bind k) Q X) ⟨s0, I2, C, Ex.refl _, s2, h0 I2 e2, by rw [List.drop_zero]; exact Post.of_bind q2⟩
      (fun i σ' H' hi ⟨s', I', C', e3, s3, p, _⟩ => hG I' C' H' e3 (hk _ _ _ _ p) s3) (fun i x σ' H1 H' hi ⟨s', I', C', e3, s3, p, po⟩ y => ?_) (fun σ' H' ⟨s', I', C', e3, s3, p, po⟩ => ?_)
    · obtain ⟨a, ha⟩ : ∃ a, xs[i]? = some a := ⟨xs[i], by simp [hi]⟩
      rw [drop_cons ha] at po
      obtain ⟨I4, e4, s4, ra⟩ := hY i a x I' C' H1 H' ha e3 (hk _ _ _ _ p) s3 y
      refine body _ a x s' σ' I4 C' H' (e2.trans (e3.trans e4)) s4 (hP _ _ _ _ _ e4 p) ra ((Post.bind (Post.bind po)).mono (fun o z => ?_) fun _ _ z => z)
      cases o with
      | nx s3 => exact fun σ2 I5 C5 H5 e5 s5 p5 => ⟨s3, I5, C5, e3.trans (e4.trans e5), s5, p5, Post.of_bind z⟩
      | br s3 => exact fun σ2 I5 C5 H5 e5 s5 p5 => next s3 σ2 I5 C5 H5 (e2.trans (e3.trans (e4.trans e5))) s5 p5 z
      | rt r => exact z
    · rw [List.drop_length] at po
      exact next s' σ' I' C' H' (e2.trans e3) s3 p po) hX)
theorem s_while (P : S → L2.St → Hp → Hp → Prop) {n : Nat} {c : S → Res Bool} {f : S → Res (Out S ρ)} {s0 : S} {k : Out S ρ → Res ω} (s : St I C H) (hm : Post ((whileF c f n s0).bind k) Q X)
    (h0 : P s0 σ I C)
    (cond : ∀ s' σ' I' C', Ex I I' → P s' σ' I' C' → EvT E K tt σ' I' C' (c s') ∧ XH X E K I' C') (hP : ∀ s' σ' I' I2 C', Ex I' I2 → P s' σ' I' C' → P s' σ' I2 C')
    (body : ∀ (N : L2.St → Hp → Prop) s' σ' I' C' H', Ex I I' → St I' C' H' → P s' σ' I' C' → Post (f s') (fun o => match o with
        | .nx s2 => ∀ σ2 I3 C3 H3, Ex I' I3 → St I3 C3 H3 → P s2 σ2 I3 C3 → N σ2 H3
        | .br s2 => ∀ σ2 I3 C3 H3, Ex I' I3 → St I3 C3 H3 → P s2 σ2 I3 C3 → tz D σ2 H3
        | .rt r => Post (k (.rt r)) Q X) X → tu { D with nx := N, ct := N, bk := tz D } σ' H')
    (next : ∀ s' σ' I' C' H', Ex I I' → St I' C' H' → P s' σ' I' C' → Post (k (.nx s')) Q X → tz D σ' H') : tSeq (tWhile tt tu) tz D σ H := by
  refine ⟨fun n σ' H' => ∃ s' I' C', Ex I I' ∧ St I' C' H' ∧ P s' σ' I' C' ∧ Post ((whileF c f n s').bind k) Q X, ⟨n, s0, I, C, Ex.refl _, s, h0, hm⟩, ?_⟩
  rintro n σ' H' ⟨s', I', C', e1, s1, p, po⟩
  cases n with
  | zero => exact po.elim
  | succ n =>
    obtain ⟨hc, hx⟩ := cond s' σ' I' C' e1 p
    refine hc I' C' H' (Ex.refl _) (Ex.refl _) s1 _ ((Post.bind (Post.bind po)).mono (fun b q I2 H2 e2 s2 => ?_) hx)
    cases b with
    | true =>
      refine ⟨fun σ2 H3 => ∃ s' I' C', Ex I I' ∧ St I' C' H3 ∧ P s' σ2 I' C' ∧ Post ((whileF c f n s').bind k) Q X, fun σ2 H3 z => ⟨n, Nat.lt_succ_self _, z⟩, ?_⟩
      refine body _ s' σ' I2 C' H2 (e1.trans e2) s2 (hP _ _ _ _ _ e2 p) ((Post.bind q).mono (fun o z => ?_) fun _ _ z => z)
      cases o with
      | nx s3 => exact fun σ2 I5 C5 H5 e5 s5 p5 => ⟨s3, I5, C5, e1.trans (e2.trans e5), s5, p5, Post.of_bind z⟩
      | br s3 => exact fun σ2 I5 C5 H5 e5 s5 p5 => next s3 σ2 I5 C5 H5 (e1.trans (e2.trans e5)) s5 p5 z
      | rt r => exact z
    | false => exact next s' σ' I2 C' H2 (e1.trans e2) s2 (hP _ _ _ _ _ e2 p) q
/-! ### cells -/
/-- xs = []  (xs will change) -/
theorem s_newL {i : Nat} (s : St I C H) (next : ∀ p H2, C p = none → H p = none → St I (upd C p (.lst [])) H2 → tz D (σ.set i (some (.ref p))) H2) : tSeq (tAsg (tLst tNil) (gName i)) tz D σ H :=
  ⟨Nat.zero_le _, fun p hp => next p _ (s.c.free hp) hp (s.newC hp)⟩
/-- xs = e, a new list of e's (xs will change) -/
theorem s_asgC {i : Nat} {k : List α → Res ω} {m : Res (List α)} {te : TE} (h : EvX E K te σ I C m (pL R)) (s : St I C H) (hX : XH X E K I C) (hm : Post (m.bind k) Q X)
    (fresh : True) (next : ∀ a v I2 H2, Ex I I2 → St I2 C H2 → (pL R).r a v I2 C → Post (k a) Q X → tz D (σ.set i (some v)) H2) : tSeq (tAsg te (gName i)) tz D σ H :=
  s_asg h s hX hm next
/-- xs.append(e) -/
@[irreducible] def push (xs : List α) (x : α) : Res (List α) := if xs.length < 1000000 then .ok (xs ++ [x]) else .bad
theorem push_ok {xs : List α} {x : α} (h : xs.length < 1000000) : push xs x = .ok (xs ++ [x]) := by
  unfold push
  exact if_pos h
theorem s_app {i : Nat} {p : Addr} {xs : List α} {vs : List V} {k : List α → Res ω} [Im R] {m : Res α} (hv : σ[i]? = some (some (.ref p))) (hc : C p = some (.lst vs)) (hr : A2 (fun x u => R.r x u I C) xs vs) (h : EvX E K te σ I C m R) (s : St I C H) (hX : XH X E K I C)
    (hm : Post ((m.bind fun x => push xs x).bind k) Q X)
    (next : ∀ ys vs' I2 H2, Ex I I2 → St I2 (upd C p (.lst vs')) H2 → vs'.length ≤ sizeLine → A2 (fun x u => R.r x u I2 (upd C p (.lst vs'))) ys vs' → Post (k ys) Q X → tz D σ H2) :
    tSeq (tDrop (tBM K "list" rAppend (tVar i) (tCons te tNil))) tz D σ H :=
  ⟨.ref p, hv, .inl ⟨rfl, vs, .inl (.inl (s.c p _ hc))⟩, h I C H (Ex.refl _) (Ex.refl _) s _ ((Post.bind (Post.bind hm)).mono (fun a po v I2 H2 e2 s2 rv => by
    unfold push at po
    split at po
    · rename_i hl
      have hn := hr.len
      have hl2 : vs.length < sizeLine := by
        rw [hn]
        exact Nat.lt_of_lt_of_le hl (by decide)
      refine ⟨p, vs, v, rfl, rfl, s2.c p _ hc, hl2, next (xs ++ [a]) (vs ++ [v]) I2 _ e2 (s2.set hc) (by rw [List.length_append]; exact hl2) ?_ po⟩
      exact (hr.imp fun _ _ h => R.to e2 h).append (.one (Im.im rv))
    · exact po.elim) hX)⟩
/-- xs[e1] = e2 -/
def setR (xs : List α) (i : Int) (x : α) : Res (List α) := match ixN xs.length i with
  | some j => .ok (xs.set j x)
  | none => .bad
theorem s_setL {i : Nat} {p : Addr} {xs : List α} {vs : List V} {k : List α → Res ω} [Im R] {ti : TE} {m : Res α} {mi : Res Int} (hv : σ[i]? = some (some (.ref p))) (hc : C p = some (.lst vs)) (hl : vs.length ≤ sizeLine) (hr : A2 (fun x u => R.r x u I C) xs vs)
    (h : EvX E K te σ I C m R) (hi : EvX E K ti σ I C mi pI) (s : St I C H) (hX : XH X E K I C) (hm : Post ((m.bind fun x => mi.bind fun j => setR xs j x).bind k) Q X)
    (next : ∀ ys vs' I2 H2, Ex I I2 → St I2 (upd C p (.lst vs')) H2 → vs'.length ≤ sizeLine → A2 (fun x u => R.r x u I2 (upd C p (.lst vs'))) ys vs' → Post (k ys) Q X → tz D σ H2) :
    tSeq (tAsg te (gSub (tVar i) ti rSetL)) tz D σ H :=
  h I C H (Ex.refl _) (Ex.refl _) s _ ((Post.bind (Post.bind hm)).mono (fun a po v I2 H2 e2 s2 rv => by
    refine ⟨.ref p, hv, hi I2 C H2 e2 (Ex.refl _) s2 _ ((Post.bind po).mono (fun j po2 w I3 H3 e3 s3 rw => ?_) fun c i z => (hX c i z).mono e2 (Ex.refl _))⟩
    have hw : w = .int j := rw
    subst hw
    unfold setR at po2
    have hn := hr.len
    cases hj : ixN xs.length j with
    | none =>
      rw [hj] at po2
      exact po2.elim
    | some l =>
      rw [hj] at po2
      refine ⟨p, vs, j, l, rfl, rfl, s3.c p _ hc, by rw [hn]; exact hj, next (xs.set l a) (vs.set l v) I3 _ (e2.trans e3) (s3.set hc) (by rw [List.length_set]; exact hl) ?_ po2⟩
      exact A2.set (Im.im (R.mono e3 (Ex.refl _) rv)) l (hr.imp fun _ _ h => R.to (e2.trans e3) h)) hX)
end
end Sd

namespace Sd
open PySem L2
/-! ### what draws from the pool (the list at p, its places M) -/
def off (C : Hp) (p : Addr) : Hp := fun a => if a = p then none else C a
theorem off_same {C : Hp} {p : Addr} : off C p p = none := if_pos rfl
theorem off_ne {C : Hp} {p q : Addr} (h : q ≠ p) : off C p q = C q := if_neg h
theorem off_ex {C : Hp} {p : Addr} : Ex (off C p) C := fun a o h => by
  unfold off at h
  split at h
  · cases h
  · exact h
theorem off_upd {C : Hp} {p : Addr} {o : HO} : Ex (off C p) (upd C p o) := fun a u h => by
  unfold off at h
  split at h
  · cases h
  · rename_i hne
    rw [upd_ne hne]
    exact h
theorem Ex.over {C C1 : Hp} {p : Addr} {o : HO} (h : Ex C C1) (hp : C p = none) : Ex C (upd C1 p o) := fun a u e => by
  rw [upd_ne (ne_of_none e hp)]
  exact h a u e
theorem upd_id {C : Hp} {p : Addr} {o : HO} (h : C p = some o) : upd C p o = C := by
  funext a
  by_cases q : a = p
  · rw [q, upd_same, h]
  · exact upd_ne q
def EvM (E : XK) (K : PySem.W.Frag) (p : Addr) {μ : Type} (M : Rt μ) (te : TE) (σ : L2.St) (I Cp : Hp) {β : Type} (m : μ → Res (β × μ)) (R : Rp β) : Prop :=
  ∀ x ws I1 C1 H1, Ex I I1 → Ex Cp C1 → St I1 C1 H1 → C1 p = some (.lst ws) → M.r x ws I1 C1 → ∀ Q : VK, Post (m x) (fun b => ∀ v ws' I2 H2, Ex I1 I2 → St I2 (upd C1 p (.lst ws')) H2 → M.r b.2 ws' I2 (upd C1 p (.lst ws')) → R.r b.1 v I2 (upd C1 p (.lst ws')) → Q v H2) (fun _ _ => False) → te σ H1 Q
def EvTM (E : XK) (K : PySem.W.Frag) (p : Addr) {μ : Type} (M : Rt μ) (tt : TT) (σ : L2.St) (I Cp : Hp) (m : μ → Res (Bool × μ)) : Prop :=
  ∀ x ws I1 C1 H1, Ex I I1 → Ex Cp C1 → St I1 C1 H1 → C1 p = some (.lst ws) → M.r x ws I1 C1 → ∀ Q : Bool → Hp → Prop, Post (m x) (fun b => ∀ ws' I2 H2, Ex I1 I2 → St I2 (upd C1 p (.lst ws')) H2 → M.r b.2 ws' I2 (upd C1 p (.lst ws')) → Q b.1 H2) (fun _ _ => False) → tt σ H1 Q
def EvAM (E : XK) (K : PySem.W.Frag) (p : Addr) {μ : Type} (M : Rt μ) (ta : TA) (σ : L2.St) (I Cp : Hp) {α : Type} (m : μ → Res (α × μ)) (T : Rt α) : Prop :=
  ∀ x ws I1 C1 H1, Ex I I1 → Ex Cp C1 → St I1 C1 H1 → C1 p = some (.lst ws) → M.r x ws I1 C1 → ∀ Q : List V → Hp → Prop, Post (m x) (fun b => ∀ vs ws' I2 H2, Ex I1 I2 → St I2 (upd C1 p (.lst ws')) H2 → M.r b.2 ws' I2 (upd C1 p (.lst ws')) → T.r b.1 vs I2 (upd C1 p (.lst ws')) → Q vs H2) (fun _ _ => False) → ta σ H1 Q
def EvIM (E : XK) (K : PySem.W.Frag) (p : Addr) {μ : Type} (M : Rt μ) (wi : TI) (σ : L2.St) (I Cp : Hp) {α : Type} (m : μ → Res (List α × μ)) (R : Rp α) : Prop :=
  ∀ x ws I1 C1 H1, Ex I I1 → Ex Cp C1 → St I1 C1 H1 → C1 p = some (.lst ws) → M.r x ws I1 C1 → ∀ Kt : L2.It → Hp → Prop, Post (m x) (fun b => ∀ ws' J G Y I2 H2, Ex I1 I2 → St I2 (upd C1 p (.lst ws')) H2 → M.r b.2 ws' I2 (upd C1 p (.lst ws')) → b.1.length ≤ sizeLine → Walk J b.1.length G Y →
    (∀ I3 C3 H3, Ex I2 I3 → St I3 C3 H3 → G H3) →
    (∀ i x v I3 C3 H3 H4, b.1[i]? = some x → Ex I2 I3 → St I3 C3 H3 → Y i H3 v H4 → ∃ I4, Ex I3 I4 ∧ St I4 C3 H4 ∧ R.r x v I4 C3) → Kt J H2) (fun _ _ => False) → wi σ H1 Kt
section
variable {μ α β γ : Type}
def liftM (m : Res α) : μ → Res (α × μ) := fun x => m.bind fun a => .ok (a, x)
def unM (f : α → Res γ) (m : μ → Res (α × μ)) : μ → Res (γ × μ) := fun x => (m x).bind fun b => (f b.1).bind fun c => .ok (c, b.2)
def binM (f : α → β → Res γ) (m : μ → Res (α × μ)) (n : μ → Res (β × μ)) : μ → Res (γ × μ) := fun x => (m x).bind fun b => (n b.2).bind fun d => (f b.1 d.1).bind fun c => .ok (c, d.2)
def pairM (m : μ → Res (α × μ)) (n : μ → Res (β × μ)) : μ → Res ((α × β) × μ) := fun x => (m x).bind fun b => (n b.2).bind fun d => .ok ((b.1, d.1), d.2)
def consM (m : μ → Res (α × μ)) (n : μ → Res (List α × μ)) : μ → Res (List α × μ) := fun x => (m x).bind fun b => (n b.2).bind fun d => .ok (b.1 :: d.1, d.2)
def callM (f : α → μ → Res (β × μ)) (m : μ → Res (α × μ)) : μ → Res (β × μ) := fun x => (m x).bind fun b => f b.1 b.2
def andM (m n : μ → Res (Bool × μ)) : μ → Res (Bool × μ) := fun x => (m x).bind fun b => if b.1 = true then n b.2 else .ok (false, b.2)
def orM (m n : μ → Res (Bool × μ)) : μ → Res (Bool × μ) := fun x => (m x).bind fun b => if b.1 = true then .ok (true, b.2) else n b.2
def ifM (c : μ → Res (Bool × μ)) (m n : μ → Res (α × μ)) : μ → Res (α × μ) := fun x => (c x).bind fun b => if b.1 = true then m b.2 else n b.2
@[simp] theorem liftM_ok (a : α) (x : μ) : liftM (.ok a) x = .ok (a, x) := rfl
theorem liftM_eq (m : Res α) (x : μ) : liftM m x = m.bind fun a => .ok (a, x) := rfl
end
section
variable {E : XK} {K : PySem.W.Frag} {p : Addr} {μ : Type} {M : Rt μ} {σ : L2.St} {I Cp : Hp} {α β γ : Type} {R : Rp α} {S : Rp β} {T : Rp γ} {te ta tb : TE} {tt tu : TT} {m : μ → Res (α × μ)} {n : μ → Res (β × μ)}
theorem m_pure {m : Res α} (h : EvX E K te σ I Cp m R) : EvM E K p M te σ I Cp (liftM m) R := fun x ws I1 C1 H1 e e' s hc hx Q q =>
  h I1 C1 H1 e e' s Q ((Post.bind q).mono (fun a z v I2 H2 e2 s2 rv => by
    have z2 := z v ws I2 H2 e2
    rw [upd_id hc] at z2
    exact z2 s2 (M.mono e2 (Ex.refl _) hx) rv) fun _ _ z => z.elim)
theorem m_un [It M] {r : V → Hp → VK → Prop} {f : α → Res γ} (hr : ∀ E, Op1 E K r f R T) (hp : Cp p = none) (h : EvM E K p M ta σ I Cp m R) : EvM E K p M (tUn r ta) σ I Cp (unM f m) T := fun x ws I1 C1 H1 e e' s hc hx Q q =>
  h x ws I1 C1 H1 e e' s hc hx _ ((Post.bind q).mono (fun b z v ws' I2 H2 e2 s2 hx2 rv => hr E I2 _ H2 b.1 v s2 rv Q ((Post.bind z).mono (fun c z w I3 H3 e3 s3 rw => z w ws' I3 H3 (e2.trans e3) s3 (M.mono e3 (Ex.refl _) hx2) rw) fun _ _ z => z.elim)) fun _ _ z => z)
theorem m_op [It M] [Im R] {r : R2} {f : α → β → Res γ} (hr : ∀ E, Op2 E K r f R S T) (hp : Cp p = none) (h1 : EvM E K p M ta σ I Cp m R) (h2 : EvM E K p M tb σ I Cp n S) : EvM E K p M (tOp r ta tb) σ I Cp (binM f m n) T := fun x ws I1 C1 H1 e e' s hc hx Q q =>
  h1 x ws I1 C1 H1 e e' s hc hx _ ((Post.bind q).mono (fun b z v ws' I2 H2 e2 s2 hx2 rv =>
    h2 b.2 ws' I2 _ H2 (e.trans e2) (e'.over hp) s2 upd_same hx2 _ ((Post.bind z).mono (fun d z2 w ws2 I3 H3 e3 s3 hx3 rw => by
      rw [upd_upd] at s3 hx3 rw
      exact hr E I3 _ H3 b.1 d.1 v w s3 (R.to e3 rv) rw Q ((Post.bind z2).mono (fun c z3 w I4 H4 e4 s4 rw => z3 w ws2 I4 H4 (e2.trans (e3.trans e4)) s4 (M.mono e4 (Ex.refl _) hx3) rw) fun _ _ z => z.elim)) fun _ _ z => z)) fun _ _ z => z)
theorem m_k [It M] {r : R2} {f : α → Res γ} {k : Int} (hr : ∀ E, Op1 E K (fun x H Q => r x (.int k) H Q) f R T) (hp : Cp p = none) (h : EvM E K p M te σ I Cp m R) : EvM E K p M (tOp r te (tC (.int k))) σ I Cp (unM f m) T :=
  fun x ws I1 C1 H1 e e' s hc hx Q q => m_un (r := fun x H Q => r x (.int k) H Q) hr hp h x ws I1 C1 H1 e e' s hc hx Q q
theorem am_one (h : EvM E K p M te σ I Cp m R) : EvAM E K p M (tCons te tNil) σ I Cp m (t1 R) := fun x ws I1 C1 H1 e e' s hc hx Q q =>
  h x ws I1 C1 H1 e e' s hc hx _ (q.mono (fun b z v ws' I2 H2 e2 s2 hx2 rv => z [v] ws' I2 H2 e2 s2 hx2 ⟨v, rfl, rv⟩) fun _ _ z => z)
theorem am_cons [Im R] {tr : TA} {A : Rt β} (hp : Cp p = none) (h1 : EvM E K p M te σ I Cp m R) (h2 : EvAM E K p M tr σ I Cp n A) : EvAM E K p M (tCons te tr) σ I Cp (pairM m n) (tc R A) := fun x ws I1 C1 H1 e e' s hc hx Q q =>
  h1 x ws I1 C1 H1 e e' s hc hx _ ((Post.bind q).mono (fun b z v ws' I2 H2 e2 s2 hx2 rv =>
    h2 b.2 ws' I2 _ H2 (e.trans e2) (e'.over hp) s2 upd_same hx2 _ ((Post.bind z).mono (fun d z2 vs ws2 I3 H3 e3 s3 hx3 rw => by
      rw [upd_upd] at s3 hx3 rw
      exact z2 (v :: vs) ws2 I3 H3 (e2.trans e3) s3 hx3 ⟨v, vs, rfl, R.to e3 rv, rw⟩) fun _ _ z => z)) fun _ _ z => z)
/-- a name's value, whatever the draws change -/
theorem am_var {tr : TA} {A : Rt β} {i : Nat} {v : V} {a : α} (hv : σ[i]? = some (some v)) (r : R.r a v I Cp) (hp : Cp p = none) (h2 : EvAM E K p M tr σ I Cp n A) : EvAM E K p M (tCons (tVar i) tr) σ I Cp (pairM (liftM (.ok a)) n) (tc R A) := fun x ws I1 C1 H1 e e' s hc hx Q q =>
  ⟨v, hv, h2 x ws I1 C1 H1 e e' s hc hx _ ((Post.bind (m := n x) (k := fun d => .ok ((a, d.1), d.2)) q).mono (fun d z2 vs ws2 I3 H3 e3 s3 hx3 rw => z2 (v :: vs) ws2 I3 H3 e3 s3 hx3 ⟨v, vs, rfl, R.mono (e.trans e3) (e'.over hp) r, rw⟩) fun _ _ z => z)⟩
theorem am_var1 {i : Nat} {v : V} {a : α} (hv : σ[i]? = some (some v)) (r : R.r a v I Cp) : EvAM E K p M (tCons (tVar i) tNil) σ I Cp (liftM (.ok a) : μ → Res (α × μ)) (t1 R) := am_one (m_pure (x_var hv r))
theorem am_pure {tr : TA} {A : Rt α} {m : Res α} (h : EvA E K tr σ I Cp m A) : EvAM E K p M tr σ I Cp (liftM m) A := fun x ws I1 C1 H1 e e' s hc hx Q q =>
  h I1 C1 H1 e e' s Q ((Post.bind q).mono (fun a z v I2 H2 e2 s2 rv => by
    have z2 := z v ws I2 H2 e2
    rw [upd_id hc] at z2
    exact z2 s2 (M.mono e2 (Ex.refl _) hx) rv) fun _ _ z => z.elim)
theorem alm_nil : EvAM E K p M tNil σ I Cp (liftM (.ok ([] : List α)) : μ → Res (List α × μ)) (tL R 0) := am_pure al_nil
theorem alm_cons [Im R] {tr : TA} {k : Nat} {n : μ → Res (List α × μ)} (hp : Cp p = none) (h1 : EvM E K p M te σ I Cp m R) (h2 : EvAM E K p M tr σ I Cp n (tL R k)) : EvAM E K p M (tCons te tr) σ I Cp (consM m n) (tL R (k + 1)) := fun x ws I1 C1 H1 e e' s hc hx Q q =>
  h1 x ws I1 C1 H1 e e' s hc hx _ ((Post.bind q).mono (fun b z v ws' I2 H2 e2 s2 hx2 rv =>
    h2 b.2 ws' I2 _ H2 (e.trans e2) (e'.over hp) s2 upd_same hx2 _ ((Post.bind z).mono (fun d z2 vs ws2 I3 H3 e3 s3 hx3 rw => by
      rw [upd_upd] at s3 hx3 rw
      exact z2 (v :: vs) ws2 I3 H3 (e2.trans e3) s3 hx3 ⟨by rw [List.length_cons, rw.1], .cons (R.to e3 rv) rw.2⟩) fun _ _ z => z)) fun _ _ z => z)
theorem m_lst [It M] {tr : TA} {k : Nat} {m : μ → Res (List α × μ)} (h : EvAM E K p M tr σ I Cp m (tL R k)) (hn : k ≤ 100) : EvM E K p M (tLst tr) σ I Cp m (pL R) := fun x ws I1 C1 H1 e e' s hc hx Q q =>
  h x ws I1 C1 H1 e e' s hc hx _ (q.mono (fun b z vs ws' I2 H2 e2 s2 hx2 rv => by
    have hl : vs.length ≤ sizeLine := by
      rw [rv.1]
      exact Nat.le_trans hn (by decide)
    refine ⟨hl, fun t ht => z (.ref t) ws' (upd I2 t (.lst vs)) _ (e2.trans (Ex.new (s2.i.free ht))) (s2.newI ht) (M.mono (Ex.new (s2.i.free ht)) (Ex.refl _) hx2) ⟨t, vs, rfl, upd_same, hl, rv.2.imp fun _ _ => R.mono (Ex.new (s2.i.free ht)) (Ex.refl _)⟩⟩) fun _ _ z => z)
theorem m_tup [It M] {tr : TA} {A : Rt α} (h : EvAM E K p M tr σ I Cp m A) (hn : A.n ≤ 100) : EvM E K p M (tTup tr) σ I Cp m (pT A) := fun x ws I1 C1 H1 e e' s hc hx Q q =>
  h x ws I1 C1 H1 e e' s hc hx _ (q.mono (fun b z vs ws' I2 H2 e2 s2 hx2 rv => ⟨by rw [A.len rv]; exact Nat.le_trans hn (by decide), fun t ht => z (.ref t) ws' (upd I2 t (.tup vs)) _ (e2.trans (Ex.new (s2.i.free ht))) (s2.newI ht) (M.mono (Ex.new (s2.i.free ht)) (Ex.refl _) hx2) ⟨t, vs, rfl, upd_same, A.mono (Ex.new (s2.i.free ht)) (Ex.refl _) rv⟩⟩) fun _ _ z => z)
theorem m_lstD [It M] {tr : TA} {A : Rt α} (h : EvAM E K p M tr σ I Cp m A) (hn : A.n ≤ 100) : EvM E K p M (tLst tr) σ I Cp m (pD A) := fun x ws I1 C1 H1 e e' s hc hx Q q =>
  h x ws I1 C1 H1 e e' s hc hx _ (q.mono (fun b z vs ws' I2 H2 e2 s2 hx2 rv => ⟨by rw [A.len rv]; exact Nat.le_trans hn (by decide), fun t ht => z (.ref t) ws' (upd I2 t (.lst vs)) _ (e2.trans (Ex.new (s2.i.free ht))) (s2.newI ht) (M.mono (Ex.new (s2.i.free ht)) (Ex.refl _) hx2) ⟨t, vs, rfl, upd_same, A.mono (Ex.new (s2.i.free ht)) (Ex.refl _) rv⟩⟩) fun _ _ z => z)
theorem m_cb [It M] {r : List V → Hp → VK → Prop} {f : α → Res γ} {A : Rt α} {tr : TA} (hr : ∀ E, OpL E K r f A T) (h : EvAM E K p M tr σ I Cp m A) : EvM E K p M (tCB r tr) σ I Cp (unM f m) T := fun x ws I1 C1 H1 e e' s hc hx Q q =>
  h x ws I1 C1 H1 e e' s hc hx _ ((Post.bind q).mono (fun b z vs ws' I2 H2 e2 s2 hx2 rv => hr E I2 _ H2 b.1 vs s2 rv Q ((Post.bind z).mono (fun c z w I3 H3 e3 s3 rw => z w ws' I3 H3 (e2.trans e3) s3 (M.mono e3 (Ex.refl _) hx2) rw) fun _ _ z => z.elim)) fun _ _ z => z)
/-- f(a ..), f a def that draws nothing -/
theorem m_callP [It M] {A : Rt α} {f : α → Res γ} {tr : TA} (h : EvAM E K p M tr σ I Cp m A) : EvM E K p M (tCall (spP K A f T) [] E tr) σ I Cp (unM f m) T := fun x ws I1 C1 H1 e e' s hc hx Q q =>
  h x ws I1 C1 H1 e e' s hc hx _ ((Post.bind q).mono (fun b z vs ws' I2 H2 e2 s2 hx2 rv => by
    refine ⟨I2, _, b.1, s2, by rw [List.append_nil]; exact rv, (Post.bind z).mono (fun c z w I3 H3 e3 s3 rw => z w ws' I3 H3 (e2.trans e3) s3 (M.mono e3 (Ex.refl _) hx2) rw) fun _ _ z => z.elim⟩) fun _ _ z => z)
/-- f(pool, a ..) -/
theorem m_callM {A : Rt α} {f : α → μ → Res (β × μ)} {tr : TA} {i : Nat} (hv : σ[i]? = some (some (.ref p))) (h : EvAM E K p M tr σ I Cp m A) : EvM E K p M (tCall (spM M A f S) [] E (tCons (tVar i) tr)) σ I Cp (callM f m) S := fun x ws I1 C1 H1 e e' s hc hx Q q =>
  ⟨.ref p, hv, h x ws I1 C1 H1 e e' s hc hx _ ((Post.bind q).mono (fun b z vs ws' I2 H2 e2 s2 hx2 rv => by
    refine ⟨I2, _, p, ws', vs, b.2, b.1, by rw [List.append_nil], s2, upd_same, hx2, rv, Post.mono (m := f b.1 b.2) z (fun c z w ws2 I3 H3 e3 s3 hx3 rw => ?_) fun _ _ z => z⟩
    rw [upd_upd] at s3 hx3 rw
    exact z w ws2 I3 H3 (e2.trans e3) s3 hx3 rw) fun _ _ z => z)⟩
theorem m_callM0 {f : Unit → μ → Res (β × μ)} {i : Nat} (hv : σ[i]? = some (some (.ref p))) : EvM E K p M (tCall (spM M (⟨fun _ vs _ _ => vs = [], fun _ _ h => h, 0, fun h => by rw [h]; rfl⟩ : Rt Unit) f S) [] E (tCons (tVar i) tNil)) σ I Cp (fun x => f () x) S := fun x ws I1 C1 H1 e e' s hc hx Q q =>
  ⟨.ref p, hv, I1, C1, p, ws, [], x, (), rfl, s, hc, hx, rfl, q⟩
theorem tm_pure {m : Res Bool} (h : EvT E K tt σ I Cp m) : EvTM E K p M tt σ I Cp (liftM m) := fun x ws I1 C1 H1 e e' s hc hx Q q =>
  h I1 C1 H1 e e' s Q ((Post.bind q).mono (fun a z I2 H2 e2 s2 => by
    have z2 := z ws I2 H2 e2
    rw [upd_id hc] at z2
    exact z2 s2 (M.mono e2 (Ex.refl _) hx)) fun _ _ z => z.elim)
theorem tm_test {m : μ → Res (Bool × μ)} (h : EvM E K p M te σ I Cp m pB) : EvTM E K p M (tTest te) σ I Cp m := fun x ws I1 C1 H1 e e' s hc hx Q q => h x ws I1 C1 H1 e e' s hc hx _ (q.mono (fun b z v ws' I2 H2 e2 s2 hx2 rv => ⟨b.1, rv, z ws' I2 H2 e2 s2 hx2⟩) fun _ _ z => z)
theorem tm_B {m : μ → Res (Bool × μ)} (h : EvM E K p M te σ I Cp m pB) : EvTM E K p M (tB te) σ I Cp m := fun x ws I1 C1 H1 e e' s hc hx Q q => h x ws I1 C1 H1 e e' s hc hx _ (q.mono (fun b z v ws' I2 H2 e2 s2 hx2 rv => ⟨b.1, rv, z ws' I2 H2 e2 s2 hx2⟩) fun _ _ z => z)
theorem tm_and {m n : μ → Res (Bool × μ)} (hp : Cp p = none) (h1 : EvTM E K p M tt σ I Cp m) (h2 : EvTM E K p M tu σ I Cp n) : EvTM E K p M (tAnd tt tu) σ I Cp (andM m n) := fun x ws I1 C1 H1 e e' s hc hx Q q =>
  h1 x ws I1 C1 H1 e e' s hc hx _ ((Post.bind q).mono (fun b z ws' I2 H2 e2 s2 hx2 => by
    obtain ⟨c, y⟩ := b
    cases c with
    | true => exact h2 y ws' I2 _ H2 (e.trans e2) (e'.over hp) s2 upd_same hx2 Q (Post.mono (m := n y) z (fun b z ws2 I3 H3 e3 s3 hx3 => by
        rw [upd_upd] at s3 hx3
        exact z ws2 I3 H3 (e2.trans e3) s3 hx3) fun _ _ z => z)
    | false => exact z ws' I2 H2 e2 s2 hx2) fun _ _ z => z)
theorem tm_or {m n : μ → Res (Bool × μ)} (hp : Cp p = none) (h1 : EvTM E K p M tt σ I Cp m) (h2 : EvTM E K p M tu σ I Cp n) : EvTM E K p M (tOr tt tu) σ I Cp (orM m n) := fun x ws I1 C1 H1 e e' s hc hx Q q =>
  h1 x ws I1 C1 H1 e e' s hc hx _ ((Post.bind q).mono (fun b z ws' I2 H2 e2 s2 hx2 => by
    obtain ⟨c, y⟩ := b
    cases c with
    | false => exact h2 y ws' I2 _ H2 (e.trans e2) (e'.over hp) s2 upd_same hx2 Q (Post.mono (m := n y) z (fun b z ws2 I3 H3 e3 s3 hx3 => by
        rw [upd_upd] at s3 hx3
        exact z ws2 I3 H3 (e2.trans e3) s3 hx3) fun _ _ z => z)
    | true => exact z ws' I2 H2 e2 s2 hx2) fun _ _ z => z)
theorem tm_not {m : μ → Res (Bool × μ)} (h : EvTM E K p M tt σ I Cp m) : EvTM E K p M (tNot tt) σ I Cp (unM notR m) := fun x ws I1 C1 H1 e e' s hc hx Q q =>
  h x ws I1 C1 H1 e e' s hc hx _ ((Post.bind q).mono (fun b z ws' I2 H2 e2 s2 hx2 => z ws' I2 H2 e2 s2 hx2) fun _ _ z => z)
/-! sources -/
theorem im_pure {wi : TI} {m : Res (List α)} (h : EvI E K wi σ I Cp kpT m R) : EvIM E K p M wi σ I Cp (liftM m) R := fun x ws I1 C1 H1 e e' s hc hx Q q =>
  h I1 C1 H1 e e' s Q ((Post.bind q).mono (fun a z J G Y I2 H2 e2 s2 hz w hG hY => by
    have z2 := z ws J G Y I2 H2 e2
    rw [upd_id hc] at z2
    exact z2 s2 (M.mono e2 (Ex.refl _) hx) hz w (fun I3 C3 H3 e3 s3 => hG I3 C3 H3 e3 trivial s3) (fun i x v I3 C3 H3 H4 hx e3 s3 y => hY i x v I3 C3 H3 H4 hx e3 trivial s3 y)) fun _ _ z => z.elim)
theorem im_rng1 [It M] {tr : TA} {m : μ → Res (Int × μ)} (h : EvAM E K p M tr σ I Cp m (t1 pI)) : EvIM E K p M (iRng1 tr) σ I Cp (unM rng1 m) pI := fun x ws I1 C1 H1 e e' s hc hx Q q =>
  h x ws I1 C1 H1 e e' s hc hx _ ((Post.bind q).mono (fun b z vs ws' I2 H2 e2 s2 hx2 ⟨v, hv, rv⟩ => by
    have z := Post.bind z
    unfold rng1 at z
    split at z
    · rename_i hn
      have hv1 : v = .int b.1 := rv
      subst hv hv1
      refine ⟨b.1, rfl, by omega, by omega, z ws' (Itr 0 b.1.toNat) (fun _ => True) (YFn fun i => .int (0 + i)) I2 H2 e2 s2 hx2 (by rw [rangeL_length]; exact Nat.le_trans (show (b.1 - 0).toNat ≤ 1000000 by omega) (by decide)) (by rw [rangeL_length, Int.sub_zero]; exact walk_range) (fun _ _ _ _ _ => trivial) (fun i x v' I3 C3 H3 H4 hx e3 s3 y => ?_)⟩
      obtain ⟨rfl, rfl⟩ := y
      rw [rangeL_get hx]
      exact ⟨I3, Ex.refl _, s3, rfl⟩
    · exact z.elim) fun _ _ z => z)
/-! ### comprehensions that draw -/
def mapM (f : α → μ → Res (β × μ)) : List α → μ → Res (List β × μ)
  | [], x => .ok ([], x)
  | a :: as, x => (f a x).bind fun b => (mapM f as b.2).bind fun c => .ok (b.1 :: c.1, c.2)
def LcM (p : Addr) (M : Rt μ) (S : Rp β) (I C : Hp) (D : Addr) (rest : μ → Res (List β × μ)) (W : List β × μ → Prop) (n : Nat) (H : Hp) : Prop :=
  ∃ (ys : List β) (vs ws : List V) (x : μ) (I' : Hp), Ex I I' ∧ St I' (upd (upd C p (.lst ws)) D (.lst vs)) H ∧ M.r x ws I' C ∧ vs.length ≤ n ∧ A2 (fun x u => S.r x u I' C) ys vs ∧ Post (rest x) (fun zs => W (ys ++ zs.1, zs.2)) (fun _ _ => False)
theorem m_lc [It M] [Im S] {wi : TI} {g : TG} {vs : List Nat} {m : μ → Res (List α × μ)} {f : α → μ → Res (β × μ)} {P : α → L2.St → Hp → Hp → Prop} (hp : Cp p = none) (hi : EvIM E K p M wi σ I Cp m R) (hg : Tg K g R (wipe σ vs) P)
    (hw : ∀ x σ2 I' C', P x σ2 I' C' → wipe σ2 vs = wipe σ vs)
    (hf : ∀ x σ2 I' C', Ex I I' → Ex Cp C' → P x σ2 I' C' → EvM EZ K p M te σ2 I' (off C' p) (f x) S) : EvM E K p M (tLc wi g tYes te vs) σ I Cp (fun x => (m x).bind fun b => mapM f b.1 b.2) (pL S) := fun x ws I1 C1 H1 e e' s hc hx Q q =>
  hi x ws I1 C1 H1 e e' s hc hx _ ((Post.bind q).mono (fun b q2 ws2 J G Y I2 H2 e2 s2 hx2 hz w hG hY D hD => by
    have cD2 : upd C1 p (.lst ws2) D = none := s2.c.free hD
    have hDp : D ≠ p := fun z => by
      rw [z, upd_same] at cD2
      cases cD2
    have cD : C1 D = none := by
      rw [upd_ne hDp] at cD2
      exact cD2
    refine lc_it w (fun i H => LcM p M S I2 C1 D (mapM f (b.1.drop i)) (fun c => ∀ v ws' I2 H2, Ex I1 I2 → St I2 (upd C1 p (.lst ws')) H2 → M.r c.2 ws' I2 (upd C1 p (.lst ws')) → (pL S).r c.1 v I2 (upd C1 p (.lst ws')) → Q v H2) i H) ⟨[], [], ws2, b.2, I2, Ex.refl _, s2.newC hD, It.im hx2, Nat.le_refl _, .nil, ?_⟩
      (fun i H hi ⟨_, _, _, _, I', e3, s3, _⟩ => hG I' _ H e3 s3) (fun i v H H' hi ⟨ys, us, ws3, x3, I', e3, s3, hx3, hn, r3, po⟩ y => ?_) (fun H ⟨ys, us, ws3, x3, I', e3, s3, hx3, hn, r3, po⟩ => ?_)
    · rw [List.drop_zero]
      exact q2
    · obtain ⟨a, ha⟩ : ∃ a, b.1[i]? = some a := ⟨b.1[i], by simp [hi]⟩
      rw [drop_cons ha] at po
      obtain ⟨I4, e4, s4, ra⟩ := hY i a v I' _ H H' ha e3 s3 y
      refine hg a v I4 _ H' _ s4 ra fun σ2 pa => ⟨hw _ _ _ _ pa, ?_⟩
      have eI : Ex I I4 := e.trans (e2.trans (e3.trans e4))
      have eC : Ex Cp (upd (upd C1 p (.lst ws3)) D (.lst us)) := (e'.over hp).trans (Ex.new (by rw [upd_ne hDp]; exact cD))
      have hcp : upd (upd C1 p (.lst ws3)) D (.lst us) p = some (.lst ws3) := by rw [upd_ne hDp.symm, upd_same]
      show te σ2 H' _
      refine hf a σ2 I4 _ eI eC pa x3 ws3 I4 _ H' (Ex.refl _) off_ex s4 hcp (It.im (M.mono e4 (Ex.refl _) hx3)) _ ((Post.bind po).mono (fun c po2 v2 ws4 I6 H6 e6 s6 hx6 rv => ?_) fun _ _ z => z)
      have hswap : upd (upd (upd C1 p (.lst ws3)) D (.lst us)) p (.lst ws4) = upd (upd C1 p (.lst ws4)) D (.lst us) := by
        funext a
        by_cases h1 : a = p
        · rw [h1, upd_same, upd_ne hDp.symm, upd_same]
        · rw [upd_ne h1]
          by_cases h2 : a = D
          · rw [h2, upd_same, upd_same]
          · rw [upd_ne h2, upd_ne h2, upd_ne h1, upd_ne h1]
      rw [hswap] at s6 hx6 rv
      have hsz : us.length < sizeLine := Nat.lt_of_le_of_lt hn (Nat.lt_of_lt_of_le hi hz)
      refine ⟨us, s6.c D _ upd_same, hsz, ⟨ys ++ [c.1], us ++ [v2], ws4, c.2, I6, e3.trans (e4.trans e6), ?_, It.im hx6, by rw [List.length_append]; exact Nat.succ_le_succ hn, ?_, ?_⟩⟩
      · have z := s6.set (o := .lst (us ++ [v2])) (p := D) upd_same
        rw [upd_upd] at z
        exact z
      · exact (r3.imp fun _ _ => S.mono (e4.trans e6) (Ex.refl _)).append (.one (Im.im rv))
      · refine (Post.bind po2).mono (fun zs z => ?_) fun _ _ z => z
        show ∀ v ws' I2 H2, Ex I1 I2 → St I2 (upd C1 p (.lst ws')) H2 → M.r zs.2 ws' I2 (upd C1 p (.lst ws')) → (pL S).r (ys ++ [c.1] ++ zs.1) v I2 (upd C1 p (.lst ws')) → Q v H2
        rw [List.append_assoc]
        exact z
    · rw [List.drop_length] at po
      have po2 : ∀ v ws' I2 H2, Ex I1 I2 → St I2 (upd C1 p (.lst ws')) H2 → M.r x3 ws' I2 (upd C1 p (.lst ws')) → (pL S).r (ys ++ []) v I2 (upd C1 p (.lst ws')) → Q v H2 := po
      rw [List.append_nil] at po2
      have sf := s3.frz (p := D) upd_same
      have iD : I' D = none := s3.freeI upd_same
      refine po2 (.ref D) ws3 (upd I' D (.lst us)) H (e2.trans (e3.trans (Ex.new iD))) (sf.less fun a o ha => ?_) (It.im (M.mono (Ex.new iD) (Ex.refl _) hx3)) ⟨D, us, rfl, upd_same, Nat.le_trans hn hz, r3.imp fun _ _ h => Im.im (S.mono (Ex.new iD) (Ex.refl _) h)⟩
      have hne : a ≠ D := fun z => by
        rw [z, upd_ne hDp, cD] at ha
        cases ha
      show (if a = D then none else upd (upd C1 p (.lst ws3)) D (.lst us) a) = some o
      rw [if_neg hne, upd_ne hne]
      exact ha) fun _ _ z => z)
end
section
variable {E : XK} {K : PySem.W.Frag} {p : Addr} {μ : Type} {M : Rt μ} {σ : L2.St} {I C H : Hp} {α β ω S ρ : Type} {R : Rp α} {te : TE} {tt : TT} {tz tu tw : TS} {D : Ends} {m : μ → Res (α × μ)} {Q : ω → Prop} {x : μ} {ws : List V}
abbrev XF : Ec → Int → Prop := fun _ _ => False
theorem sm_asg {i : Nat} {k : α × μ → Res ω} (h : EvM E K p M te σ I (off C p) m R) (s : St I C H) (hc : C p = some (.lst ws)) (hx : M.r x ws I C) (hm : Post ((m x).bind k) Q XF)
    (next : ∀ b v ws' I2 H2, Ex I I2 → St I2 (upd C p (.lst ws')) H2 → M.r b.2 ws' I2 (upd C p (.lst ws')) → R.r b.1 v I2 (upd C p (.lst ws')) → Post (k b) Q XF → tz D (σ.set i (some v)) H2) : tSeq (tAsg te (gName i)) tz D σ H :=
  h x ws I C H (Ex.refl _) off_ex s hc hx _ ((Post.bind hm).mono (fun b z v ws' I2 H2 e2 s2 hx2 rv => next b v ws' I2 H2 e2 s2 hx2 rv z) fun _ _ z => z)
theorem sm_ret {k : α × μ → Res ω} (h : EvM E K p M te σ I (off C p) m R) (s : St I C H) (hc : C p = some (.lst ws)) (hx : M.r x ws I C) (hm : Post ((m x).bind k) Q XF)
    (next : ∀ b v ws' I2 H2, Ex I I2 → St I2 (upd C p (.lst ws')) H2 → M.r b.2 ws' I2 (upd C p (.lst ws')) → R.r b.1 v I2 (upd C p (.lst ws')) → Post (k b) Q XF → D.rt v H2) : tSeq (tRet te) tz D σ H :=
  h x ws I C H (Ex.refl _) off_ex s hc hx _ ((Post.bind hm).mono (fun b z v ws' I2 H2 e2 s2 hx2 rv => next b v ws' I2 H2 e2 s2 hx2 rv z) fun _ _ z => z)
theorem sm_expr {k : α × μ → Res ω} (h : EvM E K p M te σ I (off C p) m R) (s : St I C H) (hc : C p = some (.lst ws)) (hx : M.r x ws I C) (hm : Post ((m x).bind k) Q XF)
    (next : ∀ b ws' I2 H2, Ex I I2 → St I2 (upd C p (.lst ws')) H2 → M.r b.2 ws' I2 (upd C p (.lst ws')) → Post (k b) Q XF → tz D σ H2) : tSeq (tDrop te) tz D σ H :=
  h x ws I C H (Ex.refl _) off_ex s hc hx _ ((Post.bind hm).mono (fun b z v ws' I2 H2 e2 s2 hx2 rv => next b ws' I2 H2 e2 s2 hx2 z) fun _ _ z => z)
def ifMR (c : μ → Res (Bool × μ)) (x : μ) (m n : μ → Res α) : Res α := (c x).bind fun b => if b.1 = true then m b.2 else n b.2
theorem sm_if {c : μ → Res (Bool × μ)} {m1 m2 : μ → Res ω} (h : EvTM E K p M tt σ I (off C p) c) (s : St I C H) (hc : C p = some (.lst ws)) (hx : M.r x ws I C) (hm : Post (ifMR c x m1 m2) Q XF)
    (h1 : ∀ y ws' I2 H2, Ex I I2 → St I2 (upd C p (.lst ws')) H2 → M.r y ws' I2 (upd C p (.lst ws')) → Post (m1 y) Q XF → tu { D with nx := tz D } σ H2)
    (h2 : ∀ y ws' I2 H2, Ex I I2 → St I2 (upd C p (.lst ws')) H2 → M.r y ws' I2 (upd C p (.lst ws')) → Post (m2 y) Q XF → tw { D with nx := tz D } σ H2) : tSeq (tIfS tt tu tw) tz D σ H :=
  h x ws I C H (Ex.refl _) off_ex s hc hx _ ((Post.bind hm).mono (fun b z ws' I2 H2 e2 s2 hx2 => by
    obtain ⟨c, y⟩ := b
    cases c with
    | true => exact h1 y ws' I2 H2 e2 s2 hx2 z
    | false => exact h2 y ws' I2 H2 e2 s2 hx2 z) fun _ _ z => z)
theorem sm_ifj (P : S → L2.St → Hp → Hp → Prop) {c : μ → Res (Bool × μ)} {m1 m2 : μ → Res S} {k : S → Res ω} (h : EvTM E K p M tt σ I (off C p) c) (s : St I C H) (hc : C p = some (.lst ws)) (hx : M.r x ws I C) (hm : Post ((ifMR c x m1 m2).bind k) Q XF)
    (h1 : ∀ (N : L2.St → Hp → Prop) y ws' I2 H2, Ex I I2 → St I2 (upd C p (.lst ws')) H2 → M.r y ws' I2 (upd C p (.lst ws')) → Post (m1 y) (fun s' => ∀ σ2 I3 C3 H3, Ex I I3 → St I3 C3 H3 → P s' σ2 I3 C3 → N σ2 H3) XF → tu { D with nx := N } σ H2)
    (h2 : ∀ (N : L2.St → Hp → Prop) y ws' I2 H2, Ex I I2 → St I2 (upd C p (.lst ws')) H2 → M.r y ws' I2 (upd C p (.lst ws')) → Post (m2 y) (fun s' => ∀ σ2 I3 C3 H3, Ex I I3 → St I3 C3 H3 → P s' σ2 I3 C3 → N σ2 H3) XF → tw { D with nx := N } σ H2)
    (next : ∀ s' σ2 I3 C3 H3, Ex I I3 → St I3 C3 H3 → P s' σ2 I3 C3 → Post (k s') Q XF → tz D σ2 H3) : Evl.tCut (tIfS tt tu tw) tz D σ H := by
  refine ⟨fun σ2 H3 => ∃ s' I3 C3, Ex I I3 ∧ St I3 C3 H3 ∧ P s' σ2 I3 C3 ∧ Post (k s') Q XF, ?_, fun σ2 H3 ⟨s', I3, C3, e3, s3, p, q⟩ => next s' σ2 I3 C3 H3 e3 s3 p q⟩
  refine h x ws I C H (Ex.refl _) off_ex s hc hx _ ((Post.bind (Post.bind hm)).mono (fun b z ws' I2 H2 e2 s2 hx2 => ?_) fun _ _ z => z)
  obtain ⟨c, y⟩ := b
  cases c with
  | true => exact h1 _ y ws' I2 H2 e2 s2 hx2 (Post.mono (m := m1 y) z (fun s' z σ2 I3 C3 H3 e3 s3 pp => ⟨s', I3, C3, e3, s3, pp, z⟩) fun _ _ z => z)
  | false => exact h2 _ y ws' I2 H2 e2 s2 hx2 (Post.mono (m := m2 y) z (fun s' z σ2 I3 C3 H3 e3 s3 pp => ⟨s', I3, C3, e3, s3, pp, z⟩) fun _ _ z => z)
/-- a for whose source draws -/
theorem sm_forN (P : S → L2.St → Hp → Hp → Prop) {wi : TI} {g : TG} {m : μ → Res (List α × μ)} {f : α → S → Res S} {s0 : μ → S} {k : S → Res ω} (hi : EvIM E K p M wi σ I (off C p) m R) (s : St I C H) (hc : C p = some (.lst ws)) (hx : M.r x ws I C) (hm : Post (((m x).bind fun b => loopN f b.1 (s0 b.2)).bind k) Q XF)
    (h0 : ∀ y ws' I2, Ex I I2 → M.r y ws' I2 (upd C p (.lst ws')) → P (s0 y) σ I2 (upd C p (.lst ws'))) (hP : ∀ s' σ' I' I2 C', Ex I' I2 → P s' σ' I' C' → P s' σ' I2 C')
    (body : ∀ (N : L2.St → Hp → Prop) x v s' σ' I' C' H', Ex I I' → St I' C' H' → P s' σ' I' C' → R.r x v I' C' → Post (f x s') (fun s2 => ∀ σ2 I3 C3 H3, Ex I' I3 → St I3 C3 H3 → P s2 σ2 I3 C3 → N σ2 H3) XF →
      g v σ' H' fun σ2 H2 => tu { D with nx := N, ct := N, bk := tz D } σ2 H2)
    (next : ∀ s' σ' I' C' H', Ex I I' → St I' C' H' → P s' σ' I' C' → Post (k s') Q XF → tz D σ' H') : tSeq (tFor wi g tu) tz D σ H :=
  hi x ws I C H (Ex.refl _) off_ex s hc hx _ ((Post.bind (Post.bind hm)).mono (fun b q2 ws2 J G Y I2 H2 e2 s2 hx2 hz w hG hY => by
    refine for_it w (fun i σ' H' => ∃ s' I' C', Ex I2 I' ∧ St I' C' H' ∧ P s' σ' I' C' ∧ Post ((loopN f (b.1.drop i) s').bind k) Q XF) ⟨s0 b.2, I2, _, Ex.refl _, s2, h0 _ _ I2 e2 hx2, by rw [List.drop_zero]; exact Post.of_bind q2⟩
      (fun i σ' H' hi ⟨s', I', C', e3, s3, p, _⟩ => hG I' C' H' e3 s3) (fun i x σ' H1 H' hi ⟨s', I', C', e3, s3, p, po⟩ y => ?_) (fun σ' H' ⟨s', I', C', e3, s3, p, po⟩ => ?_)
    · obtain ⟨a, ha⟩ : ∃ a, b.1[i]? = some a := ⟨b.1[i], by simp [hi]⟩
      rw [drop_cons ha] at po
      obtain ⟨I4, e4, s4, ra⟩ := hY i a x I' C' H1 H' ha e3 s3 y
      exact body _ a x s' σ' I4 C' H' (e2.trans (e3.trans e4)) s4 (hP _ _ _ _ _ e4 p) ra ((Post.bind (Post.bind po)).mono (fun s3 z σ2 I5 C5 H5 e5 s5 p5 => ⟨s3, I5, C5, e3.trans (e4.trans e5), s5, p5, Post.of_bind z⟩) fun _ _ z => z)
    · rw [List.drop_length] at po
      exact next s' σ' I' C' H' (e2.trans e3) s3 p po) fun _ _ z => z)
/-- pool[k] = e, k written -/
theorem sm_set [It M] {i k : Nat} {g : μ → α → μ} {kk : μ → Res ω} {m : Res α} (hv : σ[i]? = some (some (.ref p))) (h : EvX E K te σ I C m R) (j : Pk M k g R) (s : St I C H) (hc : C p = some (.lst ws)) (hx : M.r x ws I C) (hm : Post (m.bind fun a => kk (g x a)) Q XF)
    (next : ∀ y ws' I2 H2, Ex I I2 → St I2 (upd C p (.lst ws')) H2 → M.r y ws' I2 (upd C p (.lst ws')) → Post (kk y) Q XF → tz D σ H2) : tSeq (tAsg te (gSub (tVar i) (tC (.int (k : Int))) rSetL)) tz D σ H :=
  h I C H (Ex.refl _) (Ex.refl _) s _ ((Post.bind hm).mono (fun a z v I2 H2 e2 s2 rv => by
    obtain ⟨q, hl⟩ := j x ws I2 C a v (M.mono e2 (Ex.refl _) hx) rv
    refine ⟨.ref p, hv, p, ws, k, k, rfl, rfl, s2.c p _ hc, ?_, next (g x a) (ws.set k v) I2 _ e2 (s2.set hc) (It.im q) z⟩
    unfold ixN
    rw [if_pos (by omega), if_pos (by omega)]
    rfl) fun _ _ z => z.elim)
/-- pool[k], k written -/
theorem x_pool {i k : Nat} {f : μ → β} {S : Rp β} (hv : σ[i]? = some (some (.ref p))) (hc : C p = some (.lst ws)) (hx : M.r x ws I C) (j : Pj M k f S) : EvX E K (tOp (rIxL K) (tVar i) (tC (.int (k : Int)))) σ I C (.ok (f x)) S := fun I1 C1 H1 e e' s Q q => by
  obtain ⟨w, hw, r⟩ := j x ws I1 C1 (M.mono e e' hx)
  exact ⟨.ref p, hv, p, ws, k, w, rfl, rfl, .inl (.inl (s.c p _ (e' p _ hc))), atI_nat hw, PQ.now (R := S) (a := f x) q s r⟩
end
end Sd

namespace Sd
open PySem L2
/-! ### forms for the printed proofs -/
abbrev Z : Hp := fun _ => none
theorem exz {C : Hp} : Ex Z C := fun _ _ h => nomatch h
theorem Im.z {α : Type} {R : Rp α} [Im R] {a : α} {v : V} {I C : Hp} (h : R.r a v I C) : R.r a v I Z := Im.im h
/-- a new list of one's own -/
abbrev PN {α : Type} (R : Rp α) (I C : Hp) (Q : VK) (xs : List α) : Prop := ∀ p vs I2 H2, Ex I I2 → C p = none → St I2 (upd C p (.lst vs)) H2 → vs.length ≤ sizeLine → A2 (fun x u => R.r x u I2 C) xs vs → Q (.ref p) H2
def EvN (E : XK) (K : PySem.W.Frag) (te : TE) (σ : L2.St) (I C : Hp) {α : Type} (m : Res (List α)) (R : Rp α) : Prop :=
  ∀ I1 C1 H1, Ex I I1 → Ex C C1 → St I1 C1 H1 → ∀ Q : VK, Post m (PN R I1 C1 Q) (PX E K I1 C1) → te σ H1 Q
def Op2N (E : XK) (K : PySem.W.Frag) (r : R2) {α β γ : Type} (f : α → β → Res (List γ)) (R : Rp α) (S : Rp β) (T : Rp γ) : Prop :=
  ∀ I C H a b x y, St I C H → R.r a x I C → S.r b y I C → ∀ Q : VK, Post (f a b) (PN T I C Q) (PX E K I C) → r x y H Q
def OpLN (E : XK) (K : PySem.W.Frag) (r : List V → Hp → VK → Prop) {α γ : Type} (f : α → Res (List γ)) (R : Rt α) (T : Rp γ) : Prop :=
  ∀ I C H a vs, St I C H → R.r a vs I C → ∀ Q : VK, Post (f a) (PN T I C Q) (PX E K I C) → r vs H Q
/-- f(a ..) hands back a new list of its own -/
def spO (K : PySem.W.Frag) {α β : Type} (T : Rt α) (m : α → Res (List β)) (R : Rp β) : Sp := fun vs H Q E => ∃ (I C : Hp) (a : α), St I C H ∧ T.r a vs I C ∧ Post (m a) (PN R I C Q) (PX E K I C)
section
variable {E : XK} {K : PySem.W.Frag} {σ : L2.St} {I I' C C' H : Hp} {α β γ : Type} {R : Rp α} {S : Rp β} {T : Rp γ} {te ta tb : TE} {tt : TT}
theorem PN.of {I1 C1 : Hp} {Q : VK} {xs : List α} [Im R] (q : PQ (pL R) I1 C1 Q xs) : PN R I1 C1 Q xs := fun p vs I2 H2 e hp s hl hr => by
  have sf := s.frz (p := p) upd_same
  have iD : I2 p = none := s.freeI upd_same
  refine q (.ref p) (upd I2 p (.lst vs)) H2 (e.trans (Ex.new iD)) (sf.less fun a o ha => ?_) ⟨p, vs, rfl, upd_same, hl, hr.imp fun _ _ => R.mono (Ex.new iD) (Ex.refl _)⟩
  have hne : a ≠ p := fun z => by
    rw [z, hp] at ha
    cases ha
  show (if a = p then none else upd C1 p (.lst vs) a) = some o
  rw [if_neg hne, upd_ne hne]
  exact ha
theorem x_own [Im R] {m : Res (List α)} (h : EvN E K te σ I C m R) : EvX E K te σ I C m (pL R) := fun I1 C1 H1 e e' s Q q => h I1 C1 H1 e e' s Q (q.mono (fun xs z => PN.of z) fun _ _ z => z)
theorem PN.new {I1 C1 H1 : Hp} {Q : VK} {xs : List α} {vs : List V} (q : PN R I1 C1 Q xs) (s : St I1 C1 H1) (h : A2 (fun x u => R.r x u I1 C1) xs vs) (hl : vs.length ≤ sizeLine) : ∀ p, H1 p = none → Q (.ref p) (upd H1 p (.lst vs)) := fun p hp =>
  q p vs I1 _ (Ex.refl _) (s.c.free hp) (s.newC hp) hl h
theorem PN.up {I1 I2 C1 : Hp} {Q : VK} {xs : List α} (e : Ex I1 I2) (q : PN R I1 C1 Q xs) : PN R I2 C1 Q xs := fun p vs I3 H3 e3 hp s hl hr => q p vs I3 H3 (e.trans e3) hp s hl hr
theorem n_op {r : R2} {f : α → β → Res (List γ)} {m : Res α} {n : Res β} (hr : Op2N E K r f R S T) (h1 : EvX E K ta σ I C m R) (h2 : EvX E K tb σ I C n S) : EvN E K (tOp r ta tb) σ I C (bin f m n) T := fun I1 C1 H1 e e' s Q q =>
  h1 I1 C1 H1 e e' s _ ((Post.bind q).mono (fun a p x I2 H2 e2 s2 rx =>
    h2 I2 C1 H2 (e.trans e2) e' s2 _ ((Post.bind p).mono (fun b p2 y I3 H3 e3 s3 ry =>
      hr I3 C1 H3 a b x y s3 (R.mono e3 (Ex.refl _) rx) ry Q (p2.mono (fun c z => z.up (e2.trans e3)) fun c i z => z.mono (e2.trans e3) (Ex.refl _))) fun c i z => z.mono e2 (Ex.refl _)))
    fun _ _ z => z)
theorem n_cb {r : List V → Hp → VK → Prop} {f : α → Res (List γ)} {A : Rt α} {tr : TA} {m : Res α} (hr : OpLN E K r f A T) (h : EvA E K tr σ I C m A) : EvN E K (tCB r tr) σ I C (un f m) T := fun I1 C1 H1 e e' s Q q =>
  h I1 C1 H1 e e' s _ ((Post.bind q).mono (fun a p vs I2 H2 e2 s2 rv => hr I2 C1 H2 a vs s2 rv Q (p.mono (fun c z => z.up e2) fun c i z => z.mono e2 (Ex.refl _))) fun _ _ z => z)
theorem n_call {A : Rt α} {f : α → Res (List β)} {m : Res α} {tr : TA} (h : EvA E K tr σ I C m A) : EvN E K (tCall (spO K A f S) [] E tr) σ I C (un f m) S := fun I1 C1 H1 e e' s Q q =>
  h I1 C1 H1 e e' s _ ((Post.bind q).mono (fun a p vs I2 H2 e2 s2 rv => ⟨I2, C1, a, s2, by rw [List.append_nil]; exact rv, Post.mono (m := f a) p (fun b z => z.up e2) fun c i z => z.mono e2 (Ex.refl _)⟩) fun _ _ z => z)
theorem n_lst {k : Nat} {m : Res (List α)} {tr : TA} (h : EvA E K tr σ I C m (tL R k)) (hn : k ≤ 100) : EvN E K (tLst tr) σ I C m R := fun I1 C1 H1 e e' s Q q =>
  h I1 C1 H1 e e' s _ (q.mono (fun a p vs I2 H2 e2 s2 rv => by
    have hl : vs.length ≤ sizeLine := by
      rw [rv.1]
      exact Nat.le_trans hn (by decide)
    exact ⟨hl, PN.new (PN.up e2 p) s2 rv.2 hl⟩) fun _ _ z => z)
theorem n_list : OpLN E K (fun xs H Q => ∃ p ys, xs = [.ref p] ∧ (SqL K H p ys ∨ SqT K H p ys) ∧ ∀ l, H l = none → Q (.ref l) (upd H l (.lst ys))) idR (t1 (pV R)) R := fun I C H a vs s hv Q q => by
  obtain ⟨v, rfl, h⟩ := hv
  obtain ⟨p, us, rfl, h2, h3, h4⟩ := pV.at s h
  exact ⟨p, us, rfl, .inl (.inl (.inl h2)), PN.new q s h4 h3⟩
theorem n_listQ : OpLN E K (fun xs H Q => ∃ p ys, xs = [.ref p] ∧ (SqL K H p ys ∨ SqT K H p ys) ∧ ∀ l, H l = none → Q (.ref l) (upd H l (.lst ys))) idR (t1 (pQ K R)) R := fun I C H a vs s hv Q q => by
  obtain ⟨v, rfl, p, us, rfl, h2, h3, h4⟩ := hv
  exact ⟨p, us, rfl, .inr (ex_t s.i h2), PN.new q s h4 h3⟩
theorem n_cat : Op2N E K rCat rCatR (pV R) (pV R) R := fun I C H a b x y s hx hy Q q => by
  unfold rCatR at q
  split at q
  · rename_i h
    obtain ⟨p, us, rfl, h2, h3, h4⟩ := pV.at s hx
    obtain ⟨p', us', rfl, h2', h3', h4'⟩ := pV.at s hy
    have hl : us.length + us'.length ≤ sizeLine := by
      rw [h4.len, h4'.len]
      exact Nat.le_trans h (by decide)
    exact ⟨p, p', us, us', rfl, rfl, h2, h2', hl, PN.new q s (h4.append h4') (by rw [List.length_append]; exact hl)⟩
  · exact q.elim
theorem n_rep : Op2N E K rRep rRepR (pV R) pI R := fun I C H a b x y s hx hy Q q => by
  unfold rRepR at q
  split at q
  · rename_i h
    obtain ⟨p, us, rfl, h2, h3, h4⟩ := pV.at s hx
    subst hy
    have hl : us.length * b.toNat ≤ sizeLine := by
      rw [h4.len]
      exact Nat.le_trans h.2 (by decide)
    exact ⟨p, b, us, rfl, rfl, h2, by omega, by omega, hl, PN.new q s (h4.rep _) (by rw [flat_len]; exact hl)⟩
  · exact q.elim
theorem n_sl {tl th : TO} {m : Res (List α)} {lo hi : Res (Option Int)} (h : EvX E K te σ I C m (pV R)) (hl : EvO E K tl σ I C lo) (hh : EvO E K th σ I C hi) : EvN E K (tSl (rSlL K) te tl th) σ I C (slR m lo hi) R := fun I1 C1 H1 e e' s Q q =>
  h I1 C1 H1 e e' s _ ((Post.bind q).mono (fun a p x I2 H2 e2 s2 rx =>
    hl I2 C1 H2 (e.trans e2) e' s2 _ ((Post.bind p).mono (fun o p2 I3 H3 e3 s3 =>
      hh I3 C1 H3 (e.trans (e2.trans e3)) e' s3 _ ((Post.bind p2).mono (fun o2 p3 I4 H4 e4 s4 => by
        obtain ⟨b, us, rfl, h2, h3, h4⟩ := pV.at s4 ((pV R).mono (e3.trans e4) (Ex.refl _) rx)
        exact ⟨b, us, rfl, .inl (.inl h2), PN.new (PN.up (e2.trans (e3.trans e4)) p3) s4 (h4.cut o o2) (Nat.le_trans (cutV_length _ _ _) h3)⟩) fun c i z => z.mono (e2.trans e3) (Ex.refl _))) fun c i z => z.mono e2 (Ex.refl _)))
    fun _ _ z => z)
theorem n_lcgK [Im S] {wi : TI} {g : TG} {tt : TT} {vs : List Nat} {p : α → Res Bool} {f : α → Res β} {P : α → L2.St → Hp → Hp → Prop} {kp : Hp → Prop} (hi : EvI E K wi σ I C kp m R) (hkp : ∀ C3, Ex C C3 → kp C3) (hg : Tg K g R (wipe σ vs) P)
    (hw : ∀ x σ2 I' C', P x σ2 I' C' → wipe σ2 vs = wipe σ vs)
    (hp : ∀ x σ2 I' C', Ex I I' → Ex C C' → P x σ2 I' C' → EvT EZ K tt σ2 I' C' (p x))
    (hf : ∀ x σ2 I' C', Ex I I' → Ex C C' → P x σ2 I' C' → EvX EZ K te σ2 I' C' (f x) S)
    (hm : ∀ x σ2 I' I2 C', Ex I' I2 → P x σ2 I' C' → P x σ2 I2 C') : EvN E K (tLc wi g tt te vs) σ I C (m.bind (filR p f)) S := fun I1 C1 H1 e e' s Q q =>
  hi I1 C1 H1 e e' s _ ((Post.bind q).mono (fun xs q2 J G Y I2 H2 e2 s2 hz w hG hY D hD => by
    have cD : C1 D = none := s2.c.free hD
    refine lc_it w (fun i H => Lc S I2 C1 D (filR p f (xs.drop i)) (PN S I1 C1 Q) i H) ⟨[], [], I2, Ex.refl _, s2.newC hD, Nat.le_refl _, .nil, ?_⟩ (fun i H hi ⟨_, vs', I', e3, s3, _⟩ => hG I' _ H e3 (hkp _ (e'.trans (Ex.new cD))) s3) (fun i x H H' hi ⟨ys, us, I', e3, s3, hn, r3, po⟩ y => ?_) (fun H ⟨ys, us, I', e3, s3, hn, r3, po⟩ => ?_)
    · cases hfil : filR p f xs with
      | ok zs =>
        rw [hfil] at q2
        show Post (filR p f (xs.drop 0)) _ _
        rw [List.drop_zero, hfil]
        exact q2
      | exc c i =>
        exfalso
        revert hfil
        clear q2 hG hY w hz
        induction xs with
        | nil =>
          intro z
          cases z
        | cons x xs ih =>
          unfold filR
          cases p x with
          | ok b =>
            cases b with
            | true =>
              cases f x with
              | ok y =>
                intro z
                cases hh : filR p f xs with
                | ok zs =>
                  simp only [hh] at z
                  cases z
                | exc c' i' =>
                  simp only [hh] at z
                  have z2 : (Res.exc c' i' : Res (List β)) = .exc c i := z
                  cases z2
                  exact ih hh
                | bad =>
                  simp only [hh] at z
                  cases z
              | exc _ _ => intro z; cases z
              | bad => intro z; cases z
            | false => exact ih
          | exc _ _ => intro z; cases z
          | bad => intro z; cases z
      | bad =>
        rw [hfil] at q2
        exact q2.elim
    · obtain ⟨a, ha⟩ : ∃ a, xs[i]? = some a := ⟨xs[i], by simp [hi]⟩
      rw [drop_cons ha] at po
      obtain ⟨I4, e4, s4, ra⟩ := hY i a x I' _ H H' ha e3 (hkp _ (e'.trans (Ex.new cD))) s3 y
      refine hg a x I4 _ H' _ s4 ra fun σ2 pa => ⟨hw _ _ _ _ pa, ?_⟩
      have eI : Ex I I4 := e.trans (e2.trans (e3.trans e4))
      have eC : Ex C (upd C1 D (.lst us)) := e'.trans (Ex.new cD)
      unfold filR at po
      refine hp a σ2 I4 _ eI eC pa I4 _ H' (Ex.refl _) (Ex.refl _) s4 _ ?_
      cases hpa : p a with
      | ok b =>
        rw [hpa] at po
        cases b with
        | true =>
          show ∀ I5 H5, Ex I4 I5 → St I5 (upd C1 D (.lst us)) H5 → te σ2 H5 _
          intro I5 H5 e5 s5
          refine hf a σ2 I5 _ (eI.trans e5) eC (hm _ _ _ _ _ e5 pa) I5 _ H5 (Ex.refl _) (Ex.refl _) s5 _ ?_
          cases hfa : f a with
          | ok b =>
            have po2 : Post ((filR p f (xs.drop (i + 1))).bind fun ys => .ok (b :: ys)) (fun zs => PN S I1 C1 Q (ys ++ zs)) (fun _ _ => False) := by
              have z := po
              simp only [hfa] at z
              exact z
            intro v I6 H6 e6 s6 rv
            have hsz : us.length < sizeLine := Nat.lt_of_le_of_lt hn (Nat.lt_of_lt_of_le hi hz)
            refine ⟨us, s6.c D _ upd_same, hsz, ⟨ys ++ [b], us ++ [v], I6, e3.trans (e4.trans (e5.trans e6)), ?_, by rw [List.length_append]; exact Nat.succ_le_succ hn, ?_, ?_⟩⟩
            · have z := s6.set (o := .lst (us ++ [v])) (p := D) upd_same
              rw [upd_upd] at z
              exact z
            · exact (r3.imp fun _ _ => S.mono (e4.trans (e5.trans e6)) (Ex.refl _)).append (.one (Im.im rv))
            · refine (Post.bind po2).mono (fun zs z => ?_) fun _ _ z => z
              rw [List.append_assoc]
              exact z
          | exc c j =>
            have z := po
            simp only [hfa] at z
            exact z.elim
          | bad =>
            have z := po
            simp only [hfa] at z
            exact z.elim
        | false =>
          show ∀ I5 H5, Ex I4 I5 → St I5 (upd C1 D (.lst us)) H5 → Lc S I2 C1 D (filR p f (xs.drop (i + 1))) (PN S I1 C1 Q) (i + 1) H5
          intro I5 H5 e5 s5
          exact ⟨ys, us, I5, e3.trans (e4.trans e5), s5, Nat.le_succ_of_le hn, r3.imp fun _ _ => S.mono (e4.trans e5) (Ex.refl _), po⟩
      | exc c j =>
        rw [hpa] at po
        exact po.elim
      | bad =>
        rw [hpa] at po
        exact po.elim
    · rw [List.drop_length] at po
      have po2 : PN S I1 C1 Q (ys ++ []) := po
      rw [List.append_nil] at po2
      exact po2 D us I' H (e2.trans e3) cD s3 (Nat.le_trans hn hz) r3) fun _ _ z => z)

theorem n_lcg [Im S] {wi : TI} {g : TG} {tt : TT} {vs : List Nat} {p : α → Res Bool} {f : α → Res β} {P : α → L2.St → Hp → Hp → Prop} (hi : EvI E K wi σ I C kpT m R) (hg : Tg K g R (wipe σ vs) P)
    (hw : ∀ x σ2 I' C', P x σ2 I' C' → wipe σ2 vs = wipe σ vs)
    (hp : ∀ x σ2 I' C', Ex I I' → Ex C C' → P x σ2 I' C' → EvT EZ K tt σ2 I' C' (p x))
    (hf : ∀ x σ2 I' C', Ex I I' → Ex C C' → P x σ2 I' C' → EvX EZ K te σ2 I' C' (f x) S)
    (hm : ∀ x σ2 I' I2 C', Ex I' I2 → P x σ2 I' C' → P x σ2 I2 C') : EvN E K (tLc wi g tt te vs) σ I C (m.bind (filR p f)) S := n_lcgK hi (fun _ _ => trivial) hg hw hp hf hm
theorem n_lc [Im S] {wi : TI} {g : TG} {vs : List Nat} {m : Res (List α)} {f : α → Res β} {P : α → L2.St → Hp → Hp → Prop} (hi : EvI E K wi σ I C kpT m R) (hg : Tg K g R (wipe σ vs) P)
    (hw : ∀ x σ2 I' C', P x σ2 I' C' → wipe σ2 vs = wipe σ vs)
    (hf : ∀ x σ2 I' C', Ex I I' → Ex C C' → P x σ2 I' C' → EvX EZ K te σ2 I' C' (f x) S)
    (hm : ∀ x σ2 I' I2 C', Ex I' I2 → P x σ2 I' C' → P x σ2 I2 C') : EvN E K (tLc wi g tYes te vs) σ I C (m.bind (mapR f)) S := by
  have z := n_lcg (p := fun _ => .ok true) hi hg hw (fun x σ2 I' C' _ _ _ => t_yes) hf hm
  have e : filR (fun _ => Res.ok true) f = mapR f := funext (filR_yes f)
  rw [e] at z
  exact z
theorem n_lcK [Im S] {wi : TI} {g : TG} {vs : List Nat} {m : Res (List α)} {f : α → Res β} {P : α → L2.St → Hp → Hp → Prop} {kp : Hp → Prop} (hi : EvI E K wi σ I C kp m R) (hkp : ∀ C3, Ex C C3 → kp C3) (hg : Tg K g R (wipe σ vs) P)
    (hw : ∀ x σ2 I' C', P x σ2 I' C' → wipe σ2 vs = wipe σ vs)
    (hf : ∀ x σ2 I' C', Ex I I' → Ex C C' → P x σ2 I' C' → EvX EZ K te σ2 I' C' (f x) S)
    (hm : ∀ x σ2 I' I2 C', Ex I' I2 → P x σ2 I' C' → P x σ2 I2 C') : EvN E K (tLc wi g tYes te vs) σ I C (m.bind (mapR f)) S := by
  have z := n_lcgK (p := fun _ => .ok true) hi hkp hg hw (fun x σ2 I' C' _ _ _ => t_yes) hf hm
  have e : filR (fun _ => Res.ok true) f = mapR f := funext (filR_yes f)
  rw [e] at z
  exact z
/-- sorted(pairs of ints) -/
def leP (a b : Int × Int) : Bool := decide (a.1 < b.1) || (decide (a.1 = b.1) && decide (a.2 ≤ b.2))
def insP (x : Int × Int) : List (Int × Int) → List (Int × Int)
  | [] => [x]
  | y :: ys => if leP x y = true then x :: y :: ys else y :: insP x ys
def isortP : List (Int × Int) → List (Int × Int)
  | [] => []
  | x :: xs => insP x (isortP xs)
def sortP (xs : List (Int × Int)) : Res (List (Int × Int)) := .ok (isortP xs)
@[simp] theorem sortP_eq (xs : List (Int × Int)) : sortP xs = .ok (isortP xs) := rfl
theorem leP_iff {a b : Int × Int} : leP a b = true ↔ a.1 < b.1 ∨ (a.1 = b.1 ∧ a.2 ≤ b.2) := by
  unfold leP
  simp only [Bool.or_eq_true, Bool.and_eq_true, decide_eq_true_eq]
theorem insP_perm (x : Int × Int) : ∀ ys, (insP x ys).Perm (x :: ys)
  | [] => .refl _
  | y :: ys => by
    unfold insP
    split
    · exact .refl _
    · exact ((insP_perm x ys).cons y).trans (.swap x y ys)
theorem isortP_perm : ∀ xs, (isortP xs).Perm xs
  | [] => .refl _
  | x :: xs => (insP_perm x _).trans ((isortP_perm xs).cons x)
theorem leP_total (a b : Int × Int) : leP a b = true ∨ leP b a = true := by
  rw [leP_iff, leP_iff]
  omega
theorem leP_trans {a b c : Int × Int} (h : leP a b = true) (h' : leP b c = true) : leP a c = true := by
  rw [leP_iff] at *
  omega
theorem leP_anti {a b : Int × Int} (h : leP a b = true) (h' : leP b a = true) : a = b := by
  rw [leP_iff] at *
  exact Prod.ext (by omega) (by omega)
theorem insP_sorted (x : Int × Int) : ∀ {ys : List (Int × Int)}, ys.Pairwise (fun a b => leP a b = true) → (insP x ys).Pairwise (fun a b => leP a b = true)
  | [], _ => List.pairwise_singleton _ _
  | y :: ys, h => by
    obtain ⟨h1, h2⟩ := List.pairwise_cons.mp h
    unfold insP
    split
    · rename_i hx
      exact List.pairwise_cons.mpr ⟨fun z hz => by
        rcases List.mem_cons.mp hz with e | hz
        · rw [e]
          exact hx
        · exact leP_trans hx (h1 z hz), h⟩
    · rename_i hx
      refine List.pairwise_cons.mpr ⟨fun z hz => ?_, insP_sorted x h2⟩
      rcases List.mem_cons.mp ((insP_perm x ys).mem_iff.mp hz) with e | hz
      · rw [e]
        exact (leP_total y x).resolve_right hx
      · exact h1 z hz
theorem isortP_sorted : ∀ xs, (isortP xs).Pairwise (fun a b => leP a b = true)
  | [] => .nil
  | x :: xs => insP_sorted x (isortP_sorted xs)
theorem sorted_unique : ∀ {xs ys : List (Int × Int)}, xs.Perm ys → xs.Pairwise (fun a b => leP a b = true) → ys.Pairwise (fun a b => leP a b = true) → xs = ys
  | [], ys, p, _, _ => by rw [List.nil_perm.mp p]
  | x :: xs, [], p, _, _ => by cases List.perm_nil.mp p
  | x :: xs, y :: ys, p, h, h' => by
    obtain ⟨h1, h2⟩ := List.pairwise_cons.mp h
    obtain ⟨h1', h2'⟩ := List.pairwise_cons.mp h'
    have e : x = y := by
      by_cases e : x = y
      · exact e
      · have hy : y ∈ xs := (List.mem_cons.mp (p.mem_iff.mpr List.mem_cons_self)).resolve_left fun z => e z.symm
        have hx : x ∈ ys := (List.mem_cons.mp (p.mem_iff.mp List.mem_cons_self)).resolve_left e
        exact leP_anti (h1 y hy) (h1' x hx)
    subst e
    rw [sorted_unique (List.Perm.cons_inv p) h2 h2']
end
end Sd

namespace Sd
open PySem L2
section
variable {E : XK} {K : PySem.W.Frag} {σ : L2.St} {I I' C C' H : Hp} {α β γ μ ω S ρ : Type} {R : Rp α} {S1 : Rp β} {te ta tb : TE} {tt : TT} {tz tu tw : TS} {D : Ends} {Q : ω → Prop} {X : Ec → Int → Prop}
/-! ### sorted -/
def kP (H : Hp) (v : V) : Int × Int := match v with
  | .ref t => (match H t with
    | some (.tup [.int i, .int j]) => (i, j)
    | _ => (0, 0))
  | _ => (0, 0)
theorem kP_of {a : Int × Int} {v : V} (s : St I C H) (h : (pT (tc pI (t1 pI))).r a v I C) : (∃ t, v = .ref t ∧ H t = some (.tup [.int a.1, .int a.2])) ∧ kP H v = a := by
  obtain ⟨t, vs, rfl, h2, u, us, rfl, h3, w, rfl, h4⟩ := h
  have e1 : u = .int a.1 := h3
  have e2 : w = .int a.2 := h4
  subst e1 e2
  have ht := s.i _ _ h2
  refine ⟨⟨t, rfl, ht⟩, ?_⟩
  show (match H t with
    | some (.tup [.int i, .int j]) => (i, j)
    | _ => (0, 0)) = a
  rw [ht]
theorem kP_map (s : St I C H) : ∀ {xs : List (Int × Int)} {vs : List V}, A2 (fun x u => (pT (tc pI (t1 pI))).r x u I C) xs vs → vs.map (kP H) = xs
  | _, _, .nil => rfl
  | _, _, .cons r t => by rw [List.map_cons, (kP_of s r).2, kP_map s t]
theorem a2_mem {f : α → V → Prop} : ∀ {xs : List α} {vs : List V} {v : V}, A2 f xs vs → v ∈ vs → ∃ x, x ∈ xs ∧ f x v
  | _, _, _, .nil, h => by cases h
  | _, _, _, .cons r t, h => by
    rcases List.mem_cons.mp h with e | h
    · exact ⟨_, List.mem_cons_self, by rw [e]; exact r⟩
    · obtain ⟨x, hx, r⟩ := a2_mem t h
      exact ⟨x, List.mem_cons_of_mem _ hx, r⟩
theorem a2_of_k {f : β → V → Prop} {k : V → β} : ∀ {ys : List V}, (∀ v, v ∈ ys → f (k v) v) → A2 f (ys.map k) ys
  | [], _ => .nil
  | y :: ys, h => .cons (h y List.mem_cons_self) (a2_of_k fun v hv => h v (List.mem_cons_of_mem _ hv))
theorem n_sortP : OpLN E K (rSortedPO K) sortP (t1 (pV (pT (tc pI (t1 pI))))) (pT (tc pI (t1 pI))) := fun I C H a vs s hv Q q => by
  obtain ⟨v, rfl, h⟩ := hv
  obtain ⟨p, us, rfl, h2, h3, h4⟩ := pV.at s h
  refine ⟨p, us, kP H, rfl, .inl (.inl h2), fun x hx => ?_, fun ys l hs hb hl => ?_⟩
  · obtain ⟨z, _, r⟩ := a2_mem h4 hx
    obtain ⟨⟨t, e, ht⟩, ek⟩ := kP_of s r
    exact ⟨t, e, by rw [ek]; exact ht⟩
  · have ep : (ys.map (kP H)).Perm a := by
      have z := hb.perm.map (kP H)
      rw [kP_map s h4] at z
      exact z
    have es : (ys.map (kP H)).Pairwise (fun a b => leP a b = true) := by
      refine List.pairwise_map.mpr (hs.imp fun {x y} z => ?_)
      rw [leP_iff]
      have z2 : ¬ SrtO.lexB (kP H y) (kP H x) = true := by
        intro z3
        have z4 : SrtO.lexB (kP H y) (kP H x) = false := z
        rw [z3] at z4
        cases z4
      rw [SrtO.lexB_iff] at z2
      omega
    have e := sorted_unique (ep.trans (isortP_perm a).symm) es (isortP_sorted a)
    have q2 : PN (pT (tc pI (t1 pI))) I C Q (isortP a) := q
    rw [← e] at q2
    refine PN.new q2 s (a2_of_k fun v hv => ?_) (by rw [hb.perm.length_eq]; exact h3) l hl
    obtain ⟨z, _, r⟩ := a2_mem h4 (hb.perm.mem_iff.mp hv)
    rw [(kP_of s r).2]
    exact r
def insI (x : Int) : List Int → List Int
  | [] => [x]
  | y :: ys => if x ≤ y then x :: y :: ys else y :: insI x ys
def isortI : List Int → List Int
  | [] => []
  | x :: xs => insI x (isortI xs)
def sortI (xs : List Int) : Res (List Int) := .ok (isortI xs)
@[simp] theorem sortI_eq (xs : List Int) : sortI xs = .ok (isortI xs) := rfl
theorem insI_perm (x : Int) : ∀ ys, (insI x ys).Perm (x :: ys)
  | [] => .refl _
  | y :: ys => by
    unfold insI
    split
    · exact .refl _
    · exact ((insI_perm x ys).cons y).trans (.swap x y ys)
theorem isortI_perm : ∀ xs, (isortI xs).Perm xs
  | [] => .refl _
  | x :: xs => (insI_perm x _).trans ((isortI_perm xs).cons x)
theorem insI_sorted (x : Int) : ∀ {ys : List Int}, ys.Pairwise (· ≤ ·) → (insI x ys).Pairwise (· ≤ ·)
  | [], _ => List.pairwise_singleton _ _
  | y :: ys, h => by
    obtain ⟨h1, h2⟩ := List.pairwise_cons.mp h
    unfold insI
    split
    · rename_i hx
      exact List.pairwise_cons.mpr ⟨fun z hz => by
        rcases List.mem_cons.mp hz with e | hz
        · rw [e]
          exact hx
        · exact Int.le_trans hx (h1 z hz), h⟩
    · rename_i hx
      refine List.pairwise_cons.mpr ⟨fun z hz => ?_, insI_sorted x h2⟩
      rcases List.mem_cons.mp ((insI_perm x ys).mem_iff.mp hz) with e | hz
      · rw [e]
        omega
      · exact h1 z hz
theorem isortI_sorted : ∀ xs, (isortI xs).Pairwise (· ≤ ·)
  | [] => .nil
  | x :: xs => insI_sorted x (isortI_sorted xs)
theorem sortedI_unique : ∀ {xs ys : List Int}, xs.Perm ys → xs.Pairwise (· ≤ ·) → ys.Pairwise (· ≤ ·) → xs = ys
  | [], ys, p, _, _ => by rw [List.nil_perm.mp p]
  | x :: xs, [], p, _, _ => by cases List.perm_nil.mp p
  | x :: xs, y :: ys, p, h, h' => by
    obtain ⟨h1, h2⟩ := List.pairwise_cons.mp h
    obtain ⟨h1', h2'⟩ := List.pairwise_cons.mp h'
    have e : x = y := by
      by_cases e : x = y
      · exact e
      · have hy : y ∈ xs := (List.mem_cons.mp (p.mem_iff.mpr List.mem_cons_self)).resolve_left fun z => e z.symm
        have hx : x ∈ ys := (List.mem_cons.mp (p.mem_iff.mp List.mem_cons_self)).resolve_left e
        exact Int.le_antisymm (h1 y hy) (h1' x hx)
    subst e
    rw [sortedI_unique (List.Perm.cons_inv p) h2 h2']
theorem n_sortI : OpLN E K (rSortedI K) sortI (t1 (pV pI)) pI := fun I C H a vs s hv Q q => by
  obtain ⟨v, rfl, h⟩ := hv
  obtain ⟨p, us, rfl, h2, h3, h4⟩ := pV.at s h
  have eu := A2.map_iff (h := V.int) (fun _ _ h => h) h4
  subst eu
  refine ⟨p, a, rfl, .inl (.inl h2), fun ns l hp hs hl => ?_⟩
  have e := sortedI_unique (hp.trans (isortI_perm a).symm) hs (isortI_sorted a)
  have q2 : PN pI I C Q (isortI a) := q
  rw [← e] at q2
  refine PN.new q2 s (A2.of_map (f := fun x u => pI.r x u I C) (h := V.int) (fun _ => rfl) ns) (by rw [List.length_map, hp.length_eq, ← List.length_map (f := V.int)]; exact h3) l hl
/-! ### chains, is of bools -/
theorem x_chain {r r' : R2} {f : α → β → Res Bool} {g : β → γ → Res Bool} {T : Rp γ} {tc : TE} {m : Res α} {n : Res β} {l : Res γ} (hr : Op2 E K r f R S1 pB) (hr' : Op2 E K r' g S1 T pB) (h1 : EvX E K ta σ I C m R) (h2 : EvX E K tb σ I C n S1) (h3 : EvX E K tc σ I C l T) :
    EvX E K (tChain r r' ta tb tc) σ I C (m.bind fun a => n.bind fun b => (f a b).bind fun k => if k = true then l.bind fun c => g b c else .ok false) pB := fun I1 C1 H1 e e' s Q q =>
  h1 I1 C1 H1 e e' s _ ((Post.bind q).mono (fun a p x I2 H2 e2 s2 rx =>
    h2 I2 C1 H2 (e.trans e2) e' s2 _ ((Post.bind p).mono (fun b p2 y I3 H3 e3 s3 ry =>
      hr I3 C1 H3 a b x y s3 (R.mono e3 (Ex.refl _) rx) ry _ ((Post.bind p2).mono (fun k p3 z I4 H4 e4 s4 rz => ⟨k, rz, by
        cases k with
        | true =>
          exact h3 I4 C1 H4 (e.trans (e2.trans (e3.trans e4))) e' s4 _ ((Post.bind p3).mono (fun c p4 w I5 H5 e5 s5 rw => hr' I5 C1 H5 b c y w s5 (S1.mono (e4.trans e5) (Ex.refl _) ry) rw Q
            (p4.mono (fun d z v I6 H6 e6 s6 rv => z v I6 H6 (e2.trans (e3.trans (e4.trans (e5.trans e6)))) s6 rv) fun c i z => z.mono (e2.trans (e3.trans (e4.trans e5))) (Ex.refl _))) fun c i z => z.mono (e2.trans (e3.trans e4)) (Ex.refl _))
        | false => exact p3 (.bl false) I4 H4 (e2.trans (e3.trans e4)) s4 rfl⟩) fun c i z => z.mono (e2.trans e3) (Ex.refl _))) fun c i z => z.mono e2 (Ex.refl _)))
    fun _ _ z => z)
theorem o_isB : Op2 E K rIsB eqR pB pB pB := fun I C H a b x y s hx hy Q q => ⟨a, b, hx, hy, PQ.now q s rfl⟩
theorem o_notB : Op2 E K rNotB neR pB pB pB := fun I C H a b x y s hx hy Q q => ⟨a, b, hx, hy, PQ.now q s rfl⟩
/-! ### a cell as a list that is read -/
theorem x_cell [Im R] {i : Nat} {a : Addr} {xs : List α} {vs : List V} (h : σ[i]? = some (some (.ref a))) (hc : C a = some (.lst vs)) (hl : vs.length ≤ sizeLine) (hr : A2 (fun x u => R.r x u I Z) xs vs) : EvX E K (tVar i) σ I C (.ok xs) (pV R) :=
  x_var h ⟨a, vs, rfl, .inr hc, hl, hr.imp fun _ _ h => Im.im h⟩
/-! ### keeping -/
theorem fr_keep {B C C2 : Hp} {p : Addr} (h : Ex B C) (hp : B p = none) (k : ∀ q, q ≠ p → C2 q = C q) : Ex B C2 := fun a o e => by
  rw [k a (ne_of_none e hp)]
  exact h a o e
theorem fr_pool {C0 C C2 : Hp} {p : Addr} (h : Ex (off C0 p) C) (k : ∀ q, q ≠ p → C2 q = C q) : Ex (off C0 p) C2 := fr_keep h off_same k
theorem ex_pool {C0 C : Hp} {p : Addr} {o : HO} (h : Ex (off C0 p) C) (hc : C p = some o) : Ex (upd C0 p o) C := fun a u e => by
  by_cases q : a = p
  · rw [q, upd_same] at e
    rw [q, hc]
    exact e
  · rw [upd_ne q] at e
    exact h a u ((off_ne q).trans e)
theorem freeze {a : Addr} {o : HO} (s : St I C H) (hc : C a = some o) : ∃ I2 C2, Ex I I2 ∧ St I2 C2 H ∧ I2 a = some o ∧ ∀ q, q ≠ a → C2 q = C q :=
  ⟨_, _, Ex.new (s.freeI hc), s.frz hc, upd_same, fun q h => if_neg h⟩
theorem frz_list [Im R] {I2 : Hp} {a : Addr} {xs : List α} {vs : List V} (e : Ex I I2) (h : I2 a = some (.lst vs)) (hl : vs.length ≤ sizeLine) (hr : A2 (fun x u => R.r x u I Z) xs vs) : (pL R).r xs (.ref a) I2 Z := ⟨a, vs, rfl, h, hl, hr.imp fun _ _ => R.mono e (Ex.refl _)⟩
theorem ne_new {p q : Addr} {o : HO} (h : C p = some o) (h' : C q = none) : p ≠ q := ne_of_none h h'
/-! ### statements, as they are printed -/
theorem q_asg [Im R] {i : Nat} {m : Res α} {k : α → Res ω} (h : EvX E K te σ I C m R) (s : St I C H) (hX : XH X E K I C) (hm : Post (m.bind k) Q X)
    (next : ∀ a v I2 H2, Ex I I2 → St I2 C H2 → R.r a v I2 Z → Post (k a) Q X → tz D (σ.set i (some v)) H2) : tSeq (tAsg te (gName i)) tz D σ H :=
  s_asg h s hX hm fun a v I2 H2 e2 s2 rv hm => next a v I2 H2 e2 s2 (Im.im rv) hm
theorem q_ret [Im R] {m : Res α} {k : α → Res ω} (h : EvX E K te σ I C m R) (s : St I C H) (hX : XH X E K I C) (hm : Post (m.bind k) Q X)
    (next : ∀ a v I2 H2, Ex I I2 → St I2 C H2 → R.r a v I2 Z → Post (k a) Q X → D.rt v H2) : tSeq (tRet te) tz D σ H :=
  s_ret h s hX hm fun a v I2 H2 e2 s2 rv hm => next a v I2 H2 e2 s2 (Im.im rv) hm
theorem q_retN {m : Res (List α)} {k : List α → Res ω} (h : EvN E K te σ I C m R) (s : St I C H) (hX : XH X E K I C) (hm : Post (m.bind k) Q X)
    (next : ∀ xs p vs I2 H2, Ex I I2 → C p = none → St I2 (upd C p (.lst vs)) H2 → vs.length ≤ sizeLine → A2 (fun x u => R.r x u I2 C) xs vs → Post (k xs) Q X → D.rt (.ref p) H2) : tSeq (tRet te) tz D σ H :=
  h I C H (Ex.refl _) (Ex.refl _) s _ ((Post.bind hm).mono (fun a z p vs I2 H2 e2 hp s2 hl hr => next a p vs I2 H2 e2 hp s2 hl hr z) hX)
/-- xs = e, a new list that will change -/
theorem q_asgN [Im R] {i : Nat} {m : Res (List α)} {k : List α → Res ω} (h : EvN E K te σ I C m R) (s : St I C H) (hX : XH X E K I C) (hm : Post (m.bind k) Q X)
    (next : ∀ xs p vs I2 C2 H2, Ex I I2 → C p = none → St I2 C2 H2 → C2 p = some (.lst vs) → (∀ q, q ≠ p → C2 q = C q) → vs.length ≤ sizeLine → A2 (fun x u => R.r x u I2 Z) xs vs → Post (k xs) Q X → tz D (σ.set i (some (.ref p))) H2) : tSeq (tAsg te (gName i)) tz D σ H :=
  h I C H (Ex.refl _) (Ex.refl _) s _ ((Post.bind hm).mono (fun a z p vs I2 H2 e2 hp s2 hl hr => next a p vs I2 _ H2 e2 hp s2 upd_same (fun q h => upd_ne h) hl (hr.imp fun _ _ h => Im.im h) z) hX)
theorem q_nil {i : Nat} (s : St I C H) (next : ∀ p C2 H2, C p = none → St I C2 H2 → C2 p = some (.lst []) → (∀ q, q ≠ p → C2 q = C q) → tz D (σ.set i (some (.ref p))) H2) : tSeq (tAsg (tLst tNil) (gName i)) tz D σ H :=
  s_newL s fun p H2 hp _ s2 => next p _ H2 hp s2 upd_same fun q h => upd_ne h
theorem q_app [Im R] {i : Nat} {p : Addr} {xs : List α} {vs : List V} {k : List α → Res ω} {m : Res α} (hv : σ[i]? = some (some (.ref p))) (hc : C p = some (.lst vs)) (hr : A2 (fun x u => R.r x u I Z) xs vs) (h : EvX E K te σ I C m R) (s : St I C H) (hX : XH X E K I C)
    (hm : Post ((m.bind fun x => push xs x).bind k) Q X)
    (next : ∀ ys vs' I2 C2 H2, Ex I I2 → St I2 C2 H2 → C2 p = some (.lst vs') → (∀ q, q ≠ p → C2 q = C q) → vs'.length ≤ sizeLine → A2 (fun x u => R.r x u I2 Z) ys vs' → Post (k ys) Q X → tz D σ H2) :
    tSeq (tDrop (tBM K "list" rAppend (tVar i) (tCons te tNil))) tz D σ H :=
  s_app hv hc (hr.imp fun _ _ h => Im.im h) h s hX hm fun ys vs' I2 H2 e2 s2 hl hr hm => next ys vs' I2 _ H2 e2 s2 upd_same (fun q h => upd_ne h) hl (hr.imp fun _ _ h => Im.im h) hm
theorem q_setL [Im R] {i : Nat} {p : Addr} {xs : List α} {vs : List V} {k : List α → Res ω} {ti : TE} {m : Res α} {mi : Res Int} (hv : σ[i]? = some (some (.ref p))) (hc : C p = some (.lst vs)) (hl : vs.length ≤ sizeLine) (hr : A2 (fun x u => R.r x u I Z) xs vs)
    (h : EvX E K te σ I C m R) (hi : EvX E K ti σ I C mi pI) (s : St I C H) (hX : XH X E K I C) (hm : Post ((m.bind fun x => mi.bind fun j => setR xs j x).bind k) Q X)
    (next : ∀ ys vs' I2 C2 H2, Ex I I2 → St I2 C2 H2 → C2 p = some (.lst vs') → (∀ q, q ≠ p → C2 q = C q) → vs'.length ≤ sizeLine → A2 (fun x u => R.r x u I2 Z) ys vs' → Post (k ys) Q X → tz D σ H2) :
    tSeq (tAsg te (gSub (tVar i) ti rSetL)) tz D σ H :=
  s_setL hv hc hl (hr.imp fun _ _ h => Im.im h) h hi s hX hm fun ys vs' I2 H2 e2 s2 hl hr hm => next ys vs' I2 _ H2 e2 s2 upd_same (fun q h => upd_ne h) hl (hr.imp fun _ _ h => Im.im h) hm
/-- xs.extend(e) -/
theorem q_ext [Im R] {i : Nat} {p : Addr} {xs : List α} {vs : List V} {k : List α → Res ω} {m : Res (List α)} (hv : σ[i]? = some (some (.ref p))) (hc : C p = some (.lst vs)) (hr : A2 (fun x u => R.r x u I Z) xs vs) (h : EvX E K te σ I C m (pL R)) (s : St I C H) (hX : XH X E K I C)
    (hm : Post ((m.bind fun x => rCatR xs x).bind k) Q X)
    (next : ∀ ys vs' I2 C2 H2, Ex I I2 → St I2 C2 H2 → C2 p = some (.lst vs') → (∀ q, q ≠ p → C2 q = C q) → vs'.length ≤ sizeLine → A2 (fun x u => R.r x u I2 Z) ys vs' → Post (k ys) Q X → tz D σ H2) :
    tSeq (tDrop (tBM K "list" rExtend (tVar i) (tCons te tNil))) tz D σ H :=
  ⟨.ref p, hv, .inl ⟨rfl, vs, .inl (.inl (s.c p _ hc))⟩, h I C H (Ex.refl _) (Ex.refl _) s _ ((Post.bind (Post.bind hm)).mono (fun a po v I2 H2 e2 s2 rv => by
    obtain ⟨b, us, rfl, h2, h3, h4⟩ := rv
    unfold rCatR at po
    split at po
    · rename_i hl
      have hn := hr.len
      have hl2 : vs.length + us.length ≤ sizeLine := by
        rw [hn, h4.len]
        exact Nat.le_trans hl (by decide)
      exact ⟨p, b, vs, us, rfl, rfl, s2.c p _ hc, s2.i b _ h2, hl2, next (xs ++ a) (vs ++ us) I2 _ _ e2 (s2.set hc) upd_same (fun q h => upd_ne h) (by rw [List.length_append]; exact hl2) ((hr.imp fun _ _ h => R.to e2 h).append (h4.imp fun _ _ h => Im.im h)) po⟩
    · exact po.elim) hX)⟩
/-- xs.pop(): the last item and the rest -/
def popR (xs : List α) : Res (α × List α) := match xs.getLast? with
  | some x => .ok (x, xs.dropLast)
  | none => .bad
theorem e_pop [Im R] {i : Nat} {p : Addr} {xs : List α} {vs : List V} {k : α × List α → Res ω} {Q2 : VK} (hv : σ[i]? = some (some (.ref p))) (hc : C p = some (.lst vs)) (hl : vs.length ≤ sizeLine) (hr : A2 (fun x u => R.r x u I Z) xs vs) (s : St I C H) (hm : Post ((popR xs).bind k) Q X)
    (next : ∀ a v C2 H2, St I C2 H2 → C2 p = some (.lst vs.dropLast) → (∀ q, q ≠ p → C2 q = C q) → vs.dropLast.length ≤ sizeLine → A2 (fun x u => R.r x u I Z) a.2 vs.dropLast → R.r a.1 v I Z → Post (k a) Q X → Q2 v H2) : tBM0 K "list" rPop (tVar i) σ H Q2 := by
  have po := Post.bind hm
  unfold popR at po
  cases hx : xs.getLast? with
  | none =>
    rw [hx] at po
    exact po.elim
  | some x =>
    rw [hx] at po
    have hn := hr.len
    have hx2 : xs[xs.length - 1]? = some x := by
      rw [← List.getLast?_eq_getElem?]
      exact hx
    obtain ⟨v, hv2, r⟩ := hr.get' hx2
    rw [← hn] at hv2
    exact ⟨.ref p, hv, .inl ⟨rfl, vs, .inl (.inl (s.c p _ hc))⟩, p, vs, v, rfl, rfl, s.c p _ hc, hv2, next (x, xs.dropLast) v _ _ (s.set hc) upd_same (fun q h => upd_ne h) (by rw [List.length_dropLast]; omega) hr.dropLast r po⟩
/-! the pool -/
variable {p : Addr} {M : Rt μ} {x : μ} {ws : List V}
theorem qm_asg [It M] [Im R] {i : Nat} {m : μ → Res (α × μ)} {k : α × μ → Res ω} (h : EvM E K p M te σ I (off C p) m R) (s : St I C H) (hc : C p = some (.lst ws)) (hx : M.r x ws I Z) (hm : Post ((m x).bind k) Q XF)
    (next : ∀ b v ws' I2 C2 H2, Ex I I2 → St I2 C2 H2 → C2 p = some (.lst ws') → (∀ q, q ≠ p → C2 q = C q) → M.r b.2 ws' I2 Z → R.r b.1 v I2 Z → Post (k b) Q XF → tz D (σ.set i (some v)) H2) : tSeq (tAsg te (gName i)) tz D σ H :=
  sm_asg h s hc (It.im hx) hm fun b v ws' I2 H2 e2 s2 hx2 rv hm => next b v ws' I2 _ H2 e2 s2 upd_same (fun q h => upd_ne h) (It.im hx2) (Im.im rv) hm
theorem qm_ret [It M] [Im R] {m : μ → Res (α × μ)} {k : α × μ → Res ω} (h : EvM E K p M te σ I (off C p) m R) (s : St I C H) (hc : C p = some (.lst ws)) (hx : M.r x ws I Z) (hm : Post ((m x).bind k) Q XF)
    (next : ∀ b v ws' I2 C2 H2, Ex I I2 → St I2 C2 H2 → C2 p = some (.lst ws') → (∀ q, q ≠ p → C2 q = C q) → M.r b.2 ws' I2 Z → R.r b.1 v I2 Z → Post (k b) Q XF → D.rt v H2) : tSeq (tRet te) tz D σ H :=
  sm_ret h s hc (It.im hx) hm fun b v ws' I2 H2 e2 s2 hx2 rv hm => next b v ws' I2 _ H2 e2 s2 upd_same (fun q h => upd_ne h) (It.im hx2) (Im.im rv) hm
theorem qm_expr [It M] [Im R] {m : μ → Res (α × μ)} {k : α × μ → Res ω} (h : EvM E K p M te σ I (off C p) m R) (s : St I C H) (hc : C p = some (.lst ws)) (hx : M.r x ws I Z) (hm : Post ((m x).bind k) Q XF)
    (next : ∀ b ws' I2 C2 H2, Ex I I2 → St I2 C2 H2 → C2 p = some (.lst ws') → (∀ q, q ≠ p → C2 q = C q) → M.r b.2 ws' I2 Z → Post (k b) Q XF → tz D σ H2) : tSeq (tDrop te) tz D σ H :=
  sm_expr h s hc (It.im hx) hm fun b ws' I2 H2 e2 s2 hx2 hm => next b ws' I2 _ H2 e2 s2 upd_same (fun q h => upd_ne h) (It.im hx2) hm
theorem qm_if [It M] {c : μ → Res (Bool × μ)} {m1 m2 : μ → Res ω} (h : EvTM E K p M tt σ I (off C p) c) (s : St I C H) (hc : C p = some (.lst ws)) (hx : M.r x ws I Z) (hm : Post (ifMR c x m1 m2) Q XF)
    (h1 : ∀ y ws' I2 C2 H2, Ex I I2 → St I2 C2 H2 → C2 p = some (.lst ws') → (∀ q, q ≠ p → C2 q = C q) → M.r y ws' I2 Z → Post (m1 y) Q XF → tu { D with nx := tz D } σ H2)
    (h2 : ∀ y ws' I2 C2 H2, Ex I I2 → St I2 C2 H2 → C2 p = some (.lst ws') → (∀ q, q ≠ p → C2 q = C q) → M.r y ws' I2 Z → Post (m2 y) Q XF → tw { D with nx := tz D } σ H2) : tSeq (tIfS tt tu tw) tz D σ H :=
  sm_if h s hc (It.im hx) hm (fun y ws' I2 H2 e2 s2 hx2 hm => h1 y ws' I2 _ H2 e2 s2 upd_same (fun q h => upd_ne h) (It.im hx2) hm) (fun y ws' I2 H2 e2 s2 hx2 hm => h2 y ws' I2 _ H2 e2 s2 upd_same (fun q h => upd_ne h) (It.im hx2) hm)
theorem qm_ifj [It M] (P : S → L2.St → Hp → Hp → Prop) {c : μ → Res (Bool × μ)} {m1 m2 : μ → Res S} {k : S → Res ω} (h : EvTM E K p M tt σ I (off C p) c) (s : St I C H) (hc : C p = some (.lst ws)) (hx : M.r x ws I Z) (hm : Post ((ifMR c x m1 m2).bind k) Q XF)
    (h1 : ∀ (N : L2.St → Hp → Prop) y ws' I2 C2 H2, Ex I I2 → St I2 C2 H2 → C2 p = some (.lst ws') → (∀ q, q ≠ p → C2 q = C q) → M.r y ws' I2 Z → Post (m1 y) (fun s' => ∀ σ2 I3 C3 H3, Ex I I3 → St I3 C3 H3 → P s' σ2 I3 C3 → N σ2 H3) XF → tu { D with nx := N } σ H2)
    (h2 : ∀ (N : L2.St → Hp → Prop) y ws' I2 C2 H2, Ex I I2 → St I2 C2 H2 → C2 p = some (.lst ws') → (∀ q, q ≠ p → C2 q = C q) → M.r y ws' I2 Z → Post (m2 y) (fun s' => ∀ σ2 I3 C3 H3, Ex I I3 → St I3 C3 H3 → P s' σ2 I3 C3 → N σ2 H3) XF → tw { D with nx := N } σ H2)
    (next : ∀ s' σ2 I3 C3 H3, Ex I I3 → St I3 C3 H3 → P s' σ2 I3 C3 → Post (k s') Q XF → tz D σ2 H3) : Evl.tCut (tIfS tt tu tw) tz D σ H :=
  sm_ifj P h s hc (It.im hx) hm (fun N y ws' I2 H2 e2 s2 hx2 hm => h1 N y ws' I2 _ H2 e2 s2 upd_same (fun q h => upd_ne h) (It.im hx2) hm) (fun N y ws' I2 H2 e2 s2 hx2 hm => h2 N y ws' I2 _ H2 e2 s2 upd_same (fun q h => upd_ne h) (It.im hx2) hm) next
theorem qm_forN [It M] (P : S → L2.St → Hp → Hp → Prop) {wi : TI} {g : TG} {m : μ → Res (List α × μ)} {f : α → S → Res S} {s0 : μ → S} {k : S → Res ω} (hi : EvIM E K p M wi σ I (off C p) m R) (s : St I C H) (hc : C p = some (.lst ws)) (hx : M.r x ws I Z) (hm : Post (((m x).bind fun b => loopN f b.1 (s0 b.2)).bind k) Q XF)
    (h0 : ∀ y ws' I2 C2, Ex I I2 → C2 p = some (.lst ws') → (∀ q, q ≠ p → C2 q = C q) → M.r y ws' I2 Z → P (s0 y) σ I2 C2) (hP : ∀ s' σ' I' I2 C', Ex I' I2 → P s' σ' I' C' → P s' σ' I2 C')
    (body : ∀ (N : L2.St → Hp → Prop) x v s' σ' I' C' H', Ex I I' → St I' C' H' → P s' σ' I' C' → R.r x v I' C' → Post (f x s') (fun s2 => ∀ σ2 I3 C3 H3, Ex I' I3 → St I3 C3 H3 → P s2 σ2 I3 C3 → N σ2 H3) XF →
      g v σ' H' fun σ2 H2 => tu { D with nx := N, ct := N, bk := tz D } σ2 H2)
    (next : ∀ s' σ' I' C' H', Ex I I' → St I' C' H' → P s' σ' I' C' → Post (k s') Q XF → tz D σ' H') : tSeq (tFor wi g tu) tz D σ H :=
  sm_forN P hi s hc (It.im hx) hm (fun y ws' I2 e2 hx2 => h0 y ws' I2 _ e2 upd_same (fun q h => upd_ne h) (It.im hx2)) hP body next
theorem q_set [It M] [Im S1] {i k : Nat} {g : μ → β → μ} {kk : μ → Res ω} {m : Res β} (hv : σ[i]? = some (some (.ref p))) (h : EvX E K te σ I C m S1) (j : Pk M k g S1) (s : St I C H) (hc : C p = some (.lst ws)) (hx : M.r x ws I Z) (hm : Post (m.bind fun a => kk (g x a)) Q XF)
    (next : ∀ y ws' I2 C2 H2, Ex I I2 → St I2 C2 H2 → C2 p = some (.lst ws') → (∀ q, q ≠ p → C2 q = C q) → M.r y ws' I2 Z → Post (kk y) Q XF → tz D σ H2) : tSeq (tAsg te (gSub (tVar i) (tC (.int (k : Int))) rSetL)) tz D σ H :=
  sm_set hv h j s hc (It.im hx) hm fun y ws' I2 H2 e2 s2 hx2 hm => next y ws' I2 _ H2 e2 s2 upd_same (fun q h => upd_ne h) (It.im hx2) hm
theorem q_pool {i k : Nat} {f : μ → β} [It M] (hv : σ[i]? = some (some (.ref p))) (hc : C p = some (.lst ws)) (hx : M.r x ws I Z) (j : Pj M k f S1) : EvX E K (tOp (rIxL K) (tVar i) (tC (.int (k : Int)))) σ I C (.ok (f x)) S1 := x_pool hv hc (It.im hx) j
/-! targets -/
theorem g1 [Im R] {i : Nat} : Tg K (gName i) R σ (fun x σ2 I _ => ∃ v, σ2 = σ.set i (some v) ∧ R.r x v I Z) := fun x v I C H Q s r k => k _ ⟨v, rfl, Im.im r⟩
theorem g2 [Im R] [Im S1] {i j : Nat} : Tg K (gTup K 2 (gCons (gName i) (gCons (gName j) gNil))) (pT (tc R (t1 S1))) σ (fun x σ2 I _ => ∃ u w, σ2 = (σ.set i (some u)).set j (some w) ∧ R.r x.1 u I Z ∧ S1.r x.2 w I Z) := fun x v I C H Q s r k =>
  g_two x v I C H Q s r fun σ2 ⟨u, w, e, h1, h2⟩ => k σ2 ⟨u, w, e, Im.im h1, Im.im h2⟩
theorem g3 {T : Rp γ} [Im R] [Im S1] [Im T] {i j l : Nat} : Tg K (gTup K 3 (gCons (gName i) (gCons (gName j) (gCons (gName l) gNil)))) (pT (tc R (tc S1 (t1 T)))) σ
    (fun x σ2 I _ => ∃ u w z, σ2 = ((σ.set i (some u)).set j (some w)).set l (some z) ∧ R.r x.1 u I Z ∧ S1.r x.2.1 w I Z ∧ T.r x.2.2 z I Z) := fun x v I C H Q s r k =>
  g_three x v I C H Q s r fun σ2 ⟨u, w, z, e, h1, h2, h3⟩ => k σ2 ⟨u, w, z, e, Im.im h1, Im.im h2, Im.im h3⟩
end
end Sd

namespace Sd
open PySem L2
/-- no places -/
def t0 : Rt Unit := ⟨fun _ vs _ _ => vs = [], fun _ _ h => h, 0, fun h => by rw [h]; rfl⟩
instance : It t0 := ⟨fun h => h⟩
abbrev Pl := Int × Int × Int × List Int
/-- the pool's places -/
abbrev pM : Rt Pl := tc pI (tc pI (tc pI (t1 (pL pI))))
theorem a2up {α : Type} {R : Rp α} {I I' : Hp} {xs : List α} {vs : List V} (e : Ex I I') (h : A2 (fun x u => R.r x u I Z) xs vs) : A2 (fun x u => R.r x u I' Z) xs vs := h.imp fun _ _ => R.mono e (Ex.refl _)
section
variable {E : XK} {K : PySem.W.Frag} {σ : L2.St} {I I' C C' H B : Hp} {α β γ μ ω S ρ : Type} {R : Rp α} {S1 : Rp β} {te ta tb : TE} {tt : TT} {tz tu tw : TS} {D : Ends} {Q : ω → Prop} {X : Ec → Int → Prop}
/-- a cell that is returned, known for good from then on -/
theorem q_retC [Im R] {i : Nat} {p : Addr} {xs : List α} {vs : List V} (hv : σ[i]? = some (some (.ref p))) (s : St I C H) (fr : Ex B C) (hB : B p = none) (hc : C p = some (.lst vs)) (hl : vs.length ≤ sizeLine) (hr : A2 (fun x u => R.r x u I Z) xs vs)
    (next : ∀ I2, Ex I I2 → St I2 B H → (pL R).r xs (.ref p) I2 Z → D.rt (.ref p) H) : tSeq (tRet (tVar i)) tz D σ H := by
  obtain ⟨I2, C2, e, s2, h, k⟩ := freeze s hc
  exact ⟨.ref p, hv, next I2 e (s2.less (fr_keep fr hB k)) (frz_list e h hl hr)⟩
/-- a cell that is returned as a new list of one's own -/
theorem q_retO [Im R] {i : Nat} {p : Addr} {xs : List α} {vs : List V} (hv : σ[i]? = some (some (.ref p))) (s : St I C H) (fr : Ex B C) (hB : B p = none) (hc : C p = some (.lst vs)) (hl : vs.length ≤ sizeLine) (hr : A2 (fun x u => R.r x u I Z) xs vs)
    (next : St I (upd B p (.lst vs)) H → A2 (fun x u => R.r x u I B) xs vs → D.rt (.ref p) H) : tSeq (tRet (tVar i)) tz D σ H :=
  ⟨.ref p, hv, next (s.less fun a u e => by
    by_cases q : a = p
    · rw [q, upd_same] at e
      rw [q, hc]
      exact e
    · rw [upd_ne q] at e
      exact fr a u e) (hr.imp fun _ _ h => Im.im h)⟩
/-- x += e, x -= e -/
theorem q_aug {i : Nat} {f : Int → Int → Int} {v : V} {a : Int} {m : Res Int} {k : Int → Res ω} (hv : σ[i]? = some (some v)) (r : pI.r a v I Z) (h : EvX E K te σ I C m pI) (s : St I C H) (hX : XH X E K I C) (hm : Post ((m.bind fun b => .ok (f a b)).bind k) Q X)
    (next : ∀ a v I2 H2, Ex I I2 → St I2 C H2 → pI.r a v I2 Z → Post (k a) Q X → tz D (σ.set i (some v)) H2) : tSeq (tAug i te (ipI f)) tz D σ H :=
  ⟨v, hv, h I C H (Ex.refl _) (Ex.refl _) s _ ((Post.bind (Post.bind hm)).mono (fun b p w I2 H2 e2 s2 rv => ⟨a, b, r, rv, next _ _ I2 H2 e2 s2 rfl p⟩) hX)⟩
/-- xs.append(e), e draws -/
theorem qm_app {M : Rt μ} [It M] [Im R] {i : Nat} {p q : Addr} {x : μ} {ws vs : List V} {xs : List α} {k : List α × μ → Res ω} {m : μ → Res (α × μ)} (hv : σ[i]? = some (some (.ref q))) (hq : C q = some (.lst vs)) (hqp : q ≠ p) (hr : A2 (fun x u => R.r x u I Z) xs vs) (h : EvM E K p M te σ I (off C p) m R)
    (s : St I C H) (hc : C p = some (.lst ws)) (hx : M.r x ws I Z) (hm : Post (((m x).bind fun b => (push xs b.1).bind fun ys => .ok (ys, b.2)).bind k) Q XF)
    (next : ∀ (b : List α × μ) vs' ws' I2 C2 H2, Ex I I2 → St I2 C2 H2 → C2 q = some (.lst vs') → C2 p = some (.lst ws') → (∀ r, r ≠ p → r ≠ q → C2 r = C r) → vs'.length ≤ sizeLine → A2 (fun x u => R.r x u I2 Z) b.1 vs' → M.r b.2 ws' I2 Z → Post (k b) Q XF → tz D σ H2) :
    tSeq (tDrop (tBM K "list" rAppend (tVar i) (tCons te tNil))) tz D σ H := by
  refine ⟨.ref q, hv, .inl ⟨rfl, vs, .inl (.inl (s.c q _ hq))⟩, ?_⟩
  refine h x ws I C H (Ex.refl _) off_ex s hc (It.im hx) _ ((Post.bind (Post.bind hm)).mono (fun b po v ws' I2 H2 e2 s2 hx2 rv => ?_) fun _ _ z => z)
  unfold push at po
  split at po
  · rename_i hl
    have hn := hr.len
    have hl2 : vs.length < sizeLine := by
      rw [hn]
      exact Nat.lt_of_lt_of_le hl (by decide)
    have hq2 : upd C p (.lst ws') q = some (.lst vs) := by
      rw [upd_ne hqp]
      exact hq
    refine ⟨q, vs, v, rfl, rfl, s2.c q _ hq2, hl2, next (xs ++ [b.1], b.2) (vs ++ [v]) ws' I2 _ _ e2 (s2.set hq2) upd_same ?_ (fun r h1 h2 => ?_) (by rw [List.length_append]; exact hl2) ?_ (It.im hx2) po⟩
    · rw [upd_ne (Ne.symm hqp), upd_same]
    · rw [upd_ne h2, upd_ne h1]
    · exact (hr.imp fun _ _ h => R.mono e2 (Ex.refl _) h).append (.one (Im.im rv))
  · exact po.elim
/-- pool[k] = e -/
def thenR (m : Res α) (g : α → β) (k : β → Res γ) : Res γ := m.bind fun a => k (g a)
@[simp] theorem thenR_eq (m : Res α) (g : α → β) (k : β → Res γ) : thenR m g k = m.bind fun a => k (g a) := rfl
theorem q_setT {p : Addr} {M : Rt μ} {x : μ} {ws : List V} [It M] [Im S1] {i k : Nat} {g : μ → β → μ} {kk : μ → Res ω} {m : Res β} (hv : σ[i]? = some (some (.ref p))) (h : EvX E K te σ I C m S1) (j : Pk M k g S1) (s : St I C H) (hc : C p = some (.lst ws)) (hx : M.r x ws I Z) (hm : Post (thenR m (fun a => g x a) kk) Q XF)
    (next : ∀ y ws' I2 C2 H2, Ex I I2 → St I2 C2 H2 → C2 p = some (.lst ws') → (∀ q, q ≠ p → C2 q = C q) → M.r y ws' I2 Z → Post (kk y) Q XF → tz D σ H2) : tSeq (tAsg te (gSub (tVar i) (tC (.int (k : Int))) rSetL)) tz D σ H := q_set hv h j s hc hx hm next
/-! None, or a thing -/
class NN {α : Type} (R : Rp α) : Prop where
  nn : ∀ {a : α} {v : V} {I C : Hp}, R.r a v I C → v ≠ .non
instance : NN pI := ⟨fun h z => by rw [show _ = V.int _ from h] at z; cases z⟩
instance : NN pB := ⟨fun h z => by rw [show _ = V.bl _ from h] at z; cases z⟩
instance : NN pS := ⟨fun h z => by rw [show _ = V.str _ from h.1] at z; cases z⟩
instance {T : Rt α} : NN (pT T) := ⟨fun ⟨a, vs, h, _⟩ z => by rw [h] at z; cases z⟩
instance {T : Rt α} : NN (pD T) := ⟨fun ⟨a, vs, h, _⟩ z => by rw [h] at z; cases z⟩
instance {T : Rt α} : NN (pU K T) := ⟨fun ⟨a, vs, h, _⟩ z => by rw [h] at z; cases z⟩
instance : NN (pL R) := ⟨fun ⟨a, vs, h, _⟩ z => by rw [h] at z; cases z⟩
instance : NN (pQ K R) := ⟨fun ⟨a, vs, h, _⟩ z => by rw [h] at z; cases z⟩
def someR' (a : α) : Res (Option α) := .ok (some a)
@[simp] theorem someR'_eq (a : α) : someR' a = .ok (some a) := rfl
theorem x_some [NN R] {m : Res α} (h : EvX E K te σ I C m R) : EvX E K te σ I C (un someR' m) (pO R) := fun I1 C1 H1 e e' s Q q =>
  h I1 C1 H1 e e' s Q ((Post.bind q).mono (fun a p v I2 H2 e2 s2 rv => p v I2 H2 e2 s2 ⟨rv, NN.nn rv⟩) fun _ _ z => z)
theorem x_none : EvX E K (tC .non) σ I C (.ok none) (pO R) := x_c fun _ _ => rfl
/-- it is there -/
def getO : Option α → Res α
  | some a => .ok a
  | none => .bad
@[simp] theorem getO_some (a : α) : getO (some a) = .ok a := rfl
theorem x_get {m : Res (Option α)} (h : EvX E K te σ I C m (pO R)) : EvX E K te σ I C (un getO m) R := fun I1 C1 H1 e e' s Q q =>
  h I1 C1 H1 e e' s Q ((Post.bind q).mono (fun a p v I2 H2 e2 s2 rv => by
    cases a with
    | none => exact p.elim
    | some a => exact p v I2 H2 e2 s2 rv.1) fun _ _ z => z)
/-! one of two -/
def pX (R : Rp α) (S : Rp β) : Rp (α ⊕ β) := ⟨fun x v I C => match x with
  | .inl a => R.r a v I C
  | .inr b => S.r b v I C, fun {a v I I' C C'} e e' h => by
  cases a with
  | inl a => exact R.mono e e' h
  | inr a => exact S.mono e e' h⟩
instance [Im R] [Im S1] : Im (pX R S1) := ⟨fun {a v I C C'} h => by
  cases a with
  | inl a => exact Im.im (R := R) h
  | inr a => exact Im.im (R := S1) h⟩
def getL : α ⊕ β → Res α
  | .inl a => .ok a
  | .inr _ => .bad
def getR : α ⊕ β → Res β
  | .inl _ => .bad
  | .inr a => .ok a
def inlR (a : α) : Res (α ⊕ β) := .ok (.inl a)
def inrR (a : β) : Res (α ⊕ β) := .ok (.inr a)
@[simp] theorem getL_eq (a : α) : getL (.inl a : α ⊕ β) = .ok a := rfl
@[simp] theorem getR_eq (a : β) : getR (.inr a : α ⊕ β) = .ok a := rfl
@[simp] theorem inlR_eq (a : α) : (inlR a : Res (α ⊕ β)) = .ok (.inl a) := rfl
@[simp] theorem inrR_eq (a : β) : (inrR a : Res (α ⊕ β)) = .ok (.inr a) := rfl
theorem x_getL {m : Res (α ⊕ β)} (h : EvX E K te σ I C m (pX R S1)) : EvX E K te σ I C (un getL m) R := fun I1 C1 H1 e e' s Q q =>
  h I1 C1 H1 e e' s Q ((Post.bind q).mono (fun a p v I2 H2 e2 s2 rv => by
    cases a with
    | inl a => exact p v I2 H2 e2 s2 rv
    | inr a => exact p.elim) fun _ _ z => z)
theorem x_getR {m : Res (α ⊕ β)} (h : EvX E K te σ I C m (pX R S1)) : EvX E K te σ I C (un getR m) S1 := fun I1 C1 H1 e e' s Q q =>
  h I1 C1 H1 e e' s Q ((Post.bind q).mono (fun a p v I2 H2 e2 s2 rv => by
    cases a with
    | inl a => exact p.elim
    | inr a => exact p v I2 H2 e2 s2 rv) fun _ _ z => z)
theorem x_inl {m : Res α} (h : EvX E K te σ I C m R) : EvX E K te σ I C (un inlR m) (pX R S1) := fun I1 C1 H1 e e' s Q q =>
  h I1 C1 H1 e e' s Q ((Post.bind q).mono (fun a p v I2 H2 e2 s2 rv => p v I2 H2 e2 s2 rv) fun _ _ z => z)
theorem x_inr {m : Res β} (h : EvX E K te σ I C m S1) : EvX E K te σ I C (un inrR m) (pX R S1) := fun I1 C1 H1 e e' s Q q =>
  h I1 C1 H1 e e' s Q ((Post.bind q).mono (fun a p v I2 H2 e2 s2 rv => p v I2 H2 e2 s2 rv) fun _ _ z => z)
/-! the kinds, for isinstance -/
class TyR (K : PySem.W.Frag) {α : Type} (R : Rp α) (n : String) : Prop where
  ty : ∀ {a : α} {v : V} {I C H : Hp}, St I C H → R.r a v I C → TyX K H v (.type n)
instance : TyR K pI "int" := ⟨fun s h => by rw [show _ = V.int _ from h]; exact .base (.int _)⟩
instance : TyR K pB "bool" := ⟨fun s h => by rw [show _ = V.bl _ from h]; exact .base (.bl _)⟩
instance : TyR K pS "str" := ⟨fun s h => by rw [show _ = V.str _ from h.1]; exact .base (.str _)⟩
instance {T : Rt α} : TyR K (pT T) "tuple" := ⟨fun s ⟨a, vs, e, h, _⟩ => by rw [e]; exact .base (.tup (s.i _ _ h))⟩
instance {T : Rt α} : TyR K (pD T) "list" := ⟨fun s ⟨a, vs, e, h, _⟩ => by rw [e]; exact .base (.lst (s.i _ _ h))⟩
instance : TyR K (pL R) "list" := ⟨fun s ⟨a, vs, e, h, _⟩ => by rw [e]; exact .base (.lst (s.i _ _ h))⟩
instance : TyR K (pV R) "list" := ⟨fun s h => by
  obtain ⟨a, vs, rfl, h, _⟩ := pV.at s h
  exact .base (.lst h)⟩
theorem o_isi {n c : String} {b : Bool} [TyR K R n] (hk : kitB n c = some b) : OpL E K (rIsi K) (fun _ => .ok b) (tc R (t1 (pY c))) pB := fun I C H a vs s hv Q q => by
  obtain ⟨v, us, rfl, r, w, rfl, rw⟩ := hv
  have hw : w = .ty c := rw
  subst hw
  exact ⟨v, .ty c, _, _, b, rfl, .ty c, TyR.ty s r, kit_ty hk, PQ.now q s rfl⟩
theorem o_lenT {T : Rt α} : OpL E K (fun xs H Q => ∃ p ys, xs = [.ref p] ∧ (SqL K H p ys ∨ SqT K H p ys) ∧ Q (.int ys.length) H) (fun _ => .ok (T.n : Int)) (t1 (pT T)) pI := fun I C H a vs s hv Q q => by
  obtain ⟨v, rfl, p, us, rfl, h, r⟩ := hv
  exact ⟨p, us, rfl, .inr (.inl (.inl (s.i _ _ h))), by rw [T.len r]; exact PQ.now q s rfl⟩
end
end Sd

namespace Sd
open PySem L2
theorem passE {P : Program} {w : World} {K : PySem.W.Frag} {mg : Str → Option Value} {base : Heap} {N : List Str} {qual : Str} {scope : Scope} {f : Addr} {cdv : Value} {A : Around} {outer : List Env} {s : Shared} {H : Hp} {E : XK} :
    Passes (L2.CX P w) (cxOf (L2.CX P w) P w K mg base N qual scope f cdv A outer s H E) E := passes_call (takes_of rfl rfl rfl rfl) fun _ _ _ _ h => h
/-! the built-ins -/
theorem bt_len : bootBuiltins "len" = some (.builtin "len") := by decide +kernel
theorem bt_max : bootBuiltins "max" = some (.builtin "max") := by decide +kernel
theorem bt_min : bootBuiltins "min" = some (.builtin "min") := by decide +kernel
theorem bt_sum : bootBuiltins "sum" = some (.builtin "sum") := by decide +kernel
theorem bt_sorted : bootBuiltins "sorted" = some (.builtin "sorted") := by decide +kernel
theorem bt_isinstance : bootBuiltins "isinstance" = some (.builtin "isinstance") := by decide +kernel
theorem bt_int : bootBuiltins "int" = some (.type "int") := by decide +kernel
theorem bt_str : bootBuiltins "str" = some (.type "str") := by decide +kernel
theorem bt_bool : bootBuiltins "bool" = some (.type "bool") := by decide +kernel
theorem bt_list : bootBuiltins "list" = some (.type "list") := by decide +kernel
theorem bt_tuple : bootBuiltins "tuple" = some (.type "tuple") := by decide +kernel
theorem bt_ValueError : bootBuiltins "ValueError" = some (.type "ValueError") := by decide +kernel
theorem bt_range : bootBuiltins "range" = some (.type "range") := by decide +kernel
section
variable {E : XK} {K : PySem.W.Frag} {σ : L2.St} {I I' C C' H B C0 : Hp} {α β γ μ ω S ρ : Type} {R : Rp α} {S1 : Rp β} {te ta tb : TE} {tt : TT} {tz tu tw : TS} {D : Ends} {Q : ω → Prop} {X : Ec → Int → Prop} {p q : Addr}
abbrev rLen1 (K : PySem.W.Frag) : List V → Hp → VK → Prop := fun xs H Q => ∃ p ys, xs = [.ref p] ∧ (SqL K H p ys ∨ SqT K H p ys) ∧ Q (.int ys.length) H
abbrev rList1 (K : PySem.W.Frag) : List V → Hp → VK → Prop := fun xs H Q => ∃ p ys, xs = [.ref p] ∧ (SqL K H p ys ∨ SqT K H p ys) ∧ ∀ l, H l = none → Q (.ref l) (upd H l (.lst ys))
abbrev rTuple1 (K : PySem.W.Frag) : List V → Hp → VK → Prop := fun xs H Q => ∃ p ys, xs = [.ref p] ∧ ((SqL K H p ys ∧ ∀ l, H l = none → Q (.ref l) (upd H l (.tup ys))) ∨ (SqT K H p ys ∧ Q (.ref p) H))
theorem Op2.ofL {r : R2} {f : List α → β → Res γ} {T : Rp γ} (h : Op2 E K r f (pV R) S1 T) : Op2 E K r f (pL R) S1 T := fun I C H a b x y s ⟨p, vs, h1, h2, h3, h4⟩ hy Q q => h I C H a b x y s ⟨p, vs, h1, .inl h2, h3, h4⟩ hy Q q
def b2iR (b : Bool) : Res Int := .ok (if b = true then 1 else 0)
@[simp] theorem b2iR_eq (b : Bool) : b2iR b = .ok (if b = true then 1 else 0) := rfl
theorem o_intB : OpL E K (fun xs H Q => (∃ i, xs = [.int i] ∧ Q (.int i) H) ∨ ∃ k, xs = [.bl k] ∧ Q (.int (if k then 1 else 0)) H) b2iR (t1 pB) pI := fun I C H a vs s hv Q q => by
  obtain ⟨v, rfl, h⟩ := hv
  have hv : v = .bl a := h
  subst hv
  exact .inr ⟨a, rfl, PQ.now q s rfl⟩
/-! the end of a def -/
abbrev PM {α μ : Type} (p : Addr) (M : Rt μ) (R : Rp α) (I C : Hp) (Q : VK) (b : α × μ) : Prop := ∀ v ws' I2 H2, Ex I I2 → St I2 (upd C p (.lst ws')) H2 → M.r b.2 ws' I2 (upd C p (.lst ws')) → R.r b.1 v I2 (upd C p (.lst ws')) → Q v H2
theorem ret_pool [Im R] {M : Rt μ} [It M] {I0 : Hp} {Q : VK} {b : α × μ} {ws : List V} {v : V} (hm : PM p M R I0 C0 Q b) (e : Ex I0 I) (fr : Ex (off C0 p) C) (s : St I C H) (hc : C p = some (.lst ws)) (hx : M.r b.2 ws I Z) (r : R.r b.1 v I Z) : Q v H :=
  hm v ws I H e (s.less (ex_pool fr hc)) (It.im hx) (Im.im r)
theorem ret_poolN {M : Rt μ} [It M] {I0 : Hp} {Q : VK} {b : Unit × μ} {ws : List V} (hm : PM p M pN I0 C0 Q b) (e : Ex I0 I) (fr : Ex (off C0 p) C) (s : St I C H) (hc : C p = some (.lst ws)) (hx : M.r b.2 ws I Z) : Q .non H :=
  hm .non ws I H e (s.less (ex_pool fr hc)) (It.im hx) rfl
theorem ret_own [Im R] {I0 : Hp} {Q : VK} {xs : List α} {vs : List V} (hm : PN R I0 C0 Q xs) (e : Ex I0 I) (fr : Ex C0 C) (hp : C p = none) (s : St I (upd C p (.lst vs)) H) (hl : vs.length ≤ sizeLine) (hr : A2 (fun x u => R.r x u I C) xs vs) : Q (.ref p) H :=
  hm p vs I H e (Ex.free fr hp) (s.less fun a u h => by
    by_cases z : a = p
    · rw [z, upd_same] at h
      rw [z, upd_same]
      exact h
    · rw [upd_ne z] at h ⊢
      exact fr a u h) hl (hr.imp fun _ _ h => Im.im h)
theorem fr_pool2 {C2 : Hp} (h : Ex (off C0 p) C) (hq : off C0 p q = none) (k : ∀ r, r ≠ p → r ≠ q → C2 r = C r) : Ex (off C0 p) C2 := fun a o e => by
  have h1 : a ≠ p := fun z => by rw [z, off_same] at e; cases e
  rw [k a h1 (ne_of_none e hq)]
  exact h a o e
theorem i_cellZ [Im R] {i : Nat} {a : Addr} {vs : List V} {xs : List α} (h : σ[i]? = some (some (.ref a))) (hc : C a = some (.lst vs)) (hl : vs.length ≤ sizeLine) (hr : A2 (fun x u => R.r x u I Z) xs vs) :
    EvI E K (iList K (tVar i)) σ I C (fun C3 => C3 a = some (.lst vs)) (.ok xs) R := i_cell h hc hl (hr.imp fun _ _ h => Im.im h)
theorem im_rng2 {M : Rt μ} [It M] {Cp : Hp} {tr : TA} {m : μ → Res ((Int × Int) × μ)} (h : EvAM E K p M tr σ I Cp m (tc pI (t1 pI))) : EvIM E K p M (iRng2 tr) σ I Cp (unM rng2 m) pI := fun x ws I1 C1 H1 e e' s hc hx Kt q =>
  h x ws I1 C1 H1 e e' s hc hx _ ((Post.bind q).mono (fun b z vs ws' I2 H2 e2 s2 hx2 ⟨v, us, hv, rv, w, hw, rw⟩ => by
    have z := Post.bind z
    unfold rng2 at z
    split at z
    · rename_i hn
      have hv1 : v = .int b.1.1 := rv
      have hw1 : w = .int b.1.2 := rw
      subst hv hw hv1 hw1
      refine ⟨b.1.1, b.1.2, rfl, by omega, z ws' (Itr b.1.1 (b.1.2 - b.1.1).toNat) (fun _ => True) (YFn fun i => .int (b.1.1 + i)) I2 H2 e2 s2 hx2 (by rw [rangeL_length]; exact Nat.le_trans (show (b.1.2 - b.1.1).toNat ≤ 2000000 by omega) (by decide)) (by rw [rangeL_length]; exact walk_range) (fun _ _ _ _ _ => trivial) (fun i x v' I3 C3 H3 H4 hx e3 s3 y => ?_)⟩
      obtain ⟨rfl, rfl⟩ := y
      rw [rangeL_get hx]
      exact ⟨I3, Ex.refl _, s3, rfl⟩
    · exact z.elim) fun _ _ z => z)
theorem im_list {M : Rt μ} [It M] [Im R] {Cp : Hp} {m : μ → Res (List α × μ)} (h : EvM E K p M te σ I Cp m (pL R)) : EvIM E K p M (iList K te) σ I Cp m R := fun x ws I1 C1 H1 e e' s hc hx Kt q =>
  h x ws I1 C1 H1 e e' s hc hx _ (q.mono (fun b z v ws' I2 H2 e2 s2 hx2 ⟨a, us, h1, h2, h3, h4⟩ => ⟨a, h1, ⟨us, .inl (.inl (s2.i a _ h2))⟩, by
    have hn := h4.len
    refine z ws' (Itl K a) (fun H => SqL K H a us) (YAt us) I2 H2 e2 s2 hx2 (by omega) (by rw [← hn]; exact walk_list) (fun I3 C3 H3 e3 s3 => .inl (.inl (s3.i a _ (e3 a _ h2)))) (fun i x v' I3 C3 H3 H4 hx e3 s3 y => ?_)
    obtain ⟨rfl, y⟩ := y
    obtain ⟨w, hw, r⟩ := h4.get' hx
    rw [hw] at y
    cases y
    exact ⟨I3, Ex.refl _, s3, R.to e3 r⟩⟩) fun _ _ z => z)
theorem m_v {M : Rt μ} {Cp : Hp} {m : μ → Res (List α × μ)} (h : EvM E K p M te σ I Cp m (pL R)) : EvM E K p M te σ I Cp m (pV R) := fun x ws I1 C1 H1 e e' s hc hx Q q =>
  h x ws I1 C1 H1 e e' s hc hx Q (q.mono (fun b z v ws' I2 H2 e2 s2 hx2 ⟨a, vs, h1, h2, h3, h4⟩ => z v ws' I2 H2 e2 s2 hx2 ⟨a, vs, h1, .inl h2, h3, h4⟩) fun _ _ z => z)
/-! slices whose ends draw -/
def EvOM (E : XK) (K : PySem.W.Frag) (p : Addr) {μ : Type} (M : Rt μ) (to : TO) (σ : L2.St) (I Cp : Hp) (m : μ → Res (Option Int × μ)) : Prop :=
  ∀ x ws I1 C1 H1, Ex I I1 → Ex Cp C1 → St I1 C1 H1 → C1 p = some (.lst ws) → M.r x ws I1 C1 → ∀ Q : Option Int → Hp → Prop, Post (m x) (fun b => ∀ ws' I2 H2, Ex I1 I2 → St I2 (upd C1 p (.lst ws')) H2 → M.r b.2 ws' I2 (upd C1 p (.lst ws')) → Q b.1 H2) (fun _ _ => False) → to σ H1 Q
theorem pm_pure {M : Rt μ} {Cp : Hp} {to : TO} {m : Res (Option Int)} (h : EvO E K to σ I Cp m) : EvOM E K p M to σ I Cp (liftM m) := fun x ws I1 C1 H1 e e' s hc hx Q q =>
  h I1 C1 H1 e e' s Q ((Post.bind q).mono (fun a z I2 H2 e2 s2 => by
    have e3 : upd C1 p (.lst ws) = C1 := upd_id hc
    exact z ws I2 H2 e2 (by rw [e3]; exact s2) (by rw [e3]; exact M.mono e2 (Ex.refl _) hx)) fun _ _ z => z.elim)
theorem pm_some {M : Rt μ} {Cp : Hp} {m : μ → Res (Int × μ)} (h : EvM E K p M te σ I Cp m pI) : EvOM E K p M (tPart te) σ I Cp (unM (fun i => .ok (some i)) m) := fun x ws I1 C1 H1 e e' s hc hx Q q =>
  h x ws I1 C1 H1 e e' s hc hx _ ((Post.bind q).mono (fun b z v ws' I2 H2 e2 s2 hx2 rv => ⟨b.1, rv, z ws' I2 H2 e2 s2 hx2⟩) fun _ _ z => z)
def slM (m : Res (List α)) (lo hi : μ → Res (Option Int × μ)) : μ → Res (List α × μ) := fun x => m.bind fun xs => (lo x).bind fun a => (hi a.2).bind fun b => .ok (cut xs a.1 b.1, b.2)
theorem m_sl {M : Rt μ} [It M] [Im R] {Cp : Hp} {tl th : TO} {m : Res (List α)} {lo hi : μ → Res (Option Int × μ)} (hp : Cp p = none) (h : EvX E K te σ I Cp m (pL R)) (hl : EvOM E K p M tl σ I Cp lo) (hh : EvOM E K p M th σ I Cp hi) :
    EvM E K p M (tSl (rSlL K) te tl th) σ I Cp (slM m lo hi) (pL R) := fun x ws I1 C1 H1 e e' s hc hx Q q =>
  h I1 C1 H1 e e' s _ ((Post.bind q).mono (fun xs z v I2 H2 e2 s2 ⟨a, vs, h1, h2, h3, h4⟩ =>
    hl x ws I2 C1 H2 (e.trans e2) e' s2 hc (M.mono e2 (Ex.refl _) hx) _ ((Post.bind z).mono (fun b z2 ws' I3 H3 e3 s3 hx3 =>
      hh b.2 ws' I3 _ H3 (e.trans (e2.trans e3)) (e'.over hp) s3 upd_same hx3 _ ((Post.bind z2).mono (fun c z3 ws2 I4 H4 e4 s4 hx4 => by
        refine ⟨a, vs, h1, .inl (.inl (s4.i a _ (e4 a _ (e3 a _ h2)))), fun t ht => ?_⟩
        have eu : upd (upd C1 p (.lst ws')) p (.lst ws2) = upd C1 p (.lst ws2) := by
          funext r
          by_cases hr : r = p
          · rw [hr, upd_same, upd_same]
          · rw [upd_ne hr, upd_ne hr, upd_ne hr]
        rw [eu] at s4 hx4
        have ex := Ex.new (o := HO.lst (cutV vs b.1 c.1)) (s4.i.free ht)
        refine z3 (.ref t) ws2 (upd I4 t (.lst (cutV vs b.1 c.1))) _ (e2.trans (e3.trans (e4.trans ex))) (s4.newI ht) (M.mono ex (Ex.refl _) hx4) ⟨t, _, rfl, upd_same, ?_, ?_⟩
        · unfold cutV
          rw [List.length_take, List.length_drop]
          omega
        · exact (A2.cut (h4.imp fun _ _ r => R.to (e3.trans (e4.trans ex)) r) b.1 c.1)) fun _ _ z => z)) fun _ _ z => z)) fun _ _ z => z.elim)
theorem m_notV {M : Rt μ} {Cp : Hp} {m : μ → Res (Bool × μ)} (h : EvM E K p M te σ I Cp m pB) : EvM E K p M (tNotV te) σ I Cp (unM notR m) pB := fun x ws I1 C1 H1 e e' s hc hx Q q =>
  h x ws I1 C1 H1 e e' s hc hx _ ((Post.bind q).mono (fun b z v ws' I2 H2 e2 s2 hx2 rv => ⟨b.1, rv, z _ ws' I2 H2 e2 s2 hx2 rfl⟩) fun _ _ z => z)
theorem m_andV {M : Rt μ} {Cp : Hp} {m n : μ → Res (Bool × μ)} (hp : Cp p = none) (h1 : EvM E K p M ta σ I Cp m pB) (h2 : EvM E K p M tb σ I Cp n pB) : EvM E K p M (tAndV ta tb) σ I Cp (andM m n) pB := fun x ws I1 C1 H1 e e' s hc hx Q q =>
  h1 x ws I1 C1 H1 e e' s hc hx _ ((Post.bind q).mono (fun b z v ws' I2 H2 e2 s2 hx2 rv => by
    obtain ⟨c, y⟩ := b
    refine ⟨c, rv, ?_⟩
    cases c with
    | true =>
      rw [if_pos rfl]
      refine h2 y ws' I2 _ H2 (e.trans e2) (e'.over hp) s2 upd_same hx2 Q (Post.mono (m := n y) z (fun d z2 v ws2 I3 H3 e3 s3 hx3 rw => ?_) fun _ _ z => z)
      have eu : upd (upd C1 p (.lst ws')) p (.lst ws2) = upd C1 p (.lst ws2) := by
        funext r
        by_cases hr : r = p
        · rw [hr, upd_same, upd_same]
        · rw [upd_ne hr, upd_ne hr, upd_ne hr]
      rw [eu] at s3 hx3
      exact z2 v ws2 I3 H3 (e2.trans e3) s3 hx3 rw
    | false => exact z (.bl false) ws' I2 H2 e2 s2 hx2 rfl) fun _ _ z => z)
theorem m_orV {M : Rt μ} {Cp : Hp} {m n : μ → Res (Bool × μ)} (hp : Cp p = none) (h1 : EvM E K p M ta σ I Cp m pB) (h2 : EvM E K p M tb σ I Cp n pB) : EvM E K p M (tOrV ta tb) σ I Cp (orM m n) pB := fun x ws I1 C1 H1 e e' s hc hx Q q =>
  h1 x ws I1 C1 H1 e e' s hc hx _ ((Post.bind q).mono (fun b z v ws' I2 H2 e2 s2 hx2 rv => by
    obtain ⟨c, y⟩ := b
    refine ⟨c, rv, ?_⟩
    cases c with
    | false =>
      rw [if_neg (by decide)]
      refine h2 y ws' I2 _ H2 (e.trans e2) (e'.over hp) s2 upd_same hx2 Q (Post.mono (m := n y) z (fun d z2 v ws2 I3 H3 e3 s3 hx3 rw => ?_) fun _ _ z => z)
      have eu : upd (upd C1 p (.lst ws')) p (.lst ws2) = upd C1 p (.lst ws2) := by
        funext r
        by_cases hr : r = p
        · rw [hr, upd_same, upd_same]
        · rw [upd_ne hr, upd_ne hr, upd_ne hr]
      rw [eu] at s3 hx3
      exact z2 v ws2 I3 H3 (e2.trans e3) s3 hx3 rw
    | true => exact z (.bl true) ws' I2 H2 e2 s2 hx2 rfl) fun _ _ z => z)
/-- a for whose source draws, a turn of it may break or return -/
theorem qm_forR {M : Rt μ} {x : μ} {ws : List V} [It M] (P : S → L2.St → Hp → Hp → Prop) {wi : TI} {g : TG} {m : μ → Res (List α × μ)} {f : α → S → Res (Out S ρ)} {s0 : μ → S} {k : Out S ρ → Res ω} (hi : EvIM E K p M wi σ I (off C p) m R) (s : St I C H) (hc : C p = some (.lst ws)) (hx : M.r x ws I Z) (hm : Post (((m x).bind fun b => loopR f b.1 (s0 b.2)).bind k) Q XF)
    (h0 : ∀ y ws' I2 C2, Ex I I2 → C2 p = some (.lst ws') → (∀ q, q ≠ p → C2 q = C q) → M.r y ws' I2 Z → P (s0 y) σ I2 C2) (hP : ∀ s' σ' I' I2 C', Ex I' I2 → P s' σ' I' C' → P s' σ' I2 C')
    (body : ∀ (N : L2.St → Hp → Prop) x v s' σ' I' C' H', Ex I I' → St I' C' H' → P s' σ' I' C' → R.r x v I' C' → Post (f x s') (fun o => match o with
        | .nx s2 => ∀ σ2 I3 C3 H3, Ex I' I3 → St I3 C3 H3 → P s2 σ2 I3 C3 → N σ2 H3
        | .br s2 => ∀ σ2 I3 C3 H3, Ex I' I3 → St I3 C3 H3 → P s2 σ2 I3 C3 → tz D σ2 H3
        | .rt r => Post (k (.rt r)) Q XF) XF →
      g v σ' H' fun σ2 H2 => tu { D with nx := N, ct := N, bk := tz D } σ2 H2)
    (next : ∀ s' σ' I' C' H', Ex I I' → St I' C' H' → P s' σ' I' C' → Post (k (.nx s')) Q XF → tz D σ' H') : tSeq (tFor wi g tu) tz D σ H :=
  hi x ws I C H (Ex.refl _) off_ex s hc (It.im hx) _ ((Post.bind (Post.bind hm)).mono (fun b q2 ws2 J G Y I2 H2 e2 s2 hx2 hz w hG hY => by
    refine for_it w (fun i σ' H' => ∃ s' I' C', Ex I2 I' ∧ St I' C' H' ∧ P s' σ' I' C' ∧ Post ((loopR f (b.1.drop i) s').bind k) Q XF) ⟨s0 b.2, I2, _, Ex.refl _, s2, h0 _ _ I2 _ e2 upd_same (fun q h => upd_ne h) (It.im hx2), by rw [List.drop_zero]; exact Post.of_bind q2⟩
      (fun i σ' H' hi ⟨s', I', C', e3, s3, p, _⟩ => hG I' C' H' e3 s3) (fun i x σ' H1 H' hi ⟨s', I', C', e3, s3, p, po⟩ y => ?_) (fun σ' H' ⟨s', I', C', e3, s3, p, po⟩ => ?_)
    · obtain ⟨a, ha⟩ : ∃ a, b.1[i]? = some a := ⟨b.1[i], by simp [hi]⟩
      rw [drop_cons ha] at po
      obtain ⟨I4, e4, s4, ra⟩ := hY i a x I' C' H1 H' ha e3 s3 y
      refine body _ a x s' σ' I4 C' H' (e2.trans (e3.trans e4)) s4 (hP _ _ _ _ _ e4 p) ra ((Post.bind (Post.bind po)).mono (fun o z => ?_) fun _ _ z => z)
      cases o with
      | nx s3 => exact fun σ2 I5 C5 H5 e5 s5 p5 => ⟨s3, I5, C5, e3.trans (e4.trans e5), s5, p5, Post.of_bind z⟩
      | br s3 => exact fun σ2 I5 C5 H5 e5 s5 p5 => next s3 σ2 I5 C5 H5 (e2.trans (e3.trans (e4.trans e5))) s5 p5 z
      | rt r => exact z
    · rw [List.drop_length] at po
      exact next s' σ' I' C' H' (e2.trans e3) s3 p po) fun _ _ z => z)
end
end Sd

namespace PySem.W
open PySem PySem.Spec PySem.Calls PyProof.Rows
section
variable {prog : Program} {w : World} {A : Around} {E : Value → Shared → Prop} {s : Shared} {K : Frag} {y D0 : Addr} {oy dct : Obj}
/-- what a caught error with a dict of its own answers to __class__ -/
theorem sd_class {G : Option Value → Shared → Prop} (T : L2.ExcC K D0) (hK : K.In s.heap) (J : InstAt s.heap y oy D0 (some dct)) (hG : G (some (.ref D0)) { s with toks := s.toks + 1 }) :
    wpAny (model prog w) A (getAttr? (.ref y) "__class__") G E s := by
  have hfind : findObj K D0 (some dct) "__class__" = some (.bind (.builtin "getset_descriptor.__get__") (.builtin "object.__class__")) := by
    obtain ⟨cd, hcd, _⟩ := any_some T.hd
    unfold findObj
    rw [hcd, Option.bind_some, T.ha, Option.bind_some]
    simp [T.hn, T.ht]
  obtain ⟨heap, gens, drw, tk, osx⟩ := s
  have kT := J.type (M := model prog w)
  have kA := looks_findIn (M := model prog w) hK T.hg
  have kB := looks_findIn (M := model prog w) hK T.hk
  have kF := looks_find (M := model prog w) hK J hfind
  have kS : Looks (model prog w) heap (isInstance (.ref y) (.type "BaseException")) true := kT.andThen (looks_subIn hK T.hs)
  have n0 : (false && onTheHeap (Value.builtin "BaseException.__getattribute__")) = false := rfl
  have n1 : (Value.builtin "BaseException.__getattribute__" == Value.builtin "object.__getattribute__") = false := by decide +kernel
  have n2 : (onTheHeap (Value.ref D0) && Value.builtin "BaseException.__getattribute__" == Value.builtin "object.__getattribute__") = false := by
    rw [n1]
    rfl
  unfold getAttr? getAttrBy? getAttrBy
  refine wpAny_bind (wpAny_mkText (wpAny_bind (wpAny_attempt (wpAny_holding (wpAny_bind (kT.at (wpAny_bind (kA.at ?_))))))))
  show wpAny _ _ (if (onTheHeap (Value.ref D0) && Value.builtin "BaseException.__getattribute__" == Value.builtin "object.__getattribute__") = true then _ else _) _ _ _
  rw [n2, if_neg Bool.false_ne_true]
  unfold getAttrByItsOwn hookBefore
  refine wpAny_bind ?_
  rw [if_pos (show onTheHeap (Value.ref D0) = true from rfl)]
  refine kB.at ?_
  refine wpAny_bind (wpAny_attempt (wpAny_holding ?_))
  unfold callGetattribute
  rw [n0, if_neg Bool.false_ne_true]
  unfold boundAndCalled
  rw [PySem.F.excAttr_ValueError.ga.bind (.ref y)]
  refine wpAny_bind (wpAny_pure ?_)
  show wpAny _ _ (call (.builtin "BaseException.__getattribute__") [.ref y, .str "__class__" tk]) _ _ _
  refine wpAny_call (codeAny_call_builtin PySem.F.excAttr_ValueError.ga.plain PySem.F.entry_bexc_ga ?_)
  refine @check_slot (model prog w) _ _ ⟨heap, gens, drw, tk + 1, osx⟩ "BaseException.__getattribute__" "BaseException" "__getattribute__" (.ref y) [.str "__class__" tk] [] _ (by decide +kernel) (by decide +kernel) kS (PySem.F.args_bexc_ga (.ref y) (.str "__class__" tk)) ?_
  unfold Builtin.«object.__getattribute__»
  refine wpAny_bind (wpAny_of_eq (a := ((Value.ref y : Value), [Value.str "__class__" tk])) (by first | rfl | (simp only [slotArgs]; rfl)) ?_)
  refine wpAny_bind (wpAny_pure (wpAny_bind (kT.at (wpAny_bind (kF.at ?_)))))
  show wpAny _ _ (holding [Value.builtin "object.__class__"] (call (.builtin "getset_descriptor.__get__") [.builtin "object.__class__", .ref y, .ref D0]) >>= ret) _ _ _
  refine wpAny_bind (wpAny_holding (wpAny_call (class_get (s := ⟨heap, gens, drw, tk + 1, osx⟩) (ox := oy) (od := some dct) hK J T.hm ?_)))
  refine wpAny_pure ?_
  show wpAny _ _ (handedOut (.ref D0)) _ _ _
  rw [handedOut_of (v := .ref D0) rfl]
  first
    | exact wpAny_pure (wpAny_pure hG)
    | exact wpAny_pure hG
    | exact wpAny_pure (wpAny_bind (wpAny_pure (wpAny_pure hG)))
theorem sd_kit (T : L2.ExcC K D0) : KitX K (.ref y) (.ref D0) (fun h => InstAt h y oy D0 (some dct)) where
  ty := fun _ _ _ J => J.type
  it := fun _ _ hK _ => by
    obtain ⟨cd, hcd, _⟩ := any_some T.hd
    unfold clsIn at hcd
    split at hcd
    · rename_i c1 d1 cd1 sl1 ho1
      intro A1 Q1 E1 s1 k1 q1
      unfold isType loadHead
      exact wpAny_bind (wpAny_loadPart (k1 _ _ (hK _ _ ho1)) (wpAny_pure q1))
    · cases hcd
  ne := fun h tp dd its n sl hK htp => by
    obtain ⟨cd, hcd, _⟩ := any_some T.hd
    refine Bool.eq_false_iff.mpr fun z => ?_
    have e : D0 = tp := Value.ref.inj (beq_iff_eq.mp z)
    subst e
    unfold clsIn at hcd
    split at hcd
    · rename_i c1 d1 cd1 sl1 ho1
      cases (hK _ _ ho1).symm.trans htp
    · cases hcd
  ca := fun hK J k => sd_class T hK J k
end
end PySem.W
namespace Sd
open PySem L2
/-! ### own errors -/
def mth : Stmt → Stmt
  | .ClassDef _ _ _ body _ _ _ _ _ _ _ => body.getD 0 (.Pass ⟨0, 0, 0, 0⟩)
  | s => s
def isaE (c b : Ec) : Bool := decide (c = b) || decide (b = .DeskError)
/-- what the written part says of an own error -/
structure ErrC (K : PySem.W.Frag) (mg : Str → Option Value) (fI : Addr) (c : Ec) : Prop where
  o : OexC K (He.ga K c.name)
  ic : PySem.W.findIn K (.ref (He.ga K c.name)) "__init__" = some (some (.ref fI))
  ti : PySem.W.typeIn K (.ref fI) = some (.type "function")
  g : mg c.name = some (.ref (He.ga K c.name))
  na : PySem.W.findIn K (.ref (He.ga K c.name)) "at" = some none
  xf : XfC K (He.ga K c.name)
  is : ExcC K (He.ga K c.name)
  ve : PySem.W.kitOne K (.ref (He.ga K c.name)) (.type "ValueError") = some true
/-- self.at = at -/
def spInit (K : PySem.W.Frag) : Sp := fun vs H Q _ => ∃ (a C : Addr) (i : Int), vs = [.ref a, .int i] ∧ OexC K C ∧ PySem.W.findIn K (.ref C) "at" = some none ∧ H a = some (exo a C none) ∧
  ∀ dx, H dx = none → dx ≠ a → Q .non (upd (upd H dx (exd dx [(("at" : Str), .int i)])) a (exo a C (some dx)))
section
variable {P : Program} {w : World} {K : PySem.W.Frag} {mg : Str → Option Value} {base : Heap}
abbrev ErrF (K : PySem.W.Frag) (st : Stmt) (f : Addr) (fd : FuncData) : Prop := FunD K "__init__" "DeskError.__init__" (defArgs st) (defBody st) (defScope st) [.int 0] [] f fd
end
section
variable {E : XK} {K : PySem.W.Frag} {mg : Str → Option Value} {fI : Addr} {σ : L2.St} {I C H : Hp} {α β ω S ρ : Type} {ta : TA} {te : TE} {tz : TS} {D : Ends} {Q : ω → Prop} {X : Ec → Int → Prop}
theorem s_raise {c : Ec} {m : Res Int} (x : ErrC K mg fI c) (h : EvA E K ta σ I C m (t1 pI)) (s : St I C H) (hX : XH X E K I C) (hm : Post (m.bind fun i => Res.exc c i : Res ω) Q X) :
    tSeq (fun _ σ H => tMkO (He.ga K c.name) (spInit K) [] ta σ H fun cls d H' => E cls d H') tz D σ H :=
  h I C H (Ex.refl _) (Ex.refl _) s _ ((Post.bind hm).mono (fun i q vs I2 H2 e2 s2 ⟨v, hv, rv⟩ => by
    have hv1 : v = .int i := rv
    subst hv hv1
    have po : PX E K I2 C c i := (hX c i q).mono e2 (Ex.refl _)
    refine ⟨Nat.le_of_ble_eq_true rfl, fun a ha => ⟨a, He.ga K c.name, i, rfl, x.o, x.na, upd_same, fun dx hdx hne => ⟨rfl, dx, [(("at" : Str), .int i)], upd_same, ?_, ?_, ?_⟩⟩⟩
    · rw [upd_ne hne, upd_same]
    · rw [upd_ne hne] at hdx
      exact hdx
    · rw [upd_ne hne] at hdx
      have eh : upd (del (upd (upd (upd H2 a (exo a (He.ga K c.name) none)) dx (exd dx [(("at" : Str), .int i)])) a (exo a (He.ga K c.name) (some dx))) a) dx (.xd [(("at" : Str), .int i)]) = upd H2 dx (.xd [(("at" : Str), .int i)]) := by
        funext b
        by_cases h1 : b = dx
        · rw [h1, upd_same, upd_same]
        · rw [upd_ne h1, upd_ne h1]
          by_cases h2 : b = a
          · rw [h2, del_same, ha]
          · rw [del_ne h2, upd_ne h2, upd_ne h1, upd_ne h2]
      rw [eh]
      exact po dx (upd I2 dx (.xd [(("at" : Str), .int i)])) _ (Ex.new (s2.i.free hdx)) (s2.newI hdx) upd_same) hX)
/-! in an except suite -/
def tXfX (K : PySem.W.Frag) (a : Addr) (cls : Value) (d : Option Addr) (f : Str) (te : TE) : TE := fun σ H Q => ∃ C, (XfC K C ∧ PySem.W.findIn K (.ref C) f = some none) ∧ tXf a cls d C f te σ H Q
theorem pe_xfX {X : Cx} {a : Addr} {oe : Obj} {cls : Value} {d : Option Addr} {pn : List (Addr × Obj)} {e : Expr} {te : TE} {pos : Pos} {n : Str}
    (hz : Zc cls d oe) (hf : ∃ vs, oe.data = .fields vs) (he : PE (X.suite a ((a, oe) :: pn)) e te) (hb : attributeBase e n X.env (eval e X.env) = eval e X.env := by rfl) :
    PE (X.suite a ((a, oe) :: pn)) (.Attribute e n pos) (tXfX X.K a cls d n te) :=
  ⟨fun pins s σ H Q I ⟨C, ⟨T, hno⟩, h⟩ => (pe_xf (C := C) T hno hz hf he hb).run pins s σ H Q I h⟩
def rIsX (K : PySem.W.Frag) (a : Addr) (cls : Value) (d : Option Addr) : List V → Hp → VK → Prop := fun xs H Q => ∃ (D dd : Addr) (fs : List (Str × V)) (c : V) (cv : Value) (b : Bool), ExcC K D ∧ cls = .ref D ∧ d = some dd ∧ H dd = some (.xd fs) ∧ xs = [.ref a, c] ∧
  (∀ u, RelV c u → u = cv) ∧ PySem.W.kitOne K (.ref D) cv = some b ∧ Q (.bl b) H
theorem call_isX {Y : Cx} {a : Addr} {cls : Value} {d : Option Addr} {oe : Obj} {pn : List (Addr × Obj)} (hz : Zc cls d oe) (hf : ∃ vs, oe.data = .fields vs) : CallR (Y.suite a ((a, oe) :: pn)) (.builtin "isinstance") (rIsX Y.K a cls d) := by
  intro pins s σ H xs us Q I r h
  obtain ⟨D, dd, fs, c, cv, b, T, rfl, rfl, hd, rfl, hcv, e, q⟩ := h
  cases r with
  | cons r1 rr =>
    cases rr with
    | cons r2 rr =>
      cases rr
      cases r1
      have ec := hcv _ r2
      subst ec
      obtain ⟨hget, _⟩ := I.pin (a, oe) (List.mem_append.mpr (.inl List.mem_cons_self))
      obtain ⟨vs, hv⟩ := hf
      have hx : ObjOk Y.prog Y.w H s.heap dd (.xd fs) := I.hok dd _ hd
      obtain ⟨mA, hns, _⟩ := hx
      obtain ⟨od, ho, _⟩ := lookIn_ns hns
      have J : PySem.W.InstAt s.heap a oe D (some od) := ⟨hget, hz.1, by unfold PySem.W.notCls; rw [hv] <;> rfl, by rw [hz.2]; exact ho⟩
      exact PySem.W.kia_one (PySem.W.sd_kit T) I.kIn J e (fun z => nomatch z) fun tk => ⟨.bl b, H, I.kept (t' := tk) fun _ _ z => z, rfl, q⟩
/-- the caught error: its class, its number, where it stands -/
structure Cg (K : PySem.W.Frag) (mg : Str → Option Value) (fI : Addr) (I : Hp) (cls : Value) (d : Option Addr) (c : Ec) (i : Int) : Prop where
  x : ErrC K mg fI c
  cl : cls = .ref (He.ga K c.name)
  dd : ∃ dd, d = some dd ∧ I dd = some (.xd [(("at" : Str), .int i)])
theorem Cg.up {I2 : Hp} {cls : Value} {d : Option Addr} {c : Ec} {i : Int} (e : Ex I I2) (g : Cg K mg fI I cls d c i) : Cg K mg fI I2 cls d c i := ⟨g.x, g.cl, by
  obtain ⟨dd, h1, h2⟩ := g.dd
  exact ⟨dd, h1, e _ _ h2⟩⟩
theorem x_at {a : Addr} {j : Nat} {cls : Value} {d : Option Addr} {c : Ec} {i : Int} (g : Cg K mg fI I cls d c i) (hv : σ[j]? = some (some (.ref a))) : EvX E K (tXfX K a cls d "at" (tVar j)) σ I C (.ok i) pI := fun I1 C1 H1 e e' s Q q => by
  obtain ⟨dd, h1, h2⟩ := g.dd
  exact ⟨_, ⟨g.x.xf, g.x.na⟩, _, hv, rfl, g.cl, dd, _, .int i, h1, s.i _ _ (e _ _ h2), by simp [List.lookup], PQ.now (R := pI) (a := i) q s rfl⟩
theorem x_isE {a : Addr} {j : Nat} {cls : Value} {d : Option Addr} {c c2 : Ec} {i : Int} (g : Cg K mg fI I cls d c i) (hk : PySem.W.kitOne K (.ref (He.ga K c.name)) (.ref (He.ga K c2.name)) = some (isaE c c2)) (hv : σ[j]? = some (some (.ref a))) :
    EvX E K (tCB (rIsX K a cls d) (tCons (tVar j) (tCons (tC (.ref (He.ga K c2.name))) tNil))) σ I C (.ok (isaE c c2)) pB := fun I1 C1 H1 e e' s Q q => by
  obtain ⟨dd, h1, h2⟩ := g.dd
  exact ⟨_, hv, _, dd, _, _, _, _, g.x.is, g.cl, h1, s.i _ _ (e _ _ h2), rfl, fun u r => r, hk, PQ.now (R := pB) (a := isaE c c2) q s rfl⟩
theorem x_isVE {a : Addr} {j : Nat} {cls : Value} {d : Option Addr} {c : Ec} {i : Int} (g : Cg K mg fI I cls d c i) (hv : σ[j]? = some (some (.ref a))) :
    EvX E K (tCB (rIsX K a cls d) (tCons (tVar j) (tCons (tC (.ty "ValueError")) tNil))) σ I C (.ok true) pB := fun I1 C1 H1 e e' s Q q => by
  obtain ⟨dd, h1, h2⟩ := g.dd
  exact ⟨_, hv, _, dd, _, _, _, _, g.x.is, g.cl, h1, s.i _ _ (e _ _ h2), rfl, fun u r => r, g.x.ve, PQ.now (R := pB) (a := true) q s rfl⟩
/-! a call in the body of a try -/
theorem x_callS {W : WX} {T : Rt α} {f : α → Res β} {R : Rp β} {m : Res α} (h : EvA (WE W σ) K ta σ I C m T) : EvX (WE W σ) K (tCallS (spP K T f R) (WE W) ta) σ I C (un f m) R := fun I1 C1 H1 e e' s Q q =>
  h I1 C1 H1 e e' s _ ((Post.bind q).mono (fun a p vs I2 H2 e2 s2 rv => ⟨I2, C1, a, s2, rv, Post.mono (m := f a) p (fun b z v I3 H3 e3 s3 rw => z v I3 H3 (e2.trans e3) s3 rw) fun c i z => z.mono e2 (Ex.refl _)⟩) fun _ _ z => z)
theorem n_callS {W : WX} {T : Rt α} {f : α → Res (List β)} {R : Rp β} {m : Res α} (h : EvA (WE W σ) K ta σ I C m T) : EvN (WE W σ) K (tCallS (spO K T f R) (WE W) ta) σ I C (un f m) R := fun I1 C1 H1 e e' s Q q =>
  h I1 C1 H1 e e' s _ ((Post.bind q).mono (fun a p vs I2 H2 e2 s2 rv => ⟨I2, C1, a, s2, rv, Post.mono (m := f a) p (fun b z => z.up e2) fun c i z => z.mono e2 (Ex.refl _)⟩) fun _ _ z => z)
/-! try: body, except the errors in L as e: suite -/
def tryR {α : Type} (Kn L : Ec → Bool) (m : Res α) (f : Ec → Int → Res α) : Res α := match m with
  | .ok a => .ok a
  | .exc c i => if Kn c = true then (if L c = true then f c i else .exc c i) else .bad
  | .bad => .bad
@[simp] theorem tryR_ok {α : Type} (Kn L : Ec → Bool) (a : α) (f : Ec → Int → Res α) : tryR Kn L (.ok a) f = .ok a := rfl
theorem tryR_exc {α : Type} {Kn L : Ec → Bool} {c : Ec} {i : Int} (h : Kn c = true) (h2 : L c = true) (f : Ec → Int → Res α) : tryR Kn L (.exc c i) f = f c i := by
  show (if Kn c = true then (if L c = true then f c i else .exc c i) else .bad) = f c i
  rw [if_pos h, if_pos h2]
abbrev Xb {σ' ρ' ω' : Type} (Kn L : Ec → Bool) (ms : Ec → Int → Res (Out σ' ρ')) (k : Out σ' ρ' → Res ω') (Q : ω' → Prop) (X : Ec → Int → Prop) (c : Ec) (j : Int) : Prop := Kn c = true ∧ (if L c = true then Post ((ms c j).bind k) Q X else X c j)
/-- try: .. except c as e: .. -/
def tTry (K : PySem.W.Frag) (c : Value) (i : Nat) (tb : WX → TS) (ts : Addr → Value → Option Addr → TS) (Wout : WX) : TS := fun D σ H => tb (wAs K c i ts Wout D) D σ H
theorem ps_tryS {X : Cx} {x n : Str} {c : Value} {i : Nat} {body suite : List Stmt} {b₀ : Stmt} {np pos pos' : Pos} {tb : WX → TS} {ts : Addr → Value → Option Addr → TS} {Wout : WX} (hs : X.stack = X.env :: X.outer) (hf : X.env.frame = some X.env.locals) (hN : X.N.Nodup) (hi : X.N[i]? = some n) (hln : X.env.kindOf n = some .local) (hc : Names X x c) (tk : Takes X Wout)
    (hb : ∀ (W : WX) (pn : List (Addr × Obj)) (xe : Value → Shared → Prop), Takes (X.tr pn xe) W → PassesOwn (model X.prog X.w) X.A X.env xe → PSs (X.tr pn xe) body (tb W))
    (hsu : ∀ (a : Addr) (oe : Obj) (cls : Value) (d : Option Addr) (pn : List (Addr × Obj)), Zc cls d oe → (∃ vs, oe.data = .fields vs) → PSs (X.suite a ((a, oe) :: pn)) (b₀ :: suite) (ts a cls d)) :
    PS X (.Try body [.ExceptHandler (some (.Name x np)) (some n) (b₀ :: suite) pos'] [] [] pos) (tTry X.K c i tb ts Wout) := ps_try_as hs hf hN hi hln hc tk hb hsu
/-- the word P of what stands behind it (slot i of e is empty then), Pe of where the body may break off -/
theorem s_try (P : S → L2.St → Hp → Hp → Prop) (Pe : L2.St → Hp → Hp → Prop) {i : Nat} {tb : WX → TS} {ts : Addr → Value → Option Addr → TS} {cv : Value} {Kn L : Ec → Bool} {mb : Res (Out S ρ)} {ms : Ec → Int → Res (Out S ρ)} {k : Out S ρ → Res ω}
    (hexm : ∀ c, Kn c = true → PySem.W.exmOne K (.ref (He.ga K c.name)) cv = some (L c) ∧ ErrC K mg fI c)
    (hX : ∀ σ' I' C', Ex I I' → Pe σ' I' C' → XH X E K I' C')
    (hP : ∀ σ' I' I2 C', Ex I' I2 → Pe σ' I' C' → Pe σ' I2 C')
    (hm : Post ((tryR Kn L mb ms).bind k) Q X)
    (body : ∀ (N : L2.St → Hp → Prop) (W : WX), (∀ σ' I' C', Ex I I' → Pe σ' I' C' → XH (Xb Kn L ms k Q X) (WE W σ') K I' C') →
      Post mb (fun o => match o with
        | .nx s' => ∀ σ2 I3 C3 H3, Ex I I3 → St I3 C3 H3 → P s' σ2 I3 C3 → N σ2 H3
        | o => Post (k o) Q X) (Xb Kn L ms k Q X) → tb W { D with nx := N } σ H)
    (suite : ∀ (N : L2.St → Hp → Prop) c j a cls d σ' I' C' H', Kn c = true → Cg K mg fI I' cls d c j → Ex I I' → St I' C' H' → Pe σ' I' C' → Post (ms c j) (fun o => match o with
        | .nx s' => ∀ (σ2 : L2.St) I3 C3 H3, Ex I' I3 → St I3 C3 H3 → P s' (σ2.set i none) I3 C3 → N (σ2.set i none) H3
        | o => Post (k o) Q X) X → ts a cls d { nx := fun σ1 H1 => N (σ1.set i none) H1, rt := D.rt, bk := fun σ1 H1 => D.bk (σ1.set i none) H1, ct := fun σ1 H1 => D.ct (σ1.set i none) H1 } (σ'.set i (some (.ref a))) H')
    (next : ∀ s' σ2 I3 C3 H3, Ex I I3 → St I3 C3 H3 → P s' σ2 I3 C3 → Post (k (.nx s')) Q X → tz D σ2 H3) :
    Evl.tCut (tTry K cv i tb ts (fun cls d _ H => E cls d H)) tz D σ H := by
  refine ⟨fun σ2 H3 => ∃ s' I3 C3, Ex I I3 ∧ St I3 C3 H3 ∧ P s' σ2 I3 C3 ∧ Post (k (.nx s')) Q X, ?_, fun σ2 H3 ⟨s', I3, C3, e3, s3, p, q⟩ => next s' σ2 I3 C3 H3 e3 s3 p q⟩
  refine body _ _ (fun σ' I' C' e p c j hx d I2 H2 e2 s2 hd => ?_) ?_
  · obtain ⟨kn, hx⟩ := hx
    obtain ⟨he, x⟩ := hexm c kn
    refine ⟨L c, he, fun hl a ha => ?_, fun hl => ?_⟩
    · rw [if_pos hl] at hx
      refine suite _ c j a _ (some d) σ' I2 C' H2 kn ⟨x, rfl, d, rfl, hd⟩ (e.trans e2) s2 (hP _ _ _ _ e2 p) ((Post.bind hx).mono (fun o z => ?_) fun _ _ z => z)
      cases o with
      | nx s' => exact fun (σ2 : L2.St) I3 C3 H3 e3 s3 pp => ⟨s', I3, C3, e.trans (e2.trans e3), s3, pp, z⟩
      | br s' => exact z
      | rt r => exact z
    · rw [if_neg (by rw [hl]; decide)] at hx
      exact hX σ' I' C' e p c j hx d I2 H2 e2 s2 hd
  · cases mb with
    | ok o =>
      have z : Post (k o) Q X := hm
      cases o with
      | nx s' => exact fun σ2 I3 C3 H3 e3 s3 pp => ⟨s', I3, C3, e3, s3, pp, z⟩
      | br s' => exact z
      | rt r => exact z
    | exc c j =>
      show Xb Kn L ms k Q X c j
      by_cases kn : Kn c = true
      · refine ⟨kn, ?_⟩
        have z : Post ((if Kn c = true then (if L c = true then ms c j else Res.exc c j) else .bad).bind k) Q X := hm
        rw [if_pos kn] at z
        by_cases hl : L c = true
        · rw [if_pos hl] at z
          rw [if_pos hl]
          exact z
        · rw [if_neg hl] at z
          rw [if_neg hl]
          exact z
      · have z : Post ((if Kn c = true then (if L c = true then ms c j else Res.exc c j) else .bad).bind k) Q X := hm
        rw [if_neg kn] at z
        exact z.elim
    | bad => exact hm
/-! the law -/
def spLaw (K : PySem.W.Frag) (m : List Int → Res Bool) : Sp := fun vs H Q _ => ∃ (a : Addr) (ns : List Int), vs = [.ref a] ∧ SqL K H a (ns.map V.int) ∧ ns.length ≤ 1000 ∧ Post (m ns) (fun b => ∀ v H', v = V.bl b → Q v H') XF
theorem law_start {a : Addr} {ns : List Int} (hS : SqL K H a (ns.map V.int)) (hz : ns.length ≤ 1000) : ∃ I0, St I0 Z H ∧ (pW K pI).r ns (.ref a) I0 Z := by
  refine ⟨fun b => if b = a then H a else none, ⟨fun b o h => ?_, exz, fun _ => .inr rfl⟩, a, ns.map V.int, rfl, ?_, ?_, A2.of_map (f := fun x u => pI.r x u _ Z) (h := V.int) (fun _ => rfl) ns⟩
  · by_cases q : b = a
    · rw [if_pos q] at h
      rw [q]
      exact h
    · rw [if_neg q] at h
      cases h
  · rcases hS with (h | ⟨o, h⟩) | h
    · exact .inl (.inl (by show (if a = a then H a else none) = _; rw [if_pos rfl]; exact h))
    · exact .inl (.inr ⟨o, by show (if a = a then H a else none) = _; rw [if_pos rfl]; exact h⟩)
    · exact .inr h
  · rw [List.length_map]
    exact Nat.le_trans hz (by decide)
def poolR (ns : List Int) : Res Pl := .ok (0, 0, 0, cut ns none (some 63))
@[simp] theorem poolR_eq (ns : List Int) : poolR ns = .ok (0, 0, 0, cut ns none (some 63)) := rfl
def spPool (K : PySem.W.Frag) : Sp := fun vs H Q _ => ∃ (I C : Hp) (ns : List Int) (v : V), vs = [v] ∧ St I C H ∧ (pW K pI).r ns v I Z ∧
  ∀ p ws I2 H2, Ex I I2 → C p = none → St I2 (upd C p (.lst ws)) H2 → pM.r (0, 0, 0, cut ns none (some 63)) ws I2 Z → Q (.ref p) H2
theorem n_lstP {A : Rt α} [It A] {tr : TA} {m : Res α} (h : EvA E K tr σ I C m A) (hn : A.n ≤ 100) (s : St I C H) {Q : VK} (q : Post m (fun a => ∀ p ws I2 H2, Ex I I2 → C p = none → St I2 (upd C p (.lst ws)) H2 → A.r a ws I2 Z → Q (.ref p) H2) (PX E K I C)) : tLst tr σ H Q :=
  h I C H (Ex.refl _) (Ex.refl _) s _ (q.mono (fun a p vs I2 H2 e2 s2 rv => ⟨by rw [A.len rv]; exact Nat.le_trans hn (by decide), fun t ht => p t vs I2 _ e2 (s2.c.free ht) (s2.newC ht) (It.im rv)⟩) fun _ _ z => z)
theorem q_mkpool {i j : Nat} {v : V} {ns : List Int} {k : Pl → Res ω} (hv : σ[j]? = some (some v)) (hr : (pW K pI).r ns v I Z) (s : St I C H) (hm : Post ((poolR ns).bind k) Q XF)
    (next : ∀ y p ws I2 C2 H2, Ex I I2 → St I2 C2 H2 → C2 p = some (.lst ws) → pM.r y ws I2 Z → Post (k y) Q XF → tz D (σ.set i (some (.ref p))) H2) : tSeq (tAsg (tCall (spPool K) [] E (tCons (tVar j) tNil)) (gName i)) tz D σ H :=
  ⟨v, hv, I, C, ns, v, rfl, s, hr, fun p ws I2 H2 e hp s2 hx => next _ p ws I2 _ H2 e s2 upd_same hx hm⟩
/-! a list that was not there at B -/
def pLn (B : Hp) (R : Rp α) : Rp (List α) := ⟨fun xs v I C => (pL R).r xs v I C ∧ ∀ a, v = .ref a → B a = none, fun e e' h => ⟨(pL R).mono e e' h.1, h.2⟩⟩
instance {B : Hp} {R : Rp α} [Im R] : Im (pLn B R) := ⟨fun h => ⟨Im.im h.1, h.2⟩⟩
instance {B : Hp} {R : Rp α} : NN (pLn B R) := ⟨fun h => NN.nn h.1⟩
instance {B : Hp} {R : Rp α} : TyR K (pLn B R) "list" := ⟨fun s h => TyR.ty s h.1⟩
theorem x_n2l {B : Hp} {R : Rp α} {m : Res (List α)} (h : EvX E K te σ I C m (pLn B R)) : EvX E K te σ I C m (pL R) := fun I1 C1 H1 e e' s Q q =>
  h I1 C1 H1 e e' s Q (q.mono (fun a p v I2 H2 e2 s2 rv => p v I2 H2 e2 s2 rv.1) fun _ _ z => z)
/-- f(a ..) hands back a thing of R, which looks at what was known before -/
def spPd (K : PySem.W.Frag) {α β : Type} (T : Rt α) (m : α → Res β) (R : Hp → Rp β) : Sp := fun vs H Q E => ∃ (I C : Hp) (a : α), St I C H ∧ T.r a vs I C ∧ Post (m a) (PQ (R I) I C Q) (PX E K I C)
theorem x_callD {T : Rt α} {f : α → Res β} {R : Hp → Rp β} {m : Res α} (hR : ∀ {I I2 a v I3 C3}, Ex I I2 → (R I2).r a v I3 C3 → (R I).r a v I3 C3) (h : EvA E K ta σ I C m T) : EvX E K (tCall (spPd K T f R) [] E ta) σ I C (un f m) (R I) := fun I1 C1 H1 e e' s Q q =>
  h I1 C1 H1 e e' s _ ((Post.bind q).mono (fun a p vs I2 H2 e2 s2 rv => by
    refine ⟨I2, C1, a, s2, by rw [List.append_nil]; exact rv, Post.mono (m := f a) p (fun b z v I3 H3 e3 s3 rw => z v I3 H3 (e2.trans e3) s3 (hR (e.trans e2) rw)) fun c i z => z.mono e2 (Ex.refl _)⟩) fun _ _ z => z)
theorem x_callDS {W : WX} {T : Rt α} {f : α → Res β} {R : Hp → Rp β} {m : Res α} (hR : ∀ {I I2 a v I3 C3}, Ex I I2 → (R I2).r a v I3 C3 → (R I).r a v I3 C3) (h : EvA (WE W σ) K ta σ I C m T) : EvX (WE W σ) K (tCallS (spPd K T f R) (WE W) ta) σ I C (un f m) (R I) := fun I1 C1 H1 e e' s Q q =>
  h I1 C1 H1 e e' s _ ((Post.bind q).mono (fun a p vs I2 H2 e2 s2 rv => ⟨I2, C1, a, s2, rv, Post.mono (m := f a) p (fun b z v I3 H3 e3 s3 rw => z v I3 H3 (e2.trans e3) s3 (hR (e.trans e2) rw)) fun c i z => z.mono e2 (Ex.refl _)⟩) fun _ _ z => z)
theorem paper_up {R : Rp α} {S1 : Rp β} {B B2 : Hp} {x : Str × (List α ⊕ β)} {v : V} {I C : Hp} (e : Ex B B2) (h : (pT (tc pS (t1 (pX (pLn B2 R) S1)))).r x v I C) : (pT (tc pS (t1 (pX (pLn B R) S1)))).r x v I C := by
  obtain ⟨a, vs, h1, h2, u, us, h3, h4, w, h5, h6⟩ := h
  refine ⟨a, vs, h1, h2, u, us, h3, h4, w, h5, ?_⟩
  obtain ⟨x1, x2⟩ := x
  cases x2 with
  | inl xs => exact ⟨h6.1, fun a z => e.free (h6.2 a z)⟩
  | inr b => exact h6
/-- told[1].append(0): the list of the told thing changes, none of what was known before it does -/
theorem q_appN {R : Rp Int} {S1 : Rp β} {B It : Hp} {i : Nat} {told : Str × (List Int ⊕ β)} {v : V} {b : Addr} {us : List V} {k : List Int → Res ω} (hv : σ[i]? = some (some v)) (r : (pT (tc pS (t1 (pX (pLn B R) S1)))).r told v It Z) (et : Ex It I) (eB : Ex B I) (hb : I b = some (.lst us)) (hbt : It b = none)
    (s : St I C H) (hm : Post (((getL told.2).bind fun xs => push xs 0).bind k) Q XF) (next : ∀ xs I3 H3, Ex B I3 → St I3 C H3 → I3 b = some (.lst us) → Post (k xs) Q XF → tz D σ H3) :
    tSeq (tDrop (tBM K "list" rAppend (tOp (rIxT K) (tVar i) (tC (.int ((1 : Nat) : Int)))) (tCons (tC (.int 0)) tNil))) tz D σ H := by
  obtain ⟨a, vs, rfl, h2, u, us2, rfl, h4, w, rfl, h6⟩ := r
  obtain ⟨x1, x2⟩ := told
  cases x2 with
  | inr y => exact hm.elim
  | inl xs =>
    obtain ⟨⟨p, ws, rfl, h7, h8, h9⟩, h10⟩ := h6
    have hp : I p = some (.lst ws) := et _ _ h7
    have hne : b ≠ p := fun z => by
      rw [z, h7] at hbt
      cases hbt
    have hm2 : Post ((push xs 0).bind k) Q XF := hm
    unfold push at hm2
    split at hm2
    · rename_i hlen
      have hl : ws.length < sizeLine := by
        rw [h9.len]
        exact Nat.lt_of_lt_of_le hlen (by decide)
      refine ⟨.ref a, hv, a, [u, .ref p], 1, .ref p, rfl, rfl, .inl (.inl (s.i _ _ (et _ _ h2))), rfl, .inl ⟨rfl, ws, .inl (.inl (s.i _ _ hp))⟩, p, ws, .int 0, rfl, rfl, s.i _ _ hp, hl, ?_⟩
      refine next (xs ++ [0]) (fun c => if c = p then none else I c) _ (fun c o h => ?_) ⟨fun c o h => ?_, fun c o h => ?_, fun c => ?_⟩ ?_ hm2
      · have hc : c ≠ p := fun z => by
          rw [z, h10 p rfl] at h
          cases h
        show (if c = p then none else I c) = some o
        rw [if_neg hc]
        exact eB c o h
      · by_cases hc : c = p
        · rw [if_pos hc] at h
          cases h
        · rw [if_neg hc] at h
          rw [upd_ne hc]
          exact s.i c o h
      · have hc : c ≠ p := fun z => by
          rw [z] at h
          have z2 := s.freeI h
          rw [hp] at z2
          cases z2
        rw [upd_ne hc]
        exact s.c c o h
      · by_cases hc : c = p
        · exact .inl (if_pos hc)
        · rcases s.s c with h | h
          · exact .inl (by show (if c = p then none else I c) = none; rw [if_neg hc]; exact h)
          · exact .inr h
      · show (if b = p then none else I b) = some (.lst us)
        rw [if_neg hne]
        exact hb
    · exact hm2.elim
/-- s_ifr where only what was known at J is kept -/
theorem s_ifrB (P : S → L2.St → Hp → Hp → Prop) {J : Hp} (eJ : Ex J I) {tt : TT} {tu tw : TS} {c : Res Bool} {m1 m2 : Res (Out S ρ)} {k : Out S ρ → Res ω} (h : EvT E K tt σ I C c) (s : St I C H) (hX : XH X E K I C) (hm : Post ((ifR c m1 m2).bind k) Q X)
    (h1 : ∀ (N : L2.St → Hp → Prop) I2 H2, Ex I I2 → St I2 C H2 → Post m1 (fun o => match o with
      | .nx s' => ∀ σ2 I3 C3 H3, Ex J I3 → St I3 C3 H3 → P s' σ2 I3 C3 → N σ2 H3
      | o => Post (k o) Q X) X → tu { D with nx := N } σ H2)
    (h2 : ∀ (N : L2.St → Hp → Prop) I2 H2, Ex I I2 → St I2 C H2 → Post m2 (fun o => match o with
      | .nx s' => ∀ σ2 I3 C3 H3, Ex J I3 → St I3 C3 H3 → P s' σ2 I3 C3 → N σ2 H3
      | o => Post (k o) Q X) X → tw { D with nx := N } σ H2)
    (next : ∀ s' σ2 I3 C3 H3, Ex J I3 → St I3 C3 H3 → P s' σ2 I3 C3 → Post (k (.nx s')) Q X → tz D σ2 H3) : Evl.tCut (tIfS tt tu tw) tz D σ H := by
  refine ⟨fun σ2 H3 => ∃ s' I3 C3, Ex J I3 ∧ St I3 C3 H3 ∧ P s' σ2 I3 C3 ∧ Post (k (.nx s')) Q X, ?_, fun σ2 H3 ⟨s', I3, C3, e3, s3, p, q⟩ => next s' σ2 I3 C3 H3 e3 s3 p q⟩
  refine h I C H (Ex.refl _) (Ex.refl _) s _ ((Post.bind (Post.bind hm)).mono (fun b p I2 H2 e2 s2 => ?_) hX)
  cases b with
  | true => exact h1 _ I2 H2 e2 s2 (Post.mono (m := m1) p (fun o z => by
      cases o with
      | nx s' => exact fun σ2 I3 C3 H3 e3 s3 pp => ⟨s', I3, C3, e3, s3, pp, z⟩
      | br s' => exact z
      | rt r => exact z) fun _ _ z => z)
  | false => exact h2 _ I2 H2 e2 s2 (Post.mono (m := m2) p (fun o z => by
      cases o with
      | nx s' => exact fun σ2 I3 C3 H3 e3 s3 pp => ⟨s', I3, C3, e3, s3, pp, z⟩
      | br s' => exact z
      | rt r => exact z) fun _ _ z => z)
/-! data: new lists, one of two -/
theorem de_new {B : Hp} {R : Rp α} {enc : α → PyData} {n : Nat} (d : De K R enc n) : De K (pLn B R) (fun xs => PyData.list (xs.map enc)) (n + 1) :=
  ⟨fun s h => (de_lst d).dp s h.1, fun h => (de_lst d).ly h.1, fun h => (de_lst d).de h.1, (de_lst d).eq⟩
def sEnc (f : α → PyData) (g : β → PyData) : α ⊕ β → PyData
  | .inl a => f a
  | .inr b => g b
theorem de_sum {R : Rp α} {S1 : Rp β} {f : α → PyData} {g : β → PyData} {n m : Nat} (d : De K R f n) (d' : De K S1 g m) (hd : ∀ a b, PyData.eqv (f a) (g b) = false ∧ PyData.eqv (g b) (f a) = false) : De K (pX R S1) (sEnc f g) (max n m) :=
  ⟨fun {a v I C H} s h => by
    cases a with
    | inl a => exact d.dp s h
    | inr a => exact d'.dp s h,
  fun {a v I C} h => by
    cases a with
    | inl a => exact d.ly h
    | inr a => exact d'.ly h,
  fun {a v I C} h => by
    cases a with
    | inl a => exact Nat.le_trans (d.de h) (Nat.le_max_left _ _)
    | inr a => exact Nat.le_trans (d'.de h) (Nat.le_max_right _ _),
  fun a b => by
    cases a with
    | inl a =>
      cases b with
      | inl b =>
        simp only [sEnc, Sum.inl.injEq]
        exact d.eq a b
      | inr b =>
        simp only [sEnc, (hd a b).1]
        exact ⟨fun q => (nomatch q), fun q => (nomatch q)⟩
    | inr a =>
      cases b with
      | inl b =>
        simp only [sEnc, (hd b a).2]
        exact ⟨fun q => (nomatch q), fun q => (nomatch q)⟩
      | inr b =>
        simp only [sEnc, Sum.inr.injEq]
        exact d'.eq a b⟩
theorem oEnc_no {f : α → PyData} {x : PyData} (h : ∀ a, PyData.eqv x (f a) = false ∧ PyData.eqv (f a) x = false) (h0 : PyData.eqv x .none = false ∧ PyData.eqv .none x = false) (o : Option α) : PyData.eqv x (oEnc f o) = false ∧ PyData.eqv (oEnc f o) x = false := by
  cases o with
  | none => exact h0
  | some a => exact h a
/-! isinstance of what may be None, of one of two -/
def isO {α : Type} (b : Bool) : Option α → Bool
  | some _ => b
  | none => false
def isX {α β : Type} (b : Bool) (f : β → Bool) : α ⊕ β → Bool
  | .inl _ => b
  | .inr y => f y
@[simp] theorem isO_some (b : Bool) (a : α) : isO b (some a) = b := rfl
@[simp] theorem isO_none (b : Bool) : isO b (none : Option α) = false := rfl
@[simp] theorem isX_inl (b : Bool) (f : β → Bool) (a : α) : isX b f (.inl a) = b := rfl
@[simp] theorem isX_inr (b : Bool) (f : β → Bool) (y : β) : isX b f (.inr y : α ⊕ β) = f y := rfl
theorem ty_opt {R : Rp α} {n c : String} {b : Bool} [TyR K R n] (hk : kitB n c = some b) (hn : kitB "NoneType" c = some false) {o : Option α} {v : V} {I C H : Hp} (s : St I C H) (r : (pO R).r o v I C) : ∃ t, TyX K H v t ∧ PySem.W.kitOne K t (.type c) = some (isO b o) := by
  cases o with
  | none =>
    have h : v = .non := r
    subst h
    exact ⟨_, .base .non, kit_ty hn⟩
  | some a => exact ⟨_, TyR.ty s r.1, kit_ty hk⟩
theorem o_isiO {R : Rp α} {n c : String} {b : Bool} [TyR K R n] (hk : kitB n c = some b) (hn : kitB "NoneType" c = some false) : OpL E K (rIsi K) (fun p => .ok (isO b p.1)) (tc (pO R) (t1 (pY c))) pB := fun I C H a vs s hv Q q => by
  obtain ⟨v, us, rfl, r, w, rfl, rw⟩ := hv
  have hw : w = .ty c := rw
  subst hw
  obtain ⟨t, h1, h2⟩ := ty_opt (K := K) hk hn s r
  exact ⟨v, .ty c, _, _, _, rfl, .ty c, h1, h2, PQ.now q s rfl⟩
theorem o_isiXO {R : Rp α} {S1 : Rp β} {n n2 c : String} {b b2 : Bool} [TyR K R n] [TyR K S1 n2] (hk : kitB n c = some b) (hk2 : kitB n2 c = some b2) (hn : kitB "NoneType" c = some false) : OpL E K (rIsi K) (fun p => .ok (isX b (isO b2) p.1)) (tc (pX R (pO S1)) (t1 (pY c))) pB := fun I C H a vs s hv Q q => by
  obtain ⟨v, us, rfl, r, w, rfl, rw⟩ := hv
  have hw : w = .ty c := rw
  subst hw
  obtain ⟨x, y⟩ := a
  cases x with
  | inl x => exact ⟨v, .ty c, _, _, b, rfl, .ty c, TyR.ty (R := R) s r, kit_ty hk, PQ.now q s rfl⟩
  | inr x =>
    obtain ⟨t, h1, h2⟩ := ty_opt (K := K) (R := S1) hk2 hn s r
    exact ⟨v, .ty c, _, _, _, rfl, .ty c, h1, h2, PQ.now q s rfl⟩
theorem o_isiX {R : Rp α} {S1 : Rp β} {n n2 c : String} {b b2 : Bool} [TyR K R n] [TyR K S1 n2] (hk : kitB n c = some b) (hk2 : kitB n2 c = some b2) : OpL E K (rIsi K) (fun p => .ok (isX b (fun _ => b2) p.1)) (tc (pX R S1) (t1 (pY c))) pB := fun I C H a vs s hv Q q => by
  obtain ⟨v, us, rfl, r, w, rfl, rw⟩ := hv
  have hw : w = .ty c := rw
  subst hw
  obtain ⟨x, y⟩ := a
  cases x with
  | inl x => exact ⟨v, .ty c, _, _, b, rfl, .ty c, TyR.ty (R := R) s r, kit_ty hk, PQ.now q s rfl⟩
  | inr x => exact ⟨v, .ty c, _, _, b2, rfl, .ty c, TyR.ty (R := S1) s r, kit_ty hk2, PQ.now q s rfl⟩
end
end Sd

namespace Sd
open PySem PySem.Spec PyProof.Rows L2
/-! ### the head: own errors, read by a Bool -/
def oexB (K : PySem.W.Frag) (C : Addr) : Bool := match K.lookup C with
  | some ⟨.type "type", _, .cls cd, sl⟩ => (match cd.mro, sl.toList with
    | .ref C1 :: bm, [_, _, _, _, some (.builtin n), _] => decide (C1 = C) && (decide (n = "ValueError.__new__") && (!cd.hasDel && (cd.hasDict && PySem.HandSPX.refsVE bm)))
    | _, _ => false)
  | _ => false
theorem oexB_ok {K : PySem.W.Frag} {C : Addr} (h : oexB K C = true) : ∃ nm q N bs bm sn sub ab col dd k0 k1 k2 k3 k5, K.lookup C = some (excClassObj nm q C N bs bm true sn sub ab col dd k0 k1 k2 k3 k5 "ValueError.__new__") ∧ PySem.HandSPX.refsVE bm = true := by
  unfold oexB at h
  split at h
  · rename_i dd cd sl ho
    split at h
    · rename_i C1 bm k0 k1 k2 k3 n k5 e1 e2
      obtain ⟨h1, h⟩ := Bool.and_eq_true_iff.mp h
      obtain ⟨h2, h⟩ := Bool.and_eq_true_iff.mp h
      obtain ⟨h3, h⟩ := Bool.and_eq_true_iff.mp h
      obtain ⟨h4, h5⟩ := Bool.and_eq_true_iff.mp h
      have h1 := of_decide_eq_true h1
      have h2 := of_decide_eq_true h2
      subst h1 h2
      obtain ⟨nm, bs, mro, ns, qn, hd, sn, sub, ab, col, del⟩ := cd
      simp only [Bool.not_eq_true'] at e1 e2 h3 h4
      subst e1 h3 h4
      obtain ⟨l⟩ := sl
      simp only at e2
      subst e2
      exact ⟨_, _, _, _, _, _, _, _, _, _, _, _, _, _, _, ho, h5⟩
    · cases h
  · cases h
def errB (K : PySem.W.Frag) (fI : Addr) (c : Ec) : Bool :=
  oexB K (He.ga K c.name) && (decide (PySem.W.findIn K (.ref (He.ga K c.name)) "__setattr__" = some (some (.builtin "object.__setattr__"))) && (decide (PySem.W.typeIn K (.ref (He.ga K c.name)) = some (.type "type")) && (PySem.W.keepIn K (.ref (He.ga K c.name)) &&
    (decide (PySem.W.findIn K (.ref (He.ga K c.name)) "__init__" = some (some (.ref fI))) && (decide (PySem.W.typeIn K (.ref fI) = some (.type "function")) && (decide (PySem.W.findIn K (.ref (He.ga K c.name)) "at" = some none) && (xfB K (He.ga K c.name) &&
      (decide (PySem.W.findIn K (.ref (He.ga K c.name)) "__class__" = some (some (.builtin "object.__class__"))) && (decide (PySem.W.specialIn K (.builtin "object.__class__") "__get__" = some (some (.builtin "getset_descriptor.__get__"))) && (decide (PySem.W.takesIn K (.builtin "object.__class__") = some true) &&
        (decide (PySem.W.mroIn K (He.ga K c.name) (.type "object") = some true) && (decide (PySem.W.kitOne K (.ref (He.ga K c.name)) (.type "ValueError") = some true) && He.eqO (PySem.W.nsIn K mainGlobals c.name) (some (some (.ref (He.ga K c.name))))))))))))))))
theorem errB_ok {K : PySem.W.Frag} {h : Heap} {mg : Str → Option Value} {fI : Addr} {c : Ec} (X : K.In h) (G : h.Ns mainGlobals mg) (e : errB K fI c = true) : ErrC K mg fI c := by
  unfold errB at e
  obtain ⟨h1, e⟩ := Bool.and_eq_true_iff.mp e
  obtain ⟨h2, e⟩ := Bool.and_eq_true_iff.mp e
  obtain ⟨h3, e⟩ := Bool.and_eq_true_iff.mp e
  obtain ⟨h4, e⟩ := Bool.and_eq_true_iff.mp e
  obtain ⟨h5, e⟩ := Bool.and_eq_true_iff.mp e
  obtain ⟨h6, e⟩ := Bool.and_eq_true_iff.mp e
  obtain ⟨h7, e⟩ := Bool.and_eq_true_iff.mp e
  obtain ⟨h8, e⟩ := Bool.and_eq_true_iff.mp e
  obtain ⟨h9, e⟩ := Bool.and_eq_true_iff.mp e
  obtain ⟨ha, e⟩ := Bool.and_eq_true_iff.mp e
  obtain ⟨hb, e⟩ := Bool.and_eq_true_iff.mp e
  obtain ⟨hc, e⟩ := Bool.and_eq_true_iff.mp e
  obtain ⟨hd, he⟩ := Bool.and_eq_true_iff.mp e
  have xf := xfB_ok h8
  exact ⟨⟨oexB_ok h1, of_decide_eq_true h2, xf.exC, of_decide_eq_true h3, h4⟩, of_decide_eq_true h5, of_decide_eq_true h6, PySem.W.mg_of X G (He.eqO_ok he), of_decide_eq_true h7, xf,
    ⟨xf.ga, xf.gg, xf.exC, xf.hdC, of_decide_eq_true h9, of_decide_eq_true ha, of_decide_eq_true hb, of_decide_eq_true hc⟩, of_decide_eq_true hd⟩
def errsB (cs : List Ec) (K : PySem.W.Frag) : Bool := cs.all (fun c => errB K (He.fAd K ("DeskError", some "__init__")) c) &&
  cs.all fun c => cs.all fun b => decide (PySem.W.kitOne K (.ref (He.ga K c.name)) (.ref (He.ga K b.name)) = some (isaE c b)) && decide (PySem.W.exmOne K (.ref (He.ga K c.name)) (.ref (He.ga K b.name)) = some (isaE c b))
theorem errsB_ok {cs : List Ec} {K : PySem.W.Frag} {h : Heap} {mg : Str → Option Value} (X : K.In h) (G : h.Ns mainGlobals mg) (e : errsB cs K = true) :
    (∀ c, c ∈ cs → ErrC K mg (He.fAd K ("DeskError", some "__init__")) c) ∧ (∀ c b, c ∈ cs → b ∈ cs → PySem.W.kitOne K (.ref (He.ga K c.name)) (.ref (He.ga K b.name)) = some (isaE c b)) ∧ ∀ c b, c ∈ cs → b ∈ cs → PySem.W.exmOne K (.ref (He.ga K c.name)) (.ref (He.ga K b.name)) = some (isaE c b) := by
  obtain ⟨h1, h2⟩ := Bool.and_eq_true_iff.mp e
  have h1 := List.all_eq_true.mp h1
  have h2 := List.all_eq_true.mp h2
  refine ⟨fun c hc => errB_ok X G (h1 c hc), fun c b hc hb => ?_, fun c b hc hb => ?_⟩
  · exact of_decide_eq_true (Bool.and_eq_true_iff.mp (List.all_eq_true.mp (h2 c hc) b hb)).1
  · exact of_decide_eq_true (Bool.and_eq_true_iff.mp (List.all_eq_true.mp (h2 c hc) b hb)).2
end Sd

namespace Sd
open PySem L2
/-- turns enough for any while here (not to be reckoned with) -/
noncomputable def fuel : Nat := Classical.choose (⟨1000000, rfl⟩ : ∃ n : Nat, n = 1000000)
theorem fuel_eq : fuel = 1000000 := Classical.choose_spec (⟨1000000, rfl⟩ : ∃ n : Nat, n = 1000000)
section
variable {E : XK} {K : PySem.W.Frag} {σ : L2.St} {I I' C C' H B C0 : Hp} {α β γ μ ω S ρ : Type} {R : Rp α} {S1 : Rp β} {te ta tb : TE} {tt : TT} {tz tu tw : TS} {D : Ends} {Q : ω → Prop} {X : Ec → Int → Prop} {p q : Addr}
/-! great ints -/
@[irreducible] def rMulW (a b : Int) : Res Int := if a.natAbs.log2 + b.natAbs.log2 < 1000000 then .ok (a * b) else .bad
@[irreducible] def rDivW (a b : Int) : Res Int := if 0 < b ∧ b.natAbs.log2 < 9000 then .ok (a / b) else .bad
@[irreducible] def rModN (a b : Int) : Res Int := if b ≠ 0 then .ok (a.fmod b) else .bad
theorem rMulW_ok {a b : Int} (h : a.natAbs.log2 + b.natAbs.log2 < 1000000) : rMulW a b = .ok (a * b) := by
  unfold rMulW
  exact if_pos h
theorem rDivW_ok {a b : Int} (h : 0 < b ∧ b.natAbs.log2 < 9000) : rDivW a b = .ok (a / b) := by
  unfold rDivW
  exact if_pos h
theorem rModN_ok {a b : Int} (h : b ≠ 0) : rModN a b = .ok (a.fmod b) := by
  unfold rModN
  exact if_pos h
theorem o_mulW : Op2 E K (rI CMulW fun i j => .int (i * j)) rMulW pI pI pI := fun I C H a b x y s hx hy Q q => by
  unfold rMulW at q
  split at q
  · rename_i h
    exact ⟨a, b, hx, hy, h, PQ.now q s rfl⟩
  · exact q.elim
theorem o_fdivW : Op2 E K (rI CDivW fun i j => .int (i / j)) rDivW pI pI pI := fun I C H a b x y s hx hy Q q => by
  unfold rDivW at q
  split at q
  · rename_i h
    exact ⟨a, b, hx, hy, h, PQ.now q s rfl⟩
  · exact q.elim
theorem o_modN : Op2 E K (rI (fun _ j => j ≠ 0) fun i j => .int (i.fmod j)) rModN pI pI pI := fun I C H a b x y s hx hy Q q => by
  unfold rModN at q
  split at q
  · rename_i h
    exact ⟨a, b, hx, hy, h, PQ.now q s rfl⟩
  · exact q.elim
theorem o_isNU : Op2 E K (fun x y H Q => y = .non ∧ Q (.bl (decide (x = .non))) H) (fun _ _ => .ok true) pN pN pB := fun I C H a b x y s hx hy Q q => by
  have hx : x = .non := hx
  subst hx
  exact ⟨hy, PQ.now q s rfl⟩
theorem o_notNU : Op2 E K (fun x y H Q => y = .non ∧ Q (.bl (!decide (x = .non))) H) (fun _ _ => .ok false) pN pN pB := fun I C H a b x y s hx hy Q q => by
  have hx : x = .non := hx
  subst hx
  exact ⟨hy, PQ.now q s rfl⟩
/-! xs[::-1] -/
def revR (xs : List α) : Res (List α) := .ok xs.reverse
@[simp] theorem revR_eq (xs : List α) : revR xs = .ok xs.reverse := rfl
theorem A2.reverse {f : α → V → Prop} : ∀ {xs : List α} {vs : List V}, A2 f xs vs → A2 f xs.reverse vs.reverse
  | _, _, .nil => .nil
  | _, _, .cons r t => by
    rw [List.reverse_cons, List.reverse_cons]
    exact (A2.reverse t).append (.one r)
theorem n_rev {m : Res (List α)} (h : EvX E K te σ I C m (pV R)) : EvN E K (tRevL K te) σ I C (un revR m) R := fun I1 C1 H1 e e' s Q q =>
  h I1 C1 H1 e e' s _ ((Post.bind q).mono (fun a p x I2 H2 e2 s2 rx => by
    obtain ⟨b, us, rfl, h2, h3, h4⟩ := pV.at s2 rx
    exact ⟨b, us, rfl, .inl (.inl h2), PN.new (PN.up e2 p) s2 h4.reverse (by rw [List.length_reverse]; exact h3)⟩) fun _ _ z => z)
theorem x_rev [Im R] {m : Res (List α)} (h : EvX E K te σ I C m (pV R)) : EvX E K (tRevL K te) σ I C (un revR m) (pL R) := x_own (n_rev h)
/-! n = xs.pop(), n = xs.pop()[k] -/
theorem q_pop [Im R] {i j : Nat} {xs : List α} {vs : List V} {k : α × List α → Res ω} (hv : σ[i]? = some (some (.ref p))) (hc : C p = some (.lst vs)) (hl : vs.length ≤ sizeLine) (hr : A2 (fun x u => R.r x u I Z) xs vs) (s : St I C H) (hm : Post ((popR xs).bind k) Q X)
    (next : ∀ a v vs' I2 C2 H2, Ex I I2 → St I2 C2 H2 → C2 p = some (.lst vs') → (∀ q, q ≠ p → C2 q = C q) → vs'.length ≤ sizeLine → A2 (fun x u => R.r x u I2 Z) a.2 vs' → R.r a.1 v I2 Z → Post (k a) Q X → tz D (σ.set j (some v)) H2) :
    tSeq (tAsg (tBM0 K "list" rPop (tVar i)) (gName j)) tz D σ H :=
  e_pop hv hc hl hr s hm fun a v C2 H2 s2 hc2 k2 hl2 hr2 rv hm2 => next a v _ I C2 H2 (Ex.refl _) s2 hc2 k2 hl2 hr2 rv hm2
theorem q_popk {T : Rt α} [It T] [Im S1] {i j l : Nat} {f : α → β} {xs : List α} {vs : List V} {k : α × List α → Res ω} (jj : Pj T l f S1) (hv : σ[i]? = some (some (.ref p))) (hc : C p = some (.lst vs)) (hl : vs.length ≤ sizeLine) (hr : A2 (fun x u => (pT T).r x u I Z) xs vs) (s : St I C H) (hm : Post ((popR xs).bind k) Q X)
    (next : ∀ a v vs' I2 C2 H2, Ex I I2 → St I2 C2 H2 → C2 p = some (.lst vs') → (∀ q, q ≠ p → C2 q = C q) → vs'.length ≤ sizeLine → A2 (fun x u => (pT T).r x u I2 Z) a.2 vs' → S1.r (f a.1) v I2 Z → Post (k a) Q X → tz D (σ.set j (some v)) H2) :
    tSeq (tAsg (tOp (rIxT K) (tBM0 K "list" rPop (tVar i)) (tC (.int (l : Int)))) (gName j)) tz D σ H :=
  e_pop hv hc hl hr s hm fun a v C2 H2 s2 hc2 k2 hl2 hr2 rv hm2 => o_pj (E := EZ) (K := K) jj I C2 H2 a.1 v s2 (Im.im rv) _ fun w I3 H3 e3 s3 rw =>
    next a w _ I3 C2 H3 e3 s3 hc2 k2 hl2 (hr2.imp fun _ _ h => (pT T).mono e3 (Ex.refl _) h) (Im.im rw) hm2
/-! max, min of a list -/
def gtL (x : Int) (xs : List Int) : Int := xs.foldl max x
def ltL (x : Int) (xs : List Int) : Int := xs.foldl min x
def maxL : List Int → Res Int
  | [] => .bad
  | x :: xs => .ok (gtL x xs)
def minL : List Int → Res Int
  | [] => .bad
  | x :: xs => .ok (ltL x xs)
theorem gtL_spec : ∀ (xs : List Int) (x : Int), x ≤ gtL x xs ∧ (∀ y ∈ xs, y ≤ gtL x xs) ∧ (gtL x xs = x ∨ gtL x xs ∈ xs)
  | [], x => ⟨Int.le_refl _, fun y h => (nomatch h), .inl rfl⟩
  | z :: xs, x => by
    obtain ⟨a, b, c⟩ := gtL_spec xs (max x z)
    have e : gtL x (z :: xs) = gtL (max x z) xs := rfl
    rw [e]
    refine ⟨by omega, fun y hy => ?_, ?_⟩
    · rcases List.mem_cons.mp hy with rfl | hy
      · omega
      · exact b y hy
    · rcases c with c | c
      · by_cases h : x ≤ z
        · exact .inr (by rw [c, Int.max_eq_right h]; exact List.mem_cons_self)
        · exact .inl (by rw [c]; omega)
      · exact .inr (List.mem_cons_of_mem _ c)
theorem ltL_spec : ∀ (xs : List Int) (x : Int), ltL x xs ≤ x ∧ (∀ y ∈ xs, ltL x xs ≤ y) ∧ (ltL x xs = x ∨ ltL x xs ∈ xs)
  | [], x => ⟨Int.le_refl _, fun y h => (nomatch h), .inl rfl⟩
  | z :: xs, x => by
    obtain ⟨a, b, c⟩ := ltL_spec xs (min x z)
    have e : ltL x (z :: xs) = ltL (min x z) xs := rfl
    rw [e]
    refine ⟨by omega, fun y hy => ?_, ?_⟩
    · rcases List.mem_cons.mp hy with rfl | hy
      · omega
      · exact b y hy
    · rcases c with c | c
      · by_cases h : z ≤ x
        · exact .inr (by rw [c, Int.min_eq_right h]; exact List.mem_cons_self)
        · exact .inl (by rw [c]; omega)
      · exact .inr (List.mem_cons_of_mem _ c)
theorem o_maxL : OpL E K (rMax K) maxL (t1 (pV pI)) pI := fun I C H a vs s hv Q q => by
  obtain ⟨v, rfl, h⟩ := hv
  obtain ⟨p, us, rfl, h2, h3, h4⟩ := pV.at s h
  have eu := A2.map_iff (h := V.int) (fun _ _ h => h) h4
  subst eu
  cases a with
  | nil => exact q.elim
  | cons x xs =>
    refine ⟨p, x :: xs, rfl, .inl (.inl h2), by simp, fun m hm hle => ?_⟩
    obtain ⟨a1, a2, a3⟩ := gtL_spec xs x
    have e : m = gtL x xs := by
      refine Int.le_antisymm ?_ (hle _ ?_)
      · rcases List.mem_cons.mp hm with rfl | hm
        · exact a1
        · exact a2 m hm
      · rcases a3 with a3 | a3
        · rw [a3]
          exact List.mem_cons_self
        · exact List.mem_cons_of_mem _ a3
    rw [e]
    exact PQ.now q s rfl
theorem o_minL : OpL E K (rMin K) minL (t1 (pV pI)) pI := fun I C H a vs s hv Q q => by
  obtain ⟨v, rfl, h⟩ := hv
  obtain ⟨p, us, rfl, h2, h3, h4⟩ := pV.at s h
  have eu := A2.map_iff (h := V.int) (fun _ _ h => h) h4
  subst eu
  cases a with
  | nil => exact q.elim
  | cons x xs =>
    refine ⟨p, x :: xs, rfl, .inl (.inl h2), by simp, fun m hm hle => ?_⟩
    obtain ⟨a1, a2, a3⟩ := ltL_spec xs x
    have e : m = ltL x xs := by
      refine Int.le_antisymm (hle _ ?_) ?_
      · rcases a3 with a3 | a3
        · rw [a3]
          exact List.mem_cons_self
        · exact List.mem_cons_of_mem _ a3
      · rcases List.mem_cons.mp hm with rfl | hm
        · exact a1
        · exact a2 m hm
    rw [e]
    exact PQ.now q s rfl
/-! tuples that may stand in the written part -/
theorem x_t2u {T : Rt α} {m : Res α} (h : EvX E K te σ I C m (pT T)) : EvX E K te σ I C m (pU K T) := fun I1 C1 H1 e e' s Q q =>
  h I1 C1 H1 e e' s Q (q.mono (fun a p v I2 H2 e2 s2 ⟨b, vs, h1, h2, h3⟩ => p v I2 H2 e2 s2 ⟨b, vs, h1, .inl (.inl h2), h3⟩) fun _ _ z => z)
/-! a list that is read, walked -/
theorem i_view [Im R] {i : Nat} {v : V} {xs : List α} (hv : σ[i]? = some (some v)) (h : (pV R).r xs v I B) (hB : Ex B C) :
    EvI E K (iList K (tVar i)) σ I C (fun C3 => Ex B C3) (.ok xs) R := fun I1 C1 H1 e e' s Kt q => by
  obtain ⟨a, vs, rfl, h2, h3, h4⟩ := h
  refine ⟨.ref a, hv, a, rfl, ⟨vs, .inl (.inl (h2.elim (fun z => s.i a _ (e a _ z)) fun z => s.c a _ (e' a _ (hB a _ z))))⟩, ?_⟩
  have hn := h4.len
  refine q (Itl K a) (fun H => SqL K H a vs) (YAt vs) I1 H1 (Ex.refl _) s (by omega) (by rw [← hn]; exact walk_list) (fun I3 C3 H3 e3 k3 s3 => .inl (.inl (h2.elim (fun z => s3.i a _ (e3 a _ (e a _ z))) fun z => s3.c a _ (k3 a _ z)))) (fun i x v' I3 C3 H3 H4 hx e3 _ s3 y => ?_)
  obtain ⟨rfl, y⟩ := y
  obtain ⟨w, hw, r⟩ := h4.get' hx
  rw [hw] at y
  cases y
  exact ⟨I3, Ex.refl _, s3, R.to (e.trans e3) r⟩
end
end Sd

namespace Sd
open PySem L2
section
variable {E : XK} {K : PySem.W.Frag} {σ : L2.St} {I I' C C' H B C0 : Hp} {α β γ μ ω S ρ : Type} {R : Rp α} {S1 : Rp β} {te ta tb : TE} {tt : TT} {tz tu tw : TS} {D : Ends} {Q : ω → Prop} {X : Ec → Int → Prop} {p q : Addr}
/-! ### texts -/
theorem strOk_app {a b : Str} (h : PyData.strOk a = true) (h' : PyData.strOk b = true) : PyData.strOk (a ++ b) = true := by
  unfold PyData.strOk at *
  show (a.cps ++ b.cps).all _ = true
  rw [Array.all_append, h, h']
  rfl
theorem strOk_one {z : Str} {c : Nat} (h : PyData.strOk z = true) (hc : c ∈ z.cps.toList) : PyData.strOk ⟨#[c]⟩ = true := by
  unfold PyData.strOk at *
  rw [Array.all_eq_true'] at h
  have := h c (Array.mem_toList_iff.mp hc)
  simp at this ⊢
  exact this
@[irreducible] def rCatS (a b : Str) : Res Str := if a.length + b.length ≤ 1000000 then .ok (a ++ b) else .bad
theorem rCatS_ok {a b : Str} (h : a.length + b.length ≤ 1000000) : rCatS a b = .ok (a ++ b) := by
  unfold rCatS
  exact if_pos h
theorem o_catS : Op2 E K (fun x y H Q => ∃ i j, x = .str i ∧ y = .str j ∧ i.length + j.length ≤ sizeLine ∧ Q (.str (i ++ j)) H) rCatS pS pS pS := fun I C H a b x y s hx hy Q q => by
  unfold rCatS at q
  split at q
  · rename_i h
    exact ⟨a, b, hx.1, hy.1, Nat.le_trans h (by decide), PQ.now q s ⟨rfl, strOk_app hx.2 hy.2⟩⟩
  · exact q.elim
@[irreducible] def rLenS (a : Str) : Res Int := if a.length ≤ 1000000 then .ok (a.length : Int) else .bad
theorem rLenS_ok {a : Str} (h : a.length ≤ 1000000) : rLenS a = .ok (a.length : Int) := by
  unfold rLenS
  exact if_pos h
abbrev rLenS1 : List V → Hp → VK → Prop := fun xs H Q => ∃ z, xs = [.str z] ∧ z.length ≤ sizeLine ∧ Q (.int z.length) H
theorem o_lenS : OpL E K rLenS1 rLenS (t1 pS) pI := fun I C H a vs s hv Q q => by
  obtain ⟨v, rfl, h, _⟩ := hv
  subst h
  unfold rLenS at q
  split at q
  · rename_i h
    exact ⟨a, rfl, Nat.le_trans h (by decide), PQ.now q s rfl⟩
  · exact q.elim
@[irreducible] def ixS (z : Str) (i : Int) : Res Str := if z.length ≤ 1000000 then (match atI z.cps.toList i with
    | some c => .ok ⟨#[c]⟩
    | none => .bad) else .bad
theorem ixS_ok {z : Str} {i : Int} {c : Nat} (h : z.length ≤ 1000000) (hc : atI z.cps.toList i = some c) : ixS z i = .ok ⟨#[c]⟩ := by
  unfold ixS
  rw [if_pos h, hc]
theorem atI_mem {α : Type} {l : List α} {i : Int} {x : α} (h : atI l i = some x) : x ∈ l := by
  unfold atI at h
  cases q : ixN l.length i with
  | none =>
    rw [q] at h
    cases h
  | some j =>
    rw [q] at h
    exact List.mem_of_getElem? h
theorem o_ixS : Op2 E K rIxS ixS pS pI pS := fun I C H a b x y s hx hy Q q => by
  unfold ixS at q
  split at q
  · rename_i h
    cases hc : atI a.cps.toList b with
    | none =>
      rw [hc] at q
      exact q.elim
    | some c =>
      rw [hc] at q
      exact ⟨a, b, c, hx.1, hy, Nat.le_trans h (by decide), hc, PQ.now q s ⟨rfl, strOk_one hx.2 (atI_mem hc)⟩⟩
  · exact q.elim
/-- text * n -/
def repS (z : Str) (n : Int) : Str := if n < 1 then Str.empty else if (n == 1 || z.length == 0) = true then z else ⟨(List.replicate n.toNat z.cps).foldl (· ++ ·) #[]⟩
theorem repS_len {c : Array Nat} {n : Nat} : (⟨(List.replicate n c).foldl (· ++ ·) #[]⟩ : Str).length = c.size * n := by
  have key : ∀ (n : Nat) (a : Array Nat), ((List.replicate n c).foldl (· ++ ·) a).size = a.size + c.size * n := by
    intro n
    induction n with
    | zero => intro a; simp
    | succ n ih =>
      intro a
      rw [List.replicate_succ, List.foldl_cons, ih, Array.size_append, Nat.mul_succ]
      omega
  show ((List.replicate n c).foldl (· ++ ·) #[]).size = _
  rw [key]
  simp
def rRepS : R2 := fun x y H Q => ∃ z n, x = .str z ∧ y = .int n ∧ n.natAbs ≤ 1000000 ∧ z.length * n.toNat ≤ 1000000 ∧ Q (.str (repS z n)) H
theorem op_repS {X : Cx} : OpR X (binaryOp .Mult) rRepS := by
  intro pins s σ H x y v u Q I rx ry h
  obtain ⟨z, n, rfl, rfl, hn, hz, q⟩ := h
  obtain ⟨t, rfl⟩ := rx
  obtain ⟨t', rfl⟩ := ry
  refine P.mul_str (by
    have h1 : ¬ n < -(2 ^ 63 : Int) := by omega
    have h2 : ¬ n ≥ 2 ^ 63 := by omega
    rw [decide_eq_false h1, decide_eq_false h2]
    rfl) (fun h1 h2 => ?_) (fun h1 h2 => ?_) ?_
  · have hp : 0 < n := by omega
    have h3 : (z.length : Int) * n ≤ 1000000 := by
      have : ((z.length * n.toNat : Nat) : Int) = (z.length : Int) * n := by
        rw [Int.natCast_mul]
        congr 1
        omega
      omega
    have h4 : (z.length : Int) ≤ (2 ^ 63 - 1) / n := (Int.le_ediv_iff_mul_le hp).mpr (by omega)
    omega
  · unfold Builtin.Str.tooLong
    have : ¬ z.length * n.toNat > sizeLine := by
      have : (1000000 : Nat) ≤ sizeLine := by decide
      omega
    first
      | exact decide_eq_false this
      | (simp [Builtin.tooLong]; omega)
  · unfold repS at q
    by_cases h1 : n < 1
    · rw [if_pos h1] at q ⊢
      exact ⟨by decide, .str Str.empty, H, I.tok _, ⟨_, rfl⟩, q⟩
    · rw [if_neg h1] at q ⊢
      by_cases h2 : (n == 1 || z.length == 0) = true
      · rw [if_pos h2] at q ⊢
        exact ⟨.str z, H, I, ⟨_, rfl⟩, q⟩
      · rw [if_neg h2] at q ⊢
        refine ⟨?_, .str _, H, I.tok _, ⟨_, rfl⟩, q⟩
        rw [repS_len]
        exact Nat.le_trans hz (by decide)
theorem repS_ok {z : Str} {n : Int} (h : PyData.strOk z = true) : PyData.strOk (repS z n) = true := by
  unfold repS
  split
  · decide +kernel
  · split
    · exact h
    · have key : ∀ (n : Nat) (a : Array Nat), PyData.strOk ⟨a⟩ = true → PyData.strOk ⟨(List.replicate n z.cps).foldl (· ++ ·) a⟩ = true := by
        intro n
        induction n with
        | zero => intro a h; exact h
        | succ n ih =>
          intro a ha
          rw [List.replicate_succ, List.foldl_cons]
          exact ih _ (strOk_app (a := ⟨a⟩) (b := z) ha h)
      exact key n.toNat #[] (by decide +kernel)
@[irreducible] def repSR (z : Str) (n : Int) : Res Str := if n.natAbs ≤ 1000000 ∧ z.length * n.toNat ≤ 1000000 then .ok (repS z n) else .bad
theorem repSR_ok {z : Str} {n : Int} (h : n.natAbs ≤ 1000000 ∧ z.length * n.toNat ≤ 1000000) : repSR z n = .ok (repS z n) := by
  unfold repSR
  exact if_pos h
theorem o_repS : Op2 E K rRepS repSR pS pI pS := fun I C H a b x y s hx hy Q q => by
  unfold repSR at q
  split at q
  · rename_i h
    exact ⟨a, b, hx.1, hy, h.1, h.2, PQ.now q s ⟨rfl, repS_ok hx.2⟩⟩
  · exact q.elim
/-- one sign in a text -/
def oneR (a : Str) : Res Nat := if a.length = 1 then (match a.cps.toList with
    | c :: _ => .ok c
    | [] => .bad) else .bad
abbrev rOneIn : R2 := fun x y H Q => ∃ (c : Nat) (z : Str), x = .str ⟨#[c]⟩ ∧ y = .str z ∧ Q (.bl (decide (c ∈ z.cps.toList))) H
abbrev rOneNin : R2 := fun x y H Q => ∃ (c : Nat) (z : Str), x = .str ⟨#[c]⟩ ∧ y = .str z ∧ Q (.bl (!decide (c ∈ z.cps.toList))) H
def inC (a b : Str) : Res Bool := (oneR a).bind fun c => .ok (decide (c ∈ b.cps.toList))
def ninC (a b : Str) : Res Bool := (oneR a).bind fun c => .ok (!decide (c ∈ b.cps.toList))
theorem oneR_ok (c : Nat) : oneR ⟨#[c]⟩ = .ok c := rfl
theorem oneR_is {a : Str} {c : Nat} (h : oneR a = .ok c) : a = ⟨#[c]⟩ := by
  unfold oneR at h
  split at h
  · rename_i h1
    obtain ⟨⟨l⟩⟩ := a
    have h1 : l.length = 1 := h1
    match l, h1 with
    | [d], _ =>
      cases h
      rfl
  · cases h
theorem o_inC : Op2 E K rOneIn inC pS pS pB := fun I C H a b x y s hx hy Q q => by
  unfold inC at q
  cases h : oneR a with
  | ok c =>
    rw [h] at q
    exact ⟨c, b, by rw [hx.1, oneR_is h], hy.1, PQ.now q s rfl⟩
  | exc c i =>
    unfold oneR at h
    split at h
    · split at h <;> cases h
    · cases h
  | bad =>
    rw [h] at q
    exact q.elim
theorem o_ninC : Op2 E K rOneNin ninC pS pS pB := fun I C H a b x y s hx hy Q q => by
  unfold ninC at q
  cases h : oneR a with
  | ok c =>
    rw [h] at q
    exact ⟨c, b, by rw [hx.1, oneR_is h], hy.1, PQ.now q s rfl⟩
  | exc c i =>
    unfold oneR at h
    split at h
    · split at h <;> cases h
    · cases h
  | bad =>
    rw [h] at q
    exact q.elim
/-- the signs of a text, walked -/
def signs (z : Str) : List Str := z.cps.toList.map fun c => ⟨#[c]⟩
@[irreducible] def signsR (z : Str) : Res (List Str) := if z.length ≤ 1000000 then .ok (signs z) else .bad
theorem signsR_ok {z : Str} (h : z.length ≤ 1000000) : signsR z = .ok (signs z) := by
  unfold signsR
  exact if_pos h
theorem i_str {m : Res Str} (h : EvX E K te σ I C m pS) : EvI E K (iStr te) σ I C kpT (un signsR m) pS := fun I1 C1 H1 e e' s Kt q =>
  h I1 C1 H1 e e' s _ ((Post.bind q).mono (fun z p v I2 H2 e2 s2 ⟨hv, ok⟩ => by
    unfold signsR at p
    split at p
    · rename_i hz
      have hl : (signs z).length = z.cps.size := by
        unfold signs
        rw [List.length_map, Array.length_toList]
      refine ⟨z, hv, p (Its z) (fun _ => True) (fun i H v H' => H' = H ∧ ∃ c, z.cps[i]? = some c ∧ v = .str ⟨#[c]⟩) I2 H2 e2 s2 (by rw [hl]; exact Nat.le_trans hz (by decide)) (by rw [hl]; exact walk_str) (fun _ _ _ _ _ _ => trivial) (fun i x v' I3 C3 H3 H4 hx e3 _ s3 y => ?_)⟩
      obtain ⟨rfl, c, hc, rfl⟩ := y
      unfold signs at hx
      rw [List.getElem?_map, Array.getElem?_toList, hc] at hx
      cases hx
      exact ⟨I3, Ex.refl _, s3, rfl, strOk_one ok (by rw [Array.mem_toList_iff]; exact Array.mem_of_getElem? hc)⟩
    · exact p.elim) fun _ _ z => z)
/-! ### instances that do not change -/
/-- an instance of the class at Cl, its fields ns -/
def pC (Cl : Addr) (ns : List Str) (T : Rt α) : Rp α := ⟨fun x v I C => ∃ a dx vs, v = .ref a ∧ I a = some (.ins Cl dx (ns.zip vs)) ∧ T.r x vs I C, fun e e' ⟨a, dx, vs, h1, h2, h3⟩ => ⟨a, dx, vs, h1, e a _ h2, T.mono e e' h3⟩⟩
instance {Cl : Addr} {ns : List Str} {T : Rt α} [It T] : Im (pC Cl ns T) := ⟨fun ⟨a, dx, vs, h1, h2, h3⟩ => ⟨a, dx, vs, h1, h2, It.im h3⟩⟩
theorem lookup_zip : ∀ {ns : List Str} {vs : List V} {k : Nat} {f : Str}, ns[k]? = some f → (∀ j g, j < k → ns[j]? = some g → (f == g) = false) → vs.length = ns.length → (ns.zip vs).lookup f = vs[k]?
  | [], _, _, _, h, _, _ => by cases h
  | g :: ns, [], _, _, _, _, hl => by cases hl
  | g :: ns, v :: vs, 0, f, h, _, _ => by
    cases h
    simp [List.lookup]
  | g :: ns, v :: vs, k + 1, f, h, hn, hl => by
    have h0 := hn 0 g (Nat.succ_pos _) rfl
    show List.lookup f ((g, v) :: ns.zip vs) = _
    rw [List.lookup_cons, h0]
    exact lookup_zip (k := k) h (fun j g hj hg => hn (j + 1) g (Nat.succ_lt_succ hj) hg) (Nat.succ.inj hl)
theorem x_fld {Cl : Addr} {ns : List Str} {T : Rt α} {k : Nat} {f : Str} {g : α → β} {m : Res α} (c : Cls K Cl) (n : NoAttr K Cl f) (hk : ns[k]? = some f) (hn : ∀ j g, j < k → ns[j]? = some g → (f == g) = false) (hT : T.n = ns.length) (j : Pj T k g S1)
    (h : EvX E K te σ I C m (pC Cl ns T)) : EvX E K (tFld K te f) σ I C (un (fun x => .ok (g x)) m) S1 := fun I1 C1 H1 e e' s Q q =>
  h I1 C1 H1 e e' s _ ((Post.bind q).mono (fun x p v I2 H2 e2 s2 ⟨a, dx, vs, h1, h2, h3⟩ => by
    obtain ⟨w, hw, r⟩ := j x vs I2 C1 h3
    exact ⟨a, Cl, dx, ns.zip vs, w, h1, s2.i a _ h2, c, n, by rw [lookup_zip hk hn (by rw [T.len h3, hT])]; exact hw, p w I2 H2 e2 s2 r⟩) fun _ _ z => z)
/-- __init__: what is made -/
def spI (K : PySem.W.Frag) (Cl : Addr) (ns : List Str) (F : Rt γ) (T : Rt α) (f : α → Res γ) : Sp := fun vs H Q E => ∃ (I C : Hp) (x dx : Addr) (args : List V) (a : α), vs = .ref x :: args ∧ St I C H ∧ C x = some (.ins Cl dx []) ∧ T.r a args I C ∧
  Post (f a) (fun y => ∀ vs' I2 H2, Ex I I2 → St I2 (upd C x (.ins Cl dx (ns.zip vs'))) H2 → F.r y vs' I2 Z → Q .non H2) (PX E K I (off C x))
theorem x_make {Cl : Addr} {ns : List Str} {F : Rt γ} [It F] {A : Rt α} {f : α → Res γ} {tr : TA} {m : Res α} (h : EvA E K tr σ I C m A) : EvX E K (tMake Cl (spI K Cl ns F A f) [] E tr) σ I C (un f m) (pC Cl ns F) := fun I1 C1 H1 e e' s Q q =>
  h I1 C1 H1 e e' s _ ((Post.bind q).mono (fun a p vs I2 H2 e2 s2 rv x dx hx hdx hne => by
    have c1 : C1 dx = none := s2.c.free hdx
    have c2 : C1 x = none := s2.c.free hx
    have s3 := s2.newC (o := .own x) hdx
    have hx3 : upd H2 dx (.own x) x = none := by rw [upd_ne (Ne.symm hne)]; exact hx
    have s4 := s3.newC (o := .ins Cl dx []) hx3
    have ec : Ex C1 (upd (upd C1 dx (.own x)) x (.ins Cl dx [])) := (Ex.new c1).trans (Ex.new (by rw [upd_ne (Ne.symm hne)]; exact c2))
    have eo : Ex C1 (off (upd (upd C1 dx (.own x)) x (.ins Cl dx [])) x) := fun b o hb => by
      rw [off_ne (ne_of_none hb c2)]
      exact ec b o hb
    refine ⟨I2, _, x, dx, vs, a, by rw [List.append_nil], s4, upd_same, A.mono (Ex.refl _) ec rv, Post.mono (m := f a) p (fun y z vs' I3 H3 e3 s5 r5 => ⟨rfl, ?_⟩) fun c i z => z.mono e2 eo⟩
    rw [upd_upd] at s5
    have s6 := s5.frz upd_same
    have iN := s5.freeI (p := x) upd_same
    refine z (.ref x) (upd I3 x (.ins Cl dx (ns.zip vs'))) H3 (e2.trans (e3.trans (Ex.new iN))) (s6.less fun b o hb => ?_) ⟨x, dx, vs', rfl, upd_same, It.im (F.mono (Ex.new iN) (Ex.refl _) r5)⟩
    have h1 : b ≠ x := ne_of_none hb c2
    have h2 : b ≠ dx := ne_of_none hb c1
    show (if b = x then none else upd (upd C1 dx (.own x)) x (.ins Cl dx (ns.zip vs')) b) = some o
    rw [if_neg h1, upd_ne h1, upd_ne h2]
    exact hb) fun _ _ z => z)
/-- self.f = e -/
theorem q_fld [Im R] {Cl dx x : Addr} {fs : List (Str × V)} {i : Nat} {f : Str} {m : Res α} {k : α → Res ω} (c : Cls K Cl) (n : NoAttr K Cl f) (hl : fs.length < 1000) (hv : σ[i]? = some (some (.ref x))) (hc : C x = some (.ins Cl dx fs))
    (h : EvX E K te σ I C m R) (s : St I C H) (hX : XH X E K I C) (hm : Post (m.bind k) Q X)
    (next : ∀ a v I2 C2 H2, Ex I I2 → St I2 C2 H2 → C2 x = some (.ins Cl dx (putF f v fs)) → (∀ q, q ≠ x → C2 q = C q) → R.r a v I2 Z → Post (k a) Q X → tz D σ H2) : tSeq (sFld K (tVar i) te f) tz D σ H :=
  h I C H (Ex.refl _) (Ex.refl _) s _ ((Post.bind hm).mono (fun a p v I2 H2 e2 s2 rv => ⟨.ref x, hv, x, Cl, dx, fs, rfl, s2.c x _ hc, c, n, hl, next a v I2 _ _ e2 (s2.set hc) upd_same (fun q h => upd_ne h) (Im.im rv) p⟩) hX)
/-- the end of __init__ -/
theorem ret_init {Cl dx x : Addr} {ns : List Str} {F : Rt γ} {y : γ} {vs : List V} {I0 : Hp} {Q : VK} (hm : ∀ vs' I2 H2, Ex I0 I2 → St I2 (upd C0 x (.ins Cl dx (ns.zip vs'))) H2 → F.r y vs' I2 Z → Q .non H2)
    (e : Ex I0 I) (fr : Ex (off C0 x) C) (s : St I C H) (hc : C x = some (.ins Cl dx (ns.zip vs))) (r : F.r y vs I Z) : Q .non H :=
  hm vs I H e (s.less (ex_pool fr hc)) r
end
end Sd

namespace Sd
open PySem L2
/-! ### data of any depth, and the def that makes tuples of all lists within -/
inductive Da where
  | i (n : Int)
  | s (x : Str)
  | t (xs : List Da)
  | l (xs : List Da)
mutual
def dep : Da → Nat
  | .i _ => 0
  | .s _ => 0
  | .t xs => depL xs + 1
  | .l xs => depL xs + 1
def depL : List Da → Nat
  | [] => 0
  | x :: xs => max (dep x) (depL xs)
end
mutual
def frz : Da → Da
  | .i n => .i n
  | .s x => .s x
  | .t xs => .t (frzL xs)
  | .l xs => .t (frzL xs)
def frzL : List Da → List Da
  | [] => []
  | x :: xs => frz x :: frzL xs
end
theorem frzL_map : ∀ xs : List Da, frzL xs = xs.map frz
  | [] => by simp only [frzL, List.map_nil]
  | x :: xs => by simp only [frzL, List.map_cons, frzL_map xs]
theorem depL_le : ∀ {xs : List Da} {x : Da}, x ∈ xs → dep x ≤ depL xs
  | y :: ys, x, h => by
    simp only [depL]
    rcases List.mem_cons.mp h with rfl | h
    · omega
    · have := depL_le h
      omega
mutual
/-- in: lists and tuples -/
inductive RD (K : PySem.W.Frag) (I : Hp) : Da → V → Prop where
  | i (n : Int) : RD K I (.i n) (.int n)
  | s (x : Str) (h : PyData.strOk x = true) : RD K I (.s x) (.str x)
  | t {xs : List Da} {a : Addr} {vs : List V} (h : SqT K I a vs) (hl : vs.length ≤ sizeLine) (r : RDs K I xs vs) : RD K I (.t xs) (.ref a)
  | l {xs : List Da} {a : Addr} {vs : List V} (h : I a = some (.lst vs)) (hl : vs.length ≤ sizeLine) (r : RDs K I xs vs) : RD K I (.l xs) (.ref a)
inductive RDs (K : PySem.W.Frag) (I : Hp) : List Da → List V → Prop where
  | nil : RDs K I [] []
  | cons {x : Da} {v : V} {xs : List Da} {vs : List V} (r : RD K I x v) (t : RDs K I xs vs) : RDs K I (x :: xs) (v :: vs)
end
mutual
/-- out: tuples that were laid -/
inductive RO (I : Hp) : Da → V → Prop where
  | i (n : Int) : RO I (.i n) (.int n)
  | s (x : Str) (h : PyData.strOk x = true) : RO I (.s x) (.str x)
  | t {xs : List Da} {a : Addr} {vs : List V} (h : I a = some (.tup vs)) (hl : vs.length ≤ sizeLine) (r : ROs I xs vs) : RO I (.t xs) (.ref a)
inductive ROs (I : Hp) : List Da → List V → Prop where
  | nil : ROs I [] []
  | cons {x : Da} {v : V} {xs : List Da} {vs : List V} (r : RO I x v) (t : ROs I xs vs) : ROs I (x :: xs) (v :: vs)
end
mutual
theorem RD.up {K : PySem.W.Frag} {I I' : Hp} (e : Ex I I') : ∀ {d : Da} {v : V}, RD K I d v → RD K I' d v
  | _, _, .i n => .i n
  | _, _, .s x h => .s x h
  | _, _, .t h hl r => .t (ex_t e h) hl (RDs.up e r)
  | _, _, .l h hl r => .l (e _ _ h) hl (RDs.up e r)
theorem RDs.up {K : PySem.W.Frag} {I I' : Hp} (e : Ex I I') : ∀ {d : List Da} {v : List V}, RDs K I d v → RDs K I' d v
  | _, _, .nil => .nil
  | _, _, .cons r t => .cons (RD.up e r) (RDs.up e t)
end
mutual
theorem RO.up {I I' : Hp} (e : Ex I I') : ∀ {d : Da} {v : V}, RO I d v → RO I' d v
  | _, _, .i n => .i n
  | _, _, .s x h => .s x h
  | _, _, .t h hl r => .t (e _ _ h) hl (ROs.up e r)
theorem ROs.up {I I' : Hp} (e : Ex I I') : ∀ {d : List Da} {v : List V}, ROs I d v → ROs I' d v
  | _, _, .nil => .nil
  | _, _, .cons r t => .cons (RO.up e r) (ROs.up e t)
end
theorem RDs.a2 {K : PySem.W.Frag} {I : Hp} : ∀ {xs : List Da} {vs : List V}, RDs K I xs vs → A2 (fun x u => RD K I x u) xs vs
  | _, _, .nil => .nil
  | _, _, .cons r t => .cons r (RDs.a2 t)
theorem RDs.of {K : PySem.W.Frag} {I : Hp} : ∀ {xs : List Da} {vs : List V}, A2 (fun x u => RD K I x u) xs vs → RDs K I xs vs
  | _, _, .nil => .nil
  | _, _, .cons r t => .cons r (RDs.of t)
theorem ROs.a2 {I : Hp} : ∀ {xs : List Da} {vs : List V}, ROs I xs vs → A2 (fun x u => RO I x u) xs vs
  | _, _, .nil => .nil
  | _, _, .cons r t => .cons r (ROs.a2 t)
theorem ROs.of {I : Hp} : ∀ {xs : List Da} {vs : List V}, A2 (fun x u => RO I x u) xs vs → ROs I xs vs
  | _, _, .nil => .nil
  | _, _, .cons r t => .cons r (ROs.of t)
def pDd (K : PySem.W.Frag) (n : Nat) : Rp Da := ⟨fun d v I _ => RD K I d v ∧ dep d < n, fun e _ h => ⟨h.1.up e, h.2⟩⟩
def pDo : Rp Da := ⟨fun d v I _ => RO I d v, fun e _ h => h.up e⟩
instance {K : PySem.W.Frag} {n : Nat} : Im (pDd K n) := ⟨fun h => h⟩
instance : Im pDo := ⟨fun h => h⟩
/-- R as data, S what frozen makes of it -/
structure Fz (K : PySem.W.Frag) {α : Type} (R S : Rp α) (e e' : α → Da) (n : Nat) : Prop where
  enc : ∀ {a v I C}, R.r a v I C → RD K I (e a) v
  dec : ∀ {a v I C}, RO I (e' a) v → S.r a v I C
  fz : ∀ a, frz (e a) = e' a
  dp : ∀ a, dep (e a) ≤ n
section
variable {K : PySem.W.Frag} {α β γ : Type} {R S : Rp α} {R' S' : Rp β} {e e' : α → Da} {d d' : β → Da} {n m : Nat}
theorem fz_int : Fz K pI pI Da.i Da.i 0 := ⟨fun h => by cases h; exact .i _, fun h => by cases h; rfl, fun _ => by simp only [frz], fun _ => by simp only [dep]; exact Nat.le_refl _⟩
theorem fz_str : Fz K pS pS Da.s Da.s 0 := ⟨fun h => by obtain ⟨rfl, h⟩ := h; exact .s _ h, fun h => by cases h; exact ⟨rfl, by assumption⟩, fun _ => by simp only [frz], fun _ => by simp only [dep]; exact Nat.le_refl _⟩
theorem enc_all (f : Fz K R S e e' n) {I C : Hp} : ∀ {xs : List α} {vs : List V}, A2 (fun x u => R.r x u I C) xs vs → RDs K I (xs.map e) vs
  | _, _, .nil => .nil
  | _, _, .cons r t => .cons (f.enc r) (enc_all f t)
theorem dec_all (f : Fz K R S e e' n) {I C : Hp} : ∀ {xs : List α} {vs : List V}, ROs I (xs.map e') vs → A2 (fun x u => S.r x u I C) xs vs
  | [], [], _ => .nil
  | x :: xs, v :: vs, h => by
    cases h with
    | cons r t => exact .cons (f.dec r) (dec_all f t)
  | [], v :: vs, h => by cases h
  | x :: xs, [], h => by cases h
theorem fz_all (f : Fz K R S e e' n) : ∀ xs : List α, frzL (xs.map e) = xs.map e'
  | [] => by simp only [List.map_nil, frzL]
  | x :: xs => by simp only [List.map_cons, frzL, f.fz, fz_all f xs]
theorem dp_all' (f : Fz K R S e e' n) : ∀ xs : List α, depL (xs.map e) ≤ n
  | [] => by simp only [List.map_nil, depL]; exact Nat.zero_le _
  | x :: xs => by
    simp only [List.map_cons, depL]
    exact Nat.max_le.mpr ⟨f.dp x, dp_all' f xs⟩
theorem fz_L (f : Fz K R S e e' n) : Fz K (pL R) (pQ K S) (fun xs => .l (xs.map e)) (fun xs => .t (xs.map e')) (n + 1) :=
  ⟨fun ⟨a, vs, h1, h2, h3, h4⟩ => by subst h1; exact .l h2 h3 (enc_all f h4), fun h => by
    cases h with
    | t h hl r => exact ⟨_, _, rfl, .inl (.inl h), hl, dec_all f r⟩, fun xs => by simp only [frz, fz_all f], fun xs => by
    simp only [dep]
    exact Nat.succ_le_succ (dp_all' f xs)⟩
theorem fz_Q (f : Fz K R S e e' n) : Fz K (pQ K R) (pQ K S) (fun xs => .t (xs.map e)) (fun xs => .t (xs.map e')) (n + 1) :=
  ⟨fun ⟨a, vs, h1, h2, h3, h4⟩ => by subst h1; exact .t h2 h3 (enc_all f h4), fun h => by
    cases h with
    | t h hl r => exact ⟨_, _, rfl, .inl (.inl h), hl, dec_all f r⟩, fun xs => by simp only [frz, fz_all f], fun xs => by
    simp only [dep]
    exact Nat.succ_le_succ (dp_all' f xs)⟩
/-- rows -/
structure Fr (K : PySem.W.Frag) {α : Type} (R S : Rt α) (e e' : α → List Da) (n : Nat) : Prop where
  enc : ∀ {a vs I C}, R.r a vs I C → RDs K I (e a) vs ∧ vs.length ≤ 100
  dec : ∀ {a vs I C}, ROs I (e' a) vs → S.r a vs I C
  fz : ∀ a, frzL (e a) = e' a
  dp : ∀ a, depL (e a) ≤ n
theorem fr_one (f : Fz K R S e e' n) : Fr K (t1 R) (t1 S) (fun a => [e a]) (fun a => [e' a]) n := ⟨fun ⟨v, h, r⟩ => by subst h; exact ⟨.cons (f.enc r) .nil, by show 1 ≤ 100; decide⟩, fun h => by
    cases h with
    | cons r t =>
      cases t
      exact ⟨_, rfl, f.dec r⟩, fun a => by simp only [frzL, f.fz], fun a => by
    simp only [depL]
    exact Nat.max_le.mpr ⟨f.dp a, Nat.zero_le _⟩⟩
theorem fr_cons {T U : Rt β} {es es' : β → List Da} (f : Fz K R S e e' n) (g : Fr K T U es es' m) (h99 : T.n ≤ 50) : Fr K (tc R T) (tc S U) (fun a => e a.1 :: es a.2) (fun a => e' a.1 :: es' a.2) (max n m) := ⟨fun ⟨v, us, h, r, t⟩ => by
    subst h
    obtain ⟨q, ql⟩ := g.enc t
    exact ⟨.cons (f.enc r) q, by rw [List.length_cons, T.len t]; omega⟩, fun h => by
    cases h with
    | cons r t => exact ⟨_, _, rfl, f.dec r, g.dec t⟩, fun a => by simp only [frzL, f.fz, g.fz], fun a => by
    simp only [depL]
    have := f.dp a.1
    have := g.dp a.2
    omega⟩
theorem fz_T {T U : Rt β} {es es' : β → List Da} (g : Fr K T U es es' m) : Fz K (pT T) (pT U) (fun a => .t (es a)) (fun a => .t (es' a)) (m + 1) := ⟨fun ⟨a, vs, h1, h2, h3⟩ => by
    subst h1
    obtain ⟨q, ql⟩ := g.enc h3
    exact .t (.inl (.inl h2)) (Nat.le_trans ql (by decide)) q, fun h => by
    cases h with
    | t h hl r => exact ⟨_, _, rfl, h, g.dec r⟩, fun a => by simp only [frz, g.fz], fun a => by
    simp only [dep]
    exact Nat.succ_le_succ (g.dp a)⟩
variable {E : XK} {σ : L2.St} {I C : Hp} {ta : TE} {m' : Res α}
theorem x_frz {k : Nat} (f : Fz K R S e e' n) (hk : n < k) (h : EvX E K ta σ I C m' R) : EvX E K (tCall (spP K (t1 (pDd K k)) (fun a => .ok (frz a)) pDo) [] E (tCons ta tNil)) σ I C m' S := fun I1 C1 H1 x x' s Q q =>
  h I1 C1 H1 x x' s _ (q.mono (fun a p v I2 H2 e2 s2 rv => ⟨I2, C1, e a, s2, ⟨v, rfl, f.enc rv, Nat.lt_of_le_of_lt (f.dp a) hk⟩, fun w I3 H3 e3 s3 rw => p w I3 H3 (e2.trans e3) s3 (f.dec (by
    have z : RO I3 (frz (e a)) w := rw
    rw [f.fz] at z
    exact z))⟩) fun _ _ z => z)
end
/-! ### its body -/
def tyD : Da → String
  | .i _ => "int"
  | .s _ => "str"
  | .t _ => "tuple"
  | .l _ => "list"
theorem TyD {K : PySem.W.Frag} {I C H : Hp} {d : Da} {v : V} (s : St I C H) (h : RD K I d v) : TyX K H v (.type (tyD d)) := by
  cases h with
  | i n => exact .base (.int n)
  | s x h => exact .base (.str x)
  | l h hl r => exact .base (.lst (s.i _ _ h))
  | t h hl r =>
    rcases h with (h | ⟨o, h⟩) | h
    · exact .base (.tup (s.i _ _ h))
    · exact .fTuple (s.i _ _ h)
    · obtain ⟨o, its, n, hk, hc, _⟩ := h
      exact .kTuple hk hc
def isSeq : Da → Bool
  | .i _ => false
  | .s _ => false
  | .t _ => true
  | .l _ => true
theorem kit_seq {K : PySem.W.Frag} (d : Da) : PySem.W.kitAny K (.type (tyD d)) [.type "list", .type "tuple"] = some (isSeq d) := by
  unfold tyD
  cases d with
  | i n => simp only [PySem.W.kitAny, kit_ty (K := K) (show kitB "int" "list" = some false by decide +kernel), kit_ty (K := K) (show kitB "int" "tuple" = some false by decide +kernel), isSeq]
  | s n => simp only [PySem.W.kitAny, kit_ty (K := K) (show kitB "str" "list" = some false by decide +kernel), kit_ty (K := K) (show kitB "str" "tuple" = some false by decide +kernel), isSeq]
  | t n => simp only [PySem.W.kitAny, kit_ty (K := K) (show kitB "tuple" "list" = some false by decide +kernel), kit_ty (K := K) (show kitB "tuple" "tuple" = some true by decide +kernel), isSeq]
  | l n => simp only [PySem.W.kitAny, kit_ty (K := K) (show kitB "list" "list" = some true by decide +kernel), isSeq]
section
variable {K : PySem.W.Frag} {E : XK} {σ : L2.St} {I C H I0 C0 : Hp} {α β : Type} {R : Rp α} {te : TE} {v : V} {D : Ends} {Q : VK}
theorem x_isiD {m : Res Da} {n : Nat} (h : EvX E K te σ I C m (pDd K n)) : EvX E K (tCB (rIsiT K) (tCons te (tCons (tTup (tCons (tC (.ty "list")) (tCons (tC (.ty "tuple")) tNil))) tNil))) σ I C (un (fun d => .ok (isSeq d)) m) pB := fun I1 C1 H1 e e' s Q q =>
  h I1 C1 H1 e e' s _ ((Post.bind q).mono (fun d p v I2 H2 e2 s2 rv => by
    refine ⟨by decide, fun t ht => ?_⟩
    have ex := Ex.new (o := HO.tup [.ty "list", .ty "tuple"]) (s2.i.free ht)
    exact ⟨v, t, _, _, _, isSeq d, rfl, upd_same, .cons (.ty "list") (.cons (.ty "tuple") .nil), TyD (s2.newI ht) (rv.1.up ex), kit_seq d, p _ _ _ (e2.trans ex) (s2.newI ht) rfl⟩) fun _ _ z => z)
/-- a tuple that was laid -/
def pTl (R : Rp α) : Rp (List α) := ⟨fun xs v I C => ∃ a vs, v = .ref a ∧ I a = some (.tup vs) ∧ vs.length ≤ sizeLine ∧ A2 (fun x u => R.r x u I C) xs vs,
  fun e e' ⟨a, vs, h1, h2, h3, h4⟩ => ⟨a, vs, h1, e a _ h2, h3, h4.imp fun _ _ => R.mono e e'⟩⟩
theorem o_tupleI : OpL E K (rTuple1 K) idR (t1 (pV R)) (pTl R) := fun I C H a vs s hv Q q => by
  obtain ⟨v, rfl, h⟩ := hv
  obtain ⟨p, us, rfl, h2, h3, h4⟩ := pV.at s h
  exact ⟨p, us, rfl, .inl ⟨.inl (.inl h2), fun l hl => q (.ref l) (upd I l (.tup us)) _ (Ex.new (s.i.free hl)) (s.newI hl) ⟨l, us, rfl, upd_same, h3, h4.imp fun _ _ => R.mono (Ex.new (s.i.free hl)) (Ex.refl _)⟩⟩⟩
theorem frz_flat {n : Nat} {wi : TI} {ta : TE} {a : Da} (hs : St I0 C0 H) (r : RD K I0 a v) (hd : dep a < n) (hf : isSeq a = false) (hm : PQ pDo I0 C0 Q (frz a)) :
    tSeq (tIfS (tB (tCB (rIsiT K) (tCons (tVar 0) (tCons (tTup (tCons (tC (.ty "list")) (tCons (tC (.ty "tuple")) tNil))) tNil)))) (tSeq (tRet ta) tNext) tNext) (tSeq (tRet (tVar 0)) tNext) { nx := fun _ H' => Q .non H', rt := Q } [some v, none] H := by
  refine t_B (E := EZ) (x_isiD (te := tVar 0) (σ := [some v, none]) (n := n) (x_var (R := pDd K n) (i := 0) rfl ⟨r, hd⟩)) I0 C0 H (Ex.refl _) (Ex.refl _) hs _ ?_
  show Post (un (fun d => .ok (isSeq d)) (Res.ok a)) _ _
  rw [un_ok, hf]
  intro I2 H2 e2 s2
  refine ⟨v, rfl, hm v I2 H2 e2 s2 ?_⟩
  cases r with
  | i n => exact (by simp only [frz]; exact RO.i n)
  | s x h => exact (by simp only [frz]; exact RO.s x h)
  | t h hl r => cases hf
  | l h hl r => cases hf
theorem frz_deep {n : Nat} {wi : TI} {a : Da} {xs : List Da} (hs : St I0 C0 H) (r : RD K I0 a v) (hd : dep a < n + 1) (hf : isSeq a = true) (ea : frz a = .t (frzL xs)) (hm : PQ pDo I0 C0 Q (frz a))
    (hi : ∀ I1, Ex I0 I1 → EvI EZ K wi [some v, none] I1 C0 kpT (.ok xs) (pDd K n)) :
    tSeq (tIfS (tB (tCB (rIsiT K) (tCons (tVar 0) (tCons (tTup (tCons (tC (.ty "list")) (tCons (tC (.ty "tuple")) tNil))) tNil)))) (tSeq (tRet (tCB (rTuple1 K) (tCons (tLc wi (gName 1) tYes (tCall (spP K (t1 (pDd K n)) (fun a => .ok (frz a)) pDo) [] EZ (tCons (tVar 1) tNil)) [1]) tNil))) tNext) tNext) (tSeq (tRet (tVar 0)) tNext) { nx := fun _ H' => Q .non H', rt := Q } [some v, none] H := by
  refine t_B (E := EZ) (x_isiD (te := tVar 0) (σ := [some v, none]) (n := n + 1) (x_var (R := pDd K (n + 1)) (i := 0) rfl ⟨r, hd⟩)) I0 C0 H (Ex.refl _) (Ex.refl _) hs _ ?_
  show Post (un (fun d => .ok (isSeq d)) (Res.ok a)) _ _
  rw [un_ok, hf]
  intro I2 H2 e2 s2
  have lc : EvX EZ K (tLc wi (gName 1) tYes (tCall (spP K (t1 (pDd K n)) (fun a => .ok (frz a)) pDo) [] EZ (tCons (tVar 1) tNil)) [1]) [some v, none] I2 C0 ((Res.ok xs).bind (mapR fun x => un (fun a => .ok (frz a)) (Res.ok x))) (pL pDo) :=
    x_lc (hi I2 e2) g1 (fun _ _ _ _ ⟨v, h, _⟩ => by rw [h]; rfl) (fun x σ2 I3 C3 e3 c3 ⟨w, h, rw'⟩ => by subst h; exact x_call (a_one (x_var (i := 1) rfl (Rp.mono _ (Ex.refl _) exz rw')))) (fun _ _ _ _ _ e ⟨w, h, rw'⟩ => ⟨w, h, Rp.mono _ e exz rw'⟩)
  refine x_cb o_tupleI (a_one (x_v lc)) I2 C0 H2 (Ex.refl _) (Ex.refl _) s2 _ ?_
  have em : mapR (fun x => un (fun a => Res.ok (frz a)) (Res.ok x)) xs = .ok (xs.map frz) := mapR_ok fun _ _ => rfl
  show Post (un idR ((Res.ok xs).bind (mapR fun x => un (fun a => .ok (frz a)) (Res.ok x)))) _ _
  rw [Res.bind_ok, em, un_ok, idR_eq]
  intro w I3 H3 e3 s3 rw'
  refine hm w I3 H3 (e2.trans e3) s3 ?_
  obtain ⟨b, vs, rfl, h2, h3, h4⟩ := rw'
  rw [ea]
  exact .t h2 h3 (by rw [frzL_map]; exact ROs.of (h4.imp fun _ _ h => h))
/-- what is walked -/
theorem frz_src {n : Nat} {xs : List Da} (h : depL xs + 1 < n + 1) {I : Hp} {vs : List V} (r : RDs K I xs vs) : A2 (fun x u => (pDd K n).r x u I C) xs vs := by
  have key : ∀ {xs : List Da} {vs : List V}, RDs K I xs vs → (∀ x ∈ xs, dep x < n) → A2 (fun x u => (pDd K n).r x u I C) xs vs := by
    intro xs vs r
    induction xs generalizing vs with
    | nil =>
      intro _
      cases r
      exact .nil
    | cons x xs ih =>
      intro h
      cases r with
      | cons r t => exact .cons ⟨r, h x List.mem_cons_self⟩ (ih t fun y hy => h y (List.mem_cons_of_mem _ hy))
  exact key r fun x hx => Nat.lt_of_le_of_lt (depL_le hx) (by omega)
end
end Sd

namespace Sd
open PySem L2
def mthI (j : Nat) : Stmt → Stmt
  | .ClassDef _ _ _ body _ _ _ _ _ _ _ => body.getD j (.Pass ⟨0, 0, 0, 0⟩)
  | s => s
theorem putF_new {f : Str} {v : V} : ∀ {fs : List (Str × V)}, ((fs.map Prod.fst).all fun g => !decide (g = f)) = true → putF f v fs = fs ++ [(f, v)]
  | [], _ => rfl
  | (g, x) :: r, h => by
    rw [List.map_cons, List.all_cons, Bool.and_eq_true, Bool.not_eq_true', decide_eq_false_iff_not] at h
    show (if g = f then (g, v) :: r else (g, x) :: putF f v r) = _
    rw [if_neg h.1, putF_new h.2]
    rfl
theorem ex_off {C0 C : Hp} {p : Addr} (h : Ex (off C0 p) C) : Ex (off C0 p) (off C p) := fun a o ha => by
  rw [off_ne (ne_of_none ha off_same)]
  exact h a o ha
theorem nodup_to {ns : List Str} {k : Nat} {f : Str} (h : ((ns.take k).all fun g => !(f == g)) = true) : ∀ j g, j < k → ns[j]? = some g → (f == g) = false := fun j g hj hg => by
  have := List.all_eq_true.mp h g (by
    rw [List.mem_iff_getElem?]
    exact ⟨j, by rw [List.getElem?_take, if_pos hj]; exact hg⟩)
  simpa using this
/-- f(pool, a ..), what a says holds whatever is drawn -/
def spMo {α β μ : Type} (M : Rt μ) (T : Rt α) (m : α → μ → Res (β × μ)) (R : Rp β) : Sp := fun vs H Q _ => ∃ (I C : Hp) (p : Addr) (ws us : List V) (x : μ) (a : α), vs = .ref p :: us ∧ St I C H ∧ C p = some (.lst ws) ∧ M.r x ws I C ∧ T.r a us I (off C p) ∧
  Post (m a x) (fun b => ∀ v ws' I2 H2, Ex I I2 → St I2 (upd C p (.lst ws')) H2 → M.r b.2 ws' I2 (upd C p (.lst ws')) → R.r b.1 v I2 (upd C p (.lst ws')) → Q v H2) (fun _ _ => False)
def EvAMo (E : XK) (K : PySem.W.Frag) (p : Addr) {μ : Type} (M : Rt μ) (ta : TA) (σ : L2.St) (I Cp : Hp) {α : Type} (m : μ → Res (α × μ)) (T : Rt α) : Prop :=
  ∀ x ws I1 C1 H1, Ex I I1 → Ex Cp C1 → St I1 C1 H1 → C1 p = some (.lst ws) → M.r x ws I1 C1 → ∀ Q : List V → Hp → Prop, Post (m x) (fun b => ∀ vs ws' I2 H2, Ex I1 I2 → St I2 (upd C1 p (.lst ws')) H2 → M.r b.2 ws' I2 (upd C1 p (.lst ws')) → T.r b.1 vs I2 Cp → Q vs H2) (fun _ _ => False) → ta σ H1 Q
section
variable {E : XK} {K : PySem.W.Frag} {p : Addr} {μ : Type} {M : Rt μ} {σ : L2.St} {I Cp C : Hp} {α β γ : Type} {R : Rp α} {S : Rp β} {T : Rp γ} {te ta tb : TE} {tt tu : TT} {m : μ → Res (α × μ)} {n : μ → Res (β × μ)}
theorem amo {A : Rt α} [It A] {tr : TA} (h : EvAM E K p M tr σ I Cp m A) : EvAMo E K p M tr σ I Cp m A := fun x ws I1 C1 H1 e e' s hc hx Q q =>
  h x ws I1 C1 H1 e e' s hc hx _ (q.mono (fun b z vs ws' I2 H2 e2 s2 hx2 rv => z vs ws' I2 H2 e2 s2 hx2 (It.im rv)) fun _ _ z => z)
theorem amo_cons [Im R] {tr : TA} {A : Rt β} (hp : Cp p = none) (h1 : EvM E K p M te σ I Cp m R) (h2 : EvAMo E K p M tr σ I Cp n A) : EvAMo E K p M (tCons te tr) σ I Cp (pairM m n) (tc R A) := fun x ws I1 C1 H1 e e' s hc hx Q q =>
  h1 x ws I1 C1 H1 e e' s hc hx _ ((Post.bind q).mono (fun b z v ws' I2 H2 e2 s2 hx2 rv =>
    h2 b.2 ws' I2 _ H2 (e.trans e2) (e'.over hp) s2 upd_same hx2 _ ((Post.bind z).mono (fun d z2 vs ws2 I3 H3 e3 s3 hx3 rw => by
      rw [upd_upd] at s3 hx3
      exact z2 (v :: vs) ws2 I3 H3 (e2.trans e3) s3 hx3 ⟨v, vs, rfl, R.to e3 rv, rw⟩) fun _ _ z => z)) fun _ _ z => z)
theorem amo_var {tr : TA} {A : Rt β} {i : Nat} {v : V} {a : α} (hv : σ[i]? = some (some v)) (r : R.r a v I Cp) (h2 : EvAMo E K p M tr σ I Cp n A) : EvAMo E K p M (tCons (tVar i) tr) σ I Cp (pairM (liftM (.ok a)) n) (tc R A) := fun x ws I1 C1 H1 e e' s hc hx Q q =>
  ⟨v, hv, h2 x ws I1 C1 H1 e e' s hc hx _ ((Post.bind (m := n x) (k := fun d => .ok ((a, d.1), d.2)) q).mono (fun d z2 vs ws2 I3 H3 e3 s3 hx3 rw => z2 (v :: vs) ws2 I3 H3 e3 s3 hx3 ⟨v, vs, rfl, R.mono (e.trans e3) (Ex.refl _) r, rw⟩) fun _ _ z => z)⟩
theorem amo_var1 {i : Nat} {v : V} {a : α} (hv : σ[i]? = some (some v)) (r : R.r a v I Cp) : EvAMo E K p M (tCons (tVar i) tNil) σ I Cp (liftM (.ok a) : μ → Res (α × μ)) (t1 R) := fun x ws I1 C1 H1 e e' s hc hx Q q =>
  ⟨v, hv, by
    have z := q [v] ws I1 H1 (Ex.refl _)
    rw [upd_id hc] at z
    exact z s hx ⟨v, rfl, R.mono e (Ex.refl _) r⟩⟩
theorem m_callMo {A : Rt α} {f : α → μ → Res (β × μ)} {tr : TA} {i : Nat} (hp : Cp p = none) (hv : σ[i]? = some (some (.ref p))) (h : EvAMo E K p M tr σ I Cp m A) : EvM E K p M (tCall (spMo M A f S) [] E (tCons (tVar i) tr)) σ I Cp (callM f m) S := fun x ws I1 C1 H1 e e' s hc hx Q q =>
  ⟨.ref p, hv, h x ws I1 C1 H1 e e' s hc hx _ ((Post.bind q).mono (fun b z vs ws' I2 H2 e2 s2 hx2 rv => by
    have eo : Ex Cp (off (upd C1 p (.lst ws')) p) := fun a o ha => by
      have hne : a ≠ p := ne_of_none ha hp
      rw [off_ne hne, upd_ne hne]
      exact e' a o ha
    refine ⟨I2, _, p, ws', vs, b.2, b.1, by rw [List.append_nil], s2, upd_same, hx2, A.mono (Ex.refl _) eo rv, Post.mono (m := f b.1 b.2) z (fun c z w ws2 I3 H3 e3 s3 hx3 rw => ?_) fun _ _ z => z⟩
    rw [upd_upd] at s3 hx3 rw
    exact z w ws2 I3 H3 (e2.trans e3) s3 hx3 rw) fun _ _ z => z)⟩
/-- an operation whose left side is a name's value, whatever the right side draws -/
theorem m_opv [It M] {r : R2} {f : α → β → Res γ} {i : Nat} {v : V} {a : α} (hr : ∀ E, Op2 E K r f R S T) (hp : Cp p = none) (hv : σ[i]? = some (some v)) (ra : R.r a v I Cp) (h2 : EvM E K p M tb σ I Cp n S) : EvM E K p M (tOp r (tVar i) tb) σ I Cp (binM f (liftM (.ok a)) n) T := fun x ws I1 C1 H1 e e' s hc hx Q q =>
  ⟨v, hv, h2 x ws I1 C1 H1 e e' s hc hx _ ((Post.bind (m := n x) (k := fun d => (f a d.1).bind fun c => .ok (c, d.2)) q).mono (fun d z2 w ws2 I3 H3 e3 s3 hx3 rw =>
    hr E I3 _ H3 a d.1 v w s3 (R.mono (e.trans e3) (e'.over hp) ra) rw Q ((Post.bind z2).mono (fun c z3 u I4 H4 e4 s4 ru => z3 u ws2 I4 H4 (e3.trans e4) s4 (M.mono e4 (Ex.refl _) hx3) ru) fun _ _ z => z.elim)) fun _ _ z => z)⟩
end
/-! a drawn list that will change -/
def EvMN (E : XK) (K : PySem.W.Frag) (p : Addr) {μ : Type} (M : Rt μ) (te : TE) (σ : L2.St) (I Cp : Hp) {β : Type} (m : μ → Res (List β × μ)) (R : Rp β) : Prop :=
  ∀ x ws I1 C1 H1, Ex I I1 → Ex Cp C1 → St I1 C1 H1 → C1 p = some (.lst ws) → M.r x ws I1 C1 → ∀ Q : VK, Post (m x) (fun b => ∀ q vs ws' I2 H2, Ex I1 I2 → C1 q = none → St I2 (upd (upd C1 p (.lst ws')) q (.lst vs)) H2 → M.r b.2 ws' I2 Z → vs.length ≤ sizeLine → A2 (fun x u => R.r x u I2 Z) b.1 vs → Q (.ref q) H2) (fun _ _ => False) → te σ H1 Q
section
variable {E : XK} {K : PySem.W.Frag} {p : Addr} {μ : Type} {M : Rt μ} {σ : L2.St} {I Cp C H : Hp} {α β γ ω : Type} {R : Rp α} {S : Rp β} {te : TE} {tz : TS} {D : Ends} {Q : ω → Prop}
theorem mn_lc [It M] [Im S] {wi : TI} {g : TG} {vs : List Nat} {m : μ → Res (List α × μ)} {f : α → μ → Res (β × μ)} {P : α → L2.St → Hp → Hp → Prop} (hp : Cp p = none) (hi : EvIM E K p M wi σ I Cp m R) (hg : Tg K g R (wipe σ vs) P)
    (hw : ∀ x σ2 I' C', P x σ2 I' C' → wipe σ2 vs = wipe σ vs)
    (hf : ∀ x σ2 I' C', Ex I I' → Ex Cp C' → P x σ2 I' C' → EvM EZ K p M te σ2 I' (off C' p) (f x) S) : EvMN E K p M (tLc wi g tYes te vs) σ I Cp (fun x => (m x).bind fun b => mapM f b.1 b.2) S := fun x ws I1 C1 H1 e e' s hc hx Q q =>
  hi x ws I1 C1 H1 e e' s hc hx _ ((Post.bind q).mono (fun b q2 ws2 J G Y I2 H2 e2 s2 hx2 hz w hG hY D hD => by
    have cD2 : upd C1 p (.lst ws2) D = none := s2.c.free hD
    have hDp : D ≠ p := fun z => by
      rw [z, upd_same] at cD2
      cases cD2
    have cD : C1 D = none := by
      rw [upd_ne hDp] at cD2
      exact cD2
    refine lc_it w (fun i H => LcM p M S I2 C1 D (mapM f (b.1.drop i)) (fun c => ∀ q vs ws' I2 H2, Ex I1 I2 → C1 q = none → St I2 (upd (upd C1 p (.lst ws')) q (.lst vs)) H2 → M.r c.2 ws' I2 Z → vs.length ≤ sizeLine → A2 (fun x u => S.r x u I2 Z) c.1 vs → Q (.ref q) H2) i H) ⟨[], [], ws2, b.2, I2, Ex.refl _, s2.newC hD, It.im hx2, Nat.le_refl _, .nil, ?_⟩
      (fun i H hi ⟨_, _, _, _, I', e3, s3, _⟩ => hG I' _ H e3 s3) (fun i v H H' hi ⟨ys, us, ws3, x3, I', e3, s3, hx3, hn, r3, po⟩ y => ?_) (fun H ⟨ys, us, ws3, x3, I', e3, s3, hx3, hn, r3, po⟩ => ?_)
    · rw [List.drop_zero]
      exact q2
    · obtain ⟨a, ha⟩ : ∃ a, b.1[i]? = some a := ⟨b.1[i], by simp [hi]⟩
      rw [drop_cons ha] at po
      obtain ⟨I4, e4, s4, ra⟩ := hY i a v I' _ H H' ha e3 s3 y
      refine hg a v I4 _ H' _ s4 ra fun σ2 pa => ⟨hw _ _ _ _ pa, ?_⟩
      have eI : Ex I I4 := e.trans (e2.trans (e3.trans e4))
      have eC : Ex Cp (upd (upd C1 p (.lst ws3)) D (.lst us)) := (e'.over hp).trans (Ex.new (by rw [upd_ne hDp]; exact cD))
      have hcp : upd (upd C1 p (.lst ws3)) D (.lst us) p = some (.lst ws3) := by rw [upd_ne hDp.symm, upd_same]
      show te σ2 H' _
      refine hf a σ2 I4 _ eI eC pa x3 ws3 I4 _ H' (Ex.refl _) off_ex s4 hcp (It.im (M.mono e4 (Ex.refl _) hx3)) _ ((Post.bind po).mono (fun c po2 v2 ws4 I6 H6 e6 s6 hx6 rv => ?_) fun _ _ z => z)
      have hswap : upd (upd (upd C1 p (.lst ws3)) D (.lst us)) p (.lst ws4) = upd (upd C1 p (.lst ws4)) D (.lst us) := by
        funext a
        by_cases h1 : a = p
        · rw [h1, upd_same, upd_ne hDp.symm, upd_same]
        · rw [upd_ne h1]
          by_cases h2 : a = D
          · rw [h2, upd_same, upd_same]
          · rw [upd_ne h2, upd_ne h2, upd_ne h1, upd_ne h1]
      rw [hswap] at s6 hx6 rv
      have hsz : us.length < sizeLine := Nat.lt_of_le_of_lt hn (Nat.lt_of_lt_of_le hi hz)
      refine ⟨us, s6.c D _ upd_same, hsz, ⟨ys ++ [c.1], us ++ [v2], ws4, c.2, I6, e3.trans (e4.trans e6), ?_, It.im hx6, by rw [List.length_append]; exact Nat.succ_le_succ hn, ?_, ?_⟩⟩
      · have z := s6.set (o := .lst (us ++ [v2])) (p := D) upd_same
        rw [upd_upd] at z
        exact z
      · exact (r3.imp fun _ _ => S.mono (e4.trans e6) (Ex.refl _)).append (.one (Im.im rv))
      · refine (Post.bind po2).mono (fun zs z => ?_) fun _ _ z => z
        show ∀ q vs ws' I2 H2, Ex I1 I2 → C1 q = none → St I2 (upd (upd C1 p (.lst ws')) q (.lst vs)) H2 → M.r zs.2 ws' I2 Z → vs.length ≤ sizeLine → A2 (fun x u => S.r x u I2 Z) (ys ++ [c.1] ++ zs.1) vs → Q (.ref q) H2
        rw [List.append_assoc]
        exact z
    · rw [List.drop_length] at po
      have po2 : ∀ q vs ws' I2 H2, Ex I1 I2 → C1 q = none → St I2 (upd (upd C1 p (.lst ws')) q (.lst vs)) H2 → M.r x3 ws' I2 Z → vs.length ≤ sizeLine → A2 (fun x u => S.r x u I2 Z) (ys ++ []) vs → Q (.ref q) H2 := po
      rw [List.append_nil] at po2
      exact po2 D us ws3 I' H (e2.trans e3) cD s3 (It.im hx3) (Nat.le_trans hn hz) (r3.imp fun _ _ h => Im.im h)) fun _ _ z => z)
/-- xs = e, e a new list that is drawn -/
theorem qm_asgN [It M] [Im R] {x : μ} {ws : List V} {i : Nat} {m : μ → Res (List α × μ)} {k : List α × μ → Res ω} (h : EvMN E K p M te σ I (off C p) m R) (s : St I C H) (hc : C p = some (.lst ws)) (hx : M.r x ws I Z) (hm : Post ((m x).bind k) Q XF)
    (next : ∀ (b : List α × μ) (q : Addr) (vs ws' : List V) (I2 C2 C3 H2 : Hp), Ex I I2 → C q = none → (∀ a, a ≠ p → C2 a = C a) → C2 p = some (.lst ws') → St I2 C3 H2 → C3 q = some (.lst vs) → (∀ a, a ≠ q → C3 a = C2 a) → M.r b.2 ws' I2 Z → vs.length ≤ sizeLine → A2 (fun x u => R.r x u I2 Z) b.1 vs → Post (k b) Q XF → tz D (σ.set i (some (.ref q))) H2) : tSeq (tAsg te (gName i)) tz D σ H :=
  h x ws I C H (Ex.refl _) off_ex s hc (It.im hx) _ ((Post.bind hm).mono (fun b z q vs ws' I2 H2 e2 hq s2 hx2 hl hr => next b q vs ws' I2 _ _ H2 e2 hq (fun a h => upd_ne h) upd_same s2 upd_same (fun a h => upd_ne h) hx2 hl hr z) fun _ _ z => z)
end
end Sd

namespace PySem
open Sem (wp)
open AutoSeq1 (wpAny_loadPart')
theorem sd_meets_enum_tup (l : Addr) (items : Array Value) :
    Meets (Builtin.«enumerate.__new__» ⟨[.type "enumerate", .ref l], []⟩) (fun _ R s => s.heap.IsTuple l items ∧
      R (.ok (.ret (.ref (s.heap.push { cls := .type "tuple_iterator", data := .fields #[.ref l, .int 0 0] }).objs.size)))
        { s with heap := (s.heap.push { cls := .type "tuple_iterator", data := .fields #[.ref l, .int 0 0] }).push { cls := .type "enumerate", data := .fields #[.none, .bool false, .ref s.heap.objs.size, rawInt 0, .none, .none] } }) :=
  .of_wp fun prog w A R s h => by
    obtain ⟨hp, g, d, tk, os⟩ := s; obtain ⟨hL, h⟩ := h
    have hsub := sub_enumerate
    obtain ⟨ob, hl, hc, n, hd⟩ := id hL
    wp_walk using wpAny_loadPart' hl
    refine wpAny_stack_any fun st => wpAny_pure ?_
    split
    · rename_i c _ _ _ _ _
      cases (c == Value.type "enumerate")
      · wp_walk using wpAny_loadPart' hl, wpAny_pyIter_tuple hL
        exact ⟨_, rfl, h⟩
      · wp_walk using wpAny_loadPart' hl, wpAny_pyIter_tuple hL
        exact ⟨_, rfl, h⟩
    · wp_walk using wpAny_loadPart' hl, wpAny_pyIter_tuple hL
      exact ⟨_, rfl, h⟩
section
variable {prog : Program} {w : World} {A : Around} {E : Value → Shared → Prop} {s : Shared}
theorem sd_call_enum_tup {l : Addr} {items : Array Value} {Q : Value → Shared → Prop} (hL : s.heap.IsTuple l items)
    (h : ∀ h', IsEnum h' (s.heap.objs.size + 1) s.heap.objs.size 0 .none → h'.IsTupleIter s.heap.objs.size l 0 → h'.objs.size = s.heap.objs.size + 2 →
      (∀ b o, s.heap.get? b = some o → h'.get? b = some o) → Q (.ref (s.heap.objs.size + 1)) { s with heap := h' }) :
    wpAny (model prog w) A (call (.type "enumerate") [.ref l]) Q E s := by
  refine callType_new F.called_enumerate (by decide) (F.typeCall_enumerate_1 _) (F.newCall_enumerate_1 _) (fun obj => F.args_object_init_2 obj _) F.entry_enumerate_new
    (sd_meets_enum_tup l items) ⟨hL, ?_⟩
  have hz : (s.heap.push { cls := .type "tuple_iterator", data := .fields #[.ref l, .int 0 0] }).objs.size = s.heap.objs.size + 1 := Heap.size_push ..
  show _ ∧ _
  rw [hz]
  have he : IsEnum ((s.heap.push { cls := .type "tuple_iterator", data := .fields #[.ref l, .int 0 0] }).push
      { cls := .type "enumerate", data := .fields #[.none, .bool false, .ref s.heap.objs.size, rawInt 0, .none, .none] }) (s.heap.objs.size + 1) s.heap.objs.size 0 .none := by
    have := Heap.get?_push_size (s.heap.push { cls := .type "tuple_iterator", data := .fields #[.ref l, .int 0 0] })
      (o := { cls := .type "enumerate", data := .fields #[.none, .bool false, .ref s.heap.objs.size, rawInt 0, .none, .none] }) rfl
    rw [hz] at this; exact this
  refine ⟨⟨_, he, rfl⟩, h _ he ⟨_, Heap.get?_push_of_some _ (Heap.get?_push_size _ rfl), rfl, rfl⟩ (by rw [Heap.size_push, hz]) fun b o x => Heap.get?_push_of_some _ (Heap.get?_push_of_some _ x)⟩
end
end PySem
namespace L2
open PySem PySem.Spec PyProof.Rows
/-- the tuple at a as it stands at each turn, each item in a new pair -/
def IteT (K : PySem.W.Frag) (a : Addr) : It :=
  ⟨fun i H => ∃ (xs : List V) (x : V), SqT K H a xs ∧ xs[i]? = some x, fun i H v H' => ∃ T x, v = .ref T ∧ H T = none ∧ H' = upd H T (.tup [.int (i : Nat), x]) ∧ ∀ xs, SqT K H a xs → xs[i]? = some x, fun i H => ∃ xs : List V, SqT K H a xs ∧ xs.length ≤ i⟩
theorem turn_enumT {P : Program} {w : World} {K : PySem.W.Frag} {elts : List Expr} {kk : Nat} {tpos : Pos} (a e it : Addr) :
    Turn P w K (.Tuple elts kk tpos) (IteT K a) [e, it] e (fun i h => (∃ old, IsEnum h e it ((i : Nat) : Int) old) ∧ h.IsTupleIter it a i ∧ e ≠ it ∧ a ≠ it ∧ a ≠ e) where
  mem := by simp
  obj := fun i h st b hb => by
    obtain ⟨⟨old, he⟩, ⟨o, ho, hc, hd⟩, _⟩ := st
    have e' : b = e ∨ b = it := by simpa using hb
    rcases e' with z | z
    · rw [z]; exact ⟨_, he, fun v q => nomatch q⟩
    · rw [z]; exact ⟨o, ho, fun v q => by rw [hd] at q; cases q⟩
  keep := fun i h h' st k => let ⟨⟨old, he⟩, hi, hne⟩ := st; ⟨⟨old, k e (by simp) _ he⟩, hi.at fun o q => k it (by simp) o q, hne⟩
  item := by
    intro X hP hw hK hc i pins s σ H E I hf st hg
    subst hP hw hK
    obtain ⟨⟨old, he⟩, hit, hne, hai, hae⟩ := st
    obtain ⟨xs, x, hq, hx⟩ := hg
    obtain ⟨its, rv, p, hz⟩ := I.tuple hq
    obtain ⟨u, hu, ru⟩ := rv.get hx
    have hel : e < s.heap.objs.size := Heap.lt_size he
    have hil : it < s.heap.objs.size := by obtain ⟨_, q, _⟩ := hit; exact Heap.lt_size q
    have hu' : its.toArray[i]? = some u := by simpa using hu
    have hli : i < its.toArray.size := by
      rcases Nat.lt_or_ge i its.toArray.size with z | z
      · exact z
      · rw [Array.getElem?_eq_none z] at hu'; cases hu'
    refine wpAny_pyNext_enum_itemD (n := its.toArray.size) (Draws.tuple (A := X.A.in1) (I.ok.hd hc) it a hai its.toArray) he ⟨hit, p⟩ hli hne (by simp [hne, Ne.symm hae]) fun y h' tk hy ho hst' hT hsz hk => ?_
    have hyu : y = u := by
      have := hy
      rw [hu'] at this
      exact (Option.some.inj this).symm
    subst hyu
    obtain ⟨hit', _⟩ := hst'
    refine ⟨_, rfl, wpAny_letOwnedTupleGo_enum (s := { s with heap := h', toks := tk + 1 }) ho fun h'' he' sb => ?_⟩
    have hT2 : h''.get? s.heap.objs.size = some { cls := .type "tuple", data := .seq #[.int i tk, y] } := (sb.2 _ (Nat.ne_of_gt hel)).trans hT
    have new : ObjOk X.prog X.w (upd H s.heap.objs.size (.tup [.int (i : Nat), x])) h'' s.heap.objs.size (.tup [.int (i : Nat), x]) :=
      ⟨by show 2 ≤ sizeLine; decide, [.int i tk, y], .cons ⟨_, rfl⟩ (.cons ru .nil), ⟨_, hT2, rfl, _, rfl⟩⟩
    have I1 : Inv X pins σ (upd H s.heap.objs.size (.tup [.int (i : Nat), x])) { s with heap := h'', toks := tk + 1 } :=
      I.turnedNew (ch := [e, it]) (fun b ob hb q => (sb.2 b (fun z => hb (by simp [z]))).trans (hk b ob (fun z => hb (by simp [z])) (fun z => hb (by simp [z])) q)) hf (Nat.le_refl _) new
    refine ⟨.ref s.heap.objs.size, _, I1, rfl, ⟨_, x, rfl, I.hok.fresh (Nat.le_refl _), rfl, fun ys hy => by rw [I.tuple_inj hy hq]; exact hx⟩, ⟨⟨y, ?_⟩, hit'.at fun o q => (sb.2 it (Ne.symm hne)).trans q, hne, hai, hae⟩, fun b hb => ?_⟩
    · have e1 : ((i + 1 : Nat) : Int) = (i : Int) + 1 := by omega
      rw [e1]; exact he'
    · have hb' : b < s.heap.objs.size := by
        have e' : b = e ∨ b = it := by simpa using hb
        rcases e' with z | z
        · rw [z]; exact hel
        · rw [z]; exact hil
      rw [upd_ne (Nat.ne_of_lt hb')]
      exact (hf b hb).1
  done := by
    intro X hP hw hK hc i pins s σ H E I hf st hg
    subst hP hw hK
    obtain ⟨⟨old, he⟩, hit, hne, hai, hae⟩ := st
    obtain ⟨xs, hq, hx⟩ := hg
    obtain ⟨its, rv, p, hz⟩ := I.tuple hq
    obtain ⟨f0, f1, f2, f3, f4, f5⟩ := hf it (by simp)
    have hl := rv.length
    unfold pyNext
    have hT : s.TypeIs (.ref e) "enumerate" := ⟨_, he, rfl⟩
    refine wpAny_bind (wpAny_attempt (wpAny_callSpecial?_slot (name := Str.ofString "__next__") hT F.slot_enumerate_next
      (wpAny_call_entry F.slot_enumerate_next hT F.entry_enumerate_next ?_ (F.args_enumerate_next_1 _))))
    show wpAny _ _ (field (.ref e) 2 >>= _) _ _ _
    refine wpAny_bind (wpAny_field he rfl (x := .ref it) rfl ?_)
    refine wpAny_bind (wpAny_nextOf_tuple_end (A := X.A.in1) (I.ok.hd hc) hit p (by simp; omega) fun h' x he' hx' => ?_)
    obtain ⟨o, ho, hc⟩ := hx'
    refine wpAny_bind (wpAny_isInstance (T := "StopIteration") (b := true) ⟨o, ho, hc⟩ isSubtype_stop ?_)
    exact wpAny_pure ⟨rfl, I.turned (t' := s.toks) (fun b o hb q => he' b o hb q) f0 f1 f3 f4 f5⟩
  self := fun A i s Q E st h => let ⟨⟨_, he⟩, _⟩ := st; wpAny_pyIter_enum he h
def iEnumT (K : PySem.W.Frag) (ta : TA) : TI := fun σ H R => ta σ H fun vs H1 => ∃ a xs, vs = [.ref a] ∧ SqT K H1 a xs ∧ R (IteT K a) H1
theorem pi_enumT {X : Cx} {e : Expr} {ta : TA} {p pos tpos : Pos} {elts : List Expr} {kk : Nat} (hg : Gl X "enumerate") (hm : X.mg "enumerate" = none) (ha : PA X [e] ta) (hs : starEach [e] X.env = [(false, eval e X.env)] := by rfl) :
    PI X (.Tuple elts kk tpos) (.Call (.Name "enumerate" p) [e] [] pos) (iEnumT X.K ta) := by
  refine ⟨fun pins s σ H R I h => ?_⟩
  refine Call_ (ld_blt I hg hm boot_enumerate (PyProof.Rows.callWith_type1 (thn (ha.run pos pins s σ H _ I h) fun us s1 ⟨vs, H1, I1, r1, q1⟩ => ?_) hs rfl))
  obtain ⟨a, xs, ex, hq, q⟩ := q1
  subst ex
  cases r1 with
  | cons r rr =>
    cases rr
    cases r
    obtain ⟨its, rv, p', hz⟩ := I1.tuple hq
    have hal : a < s1.heap.objs.size := by obtain ⟨_, q, _⟩ := id p'; exact Heap.lt_size q
    refine sd_call_enum_tup p' fun h' he hit hsz hk => wpAny_pyIter_enum he ?_
    have I2 : Inv X pins σ H1 { s1 with heap := h' } := I1.kept (t' := s1.toks) hk
    refine ⟨s1.heap.objs.size + 1, [s1.heap.objs.size + 1, s1.heap.objs.size], _, _, H1, rfl, I2, turn_enumT a (s1.heap.objs.size + 1) s1.heap.objs.size, ⟨⟨.none, he⟩, hit, Nat.succ_ne_self _, Nat.ne_of_lt hal, Nat.ne_of_lt (Nat.lt_succ_of_lt hal)⟩, fun b hb => ?_, q⟩
    have e' : b = s1.heap.objs.size + 1 ∨ b = s1.heap.objs.size := by simpa using hb
    have hle : s1.heap.objs.size ≤ b := by
      rcases e' with z | z
      · rw [z]; exact Nat.le_add_right _ _
      · rw [z]; exact Nat.le_refl _
    exact I1.fpOk hle (I1.hok.fresh hle)
section
variable {K : PySem.W.Frag} {a : Addr} {xs : List V}
theorem walk_enumT : Walk (IteT K a) xs.length (fun H => SqT K H a xs) (YPair (fun i => some (.int (i : Nat))) (fun i => xs[i]?)) := by
  refine ⟨fun i _ hi q => ⟨xs, xs[i], q, by simp [hi]⟩, fun _ q => ⟨xs, q, Nat.le_refl _⟩, fun i H v H' _ q y => ?_⟩
  obtain ⟨T, x, h1, h2, h3, h4⟩ := y
  exact ⟨T, .int (i : Nat), x, h1, h2, h3, rfl, h4 xs q⟩
end
end L2
namespace Sd
open PySem L2
section
variable {E : XK} {K : PySem.W.Frag} {σ : L2.St} {I C : Hp} {α : Type} {R : Rp α} {ta : TA} {m : Res (List α)}
theorem i_enumT [Im R] (h : EvA E K ta σ I C m (t1 (pQ K R))) : EvI E K (iEnumT K ta) σ I C kpT (un enumR m) (pT (tc pI (t1 R))) := fun I1 C1 H1 e e' s Kt q =>
  h I1 C1 H1 e e' s _ ((Post.bind q).mono (fun xs p vs I2 H2 e2 s2 ⟨v, hv, a, us, h1, h2, h3, h4⟩ => by
    subst hv h1
    have hl := h4.len
    refine ⟨a, us, rfl, ex_t s2.i h2, p (IteT K a) (fun H => SqT K H a us) (YPair (fun i => some (.int (i : Nat))) (fun i => us[i]?)) I2 H2 e2 s2 (by rw [enumF_length]; omega) (by rw [enumF_length, ← hl]; exact walk_enumT) (fun I3 C3 H3 e3 _ s3 => ex_t (e3.trans s3.i) h2) (fun i x v' I3 C3 H3 H4 hx e3 _ s3 y => ?_)⟩
    obtain ⟨T, u, w, rfl, hT, rfl, hu, hw⟩ := y
    rw [enumF_get] at hx
    cases hz : xs[i]? with
    | none =>
      rw [hz] at hx
      cases hx
    | some z =>
      rw [hz] at hx
      cases hx
      obtain ⟨w', hw', r⟩ := h4.get' hz
      have hw2 : us[i]? = some w := hw
      rw [hw'] at hw2
      cases hw2
      cases hu
      exact new_pair s3 hT (show V.int (i : Nat) = V.int (0 + (i : Int)) by rw [Int.zero_add]) (R.to e3 r)) fun _ _ z => z)
end
end Sd
namespace L2
open PySem PySem.Spec PyProof.Rows
theorem get_list {X : Cx} : PGet X (rIxL X.K) := by
  intro pins s σ H x y v u Q I rx ry h
  obtain ⟨p, xs, i, z, rfl, rfl, hq, he, q⟩ := h
  cases rx
  obtain ⟨t, rfl⟩ := ry
  obtain ⟨its, r, pl, hz⟩ := I.list hq
  obtain ⟨j, h1, h2, h3, h4, h5⟩ := atI_get he
  obtain ⟨w, ew, rw'⟩ := r.get h2
  have hl := r.length
  have hn := line63
  have fin : EP X pins σ Q w s := ⟨z, H, I, rw', q⟩
  by_cases h0 : 0 ≤ i
  · have hj : i.toNat = j := by
      rw [seqIndex_of h0 h5] at h1
      exact Option.some.inj h1
    exact wpAny_getItem_list pl.isList h0 (by omega) (by rw [hj]; simpa using ew) fin
  · have hj : (i + (its.toArray.size : Int)).toNat = j := by
      rw [seqIndex_neg (by omega) h4] at h1
      rw [List.size_toArray, ← hl]
      exact Option.some.inj h1
    exact wpAny_getItem_list_neg pl.isList (by omega) (by rw [List.size_toArray] <;> omega) (by omega) (by rw [hj]; simpa using ew) fin
end L2
namespace Sd
open PySem L2
section
variable {E : XK} {K : PySem.W.Frag} {σ : L2.St} {I C H : Hp} {ω : Type} {Q : ω → Prop} {X : Ec → Int → Prop} {tz : TS} {D : Ends} {te ti : TE}
/-- xs[e1] += e2, numbers -/
theorem q_augL {i : Nat} {p : Addr} {xs : List Int} {vs : List V} {f : Int → Int → Int} {k : List Int → Res ω} {m mi : Res Int} (hv : σ[i]? = some (some (.ref p))) (hc : C p = some (.lst vs)) (hl : vs.length ≤ sizeLine) (hr : A2 (fun x u => pI.r x u I Z) xs vs)
    (h : EvX E K te σ I C m pI) (hi : EvX E K ti σ I C mi pI) (s : St I C H) (hX : XH X E K I C) (hm : Post ((mi.bind fun j => (ix xs j).bind fun a => m.bind fun b => setR xs j (f a b)).bind k) Q X)
    (next : ∀ ys vs' I2 C2 H2, Ex I I2 → St I2 C2 H2 → C2 p = some (.lst vs') → (∀ q, q ≠ p → C2 q = C q) → vs'.length ≤ sizeLine → A2 (fun x u => pI.r x u I2 Z) ys vs' → Post (k ys) Q X → tz D σ H2) :
    tSeq (tAugS (tVar i) ti te (rIxL K) (ipI f) rSetL) tz D σ H :=
  ⟨.ref p, hv, hi I C H (Ex.refl _) (Ex.refl _) s _ ((Post.bind (Post.bind hm)).mono (fun j po v I2 H2 e2 s2 rv => by
    have hv1 : v = .int j := rv
    subst hv1
    have po2 := Post.bind po
    cases hx : ix xs j with
    | exc c i =>
      unfold ix at hx
      split at hx <;> (try split at hx) <;> (try split at hx) <;> cases hx
    | bad =>
      rw [hx] at po2
      exact po2.elim
    | ok a =>
      rw [hx] at po2
      obtain ⟨v, e1, r⟩ := ix_atI hr hx
      have hva : v = .int a := r
      subst hva
      refine ⟨p, vs, j, _, rfl, rfl, .inl (.inl (s2.c p _ hc)), e1, ?_⟩
      refine h I2 C H2 e2 (Ex.refl _) s2 _ ((Post.bind po2).mono (fun b po3 w I3 H3 e3 s3 rw => ?_) fun c i z => (hX c i z).mono e2 (Ex.refl _))
      have hw : w = .int b := rw
      subst hw
      refine ⟨a, b, rfl, rfl, ?_⟩
      unfold setR at po3
      have hn := hr.len
      cases hj : ixN xs.length j with
      | none =>
        rw [hj] at po3
        exact po3.elim
      | some l =>
        rw [hj] at po3
        refine ⟨p, vs, j, l, rfl, rfl, s3.c p _ hc, by rw [hn]; exact hj, next (xs.set l (f a b)) (vs.set l (.int (f a b))) I3 _ _ (e2.trans e3) (s3.set hc) upd_same (fun q h => upd_ne h) (by rw [List.length_set]; exact hl) ?_ po3⟩
        exact A2.set (f := fun x u => pI.r x u I3 Z) rfl l (hr.imp fun _ _ h => h)) hX)⟩
end
/-! ### a thing seen as another -/
section
variable {E : XK} {K : PySem.W.Frag} {σ : L2.St} {I C : Hp} {α β : Type} {R : Rp α} {S : Rp β} {te : TE} {m : Res α} {f : α → β}
def Sees (R : Rp α) (S : Rp β) (f : α → β) : Prop := ∀ x v I C, R.r x v I C → S.r (f x) v I C
theorem x_see (q : Sees R S f) (h : EvX E K te σ I C m R) : EvX E K te σ I C (un (fun x => .ok (f x)) m) S := fun I1 C1 H1 e e' s Kt p =>
  h I1 C1 H1 e e' s _ ((Post.bind p).mono (fun x z v I2 H2 e2 s2 r => z v I2 H2 e2 s2 (q x v I2 C1 r)) fun _ _ z => z)
theorem A2_map {g : β → V → Prop} {h : α → V → Prop} (q : ∀ x v, h x v → g (f x) v) : ∀ {xs : List α} {vs : List V}, A2 h xs vs → A2 g (xs.map f) vs
  | _, _, .nil => .nil
  | _, _, .cons r t => .cons (q _ _ r) (A2_map q t)
theorem see_L (q : Sees R S f) : Sees (pL R) (pL S) (List.map f) := fun xs v I C ⟨a, vs, h1, h2, h3, h4⟩ => ⟨a, vs, h1, h2, h3, A2_map (fun x u r => q x u I C r) h4⟩
theorem see_Q (q : Sees R S f) : Sees (pQ K R) (pQ K S) (List.map f) := fun xs v I C ⟨a, vs, h1, h2, h3, h4⟩ => ⟨a, vs, h1, h2, h3, A2_map (fun x u r => q x u I C r) h4⟩
theorem see_t2 : Sees (pT (tc R (t1 R))) (pQ K R) (fun p : α × α => [p.1, p.2]) := fun x v I C ⟨a, vs, h1, h2, h3⟩ => by
  obtain ⟨u, us, rfl, h4, w, rfl, h5⟩ := h3
  exact ⟨a, _, h1, .inl (.inl h2), by show 2 ≤ sizeLine; decide, .cons h4 (.cons h5 .nil)⟩
end
end Sd

/-! defs called in an except suite, that raise nothing there -/
namespace L2H
open PySem PySem.Spec PyProof.Rows L2 HotX
structure FnJ (P : Program) (w : World) (K : PySem.W.Frag) (mg : Str → Option Value) (base : Heap) (CX : CXT) (k : Nat) (f : Addr) (fd : FuncData) (ps : List Str) (sp : Sp) : Prop where
  len : ∀ vs H Q E, sp vs H Q E → vs.length = ps.length
  run : ∀ (A : Around) (outer : List Env) (s : Shared) (H : Hp) (args : Args) (us : List Value) (vs : List V) (Q : VK) (E : XK) (p : Addr × Obj), RoomH k A → PinOk outer H s p → Env0 P w K mg base A outer s H → BindsTo s fd args (ps.zip us) → Vals vs us → sp vs H Q E →
    codeAny (model P w) A (.call (.ref f) args) (CR CX outer P w H s Q E) s
theorem fn_ofJ {CX : CXT} {P : Program} {w : World} {K : PySem.W.Frag} {mg : Str → Option Value} {base : Heap} {k : Nat} {f : Addr} {name qual : Str} {params : Arguments} {body : List Stmt} {scope : Scope} {dV kV doc pm cdv ct oc : Value} {an od : Option Addr}
    {osl : Array (Option Value)} {N ps : List Str} {sp : Sp} (lk : K.lookup f = some ⟨oc, od, .func (PySem.W.fnOf name qual params body scope dV kV doc pm an cdv ct), osl⟩) (hcd : PySem.W.codeIn K cdv qual = true) (S : FnScope N ps scope)
    (len : ∀ vs H Q E, sp vs H Q E → vs.length = ps.length)
    (hbody : ∀ (A : Around) (outer : List Env) (s : Shared) (H : Hp) (vs : List V) (Q : VK) (E : XK) (p : Addr × Obj), RoomH k (A.deeper (envOfC qual scope s.heap.objs.size f cdv)) → sp vs H Q E →
      ∃ t, PSs (cxH CX P w K mg base N qual scope f cdv A outer s H E p) body t ∧ t { nx := fun _ H' => Q .non H', rt := Q } (L2.start N vs) H) :
    FnJ P w K mg base CX (k + 1) f (PySem.W.fnOf name qual params body scope dV kV doc pm an cdv ct) ps sp := by
  refine ⟨len, fun A outer s H args us vs Q E p hr hpin e0 hb r hsp => ?_⟩
  have hl := len _ _ _ _ hsp
  have KX : K.In s.heap := e0.mod.kin.keeps fun b o e => (e0.bs b o e).1
  have lim : s.heap.NoLimit := e0.mod.nolimit.keeps fun b o e => (e0.bs b o e).1
  have hkind : ∀ y ∈ ps.zip us, scope.names.lookup y.1 = some .local ∨ (scope.names.lookup y.1 = some .cell ∧ ((cellsFrom (s.heap.objs.size + 1) scope.names []).lookup y.1).isSome = true) := fun ⟨n, v⟩ hy => by
    rcases S.par n (List.of_mem_zip hy).1 with q | q
    · exact .inl q
    · exact .inr ⟨q, PySem.W.cellsFrom_some _ _ _ (.inl q)⟩
  refine codeAny_call_function hr.depth (KX _ _ lk) rfl S.co S.gen rfl (PySem.W.codeRec_of KX hcd) (hb _ _ _ _ ?_)
  refine wpAny_newFunctionEnv_cells S.kind hkind fun env he s1 x => ?_
  subst he
  refine ⟨lim.keeps x.toInCall.keep, codeAny_func ?_⟩
  obtain ⟨t, ht, hq⟩ := hbody A outer s H vs Q E p (hr.deeper _) hsp
  have I : Inv (cxH CX P w K mg base N qual scope f cdv A outer s H E p) [] (L2.start N vs) H s1 := inv_startH S hpin e0 hl r x
  refine wpAny_mono (ht.run [] s1 (L2.start N vs) H _ I hq) (fun fl s' hs => ?_) fun e s' hs => hs
  have fin : ∀ {σ' : St} {H' : Hp} {v : V} {u : Value}, Inv (cxH CX P w K mg base N qual scope f cdv A outer s H E p) [] σ' H' s' → RelV v u → Q v H' → CE outer P w H s Q u s' :=
    fun {σ' H' v u} J rv q => ⟨v, H', J.os, J.bare, J.base, J.hok, rv, q⟩
  cases fl with
  | ret u =>
    obtain ⟨v, σ', H', J, rv, q⟩ := hs
    exact fin J rv q
  | next =>
    obtain ⟨σ', H', J, q⟩ := hs
    exact fin (v := V.non) (u := Value.none) J rfl q
  | brk =>
    obtain ⟨_, _, _, q⟩ := hs
    exact False.elim q
  | cont =>
    obtain ⟨_, _, _, q⟩ := hs
    exact False.elim q
section
variable {X : Cx} {CX : CXT} {k : Nat} {f C : Addr} {fd : FuncData} {ps : List Str} {sp : Sp} {E : St → XK} {x m : Str} {q pos apos : Pos} {e o : Expr} {es : List Expr} {ta : TE} {t : TA}
theorem run_fnJ {pins : List (Addr × Obj)} {σ : St} {H : Hp} {s : Shared} {Q : VK} {us : List Value} {vs : List V} {p : Addr × Obj} (F : FnJ X.prog X.w X.K X.mg X.base CX k f fd ps sp) (hr : RoomH k X.A) (hp : p ∈ X.pn) (hb : Binds X.K fd ps []) (hx : PassesAt CX X σ (E σ))
    (I : Inv X pins σ H s) (r : Vals vs us) (h : sp vs H Q (E σ)) : wpAny (model X.prog X.w) X.A (call (.ref f) us) (EP X pins σ Q) X.xe s := by
  have hl : us.length = ps.length := by rw [← r.length]; exact F.len _ _ _ _ h
  have b := hb s us I.kIn (by rw [List.append_nil]; exact hl)
  rw [List.append_nil] at b
  have P1 := I.pin p (List.mem_append_left _ hp)
  have hpin : PinOk X.stack H s p := ⟨P1.1, P1.2.1, fun hm => (List.mem_cons.mp (I.stkSub p.1 hm)).elim P1.2.2.1 P1.2.2.2.1, P1.2.2.2.2⟩
  refine wpAny_call (codeAny_mono (F.run X.A X.stack s H ⟨us, []⟩ us vs Q (E σ) p hr hpin I.env0 b r h) fun r s' hq => ?_)
  cases r with
  | error e => exact hx pins H s e s' I hq
  | ok fl =>
    cases fl with
    | ret u => exact I.after hq
    | next => exact False.elim hq
    | brk => exact False.elim hq
    | cont => exact False.elim hq
theorem pe_callJ {p : Addr × Obj} (F : FnJ X.prog X.w X.K X.mg X.base CX k f fd ps sp) (hr : RoomH k X.A) (hp : p ∈ X.pn) (hg : Gl X x) (hm : X.mg x = some (.ref f)) (hk : PySem.W.keepIn X.K (.ref f) = true) (hb : Binds X.K fd ps []) (hx : ∀ σ, PassesAt CX X σ (E σ))
    (ha : PA X (e :: es) t) (hdb : (x == ("__debug__" : Str)) = false := by decide) (he : starEach (e :: es) X.env = (false, eval e X.env) :: starEach es X.env := by rfl) (hpl : (backTo pos (starEach es X.env)).any (·.1) = false := by rfl) :
    PE X (.Call (.Name x q) (e :: es) [] pos) (tCallS sp E t) := by
  refine ⟨fun pins s σ H Q I h => ?_⟩
  refine wpAny_Call_Name_kw (ld_glob I hg hm ?_ hdb)
  refine PySem.W.callWith_K (h₀ := X.base) I.ok.mod.kin hk (thn (ha.run pos pins s σ H _ I h) fun us s1 ⟨vs, H1, I1, r, q⟩ => ⟨I1.kIn, ?_⟩) he hpl
  exact run_fnJ F hr hp hb (hx σ) I1 r q
end
end L2H
namespace L2
open PySem PySem.Spec PyProof.Rows L2H
section
variable {P : Program} {w : World} {K : PySem.W.Frag} {mg : Str → Option Value} {base : Heap} {x qual : Str} {params : Arguments} {body : List Stmt} {scope : Scope} {dvs : List V} {kws : List (Str × V)} {f : Addr} {fd : FuncData}
theorem FunD.okJ {CX : CXT} {N ps : List Str} {k : Nat} {sp : Sp} (F : FunD K x qual params body scope dvs kws f fd) (S : FnScope N ps scope) (len : ∀ vs H Q E, sp vs H Q E → vs.length = ps.length)
    (hbody : ∀ (cdv : Value) (A : Around) (outer : List Env) (s : Shared) (H : Hp) (vs : List V) (Q : VK) (E : XK) (p : Addr × Obj), RoomH k (A.deeper (envOfC qual scope s.heap.objs.size f cdv)) → sp vs H Q E →
      ∃ t, PSs (cxH CX P w K mg base N qual scope f cdv A outer s H E p) body t ∧ t { nx := fun _ H' => Q .non H', rt := Q } (start N vs) H) : FnJ P w K mg base CX (k + 1) f fd ps sp := by
  obtain ⟨oc, od, dV, kV, doc, pm, an, cdv, ct, osl, rfl, lk, hcd, _, _⟩ := F.ex
  exact fn_ofJ lk hcd S len fun A outer s H vs Q E p hr hsp => hbody cdv A outer s H vs Q E p hr hsp
end
end L2
namespace Sd
open PySem L2 PyProof.Rows
section
variable {E : XK} {K : PySem.W.Frag} {σ : L2.St} {I C : Hp} {α β : Type} {R : Rp β} {T : Rt α} {ta : TA} {m : Res α} {f : α → Res β}
theorem passZ {X : Cx} (σ : L2.St) : PassesAt (L2.CX X.prog X.w) X σ EZ := fun pins H s e s' I c => passL pins σ H s e s' I c
theorem x_callZ (n : ∀ a c i, f a ≠ .exc c i) (h : EvA E K ta σ I C m T) : EvX E K (tCallS (spP K T f R) (fun _ => EZ) ta) σ I C (un f m) R := fun I1 C1 H1 e e' s Q q =>
  h I1 C1 H1 e e' s _ ((Post.bind q).mono (fun a p vs I2 H2 e2 s2 rv => ⟨I2, C1, a, s2, rv, by
    cases hf : f a with
    | ok b =>
      rw [hf] at p
      exact fun v I3 H3 e3 s3 rw => p v I3 H3 (e2.trans e3) s3 rw
    | exc c i => exact absurd hf (n a c i)
    | bad =>
      rw [hf] at p
      exact p.elim⟩) fun _ _ z => z)
instance {R : Rp β} : TyR K (pQ K R) "tuple" := ⟨fun s ⟨a, vs, e, h, _⟩ => by
  rw [e]
  rcases h with h | ⟨o, its, n, hk, hc, _⟩
  · rcases h with h | ⟨o, h⟩
    · exact .base (.tup (s.i _ _ h))
    · exact .fTuple (s.i _ _ h)
  · exact .kTuple hk hc⟩
instance {T : Rt α} : TyR K (pU K T) "tuple" := ⟨fun s ⟨a, vs, e, h, _⟩ => by
  rw [e]
  rcases h with h | ⟨o, its, n, hk, hc, _⟩
  · rcases h with h | ⟨o, h⟩
    · exact .base (.tup (s.i _ _ h))
    · exact .fTuple (s.i _ _ h)
  · exact .kTuple hk hc⟩
end
end Sd
namespace Sd
open PySem L2 L2H PyProof.Rows
theorem roomJ {j k : Nat} {A : Around} {v : Option Value} (r : Room k A) (h : j ≤ k) : RoomH j (A.mark v) := ⟨(roomH_of r).mono h |>.dp, (roomH_of r).mono h |>.un⟩
end Sd

/-! dicts with numbers as keys, known for good; ranges from their end; lists as tests -/
namespace Sd
open PySem L2
inductive D2 {β : Type} (f : β → V → Prop) : List (Int × β) → List (Key × V) → Prop
  | nil : D2 f [] []
  | cons {k : Int} {x : β} {v : V} {kvs : List (Int × β)} {us : List (Key × V)} : f x v → D2 f kvs us → D2 f ((k, x) :: kvs) ((.inl k, v) :: us)
def dget {β : Type} (kvs : List (Int × β)) (k : Int) : Option β := (kvs.find? fun kv => decide (kv.1 = k)).map (·.2)
def dput {β : Type} (kvs : List (Int × β)) (k : Int) (v : β) : List (Int × β) :=
  if (kvs.any fun kv => decide (kv.1 = k)) = true then kvs.map (fun kv => if kv.1 = k then (kv.1, v) else kv) else kvs ++ [(k, v)]
section
variable {β : Type} {f g : β → V → Prop}
theorem D2.imp (h : ∀ x v, f x v → g x v) : ∀ {kvs us}, D2 f kvs us → D2 g kvs us
  | _, _, .nil => .nil
  | _, _, .cons r t => .cons (h _ _ r) (D2.imp h t)
theorem D2.len : ∀ {kvs us}, D2 f kvs us → us.length = kvs.length
  | _, _, .nil => rfl
  | _, _, .cons _ t => by rw [List.length_cons, List.length_cons, D2.len t]
theorem D2.get : ∀ {kvs us}, D2 f kvs us → ∀ k, (dget kvs k = none ∧ valV us (.inl k) = none) ∨ ∃ x v, dget kvs k = some x ∧ valV us (.inl k) = some v ∧ f x v
  | _, _, .nil, k => .inl ⟨rfl, rfl⟩
  | _, _, .cons (k := k0) (x := x) (v := v) r t, k => by
    have ih := D2.get t k
    unfold dget valV at ih ⊢
    rw [List.find?_cons, List.find?_cons]
    by_cases h : k0 = k
    · subst h
      simp only [decide_true]
      exact .inr ⟨x, v, rfl, rfl, r⟩
    · rw [decide_eq_false h, decide_eq_false (fun z => h (Sum.inl.inj z))]
      exact ih
theorem D2.any : ∀ {kvs us}, D2 f kvs us → ∀ k, (us.any fun kv => decide (kv.1 = Sum.inl k)) = kvs.any fun kv => decide (kv.1 = k)
  | _, _, .nil, k => rfl
  | _, _, .cons (k := k0) r t, k => by
    rw [List.any_cons, List.any_cons, D2.any t k]
    congr 1
    by_cases h : k0 = k
    · rw [h, decide_eq_true rfl, decide_eq_true rfl]
    · rw [decide_eq_false h, decide_eq_false (fun z => h (Sum.inl.inj z))]
theorem D2.app : ∀ {kvs us}, D2 f kvs us → ∀ {k x v}, f x v → D2 f (kvs ++ [(k, x)]) (us ++ [(.inl k, v)])
  | _, _, .nil, _, _, _, r => .cons r .nil
  | _, _, .cons q t, _, _, _, r => .cons q (D2.app t r)
theorem D2.map : ∀ {kvs us}, D2 f kvs us → ∀ {k x v}, f x v → D2 f (kvs.map fun kv => if kv.1 = k then (kv.1, x) else kv) (us.map fun kv => if kv.1 = Sum.inl k then (kv.1, v) else kv)
  | _, _, .nil, _, _, _, _ => .nil
  | _, _, .cons (k := k0) q t, k, x, v, r => by
    rw [List.map_cons, List.map_cons]
    by_cases h : k0 = k
    · rw [if_pos h, if_pos (by rw [h])]
      exact .cons r (D2.map t r)
    · rw [if_neg h, if_neg (fun z => h (Sum.inl.inj z))]
      exact .cons q (D2.map t r)
theorem D2.put {kvs us} (h : D2 f kvs us) {k : Int} {x : β} {v : V} (r : f x v) : D2 f (dput kvs k x) (putK us (.inl k) v) := by
  unfold dput putK
  rw [h.any k]
  split
  · exact h.map r
  · exact h.app r
end
theorem putK_len {us : List (Key × V)} {k : Key} {v : V} : (putK us k v).length ≤ us.length + 1 := by
  unfold putK
  split
  · rw [List.length_map]; omega
  · rw [List.length_append]; exact Nat.le_refl _
def pMp {β : Type} (S : Rp β) : Rp (List (Int × β)) := ⟨fun kvs v I C => ∃ a us, v = .ref a ∧ I a = some (.dK us) ∧ us.length ≤ sizeLine ∧ D2 (fun x u => S.r x u I C) kvs us,
  fun e e' ⟨a, us, h1, h2, h3, h4⟩ => ⟨a, us, h1, e a _ h2, h3, h4.imp fun _ _ => S.mono e e'⟩⟩
instance {β : Type} {S : Rp β} [Im S] : Im (pMp S) := ⟨fun ⟨a, us, h1, h2, h3, h4⟩ => ⟨a, us, h1, h2, h3, h4.imp fun _ _ => Im.im⟩⟩
def dictL {α β : Type} (fk : α → Res Int) (fv : α → Res β) : List α → List (Int × β) → Res (List (Int × β))
  | [], d => .ok d
  | x :: xs, d => match fk x with
    | .ok k => (match fv x with
      | .ok v => dictL fk fv xs (dput d k v)
      | _ => .bad)
    | _ => .bad
def dhas {β : Type} (k : Int) (d : List (Int × β)) : Res Bool := .ok (dget d k).isSome
def dix {β : Type} (d : List (Int × β)) (k : Int) : Res β := match dget d k with
  | some x => .ok x
  | none => .bad
section
variable {E : XK} {K : PySem.W.Frag} {σ : L2.St} {I C : Hp} {α β : Type} {R : Rp α} {S : Rp β} {m : Res (List α)} {tk tv td ty : TE}
theorem x_dcK [Im S] {wi : TI} {g : TG} {vs : List Nat} {fk : α → Res Int} {fv : α → Res β} {P : α → L2.St → Hp → Hp → Prop} {kp : Hp → Prop} (hi : EvI E K wi σ I C kp m R) (hkp : ∀ C3, Ex C C3 → kp C3) (hg : Tg K g R (wipe σ vs) P)
    (hw : ∀ x σ2 I' C', P x σ2 I' C' → wipe σ2 vs = wipe σ vs)
    (hk : ∀ x σ2 I' C', Ex I I' → Ex C C' → P x σ2 I' C' → EvX EZ K tk σ2 I' C' (fk x) pI)
    (hf : ∀ x σ2 I' C', Ex I I' → Ex C C' → P x σ2 I' C' → EvX EZ K tv σ2 I' C' (fv x) S)
    (hm : ∀ x σ2 I' I2 C', Ex I' I2 → P x σ2 I' C' → P x σ2 I2 C') : EvX E K (tDc wi g tYes tk tv vs) σ I C (m.bind fun xs => dictL fk fv xs []) (pMp S) := fun I1 C1 H1 e e' s Q q =>
  hi I1 C1 H1 e e' s _ ((Post.bind q).mono (fun xs q2 J G Y I2 H2 e2 s2 hz w hG hY D hD => by
    have cD : C1 D = none := s2.c.free hD
    refine ⟨fun i n H => n + i = xs.length ∧ ∃ d us I', Ex I2 I' ∧ St I' (upd C1 D (.dK us)) H ∧ us.length ≤ i ∧ D2 (fun y u => S.r y u I' C1) d us ∧ Post (dictL fk fv (xs.drop i) d) (PQ (pMp S) I1 C1 Q) (fun _ _ => False), ⟨xs.length, rfl, [], [], I2, Ex.refl _, s2.newC hD, Nat.le_refl _, .nil, ?_⟩, fun i n H ⟨hn, d, us, I', e3, s3, hl, r3, po⟩ => ?_⟩
    · rw [List.drop_zero]
      have noexc : ∀ (l : List α) d c i, dictL fk fv l d ≠ .exc c i := by
        intro l
        induction l with
        | nil => intro d c i z; cases z
        | cons x l ih =>
          intro d c i z
          unfold dictL at z
          cases h1 : fk x with
          | ok k =>
            rw [h1] at z
            cases h2 : fv x with
            | ok v =>
              rw [h2] at z
              exact ih _ _ _ z
            | exc _ _ => rw [h2] at z; cases z
            | bad => rw [h2] at z; cases z
          | exc _ _ => rw [h1] at z; cases z
          | bad => rw [h1] at z; cases z
      cases h : dictL fk fv xs [] with
      | ok d =>
        rw [h] at q2
        exact q2
      | exc c i => exact absurd h (noexc xs [] c i)
      | bad =>
        rw [h] at q2
        exact q2.elim
    · by_cases hi2 : i < xs.length
      · refine .inr ⟨w.goes i H hi2 (hG I' _ H e3 (hkp _ (e'.trans (Ex.new cD))) s3), fun H' => (n - 1) + (i + 1) = xs.length ∧ ∃ d us I', Ex I2 I' ∧ St I' (upd C1 D (.dK us)) H' ∧ us.length ≤ i + 1 ∧ D2 (fun y u => S.r y u I' C1) d us ∧ Post (dictL fk fv (xs.drop (i + 1)) d) (PQ (pMp S) I1 C1 Q) (fun _ _ => False), fun H' z => ⟨n - 1, by omega, z⟩, fun x H' y => ?_⟩
        obtain ⟨a, ha⟩ : ∃ a, xs[i]? = some a := ⟨xs[i], by simp [hi2]⟩
        rw [drop_cons ha] at po
        have y := w.yields i H x H' hi2 (hG I' _ H e3 (hkp _ (e'.trans (Ex.new cD))) s3) y
        obtain ⟨I4, e4, s4, ra⟩ := hY i a x I' _ H H' ha e3 (hkp _ (e'.trans (Ex.new cD))) s3 y
        refine hg a x I4 _ H' _ s4 ra fun σ2 pa => ⟨hw _ _ _ _ pa, ?_⟩
        have eI : Ex I I4 := e.trans (e2.trans (e3.trans e4))
        have eC : Ex C (upd C1 D (.dK us)) := e'.trans (Ex.new cD)
        unfold dictL at po
        unfold tYes
        dsimp only
        rw [if_pos rfl]
        refine hk a σ2 I4 _ eI eC pa I4 _ H' (Ex.refl _) (Ex.refl _) s4 _ ?_
        cases hka : fk a with
        | ok k =>
          rw [hka] at po
          intro v5 I5 H5 e5 s5 rk
          have hv5 : v5 = .int k := rk
          subst hv5
          refine hf a σ2 I5 _ (eI.trans e5) eC (hm _ _ _ _ _ e5 pa) I5 _ H5 (Ex.refl _) (Ex.refl _) s5 _ ?_
          cases hfa : fv a with
          | ok b =>
            simp only [hfa] at po
            intro v6 I6 H6 e6 s6 rv
            refine ⟨us, .inl k, rfl, s6.c D _ upd_same, Nat.lt_of_le_of_lt hl (Nat.lt_of_lt_of_le hi2 hz), by omega, dput d k b, putK us (.inl k) v6, I6, e3.trans (e4.trans (e5.trans e6)), ?_, Nat.le_trans putK_len (Nat.succ_le_succ hl), ?_, po⟩
            · have z := s6.set (u := .dK us) (o := .dK (putK us (.inl k) v6)) (p := D) upd_same
              rw [upd_upd] at z
              exact z
            · exact (r3.imp fun _ _ => S.mono (e4.trans (e5.trans e6)) (Ex.refl _)).put (Im.im rv)
          | exc c j =>
            simp only [hfa] at po
            exact po.elim
          | bad =>
            simp only [hfa] at po
            exact po.elim
        | exc c j =>
          rw [hka] at po
          exact po.elim
        | bad =>
          rw [hka] at po
          exact po.elim
      · have hie : i = xs.length := by omega
        subst hie
        refine .inl ⟨w.stops H (hG I' _ H e3 (hkp _ (e'.trans (Ex.new cD))) s3), ?_⟩
        rw [List.drop_length] at po
        have po2 : PQ (pMp S) I1 C1 Q d := po
        have hD' : (upd C1 D (HO.dK us)) D = some (.dK us) := upd_same
        have s5 := s3.frz hD'
        have fI := s3.freeI hD'
        refine po2 (.ref D) (upd I' D (.dK us)) H (e2.trans (e3.trans (Ex.new fI))) ?_ ⟨D, us, rfl, upd_same, Nat.le_trans hl hz, r3.imp fun _ _ => S.mono (Ex.new fI) (Ex.refl _)⟩
        have eC : (fun a => if a = D then none else (upd C1 D (.dK us)) a) = C1 := funext fun a => by
          by_cases h : a = D
          · rw [if_pos h, h, cD]
          · rw [if_neg h, upd_ne h]
        rw [eC] at s5
        exact s5) fun _ _ z => z)
theorem x_dget {m : Res (List (Int × β))} {n : Res Int} (h : EvX E K td σ I C m (pMp S)) (h' : EvX E K ty σ I C n pI) : EvX E K (tDGet td ty) σ I C (bin dix m n) S := fun I1 C1 H1 e e' s Q q =>
  h I1 C1 H1 e e' s _ ((Post.bind q).mono (fun d p v I2 H2 e2 s2 rv => h' I2 C1 H2 (e.trans e2) e' s2 _ ((Post.bind p).mono (fun k p2 w I3 H3 e3 s3 rw => by
    have hw : w = .int k := rw
    subst hw
    obtain ⟨a, us, rfl, h2, h3, h4⟩ := (pMp S).mono e3 (Ex.refl C1) rv
    rcases h4.get k with ⟨h5, h6⟩ | ⟨x, u, h5, h6, r⟩
    · unfold dix at p2
      rw [h5] at p2
      exact p2.elim
    · unfold dix at p2
      rw [h5] at p2
      exact ⟨a, u, rfl, .inl ⟨us, .inl k, .inl (s3.i a _ h2), rfl, h6.symm⟩, p2 u I3 H3 (e2.trans e3) s3 r⟩) fun c i z => z.mono e2 (Ex.refl _))) fun _ _ z => z)
theorem x_din {m : Res Int} {n : Res (List (Int × β))} (h : EvX E K ty σ I C m pI) (h' : EvX E K td σ I C n (pMp S)) : EvX E K (tDIn ty td) σ I C (bin dhas m n) pB := fun I1 C1 H1 e e' s Q q =>
  h I1 C1 H1 e e' s _ ((Post.bind q).mono (fun k p v I2 H2 e2 s2 rv => h' I2 C1 H2 (e.trans e2) e' s2 _ ((Post.bind p).mono (fun d p2 w I3 H3 e3 s3 rw => by
    have hv : v = .int k := rv
    subst hv
    obtain ⟨a, us, rfl, h2, h3, h4⟩ := rw
    refine ⟨a, valV us (.inl k), rfl, .inl ⟨us, .inl k, .inl (s3.i a _ h2), rfl, rfl⟩, ?_⟩
    have e0 : (valV us (.inl k)).isSome = (dget d k).isSome := by
      rcases h4.get k with ⟨h5, h6⟩ | ⟨x, u, h5, h6, r⟩
      · rw [h5, h6]
        rfl
      · rw [h5, h6]
        rfl
    rw [e0]
    exact p2 _ I3 H3 (e2.trans e3) s3 rfl) fun c i z => z.mono e2 (Ex.refl _))) fun _ _ z => z)
/-! a range from its end -/
def rngV (n : Int) : Res (List Int) := (rng1 n).bind fun xs => .ok xs.reverse
theorem i_revR1 {te : TE} {m : Res Int} (h : EvX E K te σ I C m pI) : EvI E K (iRevR (tRg1 te)) σ I C kpT (un rngV m) pI := fun I1 C1 H1 e e' s Kt q =>
  h I1 C1 H1 e e' s _ ((Post.bind q).mono (fun n p v I2 H2 e2 s2 rv => by
    have hv : v = .int n := rv
    subst hv
    unfold rngV rng1 at p
    by_cases hn : n.natAbs ≤ 1000000
    · rw [if_pos hn] at p
      refine ⟨n, rfl, by omega, by omega, by omega, by omega, ?_⟩
      have hlen : (rangeL 0 n).reverse.length = n.toNat := by rw [List.length_reverse, rangeL_length, Int.sub_zero]
      refine p (Itc _ (-1) (n - 0).toNat) (fun _ => True) (YFn fun i => .int (0 + (((n - 0).toNat : Nat) : Int) - 1 + (i : Nat) * (-1))) I2 H2 e2 s2 (by rw [hlen]; exact Nat.le_trans (show n.toNat ≤ 1000000 by omega) (by decide)) (by rw [hlen]; rw [Int.sub_zero]; exact walk_rangeC) (fun _ _ _ _ _ _ => trivial) (fun i x v' I3 C3 H3 H4 hx e3 _ s3 y => ?_)
      obtain ⟨rfl, rfl⟩ := y
      have hi := (List.getElem?_eq_some_iff.mp hx).1
      rw [hlen] at hi
      rw [List.getElem?_reverse (by rw [rangeL_length]; omega)] at hx
      have := rangeL_get hx
      rw [rangeL_length] at this
      refine ⟨I3, Ex.refl _, s3, ?_⟩
      show V.int _ = V.int x
      congr 1
      omega
    · rw [if_neg hn] at p
      exact p.elim) fun _ _ z => z)
/-! a list as a test -/
def isEm {α : Type} (xs : List α) : Res Bool := .ok (!xs.isEmpty)
theorem t_list {te : TE} {m : Res (List α)} (h : EvX E K te σ I C m (pV R)) : EvT E K (fun σ H Q => te σ H fun x H' => ∃ k, TruV K x H' k ∧ Q k H') σ I C (un isEm m) := fun I1 C1 H1 e e' s Q q =>
  h I1 C1 H1 e e' s _ ((Post.bind q).mono (fun xs p v I2 H2 e2 s2 rv => by
    obtain ⟨a, us, rfl, h2, h3, h4⟩ := pV.at s2 rv
    refine ⟨!us.isEmpty, .inl ⟨us, .inl (.inl h2), rfl⟩, ?_⟩
    have : us.isEmpty = xs.isEmpty := by
      have := h4.len
      cases us <;> cases xs <;> simp_all
    rw [this]
    exact p I2 H2 e2 s2) fun _ _ z => z)
end
end Sd
namespace Sd
open PySem L2
def filM {α β μ : Type} (p : α → μ → Res (Bool × μ)) (f : α → μ → Res (β × μ)) : List α → μ → Res (List β × μ)
  | [], x => .ok ([], x)
  | a :: as, x => (p a x).bind fun c => if c.1 = true then (f a c.2).bind fun b => (filM p f as b.2).bind fun d => .ok (b.1 :: d.1, d.2) else filM p f as c.2
section
variable {E : XK} {K : PySem.W.Frag} {p : Addr} {μ : Type} {M : Rt μ} {σ : L2.St} {I Cp : Hp} {α β : Type} {R : Rp α} {S : Rp β} {te : TE} {tt : TT}
theorem m_lcg [It M] [Im S] {wi : TI} {g : TG} {vs : List Nat} {m : μ → Res (List α × μ)} {pf : α → μ → Res (Bool × μ)} {f : α → μ → Res (β × μ)} {P : α → L2.St → Hp → Hp → Prop} (hp : Cp p = none) (hi : EvIM E K p M wi σ I Cp m R) (hg : Tg K g R (wipe σ vs) P)
    (hw : ∀ x σ2 I' C', P x σ2 I' C' → wipe σ2 vs = wipe σ vs)
    (ht : ∀ x σ2 I' C', Ex I I' → Ex Cp C' → P x σ2 I' C' → EvTM EZ K p M tt σ2 I' (off C' p) (pf x))
    (hf : ∀ x σ2 I' C', Ex I I' → Ex Cp C' → P x σ2 I' C' → EvM EZ K p M te σ2 I' (off C' p) (f x) S)
    (hm : ∀ x σ2 I' C' I2 C2, Ex I' I2 → P x σ2 I' C' → P x σ2 I2 C2) : EvM E K p M (tLc wi g tt te vs) σ I Cp (fun x => (m x).bind fun b => filM pf f b.1 b.2) (pL S) := fun x ws I1 C1 H1 e e' s hc hx Q q =>
  hi x ws I1 C1 H1 e e' s hc hx _ ((Post.bind q).mono (fun b q2 ws2 J G Y I2 H2 e2 s2 hx2 hz w hG hY D hD => by
    have cD2 : upd C1 p (.lst ws2) D = none := s2.c.free hD
    have hDp : D ≠ p := fun z => by
      rw [z, upd_same] at cD2
      cases cD2
    have cD : C1 D = none := by
      rw [upd_ne hDp] at cD2
      exact cD2
    have swap : ∀ (us ws3 ws4 : List V), upd (upd (upd C1 p (.lst ws3)) D (.lst us)) p (.lst ws4) = upd (upd C1 p (.lst ws4)) D (.lst us) := fun us ws3 ws4 => by
      funext a
      by_cases h1 : a = p
      · rw [h1, upd_same, upd_ne hDp.symm, upd_same]
      · rw [upd_ne h1]
        by_cases h2 : a = D
        · rw [h2, upd_same, upd_same]
        · rw [upd_ne h2, upd_ne h2, upd_ne h1, upd_ne h1]
    refine lc_it w (fun i H => LcM p M S I2 C1 D (filM pf f (b.1.drop i)) (fun c => ∀ v ws' I2 H2, Ex I1 I2 → St I2 (upd C1 p (.lst ws')) H2 → M.r c.2 ws' I2 (upd C1 p (.lst ws')) → (pL S).r c.1 v I2 (upd C1 p (.lst ws')) → Q v H2) i H) ⟨[], [], ws2, b.2, I2, Ex.refl _, s2.newC hD, It.im hx2, Nat.le_refl _, .nil, ?_⟩
      (fun i H hi ⟨_, _, _, _, I', e3, s3, _⟩ => hG I' _ H e3 s3) (fun i v H H' hi ⟨ys, us, ws3, x3, I', e3, s3, hx3, hn, r3, po⟩ y => ?_) (fun H ⟨ys, us, ws3, x3, I', e3, s3, hx3, hn, r3, po⟩ => ?_)
    · rw [List.drop_zero]
      exact q2
    · obtain ⟨a, ha⟩ : ∃ a, b.1[i]? = some a := ⟨b.1[i], by simp [hi]⟩
      rw [drop_cons ha] at po
      obtain ⟨I4, e4, s4, ra⟩ := hY i a v I' _ H H' ha e3 s3 y
      refine hg a v I4 _ H' _ s4 ra fun σ2 pa => ⟨hw _ _ _ _ pa, ?_⟩
      have eI : Ex I I4 := e.trans (e2.trans (e3.trans e4))
      have eC : ∀ ws3, Ex Cp (upd (upd C1 p (.lst ws3)) D (.lst us)) := fun ws3 => (e'.over hp).trans (Ex.new (by rw [upd_ne hDp]; exact cD))
      have hcp : ∀ ws3, upd (upd C1 p (.lst ws3)) D (.lst us) p = some (.lst ws3) := fun ws3 => by rw [upd_ne hDp.symm, upd_same]
      unfold filM at po
      refine ht a σ2 I4 _ eI (eC ws3) pa x3 ws3 I4 _ H' (Ex.refl _) off_ex s4 (hcp ws3) (It.im (M.mono e4 (Ex.refl _) hx3)) _ ((Post.bind po).mono (fun c po2 ws4 I5 H5 e5 s5 hx5 => ?_) fun _ _ z => z)
      rw [swap] at s5 hx5
      obtain ⟨c, x5⟩ := c
      have hsz : us.length < sizeLine := Nat.lt_of_le_of_lt hn (Nat.lt_of_lt_of_le hi hz)
      cases c with
      | true =>
        rw [if_pos rfl] at po2
        show te σ2 H5 _
        refine hf a σ2 I5 _ (eI.trans e5) (eC ws4) (hm _ _ _ _ _ _ e5 pa) x5 ws4 I5 _ H5 (Ex.refl _) off_ex s5 (hcp ws4) hx5 _ ((Post.bind po2).mono (fun d po3 v2 ws6 I6 H6 e6 s6 hx6 rv => ?_) fun _ _ z => z)
        rw [swap] at s6 hx6 rv
        refine ⟨us, s6.c D _ upd_same, hsz, ⟨ys ++ [d.1], us ++ [v2], ws6, d.2, I6, e3.trans (e4.trans (e5.trans e6)), ?_, It.im hx6, by rw [List.length_append]; exact Nat.succ_le_succ hn, ?_, ?_⟩⟩
        · have z := s6.set (o := .lst (us ++ [v2])) (p := D) upd_same
          rw [upd_upd] at z
          exact z
        · exact (r3.imp fun _ _ => S.mono (e4.trans (e5.trans e6)) (Ex.refl _)).append (.one (Im.im rv))
        · refine (Post.bind po3).mono (fun zs z => ?_) fun _ _ z => z
          show ∀ v ws' I2 H2, Ex I1 I2 → St I2 (upd C1 p (.lst ws')) H2 → M.r zs.2 ws' I2 (upd C1 p (.lst ws')) → (pL S).r (ys ++ [d.1] ++ zs.1) v I2 (upd C1 p (.lst ws')) → Q v H2
          rw [List.append_assoc]
          exact z
      | false =>
        rw [if_neg Bool.false_ne_true] at po2
        exact ⟨ys, us, ws4, x5, I5, e3.trans (e4.trans e5), s5, It.im hx5, Nat.le_succ_of_le hn, r3.imp fun _ _ => S.mono (e4.trans e5) (Ex.refl _), po2⟩
    · rw [List.drop_length] at po
      have po2 : ∀ v ws' I2 H2, Ex I1 I2 → St I2 (upd C1 p (.lst ws')) H2 → M.r x3 ws' I2 (upd C1 p (.lst ws')) → (pL S).r (ys ++ []) v I2 (upd C1 p (.lst ws')) → Q v H2 := po
      rw [List.append_nil] at po2
      have sf := s3.frz (p := D) upd_same
      have iD : I' D = none := s3.freeI upd_same
      refine po2 (.ref D) ws3 (upd I' D (.lst us)) H (e2.trans (e3.trans (Ex.new iD))) (sf.less fun a o ha => ?_) (It.im (M.mono (Ex.new iD) (Ex.refl _) hx3)) ⟨D, us, rfl, upd_same, Nat.le_trans hn hz, r3.imp fun _ _ h => Im.im (S.mono (Ex.new iD) (Ex.refl _) h)⟩
      have hne : a ≠ D := fun z => by
        rw [z, upd_ne hDp, cD] at ha
        cases ha
      show (if a = D then none else upd (upd C1 p (.lst ws3)) D (.lst us) a) = some o
      rw [if_neg hne, upd_ne hne]
      exact ha) fun _ _ z => z)
end
end Sd
namespace Sd
open PySem L2
def idxR {α : Type} [DecidableEq α] (xs : List α) (x : α) : Res Int := match xs.findIdx? fun y => decide (y = x) with
  | some i => .ok (i : Int)
  | none => .bad
section
variable {E : XK} {K : PySem.W.Frag} {σ : L2.St} {I C : Hp} {α : Type} {R : Rp α} {te tx : TE} {m : Res (List α)} {n : Res α}
theorem x_index [DecidableEq α] [Im R] {f : α → V} (F : Fl R f) (h : EvX E K te σ I C m (pL R)) (h' : EvX E K tx σ I C n R) : EvX E K (tBM K "list" (rIndex K) te (tCons tx tNil)) σ I C (bin idxR m n) pI := fun I1 C1 H1 e e' s Q q =>
  h I1 C1 H1 e e' s _ ((Post.bind q).mono (fun xs p v I2 H2 e2 s2 rv => by
    obtain ⟨a, us, rfl, h2, h3, h4⟩ := rv
    refine ⟨.inl ⟨rfl, us, .inl (.inl (s2.i a _ h2))⟩, ?_⟩
    refine h' I2 C1 H2 (e.trans e2) e' s2 _ ((Post.bind p).mono (fun x p2 w I3 H3 e3 s3 rw => ?_) fun c i z => z.mono e2 (Ex.refl _))
    have ew := F.is rw
    have eu := A2.map_iff (fun _ _ h => F.is h) h4
    subst ew eu
    unfold idxR at p2
    cases hj : xs.findIdx? fun y => decide (y = x) with
    | none =>
      rw [hj] at p2
      exact p2.elim
    | some j =>
      rw [hj] at p2
      obtain ⟨hlt, hp, hno⟩ := List.findIdx?_eq_some_iff_getElem.mp hj
      refine ⟨a, _, _, j, f (xs[j]), rfl, rfl, .inl (.inl (s3.i a _ (e3 a _ h2))), F.flat x, allFlat F xs, by rw [List.getElem?_map, List.getElem?_eq_getElem hlt]; rfl, (F.eq _ _).mpr (of_decide_eq_true hp), fun k z' hk hz => ?_, p2 _ I3 H3 (e2.trans e3) s3 rfl⟩
      rw [List.getElem?_map] at hz
      have hk2 : k < xs.length := Nat.lt_trans hk hlt
      rw [List.getElem?_eq_getElem hk2] at hz
      cases hz
      refine Bool.eq_false_iff.mpr fun z => ?_
      have := hno k hk
      exact this (decide_eq_true ((F.eq _ _).mp z))) fun _ _ z => z)
end
end Sd
namespace L2
theorem Room.units1 {k : Nat} {A : PySem.Around} (r : Room k A) : A.units + 1 < PySem.cLine := by have := r.un; omega
end L2
namespace Sd
open PySem L2
section
variable {E : XK} {K : PySem.W.Frag} {α β : Type}
theorem o_lenXT {T : Rt α} {T' : Rt β} (h : T'.n = T.n) : OpL E K (fun xs H Q => ∃ p ys, xs = [.ref p] ∧ (SqL K H p ys ∨ SqT K H p ys) ∧ Q (.int ys.length) H) (fun _ => .ok (T.n : Int)) (t1 (pX (pT T) (pT T'))) pI := fun I C H a vs s hv Q q => by
  obtain ⟨v, rfl, r⟩ := hv
  cases a with
  | inl a =>
    obtain ⟨p, us, rfl, h1, h2⟩ := r
    exact ⟨p, us, rfl, .inr (.inl (.inl (s.i _ _ h1))), by rw [T.len h2]; exact PQ.now q s rfl⟩
  | inr a =>
    obtain ⟨p, us, rfl, h1, h2⟩ := r
    exact ⟨p, us, rfl, .inr (.inl (.inl (s.i _ _ h1))), by rw [T'.len h2, h]; exact PQ.now q s rfl⟩
end
end Sd
namespace Sd
open PySem L2
def pjS {α β γ : Type} (f : α → γ) (g : β → γ) (x : α ⊕ β) : Res γ := match x with
  | .inl a => .ok (f a)
  | .inr b => .ok (g b)
section
variable {E : XK} {K : PySem.W.Frag} {α β γ : Type} {T : Rt α} {T' : Rt β} {S : Rp γ}
theorem o_pjX {k : Nat} {f : α → γ} {g : β → γ} (j : Pj T k f S) (j' : Pj T' k g S) : Op1 E K (fun x H Q => rIxT K x (.int (k : Int)) H Q) (pjS f g) (pX (pT T) (pT T')) S := fun I C H a x s hx Q q => by
  cases a with
  | inl a =>
    obtain ⟨p, vs, rfl, h2, h3⟩ := hx
    obtain ⟨w, e, r⟩ := j a vs I C h3
    exact ⟨p, vs, _, w, rfl, rfl, .inl (.inl (s.i p _ h2)), atI_nat e, PQ.now q s r⟩
  | inr a =>
    obtain ⟨p, vs, rfl, h2, h3⟩ := hx
    obtain ⟨w, e, r⟩ := j' a vs I C h3
    exact ⟨p, vs, _, w, rfl, rfl, .inl (.inl (s.i p _ h2)), atI_nat e, PQ.now q s r⟩
end
end Sd

namespace Sd
open PySem L2
/-! ### parts of the heap that stand apart -/
def dj (A B : Hp) : Prop := ∀ a, A a = none ∨ B a = none
/-- T with what D says laid over it -/
def ov (D T : Hp) : Hp := fun a => match D a with
  | some o => some o
  | none => T a
section
variable {A A' B B' C C' C2 D D' T T' I I' U : Hp} {a p : Addr} {o u : HO}
theorem ov_some (h : D a = some o) : ov D T a = some o := by
  unfold ov
  rw [h]
theorem ov_none (h : D a = none) : ov D T a = T a := by
  unfold ov
  rw [h]
theorem ov_upd : ov (upd Z p o) T = upd T p o := by
  funext a
  by_cases h : a = p
  · rw [h, upd_same, ov_some upd_same]
  · rw [upd_ne h, ov_none (by rw [upd_ne h])]
theorem ov_assoc : ov D' (ov D T) = ov (ov D' D) T := by
  funext a
  cases h : D' a with
  | some o => rw [ov_some h, ov_some (ov_some h)]
  | none =>
    rw [ov_none h]
    cases h2 : D a with
    | some o => rw [ov_some h2, ov_some (by rw [ov_none h, h2])]
    | none => rw [ov_none h2, ov_none (by rw [ov_none h, h2])]
theorem dj.symm (h : dj A B) : dj B A := fun a => (h a).symm
theorem dj.mono (e : Ex A A') (e' : Ex B B') (h : dj A' B') : dj A B := fun a => (h a).imp (fun z => e.free z) fun z => e'.free z
theorem dj.of (h : ∀ a, A a ≠ none → B a = none) : dj A B := fun a => by
  by_cases q : A a = none
  · exact .inl q
  · exact .inr (h a q)
theorem dj.r (h : dj A B) (q : A a ≠ none) : B a = none := (h a).elim (fun z => absurd z q) id
theorem dj.l (h : dj A B) (q : B a ≠ none) : A a = none := h.symm.r q
theorem djz : dj Z A := fun _ => .inl rfl
theorem one_ne (h : upd Z p o a ≠ none) : a = p := by
  by_cases q : a = p
  · exact q
  · exact absurd (by rw [upd_ne q]) h
theorem one_self : upd Z p o p ≠ none := by
  rw [upd_same]
  exact fun z => nomatch z
theorem Ex.one (h : C p = some o) : Ex (upd Z p o) C := fun a u e => by
  have q := one_ne (p := p) (o := o) (a := a) (by rw [e]; exact fun z => nomatch z)
  subst q
  rw [upd_same] at e
  cases e
  exact h
theorem Ex.ne (e : Ex A B) (h : A a ≠ none) : B a ≠ none := fun z => h (e.free z)
/-- the parts of C stand apart -/
structure Sep (C : Hp) (L : List Hp) : Prop where
  ex : ∀ T, T ∈ L → Ex T C
  pw : L.Pairwise dj
theorem Sep.nil : Sep C [] := ⟨fun _ h => (nomatch h), .nil⟩
theorem Sep.mono {L : List Hp} (e : Ex C C') (h : Sep C L) : Sep C' L := ⟨fun T hT => (h.ex T hT).trans e, h.pw⟩
theorem Sep.get {L1 L2 : List Hp} (h : Sep C (L1 ++ T :: L2)) : Ex T C := h.ex T (List.mem_append_right _ List.mem_cons_self)
theorem Sep.ap {L1 L2 : List Hp} (h : Sep C (L1 ++ T :: L2)) : ∀ U, U ∈ L1 ++ L2 → dj T U := fun U hU => by
  have q := List.pairwise_append.mp h.pw
  rcases List.mem_append.mp hU with z | z
  · exact (q.2.2 U z T List.mem_cons_self).symm
  · exact (List.pairwise_cons.mp q.2.1).1 U z
theorem Sep.but {L1 L2 : List Hp} (h : Sep C (L1 ++ T :: L2)) : Sep C (L1 ++ L2) := by
  refine ⟨fun U hU => h.ex U ?_, ?_⟩
  · rcases List.mem_append.mp hU with z | z
    · exact List.mem_append_left _ z
    · exact List.mem_append_right _ (List.mem_cons_of_mem _ z)
  · exact h.pw.sublist (List.Sublist.append_left (List.sublist_cons_self ..) _)
theorem Sep.put {L1 L2 : List Hp} (h : Sep C (L1 ++ L2)) (e : Ex T C) (d : ∀ U, U ∈ L1 ++ L2 → dj T U) : Sep C (L1 ++ T :: L2) := by
  refine ⟨fun U hU => ?_, ?_⟩
  · rcases List.mem_append.mp hU with z | z
    · exact h.ex U (List.mem_append_left _ z)
    · rcases List.mem_cons.mp z with rfl | z
      · exact e
      · exact h.ex U (List.mem_append_right _ z)
  · have q := List.pairwise_append.mp h.pw
    refine List.pairwise_append.mpr ⟨q.1, List.pairwise_cons.mpr ⟨fun U z => d U (List.mem_append_right _ z), q.2.1⟩, fun U z W y => ?_⟩
    rcases List.mem_cons.mp y with rfl | y
    · exact (d U (List.mem_append_left _ z)).symm
    · exact q.2.2 U z W y
/-- C changed by D alone -/
structure Chg (C C2 D : Hp) : Prop where
  d : Ex D C2
  k : ∀ a, D a = none → C2 a = C a
theorem Chg.one (h : C2 p = some o) (k : ∀ q, q ≠ p → C2 q = C q) : Chg C C2 (upd Z p o) := ⟨Ex.one h, fun a e => k a fun z => by
  subst z
  rw [upd_same] at e
  cases e⟩
theorem Chg.up : Chg C (upd C p o) (upd Z p o) := Chg.one upd_same fun q h => upd_ne h
theorem Chg.ov (h : Ex D D) : Chg C (ov D C) D := ⟨fun a o e => ov_some e, fun a e => ov_none e⟩
theorem Sep.chg {L : List Hp} (h : Sep C L) (c : Chg C C2 D) (d : ∀ U, U ∈ L → dj D U) : Sep C2 L := ⟨fun U hU a o e => by
  rw [c.k a ((d U hU).l (by rw [e]; exact fun z => nomatch z))]
  exact h.ex U hU a o e, h.pw⟩
theorem Sep.upd {L1 L2 : List Hp} (h : Sep C (L1 ++ T :: L2)) (c : Chg C C2 D) (hD : ∀ a, D a ≠ none → T a ≠ none ∨ C a = none) : Sep C2 (L1 ++ ov D T :: L2) := by
  have d : ∀ U, U ∈ L1 ++ L2 → dj D U := fun U hU => dj.of fun a z => (hD a z).elim (fun y => (h.ap U hU).r y) fun y => (h.but.ex U hU).free y
  refine (h.but.chg c d).put (fun a o e => ?_) fun U hU => dj.of fun a z => ?_
  · cases q : D a with
    | some u =>
      rw [ov_some q] at e
      rw [← e]
      exact c.d a u q
    | none =>
      rw [ov_none q] at e
      rw [c.k a q]
      exact h.get a o e
  · cases q : D a with
    | some u => exact (d U hU).r (by rw [q]; exact fun z => nomatch z)
    | none =>
      rw [ov_none q] at z
      exact (h.ap U hU).r z
theorem Sep.new {L : List Hp} (h : Sep C L) (c : Chg C C2 D) (hD : ∀ a, D a ≠ none → C a = none) : Sep C2 (L ++ [D]) := by
  have d : ∀ U, U ∈ L → dj D U := fun U hU => dj.of fun a z => (h.ex U hU).free (hD a z)
  refine Sep.put (L2 := []) (by rw [List.append_nil]; exact h.chg c d) c.d fun U hU => d U ?_
  rw [List.append_nil] at hU
  exact hU
/-- what is in C beside these -/
def wo (C : Hp) (Ts : List Hp) : Hp := fun a => if Ts.all (fun T => (T a).isNone) = true then C a else none
theorem wo_ex {Ts : List Hp} : Ex (wo C Ts) C := fun a o e => by
  unfold wo at e
  split at e
  · exact e
  · cases e
theorem wo_dj {Ts : List Hp} (h : T ∈ Ts) : dj T (wo C Ts) := dj.of fun a z => by
  unfold wo
  rw [if_neg]
  intro q
  have := List.all_eq_true.mp q T h
  cases e : T a with
  | some o =>
    rw [e] at this
    cases this
  | none => exact z e
theorem wo_has {Ts : List Hp} (e : Ex U C) (h : ∀ T, T ∈ Ts → dj T U) : Ex U (wo C Ts) := fun a o q => by
  unfold wo
  rw [if_pos]
  · exact e a o q
  · refine List.all_eq_true.mpr fun T hT => ?_
    rw [(h T hT).l (by rw [q]; exact fun z => nomatch z)]
    rfl
theorem Sep.wo {Ts : List Hp} (h : Sep C Ts) : Sep C (wo C Ts :: Ts) := Sep.put (L1 := []) h wo_ex fun U hU => (wo_dj hU).symm
/-- some of the parts, and the whole again -/
def putL (L : List Hp) : List Nat → List Hp → List Hp
  | i :: is, T :: Ts => (putL L is Ts).set i T
  | _, _ => L
def selL (L : List Hp) (is : List Nat) : List Hp := is.map fun i => L.getD i Z
theorem sep_iff {L : List Hp} : Sep C L ↔ (∀ (i : Nat) T, L[i]? = some T → Ex T C) ∧ ∀ (i j : Nat) T U, i ≠ j → L[i]? = some T → L[j]? = some U → dj T U := by
  constructor
  · intro h
    refine ⟨fun i T e => h.ex T (List.mem_of_getElem? e), fun i j T U n e1 e2 => ?_⟩
    have q := List.pairwise_iff_getElem.mp h.pw
    obtain ⟨h1, e1⟩ := List.getElem?_eq_some_iff.mp e1
    obtain ⟨h2, e2⟩ := List.getElem?_eq_some_iff.mp e2
    rcases Nat.lt_or_gt_of_ne n with z | z
    · have y := q i j h1 h2 z
      rw [e1, e2] at y
      exact y
    · have y := q j i h2 h1 z
      rw [e1, e2] at y
      exact y.symm
  · rintro ⟨h1, h2⟩
    refine ⟨fun T hT => ?_, List.pairwise_iff_getElem.mpr fun i j hi hj z => ?_⟩
    · obtain ⟨i, e⟩ := List.mem_iff_getElem?.mp hT
      exact h1 i T e
    · exact h2 i j _ _ (by omega) (List.getElem?_eq_getElem hi) (List.getElem?_eq_getElem hj)
theorem Sep.sel {L : List Hp} {is : List Nat} (h : Sep C L) (hn : is.Nodup) (hl : ∀ i, i ∈ is → i < L.length) : Sep C (selL L is) := by
  obtain ⟨h1, h2⟩ := sep_iff.mp h
  have get : ∀ k T, (selL L is)[k]? = some T → ∃ i, is[k]? = some i ∧ L[i]? = some T := fun k T e => by
    unfold selL at e
    rw [List.getElem?_map] at e
    cases q : is[k]? with
    | none =>
      rw [q] at e
      cases e
    | some i =>
      rw [q] at e
      have e : L.getD i Z = T := Option.some.inj e
      refine ⟨i, q, ?_⟩
      have hi := hl i (List.mem_of_getElem? q)
      rw [List.getD_eq_getElem?_getD, List.getElem?_eq_getElem hi] at e
      rw [List.getElem?_eq_getElem hi, ← e]
      rfl
  refine sep_iff.mpr ⟨fun k T e => ?_, fun k l T U n e1 e2 => ?_⟩
  · obtain ⟨i, _, e⟩ := get k T e
    exact h1 i T e
  · obtain ⟨i, q1, e1⟩ := get k T e1
    obtain ⟨j, q2, e2⟩ := get l U e2
    refine h2 i j T U (fun z => n ?_) e1 e2
    subst z
    obtain ⟨l1, q1⟩ := List.getElem?_eq_some_iff.mp q1
    obtain ⟨l2, q2⟩ := List.getElem?_eq_some_iff.mp q2
    exact (List.getElem_inj hn).mp (q1.trans q2.symm)
theorem putL_get {L : List Hp} : ∀ {is : List Nat} {Ts : List Hp} {i : Nat} {T : Hp}, (putL L is Ts)[i]? = some T → (∃ k : Nat, is[k]? = some i ∧ Ts[k]? = some T) ∨ ((∀ k : Nat, k < Ts.length → is[k]? ≠ some i) ∧ L[i]? = some T)
  | [], Ts, i, T, e => .inr ⟨fun k _ z => by simp at z, by
    have : putL L [] Ts = L := by cases Ts <;> rfl
    rw [this] at e
    exact e⟩
  | j :: is, [], i, T, e => .inr ⟨fun k h => absurd h (Nat.not_lt_zero _), e⟩
  | j :: is, S :: Ts, i, T, e => by
    have e : ((putL L is Ts).set j S)[i]? = some T := e
    rw [List.getElem?_set] at e
    by_cases q : j = i
    · rw [if_pos q] at e
      split at e
      · exact .inl ⟨0, by rw [q]; rfl, e⟩
      · cases e
    · rw [if_neg q] at e
      rcases putL_get e with ⟨k, h1, h2⟩ | ⟨h1, h2⟩
      · exact .inl ⟨k + 1, h1, h2⟩
      · refine .inr ⟨fun k hk z => ?_, h2⟩
        cases k with
        | zero => exact q (Option.some.inj z)
        | succ k => exact h1 k (Nat.lt_of_succ_lt_succ hk) z
theorem Sep.back {L Ts : List Hp} {is : List Nat} (h : Sep C L) (hl : Ts.length = is.length) (h2 : Sep C2 (Sd.wo C (selL L is) :: Ts)) (hi : ∀ i, i ∈ is → i < L.length) : Sep C2 (putL L is Ts) := by
  obtain ⟨h1, hd⟩ := sep_iff.mp h
  have hw : Ex (Sd.wo C (selL L is)) C2 := h2.ex _ List.mem_cons_self
  obtain ⟨t1, td⟩ := sep_iff.mp (Sep.but (L1 := []) h2)
  have tw : ∀ k T, Ts[k]? = some T → dj (Sd.wo C (selL L is)) T := fun k T e => Sep.ap (L1 := []) h2 T (List.mem_of_getElem? e)
  -- a part that was not lent
  have rest : ∀ i U, (∀ k, k < Ts.length → is[k]? ≠ some i) → L[i]? = some U → Ex U (Sd.wo C (selL L is)) := fun i U n e => wo_has (h1 i U e) fun T hT => by
    unfold selL at hT
    obtain ⟨j, hj, q⟩ := List.mem_map.mp hT
    obtain ⟨k, hk⟩ := List.mem_iff_getElem?.mp hj
    have hjl := hi j hj
    rw [List.getD_eq_getElem?_getD, List.getElem?_eq_getElem hjl] at q
    refine hd j i T U (fun z => ?_) (by rw [List.getElem?_eq_getElem hjl, ← q]; rfl) e
    exact n k (by rw [hl]; exact (List.getElem?_eq_some_iff.mp hk).1) (by rw [hk, z])
  refine sep_iff.mpr ⟨fun i T e => ?_, fun i j T U n e1 e2 => ?_⟩
  · rcases putL_get e with ⟨k, _, q⟩ | ⟨n, q⟩
    · exact t1 k T q
    · exact (rest i T n q).trans hw
  · rcases putL_get e1 with ⟨k, a1, q1⟩ | ⟨n1, q1⟩
    · rcases putL_get e2 with ⟨l, a2, q2⟩ | ⟨n2, q2⟩
      · refine td k l T U (fun z => n ?_) q1 q2
        subst z
        rw [a1] at a2
        exact Option.some.inj a2
      · exact ((tw k T q1).mono (rest j U n2 q2) (Ex.refl _)).symm
    · rcases putL_get e2 with ⟨l, a2, q2⟩ | ⟨n2, q2⟩
      · exact (tw l U q2).mono (rest i T n1 q1) (Ex.refl _)
      · exact hd i j T U n q1 q2
end
/-! ### lists of one's own -/
inductive A3 {α : Type} (f : α → V → Hp → Prop) : List α → List V → List Hp → Prop where
  | nil : A3 f [] [] []
  | cons {x : α} {v : V} {t : Hp} {xs : List α} {vs : List V} {ts : List Hp} : f x v t → A3 f xs vs ts → A3 f (x :: xs) (v :: vs) (t :: ts)
section
variable {α β γ : Type} {f g : α → V → Hp → Prop}
theorem A3.imp (h : ∀ x v t, f x v t → g x v t) : ∀ {xs : List α} {vs : List V} {ts : List Hp}, A3 f xs vs ts → A3 g xs vs ts
  | _, _, _, .nil => .nil
  | _, _, _, .cons r t => .cons (h _ _ _ r) (A3.imp h t)
theorem A3.len : ∀ {xs : List α} {vs : List V} {ts : List Hp}, A3 f xs vs ts → vs.length = xs.length ∧ ts.length = xs.length
  | _, _, _, .nil => ⟨rfl, rfl⟩
  | _, _, _, .cons _ t => by
    obtain ⟨a, b⟩ := A3.len t
    exact ⟨by rw [List.length_cons, List.length_cons, a], by rw [List.length_cons, List.length_cons, b]⟩
theorem A3.get : ∀ {xs : List α} {vs : List V} {ts : List Hp} {i : Nat} {x : α}, A3 f xs vs ts → xs[i]? = some x → ∃ v t, vs[i]? = some v ∧ ts[i]? = some t ∧ f x v t
  | _, _, _, _, _, .nil, e => by cases e
  | _, _, _, 0, _, .cons r _, e => ⟨_, _, rfl, rfl, by
    have e2 := Option.some.inj e
    rw [← e2]
    exact r⟩
  | _, _, _, i + 1, _, .cons _ t, e => A3.get (i := i) t e
theorem A3.set : ∀ {xs : List α} {vs : List V} {ts : List Hp} {i : Nat} {x : α} {v : V} {t : Hp}, A3 f xs vs ts → vs[i]? = some v → f x v t → A3 f (xs.set i x) vs (ts.set i t)
  | _, _, _, _, _, _, _, .nil, e, _ => by cases e
  | _, _, _, 0, _, _, _, .cons _ q, e, r => by
    cases e
    exact .cons r q
  | _, _, _, i + 1, _, _, _, .cons r0 q, e, r => .cons r0 (A3.set (i := i) q e r)
theorem A3.append : ∀ {xs : List α} {vs : List V} {ts : List Hp} {ys : List α} {us : List V} {ss : List Hp}, A3 f xs vs ts → A3 f ys us ss → A3 f (xs ++ ys) (vs ++ us) (ts ++ ss)
  | _, _, _, _, _, _, .nil, s => s
  | _, _, _, _, _, _, .cons r t, s => .cons r (A3.append t s)
theorem A3.a2 {h : α → V → Prop} (k : ∀ x v t, f x v t → h x v) : ∀ {xs : List α} {vs : List V} {ts : List Hp}, A3 f xs vs ts → A2 h xs vs
  | _, _, _, .nil => .nil
  | _, _, _, .cons r t => .cons (k _ _ _ r) (A3.a2 k t)
theorem A2.a3 {h : α → V → Prop} (k : ∀ x v, h x v → f x v Z) : ∀ {xs : List α} {vs : List V}, A2 h xs vs → A3 f xs vs (List.replicate xs.length Z)
  | _, _, .nil => .nil
  | _, _, .cons r t => .cons (k _ _ r) (A2.a3 k t)
theorem sepZ {C : Hp} {T : Hp} (e : Ex T C) : ∀ n, Sep C (T :: List.replicate n Z) := fun n => Sep.put (L1 := []) (T := T) ⟨fun U hU => by rw [List.eq_of_mem_replicate hU]; exact exz, by
  induction n with
  | zero => exact .nil
  | succ n ih => exact List.pairwise_cons.mpr ⟨fun U _ => djz, ih⟩⟩ e fun U hU => by
    rw [List.eq_of_mem_replicate hU]
    exact djz.symm
/-- a list of one's own, of things that may be one's own -/
def oL (R : Rp α) : Rp (List α) := ⟨fun xs v I T => ∃ a vs ts, v = .ref a ∧ vs.length ≤ sizeLine ∧ A3 (fun x u t => R.r x u I t) xs vs ts ∧ Sep T (upd Z a (.lst vs) :: ts),
  fun e e' ⟨a, vs, ts, h1, h2, h3, h4⟩ => ⟨a, vs, ts, h1, h2, h3.imp fun _ _ _ => R.mono e (Ex.refl _), h4.mono e'⟩⟩
variable {R : Rp α} {S : Rp β} {I I' C T : Hp} {xs : List α} {v : V}
theorem oL_of [Im R] {a : Addr} {vs : List V} (h : T a = some (.lst vs)) (hl : vs.length ≤ sizeLine) (hr : A2 (fun x u => R.r x u I Z) xs vs) : (oL R).r xs (.ref a) I T :=
  ⟨a, vs, _, rfl, hl, hr.a3 fun _ _ z => z, sepZ (Ex.one h) _⟩
theorem oL_at [Im R] (h : (oL R).r xs v I T) : ∃ a vs, v = .ref a ∧ T a = some (.lst vs) ∧ vs.length ≤ sizeLine ∧ A2 (fun x u => R.r x u I Z) xs vs := by
  obtain ⟨a, vs, ts, h1, h2, h3, h4⟩ := h
  exact ⟨a, vs, h1, h4.ex _ List.mem_cons_self a _ upd_same, h2, h3.a2 fun _ _ _ z => Im.im z⟩
/-- what is seen of it -/
class Vw {γ : Type} (R : Rp γ) (S : outParam (Rp γ)) : Prop where
  vw : ∀ {x : γ} {v : V} {I T C : Hp}, R.r x v I T → Ex T C → S.r x v I C
instance [Im R] : Vw R R := ⟨fun h _ => Im.im h⟩
theorem vw_all {S : Rp α} [Vw R S] : ∀ {xs : List α} {vs : List V} {ts : List Hp}, A3 (fun x u t => R.r x u I t) xs vs ts → (∀ t, t ∈ ts → Ex t C) → A2 (fun x u => S.r x u I C) xs vs
  | _, _, _, .nil, _ => .nil
  | _, _, _, .cons r q, h => .cons (Vw.vw r (h _ List.mem_cons_self)) (vw_all q fun t ht => h t (List.mem_cons_of_mem _ ht))
instance {S : Rp α} [Vw R S] : Vw (oL R) (pV S) := ⟨fun ⟨a, vs, ts, h1, h2, h3, h4⟩ e => ⟨a, vs, h1, .inr (e a _ (h4.ex _ List.mem_cons_self a _ upd_same)), h2, vw_all h3 fun t ht => (h4.ex t (List.mem_cons_of_mem _ ht)).trans e⟩⟩
/-! ### a place within a thing of one's own -/
structure Foc (R : Rp α) (S : Rp β) (I : Hp) (v : V) (T : Hp) (y : β) (w : V) (t : Hp) (F : β → α) : Prop where
  ex : Ex t T
  r : S.r y w I t
  put : ∀ y' I2 D, Ex I I2 → (∀ a, D a ≠ none → T a ≠ none → t a ≠ none) → S.r y' w I2 (ov D t) → R.r (F y') v I2 (ov D T)
theorem Foc.refl {x : α} (h : R.r x v I T) : Foc R R I v T x v T (fun y => y) := ⟨Ex.refl _, h, fun _ _ _ _ _ z => z⟩
theorem Foc.mono {y : β} {w : V} {t : Hp} {F : β → α} (e : Ex I I') (f : Foc R S I v T y w t F) : Foc R S I' v T y w t F := ⟨f.ex, S.mono e (Ex.refl _) f.r, fun y' I2 D e2 => f.put y' I2 D (e.trans e2)⟩
/-- the place has changed -/
theorem Foc.step {y y' : β} {w : V} {t D I2 : Hp} {F : β → α} (f : Foc R S I v T y w t F) (e : Ex I I2) (hD : ∀ a, D a ≠ none → T a ≠ none → t a ≠ none) (r : S.r y' w I2 (ov D t)) : Foc R S I2 v (ov D T) y' w (ov D t) F := by
  refine ⟨fun a o q => ?_, r, fun y2 I3 D2 e2 h2 r2 => ?_⟩
  · cases h : D a with
    | some u =>
      rw [ov_some h] at q ⊢
      exact q
    | none =>
      rw [ov_none h] at q ⊢
      exact f.ex a o q
  · rw [ov_assoc] at r2 ⊢
    refine f.put y2 I3 _ (e.trans e2) (fun a h1 h3 => ?_) r2
    cases h : D2 a with
    | some u =>
      have z := h2 a (by rw [h]; exact fun z => nomatch z)
      cases h4 : D a with
      | some u2 => exact hD a (by rw [h4]; exact fun z => nomatch z) h3
      | none =>
        have z := z (by rw [ov_none h4]; exact h3)
        rw [ov_none h4] at z
        exact z
    | none =>
      rw [ov_none h] at h1
      exact hD a h1 h3
theorem Foc.ix {ys : List β} {w : V} {t : Hp} {F : List β → α} {n : Nat} {y : β} (f : Foc R (oL S) I v T ys w t F) (hn : ys[n]? = some y) :
    ∃ a vs u t', w = .ref a ∧ t a = some (.lst vs) ∧ vs.length = ys.length ∧ vs[n]? = some u ∧ Foc R S I v T y u t' (fun z => F (ys.set n z)) := by
  obtain ⟨a, vs, ts, h1, h2, h3, h4⟩ := f.r
  obtain ⟨u, t', e1, e2, r⟩ := h3.get hn
  have hs := sep_iff.mp h4
  have ext : Ex t' t := hs.1 (n + 1) t' e2
  have hat : t a = some (.lst vs) := hs.1 0 _ rfl a _ upd_same
  refine ⟨a, vs, u, t', h1, hat, h3.len.1, e1, ext.trans f.ex, r, fun y' I2 D e hD r2 => ?_⟩
  refine f.put (ys.set n y') I2 D e (fun b z1 z2 => ext.ne (hD b z1 z2)) ?_
  have hDt : ∀ b, D b ≠ none → t b ≠ none → t' b ≠ none := fun b z1 z2 => hD b z1 (f.ex.ne z2)
  refine ⟨a, vs, ts.set n (ov D t'), h1, h2, (h3.imp fun _ _ _ => S.mono e (Ex.refl _)).set e1 r2, ?_⟩
  -- the parts
  have other : ∀ i U, i ≠ n + 1 → (upd Z a (.lst vs) :: ts)[i]? = some U → Ex U (ov D t) ∧ dj (ov D t') U := fun i U ne q => by
    have dU : dj t' U := hs.2 (n + 1) i t' U (Ne.symm ne) e2 q
    have eU := hs.1 i U q
    have noD : ∀ b, U b ≠ none → D b = none := fun b z => by
      cases h : D b with
      | none => rfl
      | some o =>
        exfalso
        have z2 := hDt b (by rw [h]; exact fun z => nomatch z) (eU.ne z)
        exact z (dU.r z2)
    refine ⟨fun b o z => ?_, dj.of fun b z => ?_⟩
    · rw [ov_none (noD b (by rw [z]; exact fun z => nomatch z))]
      exact eU b o z
    · by_cases h : U b = none
      · exact h
      · rw [ov_none (noD b h)] at z
        exact dU.r z
  have get : ∀ i U, (upd Z a (.lst vs) :: ts.set n (ov D t'))[i]? = some U → (i = n + 1 ∧ U = ov D t') ∨ (i ≠ n + 1 ∧ (upd Z a (.lst vs) :: ts)[i]? = some U) := fun i U q => by
    cases i with
    | zero => exact .inr ⟨fun z => (nomatch z), q⟩
    | succ i =>
      have q : (ts.set n (ov D t'))[i]? = some U := q
      rw [List.getElem?_set] at q
      by_cases h : n = i
      · rw [if_pos h] at q
        split at q
        · exact .inl ⟨by rw [h], (Option.some.inj q).symm⟩
        · cases q
      · rw [if_neg h] at q
        exact .inr ⟨fun z => h (Nat.succ.inj z).symm, q⟩
  refine sep_iff.mpr ⟨fun i U q => ?_, fun i j U W ne q1 q2 => ?_⟩
  · rcases get i U q with ⟨_, rfl⟩ | ⟨ne, q⟩
    · intro b o z
      cases h : D b with
      | some o2 =>
        rw [ov_some h] at z ⊢
        exact z
      | none =>
        rw [ov_none h] at z ⊢
        exact ext b o z
    · exact (other i U ne q).1
  · rcases get i U q1 with ⟨i1, rfl⟩ | ⟨n1, q1⟩
    · rcases get j W q2 with ⟨i2, rfl⟩ | ⟨n2, q2⟩
      · exact absurd (i1.trans i2.symm) ne
      · exact (other j W n2 q2).2
    · rcases get j W q2 with ⟨i2, rfl⟩ | ⟨n2, q2⟩
      · exact (other i U n1 q1).2.symm
      · exact hs.2 i j U W ne q1 q2
end
end Sd

namespace Sd
open PySem L2
/-! ### places in expressions -/
def plR {α : Type} (xs : List α) (i : Int) : Res (α × (α → List α)) := match ixN xs.length i with
  | some n => match xs[n]? with
    | some y => .ok (y, fun z => xs.set n z)
    | none => .bad
  | none => .bad
section
variable {E : XK} {K : PySem.W.Frag} {σ : L2.St} {I C H T : Hp} {α β γ ω μ ρ : Type} {R : Rp α} {S : Rp β} {te tl ti tk ta tb : TE} {tt tu : TT} {tz : TS} {D : Ends} {Q : ω → Prop} {X : Ec → Int → Prop} {v : V}
def EvPl (E : XK) (K : PySem.W.Frag) (te : TE) (σ : L2.St) (I C : Hp) (R : Rp α) (S : Rp β) (v : V) (T : Hp) (m : Res (β × (β → α))) : Prop :=
  ∀ I1 C1 H1, Ex I I1 → Ex C C1 → St I1 C1 H1 → ∀ Q : VK, Post m (fun p => ∀ w t I2 H2, Ex I1 I2 → St I2 C1 H2 → Foc R S I2 v T p.1 w t p.2 → Q w H2) (PX E K I1 C1) → te σ H1 Q
theorem pl_foc {i : Nat} {w : V} {t : Hp} {y : β} {F : β → α} (hv : σ[i]? = some (some w)) (f : Foc R S I v T y w t F) : EvPl E K (tVar i) σ I C R S v T (.ok (y, F)) := fun I1 C1 H1 e e' s Q q =>
  ⟨w, hv, q w t I1 H1 (Ex.refl _) s (f.mono e)⟩
theorem pl_var {i : Nat} {x : α} (hv : σ[i]? = some (some v)) (r : R.r x v I T) : EvPl E K (tVar i) σ I C R R v T (.ok (x, fun y => y)) := pl_foc hv (Foc.refl r)
theorem pl_ix {m : Res (List β × (List β → α))} {mi : Res Int} (hT : Ex T C) (h : EvPl E K te σ I C R (oL S) v T m) (hi : EvX E K ti σ I C mi pI) :
    EvPl E K (tOp (rIxL K) te ti) σ I C R S v T (m.bind fun p => mi.bind fun i => (plR p.1 i).bind fun q => .ok (q.1, fun y => p.2 (q.2 y))) := fun I1 C1 H1 e e' s Q q =>
  h I1 C1 H1 e e' s _ ((Post.bind q).mono (fun p q2 w t I2 H2 e2 s2 f => hi I2 C1 H2 (e.trans e2) e' s2 _ ((Post.bind q2).mono (fun j q3 u I3 H3 e3 s3 ru => by
    have hu : u = .int j := ru
    subst hu
    have q3 := Post.bind q3
    unfold plR at q3
    cases hj : ixN p.1.length j with
    | none =>
      rw [hj] at q3
      exact q3.elim
    | some n =>
      rw [hj] at q3
      cases hy : p.1[n]? with
      | none =>
        simp only [hy] at q3
        exact q3.elim
      | some y =>
        simp only [hy] at q3
        obtain ⟨a, vs, u, t', h1, h2, h3, h4, f'⟩ := f.ix hy
        refine ⟨a, vs, j, u, h1, rfl, .inl (.inl (s3.c a _ (e' a _ (hT a _ (f.ex a _ h2))))), ?_, q3 u t' I3 H3 (e2.trans e3) s3 (f'.mono e3)⟩
        unfold atI
        rw [h3, hj]
        exact h4) fun c i z => z.mono e2 (Ex.refl _))) fun _ _ z => z)
/-- a place that holds a list of things known for good: the heap's change -/
theorem foc_flat [Im S] {ys ys' : List β} {w : V} {t : Hp} {F : List β → α} (f : Foc R (oL S) I v T ys w t F) : ∃ a vs, w = .ref a ∧ T a = some (.lst vs) ∧ vs.length ≤ sizeLine ∧ A2 (fun x u => S.r x u I Z) ys vs ∧
    ∀ ys' vs' I2, Ex I I2 → vs'.length ≤ sizeLine → A2 (fun x u => S.r x u I2 Z) ys' vs' → R.r (F ys') v I2 (upd T a (.lst vs')) ∧ Foc R (oL S) I2 v (upd T a (.lst vs')) ys' w (upd t a (.lst vs')) F := by
  obtain ⟨a, vs, h1, h2, h3, h4⟩ := oL_at f.r
  refine ⟨a, vs, h1, f.ex a _ h2, h3, h4, fun ys' vs' I2 e hl r => ?_⟩
  have hD : ∀ b, upd Z a (.lst vs') b ≠ none → T b ≠ none → t b ≠ none := fun b z _ => by
    rw [one_ne z, h2]
    exact fun z => nomatch z
  have r2 : (oL S).r ys' w I2 (ov (upd Z a (.lst vs')) t) := by
    rw [ov_upd, h1]
    exact oL_of upd_same hl r
  have z1 := f.put ys' I2 _ e hD r2
  have z2 := f.step e hD r2
  rw [ov_upd] at z1 z2
  rw [ov_upd] at z2
  exact ⟨z1, z2⟩
/-- X[e1] = e2 -/
theorem q_setP0 [Im S] {L1 L2 : List Hp} {m : Res β} {mi : Res Int} {mp : Res (List β × (List β → α))} {k : α → Res ω} (hl : EvPl E K tl σ I C R (oL S) v T mp) (h : EvX E K te σ I C m S) (hi : EvX E K ti σ I C mi pI) (s : St I C H) (hT : Sep C (L1 ++ T :: L2)) (hX : XH X E K I C)
    (hm : Post (m.bind fun x => mp.bind fun p => mi.bind fun j => (setR p.1 j x).bind fun c => k (p.2 c)) Q X)
    (next : ∀ x' T' I2 C2 H2, Ex I I2 → St I2 C2 H2 → R.r x' v I2 T' → Sep C2 (L1 ++ T' :: L2) → Post (k x') Q X → tz D σ H2) : tSeq (tAsg te (gSub tl ti rSetL)) tz D σ H :=
  h I C H (Ex.refl _) (Ex.refl _) s _ ((Post.bind hm).mono (fun a po u I2 H2 e2 s2 ru =>
    hl I2 C H2 e2 (Ex.refl _) s2 _ ((Post.bind po).mono (fun p po2 w t I3 H3 e3 s3 f =>
      hi I3 C H3 (e2.trans e3) (Ex.refl _) s3 _ ((Post.bind po2).mono (fun j po3 z I4 H4 e4 s4 rz => by
        have hz : z = .int j := rz
        subst hz
        obtain ⟨b, vs, h1, h2, h3, h4, put⟩ := foc_flat (ys' := p.1) (f.mono e4)
        have hn := h4.len
        have po3 := Post.bind po3
        unfold setR at po3
        cases hj : ixN p.1.length j with
        | none =>
          rw [hj] at po3
          exact po3.elim
        | some l =>
          rw [hj] at po3
          have hCb := hT.get b _ h2
          obtain ⟨r1, _⟩ := put (p.1.set l a) (vs.set l u) I4 (Ex.refl _) (by rw [List.length_set]; exact h3) (A2.set (Im.im (S.mono (e3.trans e4) (Ex.refl _) ru)) l h4)
          refine ⟨b, vs, j, l, h1, rfl, s4.c b _ hCb, by rw [hn]; exact hj, ?_⟩
          refine next _ _ I4 _ _ (e2.trans (e3.trans e4)) (s4.set hCb) r1 ?_ po3
          rw [← ov_upd (T := T)]
          exact hT.upd Chg.up fun a z => .inl (by rw [one_ne z, h2]; exact fun z => nomatch z)) fun c i z => (hX c i z).mono (e2.trans e3) (Ex.refl _))) fun c i z => (hX c i z).mono e2 (Ex.refl _))) hX)
/-- X.append(e) -/
theorem q_appP0 [Im S] {L1 L2 : List Hp} {m : Res β} {mp : Res (List β × (List β → α))} {k : α → Res ω} (hl : EvPl E K tl σ I C R (oL S) v T mp) (h : EvX E K te σ I C m S) (s : St I C H) (hT : Sep C (L1 ++ T :: L2)) (hX : XH X E K I C)
    (hm : Post (mp.bind fun p => m.bind fun x => (push p.1 x).bind fun c => k (p.2 c)) Q X)
    (next : ∀ x' T' I2 C2 H2, Ex I I2 → St I2 C2 H2 → R.r x' v I2 T' → Sep C2 (L1 ++ T' :: L2) → Post (k x') Q X → tz D σ H2) : tSeq (tDrop (tBM K "list" rAppend tl (tCons te tNil))) tz D σ H :=
  hl I C H (Ex.refl _) (Ex.refl _) s _ ((Post.bind hm).mono (fun p po w t I2 H2 e2 s2 f => by
    obtain ⟨b, vs, h1, h2, h3, h4, _⟩ := foc_flat (ys' := p.1) f
    subst h1
    have hCb := hT.get b _ h2
    refine ⟨.inl ⟨rfl, vs, .inl (.inl (s2.c b _ hCb))⟩, h I2 C H2 e2 (Ex.refl _) s2 _ ((Post.bind po).mono (fun a po2 u I3 H3 e3 s3 ru => ?_) fun c i z => (hX c i z).mono e2 (Ex.refl _))⟩
    have po2 := Post.bind po2
    unfold push at po2
    split at po2
    · rename_i hlt
      obtain ⟨b', vs2, h1', h2', h3', h4', put⟩ := foc_flat (ys' := p.1) (f.mono e3)
      cases h1'
      rw [h2] at h2'
      cases h2'
      have hn := h4.len
      have hl2 : vs.length < sizeLine := by
        rw [hn]
        exact Nat.lt_of_lt_of_le hlt (by decide)
      obtain ⟨r1, _⟩ := put (p.1 ++ [a]) (vs ++ [u]) I3 (Ex.refl _) (by rw [List.length_append]; exact hl2) (h4'.append (.one (Im.im ru)))
      refine ⟨b, vs, u, rfl, rfl, s3.c b _ hCb, hl2, next _ _ I3 _ _ (e2.trans e3) (s3.set hCb) r1 ?_ po2⟩
      rw [← ov_upd (T := T)]
      exact hT.upd Chg.up fun a z => .inl (by rw [one_ne z, h2]; exact fun z => nomatch z)
    · exact po2.elim) hX)
/-- X[e1] op= e2 -/
theorem q_augP0 {L1 L2 : List Hp} {f : Int → Int → Int} {m mi : Res Int} {mp : Res (List Int × (List Int → α))} {k : α → Res ω} (hl : EvPl E K tl σ I C R (oL pI) v T mp) (h : EvX E K te σ I C m pI) (hi : EvX E K ti σ I C mi pI) (s : St I C H) (hT : Sep C (L1 ++ T :: L2)) (hX : XH X E K I C)
    (hm : Post (mp.bind fun p => mi.bind fun j => (ix p.1 j).bind fun a => m.bind fun b => (setR p.1 j (f a b)).bind fun c => k (p.2 c)) Q X)
    (next : ∀ x' T' I2 C2 H2, Ex I I2 → St I2 C2 H2 → R.r x' v I2 T' → Sep C2 (L1 ++ T' :: L2) → Post (k x') Q X → tz D σ H2) : tSeq (tAugS tl ti te (rIxL K) (ipI f) rSetL) tz D σ H :=
  hl I C H (Ex.refl _) (Ex.refl _) s _ ((Post.bind hm).mono (fun p po w t I2 H2 e2 s2 fc => by
    refine hi I2 C H2 e2 (Ex.refl _) s2 _ ((Post.bind po).mono (fun j po2 z I3 H3 e3 s3 rz => ?_) fun c i z => (hX c i z).mono e2 (Ex.refl _))
    have hz : z = .int j := rz
    subst hz
    obtain ⟨b, vs, h1, h2, h3, h4, _⟩ := foc_flat (ys' := p.1) (fc.mono e3)
    have hCb := hT.get b _ h2
    have po3 := Post.bind po2
    cases hx : ix p.1 j with
    | exc c i =>
      unfold ix at hx
      split at hx <;> (try split at hx) <;> (try split at hx) <;> cases hx
    | bad =>
      rw [hx] at po3
      exact po3.elim
    | ok a =>
      rw [hx] at po3
      obtain ⟨u, e1, r⟩ := ix_atI h4 hx
      have hva : u = .int a := r
      subst hva
      refine ⟨b, vs, j, _, h1, rfl, .inl (.inl (s3.c b _ hCb)), e1, ?_⟩
      refine h I3 C H3 (e2.trans e3) (Ex.refl _) s3 _ ((Post.bind po3).mono (fun d po4 y I4 H4 e4 s4 ry => ?_) fun c i z => (hX c i z).mono (e2.trans e3) (Ex.refl _))
      have hy : y = .int d := ry
      subst hy
      have po4 := Post.bind po4
      unfold setR at po4
      cases hj : ixN p.1.length j with
      | none =>
        rw [hj] at po4
        exact po4.elim
      | some l =>
        rw [hj] at po4
        obtain ⟨b', vs2, h1', h2', h3', h4', put⟩ := foc_flat (ys' := p.1) (fc.mono (e3.trans e4))
        rw [h1] at h1'
        cases h1'
        rw [h2] at h2'
        cases h2'
        have hn := h4.len
        obtain ⟨r1, _⟩ := put (p.1.set l (f a d)) (vs.set l (.int (f a d))) I4 (Ex.refl _) (by rw [List.length_set]; exact h3) (A2.set (f := fun x u => pI.r x u I4 Z) (show pI.r (f a d) (.int (f a d)) I4 Z from rfl) l h4')
        refine ⟨a, d, rfl, rfl, b, vs, j, l, h1, rfl, s4.c b _ hCb, by rw [hn]; exact hj, ?_⟩
        refine next _ _ I4 _ _ (e2.trans (e3.trans e4)) (s4.set hCb) r1 ?_ po4
        rw [← ov_upd (T := T)]
        exact hT.upd Chg.up fun a z => .inl (by rw [one_ne z, h2]; exact fun z => nomatch z)) hX)
theorem q_setP [Im S] {L1 L2 : List Hp} {m : Res β} {mi : Res Int} {mp : Res (List β × (List β → α))} {k : α → Res ω} (hl : EvPl E K tl σ I C R (oL S) v T mp) (h : EvX E K te σ I C m S) (hi : EvX E K ti σ I C mi pI) (s : St I C H) (hT : Sep C (L1 ++ T :: L2)) (hX : XH X E K I C)
    (hm : Post ((m.bind fun x => mp.bind fun p => mi.bind fun j => (setR p.1 j x).bind fun c => .ok (p.2 c)).bind k) Q X)
    (next : ∀ x' T' I2 C2 H2, Ex I I2 → St I2 C2 H2 → R.r x' v I2 T' → Sep C2 (L1 ++ T' :: L2) → Post (k x') Q X → tz D σ H2) : tSeq (tAsg te (gSub tl ti rSetL)) tz D σ H :=
  q_setP0 hl h hi s hT hX (by simpa only [Res.bind_assoc, Res.bind_ok] using hm) next
theorem q_appP [Im S] {L1 L2 : List Hp} {m : Res β} {mp : Res (List β × (List β → α))} {k : α → Res ω} (hl : EvPl E K tl σ I C R (oL S) v T mp) (h : EvX E K te σ I C m S) (s : St I C H) (hT : Sep C (L1 ++ T :: L2)) (hX : XH X E K I C)
    (hm : Post ((mp.bind fun p => m.bind fun x => (push p.1 x).bind fun c => .ok (p.2 c)).bind k) Q X)
    (next : ∀ x' T' I2 C2 H2, Ex I I2 → St I2 C2 H2 → R.r x' v I2 T' → Sep C2 (L1 ++ T' :: L2) → Post (k x') Q X → tz D σ H2) : tSeq (tDrop (tBM K "list" rAppend tl (tCons te tNil))) tz D σ H :=
  q_appP0 hl h s hT hX (by simpa only [Res.bind_assoc, Res.bind_ok] using hm) next
theorem q_augP {L1 L2 : List Hp} {f : Int → Int → Int} {m mi : Res Int} {mp : Res (List Int × (List Int → α))} {k : α → Res ω} (hl : EvPl E K tl σ I C R (oL pI) v T mp) (h : EvX E K te σ I C m pI) (hi : EvX E K ti σ I C mi pI) (s : St I C H) (hT : Sep C (L1 ++ T :: L2)) (hX : XH X E K I C)
    (hm : Post ((mp.bind fun p => mi.bind fun j => (ix p.1 j).bind fun a => m.bind fun b => (setR p.1 j (f a b)).bind fun c => .ok (p.2 c)).bind k) Q X)
    (next : ∀ x' T' I2 C2 H2, Ex I I2 → St I2 C2 H2 → R.r x' v I2 T' → Sep C2 (L1 ++ T' :: L2) → Post (k x') Q X → tz D σ H2) : tSeq (tAugS tl ti te (rIxL K) (ipI f) rSetL) tz D σ H :=
  q_augP0 hl h hi s hT hX (by simpa only [Res.bind_assoc, Res.bind_ok] using hm) next
/-! ### expressions that change what one has (all of it: G); what stands as it was: B -/
def EvZ (E : XK) (K : PySem.W.Frag) (te : TE) (σ : L2.St) (I B : Hp) (G : μ → Hp → Hp → Prop) (m : μ → Res (β × μ)) (S : Rp β) : Prop :=
  ∀ x I1 C1 H1, Ex I I1 → St I1 C1 H1 → G x I1 C1 → ∀ Q : VK, Post (m x) (fun b => ∀ v I2 C2 H2, Ex I1 I2 → St I2 C2 H2 → G b.2 I2 C2 → S.r b.1 v I2 Z → Q v H2) (PX E K I1 B) → te σ H1 Q
def EvTZ (E : XK) (K : PySem.W.Frag) (tt : TT) (σ : L2.St) (I B : Hp) (G : μ → Hp → Hp → Prop) (m : μ → Res (Bool × μ)) : Prop :=
  ∀ x I1 C1 H1, Ex I I1 → St I1 C1 H1 → G x I1 C1 → ∀ Q : Bool → Hp → Prop, Post (m x) (fun b => ∀ I2 C2 H2, Ex I1 I2 → St I2 C2 H2 → G b.2 I2 C2 → Q b.1 H2) (PX E K I1 B) → tt σ H1 Q
def seeM {β μ : Type} (m : μ → Res β) : μ → Res (β × μ) := fun x => (m x).bind fun a => .ok (a, x)
/-- what the word of all that one has must be -/
structure Gd (B : Hp) (G : μ → Hp → Hp → Prop) : Prop where
  up : ∀ x I1 I2 C1, Ex I1 I2 → G x I1 C1 → G x I2 C1
  fr : ∀ x I1 C1, G x I1 C1 → Ex B C1
variable {G : μ → Hp → Hp → Prop} {B : Hp}
theorem z_pure [Im S] {m : μ → Res β} (d : Gd B G) (h : ∀ x I1 C1, Ex I I1 → G x I1 C1 → EvX E K te σ I1 C1 (m x) S) : EvZ E K te σ I B G (seeM m) S := fun x I1 C1 H1 e s g Q q =>
  h x I1 C1 e g I1 C1 H1 (Ex.refl _) (Ex.refl _) s Q ((Post.bind q).mono (fun a z v I2 H2 e2 s2 rv => z v I2 C1 H2 e2 s2 (d.up _ _ _ _ e2 g) (Im.im rv)) fun _ _ z => z.mono (Ex.refl _) (d.fr _ _ _ g))
theorem tz_pure {m : μ → Res Bool} (d : Gd B G) (h : ∀ x I1 C1, Ex I I1 → G x I1 C1 → EvT E K tt σ I1 C1 (m x)) : EvTZ E K tt σ I B G (seeM m) := fun x I1 C1 H1 e s g Q q =>
  h x I1 C1 e g I1 C1 H1 (Ex.refl _) (Ex.refl _) s Q ((Post.bind q).mono (fun a z I2 H2 e2 s2 => z I2 C1 H2 e2 s2 (d.up _ _ _ _ e2 g)) fun _ _ z => z.mono (Ex.refl _) (d.fr _ _ _ g))
theorem tz_B {m : μ → Res (Bool × μ)} (h : EvZ E K te σ I B G m pB) : EvTZ E K (tB te) σ I B G m := fun x I1 C1 H1 e s g Q q => h x I1 C1 H1 e s g _ (q.mono (fun b z v I2 C2 H2 e2 s2 g2 rv => ⟨b.1, rv, z I2 C2 H2 e2 s2 g2⟩) fun _ _ z => z)
theorem tz_not {m : μ → Res (Bool × μ)} (h : EvTZ E K tt σ I B G m) : EvTZ E K (tNot tt) σ I B G (unM notR m) := fun x I1 C1 H1 e s g Q q => h x I1 C1 H1 e s g _ ((Post.bind q).mono (fun b z I2 C2 H2 e2 s2 g2 => z I2 C2 H2 e2 s2 g2) fun _ _ z => z)
theorem tz_or {m n : μ → Res (Bool × μ)} (h1 : EvTZ E K tt σ I B G m) (h2 : EvTZ E K tu σ I B G n) : EvTZ E K (tOr tt tu) σ I B G (orM m n) := fun x I1 C1 H1 e s g Q q =>
  h1 x I1 C1 H1 e s g _ ((Post.bind q).mono (fun b z I2 C2 H2 e2 s2 g2 => by
    obtain ⟨c, y⟩ := b
    cases c with
    | false => exact h2 y I2 C2 H2 (e.trans e2) s2 g2 Q (Post.mono (m := n y) z (fun b z I3 C3 H3 e3 s3 g3 => z I3 C3 H3 (e2.trans e3) s3 g3) fun _ _ z => z.mono e2 (Ex.refl _))
    | true => exact z I2 C2 H2 e2 s2 g2) fun _ _ z => z)
theorem tz_and {m n : μ → Res (Bool × μ)} (h1 : EvTZ E K tt σ I B G m) (h2 : EvTZ E K tu σ I B G n) : EvTZ E K (tAnd tt tu) σ I B G (andM m n) := fun x I1 C1 H1 e s g Q q =>
  h1 x I1 C1 H1 e s g _ ((Post.bind q).mono (fun b z I2 C2 H2 e2 s2 g2 => by
    obtain ⟨c, y⟩ := b
    cases c with
    | true => exact h2 y I2 C2 H2 (e.trans e2) s2 g2 Q (Post.mono (m := n y) z (fun b z I3 C3 H3 e3 s3 g3 => z I3 C3 H3 (e2.trans e3) s3 g3) fun _ _ z => z.mono e2 (Ex.refl _))
    | false => exact z I2 C2 H2 e2 s2 g2) fun _ _ z => z)
/-! ### statements by them -/
theorem zq_asg {i : Nat} {m : μ → Res (β × μ)} {x : μ} {k : β × μ → Res ω} (h : EvZ E K te σ I B G m S) (s : St I C H) (g : G x I C) (hX : XH X E K I B) (hm : Post ((m x).bind k) Q X)
    (next : ∀ b v I2 C2 H2, Ex I I2 → St I2 C2 H2 → G b.2 I2 C2 → S.r b.1 v I2 Z → Post (k b) Q X → tz D (σ.set i (some v)) H2) : tSeq (tAsg te (gName i)) tz D σ H :=
  h x I C H (Ex.refl _) s g _ ((Post.bind hm).mono (fun b z v I2 C2 H2 e2 s2 g2 rv => next b v I2 C2 H2 e2 s2 g2 rv z) hX)
theorem zq_ret {m : μ → Res (β × μ)} {x : μ} {k : β × μ → Res ω} (h : EvZ E K te σ I B G m S) (s : St I C H) (g : G x I C) (hX : XH X E K I B) (hm : Post ((m x).bind k) Q X)
    (next : ∀ b v I2 C2 H2, Ex I I2 → St I2 C2 H2 → G b.2 I2 C2 → S.r b.1 v I2 Z → Post (k b) Q X → D.rt v H2) : tSeq (tRet te) tz D σ H :=
  h x I C H (Ex.refl _) s g _ ((Post.bind hm).mono (fun b z v I2 C2 H2 e2 s2 g2 rv => next b v I2 C2 H2 e2 s2 g2 rv z) hX)
theorem zq_expr {m : μ → Res (β × μ)} {x : μ} {k : β × μ → Res ω} (h : EvZ E K te σ I B G m S) (s : St I C H) (g : G x I C) (hX : XH X E K I B) (hm : Post ((m x).bind k) Q X)
    (next : ∀ b I2 C2 H2, Ex I I2 → St I2 C2 H2 → G b.2 I2 C2 → Post (k b) Q X → tz D σ H2) : tSeq (tDrop te) tz D σ H :=
  h x I C H (Ex.refl _) s g _ ((Post.bind hm).mono (fun b z v I2 C2 H2 e2 s2 g2 rv => next b I2 C2 H2 e2 s2 g2 z) hX)
theorem zs_if {tw tv : TS} {c : μ → Res (Bool × μ)} {x : μ} {m1 m2 : μ → Res ω} (h : EvTZ E K tt σ I B G c) (s : St I C H) (g : G x I C) (hX : XH X E K I B) (hm : Post (ifMR c x m1 m2) Q X)
    (h1 : ∀ y I2 C2 H2, Ex I I2 → St I2 C2 H2 → G y I2 C2 → Post (m1 y) Q X → tw { D with nx := tz D } σ H2)
    (h2 : ∀ y I2 C2 H2, Ex I I2 → St I2 C2 H2 → G y I2 C2 → Post (m2 y) Q X → tv { D with nx := tz D } σ H2) : tSeq (tIfS tt tw tv) tz D σ H :=
  h x I C H (Ex.refl _) s g _ ((Post.bind hm).mono (fun b z I2 C2 H2 e2 s2 g2 => by
    obtain ⟨c, y⟩ := b
    cases c with
    | true => exact h1 y I2 C2 H2 e2 s2 g2 z
    | false => exact h2 y I2 C2 H2 e2 s2 g2 z) hX)
/-! ### defs that change what they are given -/
/-- the things given, side by side -/
structure Rz (μ : Type) where
  r : μ → List V → Hp → List Hp → Prop
  mono : ∀ {x : μ} {vs : List V} {I I' : Hp} {Ts : List Hp}, Ex I I' → r x vs I Ts → r x vs I' Ts
  n : Nat
  len : ∀ {x : μ} {vs : List V} {I : Hp} {Ts : List Hp}, r x vs I Ts → Ts.length = n
def z1 (R : Rp α) : Rz α := ⟨fun x vs I Ts => ∃ v T, vs = [v] ∧ Ts = [T] ∧ R.r x v I T, fun e ⟨v, T, h1, h2, h3⟩ => ⟨v, T, h1, h2, R.mono e (Ex.refl _) h3⟩, 1, fun ⟨_, _, _, h, _⟩ => by rw [h]; rfl⟩
def zc (R : Rp α) (M : Rz μ) : Rz (α × μ) := ⟨fun x vs I Ts => ∃ v T us Us, vs = v :: us ∧ Ts = T :: Us ∧ R.r x.1 v I T ∧ M.r x.2 us I Us, fun e ⟨v, T, us, Us, h1, h2, h3, h4⟩ => ⟨v, T, us, Us, h1, h2, R.mono e (Ex.refl _) h3, M.mono e h4⟩, M.n + 1,
  fun ⟨_, _, _, _, _, h, _, h4⟩ => by rw [h, List.length_cons, M.len h4]⟩
/-- a thing given stands in the row of arguments by its address -/
def tv1 (v : V) : Rt Unit := ⟨fun _ vs _ _ => vs = [v], fun _ _ h => h, 1, fun h => by rw [h]; rfl⟩
def tvc {β : Type} (v : V) (A : Rt β) : Rt β := ⟨fun b vs I C => ∃ us, vs = v :: us ∧ A.r b us I C, fun e e' ⟨us, h1, h2⟩ => ⟨us, h1, A.mono e e' h2⟩, A.n + 1, fun ⟨_, h, h2⟩ => by rw [h, List.length_cons, A.len h2]⟩
theorem av_cons {tr : TA} {A : Rt β} {i : Nat} {n : Res β} (hv : σ[i]? = some (some v)) (h2 : EvA E K tr σ I C n A) : EvA E K (tCons (tVar i) tr) σ I C n (tvc v A) := fun I1 C1 H1 e e' s Q q =>
  ⟨v, hv, h2 I1 C1 H1 e e' s _ (q.mono (fun b p vs I2 H2 e2 s2 rv => p (v :: vs) I2 H2 e2 s2 ⟨vs, rfl, rv⟩) fun _ _ z => z)⟩
theorem av_one {i : Nat} (hv : σ[i]? = some (some v)) : EvA E K (tCons (tVar i) tNil) σ I C (.ok ()) (tv1 v) := fun I1 C1 H1 e e' s Q q => ⟨v, hv, q [v] I1 H1 (Ex.refl _) s rfl⟩
def spZ (K : PySem.W.Frag) (A : List V → Rt α) (M : Rz μ) (m : α → μ → Res (β × μ)) (S : Rp β) : Sp := fun vs H Q E => ∃ (I C : Hp) (a : α) (x : μ) (zs : List V) (Ts : List Hp), St I C H ∧ Sep C Ts ∧ M.r x zs I Ts ∧ (A zs).r a vs I C ∧
  Post (m a x) (fun b => ∀ v I2 C2 H2 Us, Ex I I2 → St I2 C2 H2 → Sep C2 (wo C Ts :: Us) → M.r b.2 zs I2 Us → S.r b.1 v I2 Z → Q v H2) (PX E K I (wo C Ts))
theorem z_call {A : List V → Rt α} {M : Rz ρ} {f : α → ρ → Res (β × ρ)} {ta : TA} {g : μ → ρ} {h : μ → ρ → μ} {ma : μ → Res α} (zs : List V) (d : Gd B G) (hA : ∀ x I1 C1, Ex I I1 → G x I1 C1 → EvA E K ta σ I1 C1 (ma x) (A zs))
    (hs : ∀ x I1 C1, Ex I I1 → G x I1 C1 → ∃ Ts, Sep C1 Ts ∧ Ex B (wo C1 Ts) ∧ M.r (g x) zs I1 Ts ∧ ∀ y I2 C2 Us, Ex I1 I2 → Sep C2 (wo C1 Ts :: Us) → M.r y zs I2 Us → G (h x y) I2 C2) :
    EvZ E K (tCall (spZ K A M f S) [] E ta) σ I B G (fun x => (ma x).bind fun a => (f a (g x)).bind fun b => .ok (b.1, h x b.2)) S := fun x I1 C1 H1 e s gx Q q =>
  hA x I1 C1 e gx I1 C1 H1 (Ex.refl _) (Ex.refl _) s _ ((Post.bind q).mono (fun a z vs I2 H2 e2 s2 rv => by
    obtain ⟨Ts, h1, hB, h2, h3⟩ := hs x I2 C1 (e.trans e2) (d.up _ _ _ _ e2 gx)
    refine ⟨I2, C1, a, g x, zs, Ts, s2, h1, h2, by rw [List.append_nil]; exact rv, (Post.bind z).mono (fun b z v I3 C3 H3 Us e3 s3 q3 m3 rv => ?_) fun _ _ z => z.mono e2 hB⟩
    exact z v I3 C3 H3 (e2.trans e3) s3 (h3 b.2 I3 C3 Us e3 q3 m3) rv) fun _ _ z => z.mono (Ex.refl _) (d.fr _ _ _ gx))
/-- arguments whose last one is a new list -/
def EvAN (E : XK) (K : PySem.W.Frag) (ta : TA) (σ : L2.St) (I C : Hp) {α : Type} (m : Res α) (A : V → Rt α) : Prop :=
  ∀ I1 C1 H1, Ex I I1 → Ex C C1 → St I1 C1 H1 → ∀ Q : List V → Hp → Prop, Post m (fun a => ∀ vs p I2 H2, Ex I1 I2 → C1 p = none → St I2 (upd C1 p (.lst [])) H2 → (A (.ref p)).r a vs I2 C1 → Q vs H2) (PX E K I1 C1) → ta σ H1 Q
theorem an_one : EvAN E K (tCons (tLst tNil) tNil) σ I C (.ok ()) tv1 := fun I1 C1 H1 e e' s Q q =>
  ⟨Nat.zero_le _, fun p hp => q [.ref p] p I1 _ (Ex.refl _) (s.c.free hp) (s.newC hp) rfl⟩
theorem an_cons {tr : TA} {A : V → Rt β} {m : Res α} {n : Res β} (h1 : EvX E K ta σ I C m R) (h2 : EvAN E K tr σ I C n A) : EvAN E K (tCons ta tr) σ I C (pair m n) (fun v => tc R (A v)) := fun I1 C1 H1 e e' s Q q =>
  h1 I1 C1 H1 e e' s _ ((Post.bind q).mono (fun a p x I2 H2 e2 s2 rx =>
    h2 I2 C1 H2 (e.trans e2) e' s2 _ ((Post.bind p).mono (fun b p2 ys r I3 H3 e3 hr s3 ry => p2 (x :: ys) r I3 H3 (e2.trans e3) hr s3 ⟨x, ys, rfl, R.mono e3 (Ex.refl _) rx, ry⟩) fun c i z => z.mono e2 (Ex.refl _))) fun _ _ z => z)
theorem an_var {tr : TA} {A : V → Rt β} {i : Nat} {n : Res β} (hv : σ[i]? = some (some v)) (h2 : EvAN E K tr σ I C n A) : EvAN E K (tCons (tVar i) tr) σ I C n (fun w => tvc v (A w)) := fun I1 C1 H1 e e' s Q q =>
  ⟨v, hv, h2 I1 C1 H1 e e' s _ (q.mono (fun b p vs r I2 H2 e2 hr s2 rv => p (v :: vs) r I2 H2 e2 hr s2 ⟨vs, rfl, rv⟩) fun _ _ z => z)⟩
theorem z_callN {A : List V → Rt α} {M : Rz ρ} {f : α → ρ → Res (β × ρ)} {ta : TA} {g : μ → ρ} {h : μ → ρ → μ} {ma : μ → Res α} (zs : V → List V) (d : Gd B G) (hA : ∀ x I1 C1, Ex I I1 → G x I1 C1 → EvAN E K ta σ I1 C1 (ma x) (fun w => A (zs w)))
    (hs : ∀ x I1 C1 p, Ex I I1 → G x I1 C1 → C1 p = none → ∃ Ts, Sep (upd C1 p (.lst [])) Ts ∧ Ex B (wo (upd C1 p (.lst [])) Ts) ∧ M.r (g x) (zs (.ref p)) I1 Ts ∧ ∀ y I2 C2 Us, Ex I1 I2 → Sep C2 (wo (upd C1 p (.lst [])) Ts :: Us) → M.r y (zs (.ref p)) I2 Us → G (h x y) I2 C2) :
    EvZ E K (tCall (spZ K A M f S) [] E ta) σ I B G (fun x => (ma x).bind fun a => (f a (g x)).bind fun b => .ok (b.1, h x b.2)) S := fun x I1 C1 H1 e s gx Q q =>
  hA x I1 C1 e gx I1 C1 H1 (Ex.refl _) (Ex.refl _) s _ ((Post.bind q).mono (fun a z vs p I2 H2 e2 hp s2 rv => by
    obtain ⟨Ts, h1, hB, h2, h3⟩ := hs x I2 C1 p (e.trans e2) (d.up _ _ _ _ e2 gx) hp
    refine ⟨I2, _, a, g x, zs (.ref p), Ts, s2, h1, h2, by rw [List.append_nil]; exact (A _).mono (Ex.refl _) (Ex.new hp) rv, (Post.bind z).mono (fun b z v I3 C3 H3 Us e3 s3 q3 m3 rv => ?_) fun _ _ z => z.mono e2 hB⟩
    exact z v I3 C3 H3 (e2.trans e3) s3 (h3 b.2 I3 C3 Us e3 q3 m3) rv) fun _ _ z => z.mono (Ex.refl _) (d.fr _ _ _ gx))
/-! ### the frame -/
theorem Sep.one (e : Ex T C) : Sep C [T] := Sep.put (L1 := []) (L2 := []) Sep.nil e fun _ h => (nomatch h)
theorem Sep.pre {L1 L2 : List Hp} (h : Sep C (L1 ++ L2)) : Sep C L1 := ⟨fun U hU => h.ex U (List.mem_append_left _ hU), (List.pairwise_append.mp h.pw).1⟩
theorem Sep.bwo {L : List Hp} {is : List Nat} (h : Sep C (T :: L)) (hi : ∀ i, i ∈ is → 0 < i ∧ i < (T :: L).length) : Ex T (Sd.wo C (selL (T :: L) is)) := wo_has (h.ex _ List.mem_cons_self) fun U hU => by
  unfold selL at hU
  obtain ⟨j, hj, q⟩ := List.mem_map.mp hU
  have hj2 := hi j hj
  rw [List.getD_eq_getElem?_getD, List.getElem?_eq_getElem hj2.2] at q
  exact (sep_iff.mp h).2 j 0 U T (by omega) (by rw [List.getElem?_eq_getElem hj2.2, ← q]; rfl) rfl
theorem sep_new1 {L : List Hp} {p : Addr} {o : HO} {C2 : Hp} (h : Sep C L) (hp : C p = none) (h2 : C2 p = some o) (k : ∀ q, q ≠ p → C2 q = C q) : Sep C2 (L ++ [upd Z p o]) := h.new (Chg.one h2 k) fun a z => by rw [one_ne z]; exact hp
theorem oL_ref (h : (oL R).r x v I T) : ∃ a, v = .ref a := by
  obtain ⟨a, _, _, h, _⟩ := h
  exact ⟨a, h⟩
theorem q_retOw [Im R] {i : Nat} {p : Addr} {xs : List α} {L1 L2 : List Hp} (hv : σ[i]? = some (some (.ref p))) (s : St I C H) (hs : Sep C (B :: L1 ++ T :: L2)) (hr : (oL R).r xs (.ref p) I T)
    (next : ∀ vs, B p = none → St I (upd B p (.lst vs)) H → vs.length ≤ sizeLine → A2 (fun x u => R.r x u I B) xs vs → D.rt (.ref p) H) : tSeq (tRet (tVar i)) tz D σ H := by
  obtain ⟨a, vs, h1, h2, h3, h4⟩ := oL_at hr
  cases h1
  have hB : B p = none := (Sep.ap (L1 := B :: L1) hs B List.mem_cons_self).r (by rw [h2]; exact fun z => nomatch z)
  exact ⟨.ref p, hv, next vs hB (s.less fun b u e => by
    by_cases q : b = p
    · rw [q, upd_same] at e
      rw [q, ← e]
      exact Sep.get (L1 := B :: L1) hs p _ h2
    · rw [upd_ne q] at e
      exact hs.ex B List.mem_cons_self b u e) h3 (h4.imp fun _ _ h => Im.im h)⟩
end
end Sd

namespace Sd
open PySem L2
section
variable {E : XK} {K : PySem.W.Frag} {σ : L2.St} {I C B : Hp} {α β γ : Type} {R : Rp α} {S : Rp β} {te : TE} {tl th : TO}
abbrev tTru (K : PySem.W.Frag) (ta : TE) : TT := fun σ H Q => ta σ H fun x H' => ∃ k, TruV K x H' k ∧ Q k H'
/-- t[1:] of a tuple -/
theorem x_slT1 {T : Rt β} {m : Res (α × β)} (h : EvX E K te σ I C m (pT (tc R T))) (hl : EvO E K tl σ I C (someR (.ok 1))) (hh : EvO E K th σ I C (.ok none)) : EvX E K (tSl (rSlT K) te tl th) σ I C (un (fun p => .ok p.2) m) (pT T) := fun I1 C1 H1 e e' s Q q =>
  h I1 C1 H1 e e' s _ ((Post.bind q).mono (fun a p x I2 H2 e2 s2 rx =>
    hl I2 C1 H2 (e.trans e2) e' s2 _ (fun I3 H3 e3 s3 => hh I3 C1 H3 (e.trans (e2.trans e3)) e' s3 _ (fun I4 H4 e4 s4 => by
      obtain ⟨b, vs, h1, h2, v, us, h3, r, t⟩ := rx
      subst h3
      refine ⟨b, v :: us, h1, .inl (.inl (s4.i b _ (e4 b _ (e3 b _ h2)))), ?_, fun r hr => ?_⟩
      · rintro ⟨z, _⟩
        rw [show (some (1 : Int)) = some ((1 : Nat) : Int) from rfl, HT.sIx_nat] at z
        rw [List.length_cons] at z
        omega
      · have ec : cutV (v :: us) (some 1) none = us := by
          unfold cutV
          rw [HT.sIx_none, show (some (1 : Int)) = some ((1 : Nat) : Int) from rfl, HT.sIx_nat, List.length_cons, show min 1 (us.length + 1) = 1 by omega]
          exact List.take_of_length_le (by rw [List.drop_succ_cons, List.drop_zero]; omega)
        rw [ec]
        exact p (.ref r) (upd I4 r (.tup us)) _ (e2.trans (e3.trans (e4.trans (Ex.new (s4.i.free hr))))) (s4.newI hr) ⟨r, us, rfl, upd_same, T.mono (e3.trans (e4.trans (Ex.new (s4.i.free hr)))) (Ex.refl _) t⟩))) fun _ _ z => z)
theorem see_t3 : Sees (pT (tc R (tc R (t1 R)))) (pQ K R) (fun p : α × α × α => [p.1, p.2.1, p.2.2]) := fun x v I C ⟨a, vs, h1, h2, h3⟩ => by
  obtain ⟨u, us, rfl, h4, w, ws, rfl, h5, y, rfl, h6⟩ := h3
  exact ⟨a, _, h1, .inl (.inl h2), by show 3 ≤ sizeLine; decide, .cons h4 (.cons h5 (.cons h6 .nil))⟩
theorem i_enumV [Im R] {i : Nat} {v : V} {xs : List α} (hv : σ[i]? = some (some v)) (h : (pV R).r xs v I B) (hB : Ex B C) :
    EvI E K (iEnum K (tCons (tVar i) tNil)) σ I C (fun C3 => Ex B C3) (un enumR (.ok xs)) (pT (tc pI (t1 R))) := fun I1 C1 H1 e e' s Kt q => by
  obtain ⟨a, us, rfl, h2, h3, h4⟩ := h
  have hl := h4.len
  have at3 : ∀ I3 C3 H3, Ex I1 I3 → Ex B C3 → St I3 C3 H3 → SqL K H3 a us := fun I3 C3 H3 e3 k3 s3 => .inl (.inl (h2.elim (fun z => s3.i a _ (e3 a _ (e a _ z))) fun z => s3.c a _ (k3 a _ z)))
  refine ⟨.ref a, hv, a, us, rfl, at3 I1 C1 H1 (Ex.refl _) (hB.trans e') s, q (Ite K a) (fun H => SqL K H a us) (YPair (fun i => some (.int (i : Nat))) (fun i => us[i]?)) I1 H1 (Ex.refl _) s (by rw [enumF_length]; omega) (by rw [enumF_length, ← hl]; exact walk_enum) (fun I3 C3 H3 e3 k3 s3 => at3 I3 C3 H3 e3 k3 s3) (fun i x v' I3 C3 H3 H4 hx e3 _ s3 y => ?_)⟩
  obtain ⟨T, u, w, rfl, hT, rfl, hu, hw⟩ := y
  rw [enumF_get] at hx
  cases hz : xs[i]? with
  | none =>
    rw [hz] at hx
    cases hx
  | some z =>
    rw [hz] at hx
    cases hx
    obtain ⟨w', hw', r⟩ := h4.get' hz
    have hw2 : us[i]? = some w := hw
    rw [hw'] at hw2
    cases hw2
    cases hu
    exact new_pair s3 hT (show V.int (i : Nat) = V.int (0 + (i : Int)) by rw [Int.zero_add]) (R.to (e.trans e3) r)
end
section
variable {E : XK} {K : PySem.W.Frag} {σ : L2.St} {I C H : Hp} {α β μ ω : Type} {R : Rp α} {te ti : TE} {tz : TS} {D : Ends} {Q : ω → Prop}
/-- xs[e1] = e2, e2 draws -/
theorem qm_setL {M : Rt μ} [It M] [Im R] {i : Nat} {p q : Addr} {x : μ} {ws vs : List V} {xs : List α} {k : List α × μ → Res ω} {m : μ → Res (α × μ)} {mi : Res Int} (hv : σ[i]? = some (some (.ref q))) (hq : C q = some (.lst vs)) (hqp : q ≠ p) (hl : vs.length ≤ sizeLine) (hr : A2 (fun x u => R.r x u I Z) xs vs) (h : EvM E K p M te σ I (off C p) m R) (hi : EvX E K ti σ I (off C p) mi pI)
    (s : St I C H) (hc : C p = some (.lst ws)) (hx : M.r x ws I Z) (hm : Post (((m x).bind fun b => mi.bind fun j => (setR xs j b.1).bind fun ys => .ok (ys, b.2)).bind k) Q XF)
    (next : ∀ (b : List α × μ) vs' ws' I2 C2 H2, Ex I I2 → St I2 C2 H2 → C2 q = some (.lst vs') → C2 p = some (.lst ws') → (∀ r, r ≠ p → r ≠ q → C2 r = C r) → vs'.length ≤ sizeLine → A2 (fun x u => R.r x u I2 Z) b.1 vs' → M.r b.2 ws' I2 Z → Post (k b) Q XF → tz D σ H2) :
    tSeq (tAsg te (gSub (tVar i) ti rSetL)) tz D σ H := by
  refine h x ws I C H (Ex.refl _) off_ex s hc (It.im hx) _ ((Post.bind (Post.bind hm)).mono (fun b po v ws' I2 H2 e2 s2 hx2 rv => ?_) fun _ _ z => z)
  refine ⟨.ref q, hv, hi I2 _ H2 e2 off_upd s2 _ ((Post.bind po).mono (fun j po2 w I3 H3 e3 s3 rw => ?_) fun _ _ z => z.elim)⟩
  have hw : w = .int j := rw
  subst hw
  have po2 := Post.bind po2
  unfold setR at po2
  have hn := hr.len
  have hq2 : upd C p (.lst ws') q = some (.lst vs) := by
    rw [upd_ne hqp]
    exact hq
  cases hj : ixN xs.length j with
  | none =>
    rw [hj] at po2
    exact po2.elim
  | some l =>
    rw [hj] at po2
    refine ⟨q, vs, j, l, rfl, rfl, s3.c q _ hq2, by rw [hn]; exact hj, next (xs.set l b.1, b.2) (vs.set l v) ws' I3 _ _ (e2.trans e3) (s3.set hq2) upd_same ?_ (fun r h1 h2 => ?_) (by rw [List.length_set]; exact hl) ?_ (It.im (M.mono e3 (Ex.refl _) hx2)) po2⟩
    · rw [upd_ne (Ne.symm hqp), upd_same]
    · rw [upd_ne h2, upd_ne h1]
    · exact A2.set (Im.im (R.mono e3 (Ex.refl _) rv)) l (hr.imp fun _ _ h => R.mono (e2.trans e3) (Ex.refl _) h)
end
end Sd

namespace Sd
open PySem L2
/-! ### new things of one's own -/
section
variable {E : XK} {K : PySem.W.Frag} {σ : L2.St} {I C H B T : Hp} {α β γ μ ω : Type} {R : Rp α} {S : Rp β} {te tl ti tk ta : TE} {tz : TS} {D : Ends} {Q : ω → Prop} {X : Ec → Int → Prop} {v : V} {p : Addr}
theorem ov_z : ov D' Z = D' := by
  funext a
  cases h : D' a with
  | some o => exact ov_some h
  | none => exact (ov_none h).trans rfl
theorem Chg.trans {C C2 C3 D1 D2 : Hp} (a : Chg C C2 D1) (b : Chg C2 C3 D2) : Chg C C3 (Sd.ov D2 D1) := ⟨fun x o e => by
  cases h : D2 x with
  | some u =>
    rw [ov_some h] at e
    rw [← e]
    exact b.d x u h
  | none =>
    rw [ov_none h] at e
    rw [b.k x h]
    exact a.d x o e, fun x e => by
  cases h : D2 x with
  | some u =>
    rw [ov_some h] at e
    cases e
  | none =>
    rw [ov_none h] at e
    rw [b.k x h, a.k x e]⟩
theorem Chg.z {C : Hp} : Chg C C Z := ⟨exz, fun _ _ => rfl⟩
def EvW (E : XK) (K : PySem.W.Frag) (te : TE) (σ : L2.St) (I C : Hp) {α : Type} (m : Res α) (R : Rp α) : Prop :=
  ∀ I1 C1 H1, Ex I I1 → Ex C C1 → St I1 C1 H1 → ∀ Q : VK, Post m (fun x => ∀ v D I2 C2 H2, Ex I1 I2 → St I2 C2 H2 → Chg C1 C2 D → (∀ a, D a ≠ none → C1 a = none) → R.r x v I2 D → Q v H2) (PX E K I1 C1) → te σ H1 Q
theorem w_N [Im R] {m : Res (List α)} (h : EvN E K te σ I C m R) : EvW E K te σ I C m (oL R) := fun I1 C1 H1 e e' s Q q =>
  h I1 C1 H1 e e' s Q (q.mono (fun xs z p vs I2 H2 e2 hp s2 hl hr => z (.ref p) (upd Z p (.lst vs)) I2 _ H2 e2 s2 Chg.up (fun a h => by rw [one_ne h]; exact hp) (oL_of upd_same hl (hr.imp fun _ _ => Im.im))) fun _ _ z => z)
theorem w_X [Im R] {m : Res α} (h : EvX E K te σ I C m R) : EvW E K te σ I C m R := fun I1 C1 H1 e e' s Q q =>
  h I1 C1 H1 e e' s Q (q.mono (fun x z v I2 H2 e2 s2 rv => z v Z I2 C1 H2 e2 s2 Chg.z (fun a h => absurd rfl h) (Im.im rv)) fun _ _ z => z)
theorem w_is {m m' : Res α} (h : EvW E K te σ I C m R) (e : m = m') : EvW E K te σ I C m' R := e ▸ h
/-- seen as another thing -/
def SeeW {α β : Type} (R : Rp α) (S : Rp β) (f : α → β) : Prop := ∀ x v I T, R.r x v I T → S.r (f x) v I T
theorem w_see {f : α → β} {m : Res α} (hf : SeeW R S f) (h : EvW E K te σ I C m R) : EvW E K te σ I C (un (fun x => .ok (f x)) m) S := fun I1 C1 H1 e e' s Q q =>
  h I1 C1 H1 e e' s Q ((Post.bind q).mono (fun x z v D I2 C2 H2 e2 s2 c d rv => z v D I2 C2 H2 e2 s2 c d (hf _ _ _ _ rv)) fun _ _ z => z)
theorem seeW_inl : SeeW R (pX R S) Sum.inl := fun x v I T h => h
theorem seeW_inr : SeeW S (pX R S) Sum.inr := fun x v I T h => h
theorem A3.map {f : α → V → Hp → Prop} {g : β → V → Hp → Prop} {k : α → β} (h : ∀ x v t, f x v t → g (k x) v t) : ∀ {xs : List α} {vs : List V} {ts : List Hp}, A3 f xs vs ts → A3 g (xs.map k) vs ts
  | _, _, _, .nil => .nil
  | _, _, _, .cons r t => .cons (h _ _ _ r) (A3.map h t)
theorem seeW_L {f : α → β} (hf : SeeW R S f) : SeeW (oL R) (oL S) (List.map f) := fun xs v I T ⟨a, vs, ts, h1, h2, h3, h4⟩ => ⟨a, vs, ts, h1, h2, h3.map fun x u t r => hf x u I t r, h4⟩
/-- a row of them -/
def EvAW (E : XK) (K : PySem.W.Frag) (ta : TA) (σ : L2.St) (I C : Hp) {α : Type} (m : Res (List α)) (R : Rp α) (n : Nat) : Prop :=
  ∀ I1 C1 H1, Ex I I1 → Ex C C1 → St I1 C1 H1 → ∀ Q : List V → Hp → Prop, Post m (fun xs => ∀ vs ts D I2 C2 H2, Ex I1 I2 → St I2 C2 H2 → Chg C1 C2 D → (∀ a, D a ≠ none → C1 a = none) → vs.length = n → A3 (fun x u t => R.r x u I2 t) xs vs ts → Sep D ts → Q vs H2) (PX E K I1 C1) → ta σ H1 Q
theorem aw_nil : EvAW E K tNil σ I C (.ok []) R 0 := fun I1 C1 H1 e e' s Q q => q [] [] Z I1 C1 H1 (Ex.refl _) s Chg.z (fun a h => absurd rfl h) rfl .nil Sep.nil
theorem aw_cons {tr : TA} {k : Nat} {m : Res α} {n : Res (List α)} (h1 : EvW E K te σ I C m R) (h2 : EvAW E K tr σ I C n R k) : EvAW E K (tCons te tr) σ I C (consR m n) R (k + 1) := fun I1 C1 H1 e e' s Q q =>
  h1 I1 C1 H1 e e' s _ ((Post.bind q).mono (fun x z v D I2 C2 H2 e2 s2 c d rv => by
    have eC : Ex C1 C2 := fun a o h => by
      rw [c.k a]
      · exact h
      · cases q : D a with
        | none => rfl
        | some u =>
          have := d a (by rw [q]; exact fun z => nomatch z)
          rw [this] at h
          cases h
    refine h2 I2 C2 H2 (e.trans e2) (e'.trans eC) s2 _ ((Post.bind z).mono (fun xs z2 vs ts D2 I3 C3 H3 e3 s3 c3 d3 hl ha hs => ?_) fun c i z => z.mono e2 eC)
    have dd : ∀ a, D2 a ≠ none → D a = none := fun a h => c.d.free (d3 a h)
    have eD : Ex D (ov D2 D) := fun a o h => by
      rw [ov_none]
      · exact h
      · cases q : D2 a with
        | none => rfl
        | some u =>
          have := dd a (by rw [q]; exact fun z => nomatch z)
          rw [this] at h
          cases h
    have eD2 : Ex D2 (ov D2 D) := fun a o h => ov_some h
    refine z2 (v :: vs) (D :: ts) (ov D2 D) I3 C3 H3 (e2.trans e3) s3 (c.trans c3) (fun a h => ?_) (by rw [List.length_cons, hl]) (.cons (R.mono e3 (Ex.refl _) rv) ha) (Sep.put (L1 := []) (hs.mono eD2) eD fun U hU => dj.of fun a h => ?_)
    · cases q : D2 a with
      | some u => exact eC.free (d3 a (by rw [q]; exact fun z => nomatch z))
      | none =>
        rw [ov_none q] at h
        exact d a h
    · cases q : U a with
      | none => rfl
      | some u =>
        have := dd a (by rw [hs.ex U hU a u q]; exact fun z => nomatch z)
        exact absurd this h) fun _ _ z => z)
theorem w_lst {tr : TA} {k : Nat} {m : Res (List α)} (h : EvAW E K tr σ I C m R k) (hn : k ≤ 100) : EvW E K (tLst tr) σ I C m (oL R) := fun I1 C1 H1 e e' s Q q =>
  h I1 C1 H1 e e' s _ (q.mono (fun xs z vs ts D I2 C2 H2 e2 s2 c d hl ha hs => by
    have hz : vs.length ≤ sizeLine := by
      rw [hl]
      exact Nat.le_trans hn (by decide)
    refine ⟨hz, fun t ht => ?_⟩
    have hC : C2 t = none := s2.c.free ht
    have hD : D t = none := c.d.free hC
    refine z (.ref t) (upd D t (.lst vs)) I2 (upd C2 t (.lst vs)) _ e2 (s2.newC ht) ?_ (fun a h => ?_) ⟨t, vs, ts, rfl, hz, ha, Sep.put (L1 := []) (hs.mono (Ex.new hD)) (Ex.one upd_same) fun U hU => dj.of fun a h => ?_⟩
    · have := c.trans (D2 := upd Z t (.lst vs)) (C3 := upd C2 t (.lst vs)) Chg.up
      rw [ov_upd] at this
      exact this
    · by_cases q : a = t
      · rw [q]
        cases h2 : C1 t with
        | none => rfl
        | some o =>
          have := c.k t hD
          rw [h2, hC] at this
          cases this
      · rw [upd_ne q] at h
        exact d a h
    · rw [one_ne h]
      exact (hs.ex U hU).free hD) fun _ _ z => z)
/-- x = e, e new -/
theorem q_asgW {L : List Hp} {i : Nat} {m : Res α} {k : α → Res ω} (h : EvW E K te σ I C m R) (s : St I C H) (hs : Sep C L) (hX : XH X E K I C) (hm : Post (m.bind k) Q X)
    (next : ∀ x v T I2 C2 H2, Ex I I2 → St I2 C2 H2 → R.r x v I2 T → Sep C2 (L ++ [T]) → Post (k x) Q X → tz D (σ.set i (some v)) H2) : tSeq (tAsg te (gName i)) tz D σ H :=
  h I C H (Ex.refl _) (Ex.refl _) s _ ((Post.bind hm).mono (fun x z v T I2 C2 H2 e2 s2 c d rv => next x v T I2 C2 H2 e2 s2 rv (hs.new c d) z) hX)
/-- y = X, another name of a place -/
theorem q_alias {i : Nat} {m : Res (β × (β → α))} {k : β × (β → α) → Res ω} (h : EvPl E K te σ I C R S v T m) (s : St I C H) (hX : XH X E K I C) (hm : Post (m.bind k) Q X)
    (next : ∀ b w t I2 H2, Ex I I2 → St I2 C H2 → Foc R S I2 v T b.1 w t b.2 → Post (k b) Q X → tz D (σ.set i (some w)) H2) : tSeq (tAsg te (gName i)) tz D σ H :=
  h I C H (Ex.refl _) (Ex.refl _) s _ ((Post.bind hm).mono (fun b z w t I2 H2 e2 s2 f => next b w t I2 H2 e2 s2 f z) hX)
/-- list(range(n)) -/
theorem n_listRg {m : Res Int} (h : EvX E K te σ I C m pI) : EvN E K (tLstRg (tRg1 te)) σ I C (un rng1 m) pI := fun I1 C1 H1 e e' s Q q =>
  h I1 C1 H1 e e' s _ ((Post.bind q).mono (fun n z v I2 H2 e2 s2 rv => by
    have hv : v = .int n := rv
    subst hv
    unfold rng1 at z
    split at z
    · rename_i hn
      refine ⟨n, rfl, ⟨by omega, by omega, by omega, by omega, by omega⟩, PN.new (PN.up e2 z) s2 ?_ ?_⟩
      · show A2 _ (rangeL 0 n) (rgV 0 n)
        unfold rangeL rgV
        generalize List.range (n - 0).toNat = l
        induction l with
        | nil => exact .nil
        | cons i l ih => exact .cons rfl ih
      · rw [rgV_length]
        exact Nat.le_trans (show (n - 0).toNat ≤ 1000000 by omega) (by decide)
    · exact z.elim) fun _ _ z => z)
theorem pLV {xs : List α} (h : (pL R).r xs v I C) : (pV R).r xs v I C := by
  obtain ⟨a, vs, h1, h2, h3, h4⟩ := h
  exact ⟨a, vs, h1, .inl h2, h3, h4⟩
/-! ### beside the pool -/
theorem sep_pool {L1 L2 : List Hp} {o o' : HO} {C2 : Hp} (h : Sep C (L1 ++ upd Z p o :: L2)) (h2 : C2 p = some o') (k : ∀ q, q ≠ p → C2 q = C q) : Sep C2 (L1 ++ upd Z p o' :: L2) := by
  have := h.upd (Chg.one h2 k) fun a z => .inl (by rw [one_ne z]; exact one_self)
  rw [ov_upd, upd_upd] at this
  exact this
theorem sep_off {L1 L2 : List Hp} {o : HO} (h : Sep C (L1 ++ T :: L2)) (hm : upd Z p o ∈ L1 ++ L2) : Ex T (off C p) := fun a u e => by
  have : a ≠ p := fun z => by
    subst z
    exact one_self (p := a) (o := o) ((h.ap _ hm).r (by rw [e]; exact fun z => nomatch z))
  rw [off_ne this]
  exact h.get a u e
theorem sep_law {o : HO} (h : C p = some o) : Sep C [Z, upd Z p o] := Sep.put (L1 := []) (L2 := [upd Z p o]) (Sep.one (Ex.one h)) exz fun _ _ => djz
theorem sep_poolI {o : HO} (h : C p = some o) : Sep C [off C p, upd Z p o] := Sep.put (L1 := []) (L2 := [upd Z p o]) (Sep.one (Ex.one h)) off_ex fun U hU => by
  rw [List.mem_singleton.mp hU]
  refine (dj.of fun a z => ?_ : dj (upd Z p o) (off C p)).symm
  rw [one_ne z]
  exact off_same
theorem sep_no {L1 L2 : List Hp} {o : HO} (h : Sep C (L1 ++ T :: L2)) (hm : upd Z p o ∈ L1 ++ L2) : T p = none := (h.ap _ hm).symm.r one_self
/-- a source that is a place -/
theorem i_place {S' : Rp β} [Vw S S'] [Im S'] {m : Res (List β × (List β → α))} (h : EvPl E K te σ I C R (oL S) v T m) (hB : Ex T C) : EvI E K (iList K te) σ I C (fun C3 => Ex T C3) (un (fun p => .ok p.1) m) S' := fun I1 C1 H1 e e' s Kt q =>
  h I1 C1 H1 e e' s _ ((Post.bind q).mono (fun p q2 w t I2 H2 e2 s2 f => by
    obtain ⟨a, vs, h1, h2, h3, h4⟩ : (pV S').r p.1 w I2 T := Vw.vw f.r f.ex
    have hn := h4.len
    have at3 : ∀ I3 C3 H3, Ex I2 I3 → Ex T C3 → St I3 C3 H3 → SqL K H3 a vs := fun I3 C3 H3 e3 k3 s3 => .inl (.inl (h2.elim (fun z => s3.i a _ (e3 a _ z)) fun z => s3.c a _ (k3 a _ z)))
    refine ⟨a, h1, ⟨vs, at3 I2 C1 H2 (Ex.refl _) (hB.trans e') s2⟩, ?_⟩
    refine q2 (Itl K a) (fun H => SqL K H a vs) (YAt vs) I2 H2 e2 s2 (by omega) (by rw [← hn]; exact walk_list) (fun I3 C3 H3 e3 k3 s3 => at3 I3 C3 H3 e3 k3 s3) (fun i x v' I3 C3 H3 H4 hx e3 _ s3 y => ?_)
    obtain ⟨rfl, y⟩ := y
    obtain ⟨u, hu, r⟩ := h4.get' hx
    rw [hu] at y
    cases y
    exact ⟨I3, Ex.refl _, s3, S'.to e3 r⟩) fun _ _ z => z)
/-- X[e1] = e2, e2 draws -/
theorem qm_setP {M : Rt μ} [It M] [Im S] {L1 L2 : List Hp} {x : μ} {ws : List V} {k : α × μ → Res ω} {m : μ → Res (β × μ)} {mi : Res Int} {mp : Res (List β × (List β → α))} (h : EvM E K p M te σ I (off C p) m S) (hl : EvPl E K tl σ I (off C p) R (oL S) v T mp) (hi : EvX E K ti σ I (off C p) mi pI)
    (s : St I C H) (hT : Sep C (L1 ++ T :: L2)) (hc : C p = some (.lst ws)) (hTp : T p = none) (hx : M.r x ws I Z) (hm : Post (((m x).bind fun b => mp.bind fun q => mi.bind fun j => (setR q.1 j b.1).bind fun c => .ok (q.2 c, b.2)).bind k) Q XF)
    (next : ∀ (b : α × μ) T' ws' I2 C2 H2, Ex I I2 → St I2 C2 H2 → C2 p = some (.lst ws') → M.r b.2 ws' I2 Z → R.r b.1 v I2 T' → (∃ C1, C1 p = some (.lst ws') ∧ (∀ q, q ≠ p → C1 q = C q) ∧ ∀ L1 L2, Sep C1 (L1 ++ T :: L2) → Sep C2 (L1 ++ T' :: L2)) → Post (k b) Q XF → tz D σ H2) : tSeq (tAsg te (gSub tl ti rSetL)) tz D σ H := by
  have eT : Ex T C := hT.get
  refine h x ws I C H (Ex.refl _) off_ex s hc (It.im hx) _ ((Post.bind (Post.bind hm)).mono (fun b po u ws' I2 H2 e2 s2 hx2 ru => ?_) fun _ _ z => z)
  refine hl I2 _ H2 e2 off_upd s2 _ ((Post.bind po).mono (fun q po2 w t I3 H3 e3 s3 f => ?_) fun _ _ z => z.elim)
  refine hi I3 _ H3 (e2.trans e3) off_upd s3 _ ((Post.bind po2).mono (fun j po3 z I4 H4 e4 s4 rz => ?_) fun _ _ z => z.elim)
  have hz : z = .int j := rz
  subst hz
  obtain ⟨d, vs, h1, h2, h3, h4, put⟩ := foc_flat (ys' := q.1) (f.mono e4)
  have hn := h4.len
  have po3 := Post.bind po3
  unfold setR at po3
  cases hj : ixN q.1.length j with
  | none =>
    rw [hj] at po3
    exact po3.elim
  | some l =>
    rw [hj] at po3
    have hdp : d ≠ p := fun z => by
      rw [z, hTp] at h2
      cases h2
    have hCd : upd C p (.lst ws') d = some (.lst vs) := by
      rw [upd_ne hdp]
      exact eT d _ h2
    obtain ⟨r1, _⟩ := put (q.1.set l b.1) (vs.set l u) I4 (Ex.refl _) (by rw [List.length_set]; exact h3) (A2.set (Im.im (S.mono (e3.trans e4) (Ex.refl _) ru)) l h4)
    refine ⟨d, vs, j, l, h1, rfl, s4.c d _ hCd, by rw [hn]; exact hj, ?_⟩
    refine next (q.2 (q.1.set l b.1), b.2) _ ws' I4 _ _ (e2.trans (e3.trans e4)) (s4.set hCd) (by rw [upd_ne (Ne.symm hdp), upd_same]) (It.im (M.mono (e3.trans e4) (Ex.refl _) hx2)) r1 ⟨upd C p (.lst ws'), upd_same, fun q h => upd_ne h, fun L1 L2 hs => ?_⟩ po3
    rw [← ov_upd (T := T)]
    exact hs.upd Chg.up fun a z => .inl (by rw [one_ne z, h2]; exact fun z => nomatch z)
/-- sorted of what draws -/
theorem m_cbN {M : Rt μ} [It M] [Im S] {r : List V → Hp → VK → Prop} {f : α → Res (List β)} {A : Rt α} {tr : TA} {m : μ → Res (α × μ)} (hr : ∀ E, OpLN E K r f A S) (h : EvAM E K p M tr σ I C m A) : EvM E K p M (tCB r tr) σ I C (unM f m) (pL S) := fun x ws I1 C1 H1 e e' s hc hx Q q =>
  h x ws I1 C1 H1 e e' s hc hx _ ((Post.bind q).mono (fun b z vs ws' I2 H2 e2 s2 hx2 rv => hr E I2 _ H2 b.1 vs s2 rv Q ((Post.bind z).mono (fun c z => PN.of fun w I3 H3 e3 s3 rw => z w ws' I3 H3 (e2.trans e3) s3 (M.mono e3 (Ex.refl _) hx2) rw) fun _ _ z => z.elim)) fun _ _ z => z)
theorem m_inl {M : Rt μ} {m : μ → Res (α × μ)} (h : EvM E K p M te σ I C m R) : EvM E K p M te σ I C (unM inlR m) (pX R S) := fun x ws I1 C1 H1 e e' s hc hx Q q =>
  h x ws I1 C1 H1 e e' s hc hx Q ((Post.bind q).mono (fun b z v ws' I2 H2 e2 s2 hx2 rv => z v ws' I2 H2 e2 s2 hx2 rv) fun _ _ z => z)
theorem m_inr {M : Rt μ} {m : μ → Res (β × μ)} (h : EvM E K p M te σ I C m S) : EvM E K p M te σ I C (unM inrR m) (pX R S) := fun x ws I1 C1 H1 e e' s hc hx Q q =>
  h x ws I1 C1 H1 e e' s hc hx Q ((Post.bind q).mono (fun b z v ws' I2 H2 e2 s2 hx2 rv => z v ws' I2 H2 e2 s2 hx2 rv) fun _ _ z => z)
/-- a list of either, all of the left kind -/
def lefts {α β : Type} : List (α ⊕ β) → Res (List α)
  | [] => .ok []
  | x :: xs => (getL x).bind fun a => (lefts xs).bind fun as => .ok (a :: as)
def rights {α β : Type} : List (α ⊕ β) → Res (List β)
  | [] => .ok []
  | x :: xs => (getR x).bind fun a => (rights xs).bind fun as => .ok (a :: as)
theorem x_lefts {m : Res (List (α ⊕ β))} (h : EvX E K te σ I C m (pV (pX R S))) : EvX E K te σ I C (un lefts m) (pV R) := fun I1 C1 H1 e e' s Q q =>
  h I1 C1 H1 e e' s Q ((Post.bind q).mono (fun xs z v I2 H2 e2 s2 ⟨a, vs, h1, h2, h3, h4⟩ => by
    have key : ∀ {xs : List (α ⊕ β)} {vs : List V} {P : List α → Prop} {X}, A2 (fun x u => (pX R S).r x u I2 C1) xs vs → Post (lefts xs) P X → ∃ ys, P ys ∧ A2 (fun x u => R.r x u I2 C1) ys vs := by
      intro xs
      induction xs with
      | nil => intro vs P X ha po; cases ha; exact ⟨[], po, .nil⟩
      | cons x xs ih =>
        intro vs P X ha po
        cases ha with
        | cons r t =>
          cases x with
          | inr y => exact po.elim
          | inl y =>
            obtain ⟨ys, h1, h2⟩ := ih t (Post.bind (show Post ((lefts xs).bind fun as => .ok (y :: as)) P X from po))
            exact ⟨y :: ys, h1, .cons r h2⟩
    have nox : ∀ {xs : List (α ⊕ β)} {c i}, lefts xs ≠ .exc c i := by
      intro xs
      induction xs with
      | nil => intro c i z; cases z
      | cons x xs ih =>
        intro c i z
        unfold lefts at z
        cases x with
        | inr y => cases z
        | inl y =>
          have z : (lefts xs).bind (fun as => .ok (y :: as)) = .exc c i := z
          cases hq : lefts xs with
          | ok as => rw [hq] at z; cases z
          | bad => rw [hq] at z; cases z
          | exc c2 i2 => exact ih hq
    obtain ⟨ys, h5, h6⟩ := key h4 z
    exact h5 v I2 H2 e2 s2 ⟨a, vs, h1, h2, h3, h6⟩) fun _ _ z => z)
theorem x_rights {m : Res (List (α ⊕ β))} (h : EvX E K te σ I C m (pV (pX R S))) : EvX E K te σ I C (un rights m) (pV S) := fun I1 C1 H1 e e' s Q q =>
  h I1 C1 H1 e e' s Q ((Post.bind q).mono (fun xs z v I2 H2 e2 s2 ⟨a, vs, h1, h2, h3, h4⟩ => by
    have key : ∀ {xs : List (α ⊕ β)} {vs : List V} {P : List β → Prop} {X}, A2 (fun x u => (pX R S).r x u I2 C1) xs vs → Post (rights xs) P X → ∃ ys, P ys ∧ A2 (fun x u => S.r x u I2 C1) ys vs := by
      intro xs
      induction xs with
      | nil => intro vs P X ha po; cases ha; exact ⟨[], po, .nil⟩
      | cons x xs ih =>
        intro vs P X ha po
        cases ha with
        | cons r t =>
          cases x with
          | inl y => exact po.elim
          | inr y =>
            obtain ⟨ys, h1, h2⟩ := ih t (Post.bind (show Post ((rights xs).bind fun as => .ok (y :: as)) P X from po))
            exact ⟨y :: ys, h1, .cons r h2⟩
    obtain ⟨ys, h5, h6⟩ := key h4 z
    exact h5 v I2 H2 e2 s2 ⟨a, vs, h1, h2, h3, h6⟩) fun _ _ z => z)
end
end Sd

namespace Sd
open PySem L2
/-! ### plain laws of the mirrors -/
/-- m comes to an answer that is so -/
abbrev Is {α : Type} (m : Res α) (Q : α → Prop) : Prop := Post m Q XF
theorem is_iff {α : Type} {m : Res α} {Q : α → Prop} : Is m Q ↔ ∃ a, m = .ok a ∧ Q a := by
  cases m with
  | ok a => exact ⟨fun h => ⟨a, rfl, h⟩, fun ⟨b, e, h⟩ => by cases e; exact h⟩
  | exc c i => exact ⟨fun h => h.elim, fun ⟨b, e, h⟩ => by cases e⟩
  | bad => exact ⟨fun h => h.elim, fun ⟨b, e, h⟩ => by cases e⟩
theorem Is.ok {α : Type} {a : α} {Q : α → Prop} (h : Q a) : Is (.ok a) Q := h
theorem Is.eq {α : Type} {m : Res α} {a : α} (h : Is m (· = a)) : m = .ok a := by
  obtain ⟨b, e, h⟩ := is_iff.mp h
  rw [e, h]
theorem Is.of {α : Type} {m : Res α} {a : α} {Q : α → Prop} (e : m = .ok a) (h : Q a) : Is m Q := by
  rw [e]
  exact h
theorem Is.get {α : Type} {m : Res α} {Q : α → Prop} (h : Is m Q) : ∃ a, m = .ok a ∧ Q a := is_iff.mp h
theorem Is.bind {α β : Type} {m : Res α} {k : α → Res β} {Q : α → Prop} {R : β → Prop} (h : Is m Q) (hk : ∀ a, Q a → Is (k a) R) : Is (m.bind k) R := by
  obtain ⟨a, e, h⟩ := h.get
  rw [e]
  exact hk a h
theorem Is.imp {α : Type} {m : Res α} {Q R : α → Prop} (h : Is m Q) (hk : ∀ a, Q a → R a) : Is m R := Post.mono h hk fun _ _ z => z
section
variable {α β γ S ρ : Type}
/-- a loop keeps a word -/
theorem loopN_inv {f : α → S → Res S} (J : Nat → S → Prop) {xs : List α} {s : S} (h0 : J 0 s) (h : ∀ i x s, xs[i]? = some x → J i s → Is (f x s) (J (i + 1))) : Is (loopN f xs s) (J xs.length) := by
  induction xs generalizing J s with
  | nil => exact h0
  | cons x xs ih =>
    rw [loopN_cons]
    refine Is.bind (h 0 x s rfl h0) fun s' h1 => ?_
    exact ih (fun i => J (i + 1)) h1 fun i y s hy hj => h (i + 1) y s hy hj
theorem loopN_pure {f : α → S → Res S} {g : S → α → S} {xs : List α} {s : S} (h : ∀ x s, f x s = .ok (g s x)) : loopN f xs s = .ok (xs.foldl g s) := loopN_ok fun x _ s => h x s
/-- a loop that may return: the first turn that does -/
theorem loopR_find {f : α → Unit → Res (Out Unit ρ)} {g : α → Option ρ} : ∀ {xs : List α}, (∀ x, x ∈ xs → f x () = .ok (match g x with | some r => .rt r | none => .nx ())) → loopR f xs () = .ok (match xs.findSome? g with | some r => .rt r | none => .nx ())
  | [], _ => rfl
  | x :: xs, h => by
    rw [loopR_cons, h x List.mem_cons_self, List.findSome?_cons]
    cases q : g x with
    | some r => rfl
    | none => exact loopR_find fun y hy => h y (List.mem_cons_of_mem _ hy)
theorem loopR_any {f : α → Unit → Res (Out Unit ρ)} {p : α → Bool} {r : ρ} : ∀ {xs : List α}, (∀ x, x ∈ xs → f x () = .ok (if p x = true then .rt r else .nx ())) → loopR f xs () = .ok (if xs.any p = true then .rt r else .nx ())
  | [], _ => rfl
  | x :: xs, h => by
    rw [loopR_cons, h x List.mem_cons_self, List.any_cons]
    cases q : p x with
    | true => rfl
    | false => exact loopR_any fun y hy => h y (List.mem_cons_of_mem _ hy)
theorem filR_id {p : α → Res Bool} {q : α → Bool} {xs : List α} (h : ∀ x, x ∈ xs → p x = .ok (q x)) : filR p (fun x => .ok x) xs = .ok (xs.filter q) := by
  rw [filR_ok (g := fun x => x) h fun _ _ _ => rfl, List.map_id']
theorem findSome_none {g : α → Option β} {xs : List α} (h : xs.findSome? g = none) : ∀ x, x ∈ xs → g x = none := List.findSome?_eq_none_iff.mp h
theorem findSome_some {g : α → Option β} {b : β} : ∀ {xs : List α}, xs.findSome? g = some b → ∃ x, x ∈ xs ∧ g x = some b
  | [], h => by cases h
  | x :: xs, h => by
    rw [List.findSome?_cons] at h
    cases q : g x with
    | some c =>
      rw [q] at h
      exact ⟨x, List.mem_cons_self, q.trans h⟩
    | none =>
      rw [q] at h
      obtain ⟨y, hy, e⟩ := findSome_some h
      exact ⟨y, List.mem_cons_of_mem _ hy, e⟩
/-- a loop that appends -/
theorem loopN_app {f : α → List β → Res (List β)} {q : α → Bool} {g : α → β} : ∀ {xs : List α} {acc : List β}, (∀ x a, x ∈ xs → a.length < 1000000 → f x a = .ok (if q x = true then a ++ [g x] else a)) → acc.length + xs.length < 1000000 → loopN f xs acc = .ok (acc ++ (xs.filter q).map g)
  | [], acc, _, _ => by rw [List.filter_nil, List.map_nil, List.append_nil]; rfl
  | x :: xs, acc, h, hl => by
    rw [List.length_cons] at hl
    rw [loopN_cons, h x acc List.mem_cons_self (by omega)]
    cases q1 : q x with
    | true =>
      rw [if_pos rfl, Res.bind_ok, loopN_app (fun y a hy => h y a (List.mem_cons_of_mem _ hy)) (by rw [List.length_append, List.length_singleton]; omega), List.filter_cons, if_pos q1, List.map_cons, List.append_assoc]
      rfl
    | false =>
      rw [if_neg (by decide), Res.bind_ok, loopN_app (fun y a hy => h y a (List.mem_cons_of_mem _ hy)) (by omega), List.filter_cons, if_neg (by rw [q1]; decide)]
theorem mem_enumF {xs : List α} {y : Int × α} : y ∈ enumF 0 xs ↔ ∃ i : Nat, xs[i]? = some y.2 ∧ y.1 = (i : Int) := by
  rw [List.mem_iff_getElem?]
  constructor
  · rintro ⟨i, h⟩
    rw [enumF_get] at h
    cases q : xs[i]? with
    | none =>
      rw [q] at h
      cases h
    | some x =>
      rw [q] at h
      cases h
      exact ⟨i, q, by simp⟩
  · rintro ⟨i, h1, h2⟩
    refine ⟨i, ?_⟩
    rw [enumF_get, h1]
    obtain ⟨a, b⟩ := y
    simp only at h2
    subst h2
    simp
theorem enumF_lt : ∀ (xs : List α) (k : Int), (enumF k xs).Pairwise fun a b => a.1 < b.1
  | [], _ => .nil
  | x :: xs, k => by
    rw [enumF, List.pairwise_cons]
    refine ⟨fun y hy => ?_, enumF_lt xs (k + 1)⟩
    obtain ⟨i, h⟩ := List.mem_iff_getElem?.mp hy
    rw [enumF_get] at h
    cases q : xs[i]? with
    | none =>
      rw [q] at h
      cases h
    | some z =>
      rw [q] at h
      cases h
      dsimp only
      omega
/-- a loop that might return, but does not -/
theorem loopR_inv {f : α → S → Res (Out S ρ)} {J : S → Prop} : ∀ {xs : List α} {s : S}, J s → (∀ x s, x ∈ xs → J s → Is (f x s) fun o => ∃ s', o = .nx s' ∧ J s') → Is (loopR f xs s) fun o => ∃ s', o = .nx s' ∧ J s'
  | [], s, h0, _ => ⟨s, rfl, h0⟩
  | x :: xs, s, h0, h => by
    rw [loopR_cons]
    refine Is.bind (h x s List.mem_cons_self h0) fun o ⟨s', e, h1⟩ => ?_
    subst e
    exact loopR_inv h1 fun y s hy => h y s (List.mem_cons_of_mem _ hy)
theorem ix_nat {xs : List α} {i : Nat} {x : α} (h : xs[i]? = some x) : ix xs (i : Int) = .ok x := by
  unfold ix
  rw [if_pos (by omega), Int.toNat_natCast, h]
theorem ix_get {xs : List α} {i : Int} (h0 : 0 ≤ i) (h1 : i < xs.length) : ∃ x, ix xs i = .ok x ∧ xs[i.toNat]? = some x := by
  obtain ⟨n, rfl⟩ := Int.eq_ofNat_of_zero_le h0
  have hn : n < xs.length := by omega
  exact ⟨xs[n], ix_nat (by simp [hn]), by simp [hn]⟩
theorem ix_getD {xs : List α} {i : Int} {d : α} (h0 : 0 ≤ i) (h1 : i < xs.length) : ix xs i = .ok (xs.getD i.toNat d) := by
  obtain ⟨x, e, h⟩ := ix_get h0 h1
  rw [e, List.getD_eq_getElem?_getD, h]
  rfl
theorem setR_nat {xs : List α} {i : Int} {x : α} (h0 : 0 ≤ i) (h1 : i < xs.length) : setR xs i x = .ok (xs.set i.toNat x) := by
  unfold setR ixN
  rw [if_pos h0, if_pos h1]
theorem cut_lo {xs : List α} {k : Int} (h : 0 ≤ k) : cut xs none (some k) = xs.take k.toNat := by
  unfold cut
  rw [HT.sIx_none]
  show (xs.drop 0).take ((if k < 0 then (k + (xs.length : Int)).toNat else min k.toNat xs.length) - 0) = _
  rw [if_neg (by omega), List.drop_zero, Nat.sub_zero, ← List.take_eq_take_min]
theorem cut_hi {xs : List α} {k : Int} (h : 0 ≤ k) : cut xs (some k) none = xs.drop k.toNat := by
  unfold cut
  rw [HT.sIx_none]
  show (xs.drop (if k < 0 then (k + (xs.length : Int)).toNat else min k.toNat xs.length)).take (xs.length - (if k < 0 then (k + (xs.length : Int)).toNat else min k.toNat xs.length)) = _
  rw [if_neg (by omega), List.take_of_length_le (by rw [List.length_drop]; exact Nat.le_refl _)]
  by_cases hk : k.toNat ≤ xs.length
  · rw [Nat.min_eq_left hk]
  · rw [Nat.min_eq_right (by omega), List.drop_length, List.drop_eq_nil_of_le (by omega)]
theorem cut_last {xs : List α} : cut xs none (some (-1)) = xs.dropLast := by
  unfold cut
  rw [HT.sIx_none]
  show (xs.drop 0).take ((if (-1 : Int) < 0 then ((-1 : Int) + (xs.length : Int)).toNat else min (-1 : Int).toNat xs.length) - 0) = _
  rw [if_pos (by decide), List.drop_zero, Nat.sub_zero, List.dropLast_eq_take]
  congr 1
  omega
theorem rangeL_nat (n : Int) : rangeL 0 n = (List.range n.toNat).map fun i : Nat => (i : Int) := by
  unfold rangeL
  rw [Int.sub_zero]
  exact List.map_congr_left fun i _ => by omega
theorem loopN_inv' {f : α → S → Res S} (J : S → Prop) {xs : List α} {s : S} (h0 : J s) (h : ∀ x s, x ∈ xs → J s → Is (f x s) J) : Is (loopN f xs s) J :=
  loopN_inv (fun _ => J) h0 fun i x s hx hj => h x s (List.mem_of_getElem? hx) hj
theorem mapM_is {μ : Type} {f : α → μ → Res (β × μ)} {J : μ → Prop} {B : β → Prop} : ∀ {xs : List α} {y : μ}, J y → (∀ x y, x ∈ xs → J y → Is (f x y) fun b => B b.1 ∧ J b.2) → Is (mapM f xs y) fun c => c.1.length = xs.length ∧ (∀ b ∈ c.1, B b) ∧ J c.2
  | [], y, h0, _ => ⟨rfl, fun _ h => (nomatch h), h0⟩
  | x :: xs, y, h0, h => by
    refine Is.bind (h x y List.mem_cons_self h0) fun b hb => ?_
    refine Is.bind (mapM_is (xs := xs) hb.2 fun z w hz hw => h z w (List.mem_cons_of_mem _ hz) hw) fun c hc => ?_
    exact ⟨by simp [hc.1], fun d hd => by
      rcases List.mem_cons.mp hd with rfl | hd
      · exact hb.1
      · exact hc.2.1 d hd, hc.2.2⟩
variable {μ : Type}
@[simp] theorem callM_ok (f : α → μ → Res (β × μ)) (a : α) (x : μ) : callM f (liftM (.ok a)) x = f a x := rfl
theorem callM_eq (f : α → μ → Res (β × μ)) (m : μ → Res (α × μ)) (x : μ) : callM f m x = (m x).bind fun b => f b.1 b.2 := rfl
theorem unM_eq (f : α → Res γ) (m : μ → Res (α × μ)) (x : μ) : unM f m x = (m x).bind fun b => (f b.1).bind fun c => .ok (c, b.2) := rfl
theorem binM_eq (f : α → β → Res γ) (m : μ → Res (α × μ)) (n : μ → Res (β × μ)) (x : μ) : binM f m n x = (m x).bind fun b => (n b.2).bind fun d => (f b.1 d.1).bind fun c => .ok (c, d.2) := rfl
theorem pairM_eq (m : μ → Res (α × μ)) (n : μ → Res (β × μ)) (x : μ) : pairM m n x = (m x).bind fun b => (n b.2).bind fun d => .ok ((b.1, d.1), d.2) := rfl
theorem consM_eq (m : μ → Res (α × μ)) (n : μ → Res (List α × μ)) (x : μ) : consM m n x = (m x).bind fun b => (n b.2).bind fun d => .ok (b.1 :: d.1, d.2) := rfl
theorem ifMR_eq (c : μ → Res (Bool × μ)) (x : μ) (m n : μ → Res α) : ifMR c x m n = (c x).bind fun b => if b.1 = true then m b.2 else n b.2 := rfl
theorem andM_eq (m n : μ → Res (Bool × μ)) (x : μ) : andM m n x = (m x).bind fun b => if b.1 = true then n b.2 else .ok (false, b.2) := rfl
theorem slM_eq (m : Res (List α)) (lo hi : μ → Res (Option Int × μ)) (x : μ) : slM m lo hi x = m.bind fun xs => (lo x).bind fun a => (hi a.2).bind fun b => .ok (cut xs a.1 b.1, b.2) := rfl
@[simp] theorem consR_ok (a : α) (xs : List α) : consR (.ok a) (.ok xs) = .ok (a :: xs) := rfl
theorem Is.if_ {α : Type} {c : Bool} {m n : Res α} {Q : α → Prop} (h1 : c = true → Is m Q) (h2 : c = false → Is n Q) : Is (if c = true then m else n) Q := by
  cases c with
  | true => exact h1 rfl
  | false => exact h2 rfl
end
end Sd

namespace K62
open PySem L2 Sd
def top (i : Nat) : Stmt := PySem.Challenge.pw_stormdesk_k62_judging_pairs_and_covers.main.body.getD i (.Pass ⟨0, 0, 0, 0⟩)

abbrev s_is_span : Stmt := top 6
abbrev s_check_warnings : Stmt := top 10
abbrev s_check_events : Stmt := top 11
abbrev s_counts_for : Stmt := top 12
abbrev s_checked_links : Stmt := top 13
abbrev s_finds_event : Stmt := top 14
abbrev s_takers_of : Stmt := top 15
abbrev s_pairs_count : Stmt := top 16
abbrev s_pairing : Stmt := top 17
abbrev s_cover : Stmt := top 18
abbrev s_are_indexes : Stmt := top 19
abbrev s_is_pairing : Stmt := top 20
abbrev s_is_cover : Stmt := top 21
abbrev s_certain : Stmt := top 22
abbrev s_idle : Stmt := top 23
abbrev s_tally : Stmt := top 25
abbrev s__law_mix : Stmt := top 27
abbrev s__law_pool : Stmt := top 28
abbrev s__law_fill : Stmt := top 29
abbrev s__law_take : Stmt := top 30
abbrev s__law_from : Stmt := top 31
abbrev s__law_is_int : Stmt := top 32
abbrev s__law_near : Stmt := top 33
abbrev s__law_span : Stmt := top 34
abbrev s__law_warning : Stmt := top 35
abbrev s__law_fits : Stmt := top 36
abbrev s__law_is_pairing : Stmt := top 37
abbrev s__law_ascends : Stmt := top 38
abbrev s__law_is_cover : Stmt := top 39
abbrev s__law_spoilt_span : Stmt := top 40
abbrev s__law_spoilt_warning : Stmt := top 41
abbrev s__law_is_span : Stmt := top 42
abbrev s__law_due_refusal : Stmt := top 43
abbrev s__law_call : Stmt := top 44
abbrev s__law_refused : Stmt := top 45
abbrev s__law_some_pairs : Stmt := top 46
abbrev s__law_spoilt_pairs : Stmt := top 47
abbrev s__law_some_lists : Stmt := top 48
abbrev s__law_spoilt_lists : Stmt := top 49
abbrev s__law_pairs_judged : Stmt := top 50
abbrev s__law_lists_judged : Stmt := top 51
abbrev s__law_count : Stmt := top 52
abbrev s_law : Stmt := top 53
abbrev s_err : Stmt := mth (top 1)
def knE (c : Ec) : Bool := decide (c ∈ ([.DeskError, .TooMany, .BadPair] : List Ec))
structure Tx (K : PySem.W.Frag) (mg : Str → Option Value) where
  f_is_span : Addr
  d_is_span : FuncData
  f_check_warnings : Addr
  d_check_warnings : FuncData
  f_check_events : Addr
  d_check_events : FuncData
  f_counts_for : Addr
  d_counts_for : FuncData
  f_checked_links : Addr
  d_checked_links : FuncData
  f_finds_event : Addr
  d_finds_event : FuncData
  f_takers_of : Addr
  d_takers_of : FuncData
  f_pairs_count : Addr
  d_pairs_count : FuncData
  f_pairing : Addr
  d_pairing : FuncData
  f_cover : Addr
  d_cover : FuncData
  f_are_indexes : Addr
  d_are_indexes : FuncData
  f_is_pairing : Addr
  d_is_pairing : FuncData
  f_is_cover : Addr
  d_is_cover : FuncData
  f_certain : Addr
  d_certain : FuncData
  f_idle : Addr
  d_idle : FuncData
  f_tally : Addr
  d_tally : FuncData
  f__law_mix : Addr
  d__law_mix : FuncData
  f__law_pool : Addr
  d__law_pool : FuncData
  f__law_fill : Addr
  d__law_fill : FuncData
  f__law_take : Addr
  d__law_take : FuncData
  f__law_from : Addr
  d__law_from : FuncData
  f__law_is_int : Addr
  d__law_is_int : FuncData
  f__law_near : Addr
  d__law_near : FuncData
  f__law_span : Addr
  d__law_span : FuncData
  f__law_warning : Addr
  d__law_warning : FuncData
  f__law_fits : Addr
  d__law_fits : FuncData
  f__law_is_pairing : Addr
  d__law_is_pairing : FuncData
  f__law_ascends : Addr
  d__law_ascends : FuncData
  f__law_is_cover : Addr
  d__law_is_cover : FuncData
  f__law_spoilt_span : Addr
  d__law_spoilt_span : FuncData
  f__law_spoilt_warning : Addr
  d__law_spoilt_warning : FuncData
  f__law_is_span : Addr
  d__law_is_span : FuncData
  f__law_due_refusal : Addr
  d__law_due_refusal : FuncData
  f__law_call : Addr
  d__law_call : FuncData
  f__law_refused : Addr
  d__law_refused : FuncData
  f__law_some_pairs : Addr
  d__law_some_pairs : FuncData
  f__law_spoilt_pairs : Addr
  d__law_spoilt_pairs : FuncData
  f__law_some_lists : Addr
  d__law_some_lists : FuncData
  f__law_spoilt_lists : Addr
  d__law_spoilt_lists : FuncData
  f__law_pairs_judged : Addr
  d__law_pairs_judged : FuncData
  f__law_lists_judged : Addr
  d__law_lists_judged : FuncData
  f__law_count : Addr
  d__law_count : FuncData
  f_law : Addr
  d_law : FuncData
  F_is_span : FunD K "is_span" "is_span" (defArgs s_is_span) (defBody s_is_span) (defScope s_is_span) [] [] f_is_span d_is_span
  g_is_span : mg "is_span" = some (.ref f_is_span)
  F_check_warnings : FunD K "check_warnings" "check_warnings" (defArgs s_check_warnings) (defBody s_check_warnings) (defScope s_check_warnings) [] [] f_check_warnings d_check_warnings
  g_check_warnings : mg "check_warnings" = some (.ref f_check_warnings)
  F_check_events : FunD K "check_events" "check_events" (defArgs s_check_events) (defBody s_check_events) (defScope s_check_events) [] [] f_check_events d_check_events
  g_check_events : mg "check_events" = some (.ref f_check_events)
  F_counts_for : FunD K "counts_for" "counts_for" (defArgs s_counts_for) (defBody s_counts_for) (defScope s_counts_for) [] [] f_counts_for d_counts_for
  g_counts_for : mg "counts_for" = some (.ref f_counts_for)
  F_checked_links : FunD K "checked_links" "checked_links" (defArgs s_checked_links) (defBody s_checked_links) (defScope s_checked_links) [] [] f_checked_links d_checked_links
  g_checked_links : mg "checked_links" = some (.ref f_checked_links)
  F_finds_event : FunD K "finds_event" "finds_event" (defArgs s_finds_event) (defBody s_finds_event) (defScope s_finds_event) [] [] f_finds_event d_finds_event
  g_finds_event : mg "finds_event" = some (.ref f_finds_event)
  F_takers_of : FunD K "takers_of" "takers_of" (defArgs s_takers_of) (defBody s_takers_of) (defScope s_takers_of) [] [] f_takers_of d_takers_of
  g_takers_of : mg "takers_of" = some (.ref f_takers_of)
  F_pairs_count : FunD K "pairs_count" "pairs_count" (defArgs s_pairs_count) (defBody s_pairs_count) (defScope s_pairs_count) [] [] f_pairs_count d_pairs_count
  g_pairs_count : mg "pairs_count" = some (.ref f_pairs_count)
  F_pairing : FunD K "pairing" "pairing" (defArgs s_pairing) (defBody s_pairing) (defScope s_pairing) [] [] f_pairing d_pairing
  g_pairing : mg "pairing" = some (.ref f_pairing)
  F_cover : FunD K "cover" "cover" (defArgs s_cover) (defBody s_cover) (defScope s_cover) [] [] f_cover d_cover
  g_cover : mg "cover" = some (.ref f_cover)
  F_are_indexes : FunD K "are_indexes" "are_indexes" (defArgs s_are_indexes) (defBody s_are_indexes) (defScope s_are_indexes) [] [] f_are_indexes d_are_indexes
  g_are_indexes : mg "are_indexes" = some (.ref f_are_indexes)
  F_is_pairing : FunD K "is_pairing" "is_pairing" (defArgs s_is_pairing) (defBody s_is_pairing) (defScope s_is_pairing) [] [] f_is_pairing d_is_pairing
  g_is_pairing : mg "is_pairing" = some (.ref f_is_pairing)
  F_is_cover : FunD K "is_cover" "is_cover" (defArgs s_is_cover) (defBody s_is_cover) (defScope s_is_cover) [] [] f_is_cover d_is_cover
  g_is_cover : mg "is_cover" = some (.ref f_is_cover)
  F_certain : FunD K "certain" "certain" (defArgs s_certain) (defBody s_certain) (defScope s_certain) [] [] f_certain d_certain
  g_certain : mg "certain" = some (.ref f_certain)
  F_idle : FunD K "idle" "idle" (defArgs s_idle) (defBody s_idle) (defScope s_idle) [] [] f_idle d_idle
  g_idle : mg "idle" = some (.ref f_idle)
  F_tally : FunD K "tally" "tally" (defArgs s_tally) (defBody s_tally) (defScope s_tally) [] [] f_tally d_tally
  g_tally : mg "tally" = some (.ref f_tally)
  F__law_mix : FunD K "_law_mix" "_law_mix" (defArgs s__law_mix) (defBody s__law_mix) (defScope s__law_mix) [] [] f__law_mix d__law_mix
  g__law_mix : mg "_law_mix" = some (.ref f__law_mix)
  F__law_pool : FunD K "_law_pool" "_law_pool" (defArgs s__law_pool) (defBody s__law_pool) (defScope s__law_pool) [] [] f__law_pool d__law_pool
  g__law_pool : mg "_law_pool" = some (.ref f__law_pool)
  F__law_fill : FunD K "_law_fill" "_law_fill" (defArgs s__law_fill) (defBody s__law_fill) (defScope s__law_fill) [] [] f__law_fill d__law_fill
  g__law_fill : mg "_law_fill" = some (.ref f__law_fill)
  F__law_take : FunD K "_law_take" "_law_take" (defArgs s__law_take) (defBody s__law_take) (defScope s__law_take) [] [] f__law_take d__law_take
  g__law_take : mg "_law_take" = some (.ref f__law_take)
  F__law_from : FunD K "_law_from" "_law_from" (defArgs s__law_from) (defBody s__law_from) (defScope s__law_from) [] [] f__law_from d__law_from
  g__law_from : mg "_law_from" = some (.ref f__law_from)
  F__law_is_int : FunD K "_law_is_int" "_law_is_int" (defArgs s__law_is_int) (defBody s__law_is_int) (defScope s__law_is_int) [] [] f__law_is_int d__law_is_int
  g__law_is_int : mg "_law_is_int" = some (.ref f__law_is_int)
  F__law_near : FunD K "_law_near" "_law_near" (defArgs s__law_near) (defBody s__law_near) (defScope s__law_near) [] [] f__law_near d__law_near
  g__law_near : mg "_law_near" = some (.ref f__law_near)
  F__law_span : FunD K "_law_span" "_law_span" (defArgs s__law_span) (defBody s__law_span) (defScope s__law_span) [] [] f__law_span d__law_span
  g__law_span : mg "_law_span" = some (.ref f__law_span)
  F__law_warning : FunD K "_law_warning" "_law_warning" (defArgs s__law_warning) (defBody s__law_warning) (defScope s__law_warning) [] [] f__law_warning d__law_warning
  g__law_warning : mg "_law_warning" = some (.ref f__law_warning)
  F__law_fits : FunD K "_law_fits" "_law_fits" (defArgs s__law_fits) (defBody s__law_fits) (defScope s__law_fits) [] [] f__law_fits d__law_fits
  g__law_fits : mg "_law_fits" = some (.ref f__law_fits)
  F__law_is_pairing : FunD K "_law_is_pairing" "_law_is_pairing" (defArgs s__law_is_pairing) (defBody s__law_is_pairing) (defScope s__law_is_pairing) [] [] f__law_is_pairing d__law_is_pairing
  g__law_is_pairing : mg "_law_is_pairing" = some (.ref f__law_is_pairing)
  F__law_ascends : FunD K "_law_ascends" "_law_ascends" (defArgs s__law_ascends) (defBody s__law_ascends) (defScope s__law_ascends) [] [] f__law_ascends d__law_ascends
  g__law_ascends : mg "_law_ascends" = some (.ref f__law_ascends)
  F__law_is_cover : FunD K "_law_is_cover" "_law_is_cover" (defArgs s__law_is_cover) (defBody s__law_is_cover) (defScope s__law_is_cover) [] [] f__law_is_cover d__law_is_cover
  g__law_is_cover : mg "_law_is_cover" = some (.ref f__law_is_cover)
  F__law_spoilt_span : FunD K "_law_spoilt_span" "_law_spoilt_span" (defArgs s__law_spoilt_span) (defBody s__law_spoilt_span) (defScope s__law_spoilt_span) [] [] f__law_spoilt_span d__law_spoilt_span
  g__law_spoilt_span : mg "_law_spoilt_span" = some (.ref f__law_spoilt_span)
  F__law_spoilt_warning : FunD K "_law_spoilt_warning" "_law_spoilt_warning" (defArgs s__law_spoilt_warning) (defBody s__law_spoilt_warning) (defScope s__law_spoilt_warning) [] [] f__law_spoilt_warning d__law_spoilt_warning
  g__law_spoilt_warning : mg "_law_spoilt_warning" = some (.ref f__law_spoilt_warning)
  F__law_is_span : FunD K "_law_is_span" "_law_is_span" (defArgs s__law_is_span) (defBody s__law_is_span) (defScope s__law_is_span) [] [] f__law_is_span d__law_is_span
  g__law_is_span : mg "_law_is_span" = some (.ref f__law_is_span)
  F__law_due_refusal : FunD K "_law_due_refusal" "_law_due_refusal" (defArgs s__law_due_refusal) (defBody s__law_due_refusal) (defScope s__law_due_refusal) [] [] f__law_due_refusal d__law_due_refusal
  g__law_due_refusal : mg "_law_due_refusal" = some (.ref f__law_due_refusal)
  F__law_call : FunD K "_law_call" "_law_call" (defArgs s__law_call) (defBody s__law_call) (defScope s__law_call) [] [] f__law_call d__law_call
  g__law_call : mg "_law_call" = some (.ref f__law_call)
  F__law_refused : FunD K "_law_refused" "_law_refused" (defArgs s__law_refused) (defBody s__law_refused) (defScope s__law_refused) [] [] f__law_refused d__law_refused
  g__law_refused : mg "_law_refused" = some (.ref f__law_refused)
  F__law_some_pairs : FunD K "_law_some_pairs" "_law_some_pairs" (defArgs s__law_some_pairs) (defBody s__law_some_pairs) (defScope s__law_some_pairs) [] [] f__law_some_pairs d__law_some_pairs
  g__law_some_pairs : mg "_law_some_pairs" = some (.ref f__law_some_pairs)
  F__law_spoilt_pairs : FunD K "_law_spoilt_pairs" "_law_spoilt_pairs" (defArgs s__law_spoilt_pairs) (defBody s__law_spoilt_pairs) (defScope s__law_spoilt_pairs) [] [] f__law_spoilt_pairs d__law_spoilt_pairs
  g__law_spoilt_pairs : mg "_law_spoilt_pairs" = some (.ref f__law_spoilt_pairs)
  F__law_some_lists : FunD K "_law_some_lists" "_law_some_lists" (defArgs s__law_some_lists) (defBody s__law_some_lists) (defScope s__law_some_lists) [] [] f__law_some_lists d__law_some_lists
  g__law_some_lists : mg "_law_some_lists" = some (.ref f__law_some_lists)
  F__law_spoilt_lists : FunD K "_law_spoilt_lists" "_law_spoilt_lists" (defArgs s__law_spoilt_lists) (defBody s__law_spoilt_lists) (defScope s__law_spoilt_lists) [] [] f__law_spoilt_lists d__law_spoilt_lists
  g__law_spoilt_lists : mg "_law_spoilt_lists" = some (.ref f__law_spoilt_lists)
  F__law_pairs_judged : FunD K "_law_pairs_judged" "_law_pairs_judged" (defArgs s__law_pairs_judged) (defBody s__law_pairs_judged) (defScope s__law_pairs_judged) [] [] f__law_pairs_judged d__law_pairs_judged
  g__law_pairs_judged : mg "_law_pairs_judged" = some (.ref f__law_pairs_judged)
  F__law_lists_judged : FunD K "_law_lists_judged" "_law_lists_judged" (defArgs s__law_lists_judged) (defBody s__law_lists_judged) (defScope s__law_lists_judged) [] [] f__law_lists_judged d__law_lists_judged
  g__law_lists_judged : mg "_law_lists_judged" = some (.ref f__law_lists_judged)
  F__law_count : FunD K "_law_count" "_law_count" (defArgs s__law_count) (defBody s__law_count) (defScope s__law_count) [] [] f__law_count d__law_count
  g__law_count : mg "_law_count" = some (.ref f__law_count)
  F_law : FunD K "law" "law" (defArgs s_law) (defBody s_law) (defScope s_law) [] [] f_law d_law
  g_law : mg "law" = some (.ref f_law)
  gb_ValueError : mg "ValueError" = none
  gb_bool : mg "bool" = none
  gb_enumerate : mg "enumerate" = none
  gb_int : mg "int" = none
  gb_isinstance : mg "isinstance" = none
  gb_len : mg "len" = none
  gb_list : mg "list" = none
  gb_max : mg "max" = none
  gb_min : mg "min" = none
  gb_range : mg "range" = none
  gb_sorted : mg "sorted" = none
  gi_LAST_END : ∃ t, mg "LAST_END" = some (.int (48) t)
  gi_LAST_TOLD : ∃ t, mg "LAST_TOLD" = some (.int (48) t)
  gi_MOST : ∃ t, mg "MOST" = some (.int (12) t)
  f_err : Addr
  d_err : FuncData
  F_err : ErrF K s_err f_err d_err
  xs : ∀ c, knE c = true → ErrC K mg f_err c
  ki : ∀ c b, knE c = true → knE b = true → PySem.W.kitOne K (.ref (He.ga K c.name)) (.ref (He.ga K b.name)) = some (isaE c b)
  ex : ∀ c b, knE c = true → knE b = true → PySem.W.exmOne K (.ref (He.ga K c.name)) (.ref (He.ga K b.name)) = some (isaE c b)
noncomputable section
variable {P : Program} {w : World} {K : PySem.W.Frag} {mg : Str → Option Value} {base : Heap}
theorem sc_err : FnScope ["self", "at"] ["self", "at"] (defScope s_err) := ⟨rfl, rfl, rfl, by decide +kernel, rfl, by decide +kernel, by decide +kernel⟩
theorem bind_err {K : PySem.W.Frag} {mg : Str → Option Value} {T : Tx K mg} : Binds K T.d_err ["self", "at"] [] := by
  obtain ⟨ds, h1, h2⟩ := FunD.binds1 T.F_err (ps := ["self", "at"]) 2 1 (by decide) rfl fun _ _ _ _ _ _ _ us its hu hi => match us, its, hu, hi with | [_, _], [_], _, _ => ⟨_, rfl, rfl⟩
  cases h1
  exact h2
theorem ok_err (T : Tx K mg) : FnOk P w K mg base (L2.CX P w) 1 T.f_err T.d_err ["self", "at"] (spInit K) := by
  refine T.F_err.ok sc_err (fun vs H Q E h => ?_) (fun cdv A outer s H vs Q E hr h => ?_)
  · obtain ⟨a, C, i, rfl, _⟩ := h
    rfl
  · obtain ⟨a, C, i, rfl, ho, hn, ha, hq⟩ := h
    exact ⟨_, pss_cons (ps_ost (pv 0) (pv 1)) pss_nil, _, rfl, _, rfl, a, C, rfl, ho, hn, .inl ⟨ha, fun dx h1 h2 => hq dx h1 h2⟩⟩
def m_is_span (ar_pair : (Int × Int)) : Res Bool :=
  ((andR (bin rLe (Res.ok (0 : Int)) (un (fun p => Res.ok p.1) (Res.ok ar_pair))) (andR (bin rLt (un (fun p => Res.ok p.1) (Res.ok ar_pair)) (un (fun p => Res.ok p.2) (Res.ok ar_pair))) (bin rLe (un (fun p => Res.ok p.2) (Res.ok ar_pair)) (Res.ok (48 : Int))))).bind fun a_1 => Res.ok a_1)
abbrev N_is_span : List Str := ["pair"]
theorem sc_is_span : FnScope N_is_span ["pair"] (defScope s_is_span) := ⟨rfl, rfl, rfl, by decide +kernel, rfl, by decide +kernel, by decide +kernel⟩
theorem bind_is_span {K : PySem.W.Frag} {mg : Str → Option Value} {T : Tx K mg} : Binds K T.d_is_span ["pair"] [] := FunD.bindsN T.F_is_span fun _ _ _ _ _ _ us hl => match us, hl with | [_], _ => rfl
abbrev sp_is_span (K : PySem.W.Frag) : Sp := spP K (t1 (pT (tc pI (t1 pI)))) m_is_span pB
theorem ok_is_span (T : Tx K mg) : FnOk P w K mg base (L2.CX P w) 1 T.f_is_span T.d_is_span ["pair"] (sp_is_span K) := by
  refine T.F_is_span.ok sc_is_span (fun vs H Q E h => ?_) (fun cdv A outer s H vs Q E hr h => ?_)
  · obtain ⟨I, C, a, _, hr, _⟩ := h
    exact Rt.len _ hr
  · obtain ⟨I0, C0, ar_pair, hs, ⟨v_pair, rfl, r_pair⟩, hm⟩ := h
    have hm : Post (m_is_span ar_pair) (PQ pB I0 C0 Q) (PX E K I0 C0) := hm
    replace r_pair : Rp.r (pT (tc pI (t1 pI))) ar_pair v_pair I0 Z := Im.im r_pair
    unfold m_is_span at hm
    refine ⟨_, (pss_cons (ps_ret (pe_and (pe_cmpR op_le pe_int (pe_ix (r := rIxT K) ix_tup (pv 0) pe_int (fun _ _ => rfl)) (nomark _)) (pe_and (pe_cmpR op_lt (pe_ix (r := rIxT K) ix_tup (pv 0) pe_int (fun _ _ => rfl)) (pe_ix (r := rIxT K) ix_tup (pv 0) pe_int (fun _ _ => rfl)) (nomark _)) (pe_one (pe_cmpR op_le (pe_ix (r := rIxT K) ix_tup (pv 0) pe_int (fun _ _ => rfl)) (pe_glob (v := .int (48)) rfl T.gi_LAST_END.choose_spec ⟨_, rfl⟩) (nomark _)))))) pss_nil), ?_⟩
    refine q_ret (tz := tNext) (E := E) (K := K) (σ := [some v_pair]) (x_andV (x_op o_le (x_int (i := 0)) (x_k (k := ((0 : Nat) : Int)) (o_pj pj0) (x_var (i := 0) rfl (Rp.mono _ (Ex.refl _) exz r_pair)))) (x_andV (x_op o_lt (x_k (k := ((0 : Nat) : Int)) (o_pj pj0) (x_var (i := 0) rfl (Rp.mono _ (Ex.refl _) exz r_pair))) (x_k (k := ((1 : Nat) : Int)) (o_pj (pjs pj1)) (x_var (i := 0) rfl (Rp.mono _ (Ex.refl _) exz r_pair)))) (x_op o_le (x_k (k := ((1 : Nat) : Int)) (o_pj (pjs pj1)) (x_var (i := 0) rfl (Rp.mono _ (Ex.refl _) exz r_pair))) (x_int (i := 48))))) hs (fun _ _ h => PX.mono (Ex.refl _) (Ex.refl _) h) hm fun a_1 v_2 I_3 H_4 e_5 s_6 r_7 hm => ?_
    exact hm v_2 I_3 H_4 e_5 (St.less s_6 (Ex.refl _)) (Im.im r_7)
def m_check_warnings (ar_warnings : (List (Int × Int × Int))) : Res Unit :=
  (ifR (bin rGt (un rLen (Res.ok ar_warnings)) (Res.ok (12 : Int))) ((Res.ok (12 : Int)).bind fun i => Res.exc .TooMany i) (((un enumR (Res.ok ar_warnings)).bind fun xs => loopN (fun (x_16 : (Int × (Int × Int × Int))) (z_9 : Unit) => (ifR (orR (bin rLt (un (fun p => Res.ok p.1) (Res.ok x_16.2)) (un rNeg (Res.ok (1 : Int)))) (orR (bin rGt (un (fun p => Res.ok p.1) (Res.ok x_16.2)) (Res.ok (48 : Int))) (un notR (un m_is_span (un (fun p => Res.ok p.2) (Res.ok x_16.2)))))) ((Res.ok x_16.1).bind fun i => Res.exc .BadPair i) (Res.ok ()))) xs ()).bind fun (z_43 : Unit) => (Res.ok ())))
abbrev N_check_warnings : List Str := ["warnings", "k", "warning"]
theorem sc_check_warnings : FnScope N_check_warnings ["warnings"] (defScope s_check_warnings) := ⟨rfl, rfl, rfl, by decide +kernel, rfl, by decide +kernel, by decide +kernel⟩
theorem bind_check_warnings {K : PySem.W.Frag} {mg : Str → Option Value} {T : Tx K mg} : Binds K T.d_check_warnings ["warnings"] [] := FunD.bindsN T.F_check_warnings fun _ _ _ _ _ _ us hl => match us, hl with | [_], _ => rfl
abbrev sp_check_warnings (K : PySem.W.Frag) : Sp := spP K (t1 (pV (pT (tc pI (tc pI (t1 pI)))))) m_check_warnings pN
theorem ok_check_warnings (T : Tx K mg) : FnOk P w K mg base (L2.CX P w) 3 T.f_check_warnings T.d_check_warnings ["warnings"] (sp_check_warnings K) := by
  refine T.F_check_warnings.ok sc_check_warnings (fun vs H Q E h => ?_) (fun cdv A outer s H vs Q E hr h => ?_)
  · obtain ⟨I, C, a, _, hr, _⟩ := h
    exact Rt.len _ hr
  · obtain ⟨I0, C0, ar_warnings, hs, ⟨v_warnings, rfl, r_warnings⟩, hm⟩ := h
    have hm : Post (m_check_warnings ar_warnings) (PQ pN I0 C0 Q) (PX E K I0 C0) := hm
    unfold m_check_warnings at hm
    refine ⟨_, (pss_cons (ps_if (pt_cmpR op_gt (pe_callB (r := rLen1 K) call_len_seq (by rfl) T.gb_len bt_len (pa_cons (pv 0) pa_nil)) (pe_glob (v := .int (12)) rfl T.gi_MOST.choose_spec ⟨_, rfl⟩) (nomark _)) (pss_cons (ps_raise rfl (takes_of rfl rfl rfl rfl) (pmk_oex (T.xs .TooMany (by decide)).o (T.xs .TooMany (by decide)).ic (T.xs .TooMany (by decide)).ti (ok_err T) (hr.mono (by decide)) bind_err .nil passL rfl (T.xs .TooMany (by decide)).g (pa_cons (pe_glob (v := .int (12)) rfl T.gi_MOST.choose_spec ⟨_, rfl⟩) pa_nil))) pss_nil) pss_nil) (pss_cons (ps_for (passes_of rfl) rfl (show PI _ _ _ (iEnum K _) from pi_enum (by rfl) T.gb_enumerate (pa_cons (pv 0) pa_nil)) (show PG _ _ (gTup K 2 _) from pg_tup rfl (pgs_cons (pg_name (i := 1) sc_check_warnings.nd rfl (Or.inl rfl)) (pgs_cons (pg_name (i := 2) sc_check_warnings.nd rfl (Or.inl rfl)) pgs_nil))) (pss_cons (ps_if (PW.pt (pw_or (pt_cmpR op_lt (pe_ix (r := rIxT K) ix_tup (pv 2) pe_int (fun _ _ => rfl)) (pe_un un_neg pe_int) (nomark _)) (pw_or (pt_cmpR op_gt (pe_ix (r := rIxT K) ix_tup (pv 2) pe_int (fun _ _ => rfl)) (pe_glob (v := .int (48)) rfl T.gi_LAST_TOLD.choose_spec ⟨_, rfl⟩) (nomark _)) (pw_or1 (pt_not (pt_val (pe_call (ok_is_span T) (hr.mono (by decide)) rfl T.g_is_span T.F_is_span.kp bind_is_span .nil passE (pa_cons (pe_slice (r := rSlT K) sl_tup (pv 2) (po_some pe_int) po_none) pa_nil)))))))) (pss_cons (ps_raise rfl (takes_of rfl rfl rfl rfl) (pmk_oex (T.xs .BadPair (by decide)).o (T.xs .BadPair (by decide)).ic (T.xs .BadPair (by decide)).ti (ok_err T) (hr.mono (by decide)) bind_err .nil passL rfl (T.xs .BadPair (by decide)).g (pa_cons (pv 1) pa_nil))) pss_nil) pss_nil) pss_nil)) pss_nil)), ?_⟩
    refine s_if (E := E) (K := K) (σ := [some v_warnings, none, none]) (t_test (x_op o_gt (x_cb o_len (a_one (x_var (i := 0) rfl (Rp.mono _ (Ex.refl _) (Ex.refl _) r_warnings)))) (x_int (i := 12)))) hs (fun _ _ h => PX.mono (Ex.refl _) (Ex.refl _) h) hm (fun I_1 H_2 e_3 s_4 hm => ?_) (fun I_5 H_6 e_7 s_8 hm => ?_)
    · exact s_raise (E := E) (K := K) (σ := [some v_warnings, none, none]) (T.xs .TooMany (by decide)) (a_one (x_int (i := 12))) s_4 (fun _ _ h => PX.mono e_3 (Ex.refl _) h) hm
    · refine s_forN (E := E) (K := K) (σ := [some v_warnings, none, none]) (fun (z_9 : Unit) σ2 I_13 C_14 => ∃ w_11 : Option V, ∃ w_12 : Option V, σ2 = [some v_warnings, w_11, w_12] ∧ Ex C0 C_14) (i_enumV (i := 0) (B := C0) rfl (Rp.mono _ e_7 (Ex.refl _) r_warnings) (Ex.refl _)) s_8 (fun _ _ h => PX.mono e_7 (Ex.refl _) h) hm (fun _ e_24 => ⟨none, none, rfl, (Ex.refl _)⟩) (fun _ _ _ _ ⟨w_11, w_12, hs_10, fr_15⟩ => fr_15) (fun _ _ _ _ _ e ⟨w_11, w_12, hs_10, fr_15⟩ => ⟨w_11, w_12, hs_10, fr_15⟩) (fun N x_16 v_17 z_9 σ2 I_18 C_19 H_20 e_21 s_22 ⟨w_11, w_12, hs_10, fr_15⟩ r_23 hm => ?_) (fun z_43 σ2 I_38 C_39 H_40 e_41 s_42 ⟨w_45, w_46, hs_44, fr_49⟩ hm => ?_)
      · subst hs_10
        refine g2 (K := K) x_16 v_17 I_18 C_19 H_20 _ s_22 r_23 fun σ2 ⟨v_25, v_26, hs_29, r_27, r_28⟩ => ?_
        subst hs_29
        refine s_if (E := E) (K := K) (σ := [some v_warnings, some v_25, some v_26]) (t_or (t_test (x_op o_lt (x_k (k := ((0 : Nat) : Int)) (o_pj pj0) (x_var (i := 2) rfl (Rp.mono _ (Ex.refl _) exz r_28))) (x_un o_neg (x_int (i := 1))))) (t_or (t_test (x_op o_gt (x_k (k := ((0 : Nat) : Int)) (o_pj pj0) (x_var (i := 2) rfl (Rp.mono _ (Ex.refl _) exz r_28))) (x_int (i := 48)))) (t_not (t_B (x_call (a_one (x_slT1 (x_var (i := 2) rfl (Rp.mono _ (Ex.refl _) exz r_28)) (p_some (x_int (i := 1))) p_none))))))) s_22 (fun _ _ h => PX.mono (e_7.trans e_21) fr_15 h) hm (fun I_30 H_31 e_32 s_33 hm => ?_) (fun I_34 H_35 e_36 s_37 hm => ?_)
        · exact s_raise (E := E) (K := K) (σ := [some v_warnings, some v_25, some v_26]) (T.xs .BadPair (by decide)) (a_one (x_var (i := 1) rfl (Rp.mono _ e_32 exz r_27))) s_33 (fun _ _ h => PX.mono (e_7.trans (e_21.trans e_32)) fr_15 h) hm
        · exact hm _ _ _ _ e_36 s_37 ⟨some v_25, some v_26, rfl, fr_15⟩
      subst hs_44
      exact hm .non _ _ (e_7.trans e_41) (St.less s_42 fr_49) rfl
def m_check_events (ar_events : (List (Int × Int))) : Res Unit :=
  (ifR (bin rGt (un rLen (Res.ok ar_events)) (Res.ok (12 : Int))) ((Res.ok (12 : Int)).bind fun i => Res.exc .TooMany i) (((un enumR (Res.ok ar_events)).bind fun xs => loopN (fun (x_16 : (Int × (Int × Int))) (z_9 : Unit) => (ifR (un notR (un m_is_span (Res.ok x_16.2))) ((Res.ok x_16.1).bind fun i => Res.exc .BadPair i) (Res.ok ()))) xs ()).bind fun (z_43 : Unit) => (Res.ok ())))
abbrev N_check_events : List Str := ["events", "k", "event"]
theorem sc_check_events : FnScope N_check_events ["events"] (defScope s_check_events) := ⟨rfl, rfl, rfl, by decide +kernel, rfl, by decide +kernel, by decide +kernel⟩
theorem bind_check_events {K : PySem.W.Frag} {mg : Str → Option Value} {T : Tx K mg} : Binds K T.d_check_events ["events"] [] := FunD.bindsN T.F_check_events fun _ _ _ _ _ _ us hl => match us, hl with | [_], _ => rfl
abbrev sp_check_events (K : PySem.W.Frag) : Sp := spP K (t1 (pV (pT (tc pI (t1 pI))))) m_check_events pN
theorem ok_check_events (T : Tx K mg) : FnOk P w K mg base (L2.CX P w) 3 T.f_check_events T.d_check_events ["events"] (sp_check_events K) := by
  refine T.F_check_events.ok sc_check_events (fun vs H Q E h => ?_) (fun cdv A outer s H vs Q E hr h => ?_)
  · obtain ⟨I, C, a, _, hr, _⟩ := h
    exact Rt.len _ hr
  · obtain ⟨I0, C0, ar_events, hs, ⟨v_events, rfl, r_events⟩, hm⟩ := h
    have hm : Post (m_check_events ar_events) (PQ pN I0 C0 Q) (PX E K I0 C0) := hm
    unfold m_check_events at hm
    refine ⟨_, (pss_cons (ps_if (pt_cmpR op_gt (pe_callB (r := rLen1 K) call_len_seq (by rfl) T.gb_len bt_len (pa_cons (pv 0) pa_nil)) (pe_glob (v := .int (12)) rfl T.gi_MOST.choose_spec ⟨_, rfl⟩) (nomark _)) (pss_cons (ps_raise rfl (takes_of rfl rfl rfl rfl) (pmk_oex (T.xs .TooMany (by decide)).o (T.xs .TooMany (by decide)).ic (T.xs .TooMany (by decide)).ti (ok_err T) (hr.mono (by decide)) bind_err .nil passL rfl (T.xs .TooMany (by decide)).g (pa_cons (pe_glob (v := .int (12)) rfl T.gi_MOST.choose_spec ⟨_, rfl⟩) pa_nil))) pss_nil) pss_nil) (pss_cons (ps_for (passes_of rfl) rfl (show PI _ _ _ (iEnum K _) from pi_enum (by rfl) T.gb_enumerate (pa_cons (pv 0) pa_nil)) (show PG _ _ (gTup K 2 _) from pg_tup rfl (pgs_cons (pg_name (i := 1) sc_check_events.nd rfl (Or.inl rfl)) (pgs_cons (pg_name (i := 2) sc_check_events.nd rfl (Or.inl rfl)) pgs_nil))) (pss_cons (ps_if (pt_not (pt_val (pe_call (ok_is_span T) (hr.mono (by decide)) rfl T.g_is_span T.F_is_span.kp bind_is_span .nil passE (pa_cons (pv 2) pa_nil)))) (pss_cons (ps_raise rfl (takes_of rfl rfl rfl rfl) (pmk_oex (T.xs .BadPair (by decide)).o (T.xs .BadPair (by decide)).ic (T.xs .BadPair (by decide)).ti (ok_err T) (hr.mono (by decide)) bind_err .nil passL rfl (T.xs .BadPair (by decide)).g (pa_cons (pv 1) pa_nil))) pss_nil) pss_nil) pss_nil)) pss_nil)), ?_⟩
    refine s_if (E := E) (K := K) (σ := [some v_events, none, none]) (t_test (x_op o_gt (x_cb o_len (a_one (x_var (i := 0) rfl (Rp.mono _ (Ex.refl _) (Ex.refl _) r_events)))) (x_int (i := 12)))) hs (fun _ _ h => PX.mono (Ex.refl _) (Ex.refl _) h) hm (fun I_1 H_2 e_3 s_4 hm => ?_) (fun I_5 H_6 e_7 s_8 hm => ?_)
    · exact s_raise (E := E) (K := K) (σ := [some v_events, none, none]) (T.xs .TooMany (by decide)) (a_one (x_int (i := 12))) s_4 (fun _ _ h => PX.mono e_3 (Ex.refl _) h) hm
    · refine s_forN (E := E) (K := K) (σ := [some v_events, none, none]) (fun (z_9 : Unit) σ2 I_13 C_14 => ∃ w_11 : Option V, ∃ w_12 : Option V, σ2 = [some v_events, w_11, w_12] ∧ Ex C0 C_14) (i_enumV (i := 0) (B := C0) rfl (Rp.mono _ e_7 (Ex.refl _) r_events) (Ex.refl _)) s_8 (fun _ _ h => PX.mono e_7 (Ex.refl _) h) hm (fun _ e_24 => ⟨none, none, rfl, (Ex.refl _)⟩) (fun _ _ _ _ ⟨w_11, w_12, hs_10, fr_15⟩ => fr_15) (fun _ _ _ _ _ e ⟨w_11, w_12, hs_10, fr_15⟩ => ⟨w_11, w_12, hs_10, fr_15⟩) (fun N x_16 v_17 z_9 σ2 I_18 C_19 H_20 e_21 s_22 ⟨w_11, w_12, hs_10, fr_15⟩ r_23 hm => ?_) (fun z_43 σ2 I_38 C_39 H_40 e_41 s_42 ⟨w_45, w_46, hs_44, fr_49⟩ hm => ?_)
      · subst hs_10
        refine g2 (K := K) x_16 v_17 I_18 C_19 H_20 _ s_22 r_23 fun σ2 ⟨v_25, v_26, hs_29, r_27, r_28⟩ => ?_
        subst hs_29
        refine s_if (E := E) (K := K) (σ := [some v_events, some v_25, some v_26]) (t_not (t_B (x_call (a_one (x_var (i := 2) rfl (Rp.mono _ (Ex.refl _) exz r_28)))))) s_22 (fun _ _ h => PX.mono (e_7.trans e_21) fr_15 h) hm (fun I_30 H_31 e_32 s_33 hm => ?_) (fun I_34 H_35 e_36 s_37 hm => ?_)
        · exact s_raise (E := E) (K := K) (σ := [some v_events, some v_25, some v_26]) (T.xs .BadPair (by decide)) (a_one (x_var (i := 1) rfl (Rp.mono _ e_32 exz r_27))) s_33 (fun _ _ h => PX.mono (e_7.trans (e_21.trans e_32)) fr_15 h) hm
        · exact hm _ _ _ _ e_36 s_37 ⟨some v_25, some v_26, rfl, fr_15⟩
      subst hs_44
      exact hm .non _ _ (e_7.trans e_41) (St.less s_42 fr_49) rfl
def m_counts_for (ar_warning : (Int × Int × Int)) (ar_event : (Int × Int)) (ar_lead : Int) (ar_slack : Int) : Res Bool :=
  ((Res.ok ar_warning).bind fun (t_1 : (Int × Int × Int)) => (ifR (bin rGt (bin rAdd (Res.ok t_1.1) (Res.ok ar_lead)) (un (fun p => Res.ok p.1) (Res.ok ar_event))) ((Res.ok false).bind fun a_21 => Res.ok a_21) ((andR (bin rLt (bin rSub (Res.ok t_1.2.1) (Res.ok ar_slack)) (un (fun p => Res.ok p.2) (Res.ok ar_event))) (bin rLt (un (fun p => Res.ok p.1) (Res.ok ar_event)) (bin rAdd (Res.ok t_1.2.2) (Res.ok ar_slack)))).bind fun a_28 => Res.ok a_28)))
abbrev N_counts_for : List Str := ["warning", "event", "lead", "slack", "told", "start", "end"]
theorem sc_counts_for : FnScope N_counts_for ["warning", "event", "lead", "slack"] (defScope s_counts_for) := ⟨rfl, rfl, rfl, by decide +kernel, rfl, by decide +kernel, by decide +kernel⟩
theorem bind_counts_for {K : PySem.W.Frag} {mg : Str → Option Value} {T : Tx K mg} : Binds K T.d_counts_for ["warning", "event", "lead", "slack"] [] := FunD.bindsN T.F_counts_for fun _ _ _ _ _ _ us hl => match us, hl with | [_, _, _, _], _ => rfl
abbrev sp_counts_for (K : PySem.W.Frag) : Sp := spP K (tc (pT (tc pI (tc pI (t1 pI)))) (tc (pT (tc pI (t1 pI))) (tc pI (t1 pI)))) (fun (p : ((Int × Int × Int) × (Int × Int) × Int × Int)) => m_counts_for p.1 p.2.1 p.2.2.1 p.2.2.2) pB
theorem ok_counts_for (T : Tx K mg) : FnOk P w K mg base (L2.CX P w) 1 T.f_counts_for T.d_counts_for ["warning", "event", "lead", "slack"] (sp_counts_for K) := by
  refine T.F_counts_for.ok sc_counts_for (fun vs H Q E h => ?_) (fun cdv A outer s H vs Q E hr h => ?_)
  · obtain ⟨I, C, a, _, hr, _⟩ := h
    exact Rt.len _ hr
  · obtain ⟨I0, C0, ⟨ar_warning, ar_event, ar_lead, ar_slack⟩, hs, ⟨v_warning, us0, rfl, r_warning, v_event, us1, rfl, r_event, v_lead, us2, rfl, r_lead, v_slack, rfl, r_slack⟩, hm⟩ := h
    have hm : Post (m_counts_for ar_warning ar_event ar_lead ar_slack) (PQ pB I0 C0 Q) (PX E K I0 C0) := hm
    replace r_warning : Rp.r (pT (tc pI (tc pI (t1 pI)))) ar_warning v_warning I0 Z := Im.im r_warning
    replace r_event : Rp.r (pT (tc pI (t1 pI))) ar_event v_event I0 Z := Im.im r_event
    replace r_lead : Rp.r pI ar_lead v_lead I0 Z := Im.im r_lead
    replace r_slack : Rp.r pI ar_slack v_slack I0 Z := Im.im r_slack
    unfold m_counts_for at hm
    refine ⟨_, (pss_cons (ps_asg (pv 0) (show PG _ _ (gTup K 3 _) from pg_tup rfl (pgs_cons (pg_name (i := 4) sc_counts_for.nd rfl (Or.inl rfl)) (pgs_cons (pg_name (i := 5) sc_counts_for.nd rfl (Or.inl rfl)) (pgs_cons (pg_name (i := 6) sc_counts_for.nd rfl (Or.inl rfl)) pgs_nil))))) (pss_cons (ps_if (pt_cmpR op_gt (pe_op op_add (pv 4) (pv 2)) (pe_ix (r := rIxT K) ix_tup (pv 1) pe_int (fun _ _ => rfl)) (nomark _)) (pss_cons (ps_ret pe_bl) pss_nil) pss_nil) (pss_cons (ps_ret (pe_and (pe_cmpR op_lt (pe_op op_sub (pv 5) (pv 3)) (pe_ix (r := rIxT K) ix_tup (pv 1) pe_int (fun _ _ => rfl)) (nomark _)) (pe_one (pe_cmpR op_lt (pe_ix (r := rIxT K) ix_tup (pv 1) pe_int (fun _ _ => rfl)) (pe_op op_add (pv 6) (pv 3)) (nomark _))))) pss_nil))), ?_⟩
    refine s_asgG (E := E) (K := K) (σ := [some v_warning, some v_event, some v_lead, some v_slack, none, none, none]) g3 (x_var (i := 0) rfl (Rp.mono _ (Ex.refl _) exz r_warning)) hs (fun _ _ h => PX.mono (Ex.refl _) (Ex.refl _) h) hm fun t_1 σ2 I_2 H_3 e_4 s_5 ⟨v_6, v_7, v_8, hs_12, r_9, r_10, r_11⟩ hm => ?_
    subst hs_12
    refine s_if (E := E) (K := K) (σ := [some v_warning, some v_event, some v_lead, some v_slack, some v_6, some v_7, some v_8]) (t_test (x_op o_gt (x_op o_add (x_var (i := 4) rfl (Rp.mono _ (Ex.refl _) exz r_9)) (x_var (i := 2) rfl (Rp.mono _ e_4 exz r_lead))) (x_k (k := ((0 : Nat) : Int)) (o_pj pj0) (x_var (i := 1) rfl (Rp.mono _ e_4 exz r_event))))) s_5 (fun _ _ h => PX.mono e_4 (Ex.refl _) h) hm (fun I_13 H_14 e_15 s_16 hm => ?_) (fun I_17 H_18 e_19 s_20 hm => ?_)
    · refine q_ret (tz := tNext) (E := E) (K := K) (σ := [some v_warning, some v_event, some v_lead, some v_slack, some v_6, some v_7, some v_8]) x_bl s_16 (fun _ _ h => PX.mono (e_4.trans e_15) (Ex.refl _) h) hm fun a_21 v_22 I_23 H_24 e_25 s_26 r_27 hm => ?_
      exact hm v_22 I_23 H_24 (e_4.trans (e_15.trans e_25)) (St.less s_26 (Ex.refl _)) (Im.im r_27)
    · refine q_ret (tz := tNext) (E := E) (K := K) (σ := [some v_warning, some v_event, some v_lead, some v_slack, some v_6, some v_7, some v_8]) (x_andV (x_op o_lt (x_op o_sub (x_var (i := 5) rfl (Rp.mono _ e_19 exz r_10)) (x_var (i := 3) rfl (Rp.mono _ (e_4.trans e_19) exz r_slack))) (x_k (k := ((1 : Nat) : Int)) (o_pj (pjs pj1)) (x_var (i := 1) rfl (Rp.mono _ (e_4.trans e_19) exz r_event)))) (x_op o_lt (x_k (k := ((0 : Nat) : Int)) (o_pj pj0) (x_var (i := 1) rfl (Rp.mono _ (e_4.trans e_19) exz r_event))) (x_op o_add (x_var (i := 6) rfl (Rp.mono _ e_19 exz r_11)) (x_var (i := 3) rfl (Rp.mono _ (e_4.trans e_19) exz r_slack))))) s_20 (fun _ _ h => PX.mono (e_4.trans e_19) (Ex.refl _) h) hm fun a_28 v_29 I_30 H_31 e_32 s_33 r_34 hm => ?_
      exact hm v_29 I_30 H_31 (e_4.trans (e_19.trans e_32)) (St.less s_33 (Ex.refl _)) (Im.im r_34)
def m_checked_links (ar_warnings : (List (Int × Int × Int))) (ar_events : (List (Int × Int))) (ar_lead : Int) (ar_slack : Int) : Res (List (List Int)) :=
  ((un m_check_warnings (Res.ok ar_warnings)).bind fun (b_1 : Unit) => ((un m_check_events (Res.ok ar_events)).bind fun (b_6 : Unit) => ((Res.ok ([] : List (List Int))).bind fun (links_11 : (List (List Int))) => (((Res.ok ar_warnings).bind fun xs => loopN (fun (x_36 : (Int × Int × Int)) (z_26 : (List (List Int))) => ((((un enumR (Res.ok ar_events)).bind (filR (fun (x_48 : (Int × (Int × Int))) => (un (fun (p : ((Int × Int × Int) × (Int × Int) × Int × Int)) => m_counts_for p.1 p.2.1 p.2.2.1 p.2.2.2) (pair (Res.ok x_36) (pair (Res.ok x_48.2) (pair (Res.ok ar_lead) (Res.ok ar_slack)))))) (fun (x_48 : (Int × (Int × Int))) => (Res.ok x_48.1)))).bind fun x => push z_26 x).bind fun (links_57 : (List (List Int))) => (Res.ok links_57))) xs links_11).bind fun (z_74 : (List (List Int))) => (Res.ok z_74)))))
abbrev N_checked_links : List Str := ["warnings", "events", "lead", "slack", "links", "warning", "e", "event"]
theorem sc_checked_links : FnScope N_checked_links ["warnings", "events", "lead", "slack"] (defScope s_checked_links) := ⟨rfl, rfl, rfl, by decide +kernel, rfl, by decide +kernel, by decide +kernel⟩
theorem bind_checked_links {K : PySem.W.Frag} {mg : Str → Option Value} {T : Tx K mg} : Binds K T.d_checked_links ["warnings", "events", "lead", "slack"] [] := FunD.bindsN T.F_checked_links fun _ _ _ _ _ _ us hl => match us, hl with | [_, _, _, _], _ => rfl
abbrev sp_checked_links (K : PySem.W.Frag) : Sp := spO K (tc (pV (pT (tc pI (tc pI (t1 pI))))) (tc (pV (pT (tc pI (t1 pI)))) (tc pI (t1 pI)))) (fun (p : ((List (Int × Int × Int)) × (List (Int × Int)) × Int × Int)) => m_checked_links p.1 p.2.1 p.2.2.1 p.2.2.2) (pL pI)
theorem ok_checked_links (T : Tx K mg) : FnOk P w K mg base (L2.CX P w) 4 T.f_checked_links T.d_checked_links ["warnings", "events", "lead", "slack"] (sp_checked_links K) := by
  refine T.F_checked_links.ok sc_checked_links (fun vs H Q E h => ?_) (fun cdv A outer s H vs Q E hr h => ?_)
  · obtain ⟨I, C, a, _, hr, _⟩ := h
    exact Rt.len _ hr
  · obtain ⟨I0, C0, ⟨ar_warnings, ar_events, ar_lead, ar_slack⟩, hs, ⟨v_warnings, us0, rfl, r_warnings, v_events, us1, rfl, r_events, v_lead, us2, rfl, r_lead, v_slack, rfl, r_slack⟩, hm⟩ := h
    have hm : Post (m_checked_links ar_warnings ar_events ar_lead ar_slack) (PN (pL pI) I0 C0 Q) (PX E K I0 C0) := hm
    replace r_lead : Rp.r pI ar_lead v_lead I0 Z := Im.im r_lead
    replace r_slack : Rp.r pI ar_slack v_slack I0 Z := Im.im r_slack
    unfold m_checked_links at hm
    refine ⟨_, (pss_cons (ps_expr (pe_call (ok_check_warnings T) (hr.mono (by decide)) rfl T.g_check_warnings T.F_check_warnings.kp bind_check_warnings .nil passE (pa_cons (pv 0) pa_nil))) (pss_cons (ps_expr (pe_call (ok_check_events T) (hr.mono (by decide)) rfl T.g_check_events T.F_check_events.kp bind_check_events .nil passE (pa_cons (pv 1) pa_nil))) (pss_cons (ps_set (i := 4) sc_checked_links.nd rfl (Or.inl rfl) (pe_lst pa_nil)) (pss_cons (ps_for (passes_of rfl) rfl (show PI _ _ _ (iList K _) from pi_list (pv 0)) (pg_name (i := 5) sc_checked_links.nd rfl (Or.inr rfl)) (pss_cons (ps_expr (show PE _ _ (tBM K "list" rAppend _ _) from pe_bm PySem.F.plainAttrs_list PySem.F.slot_list_append PySem.F.type_list_append mt_append (pv 4) (pa_cons (pe_lc (own := [("e", 6), ("event", 7)]) rfl sc_checked_links.nd (show PI _ _ _ (iEnum K _) from pi_enum (by rfl) T.gb_enumerate (pa_cons (pv 1) pa_nil)) (blkOk_by (own := [("e", 6), ("event", 7)]) (N := N_checked_links) (sc := defScope s_checked_links) (by decide +kernel)) (fun _ _ _ _ _ => (show PG _ _ (gTup K 2 _) from pg_tup rfl (pgs_cons (pg_name (i := 6) sc_checked_links.nd rfl (Or.inl rfl)) (pgs_cons (pg_name (i := 7) sc_checked_links.nd rfl (Or.inl rfl)) pgs_nil)))) (fun _ _ _ _ _ => (pts_one (pt_val (pe_call (ok_counts_for T) (hr.mono (by decide)) rfl T.g_counts_for T.F_counts_for.kp bind_counts_for .nil passL (pa_cons (pv 5) (pa_cons (pv 7) (pa_cons (pv 2) (pa_cons (pv 3) pa_nil)))))))) (fun _ _ _ _ _ => (pv 6))) pa_nil))) pss_nil)) (pss_cons (ps_ret (pv 4)) pss_nil))))), ?_⟩
    refine s_expr (E := E) (K := K) (σ := [some v_warnings, some v_events, some v_lead, some v_slack, none, none, none, none]) (x_call (a_one (x_var (i := 0) rfl (Rp.mono _ (Ex.refl _) (Ex.refl _) r_warnings)))) hs (fun _ _ h => PX.mono (Ex.refl _) (Ex.refl _) h) hm fun b_1 I_2 H_3 e_4 s_5 hm => ?_
    refine s_expr (E := E) (K := K) (σ := [some v_warnings, some v_events, some v_lead, some v_slack, none, none, none, none]) (x_call (a_one (x_var (i := 1) rfl (Rp.mono _ e_4 (Ex.refl _) r_events)))) s_5 (fun _ _ h => PX.mono e_4 (Ex.refl _) h) hm fun b_6 I_7 H_8 e_9 s_10 hm => ?_
    refine q_asgN (E := E) (K := K) (σ := [some v_warnings, some v_events, some v_lead, some v_slack, none, none, none, none]) (i := 4) (n_lst (R := (pL pI)) al_nil (by decide)) s_10 (fun _ _ h => PX.mono (e_4.trans e_9) (Ex.refl _) h) hm fun links_11 p_12 vs_13 I_14 C_15 H_16 e_17 hp_18 s_19 hc_20 k_21 hl_22 hr_23 hm => ?_
    have hB_24 := Ex.free (Ex.refl _) hp_18
    have fr_25 := fr_keep (Ex.refl _) hB_24 k_21
    refine s_forN (E := E) (K := K) (σ := [some v_warnings, some v_events, some v_lead, some v_slack, some (.ref p_12), none, none, none]) (fun (z_26 : (List (List Int))) σ2 I_29 C_30 => ∃ w_28 : Option V, σ2 = [some v_warnings, some v_events, some v_lead, some v_slack, some (.ref p_12), w_28, none, none] ∧ (∃ vs_31 : List V, C_30 p_12 = some (.lst vs_31) ∧ vs_31.length ≤ sizeLine ∧ A2 (fun x u => Rp.r (pL pI) x u I_29 Z) z_26 vs_31) ∧ Ex C0 C_30) (i_view (i := 0) (B := C0) rfl (Rp.mono _ (e_4.trans (e_9.trans e_17)) (Ex.refl _) r_warnings) fr_25) s_19 (fun _ _ h => PX.mono (e_4.trans (e_9.trans e_17)) fr_25 h) hm (fun _ e_44 => ⟨none, rfl, ⟨_, hc_20, hl_22, a2up (Ex.trans (Ex.refl _) e_44) hr_23⟩, fr_25⟩) (fun _ _ _ _ ⟨w_28, hs_27, ⟨vs_31, hc_32, hl_33, hr_34⟩, fr_35⟩ => fr_35) (fun _ _ _ _ _ e ⟨w_28, hs_27, ⟨vs_31, hc_32, hl_33, hr_34⟩, fr_35⟩ => ⟨w_28, hs_27, ⟨vs_31, hc_32, hl_33, a2up e hr_34⟩, fr_35⟩) (fun N x_36 v_37 z_26 σ2 I_38 C_39 H_40 e_41 s_42 ⟨w_28, hs_27, ⟨vs_31, hc_32, hl_33, hr_34⟩, fr_35⟩ r_43 hm => ?_) (fun z_74 σ2 I_69 C_70 H_71 e_72 s_73 ⟨w_76, hs_75, ⟨vs_79, hc_80, hl_81, hr_82⟩, fr_83⟩ hm => ?_)
    · subst hs_27
      refine g1 (K := K) x_36 v_37 I_38 C_39 H_40 _ s_42 r_43 fun σ2 ⟨v_45, hs_47, r_46⟩ => ?_
      subst hs_47
      refine q_app (E := E) (K := K) (σ := [some v_warnings, some v_events, some v_lead, some v_slack, some (.ref p_12), some v_45, none, none]) (i := 4) rfl hc_32 (a2up (Ex.refl _) hr_34) (x_lcgK (i_enumV (i := 1) (B := C0) rfl (Rp.mono _ (e_4.trans (e_9.trans (e_17.trans e_41))) (Ex.refl _) r_events) fr_35) (fun _ e => Ex.trans fr_35 e) g2 (fun _ _ _ _ ⟨_, _, h, _, _⟩ => by rw [h]; rfl) (fun x_48 σ2 I_49 C_50 e_51 c_52 ⟨v_53, v_54, h, r_55, r_56⟩ => by subst h; exact (t_B (x_call (a_cons (x_var (i := 5) rfl (Rp.mono _ e_51 exz r_46)) (a_cons (x_var (i := 7) rfl (Rp.mono _ (Ex.refl _) exz r_56)) (a_cons (x_var (i := 2) rfl (Rp.mono _ (e_4.trans (e_9.trans (e_17.trans (e_41.trans e_51)))) exz r_lead)) (a_one (x_var (i := 3) rfl (Rp.mono _ (e_4.trans (e_9.trans (e_17.trans (e_41.trans e_51)))) exz r_slack))))))))) (fun x_48 σ2 I_49 C_50 e_51 c_52 ⟨v_53, v_54, h, r_55, r_56⟩ => by subst h; exact (x_var (i := 6) rfl (Rp.mono _ (Ex.refl _) exz r_55))) (fun _ _ _ _ _ e ⟨v_53, v_54, h, r_55, r_56⟩ => ⟨v_53, v_54, h, Rp.mono _ e exz r_55, Rp.mono _ e exz r_56⟩)) s_42 (fun _ _ h => PX.mono (e_4.trans (e_9.trans (e_17.trans e_41))) fr_35 h) hm fun links_57 vs_58 I_59 C_60 H_61 e_62 s_63 hc_64 k_65 hl_66 hr_67 hm => ?_
      have fr_68 := fr_keep fr_35 hB_24 k_65
      exact hm _ _ _ _ e_62 s_63 ⟨some v_45, rfl, ⟨_, hc_64, hl_66, a2up (Ex.refl _) hr_67⟩, fr_68⟩
    subst hs_75
    refine q_retO (i := 4) rfl s_73 fr_83 hB_24 hc_80 hl_81 (a2up (Ex.refl _) hr_82) fun s hr => ?_
    exact hm _ _ _ _ (e_4.trans (e_9.trans (e_17.trans e_72))) hB_24 s hl_81 hr
def m_finds_event : Nat → (List (List Int)) → Int → ((List Int) × (List Int)) → Res (Bool × ((List Int) × (List Int)))
  | 0, _, _, _ => .bad
  | n_rec + 1, ar_links, ar_w, a_st =>
  (((bin ix (Res.ok ar_links) (Res.ok ar_w)).bind fun xs => loopR (fun (x_11 : Int) (z_1 : ((List Int) × (List Int))) => (ifR (bin inR (Res.ok x_11) (Res.ok z_1.2)) (Res.ok (Out.nx (z_1.1, z_1.2))) (((Res.ok (z_1.2, fun y => y)).bind fun p => (Res.ok x_11).bind fun x => (push p.1 x).bind fun c => Res.ok (p.2 c)).bind fun (seen_31 : (List Int)) => (ifMR (orM (seeM (fun (z_58 : ((List Int) × (List Int))) => (bin rLt (bin ix (Res.ok z_58.1) (Res.ok x_11)) (Res.ok (0 : Int))))) (fun (z_79 : ((List Int) × (List Int))) => (pair (Res.ok ar_links) (pair (bin ix (Res.ok z_79.1) (Res.ok x_11)) (Res.ok ()))).bind fun a => ((fun (p : ((List (List Int)) × Int × Unit)) (x : ((List Int) × (List Int))) => m_finds_event n_rec p.1 p.2.1 x) a ((fun (z_79 : ((List Int) × (List Int))) => (z_79.1, z_79.2)) z_79)).bind fun b => Res.ok (b.1, (fun (z_79 : ((List Int) × (List Int))) (y_88 : ((List Int) × (List Int))) => (y_88.1, y_88.2)) z_79 b.2))) (z_1.1, seen_31) (fun (y_98 : ((List Int) × (List Int))) => (((Res.ok ar_w).bind fun x => (Res.ok (y_98.1, fun y => y)).bind fun p => (Res.ok x_11).bind fun j => (setR p.1 j x).bind fun c => Res.ok (p.2 c)).bind fun (takers_109 : (List Int)) => ((Res.ok true).bind fun a_118 => Res.ok (Out.rt (a_118, (takers_109, y_98.2)))))) (fun (y_125 : ((List Int) × (List Int))) => (Res.ok (Out.nx (y_125.1, y_125.2)))))))) xs (a_st.1, a_st.2)).bind fun (o : Out ((List Int) × (List Int)) (Bool × ((List Int) × (List Int)))) => match o with | .nx z_141 => ((Res.ok false).bind fun a_151 => Res.ok (a_151, (z_141.1, z_141.2))) | .br _ => Res.bad | .rt r => Res.ok r)
abbrev N_finds_event : List Str := ["links", "w", "takers", "seen", "e"]
theorem sc_finds_event : FnScope N_finds_event ["links", "w", "takers", "seen"] (defScope s_finds_event) := ⟨rfl, rfl, rfl, by decide +kernel, rfl, by decide +kernel, by decide +kernel⟩
theorem bind_finds_event {K : PySem.W.Frag} {mg : Str → Option Value} {T : Tx K mg} : Binds K T.d_finds_event ["links", "w", "takers", "seen"] [] := FunD.bindsN T.F_finds_event fun _ _ _ _ _ _ us hl => match us, hl with | [_, _, _, _], _ => rfl
abbrev sp_finds_event (n_rec : Nat) (K : PySem.W.Frag) : Sp := spZ K (fun zs => (tc (pL (pL pI)) (tc pI (tvc (zs.getD 0 .non) (tv1 (zs.getD 1 .non)))))) (zc (oL pI) (z1 (oL pI))) (fun (p : ((List (List Int)) × Int × Unit)) (x : ((List Int) × (List Int))) => m_finds_event n_rec p.1 p.2.1 x) pB
theorem ok_finds_event (T : Tx K mg) : ∀ n_rec, FnOk P w K mg base (L2.CX P w) (n_rec + 1) T.f_finds_event T.d_finds_event ["links", "w", "takers", "seen"] (sp_finds_event n_rec K)
  | 0 => by
    refine T.F_finds_event.ok sc_finds_event (fun vs H Q E h => ?_) (fun cdv A outer s H vs Q E hr h => ?_)
    · obtain ⟨I, C, a, x, zs, Ts, _, _, _, hr, _⟩ := h
      exact Rt.len _ hr
    · obtain ⟨I0, C0, a, x, zs, Ts0, _, _, _, _, hm⟩ := h
      exact hm.elim
  | n_rec + 1 => by
    have F_rec := ok_finds_event T n_rec
    refine T.F_finds_event.ok sc_finds_event (fun vs H Q E h => ?_) (fun cdv A outer s H vs Q E hr h => ?_)
    · obtain ⟨I, C, a, x, zs, Ts, _, _, _, hr, _⟩ := h
      exact Rt.len _ hr
    · obtain ⟨I0, C0, ⟨ar_links, ar_w, ⟨⟩⟩, a_st, zs, Ts0, hs, hs0, ⟨v_takers, T_takers, _, _, rfl, rfl, r_takers, ⟨v_seen, T_seen, rfl, rfl, r_seen⟩⟩, ⟨v_links, _, rfl, r_links, ⟨v_w, _, rfl, r_w, ⟨_, rfl, rfl⟩⟩⟩, hm⟩ := h
      obtain ⟨a_takers, rfl⟩ := oL_ref r_takers
      obtain ⟨a_seen, rfl⟩ := oL_ref r_seen
      have hp0 := Sep.wo hs0
      have hm : Post (m_finds_event (n_rec + 1) ar_links ar_w a_st) (fun b => ∀ v I2 C2 H2 Us, Ex I0 I2 → St I2 C2 H2 → Sep C2 ((wo C0 [T_takers, T_seen]) :: Us) → Rz.r (zc (oL pI) (z1 (oL pI))) b.2 [(.ref a_takers), (.ref a_seen)] I2 Us → Rp.r pB b.1 v I2 Z → Q v H2) (PX E K I0 (wo C0 [T_takers, T_seen])) := hm
      replace r_links : Rp.r (pL (pL pI)) ar_links v_links I0 Z := Im.im r_links
      replace r_w : Rp.r pI ar_w v_w I0 Z := Im.im r_w
      unfold m_finds_event at hm
      refine ⟨_, (pss_cons (ps_for (passes_of rfl) rfl (show PI _ _ _ (iList K _) from pi_list (pe_ix (r := rIxL K) ix_list (pv 0) (pv 1) (fun _ _ => rfl))) (pg_name (i := 4) sc_finds_event.nd rfl (Or.inl rfl)) (pss_cons (ps_if (pt_cmpR (r := rIn K false) op_in_seq (pv 4) (pv 3) rfl) (pss_cons ps_continue pss_nil) pss_nil) (pss_cons (ps_expr (show PE _ _ (tBM K "list" rAppend _ _) from pe_bm PySem.F.plainAttrs_list PySem.F.slot_list_append PySem.F.type_list_append mt_append (pv 3) (pa_cons (pv 4) pa_nil))) (pss_cons (ps_if (PW.pt (pw_or (pt_cmpR op_lt (pe_ix (r := rIxL K) ix_list (pv 2) (pv 4) (fun _ _ => rfl)) pe_int (nomark _)) (pw_or1 (pt_val (pe_call F_rec (hr.mono (by omega)) rfl T.g_finds_event T.F_finds_event.kp bind_finds_event .nil passE (pa_cons (pv 0) (pa_cons (pe_ix (r := rIxL K) ix_list (pv 2) (pv 4) (fun _ _ => rfl)) (pa_cons (pv 2) (pa_cons (pv 3) pa_nil))))))))) (pss_cons (ps_asg (pv 1) (pg_sub (pv 2) (pv 4) set_list)) (pss_cons (ps_ret pe_bl) pss_nil)) pss_nil) pss_nil)))) (pss_cons (ps_ret pe_bl) pss_nil)), ?_⟩
      refine s_forR (E := E) (K := K) (σ := [some v_links, some v_w, some (.ref a_takers), some (.ref a_seen), none]) (fun (z_1 : ((List Int) × (List Int))) σ2 I_4 C_5 => ∃ w_3 : Option V, ∃ T_6 : Hp, ∃ T_8 : Hp, σ2 = [some v_links, some v_w, some (.ref a_takers), some (.ref a_seen), w_3] ∧ Rp.r (oL pI) z_1.1 (.ref a_takers) I_4 T_6 ∧ Rp.r (oL pI) z_1.2 (.ref a_seen) I_4 T_8 ∧ Sep C_5 [(wo C0 [T_takers, T_seen]), T_6, T_8]) (i_list (x_op o_ix (x_v (x_var (i := 0) rfl (Rp.mono _ (Ex.refl _) exz r_links))) (x_var (i := 1) rfl (Rp.mono _ (Ex.refl _) exz r_w)))) hs (fun _ _ h => PX.mono (Ex.refl _) (Sep.ex hp0 _ List.mem_cons_self) h) hm (fun _ e_19 => ⟨none, T_takers, T_seen, rfl, Rp.mono _ (Ex.trans (Ex.refl _) e_19) (Ex.refl _) r_takers, Rp.mono _ (Ex.trans (Ex.refl _) e_19) (Ex.refl _) r_seen, hp0⟩) (fun _ _ _ _ _ => trivial) (fun _ _ _ _ _ e ⟨w_3, T_6, T_8, hs_2, r_7, r_9, fr_10⟩ => ⟨w_3, T_6, T_8, hs_2, Rp.mono _ e (Ex.refl _) r_7, Rp.mono _ e (Ex.refl _) r_9, fr_10⟩) (fun N x_11 v_12 z_1 σ2 I_13 C_14 H_15 e_16 s_17 ⟨w_3, T_6, T_8, hs_2, r_7, r_9, fr_10⟩ r_18 hm => ?_) (fun z_141 σ2 I_136 C_137 H_138 e_139 s_140 ⟨w_143, T_146, T_148, hs_142, r_147, r_149, fr_150⟩ hm => ?_)
      · subst hs_2
        refine g1 (K := K) x_11 v_12 I_13 C_14 H_15 _ s_17 r_18 fun σ2 ⟨v_20, hs_22, r_21⟩ => ?_
        subst hs_22
        refine s_if (E := E) (K := K) (σ := [some v_links, some v_w, some (.ref a_takers), some (.ref a_seen), some v_20]) (t_test (x_op (o_in fl_int) (x_var (i := 4) rfl (Rp.mono _ (Ex.refl _) exz r_21)) (x_var (i := 3) rfl (Vw.vw (Rp.mono _ (Ex.refl _) (Ex.refl _) r_9) (Sep.get (L1 := [(wo C0 [T_takers, T_seen]), T_6]) (L2 := []) fr_10))))) s_17 (fun _ _ h => PX.mono e_16 (Sep.ex fr_10 _ List.mem_cons_self) h) hm (fun I_23 H_24 e_25 s_26 hm => ?_) (fun I_27 H_28 e_29 s_30 hm => ?_)
        · exact hm _ _ _ _ e_25 s_26 ⟨some v_20, T_6, T_8, rfl, Rp.mono _ e_25 (Ex.refl _) r_7, Rp.mono _ e_25 (Ex.refl _) r_9, fr_10⟩
        · refine q_appP (E := E) (K := K) (σ := [some v_links, some v_w, some (.ref a_takers), some (.ref a_seen), some v_20]) (R := (oL pI)) (L1 := [(wo C0 [T_takers, T_seen]), T_6]) (L2 := []) (pl_var (i := 3) rfl (Rp.mono _ e_29 (Ex.refl _) r_9)) (x_var (i := 4) rfl (Rp.mono _ e_29 exz r_21)) s_30 fr_10 (fun _ _ h => PX.mono (e_16.trans e_29) (Sep.ex fr_10 _ List.mem_cons_self) h) hm fun seen_31 T_32 I_33 C_34 H_39 e_35 s_36 r_37 hp_38 hm => ?_
          refine zs_if (E := E) (K := K) (σ := [some v_links, some v_w, some (.ref a_takers), some (.ref a_seen), some v_20]) (G := (fun (z_40 : ((List Int) × (List Int))) (I C : Hp) => ∃ T_41 T_42 : Hp, Rp.r (oL pI) z_40.1 (.ref a_takers) I T_41 ∧ Rp.r (oL pI) z_40.2 (.ref a_seen) I T_42 ∧ Sep C [(wo C0 [T_takers, T_seen]), T_41, T_42])) (B := (wo C0 [T_takers, T_seen])) (x := (z_1.1, seen_31)) (tz_or (tz_pure (G := (fun (z_52 : ((List Int) × (List Int))) (I C : Hp) => ∃ T_53 T_54 : Hp, Rp.r (oL pI) z_52.1 (.ref a_takers) I T_53 ∧ Rp.r (oL pI) z_52.2 (.ref a_seen) I T_54 ∧ Sep C [(wo C0 [T_takers, T_seen]), T_53, T_54])) (B := (wo C0 [T_takers, T_seen])) (Gd.mk (fun _ _ _ _ e ⟨T_53, T_54, r_55, r_56, hp_57⟩ => ⟨T_53, T_54, Rp.mono _ e (Ex.refl _) r_55, Rp.mono _ e (Ex.refl _) r_56, hp_57⟩) (fun _ _ _ ⟨T_53, T_54, r_55, r_56, hp_57⟩ => Sep.ex hp_57 _ List.mem_cons_self)) (fun z_58 I_59 C_60 e_61 ⟨T_62, T_63, r_64, r_65, hp_66⟩ => (t_test (x_op o_lt (x_op o_ix (x_var (i := 2) rfl (Vw.vw (Rp.mono _ (Ex.refl _) (Ex.refl _) r_64) (Sep.get (L1 := [(wo C0 [T_takers, T_seen])]) (L2 := [T_63]) hp_66))) (x_var (i := 4) rfl (Rp.mono _ (e_29.trans (e_35.trans e_61)) exz r_21))) (x_int (i := 0)))))) (tz_B (z_call (G := (fun (z_73 : ((List Int) × (List Int))) (I C : Hp) => ∃ T_74 T_75 : Hp, Rp.r (oL pI) z_73.1 (.ref a_takers) I T_74 ∧ Rp.r (oL pI) z_73.2 (.ref a_seen) I T_75 ∧ Sep C [(wo C0 [T_takers, T_seen]), T_74, T_75])) (B := (wo C0 [T_takers, T_seen])) (A := fun zs => (tc (pL (pL pI)) (tc pI (tvc (zs.getD 0 .non) (tv1 (zs.getD 1 .non)))))) (M := (zc (oL pI) (z1 (oL pI)))) (g := (fun (z_79 : ((List Int) × (List Int))) => (z_79.1, z_79.2))) (h := (fun (z_79 : ((List Int) × (List Int))) (y_88 : ((List Int) × (List Int))) => (y_88.1, y_88.2))) [(.ref a_takers), (.ref a_seen)] (Gd.mk (fun _ _ _ _ e ⟨T_74, T_75, r_76, r_77, hp_78⟩ => ⟨T_74, T_75, Rp.mono _ e (Ex.refl _) r_76, Rp.mono _ e (Ex.refl _) r_77, hp_78⟩) (fun _ _ _ ⟨T_74, T_75, r_76, r_77, hp_78⟩ => Sep.ex hp_78 _ List.mem_cons_self)) (fun z_79 I_80 C_81 e_82 ⟨T_83, T_84, r_85, r_86, hp_87⟩ => (a_cons (x_var (i := 0) rfl (Rp.mono _ (e_16.trans (e_29.trans (e_35.trans e_82))) exz r_links)) (a_cons (x_op o_ix (x_var (i := 2) rfl (Vw.vw (Rp.mono _ (Ex.refl _) (Ex.refl _) r_85) (Sep.get (L1 := [(wo C0 [T_takers, T_seen])]) (L2 := [T_84]) hp_87))) (x_var (i := 4) rfl (Rp.mono _ (e_29.trans (e_35.trans e_82)) exz r_21))) (av_cons (i := 2) rfl (av_one (i := 3) rfl))))) (fun z_79 I_80 C_81 e_82 ⟨T_83, T_84, r_85, r_86, hp_87⟩ => ⟨selL [(wo C0 [T_takers, T_seen]), T_83, T_84] [1, 2], Sep.sel hp_87 (by decide) (by simp), Sep.bwo hp_87 (by simp), ⟨_, _, _, _, rfl, rfl, r_85, ⟨_, _, rfl, rfl, r_86⟩⟩, fun y_88 I_89 C_90 Us_91 e_93 hq_92 hm2 => (by obtain ⟨_, T_94, _, _, hz0, rfl, r_96, ⟨_, T_95, hz1, rfl, r_97⟩⟩ := hm2; cases hz0; cases hz1; exact ⟨T_94, T_95, r_96, r_97, (Sep.back (L := [(wo C0 [T_takers, T_seen]), T_83, T_84]) (is := [1, 2]) hp_87 rfl hq_92 (by simp))⟩)⟩)))) s_36 ⟨T_6, T_32, (Rp.mono _ (e_29.trans e_35) (Ex.refl _) r_7), (Rp.mono _ (Ex.refl _) (Ex.refl _) r_37), hp_38⟩ (fun _ _ h => PX.mono (e_16.trans (e_29.trans e_35)) (Ex.refl _) h) hm (fun y_98 I_99 C_100 H_101 e_102 s_103 ⟨T_104, T_105, r_106, r_107, hp_108⟩ hm => ?_) (fun y_125 I_126 C_127 H_128 e_129 s_130 ⟨T_131, T_132, r_133, r_134, hp_135⟩ hm => ?_)
          · refine q_setP (E := E) (K := K) (σ := [some v_links, some v_w, some (.ref a_takers), some (.ref a_seen), some v_20]) (R := (oL pI)) (L1 := [(wo C0 [T_takers, T_seen])]) (L2 := [T_105]) (pl_var (i := 2) rfl (Rp.mono _ (Ex.refl _) (Ex.refl _) r_106)) (x_var (i := 1) rfl (Rp.mono _ (e_16.trans (e_29.trans (e_35.trans e_102))) exz r_w)) (x_var (i := 4) rfl (Rp.mono _ (e_29.trans (e_35.trans e_102)) exz r_21)) s_103 hp_108 (fun _ _ h => PX.mono (e_16.trans (e_29.trans (e_35.trans e_102))) (Sep.ex hp_108 _ List.mem_cons_self) h) hm fun takers_109 T_110 I_111 C_112 H_117 e_113 s_114 r_115 hp_116 hm => ?_
            refine q_ret (tz := tNext) (E := E) (K := K) (σ := [some v_links, some v_w, some (.ref a_takers), some (.ref a_seen), some v_20]) x_bl s_114 (fun _ _ h => PX.mono (e_16.trans (e_29.trans (e_35.trans (e_102.trans e_113)))) (Sep.ex hp_116 _ List.mem_cons_self) h) hm fun a_118 v_119 I_120 H_121 e_122 s_123 r_124 hm => ?_
            exact hm v_119 _ _ H_121 [T_110, T_105] (e_16.trans (e_29.trans (e_35.trans (e_102.trans (e_113.trans e_122))))) s_123 hp_116 ⟨_, _, _, _, rfl, rfl, (Rp.mono _ e_122 (Ex.refl _) r_115), ⟨_, _, rfl, rfl, (Rp.mono _ (e_113.trans e_122) (Ex.refl _) r_107)⟩⟩ r_124
          · exact hm _ _ _ _ (e_29.trans (e_35.trans e_129)) s_130 ⟨some v_20, T_131, T_132, rfl, Rp.mono _ (Ex.refl _) (Ex.refl _) r_133, Rp.mono _ (Ex.refl _) (Ex.refl _) r_134, hp_135⟩
      subst hs_142
      refine q_ret (tz := tNext) (E := E) (K := K) (σ := [some v_links, some v_w, some (.ref a_takers), some (.ref a_seen), w_143]) x_bl s_140 (fun _ _ h => PX.mono e_139 (Sep.ex fr_150 _ List.mem_cons_self) h) hm fun a_151 v_152 I_153 H_154 e_155 s_156 r_157 hm => ?_
      exact hm v_152 _ _ H_154 [T_146, T_148] (e_139.trans e_155) s_156 fr_150 ⟨_, _, _, _, rfl, rfl, (Rp.mono _ e_155 (Ex.refl _) r_147), ⟨_, _, rfl, rfl, (Rp.mono _ e_155 (Ex.refl _) r_149)⟩⟩ r_157
def m_takers_of (ar_links : (List (List Int))) (ar_many : Int) : Res (List Int) :=
  ((bin rRepR (consR (un rNeg (Res.ok (1 : Int))) (Res.ok [])) (Res.ok ar_many)).bind fun (takers_1 : (List Int)) => (((un rng1 (un rLen (Res.ok ar_links))).bind fun xs => loopN (fun (x_24 : Int) (z_16 : (List Int)) => (((fun (z_44 : (List Int)) => (pair (Res.ok ar_links) (pair (Res.ok x_24) (Res.ok ()))).bind fun a => ((fun (p : ((List (List Int)) × Int × Unit)) (x : ((List Int) × (List Int))) => m_finds_event 20 p.1 p.2.1 x) a ((fun (z_44 : (List Int)) => (z_44, ([] : (List Int)))) z_44)).bind fun b => Res.ok (b.1, (fun (z_44 : (List Int)) (y_51 : ((List Int) × (List Int))) => y_51.1) z_44 b.2)) z_16).bind fun (b_61 : Bool × (List Int)) => (Res.ok b_61.2))) xs takers_1).bind fun (z_75 : (List Int)) => (Res.ok z_75)))
abbrev N_takers_of : List Str := ["links", "many", "takers", "w"]
theorem sc_takers_of : FnScope N_takers_of ["links", "many"] (defScope s_takers_of) := ⟨rfl, rfl, rfl, by decide +kernel, rfl, by decide +kernel, by decide +kernel⟩
theorem bind_takers_of {K : PySem.W.Frag} {mg : Str → Option Value} {T : Tx K mg} : Binds K T.d_takers_of ["links", "many"] [] := FunD.bindsN T.F_takers_of fun _ _ _ _ _ _ us hl => match us, hl with | [_, _], _ => rfl
abbrev sp_takers_of (K : PySem.W.Frag) : Sp := spO K (tc (pL (pL pI)) (t1 pI)) (fun (p : ((List (List Int)) × Int)) => m_takers_of p.1 p.2) pI
theorem ok_takers_of (T : Tx K mg) : FnOk P w K mg base (L2.CX P w) 22 T.f_takers_of T.d_takers_of ["links", "many"] (sp_takers_of K) := by
  refine T.F_takers_of.ok sc_takers_of (fun vs H Q E h => ?_) (fun cdv A outer s H vs Q E hr h => ?_)
  · obtain ⟨I, C, a, _, hr, _⟩ := h
    exact Rt.len _ hr
  · obtain ⟨I0, C0, ⟨ar_links, ar_many⟩, hs, ⟨v_links, us0, rfl, r_links, v_many, rfl, r_many⟩, hm⟩ := h
    have hm : Post (m_takers_of ar_links ar_many) (PN pI I0 C0 Q) (PX E K I0 C0) := hm
    have hp0 : Sep C0 [C0] := Sep.one (Ex.refl _)
    replace r_links : Rp.r (pL (pL pI)) ar_links v_links I0 Z := Im.im r_links
    replace r_many : Rp.r pI ar_many v_many I0 Z := Im.im r_many
    unfold m_takers_of at hm
    refine ⟨_, (pss_cons (ps_set (i := 2) sc_takers_of.nd rfl (Or.inl rfl) (pe_op op_rep (pe_lst (pa_cons (pe_un un_neg pe_int) pa_nil)) (pv 1))) (pss_cons (ps_for (passes_of rfl) rfl (pi_range1 (by rfl) T.gb_range (pa_cons (pe_callB (r := rLen1 K) call_len_seq (by rfl) T.gb_len bt_len (pa_cons (pv 0) pa_nil)) pa_nil)) (pg_name (i := 3) sc_takers_of.nd rfl (Or.inl rfl)) (pss_cons (ps_expr (pe_call (ok_finds_event T 20) (hr.mono (by decide)) rfl T.g_finds_event T.F_finds_event.kp bind_finds_event .nil passE (pa_cons (pv 0) (pa_cons (pv 3) (pa_cons (pv 2) (pa_cons (pe_lst pa_nil) pa_nil)))))) pss_nil)) (pss_cons (ps_ret (pv 2)) pss_nil))), ?_⟩
    refine q_asgN (E := E) (K := K) (σ := [some v_links, some v_many, none, none]) (i := 2) (n_op n_rep (x_v (x_lst (al_cons (x_un o_neg (x_int (i := 1))) al_nil) (Nat.le_of_ble_eq_true rfl))) (x_var (i := 1) rfl (Rp.mono _ (Ex.refl _) exz r_many))) hs (fun _ _ h => PX.mono (Ex.refl _) (Sep.ex hp0 _ List.mem_cons_self) h) hm fun takers_1 p_2 vs_3 I_4 C_5 H_6 e_7 hp_8 s_9 hc_10 k_11 hl_12 hr_13 hm => ?_
    have r_14 : Rp.r (oL pI) takers_1 (.ref p_2) I_4 (upd Z p_2 (.lst vs_3)) := oL_of upd_same hl_12 hr_13
    have hp_15 : Sep C_5 [C0, (upd Z p_2 (.lst vs_3))] := sep_new1 hp0 hp_8 hc_10 k_11
    refine s_forN (E := E) (K := K) (σ := [some v_links, some v_many, some (.ref p_2), none]) (fun (z_16 : (List Int)) σ2 I_19 C_20 => ∃ w_18 : Option V, ∃ T_21 : Hp, σ2 = [some v_links, some v_many, some (.ref p_2), w_18] ∧ Rp.r (oL pI) z_16 (.ref p_2) I_19 T_21 ∧ Sep C_20 [C0, T_21]) (i_rng1 (a_one (x_cb o_len (a_one (x_v (x_var (i := 0) rfl (Rp.mono _ e_7 exz r_links))))))) s_9 (fun _ _ h => PX.mono e_7 (Sep.ex hp_15 _ List.mem_cons_self) h) hm (fun _ e_32 => ⟨none, (upd Z p_2 (.lst vs_3)), rfl, Rp.mono _ (Ex.trans (Ex.refl _) e_32) (Ex.refl _) r_14, hp_15⟩) (fun _ _ _ _ _ => trivial) (fun _ _ _ _ _ e ⟨w_18, T_21, hs_17, r_22, fr_23⟩ => ⟨w_18, T_21, hs_17, Rp.mono _ e (Ex.refl _) r_22, fr_23⟩) (fun N x_24 v_25 z_16 σ2 I_26 C_27 H_28 e_29 s_30 ⟨w_18, T_21, hs_17, r_22, fr_23⟩ r_31 hm => ?_) (fun z_75 σ2 I_70 C_71 H_72 e_73 s_74 ⟨w_77, T_80, hs_76, r_81, fr_82⟩ hm => ?_)
    · subst hs_17
      refine g1 (K := K) x_24 v_25 I_26 C_27 H_28 _ s_30 r_31 fun σ2 ⟨v_33, hs_35, r_34⟩ => ?_
      subst hs_35
      refine zq_expr (E := E) (K := K) (σ := [some v_links, some v_many, some (.ref p_2), some v_33]) (G := (fun (z_36 : (List Int)) (I C : Hp) => ∃ T_37 : Hp, Rp.r (oL pI) z_36 (.ref p_2) I T_37 ∧ Sep C [C0, T_37])) (B := C0) (x := z_16) (z_callN (G := (fun (z_40 : (List Int)) (I C : Hp) => ∃ T_41 : Hp, Rp.r (oL pI) z_40 (.ref p_2) I T_41 ∧ Sep C [C0, T_41])) (B := C0) (A := fun zs => (tc (pL (pL pI)) (tc pI (tvc (zs.getD 0 .non) (tv1 (zs.getD 1 .non)))))) (M := (zc (oL pI) (z1 (oL pI)))) (g := (fun (z_44 : (List Int)) => (z_44, ([] : (List Int))))) (h := (fun (z_44 : (List Int)) (y_51 : ((List Int) × (List Int))) => y_51.1)) (fun p => [(.ref p_2), p]) (Gd.mk (fun _ _ _ _ e ⟨T_41, r_42, hp_43⟩ => ⟨T_41, Rp.mono _ e (Ex.refl _) r_42, hp_43⟩) (fun _ _ _ ⟨T_41, r_42, hp_43⟩ => Sep.ex hp_43 _ List.mem_cons_self)) (fun z_44 I_45 C_46 e_47 ⟨T_48, r_49, hp_50⟩ => (an_cons (x_var (i := 0) rfl (Rp.mono _ (e_7.trans (e_29.trans e_47)) exz r_links)) (an_cons (x_var (i := 3) rfl (Rp.mono _ e_47 exz r_34)) (an_var (i := 2) rfl an_one)))) (fun z_44 I_45 C_46 p e_47 ⟨T_48, r_49, hp_50⟩ hp0 => ⟨selL [C0, T_48, upd Z p (.lst [])] [1, 2], Sep.sel (show Sep _ [C0, T_48, upd Z p (.lst [])] from sep_new1 hp_50 hp0 upd_same (fun q h => upd_ne h)) (by decide) (by simp), Sep.bwo (show Sep _ [C0, T_48, upd Z p (.lst [])] from sep_new1 hp_50 hp0 upd_same (fun q h => upd_ne h)) (by simp), ⟨_, _, _, _, rfl, rfl, r_49, ⟨_, _, rfl, rfl, (oL_of upd_same (Nat.zero_le _) .nil)⟩⟩, fun y_51 I_52 C_53 Us_54 e_56 hq_55 hm2 => (by obtain ⟨_, T_57, _, _, hz0, rfl, r_59, ⟨_, T_58, hz1, rfl, r_60⟩⟩ := hm2; cases hz0; cases hz1; exact ⟨T_57, r_59, (Sep.pre (L1 := [C0, T_57]) (L2 := [T_58]) (show Sep _ [C0, T_57, T_58] from (Sep.back (L := [C0, T_48, upd Z p (.lst [])]) (is := [1, 2]) (show Sep _ [C0, T_48, upd Z p (.lst [])] from sep_new1 hp_50 hp0 upd_same (fun q h => upd_ne h)) rfl hq_55 (by simp))))⟩)⟩)) s_30 ⟨T_21, (Rp.mono _ (Ex.refl _) (Ex.refl _) r_22), fr_23⟩ (fun _ _ h => PX.mono (e_7.trans e_29) (Ex.refl _) h) hm fun b_61 I_62 C_63 H_64 e_65 s_66 ⟨T_67, r_68, hp_69⟩ hm => ?_
      exact hm _ _ _ _ e_65 s_66 ⟨some v_33, T_67, rfl, Rp.mono _ (Ex.refl _) (Ex.refl _) r_68, hp_69⟩
    subst hs_76
    refine q_retOw (i := 2) (B := C0) (L1 := []) (L2 := []) rfl s_74 fr_82 (Rp.mono _ (Ex.refl _) (Ex.refl _) r_81) fun vs hB s hl hr => ?_
    exact hm _ _ _ _ (e_7.trans e_73) hB s hl hr
def m_pairs_count (ar_links : (List (List Int))) (ar_many : Int) : Res Int :=
  ((un rLen ((un (fun (p : ((List (List Int)) × Int)) => m_takers_of p.1 p.2) (pair (Res.ok ar_links) (Res.ok ar_many))).bind (filR (fun (x_1 : Int) => (bin rGe (Res.ok x_1) (Res.ok (0 : Int)))) (fun (x_1 : Int) => (Res.ok x_1))))).bind fun a_8 => Res.ok a_8)
abbrev N_pairs_count : List Str := ["links", "many", "w"]
theorem sc_pairs_count : FnScope N_pairs_count ["links", "many"] (defScope s_pairs_count) := ⟨rfl, rfl, rfl, by decide +kernel, rfl, by decide +kernel, by decide +kernel⟩
theorem bind_pairs_count {K : PySem.W.Frag} {mg : Str → Option Value} {T : Tx K mg} : Binds K T.d_pairs_count ["links", "many"] [] := FunD.bindsN T.F_pairs_count fun _ _ _ _ _ _ us hl => match us, hl with | [_, _], _ => rfl
abbrev sp_pairs_count (K : PySem.W.Frag) : Sp := spP K (tc (pL (pL pI)) (t1 pI)) (fun (p : ((List (List Int)) × Int)) => m_pairs_count p.1 p.2) pI
theorem ok_pairs_count (T : Tx K mg) : FnOk P w K mg base (L2.CX P w) 23 T.f_pairs_count T.d_pairs_count ["links", "many"] (sp_pairs_count K) := by
  refine T.F_pairs_count.ok sc_pairs_count (fun vs H Q E h => ?_) (fun cdv A outer s H vs Q E hr h => ?_)
  · obtain ⟨I, C, a, _, hr, _⟩ := h
    exact Rt.len _ hr
  · obtain ⟨I0, C0, ⟨ar_links, ar_many⟩, hs, ⟨v_links, us0, rfl, r_links, v_many, rfl, r_many⟩, hm⟩ := h
    have hm : Post (m_pairs_count ar_links ar_many) (PQ pI I0 C0 Q) (PX E K I0 C0) := hm
    replace r_links : Rp.r (pL (pL pI)) ar_links v_links I0 Z := Im.im r_links
    replace r_many : Rp.r pI ar_many v_many I0 Z := Im.im r_many
    unfold m_pairs_count at hm
    refine ⟨_, (pss_cons (ps_ret (pe_callB (r := rLen1 K) call_len_seq (by rfl) T.gb_len bt_len (pa_cons (pe_lc (own := [("w", 2)]) rfl sc_pairs_count.nd (show PI _ _ _ (iList K _) from pi_list (pe_call (ok_takers_of T) (hr.mono (by decide)) rfl T.g_takers_of T.F_takers_of.kp bind_takers_of .nil passE (pa_cons (pv 0) (pa_cons (pv 1) pa_nil)))) (blkOk_by (own := [("w", 2)]) (N := N_pairs_count) (sc := defScope s_pairs_count) (by decide +kernel)) (fun _ _ _ _ _ => (pg_name (i := 2) sc_pairs_count.nd rfl (Or.inl rfl))) (fun _ _ _ _ _ => (pts_one (pt_cmpR op_ge (pv 2) pe_int (nomark _)))) (fun _ _ _ _ _ => (pv 2))) pa_nil))) pss_nil), ?_⟩
    refine q_ret (tz := tNext) (E := E) (K := K) (σ := [some v_links, some v_many, none]) (x_cb o_len (a_one (x_v (x_lcg (i_list (x_own (n_call (a_cons (x_var (i := 0) rfl (Rp.mono _ (Ex.refl _) exz r_links)) (a_one (x_var (i := 1) rfl (Rp.mono _ (Ex.refl _) exz r_many))))))) g1 (fun _ _ _ _ ⟨_, h, _⟩ => by rw [h]; rfl) (fun x_1 σ2 I_2 C_3 e_4 c_5 ⟨v_6, h, r_7⟩ => by subst h; exact (t_test (x_op o_ge (x_var (i := 2) rfl (Rp.mono _ (Ex.refl _) exz r_7)) (x_int (i := 0))))) (fun x_1 σ2 I_2 C_3 e_4 c_5 ⟨v_6, h, r_7⟩ => by subst h; exact (x_var (i := 2) rfl (Rp.mono _ (Ex.refl _) exz r_7))) (fun _ _ _ _ _ e ⟨v_6, h, r_7⟩ => ⟨v_6, h, Rp.mono _ e exz r_7⟩))))) hs (fun _ _ h => PX.mono (Ex.refl _) (Ex.refl _) h) hm fun a_8 v_9 I_10 H_11 e_12 s_13 r_14 hm => ?_
    exact hm v_9 I_10 H_11 e_12 (St.less s_13 (Ex.refl _)) (Im.im r_14)
def m_pairing (ar_warnings : (List (Int × Int × Int))) (ar_events : (List (Int × Int))) (ar_lead : Int) (ar_slack : Int) : Res (List (Int × Int)) :=
  ((un (fun (p : ((List (Int × Int × Int)) × (List (Int × Int)) × Int × Int)) => m_checked_links p.1 p.2.1 p.2.2.1 p.2.2.2) (pair (Res.ok ar_warnings) (pair (Res.ok ar_events) (pair (Res.ok ar_lead) (Res.ok ar_slack))))).bind fun (links_1 : (List (List Int))) => ((un (fun (p : ((List (List Int)) × Int)) => m_takers_of p.1 p.2) (pair (Res.ok links_1) (un rLen (Res.ok ar_events)))).bind fun (takers_8 : (List Int)) => ((un sortP ((un enumR (Res.ok takers_8)).bind (filR (fun (x_15 : (Int × Int)) => (bin rGe (Res.ok x_15.2) (Res.ok (0 : Int)))) (fun (x_15 : (Int × Int)) => (pair (Res.ok x_15.2) (Res.ok x_15.1)))))).bind fun a_24 => Res.ok a_24)))
abbrev N_pairing : List Str := ["warnings", "events", "lead", "slack", "links", "takers", "e", "w"]
theorem sc_pairing : FnScope N_pairing ["warnings", "events", "lead", "slack"] (defScope s_pairing) := ⟨rfl, rfl, rfl, by decide +kernel, rfl, by decide +kernel, by decide +kernel⟩
theorem bind_pairing {K : PySem.W.Frag} {mg : Str → Option Value} {T : Tx K mg} : Binds K T.d_pairing ["warnings", "events", "lead", "slack"] [] := FunD.bindsN T.F_pairing fun _ _ _ _ _ _ us hl => match us, hl with | [_, _, _, _], _ => rfl
abbrev sp_pairing (K : PySem.W.Frag) : Sp := spO K (tc (pV (pT (tc pI (tc pI (t1 pI))))) (tc (pV (pT (tc pI (t1 pI)))) (tc pI (t1 pI)))) (fun (p : ((List (Int × Int × Int)) × (List (Int × Int)) × Int × Int)) => m_pairing p.1 p.2.1 p.2.2.1 p.2.2.2) (pT (tc pI (t1 pI)))
theorem ok_pairing (T : Tx K mg) : FnOk P w K mg base (L2.CX P w) 23 T.f_pairing T.d_pairing ["warnings", "events", "lead", "slack"] (sp_pairing K) := by
  refine T.F_pairing.ok sc_pairing (fun vs H Q E h => ?_) (fun cdv A outer s H vs Q E hr h => ?_)
  · obtain ⟨I, C, a, _, hr, _⟩ := h
    exact Rt.len _ hr
  · obtain ⟨I0, C0, ⟨ar_warnings, ar_events, ar_lead, ar_slack⟩, hs, ⟨v_warnings, us0, rfl, r_warnings, v_events, us1, rfl, r_events, v_lead, us2, rfl, r_lead, v_slack, rfl, r_slack⟩, hm⟩ := h
    have hm : Post (m_pairing ar_warnings ar_events ar_lead ar_slack) (PN (pT (tc pI (t1 pI))) I0 C0 Q) (PX E K I0 C0) := hm
    replace r_lead : Rp.r pI ar_lead v_lead I0 Z := Im.im r_lead
    replace r_slack : Rp.r pI ar_slack v_slack I0 Z := Im.im r_slack
    unfold m_pairing at hm
    refine ⟨_, (pss_cons (ps_set (i := 4) sc_pairing.nd rfl (Or.inl rfl) (pe_call (ok_checked_links T) (hr.mono (by decide)) rfl T.g_checked_links T.F_checked_links.kp bind_checked_links .nil passE (pa_cons (pv 0) (pa_cons (pv 1) (pa_cons (pv 2) (pa_cons (pv 3) pa_nil)))))) (pss_cons (ps_set (i := 5) sc_pairing.nd rfl (Or.inl rfl) (pe_call (ok_takers_of T) (hr.mono (by decide)) rfl T.g_takers_of T.F_takers_of.kp bind_takers_of .nil passE (pa_cons (pv 4) (pa_cons (pe_callB (r := rLen1 K) call_len_seq (by rfl) T.gb_len bt_len (pa_cons (pv 1) pa_nil)) pa_nil)))) (pss_cons (ps_ret (pe_callB (r := rSortedPO K) cr_sortedPO (by rfl) T.gb_sorted bt_sorted (pa_cons (pe_lc (own := [("e", 6), ("w", 7)]) rfl sc_pairing.nd (show PI _ _ _ (iEnum K _) from pi_enum (by rfl) T.gb_enumerate (pa_cons (pv 5) pa_nil)) (blkOk_by (own := [("e", 6), ("w", 7)]) (N := N_pairing) (sc := defScope s_pairing) (by decide +kernel)) (fun _ _ _ _ _ => (show PG _ _ (gTup K 2 _) from pg_tup rfl (pgs_cons (pg_name (i := 6) sc_pairing.nd rfl (Or.inl rfl)) (pgs_cons (pg_name (i := 7) sc_pairing.nd rfl (Or.inl rfl)) pgs_nil)))) (fun _ _ _ _ _ => (pts_one (pt_cmpR op_ge (pv 7) pe_int (nomark _)))) (fun _ _ _ _ _ => (pe_tup (pa_cons (pv 7) (pa_cons (pv 6) pa_nil))))) pa_nil))) pss_nil))), ?_⟩
    refine q_asg (E := E) (K := K) (σ := [some v_warnings, some v_events, some v_lead, some v_slack, none, none, none, none]) (i := 4) (x_own (n_call (a_cons (x_var (i := 0) rfl (Rp.mono _ (Ex.refl _) (Ex.refl _) r_warnings)) (a_cons (x_var (i := 1) rfl (Rp.mono _ (Ex.refl _) (Ex.refl _) r_events)) (a_cons (x_var (i := 2) rfl (Rp.mono _ (Ex.refl _) exz r_lead)) (a_one (x_var (i := 3) rfl (Rp.mono _ (Ex.refl _) exz r_slack)))))))) hs (fun _ _ h => PX.mono (Ex.refl _) (Ex.refl _) h) hm fun links_1 v_2 I_3 H_4 e_5 s_6 r_7 hm => ?_
    refine q_asg (E := E) (K := K) (σ := [some v_warnings, some v_events, some v_lead, some v_slack, some v_2, none, none, none]) (i := 5) (x_own (n_call (a_cons (x_var (i := 4) rfl (Rp.mono _ (Ex.refl _) exz r_7)) (a_one (x_cb o_len (a_one (x_var (i := 1) rfl (Rp.mono _ e_5 (Ex.refl _) r_events)))))))) s_6 (fun _ _ h => PX.mono e_5 (Ex.refl _) h) hm fun takers_8 v_9 I_10 H_11 e_12 s_13 r_14 hm => ?_
    refine q_retN (E := E) (K := K) (σ := [some v_warnings, some v_events, some v_lead, some v_slack, some v_2, some v_9, none, none]) (n_cb n_sortP (a_one (x_v (x_lcg (i_enum (a_one (x_var (i := 5) rfl (Rp.mono _ (Ex.refl _) exz r_14)))) g2 (fun _ _ _ _ ⟨_, _, h, _, _⟩ => by rw [h]; rfl) (fun x_15 σ2 I_16 C_17 e_18 c_19 ⟨v_20, v_21, h, r_22, r_23⟩ => by subst h; exact (t_test (x_op o_ge (x_var (i := 7) rfl (Rp.mono _ (Ex.refl _) exz r_23)) (x_int (i := 0))))) (fun x_15 σ2 I_16 C_17 e_18 c_19 ⟨v_20, v_21, h, r_22, r_23⟩ => by subst h; exact (x_tup (a_cons (x_var (i := 7) rfl (Rp.mono _ (Ex.refl _) exz r_23)) (a_one (x_var (i := 6) rfl (Rp.mono _ (Ex.refl _) exz r_22)))) (Nat.le_of_ble_eq_true rfl))) (fun _ _ _ _ _ e ⟨v_20, v_21, h, r_22, r_23⟩ => ⟨v_20, v_21, h, Rp.mono _ e exz r_22, Rp.mono _ e exz r_23⟩))))) s_13 (fun _ _ h => PX.mono (e_5.trans e_12) (Ex.refl _) h) hm fun a_24 p_25 vs_26 I_27 H_28 e_29 hp_30 s_31 hl_32 hr_33 hm => ?_
    exact ret_own hm (e_5.trans (e_12.trans e_29)) (Ex.refl _) hp_30 s_31 hl_32 hr_33
def m_cover (ar_warnings : (List (Int × Int × Int))) (ar_events : (List (Int × Int))) (ar_lead : Int) (ar_slack : Int) : Res ((List Int) × (List Int)) :=
  ((un (fun (p : ((List (Int × Int × Int)) × (List (Int × Int)) × Int × Int)) => m_checked_links p.1 p.2.1 p.2.2.1 p.2.2.2) (pair (Res.ok ar_warnings) (pair (Res.ok ar_events) (pair (Res.ok ar_lead) (Res.ok ar_slack))))).bind fun (links_1 : (List (List Int))) => ((un (fun (p : ((List (List Int)) × Int)) => m_takers_of p.1 p.2) (pair (Res.ok links_1) (un rLen (Res.ok ar_events)))).bind fun (takers_8 : (List Int)) => (((un rng1 (un rLen (Res.ok links_1))).bind (filR (fun (x_15 : Int) => (bin ninR (Res.ok x_15) (Res.ok takers_8))) (fun (x_15 : Int) => (Res.ok x_15)))).bind fun (loose_22 : (List Int)) => ((Res.ok ([] : List Int)).bind fun (reached_37 : (List Int)) => ((Res.ok (0 : Int)).bind fun (place_54 : Int) => ((whileF (fun (z_61 : ((List Int) × (List Int) × Int)) => (bin rLt (Res.ok z_61.2.2) (un rLen (Res.ok z_61.1)))) (fun (z_61 : ((List Int) × (List Int) × Int)) => ((bin ix (Res.ok z_61.1) (Res.ok z_61.2.2)).bind fun (w_83 : Int) => (((bin ix (Res.ok links_1) (Res.ok w_83)).bind fun xs => loopN (fun (x_104 : Int) (z_90 : ((List Int) × (List Int))) => (ifR (bin ninR (Res.ok x_104) (Res.ok z_90.2)) (((Res.ok x_104).bind fun x => push z_90.2 x).bind fun (reached_124 : (List Int)) => (((bin ix (Res.ok takers_8) (Res.ok x_104)).bind fun x => push z_90.1 x).bind fun (loose_137 : (List Int)) => (Res.ok (loose_137, reached_124)))) (Res.ok (z_90.1, z_90.2)))) xs (z_61.1, z_61.2.1)).bind fun (z_155 : ((List Int) × (List Int))) => (((Res.ok (1 : Int)).bind fun b => Res.ok ((fun i j => i + j) z_61.2.2 b)).bind fun (place_169 : Int) => (Res.ok (Out.nx (z_155.1, z_155.2, place_169))))))) fuel (loose_22, reached_37, place_54)).bind fun (o : Out ((List Int) × (List Int) × Int) ((List Int) × (List Int))) => match o with | .nx z_181 => ((pair ((un rng1 (un rLen (Res.ok links_1))).bind (filR (fun (x_217 : Int) => (bin ninR (Res.ok x_217) (Res.ok z_181.1))) (fun (x_217 : Int) => (Res.ok x_217)))) (un sortI (Res.ok z_181.2.1))).bind fun a_224 => Res.ok a_224) | .br _ => Res.bad | .rt r => Res.ok r))))))
abbrev N_cover : List Str := ["warnings", "events", "lead", "slack", "links", "takers", "loose", "reached", "place", "w", "e"]
theorem sc_cover : FnScope N_cover ["warnings", "events", "lead", "slack"] (defScope s_cover) := ⟨rfl, rfl, rfl, by decide +kernel, rfl, by decide +kernel, by decide +kernel⟩
theorem bind_cover {K : PySem.W.Frag} {mg : Str → Option Value} {T : Tx K mg} : Binds K T.d_cover ["warnings", "events", "lead", "slack"] [] := FunD.bindsN T.F_cover fun _ _ _ _ _ _ us hl => match us, hl with | [_, _, _, _], _ => rfl
abbrev sp_cover (K : PySem.W.Frag) : Sp := spP K (tc (pV (pT (tc pI (tc pI (t1 pI))))) (tc (pV (pT (tc pI (t1 pI)))) (tc pI (t1 pI)))) (fun (p : ((List (Int × Int × Int)) × (List (Int × Int)) × Int × Int)) => m_cover p.1 p.2.1 p.2.2.1 p.2.2.2) (pT (tc (pL pI) (t1 (pL pI))))
theorem ok_cover (T : Tx K mg) : FnOk P w K mg base (L2.CX P w) 23 T.f_cover T.d_cover ["warnings", "events", "lead", "slack"] (sp_cover K) := by
  refine T.F_cover.ok sc_cover (fun vs H Q E h => ?_) (fun cdv A outer s H vs Q E hr h => ?_)
  · obtain ⟨I, C, a, _, hr, _⟩ := h
    exact Rt.len _ hr
  · obtain ⟨I0, C0, ⟨ar_warnings, ar_events, ar_lead, ar_slack⟩, hs, ⟨v_warnings, us0, rfl, r_warnings, v_events, us1, rfl, r_events, v_lead, us2, rfl, r_lead, v_slack, rfl, r_slack⟩, hm⟩ := h
    have hm : Post (m_cover ar_warnings ar_events ar_lead ar_slack) (PQ (pT (tc (pL pI) (t1 (pL pI)))) I0 C0 Q) (PX E K I0 C0) := hm
    replace r_lead : Rp.r pI ar_lead v_lead I0 Z := Im.im r_lead
    replace r_slack : Rp.r pI ar_slack v_slack I0 Z := Im.im r_slack
    unfold m_cover at hm
    refine ⟨_, (pss_cons (ps_set (i := 4) sc_cover.nd rfl (Or.inl rfl) (pe_call (ok_checked_links T) (hr.mono (by decide)) rfl T.g_checked_links T.F_checked_links.kp bind_checked_links .nil passE (pa_cons (pv 0) (pa_cons (pv 1) (pa_cons (pv 2) (pa_cons (pv 3) pa_nil)))))) (pss_cons (ps_set (i := 5) sc_cover.nd rfl (Or.inr rfl) (pe_call (ok_takers_of T) (hr.mono (by decide)) rfl T.g_takers_of T.F_takers_of.kp bind_takers_of .nil passE (pa_cons (pv 4) (pa_cons (pe_callB (r := rLen1 K) call_len_seq (by rfl) T.gb_len bt_len (pa_cons (pv 1) pa_nil)) pa_nil)))) (pss_cons (ps_set (i := 6) sc_cover.nd rfl (Or.inr rfl) (pe_lc (own := [("w", 9)]) rfl sc_cover.nd (pi_range1 (by rfl) T.gb_range (pa_cons (pe_callB (r := rLen1 K) call_len_seq (by rfl) T.gb_len bt_len (pa_cons (pv 4) pa_nil)) pa_nil)) (blkOk_by (own := [("w", 9)]) (N := N_cover) (sc := defScope s_cover) (by decide +kernel)) (fun _ _ _ _ _ => (pg_name (i := 9) sc_cover.nd rfl (Or.inl rfl))) (fun _ _ _ _ _ => (pts_one (pt_cmpR (r := rIn K true) op_notIn_seq (pv 9) (pv 5) rfl))) (fun _ _ _ _ _ => (pv 9)))) (pss_cons (ps_set (i := 7) sc_cover.nd rfl (Or.inl rfl) (pe_lst pa_nil)) (pss_cons (ps_set (i := 8) sc_cover.nd rfl (Or.inl rfl) pe_int) (pss_cons (ps_while (passes_of rfl) (pt_cmpR op_lt (pv 8) (pe_callB (r := rLen1 K) call_len_seq (by rfl) T.gb_len bt_len (pa_cons (pv 6) pa_nil)) (nomark _)) (pss_cons (ps_set (i := 9) sc_cover.nd rfl (Or.inl rfl) (pe_ix (r := rIxL K) ix_list (pv 6) (pv 8) (fun _ _ => rfl))) (pss_cons (ps_for (passes_of rfl) rfl (show PI _ _ _ (iList K _) from pi_list (pe_ix (r := rIxL K) ix_list (pv 4) (pv 9) (fun _ _ => rfl))) (pg_name (i := 10) sc_cover.nd rfl (Or.inl rfl)) (pss_cons (ps_if (pt_cmpR (r := rIn K true) op_notIn_seq (pv 10) (pv 7) rfl) (pss_cons (ps_expr (show PE _ _ (tBM K "list" rAppend _ _) from pe_bm PySem.F.plainAttrs_list PySem.F.slot_list_append PySem.F.type_list_append mt_append (pv 7) (pa_cons (pv 10) pa_nil))) (pss_cons (ps_expr (show PE _ _ (tBM K "list" rAppend _ _) from pe_bm PySem.F.plainAttrs_list PySem.F.slot_list_append PySem.F.type_list_append mt_append (pv 6) (pa_cons (pe_ix (r := rIxL K) ix_list (pv 5) (pv 10) (fun _ _ => rfl)) pa_nil))) pss_nil)) pss_nil) pss_nil)) (pss_cons (ps_aug (i := 8) sc_cover.nd rfl (Or.inl rfl) pe_int ip_add) pss_nil)))) (pss_cons (ps_ret (pe_tup (pa_cons (pe_lc (own := [("w", 9)]) rfl sc_cover.nd (pi_range1 (by rfl) T.gb_range (pa_cons (pe_callB (r := rLen1 K) call_len_seq (by rfl) T.gb_len bt_len (pa_cons (pv 4) pa_nil)) pa_nil)) (blkOk_by (own := [("w", 9)]) (N := N_cover) (sc := defScope s_cover) (by decide +kernel)) (fun _ _ _ _ _ => (pg_name (i := 9) sc_cover.nd rfl (Or.inl rfl))) (fun _ _ _ _ _ => (pts_one (pt_cmpR (r := rIn K true) op_notIn_seq (pv 9) (pv 6) rfl))) (fun _ _ _ _ _ => (pv 9))) (pa_cons (pe_callB (r := rSortedI K) cr_sortedI (by rfl) T.gb_sorted bt_sorted (pa_cons (pv 7) pa_nil)) pa_nil)))) pss_nil))))))), ?_⟩
    refine q_asg (E := E) (K := K) (σ := [some v_warnings, some v_events, some v_lead, some v_slack, none, none, none, none, none, none, none]) (i := 4) (x_own (n_call (a_cons (x_var (i := 0) rfl (Rp.mono _ (Ex.refl _) (Ex.refl _) r_warnings)) (a_cons (x_var (i := 1) rfl (Rp.mono _ (Ex.refl _) (Ex.refl _) r_events)) (a_cons (x_var (i := 2) rfl (Rp.mono _ (Ex.refl _) exz r_lead)) (a_one (x_var (i := 3) rfl (Rp.mono _ (Ex.refl _) exz r_slack)))))))) hs (fun _ _ h => PX.mono (Ex.refl _) (Ex.refl _) h) hm fun links_1 v_2 I_3 H_4 e_5 s_6 r_7 hm => ?_
    refine q_asg (E := E) (K := K) (σ := [some v_warnings, some v_events, some v_lead, some v_slack, some v_2, none, none, none, none, none, none]) (i := 5) (x_own (n_call (a_cons (x_var (i := 4) rfl (Rp.mono _ (Ex.refl _) exz r_7)) (a_one (x_cb o_len (a_one (x_var (i := 1) rfl (Rp.mono _ e_5 (Ex.refl _) r_events)))))))) s_6 (fun _ _ h => PX.mono e_5 (Ex.refl _) h) hm fun takers_8 v_9 I_10 H_11 e_12 s_13 r_14 hm => ?_
    refine q_asgN (E := E) (K := K) (σ := [some v_warnings, some v_events, some v_lead, some v_slack, some v_2, some v_9, none, none, none, none, none]) (i := 6) (n_lcg (i_rng1 (a_one (x_cb o_len (a_one (x_v (x_var (i := 4) rfl (Rp.mono _ e_12 exz r_7))))))) g1 (fun _ _ _ _ ⟨_, h, _⟩ => by rw [h]; rfl) (fun x_15 σ2 I_16 C_17 e_18 c_19 ⟨v_20, h, r_21⟩ => by subst h; exact (t_test (x_op (o_nin fl_int) (x_var (i := 9) rfl (Rp.mono _ (Ex.refl _) exz r_21)) (x_v (x_var (i := 5) rfl (Rp.mono _ e_18 exz r_14)))))) (fun x_15 σ2 I_16 C_17 e_18 c_19 ⟨v_20, h, r_21⟩ => by subst h; exact (x_var (i := 9) rfl (Rp.mono _ (Ex.refl _) exz r_21))) (fun _ _ _ _ _ e ⟨v_20, h, r_21⟩ => ⟨v_20, h, Rp.mono _ e exz r_21⟩)) s_13 (fun _ _ h => PX.mono (e_5.trans e_12) (Ex.refl _) h) hm fun loose_22 p_23 vs_24 I_25 C_26 H_27 e_28 hp_29 s_30 hc_31 k_32 hl_33 hr_34 hm => ?_
    have hB_35 := Ex.free (Ex.refl _) hp_29
    have fr_36 := fr_keep (Ex.refl _) hB_35 k_32
    refine q_asgN (E := E) (K := K) (σ := [some v_warnings, some v_events, some v_lead, some v_slack, some v_2, some v_9, some (.ref p_23), none, none, none, none]) (i := 7) (n_lst (R := pI) al_nil (by decide)) s_30 (fun _ _ h => PX.mono (e_5.trans (e_12.trans e_28)) fr_36 h) hm fun reached_37 p_38 vs_39 I_40 C_41 H_42 e_43 hp_44 s_45 hc_46 k_47 hl_48 hr_49 hm => ?_
    have ne_50 := ne_new hc_31 hp_44
    have hB_51 := Ex.free fr_36 hp_44
    have hc_52 := (k_47 _ ne_50).trans hc_31
    have fr_53 := fr_keep fr_36 hB_51 k_47
    refine q_asg (E := E) (K := K) (σ := [some v_warnings, some v_events, some v_lead, some v_slack, some v_2, some v_9, some (.ref p_23), some (.ref p_38), none, none, none]) (i := 8) (x_int (i := 0)) s_45 (fun _ _ h => PX.mono (e_5.trans (e_12.trans (e_28.trans e_43))) fr_53 h) hm fun place_54 v_55 I_56 H_57 e_58 s_59 r_60 hm => ?_
    refine s_while (E := E) (K := K) (σ := [some v_warnings, some v_events, some v_lead, some v_slack, some v_2, some v_9, some (.ref p_23), some (.ref p_38), some v_55, none, none]) (fun (z_61 : ((List Int) × (List Int) × Int)) σ2 I_65 C_66 => ∃ w_63 : Option V, ∃ w_64 : Option V, ∃ v_75 : V, σ2 = [some v_warnings, some v_events, some v_lead, some v_slack, some v_2, some v_9, some (.ref p_23), some (.ref p_38), some v_75, w_63, w_64] ∧ (∃ vs_67 : List V, C_66 p_23 = some (.lst vs_67) ∧ vs_67.length ≤ sizeLine ∧ A2 (fun x u => Rp.r pI x u I_65 Z) z_61.1 vs_67) ∧ (∃ vs_71 : List V, C_66 p_38 = some (.lst vs_71) ∧ vs_71.length ≤ sizeLine ∧ A2 (fun x u => Rp.r pI x u I_65 Z) z_61.2.1 vs_71) ∧ Rp.r pI z_61.2.2 v_75 I_65 Z ∧ Ex C0 C_66) s_59 hm ⟨none, none, v_55, rfl, ⟨_, hc_52, hl_33, a2up (e_43.trans e_58) hr_34⟩, ⟨_, hc_46, hl_48, a2up e_58 hr_49⟩, Rp.mono _ (Ex.refl _) exz r_60, fr_53⟩ (fun z_61 σ2 I_78 C_79 e_81 ⟨w_63, w_64, v_75, hs_62, ⟨vs_67, hc_68, hl_69, hr_70⟩, ⟨vs_71, hc_72, hl_73, hr_74⟩, r_76, fr_77⟩ => by subst hs_62; exact ⟨(t_test (x_op o_lt (x_var (i := 8) rfl (Rp.mono _ (Ex.refl _) exz r_76)) (x_cb o_len (a_one (x_cell (i := 6) rfl hc_68 hl_69 (a2up (Ex.refl _) hr_70)))))), (fun _ _ h => PX.mono (e_5.trans (e_12.trans (e_28.trans (e_43.trans (e_58.trans e_81))))) fr_77 h)⟩) (fun _ _ _ _ _ e ⟨w_63, w_64, v_75, hs_62, ⟨vs_67, hc_68, hl_69, hr_70⟩, ⟨vs_71, hc_72, hl_73, hr_74⟩, r_76, fr_77⟩ => ⟨w_63, w_64, v_75, hs_62, ⟨vs_67, hc_68, hl_69, a2up e hr_70⟩, ⟨vs_71, hc_72, hl_73, a2up e hr_74⟩, Rp.mono _ e exz r_76, fr_77⟩) (fun N z_61 σ2 I_78 C_79 H_80 e_81 s_82 ⟨w_63, w_64, v_75, hs_62, ⟨vs_67, hc_68, hl_69, hr_70⟩, ⟨vs_71, hc_72, hl_73, hr_74⟩, r_76, fr_77⟩ hm => ?_) (fun z_181 σ2 I_176 C_177 H_178 e_179 s_180 ⟨w_183, w_184, v_195, hs_182, ⟨vs_187, hc_188, hl_189, hr_190⟩, ⟨vs_191, hc_192, hl_193, hr_194⟩, r_196, fr_197⟩ hm => ?_)
    · subst hs_62
      refine q_asg (E := E) (K := K) (σ := [some v_warnings, some v_events, some v_lead, some v_slack, some v_2, some v_9, some (.ref p_23), some (.ref p_38), some v_75, w_63, w_64]) (i := 9) (x_op o_ix (x_cell (i := 6) rfl hc_68 hl_69 (a2up (Ex.refl _) hr_70)) (x_var (i := 8) rfl (Rp.mono _ (Ex.refl _) exz r_76))) s_82 (fun _ _ h => PX.mono (e_5.trans (e_12.trans (e_28.trans (e_43.trans (e_58.trans e_81))))) fr_77 h) hm fun w_83 v_84 I_85 H_86 e_87 s_88 r_89 hm => ?_
      refine s_forN (E := E) (K := K) (σ := [some v_warnings, some v_events, some v_lead, some v_slack, some v_2, some v_9, some (.ref p_23), some (.ref p_38), some v_75, some v_84, w_64]) (fun (z_90 : ((List Int) × (List Int))) σ2 I_93 C_94 => ∃ w_92 : Option V, σ2 = [some v_warnings, some v_events, some v_lead, some v_slack, some v_2, some v_9, some (.ref p_23), some (.ref p_38), some v_75, some v_84, w_92] ∧ (∃ vs_95 : List V, C_94 p_23 = some (.lst vs_95) ∧ vs_95.length ≤ sizeLine ∧ A2 (fun x u => Rp.r pI x u I_93 Z) z_90.1 vs_95) ∧ (∃ vs_99 : List V, C_94 p_38 = some (.lst vs_99) ∧ vs_99.length ≤ sizeLine ∧ A2 (fun x u => Rp.r pI x u I_93 Z) z_90.2 vs_99) ∧ Ex C0 C_94) (i_list (x_op o_ix (x_v (x_var (i := 4) rfl (Rp.mono _ (e_12.trans (e_28.trans (e_43.trans (e_58.trans (e_81.trans e_87))))) exz r_7))) (x_var (i := 9) rfl (Rp.mono _ (Ex.refl _) exz r_89)))) s_88 (fun _ _ h => PX.mono (e_5.trans (e_12.trans (e_28.trans (e_43.trans (e_58.trans (e_81.trans e_87)))))) fr_77 h) hm (fun _ e_112 => ⟨w_64, rfl, ⟨_, hc_68, hl_69, a2up (Ex.trans e_87 e_112) hr_70⟩, ⟨_, hc_72, hl_73, a2up (Ex.trans e_87 e_112) hr_74⟩, fr_77⟩) (fun _ _ _ _ _ => trivial) (fun _ _ _ _ _ e ⟨w_92, hs_91, ⟨vs_95, hc_96, hl_97, hr_98⟩, ⟨vs_99, hc_100, hl_101, hr_102⟩, fr_103⟩ => ⟨w_92, hs_91, ⟨vs_95, hc_96, hl_97, a2up e hr_98⟩, ⟨vs_99, hc_100, hl_101, a2up e hr_102⟩, fr_103⟩) (fun N x_104 v_105 z_90 σ2 I_106 C_107 H_108 e_109 s_110 ⟨w_92, hs_91, ⟨vs_95, hc_96, hl_97, hr_98⟩, ⟨vs_99, hc_100, hl_101, hr_102⟩, fr_103⟩ r_111 hm => ?_) (fun z_155 σ2 I_150 C_151 H_152 e_153 s_154 ⟨w_157, hs_156, ⟨vs_160, hc_161, hl_162, hr_163⟩, ⟨vs_164, hc_165, hl_166, hr_167⟩, fr_168⟩ hm => ?_)
      · subst hs_91
        refine g1 (K := K) x_104 v_105 I_106 C_107 H_108 _ s_110 r_111 fun σ2 ⟨v_113, hs_115, r_114⟩ => ?_
        subst hs_115
        refine s_if (E := E) (K := K) (σ := [some v_warnings, some v_events, some v_lead, some v_slack, some v_2, some v_9, some (.ref p_23), some (.ref p_38), some v_75, some v_84, some v_113]) (t_test (x_op (o_nin fl_int) (x_var (i := 10) rfl (Rp.mono _ (Ex.refl _) exz r_114)) (x_cell (i := 7) rfl hc_100 hl_101 (a2up (Ex.refl _) hr_102)))) s_110 (fun _ _ h => PX.mono (e_5.trans (e_12.trans (e_28.trans (e_43.trans (e_58.trans (e_81.trans (e_87.trans e_109))))))) fr_103 h) hm (fun I_116 H_117 e_118 s_119 hm => ?_) (fun I_120 H_121 e_122 s_123 hm => ?_)
        · refine q_app (E := E) (K := K) (σ := [some v_warnings, some v_events, some v_lead, some v_slack, some v_2, some v_9, some (.ref p_23), some (.ref p_38), some v_75, some v_84, some v_113]) (i := 7) rfl hc_100 (a2up e_118 hr_102) (x_var (i := 10) rfl (Rp.mono _ e_118 exz r_114)) s_119 (fun _ _ h => PX.mono (e_5.trans (e_12.trans (e_28.trans (e_43.trans (e_58.trans (e_81.trans (e_87.trans (e_109.trans e_118)))))))) fr_103 h) hm fun reached_124 vs_125 I_126 C_127 H_128 e_129 s_130 hc_131 k_132 hl_133 hr_134 hm => ?_
          have hc_135 := (k_132 _ ne_50).trans hc_96
          have fr_136 := fr_keep fr_103 hB_51 k_132
          refine q_app (E := E) (K := K) (σ := [some v_warnings, some v_events, some v_lead, some v_slack, some v_2, some v_9, some (.ref p_23), some (.ref p_38), some v_75, some v_84, some v_113]) (i := 6) rfl hc_135 (a2up (e_118.trans e_129) hr_98) (x_op o_ix (x_v (x_var (i := 5) rfl (Rp.mono _ (e_28.trans (e_43.trans (e_58.trans (e_81.trans (e_87.trans (e_109.trans (e_118.trans e_129))))))) exz r_14))) (x_var (i := 10) rfl (Rp.mono _ (e_118.trans e_129) exz r_114))) s_130 (fun _ _ h => PX.mono (e_5.trans (e_12.trans (e_28.trans (e_43.trans (e_58.trans (e_81.trans (e_87.trans (e_109.trans (e_118.trans e_129))))))))) fr_136 h) hm fun loose_137 vs_138 I_139 C_140 H_141 e_142 s_143 hc_144 k_145 hl_146 hr_147 hm => ?_
          have hc_148 := (k_145 _ (Ne.symm ne_50)).trans hc_131
          have fr_149 := fr_keep fr_136 hB_35 k_145
          exact hm _ _ _ _ (e_118.trans (e_129.trans e_142)) s_143 ⟨some v_113, rfl, ⟨_, hc_144, hl_146, a2up (Ex.refl _) hr_147⟩, ⟨_, hc_148, hl_133, a2up e_142 hr_134⟩, fr_149⟩
        · exact hm _ _ _ _ e_122 s_123 ⟨some v_113, rfl, ⟨_, hc_96, hl_97, a2up e_122 hr_98⟩, ⟨_, hc_100, hl_101, a2up e_122 hr_102⟩, fr_103⟩
      subst hs_156
      refine q_aug (E := E) (K := K) (σ := [some v_warnings, some v_events, some v_lead, some v_slack, some v_2, some v_9, some (.ref p_23), some (.ref p_38), some v_75, some v_84, w_157]) (i := 8) rfl (Rp.mono _ (e_87.trans e_153) exz r_76) (x_int (i := 1)) s_154 (fun _ _ h => PX.mono (e_5.trans (e_12.trans (e_28.trans (e_43.trans (e_58.trans (e_81.trans (e_87.trans e_153))))))) fr_168 h) hm fun place_169 v_170 I_171 H_172 e_173 s_174 r_175 hm => ?_
      exact hm _ _ _ _ (e_87.trans (e_153.trans e_173)) s_174 ⟨some v_84, w_157, v_170, rfl, ⟨_, hc_161, hl_162, a2up e_173 hr_163⟩, ⟨_, hc_165, hl_166, a2up e_173 hr_167⟩, Rp.mono _ (Ex.refl _) exz r_175, fr_168⟩
    subst hs_182
    obtain ⟨I_198, C_199, e_200, s_201, h_202, k_203⟩ := freeze s_180 hc_188
    have r_205 := frz_list e_200 h_202 hl_189 hr_190
    have hc_206 := (k_203 _ (Ne.symm ne_50)).trans hc_192
    have fr_207 := fr_keep fr_197 hB_35 k_203
    obtain ⟨I_208, C_209, e_210, s_211, h_212, k_213⟩ := freeze s_201 hc_206
    have r_215 := frz_list (e_200.trans e_210) h_212 hl_193 hr_194
    have fr_216 := fr_keep fr_207 hB_51 k_213
    refine q_ret (tz := tNext) (E := E) (K := K) (σ := [some v_warnings, some v_events, some v_lead, some v_slack, some v_2, some v_9, some (.ref p_23), some (.ref p_38), some v_195, w_183, w_184]) (x_tup (a_cons (x_lcg (i_rng1 (a_one (x_cb o_len (a_one (x_v (x_var (i := 4) rfl (Rp.mono _ (e_12.trans (e_28.trans (e_43.trans (e_58.trans (e_179.trans (e_200.trans e_210)))))) exz r_7))))))) g1 (fun _ _ _ _ ⟨_, h, _⟩ => by rw [h]; rfl) (fun x_217 σ2 I_218 C_219 e_220 c_221 ⟨v_222, h, r_223⟩ => by subst h; exact (t_test (x_op (o_nin fl_int) (x_var (i := 9) rfl (Rp.mono _ (Ex.refl _) exz r_223)) (x_v (x_var (i := 6) rfl (Rp.mono _ (e_210.trans e_220) exz r_205)))))) (fun x_217 σ2 I_218 C_219 e_220 c_221 ⟨v_222, h, r_223⟩ => by subst h; exact (x_var (i := 9) rfl (Rp.mono _ (Ex.refl _) exz r_223))) (fun _ _ _ _ _ e ⟨v_222, h, r_223⟩ => ⟨v_222, h, Rp.mono _ e exz r_223⟩)) (a_one (x_own (n_cb n_sortI (a_one (x_v (x_var (i := 7) rfl (Rp.mono _ (Ex.refl _) exz r_215)))))))) (Nat.le_of_ble_eq_true rfl)) s_211 (fun _ _ h => PX.mono (e_5.trans (e_12.trans (e_28.trans (e_43.trans (e_58.trans (e_179.trans (e_200.trans e_210))))))) fr_216 h) hm fun a_224 v_225 I_226 H_227 e_228 s_229 r_230 hm => ?_
    exact hm v_225 I_226 H_227 (e_5.trans (e_12.trans (e_28.trans (e_43.trans (e_58.trans (e_179.trans (e_200.trans (e_210.trans e_228)))))))) (St.less s_229 fr_216) (Im.im r_230)
def m_are_indexes (ar_indexes : (List Int)) (ar_many : Int) : Res Bool :=
  ((un rNeg (Res.ok (1 : Int))).bind fun (ahead_1 : Int) => (((Res.ok ar_indexes).bind fun xs => loopR (fun (x_16 : Int) (z_8 : Int) => (ifR (orR (bin rLe (Res.ok x_16) (Res.ok z_8)) (bin rGe (Res.ok x_16) (Res.ok ar_many))) ((Res.ok false).bind fun a_36 => Res.ok (Out.rt a_36)) ((Res.ok x_16).bind fun (ahead_43 : Int) => (Res.ok (Out.nx ahead_43))))) xs ahead_1).bind fun (o : Out Int Bool) => match o with | .nx z_55 => ((Res.ok true).bind fun a_63 => Res.ok a_63) | .br _ => Res.bad | .rt r => Res.ok r))
abbrev N_are_indexes : List Str := ["indexes", "many", "ahead", "index"]
theorem sc_are_indexes : FnScope N_are_indexes ["indexes", "many"] (defScope s_are_indexes) := ⟨rfl, rfl, rfl, by decide +kernel, rfl, by decide +kernel, by decide +kernel⟩
theorem bind_are_indexes {K : PySem.W.Frag} {mg : Str → Option Value} {T : Tx K mg} : Binds K T.d_are_indexes ["indexes", "many"] [] := FunD.bindsN T.F_are_indexes fun _ _ _ _ _ _ us hl => match us, hl with | [_, _], _ => rfl
abbrev sp_are_indexes (K : PySem.W.Frag) : Sp := spP K (tc (pL pI) (t1 pI)) (fun (p : ((List Int) × Int)) => m_are_indexes p.1 p.2) pB
theorem ok_are_indexes (T : Tx K mg) : FnOk P w K mg base (L2.CX P w) 1 T.f_are_indexes T.d_are_indexes ["indexes", "many"] (sp_are_indexes K) := by
  refine T.F_are_indexes.ok sc_are_indexes (fun vs H Q E h => ?_) (fun cdv A outer s H vs Q E hr h => ?_)
  · obtain ⟨I, C, a, _, hr, _⟩ := h
    exact Rt.len _ hr
  · obtain ⟨I0, C0, ⟨ar_indexes, ar_many⟩, hs, ⟨v_indexes, us0, rfl, r_indexes, v_many, rfl, r_many⟩, hm⟩ := h
    have hm : Post (m_are_indexes ar_indexes ar_many) (PQ pB I0 C0 Q) (PX E K I0 C0) := hm
    replace r_indexes : Rp.r (pL pI) ar_indexes v_indexes I0 Z := Im.im r_indexes
    replace r_many : Rp.r pI ar_many v_many I0 Z := Im.im r_many
    unfold m_are_indexes at hm
    refine ⟨_, (pss_cons (ps_set (i := 2) sc_are_indexes.nd rfl (Or.inl rfl) (pe_un un_neg pe_int)) (pss_cons (ps_for (passes_of rfl) rfl (show PI _ _ _ (iList K _) from pi_list (pv 0)) (pg_name (i := 3) sc_are_indexes.nd rfl (Or.inl rfl)) (pss_cons (ps_if (PW.pt (pw_or (pt_cmpR op_le (pv 3) (pv 2) (nomark _)) (pw_or1 (pt_cmpR op_ge (pv 3) (pv 1) (nomark _))))) (pss_cons (ps_ret pe_bl) pss_nil) pss_nil) (pss_cons (ps_set (i := 2) sc_are_indexes.nd rfl (Or.inl rfl) (pv 3)) pss_nil))) (pss_cons (ps_ret pe_bl) pss_nil))), ?_⟩
    refine q_asg (E := E) (K := K) (σ := [some v_indexes, some v_many, none, none]) (i := 2) (x_un o_neg (x_int (i := 1))) hs (fun _ _ h => PX.mono (Ex.refl _) (Ex.refl _) h) hm fun ahead_1 v_2 I_3 H_4 e_5 s_6 r_7 hm => ?_
    refine s_forR (E := E) (K := K) (σ := [some v_indexes, some v_many, some v_2, none]) (fun (z_8 : Int) σ2 I_11 C_12 => ∃ w_10 : Option V, ∃ v_13 : V, σ2 = [some v_indexes, some v_many, some v_13, w_10] ∧ Rp.r pI z_8 v_13 I_11 Z ∧ Ex C0 C_12) (i_list (x_var (i := 0) rfl (Rp.mono _ e_5 exz r_indexes))) s_6 (fun _ _ h => PX.mono e_5 (Ex.refl _) h) hm (fun _ e_24 => ⟨none, v_2, rfl, Rp.mono _ (Ex.trans (Ex.refl _) e_24) exz r_7, (Ex.refl _)⟩) (fun _ _ _ _ _ => trivial) (fun _ _ _ _ _ e ⟨w_10, v_13, hs_9, r_14, fr_15⟩ => ⟨w_10, v_13, hs_9, Rp.mono _ e exz r_14, fr_15⟩) (fun N x_16 v_17 z_8 σ2 I_18 C_19 H_20 e_21 s_22 ⟨w_10, v_13, hs_9, r_14, fr_15⟩ r_23 hm => ?_) (fun z_55 σ2 I_50 C_51 H_52 e_53 s_54 ⟨w_57, v_60, hs_56, r_61, fr_62⟩ hm => ?_)
    · subst hs_9
      refine g1 (K := K) x_16 v_17 I_18 C_19 H_20 _ s_22 r_23 fun σ2 ⟨v_25, hs_27, r_26⟩ => ?_
      subst hs_27
      refine s_if (E := E) (K := K) (σ := [some v_indexes, some v_many, some v_13, some v_25]) (t_or (t_test (x_op o_le (x_var (i := 3) rfl (Rp.mono _ (Ex.refl _) exz r_26)) (x_var (i := 2) rfl (Rp.mono _ (Ex.refl _) exz r_14)))) (t_test (x_op o_ge (x_var (i := 3) rfl (Rp.mono _ (Ex.refl _) exz r_26)) (x_var (i := 1) rfl (Rp.mono _ (e_5.trans e_21) exz r_many))))) s_22 (fun _ _ h => PX.mono (e_5.trans e_21) fr_15 h) hm (fun I_28 H_29 e_30 s_31 hm => ?_) (fun I_32 H_33 e_34 s_35 hm => ?_)
      · refine q_ret (tz := tNext) (E := E) (K := K) (σ := [some v_indexes, some v_many, some v_13, some v_25]) x_bl s_31 (fun _ _ h => PX.mono (e_5.trans (e_21.trans e_30)) fr_15 h) hm fun a_36 v_37 I_38 H_39 e_40 s_41 r_42 hm => ?_
        exact hm v_37 I_38 H_39 (e_5.trans (e_21.trans (e_30.trans e_40))) (St.less s_41 fr_15) (Im.im r_42)
      · refine q_asg (E := E) (K := K) (σ := [some v_indexes, some v_many, some v_13, some v_25]) (i := 2) (x_var (i := 3) rfl (Rp.mono _ e_34 exz r_26)) s_35 (fun _ _ h => PX.mono (e_5.trans (e_21.trans e_34)) fr_15 h) hm fun ahead_43 v_44 I_45 H_46 e_47 s_48 r_49 hm => ?_
        exact hm _ _ _ _ (e_34.trans e_47) s_48 ⟨some v_25, v_44, rfl, Rp.mono _ (Ex.refl _) exz r_49, fr_15⟩
    subst hs_56
    refine q_ret (tz := tNext) (E := E) (K := K) (σ := [some v_indexes, some v_many, some v_60, w_57]) x_bl s_54 (fun _ _ h => PX.mono (e_5.trans e_53) fr_62 h) hm fun a_63 v_64 I_65 H_66 e_67 s_68 r_69 hm => ?_
    exact hm v_64 I_65 H_66 (e_5.trans (e_53.trans e_67)) (St.less s_68 fr_62) (Im.im r_69)
def m_is_pairing (ar_warnings : (List (Int × Int × Int))) (ar_events : (List (Int × Int))) (ar_lead : Int) (ar_slack : Int) (ar_pairs : (List (Int × Int))) : Res Bool :=
  ((un (fun (p : ((List (Int × Int × Int)) × (List (Int × Int)) × Int × Int)) => m_checked_links p.1 p.2.1 p.2.2.1 p.2.2.2) (pair (Res.ok ar_warnings) (pair (Res.ok ar_events) (pair (Res.ok ar_lead) (Res.ok ar_slack))))).bind fun (links_1 : (List (List Int))) => (ifR (un notR (un (fun (p : ((List Int) × Int)) => m_are_indexes p.1 p.2) (pair ((Res.ok ar_pairs).bind (mapR (fun (x_8 : (Int × Int)) => (un (fun p => Res.ok p.1) (Res.ok x_8))))) (un rLen (Res.ok ar_warnings))))) ((Res.ok false).bind fun a_23 => Res.ok a_23) ((Res.ok ([] : List Int)).bind fun (seen_30 : (List Int)) => (((Res.ok ar_pairs).bind fun xs => loopR (fun (x_56 : (Int × Int)) (z_45 : (List Int)) => (ifR (orR (bin ninR (Res.ok x_56.2) (bin ix (Res.ok links_1) (Res.ok x_56.1))) (bin inR (Res.ok x_56.2) (Res.ok z_45))) ((Res.ok false).bind fun a_78 => Res.ok (Out.rt a_78)) (((Res.ok x_56.2).bind fun x => push z_45 x).bind fun (seen_85 : (List Int)) => (Res.ok (Out.nx seen_85))))) xs seen_30).bind fun (o : Out (List Int) Bool) => match o with | .nx z_102 => ((Res.ok true).bind fun a_113 => Res.ok a_113) | .br _ => Res.bad | .rt r => Res.ok r))))
abbrev N_is_pairing : List Str := ["warnings", "events", "lead", "slack", "pairs", "links", "seen", "w", "e", "pair"]
theorem sc_is_pairing : FnScope N_is_pairing ["warnings", "events", "lead", "slack", "pairs"] (defScope s_is_pairing) := ⟨rfl, rfl, rfl, by decide +kernel, rfl, by decide +kernel, by decide +kernel⟩
theorem bind_is_pairing {K : PySem.W.Frag} {mg : Str → Option Value} {T : Tx K mg} : Binds K T.d_is_pairing ["warnings", "events", "lead", "slack", "pairs"] [] := FunD.bindsN T.F_is_pairing fun _ _ _ _ _ _ us hl => match us, hl with | [_, _, _, _, _], _ => rfl
abbrev sp_is_pairing (K : PySem.W.Frag) : Sp := spP K (tc (pV (pT (tc pI (tc pI (t1 pI))))) (tc (pV (pT (tc pI (t1 pI)))) (tc pI (tc pI (t1 (pL (pT (tc pI (t1 pI))))))))) (fun (p : ((List (Int × Int × Int)) × (List (Int × Int)) × Int × Int × (List (Int × Int)))) => m_is_pairing p.1 p.2.1 p.2.2.1 p.2.2.2.1 p.2.2.2.2) pB
theorem ok_is_pairing (T : Tx K mg) : FnOk P w K mg base (L2.CX P w) 5 T.f_is_pairing T.d_is_pairing ["warnings", "events", "lead", "slack", "pairs"] (sp_is_pairing K) := by
  refine T.F_is_pairing.ok sc_is_pairing (fun vs H Q E h => ?_) (fun cdv A outer s H vs Q E hr h => ?_)
  · obtain ⟨I, C, a, _, hr, _⟩ := h
    exact Rt.len _ hr
  · obtain ⟨I0, C0, ⟨ar_warnings, ar_events, ar_lead, ar_slack, ar_pairs⟩, hs, ⟨v_warnings, us0, rfl, r_warnings, v_events, us1, rfl, r_events, v_lead, us2, rfl, r_lead, v_slack, us3, rfl, r_slack, v_pairs, rfl, r_pairs⟩, hm⟩ := h
    have hm : Post (m_is_pairing ar_warnings ar_events ar_lead ar_slack ar_pairs) (PQ pB I0 C0 Q) (PX E K I0 C0) := hm
    replace r_lead : Rp.r pI ar_lead v_lead I0 Z := Im.im r_lead
    replace r_slack : Rp.r pI ar_slack v_slack I0 Z := Im.im r_slack
    replace r_pairs : Rp.r (pL (pT (tc pI (t1 pI)))) ar_pairs v_pairs I0 Z := Im.im r_pairs
    unfold m_is_pairing at hm
    refine ⟨_, (pss_cons (ps_set (i := 5) sc_is_pairing.nd rfl (Or.inl rfl) (pe_call (ok_checked_links T) (hr.mono (by decide)) rfl T.g_checked_links T.F_checked_links.kp bind_checked_links .nil passE (pa_cons (pv 0) (pa_cons (pv 1) (pa_cons (pv 2) (pa_cons (pv 3) pa_nil)))))) (pss_cons (ps_if (pt_not (pt_val (pe_call (ok_are_indexes T) (hr.mono (by decide)) rfl T.g_are_indexes T.F_are_indexes.kp bind_are_indexes .nil passE (pa_cons (pe_lc (own := [("pair", 9)]) rfl sc_is_pairing.nd (show PI _ _ _ (iList K _) from pi_list (pv 4)) (blkOk_by (own := [("pair", 9)]) (N := N_is_pairing) (sc := defScope s_is_pairing) (by decide +kernel)) (fun _ _ _ _ _ => (pg_name (i := 9) sc_is_pairing.nd rfl (Or.inl rfl))) (fun _ _ _ _ _ => pts_nil) (fun _ _ _ _ _ => (pe_ix (r := rIxT K) ix_tup (pv 9) pe_int (fun _ _ => rfl)))) (pa_cons (pe_callB (r := rLen1 K) call_len_seq (by rfl) T.gb_len bt_len (pa_cons (pv 0) pa_nil)) pa_nil))))) (pss_cons (ps_ret pe_bl) pss_nil) pss_nil) (pss_cons (ps_set (i := 6) sc_is_pairing.nd rfl (Or.inl rfl) (pe_lst pa_nil)) (pss_cons (ps_for (passes_of rfl) rfl (show PI _ _ _ (iList K _) from pi_list (pv 4)) (show PG _ _ (gTup K 2 _) from pg_tup rfl (pgs_cons (pg_name (i := 7) sc_is_pairing.nd rfl (Or.inl rfl)) (pgs_cons (pg_name (i := 8) sc_is_pairing.nd rfl (Or.inl rfl)) pgs_nil))) (pss_cons (ps_if (PW.pt (pw_or (pt_cmpR (r := rIn K true) op_notIn_seq (pv 8) (pe_ix (r := rIxL K) ix_list (pv 5) (pv 7) (fun _ _ => rfl)) rfl) (pw_or1 (pt_cmpR (r := rIn K false) op_in_seq (pv 8) (pv 6) rfl)))) (pss_cons (ps_ret pe_bl) pss_nil) pss_nil) (pss_cons (ps_expr (show PE _ _ (tBM K "list" rAppend _ _) from pe_bm PySem.F.plainAttrs_list PySem.F.slot_list_append PySem.F.type_list_append mt_append (pv 6) (pa_cons (pv 8) pa_nil))) pss_nil))) (pss_cons (ps_ret pe_bl) pss_nil))))), ?_⟩
    refine q_asg (E := E) (K := K) (σ := [some v_warnings, some v_events, some v_lead, some v_slack, some v_pairs, none, none, none, none, none]) (i := 5) (x_own (n_call (a_cons (x_var (i := 0) rfl (Rp.mono _ (Ex.refl _) (Ex.refl _) r_warnings)) (a_cons (x_var (i := 1) rfl (Rp.mono _ (Ex.refl _) (Ex.refl _) r_events)) (a_cons (x_var (i := 2) rfl (Rp.mono _ (Ex.refl _) exz r_lead)) (a_one (x_var (i := 3) rfl (Rp.mono _ (Ex.refl _) exz r_slack)))))))) hs (fun _ _ h => PX.mono (Ex.refl _) (Ex.refl _) h) hm fun links_1 v_2 I_3 H_4 e_5 s_6 r_7 hm => ?_
    refine s_if (E := E) (K := K) (σ := [some v_warnings, some v_events, some v_lead, some v_slack, some v_pairs, some v_2, none, none, none, none]) (t_not (t_B (x_call (a_cons (x_lc (i_list (x_var (i := 4) rfl (Rp.mono _ e_5 exz r_pairs))) g1 (fun _ _ _ _ ⟨_, h, _⟩ => by rw [h]; rfl) (fun x_8 σ2 I_9 C_10 e_11 c_12 ⟨v_13, h, r_14⟩ => by subst h; exact (x_k (k := ((0 : Nat) : Int)) (o_pj pj0) (x_var (i := 9) rfl (Rp.mono _ (Ex.refl _) exz r_14)))) (fun _ _ _ _ _ e ⟨v_13, h, r_14⟩ => ⟨v_13, h, Rp.mono _ e exz r_14⟩)) (a_one (x_cb o_len (a_one (x_var (i := 0) rfl (Rp.mono _ e_5 (Ex.refl _) r_warnings))))))))) s_6 (fun _ _ h => PX.mono e_5 (Ex.refl _) h) hm (fun I_15 H_16 e_17 s_18 hm => ?_) (fun I_19 H_20 e_21 s_22 hm => ?_)
    · refine q_ret (tz := tNext) (E := E) (K := K) (σ := [some v_warnings, some v_events, some v_lead, some v_slack, some v_pairs, some v_2, none, none, none, none]) x_bl s_18 (fun _ _ h => PX.mono (e_5.trans e_17) (Ex.refl _) h) hm fun a_23 v_24 I_25 H_26 e_27 s_28 r_29 hm => ?_
      exact hm v_24 I_25 H_26 (e_5.trans (e_17.trans e_27)) (St.less s_28 (Ex.refl _)) (Im.im r_29)
    · refine q_asgN (E := E) (K := K) (σ := [some v_warnings, some v_events, some v_lead, some v_slack, some v_pairs, some v_2, none, none, none, none]) (i := 6) (n_lst (R := pI) al_nil (by decide)) s_22 (fun _ _ h => PX.mono (e_5.trans e_21) (Ex.refl _) h) hm fun seen_30 p_31 vs_32 I_33 C_34 H_35 e_36 hp_37 s_38 hc_39 k_40 hl_41 hr_42 hm => ?_
      have hB_43 := Ex.free (Ex.refl _) hp_37
      have fr_44 := fr_keep (Ex.refl _) hB_43 k_40
      refine s_forR (E := E) (K := K) (σ := [some v_warnings, some v_events, some v_lead, some v_slack, some v_pairs, some v_2, some (.ref p_31), none, none, none]) (fun (z_45 : (List Int)) σ2 I_49 C_50 => ∃ w_47 : Option V, ∃ w_48 : Option V, σ2 = [some v_warnings, some v_events, some v_lead, some v_slack, some v_pairs, some v_2, some (.ref p_31), w_47, w_48, none] ∧ (∃ vs_51 : List V, C_50 p_31 = some (.lst vs_51) ∧ vs_51.length ≤ sizeLine ∧ A2 (fun x u => Rp.r pI x u I_49 Z) z_45 vs_51) ∧ Ex C0 C_50) (i_list (x_var (i := 4) rfl (Rp.mono _ (e_5.trans (e_21.trans e_36)) exz r_pairs))) s_38 (fun _ _ h => PX.mono (e_5.trans (e_21.trans e_36)) fr_44 h) hm (fun _ e_64 => ⟨none, none, rfl, ⟨_, hc_39, hl_41, a2up (Ex.trans (Ex.refl _) e_64) hr_42⟩, fr_44⟩) (fun _ _ _ _ _ => trivial) (fun _ _ _ _ _ e ⟨w_47, w_48, hs_46, ⟨vs_51, hc_52, hl_53, hr_54⟩, fr_55⟩ => ⟨w_47, w_48, hs_46, ⟨vs_51, hc_52, hl_53, a2up e hr_54⟩, fr_55⟩) (fun N x_56 v_57 z_45 σ2 I_58 C_59 H_60 e_61 s_62 ⟨w_47, w_48, hs_46, ⟨vs_51, hc_52, hl_53, hr_54⟩, fr_55⟩ r_63 hm => ?_) (fun z_102 σ2 I_97 C_98 H_99 e_100 s_101 ⟨w_104, w_105, hs_103, ⟨vs_108, hc_109, hl_110, hr_111⟩, fr_112⟩ hm => ?_)
      · subst hs_46
        refine g2 (K := K) x_56 v_57 I_58 C_59 H_60 _ s_62 r_63 fun σ2 ⟨v_65, v_66, hs_69, r_67, r_68⟩ => ?_
        subst hs_69
        refine s_if (E := E) (K := K) (σ := [some v_warnings, some v_events, some v_lead, some v_slack, some v_pairs, some v_2, some (.ref p_31), some v_65, some v_66, none]) (t_or (t_test (x_op (o_nin fl_int) (x_var (i := 8) rfl (Rp.mono _ (Ex.refl _) exz r_68)) (x_v (x_op o_ix (x_v (x_var (i := 5) rfl (Rp.mono _ (e_21.trans (e_36.trans e_61)) exz r_7))) (x_var (i := 7) rfl (Rp.mono _ (Ex.refl _) exz r_67)))))) (t_test (x_op (o_in fl_int) (x_var (i := 8) rfl (Rp.mono _ (Ex.refl _) exz r_68)) (x_cell (i := 6) rfl hc_52 hl_53 (a2up (Ex.refl _) hr_54))))) s_62 (fun _ _ h => PX.mono (e_5.trans (e_21.trans (e_36.trans e_61))) fr_55 h) hm (fun I_70 H_71 e_72 s_73 hm => ?_) (fun I_74 H_75 e_76 s_77 hm => ?_)
        · refine q_ret (tz := tNext) (E := E) (K := K) (σ := [some v_warnings, some v_events, some v_lead, some v_slack, some v_pairs, some v_2, some (.ref p_31), some v_65, some v_66, none]) x_bl s_73 (fun _ _ h => PX.mono (e_5.trans (e_21.trans (e_36.trans (e_61.trans e_72)))) fr_55 h) hm fun a_78 v_79 I_80 H_81 e_82 s_83 r_84 hm => ?_
          exact hm v_79 I_80 H_81 (e_5.trans (e_21.trans (e_36.trans (e_61.trans (e_72.trans e_82))))) (St.less s_83 fr_55) (Im.im r_84)
        · refine q_app (E := E) (K := K) (σ := [some v_warnings, some v_events, some v_lead, some v_slack, some v_pairs, some v_2, some (.ref p_31), some v_65, some v_66, none]) (i := 6) rfl hc_52 (a2up e_76 hr_54) (x_var (i := 8) rfl (Rp.mono _ e_76 exz r_68)) s_77 (fun _ _ h => PX.mono (e_5.trans (e_21.trans (e_36.trans (e_61.trans e_76)))) fr_55 h) hm fun seen_85 vs_86 I_87 C_88 H_89 e_90 s_91 hc_92 k_93 hl_94 hr_95 hm => ?_
          have fr_96 := fr_keep fr_55 hB_43 k_93
          exact hm _ _ _ _ (e_76.trans e_90) s_91 ⟨some v_65, some v_66, rfl, ⟨_, hc_92, hl_94, a2up (Ex.refl _) hr_95⟩, fr_96⟩
      subst hs_103
      refine q_ret (tz := tNext) (E := E) (K := K) (σ := [some v_warnings, some v_events, some v_lead, some v_slack, some v_pairs, some v_2, some (.ref p_31), w_104, w_105, none]) x_bl s_101 (fun _ _ h => PX.mono (e_5.trans (e_21.trans (e_36.trans e_100))) fr_112 h) hm fun a_113 v_114 I_115 H_116 e_117 s_118 r_119 hm => ?_
      exact hm v_114 I_115 H_116 (e_5.trans (e_21.trans (e_36.trans (e_100.trans e_117)))) (St.less s_118 fr_112) (Im.im r_119)
def m_is_cover (ar_warnings : (List (Int × Int × Int))) (ar_events : (List (Int × Int))) (ar_lead : Int) (ar_slack : Int) (ar_cover : ((List Int) × (List Int))) : Res Bool :=
  ((un (fun (p : ((List (Int × Int × Int)) × (List (Int × Int)) × Int × Int)) => m_checked_links p.1 p.2.1 p.2.2.1 p.2.2.2) (pair (Res.ok ar_warnings) (pair (Res.ok ar_events) (pair (Res.ok ar_lead) (Res.ok ar_slack))))).bind fun (links_1 : (List (List Int))) => (ifR (orR (un notR (un (fun (p : ((List Int) × Int)) => m_are_indexes p.1 p.2) (pair (un (fun p => Res.ok p.1) (Res.ok ar_cover)) (un rLen (Res.ok ar_warnings))))) (un notR (un (fun (p : ((List Int) × Int)) => m_are_indexes p.1 p.2) (pair (un (fun p => Res.ok p.2) (Res.ok ar_cover)) (un rLen (Res.ok ar_events)))))) ((Res.ok false).bind fun a_16 => Res.ok a_16) (((un enumR (Res.ok links_1)).bind fun xs => loopR (fun (x_31 : (Int × (List Int))) (z_23 : Unit) => (((Res.ok x_31.2).bind fun xs => loopR (fun (x_51 : Int) (z_45 : Unit) => (ifR (andR (bin ninR (Res.ok x_31.1) (un (fun p => Res.ok p.1) (Res.ok ar_cover))) (bin ninR (Res.ok x_51) (un (fun p => Res.ok p.2) (Res.ok ar_cover)))) ((Res.ok false).bind fun a_71 => Res.ok (Out.rt a_71)) (Res.ok (Out.nx ())))) xs ()).bind fun (o : Out Unit Bool) => match o with | .nx z_83 => (Res.ok (Out.nx ())) | .br _ => Res.bad | .rt r => Res.ok (Out.rt r))) xs ()).bind fun (o : Out Unit Bool) => match o with | .nx z_94 => ((Res.ok true).bind fun a_102 => Res.ok a_102) | .br _ => Res.bad | .rt r => Res.ok r)))
abbrev N_is_cover : List Str := ["warnings", "events", "lead", "slack", "cover", "links", "w", "found", "e"]
theorem sc_is_cover : FnScope N_is_cover ["warnings", "events", "lead", "slack", "cover"] (defScope s_is_cover) := ⟨rfl, rfl, rfl, by decide +kernel, rfl, by decide +kernel, by decide +kernel⟩
theorem bind_is_cover {K : PySem.W.Frag} {mg : Str → Option Value} {T : Tx K mg} : Binds K T.d_is_cover ["warnings", "events", "lead", "slack", "cover"] [] := FunD.bindsN T.F_is_cover fun _ _ _ _ _ _ us hl => match us, hl with | [_, _, _, _, _], _ => rfl
abbrev sp_is_cover (K : PySem.W.Frag) : Sp := spP K (tc (pV (pT (tc pI (tc pI (t1 pI))))) (tc (pV (pT (tc pI (t1 pI)))) (tc pI (tc pI (t1 (pT (tc (pL pI) (t1 (pL pI))))))))) (fun (p : ((List (Int × Int × Int)) × (List (Int × Int)) × Int × Int × ((List Int) × (List Int)))) => m_is_cover p.1 p.2.1 p.2.2.1 p.2.2.2.1 p.2.2.2.2) pB
theorem ok_is_cover (T : Tx K mg) : FnOk P w K mg base (L2.CX P w) 5 T.f_is_cover T.d_is_cover ["warnings", "events", "lead", "slack", "cover"] (sp_is_cover K) := by
  refine T.F_is_cover.ok sc_is_cover (fun vs H Q E h => ?_) (fun cdv A outer s H vs Q E hr h => ?_)
  · obtain ⟨I, C, a, _, hr, _⟩ := h
    exact Rt.len _ hr
  · obtain ⟨I0, C0, ⟨ar_warnings, ar_events, ar_lead, ar_slack, ar_cover⟩, hs, ⟨v_warnings, us0, rfl, r_warnings, v_events, us1, rfl, r_events, v_lead, us2, rfl, r_lead, v_slack, us3, rfl, r_slack, v_cover, rfl, r_cover⟩, hm⟩ := h
    have hm : Post (m_is_cover ar_warnings ar_events ar_lead ar_slack ar_cover) (PQ pB I0 C0 Q) (PX E K I0 C0) := hm
    replace r_lead : Rp.r pI ar_lead v_lead I0 Z := Im.im r_lead
    replace r_slack : Rp.r pI ar_slack v_slack I0 Z := Im.im r_slack
    replace r_cover : Rp.r (pT (tc (pL pI) (t1 (pL pI)))) ar_cover v_cover I0 Z := Im.im r_cover
    unfold m_is_cover at hm
    refine ⟨_, (pss_cons (ps_set (i := 5) sc_is_cover.nd rfl (Or.inl rfl) (pe_call (ok_checked_links T) (hr.mono (by decide)) rfl T.g_checked_links T.F_checked_links.kp bind_checked_links .nil passE (pa_cons (pv 0) (pa_cons (pv 1) (pa_cons (pv 2) (pa_cons (pv 3) pa_nil)))))) (pss_cons (ps_if (PW.pt (pw_or (pt_not (pt_val (pe_call (ok_are_indexes T) (hr.mono (by decide)) rfl T.g_are_indexes T.F_are_indexes.kp bind_are_indexes .nil passE (pa_cons (pe_ix (r := rIxT K) ix_tup (pv 4) pe_int (fun _ _ => rfl)) (pa_cons (pe_callB (r := rLen1 K) call_len_seq (by rfl) T.gb_len bt_len (pa_cons (pv 0) pa_nil)) pa_nil))))) (pw_or1 (pt_not (pt_val (pe_call (ok_are_indexes T) (hr.mono (by decide)) rfl T.g_are_indexes T.F_are_indexes.kp bind_are_indexes .nil passE (pa_cons (pe_ix (r := rIxT K) ix_tup (pv 4) pe_int (fun _ _ => rfl)) (pa_cons (pe_callB (r := rLen1 K) call_len_seq (by rfl) T.gb_len bt_len (pa_cons (pv 1) pa_nil)) pa_nil)))))))) (pss_cons (ps_ret pe_bl) pss_nil) pss_nil) (pss_cons (ps_for (passes_of rfl) rfl (show PI _ _ _ (iEnum K _) from pi_enum (by rfl) T.gb_enumerate (pa_cons (pv 5) pa_nil)) (show PG _ _ (gTup K 2 _) from pg_tup rfl (pgs_cons (pg_name (i := 6) sc_is_cover.nd rfl (Or.inl rfl)) (pgs_cons (pg_name (i := 7) sc_is_cover.nd rfl (Or.inl rfl)) pgs_nil))) (pss_cons (ps_for (passes_of rfl) rfl (show PI _ _ _ (iList K _) from pi_list (pv 7)) (pg_name (i := 8) sc_is_cover.nd rfl (Or.inl rfl)) (pss_cons (ps_if (PW.pt (pw_and (pt_cmpR (r := rIn K true) op_notIn_seq (pv 6) (pe_ix (r := rIxT K) ix_tup (pv 4) pe_int (fun _ _ => rfl)) rfl) (pw_and1 (pt_cmpR (r := rIn K true) op_notIn_seq (pv 8) (pe_ix (r := rIxT K) ix_tup (pv 4) pe_int (fun _ _ => rfl)) rfl)))) (pss_cons (ps_ret pe_bl) pss_nil) pss_nil) pss_nil)) pss_nil)) (pss_cons (ps_ret pe_bl) pss_nil)))), ?_⟩
    refine q_asg (E := E) (K := K) (σ := [some v_warnings, some v_events, some v_lead, some v_slack, some v_cover, none, none, none, none]) (i := 5) (x_own (n_call (a_cons (x_var (i := 0) rfl (Rp.mono _ (Ex.refl _) (Ex.refl _) r_warnings)) (a_cons (x_var (i := 1) rfl (Rp.mono _ (Ex.refl _) (Ex.refl _) r_events)) (a_cons (x_var (i := 2) rfl (Rp.mono _ (Ex.refl _) exz r_lead)) (a_one (x_var (i := 3) rfl (Rp.mono _ (Ex.refl _) exz r_slack)))))))) hs (fun _ _ h => PX.mono (Ex.refl _) (Ex.refl _) h) hm fun links_1 v_2 I_3 H_4 e_5 s_6 r_7 hm => ?_
    refine s_if (E := E) (K := K) (σ := [some v_warnings, some v_events, some v_lead, some v_slack, some v_cover, some v_2, none, none, none]) (t_or (t_not (t_B (x_call (a_cons (x_k (k := ((0 : Nat) : Int)) (o_pj pj0) (x_var (i := 4) rfl (Rp.mono _ e_5 exz r_cover))) (a_one (x_cb o_len (a_one (x_var (i := 0) rfl (Rp.mono _ e_5 (Ex.refl _) r_warnings))))))))) (t_not (t_B (x_call (a_cons (x_k (k := ((1 : Nat) : Int)) (o_pj (pjs pj1)) (x_var (i := 4) rfl (Rp.mono _ e_5 exz r_cover))) (a_one (x_cb o_len (a_one (x_var (i := 1) rfl (Rp.mono _ e_5 (Ex.refl _) r_events)))))))))) s_6 (fun _ _ h => PX.mono e_5 (Ex.refl _) h) hm (fun I_8 H_9 e_10 s_11 hm => ?_) (fun I_12 H_13 e_14 s_15 hm => ?_)
    · refine q_ret (tz := tNext) (E := E) (K := K) (σ := [some v_warnings, some v_events, some v_lead, some v_slack, some v_cover, some v_2, none, none, none]) x_bl s_11 (fun _ _ h => PX.mono (e_5.trans e_10) (Ex.refl _) h) hm fun a_16 v_17 I_18 H_19 e_20 s_21 r_22 hm => ?_
      exact hm v_17 I_18 H_19 (e_5.trans (e_10.trans e_20)) (St.less s_21 (Ex.refl _)) (Im.im r_22)
    · refine s_forR (E := E) (K := K) (σ := [some v_warnings, some v_events, some v_lead, some v_slack, some v_cover, some v_2, none, none, none]) (fun (z_23 : Unit) σ2 I_28 C_29 => ∃ w_25 : Option V, ∃ w_26 : Option V, ∃ w_27 : Option V, σ2 = [some v_warnings, some v_events, some v_lead, some v_slack, some v_cover, some v_2, w_25, w_26, w_27] ∧ Ex C0 C_29) (i_enum (a_one (x_var (i := 5) rfl (Rp.mono _ e_14 exz r_7)))) s_15 (fun _ _ h => PX.mono (e_5.trans e_14) (Ex.refl _) h) hm (fun _ e_39 => ⟨none, none, none, rfl, (Ex.refl _)⟩) (fun _ _ _ _ _ => trivial) (fun _ _ _ _ _ e ⟨w_25, w_26, w_27, hs_24, fr_30⟩ => ⟨w_25, w_26, w_27, hs_24, fr_30⟩) (fun N x_31 v_32 z_23 σ2 I_33 C_34 H_35 e_36 s_37 ⟨w_25, w_26, w_27, hs_24, fr_30⟩ r_38 hm => ?_) (fun z_94 σ2 I_89 C_90 H_91 e_92 s_93 ⟨w_96, w_97, w_98, hs_95, fr_101⟩ hm => ?_)
      · subst hs_24
        refine g2 (K := K) x_31 v_32 I_33 C_34 H_35 _ s_37 r_38 fun σ2 ⟨v_40, v_41, hs_44, r_42, r_43⟩ => ?_
        subst hs_44
        refine s_forR (E := E) (K := K) (σ := [some v_warnings, some v_events, some v_lead, some v_slack, some v_cover, some v_2, some v_40, some v_41, w_27]) (fun (z_45 : Unit) σ2 I_48 C_49 => ∃ w_47 : Option V, σ2 = [some v_warnings, some v_events, some v_lead, some v_slack, some v_cover, some v_2, some v_40, some v_41, w_47] ∧ Ex C0 C_49) (i_list (x_var (i := 7) rfl (Rp.mono _ (Ex.refl _) exz r_43))) s_37 (fun _ _ h => PX.mono (e_5.trans (e_14.trans e_36)) fr_30 h) hm (fun _ e_59 => ⟨w_27, rfl, fr_30⟩) (fun _ _ _ _ _ => trivial) (fun _ _ _ _ _ e ⟨w_47, hs_46, fr_50⟩ => ⟨w_47, hs_46, fr_50⟩) (fun N x_51 v_52 z_45 σ2 I_53 C_54 H_55 e_56 s_57 ⟨w_47, hs_46, fr_50⟩ r_58 hm => ?_) (fun z_83 σ2 I_78 C_79 H_80 e_81 s_82 ⟨w_85, hs_84, fr_88⟩ hm => ?_)
        · subst hs_46
          refine g1 (K := K) x_51 v_52 I_53 C_54 H_55 _ s_57 r_58 fun σ2 ⟨v_60, hs_62, r_61⟩ => ?_
          subst hs_62
          refine s_if (E := E) (K := K) (σ := [some v_warnings, some v_events, some v_lead, some v_slack, some v_cover, some v_2, some v_40, some v_41, some v_60]) (t_and (t_test (x_op (o_nin fl_int) (x_var (i := 6) rfl (Rp.mono _ e_56 exz r_42)) (x_v (x_k (k := ((0 : Nat) : Int)) (o_pj pj0) (x_var (i := 4) rfl (Rp.mono _ (e_5.trans (e_14.trans (e_36.trans e_56))) exz r_cover)))))) (t_test (x_op (o_nin fl_int) (x_var (i := 8) rfl (Rp.mono _ (Ex.refl _) exz r_61)) (x_v (x_k (k := ((1 : Nat) : Int)) (o_pj (pjs pj1)) (x_var (i := 4) rfl (Rp.mono _ (e_5.trans (e_14.trans (e_36.trans e_56))) exz r_cover))))))) s_57 (fun _ _ h => PX.mono (e_5.trans (e_14.trans (e_36.trans e_56))) fr_50 h) hm (fun I_63 H_64 e_65 s_66 hm => ?_) (fun I_67 H_68 e_69 s_70 hm => ?_)
          · refine q_ret (tz := tNext) (E := E) (K := K) (σ := [some v_warnings, some v_events, some v_lead, some v_slack, some v_cover, some v_2, some v_40, some v_41, some v_60]) x_bl s_66 (fun _ _ h => PX.mono (e_5.trans (e_14.trans (e_36.trans (e_56.trans e_65)))) fr_50 h) hm fun a_71 v_72 I_73 H_74 e_75 s_76 r_77 hm => ?_
            exact hm v_72 I_73 H_74 (e_5.trans (e_14.trans (e_36.trans (e_56.trans (e_65.trans e_75))))) (St.less s_76 fr_50) (Im.im r_77)
          · exact hm _ _ _ _ e_69 s_70 ⟨some v_60, rfl, fr_50⟩
        subst hs_84
        exact hm _ _ _ _ e_81 s_82 ⟨some v_40, some v_41, w_85, rfl, fr_88⟩
      subst hs_95
      refine q_ret (tz := tNext) (E := E) (K := K) (σ := [some v_warnings, some v_events, some v_lead, some v_slack, some v_cover, some v_2, w_96, w_97, w_98]) x_bl s_93 (fun _ _ h => PX.mono (e_5.trans (e_14.trans e_92)) fr_101 h) hm fun a_102 v_103 I_104 H_105 e_106 s_107 r_108 hm => ?_
      exact hm v_103 I_104 H_105 (e_5.trans (e_14.trans (e_92.trans e_106))) (St.less s_107 fr_101) (Im.im r_108)
def m_certain (ar_warnings : (List (Int × Int × Int))) (ar_events : (List (Int × Int))) (ar_lead : Int) (ar_slack : Int) : Res (List Int) :=
  ((un (fun (p : ((List (Int × Int × Int)) × (List (Int × Int)) × Int × Int)) => m_checked_links p.1 p.2.1 p.2.2.1 p.2.2.2) (pair (Res.ok ar_warnings) (pair (Res.ok ar_events) (pair (Res.ok ar_lead) (Res.ok ar_slack))))).bind fun (links_1 : (List (List Int))) => ((un (fun (p : ((List (List Int)) × Int)) => m_pairs_count p.1 p.2) (pair (Res.ok links_1) (un rLen (Res.ok ar_events)))).bind fun (most_8 : Int) => ((Res.ok ([] : List Int)).bind fun (found_15 : (List Int)) => (((un rng1 (un rLen (Res.ok links_1))).bind fun xs => loopN (fun (x_41 : Int) (z_30 : (List Int)) => ((bin rCatR (slR (Res.ok links_1) (Res.ok none) (someR (Res.ok x_41))) (slR (Res.ok links_1) (someR (bin rAdd (Res.ok x_41) (Res.ok (1 : Int)))) (Res.ok none))).bind fun (others_53 : (List (List Int))) => (ifR (bin rLt (un (fun (p : ((List (List Int)) × Int)) => m_pairs_count p.1 p.2) (pair (Res.ok others_53) (un rLen (Res.ok ar_events)))) (Res.ok most_8)) (((Res.ok x_41).bind fun x => push z_30 x).bind fun (found_68 : (List Int)) => (Res.ok found_68)) (Res.ok z_30)))) xs found_15).bind fun (z_85 : (List Int)) => (Res.ok z_85)))))
abbrev N_certain : List Str := ["warnings", "events", "lead", "slack", "links", "most", "found", "w", "others"]
theorem sc_certain : FnScope N_certain ["warnings", "events", "lead", "slack"] (defScope s_certain) := ⟨rfl, rfl, rfl, by decide +kernel, rfl, by decide +kernel, by decide +kernel⟩
theorem bind_certain {K : PySem.W.Frag} {mg : Str → Option Value} {T : Tx K mg} : Binds K T.d_certain ["warnings", "events", "lead", "slack"] [] := FunD.bindsN T.F_certain fun _ _ _ _ _ _ us hl => match us, hl with | [_, _, _, _], _ => rfl
abbrev sp_certain (K : PySem.W.Frag) : Sp := spO K (tc (pV (pT (tc pI (tc pI (t1 pI))))) (tc (pV (pT (tc pI (t1 pI)))) (tc pI (t1 pI)))) (fun (p : ((List (Int × Int × Int)) × (List (Int × Int)) × Int × Int)) => m_certain p.1 p.2.1 p.2.2.1 p.2.2.2) pI
theorem ok_certain (T : Tx K mg) : FnOk P w K mg base (L2.CX P w) 24 T.f_certain T.d_certain ["warnings", "events", "lead", "slack"] (sp_certain K) := by
  refine T.F_certain.ok sc_certain (fun vs H Q E h => ?_) (fun cdv A outer s H vs Q E hr h => ?_)
  · obtain ⟨I, C, a, _, hr, _⟩ := h
    exact Rt.len _ hr
  · obtain ⟨I0, C0, ⟨ar_warnings, ar_events, ar_lead, ar_slack⟩, hs, ⟨v_warnings, us0, rfl, r_warnings, v_events, us1, rfl, r_events, v_lead, us2, rfl, r_lead, v_slack, rfl, r_slack⟩, hm⟩ := h
    have hm : Post (m_certain ar_warnings ar_events ar_lead ar_slack) (PN pI I0 C0 Q) (PX E K I0 C0) := hm
    replace r_lead : Rp.r pI ar_lead v_lead I0 Z := Im.im r_lead
    replace r_slack : Rp.r pI ar_slack v_slack I0 Z := Im.im r_slack
    unfold m_certain at hm
    refine ⟨_, (pss_cons (ps_set (i := 4) sc_certain.nd rfl (Or.inl rfl) (pe_call (ok_checked_links T) (hr.mono (by decide)) rfl T.g_checked_links T.F_checked_links.kp bind_checked_links .nil passE (pa_cons (pv 0) (pa_cons (pv 1) (pa_cons (pv 2) (pa_cons (pv 3) pa_nil)))))) (pss_cons (ps_set (i := 5) sc_certain.nd rfl (Or.inl rfl) (pe_call (ok_pairs_count T) (hr.mono (by decide)) rfl T.g_pairs_count T.F_pairs_count.kp bind_pairs_count .nil passE (pa_cons (pv 4) (pa_cons (pe_callB (r := rLen1 K) call_len_seq (by rfl) T.gb_len bt_len (pa_cons (pv 1) pa_nil)) pa_nil)))) (pss_cons (ps_set (i := 6) sc_certain.nd rfl (Or.inl rfl) (pe_lst pa_nil)) (pss_cons (ps_for (passes_of rfl) rfl (pi_range1 (by rfl) T.gb_range (pa_cons (pe_callB (r := rLen1 K) call_len_seq (by rfl) T.gb_len bt_len (pa_cons (pv 4) pa_nil)) pa_nil)) (pg_name (i := 7) sc_certain.nd rfl (Or.inl rfl)) (pss_cons (ps_set (i := 8) sc_certain.nd rfl (Or.inl rfl) (pe_op op_cat (pe_slice (r := rSlL K) sl_list (pv 4) po_none (po_some (pv 7))) (pe_slice (r := rSlL K) sl_list (pv 4) (po_some (pe_op op_add (pv 7) pe_int)) po_none))) (pss_cons (ps_if (pt_cmpR op_lt (pe_call (ok_pairs_count T) (hr.mono (by decide)) rfl T.g_pairs_count T.F_pairs_count.kp bind_pairs_count .nil passE (pa_cons (pv 8) (pa_cons (pe_callB (r := rLen1 K) call_len_seq (by rfl) T.gb_len bt_len (pa_cons (pv 1) pa_nil)) pa_nil))) (pv 5) (nomark _)) (pss_cons (ps_expr (show PE _ _ (tBM K "list" rAppend _ _) from pe_bm PySem.F.plainAttrs_list PySem.F.slot_list_append PySem.F.type_list_append mt_append (pv 6) (pa_cons (pv 7) pa_nil))) pss_nil) pss_nil) pss_nil))) (pss_cons (ps_ret (pv 6)) pss_nil))))), ?_⟩
    refine q_asg (E := E) (K := K) (σ := [some v_warnings, some v_events, some v_lead, some v_slack, none, none, none, none, none]) (i := 4) (x_own (n_call (a_cons (x_var (i := 0) rfl (Rp.mono _ (Ex.refl _) (Ex.refl _) r_warnings)) (a_cons (x_var (i := 1) rfl (Rp.mono _ (Ex.refl _) (Ex.refl _) r_events)) (a_cons (x_var (i := 2) rfl (Rp.mono _ (Ex.refl _) exz r_lead)) (a_one (x_var (i := 3) rfl (Rp.mono _ (Ex.refl _) exz r_slack)))))))) hs (fun _ _ h => PX.mono (Ex.refl _) (Ex.refl _) h) hm fun links_1 v_2 I_3 H_4 e_5 s_6 r_7 hm => ?_
    refine q_asg (E := E) (K := K) (σ := [some v_warnings, some v_events, some v_lead, some v_slack, some v_2, none, none, none, none]) (i := 5) (x_call (a_cons (x_var (i := 4) rfl (Rp.mono _ (Ex.refl _) exz r_7)) (a_one (x_cb o_len (a_one (x_var (i := 1) rfl (Rp.mono _ e_5 (Ex.refl _) r_events))))))) s_6 (fun _ _ h => PX.mono e_5 (Ex.refl _) h) hm fun most_8 v_9 I_10 H_11 e_12 s_13 r_14 hm => ?_
    refine q_asgN (E := E) (K := K) (σ := [some v_warnings, some v_events, some v_lead, some v_slack, some v_2, some v_9, none, none, none]) (i := 6) (n_lst (R := pI) al_nil (by decide)) s_13 (fun _ _ h => PX.mono (e_5.trans e_12) (Ex.refl _) h) hm fun found_15 p_16 vs_17 I_18 C_19 H_20 e_21 hp_22 s_23 hc_24 k_25 hl_26 hr_27 hm => ?_
    have hB_28 := Ex.free (Ex.refl _) hp_22
    have fr_29 := fr_keep (Ex.refl _) hB_28 k_25
    refine s_forN (E := E) (K := K) (σ := [some v_warnings, some v_events, some v_lead, some v_slack, some v_2, some v_9, some (.ref p_16), none, none]) (fun (z_30 : (List Int)) σ2 I_34 C_35 => ∃ w_32 : Option V, ∃ w_33 : Option V, σ2 = [some v_warnings, some v_events, some v_lead, some v_slack, some v_2, some v_9, some (.ref p_16), w_32, w_33] ∧ (∃ vs_36 : List V, C_35 p_16 = some (.lst vs_36) ∧ vs_36.length ≤ sizeLine ∧ A2 (fun x u => Rp.r pI x u I_34 Z) z_30 vs_36) ∧ Ex C0 C_35) (i_rng1 (a_one (x_cb o_len (a_one (x_v (x_var (i := 4) rfl (Rp.mono _ (e_12.trans e_21) exz r_7))))))) s_23 (fun _ _ h => PX.mono (e_5.trans (e_12.trans e_21)) fr_29 h) hm (fun _ e_49 => ⟨none, none, rfl, ⟨_, hc_24, hl_26, a2up (Ex.trans (Ex.refl _) e_49) hr_27⟩, fr_29⟩) (fun _ _ _ _ _ => trivial) (fun _ _ _ _ _ e ⟨w_32, w_33, hs_31, ⟨vs_36, hc_37, hl_38, hr_39⟩, fr_40⟩ => ⟨w_32, w_33, hs_31, ⟨vs_36, hc_37, hl_38, a2up e hr_39⟩, fr_40⟩) (fun N x_41 v_42 z_30 σ2 I_43 C_44 H_45 e_46 s_47 ⟨w_32, w_33, hs_31, ⟨vs_36, hc_37, hl_38, hr_39⟩, fr_40⟩ r_48 hm => ?_) (fun z_85 σ2 I_80 C_81 H_82 e_83 s_84 ⟨w_87, w_88, hs_86, ⟨vs_91, hc_92, hl_93, hr_94⟩, fr_95⟩ hm => ?_)
    · subst hs_31
      refine g1 (K := K) x_41 v_42 I_43 C_44 H_45 _ s_47 r_48 fun σ2 ⟨v_50, hs_52, r_51⟩ => ?_
      subst hs_52
      refine q_asg (E := E) (K := K) (σ := [some v_warnings, some v_events, some v_lead, some v_slack, some v_2, some v_9, some (.ref p_16), some v_50, w_33]) (i := 8) (x_op o_cat (x_v (x_sl (x_v (x_var (i := 4) rfl (Rp.mono _ (e_12.trans (e_21.trans e_46)) exz r_7))) p_none (p_some (x_var (i := 7) rfl (Rp.mono _ (Ex.refl _) exz r_51))))) (x_v (x_sl (x_v (x_var (i := 4) rfl (Rp.mono _ (e_12.trans (e_21.trans e_46)) exz r_7))) (p_some (x_op o_add (x_var (i := 7) rfl (Rp.mono _ (Ex.refl _) exz r_51)) (x_int (i := 1)))) p_none))) s_47 (fun _ _ h => PX.mono (e_5.trans (e_12.trans (e_21.trans e_46))) fr_40 h) hm fun others_53 v_54 I_55 H_56 e_57 s_58 r_59 hm => ?_
      refine s_if (E := E) (K := K) (σ := [some v_warnings, some v_events, some v_lead, some v_slack, some v_2, some v_9, some (.ref p_16), some v_50, some v_54]) (t_test (x_op o_lt (x_call (a_cons (x_var (i := 8) rfl (Rp.mono _ (Ex.refl _) exz r_59)) (a_one (x_cb o_len (a_one (x_var (i := 1) rfl (Rp.mono _ (e_5.trans (e_12.trans (e_21.trans (e_46.trans e_57)))) fr_40 r_events))))))) (x_var (i := 5) rfl (Rp.mono _ (e_21.trans (e_46.trans e_57)) exz r_14)))) s_58 (fun _ _ h => PX.mono (e_5.trans (e_12.trans (e_21.trans (e_46.trans e_57)))) fr_40 h) hm (fun I_60 H_61 e_62 s_63 hm => ?_) (fun I_64 H_65 e_66 s_67 hm => ?_)
      · refine q_app (E := E) (K := K) (σ := [some v_warnings, some v_events, some v_lead, some v_slack, some v_2, some v_9, some (.ref p_16), some v_50, some v_54]) (i := 6) rfl hc_37 (a2up (e_57.trans e_62) hr_39) (x_var (i := 7) rfl (Rp.mono _ (e_57.trans e_62) exz r_51)) s_63 (fun _ _ h => PX.mono (e_5.trans (e_12.trans (e_21.trans (e_46.trans (e_57.trans e_62))))) fr_40 h) hm fun found_68 vs_69 I_70 C_71 H_72 e_73 s_74 hc_75 k_76 hl_77 hr_78 hm => ?_
        have fr_79 := fr_keep fr_40 hB_28 k_76
        exact hm _ _ _ _ (e_57.trans (e_62.trans e_73)) s_74 ⟨some v_50, some v_54, rfl, ⟨_, hc_75, hl_77, a2up (Ex.refl _) hr_78⟩, fr_79⟩
      · exact hm _ _ _ _ (e_57.trans e_66) s_67 ⟨some v_50, some v_54, rfl, ⟨_, hc_37, hl_38, a2up (e_57.trans e_66) hr_39⟩, fr_40⟩
    subst hs_86
    refine q_retO (i := 6) rfl s_84 fr_95 hB_28 hc_92 hl_93 (a2up (Ex.refl _) hr_94) fun s hr => ?_
    exact hm _ _ _ _ (e_5.trans (e_12.trans (e_21.trans e_83))) hB_28 s hl_93 hr
def m_idle (ar_warnings : (List (Int × Int × Int))) (ar_events : (List (Int × Int))) (ar_lead : Int) (ar_slack : Int) : Res (List Int) :=
  ((un (fun (p : ((List (Int × Int × Int)) × (List (Int × Int)) × Int × Int)) => m_checked_links p.1 p.2.1 p.2.2.1 p.2.2.2) (pair (Res.ok ar_warnings) (pair (Res.ok ar_events) (pair (Res.ok ar_lead) (Res.ok ar_slack))))).bind fun (links_1 : (List (List Int))) => (((un enumR (Res.ok links_1)).bind (filR (fun (x_8 : (Int × (List Int))) => (un notR (un neR' (Res.ok x_8.2)))) (fun (x_8 : (Int × (List Int))) => (Res.ok x_8.1)))).bind fun a_17 => Res.ok a_17))
abbrev N_idle : List Str := ["warnings", "events", "lead", "slack", "links", "w", "found"]
theorem sc_idle : FnScope N_idle ["warnings", "events", "lead", "slack"] (defScope s_idle) := ⟨rfl, rfl, rfl, by decide +kernel, rfl, by decide +kernel, by decide +kernel⟩
theorem bind_idle {K : PySem.W.Frag} {mg : Str → Option Value} {T : Tx K mg} : Binds K T.d_idle ["warnings", "events", "lead", "slack"] [] := FunD.bindsN T.F_idle fun _ _ _ _ _ _ us hl => match us, hl with | [_, _, _, _], _ => rfl
abbrev sp_idle (K : PySem.W.Frag) : Sp := spO K (tc (pV (pT (tc pI (tc pI (t1 pI))))) (tc (pV (pT (tc pI (t1 pI)))) (tc pI (t1 pI)))) (fun (p : ((List (Int × Int × Int)) × (List (Int × Int)) × Int × Int)) => m_idle p.1 p.2.1 p.2.2.1 p.2.2.2) pI
theorem ok_idle (T : Tx K mg) : FnOk P w K mg base (L2.CX P w) 5 T.f_idle T.d_idle ["warnings", "events", "lead", "slack"] (sp_idle K) := by
  refine T.F_idle.ok sc_idle (fun vs H Q E h => ?_) (fun cdv A outer s H vs Q E hr h => ?_)
  · obtain ⟨I, C, a, _, hr, _⟩ := h
    exact Rt.len _ hr
  · obtain ⟨I0, C0, ⟨ar_warnings, ar_events, ar_lead, ar_slack⟩, hs, ⟨v_warnings, us0, rfl, r_warnings, v_events, us1, rfl, r_events, v_lead, us2, rfl, r_lead, v_slack, rfl, r_slack⟩, hm⟩ := h
    have hm : Post (m_idle ar_warnings ar_events ar_lead ar_slack) (PN pI I0 C0 Q) (PX E K I0 C0) := hm
    replace r_lead : Rp.r pI ar_lead v_lead I0 Z := Im.im r_lead
    replace r_slack : Rp.r pI ar_slack v_slack I0 Z := Im.im r_slack
    unfold m_idle at hm
    refine ⟨_, (pss_cons (ps_set (i := 4) sc_idle.nd rfl (Or.inl rfl) (pe_call (ok_checked_links T) (hr.mono (by decide)) rfl T.g_checked_links T.F_checked_links.kp bind_checked_links .nil passE (pa_cons (pv 0) (pa_cons (pv 1) (pa_cons (pv 2) (pa_cons (pv 3) pa_nil)))))) (pss_cons (ps_ret (pe_lc (own := [("w", 5), ("found", 6)]) rfl sc_idle.nd (show PI _ _ _ (iEnum K _) from pi_enum (by rfl) T.gb_enumerate (pa_cons (pv 4) pa_nil)) (blkOk_by (own := [("w", 5), ("found", 6)]) (N := N_idle) (sc := defScope s_idle) (by decide +kernel)) (fun _ _ _ _ _ => (show PG _ _ (gTup K 2 _) from pg_tup rfl (pgs_cons (pg_name (i := 5) sc_idle.nd rfl (Or.inl rfl)) (pgs_cons (pg_name (i := 6) sc_idle.nd rfl (Or.inl rfl)) pgs_nil)))) (fun _ _ _ _ _ => (pts_one (pt_not (show PT _ _ (tTru K _) from pt_truth (pv 6) (fun _ => rfl))))) (fun _ _ _ _ _ => (pv 5)))) pss_nil)), ?_⟩
    refine q_asg (E := E) (K := K) (σ := [some v_warnings, some v_events, some v_lead, some v_slack, none, none, none]) (i := 4) (x_own (n_call (a_cons (x_var (i := 0) rfl (Rp.mono _ (Ex.refl _) (Ex.refl _) r_warnings)) (a_cons (x_var (i := 1) rfl (Rp.mono _ (Ex.refl _) (Ex.refl _) r_events)) (a_cons (x_var (i := 2) rfl (Rp.mono _ (Ex.refl _) exz r_lead)) (a_one (x_var (i := 3) rfl (Rp.mono _ (Ex.refl _) exz r_slack)))))))) hs (fun _ _ h => PX.mono (Ex.refl _) (Ex.refl _) h) hm fun links_1 v_2 I_3 H_4 e_5 s_6 r_7 hm => ?_
    refine q_retN (E := E) (K := K) (σ := [some v_warnings, some v_events, some v_lead, some v_slack, some v_2, none, none]) (n_lcg (i_enum (a_one (x_var (i := 4) rfl (Rp.mono _ (Ex.refl _) exz r_7)))) g2 (fun _ _ _ _ ⟨_, _, h, _, _⟩ => by rw [h]; rfl) (fun x_8 σ2 I_9 C_10 e_11 c_12 ⟨v_13, v_14, h, r_15, r_16⟩ => by subst h; exact (t_not (t_lst (x_v (x_var (i := 6) rfl (Rp.mono _ (Ex.refl _) exz r_16)))))) (fun x_8 σ2 I_9 C_10 e_11 c_12 ⟨v_13, v_14, h, r_15, r_16⟩ => by subst h; exact (x_var (i := 5) rfl (Rp.mono _ (Ex.refl _) exz r_15))) (fun _ _ _ _ _ e ⟨v_13, v_14, h, r_15, r_16⟩ => ⟨v_13, v_14, h, Rp.mono _ e exz r_15, Rp.mono _ e exz r_16⟩)) s_6 (fun _ _ h => PX.mono e_5 (Ex.refl _) h) hm fun a_17 p_18 vs_19 I_20 H_21 e_22 hp_23 s_24 hl_25 hr_26 hm => ?_
    exact ret_own hm (e_5.trans e_22) (Ex.refl _) hp_23 s_24 hl_25 hr_26
def m_tally (ar_warnings : (List (Int × Int × Int))) (ar_events : (List (Int × Int))) (ar_lead : Int) (ar_slack : Int) : Res (Int × Int × Int) :=
  ((un rLen (un (fun (p : ((List (Int × Int × Int)) × (List (Int × Int)) × Int × Int)) => m_pairing p.1 p.2.1 p.2.2.1 p.2.2.2) (pair (Res.ok ar_warnings) (pair (Res.ok ar_events) (pair (Res.ok ar_lead) (Res.ok ar_slack)))))).bind fun (hits_1 : Int) => ((pair (Res.ok hits_1) (pair (bin rSub (un rLen (Res.ok ar_events)) (Res.ok hits_1)) (bin rSub (un rLen (Res.ok ar_warnings)) (Res.ok hits_1)))).bind fun a_8 => Res.ok a_8))
abbrev N_tally : List Str := ["warnings", "events", "lead", "slack", "hits"]
theorem sc_tally : FnScope N_tally ["warnings", "events", "lead", "slack"] (defScope s_tally) := ⟨rfl, rfl, rfl, by decide +kernel, rfl, by decide +kernel, by decide +kernel⟩
theorem bind_tally {K : PySem.W.Frag} {mg : Str → Option Value} {T : Tx K mg} : Binds K T.d_tally ["warnings", "events", "lead", "slack"] [] := FunD.bindsN T.F_tally fun _ _ _ _ _ _ us hl => match us, hl with | [_, _, _, _], _ => rfl
abbrev sp_tally (K : PySem.W.Frag) : Sp := spP K (tc (pV (pT (tc pI (tc pI (t1 pI))))) (tc (pV (pT (tc pI (t1 pI)))) (tc pI (t1 pI)))) (fun (p : ((List (Int × Int × Int)) × (List (Int × Int)) × Int × Int)) => m_tally p.1 p.2.1 p.2.2.1 p.2.2.2) (pT (tc pI (tc pI (t1 pI))))
theorem ok_tally (T : Tx K mg) : FnOk P w K mg base (L2.CX P w) 24 T.f_tally T.d_tally ["warnings", "events", "lead", "slack"] (sp_tally K) := by
  refine T.F_tally.ok sc_tally (fun vs H Q E h => ?_) (fun cdv A outer s H vs Q E hr h => ?_)
  · obtain ⟨I, C, a, _, hr, _⟩ := h
    exact Rt.len _ hr
  · obtain ⟨I0, C0, ⟨ar_warnings, ar_events, ar_lead, ar_slack⟩, hs, ⟨v_warnings, us0, rfl, r_warnings, v_events, us1, rfl, r_events, v_lead, us2, rfl, r_lead, v_slack, rfl, r_slack⟩, hm⟩ := h
    have hm : Post (m_tally ar_warnings ar_events ar_lead ar_slack) (PQ (pT (tc pI (tc pI (t1 pI)))) I0 C0 Q) (PX E K I0 C0) := hm
    replace r_lead : Rp.r pI ar_lead v_lead I0 Z := Im.im r_lead
    replace r_slack : Rp.r pI ar_slack v_slack I0 Z := Im.im r_slack
    unfold m_tally at hm
    refine ⟨_, (pss_cons (ps_set (i := 4) sc_tally.nd rfl (Or.inl rfl) (pe_callB (r := rLen1 K) call_len_seq (by rfl) T.gb_len bt_len (pa_cons (pe_call (ok_pairing T) (hr.mono (by decide)) rfl T.g_pairing T.F_pairing.kp bind_pairing .nil passE (pa_cons (pv 0) (pa_cons (pv 1) (pa_cons (pv 2) (pa_cons (pv 3) pa_nil))))) pa_nil))) (pss_cons (ps_ret (pe_tup (pa_cons (pv 4) (pa_cons (pe_op op_sub (pe_callB (r := rLen1 K) call_len_seq (by rfl) T.gb_len bt_len (pa_cons (pv 1) pa_nil)) (pv 4)) (pa_cons (pe_op op_sub (pe_callB (r := rLen1 K) call_len_seq (by rfl) T.gb_len bt_len (pa_cons (pv 0) pa_nil)) (pv 4)) pa_nil))))) pss_nil)), ?_⟩
    refine q_asg (E := E) (K := K) (σ := [some v_warnings, some v_events, some v_lead, some v_slack, none]) (i := 4) (x_cb o_len (a_one (x_v (x_own (n_call (a_cons (x_var (i := 0) rfl (Rp.mono _ (Ex.refl _) (Ex.refl _) r_warnings)) (a_cons (x_var (i := 1) rfl (Rp.mono _ (Ex.refl _) (Ex.refl _) r_events)) (a_cons (x_var (i := 2) rfl (Rp.mono _ (Ex.refl _) exz r_lead)) (a_one (x_var (i := 3) rfl (Rp.mono _ (Ex.refl _) exz r_slack))))))))))) hs (fun _ _ h => PX.mono (Ex.refl _) (Ex.refl _) h) hm fun hits_1 v_2 I_3 H_4 e_5 s_6 r_7 hm => ?_
    refine q_ret (tz := tNext) (E := E) (K := K) (σ := [some v_warnings, some v_events, some v_lead, some v_slack, some v_2]) (x_tup (a_cons (x_var (i := 4) rfl (Rp.mono _ (Ex.refl _) exz r_7)) (a_cons (x_op o_sub (x_cb o_len (a_one (x_var (i := 1) rfl (Rp.mono _ e_5 (Ex.refl _) r_events)))) (x_var (i := 4) rfl (Rp.mono _ (Ex.refl _) exz r_7))) (a_one (x_op o_sub (x_cb o_len (a_one (x_var (i := 0) rfl (Rp.mono _ e_5 (Ex.refl _) r_warnings)))) (x_var (i := 4) rfl (Rp.mono _ (Ex.refl _) exz r_7)))))) (Nat.le_of_ble_eq_true rfl)) s_6 (fun _ _ h => PX.mono e_5 (Ex.refl _) h) hm fun a_8 v_9 I_10 H_11 e_12 s_13 r_14 hm => ?_
    exact hm v_9 I_10 H_11 (e_5.trans e_12) (St.less s_13 (Ex.refl _)) (Im.im r_14)
def m__law_mix (ar_cell : Int) (ar_turn : Int) : Res Int :=
  ((bin rMod (un idR (bin rAdd (bin rAdd (bin rMul (Res.ok ar_cell) (Res.ok (69621 : Int))) (bin rMul (Res.ok ar_turn) (Res.ok (48271 : Int)))) (Res.ok (12345 : Int)))) (Res.ok (2147483647 : Int))).bind fun (x_1 : Int) => ((bin rMod (un idR (bin rAdd (bin rMul (Res.ok x_1) (Res.ok (16807 : Int))) (Res.ok (97 : Int)))) (Res.ok (2147483629 : Int))).bind fun (x_8 : Int) => ((bin rMod (un idR (bin rAdd (bin rAdd (bin rMul (Res.ok x_8) (Res.ok (69069 : Int))) (Res.ok ar_cell)) (bin rMul (Res.ok ar_turn) (Res.ok (7 : Int))))) (Res.ok (2147483587 : Int))).bind fun (y_15 : Int) => ((bin rMod (un idR (bin rAdd (bin rMul (Res.ok y_15) (Res.ok (39373 : Int))) (Res.ok (7 : Int)))) (Res.ok (2147483579 : Int))).bind fun (y_22 : Int) => ((bin rAdd (bin rMul (Res.ok x_8) (Res.ok (2147483647 : Int))) (Res.ok y_22)).bind fun a_29 => Res.ok a_29)))))
abbrev N__law_mix : List Str := ["cell", "turn", "x", "y"]
theorem sc__law_mix : FnScope N__law_mix ["cell", "turn"] (defScope s__law_mix) := ⟨rfl, rfl, rfl, by decide +kernel, rfl, by decide +kernel, by decide +kernel⟩
theorem bind__law_mix {K : PySem.W.Frag} {mg : Str → Option Value} {T : Tx K mg} : Binds K T.d__law_mix ["cell", "turn"] [] := FunD.bindsN T.F__law_mix fun _ _ _ _ _ _ us hl => match us, hl with | [_, _], _ => rfl
abbrev sp__law_mix (K : PySem.W.Frag) : Sp := spP K (tc pI (t1 pI)) (fun (p : (Int × Int)) => m__law_mix p.1 p.2) pI
theorem ok__law_mix (T : Tx K mg) : FnOk P w K mg base (L2.CX P w) 1 T.f__law_mix T.d__law_mix ["cell", "turn"] (sp__law_mix K) := by
  refine T.F__law_mix.ok sc__law_mix (fun vs H Q E h => ?_) (fun cdv A outer s H vs Q E hr h => ?_)
  · obtain ⟨I, C, a, _, hr, _⟩ := h
    exact Rt.len _ hr
  · obtain ⟨I0, C0, ⟨ar_cell, ar_turn⟩, hs, ⟨v_cell, us0, rfl, r_cell, v_turn, rfl, r_turn⟩, hm⟩ := h
    have hm : Post (m__law_mix ar_cell ar_turn) (PQ pI I0 C0 Q) (PX E K I0 C0) := hm
    replace r_cell : Rp.r pI ar_cell v_cell I0 Z := Im.im r_cell
    replace r_turn : Rp.r pI ar_turn v_turn I0 Z := Im.im r_turn
    unfold m__law_mix at hm
    refine ⟨_, (pss_cons (ps_set (i := 2) sc__law_mix.nd rfl (Or.inl rfl) (pe_op op_mod (pe_callTy call_int1 (by rfl) T.gb_int bt_int (pa_cons (pe_op op_add (pe_op op_add (pe_op op_mul (pv 0) pe_int) (pe_op op_mul (pv 1) pe_int)) pe_int) pa_nil)) pe_int)) (pss_cons (ps_set (i := 2) sc__law_mix.nd rfl (Or.inl rfl) (pe_op op_mod (pe_callTy call_int1 (by rfl) T.gb_int bt_int (pa_cons (pe_op op_add (pe_op op_mul (pv 2) pe_int) pe_int) pa_nil)) pe_int)) (pss_cons (ps_set (i := 3) sc__law_mix.nd rfl (Or.inl rfl) (pe_op op_mod (pe_callTy call_int1 (by rfl) T.gb_int bt_int (pa_cons (pe_op op_add (pe_op op_add (pe_op op_mul (pv 2) pe_int) (pv 0)) (pe_op op_mul (pv 1) pe_int)) pa_nil)) pe_int)) (pss_cons (ps_set (i := 3) sc__law_mix.nd rfl (Or.inl rfl) (pe_op op_mod (pe_callTy call_int1 (by rfl) T.gb_int bt_int (pa_cons (pe_op op_add (pe_op op_mul (pv 3) pe_int) pe_int) pa_nil)) pe_int)) (pss_cons (ps_ret (pe_op op_add (pe_op op_mul (pv 2) pe_int) (pv 3))) pss_nil))))), ?_⟩
    refine q_asg (E := E) (K := K) (σ := [some v_cell, some v_turn, none, none]) (i := 2) (x_op o_mod (x_cb o_int (a_one (x_op o_add (x_op o_add (x_op o_mul (x_var (i := 0) rfl (Rp.mono _ (Ex.refl _) exz r_cell)) (x_int (i := 69621))) (x_op o_mul (x_var (i := 1) rfl (Rp.mono _ (Ex.refl _) exz r_turn)) (x_int (i := 48271)))) (x_int (i := 12345))))) (x_int (i := 2147483647))) hs (fun _ _ h => PX.mono (Ex.refl _) (Ex.refl _) h) hm fun x_1 v_2 I_3 H_4 e_5 s_6 r_7 hm => ?_
    refine q_asg (E := E) (K := K) (σ := [some v_cell, some v_turn, some v_2, none]) (i := 2) (x_op o_mod (x_cb o_int (a_one (x_op o_add (x_op o_mul (x_var (i := 2) rfl (Rp.mono _ (Ex.refl _) exz r_7)) (x_int (i := 16807))) (x_int (i := 97))))) (x_int (i := 2147483629))) s_6 (fun _ _ h => PX.mono e_5 (Ex.refl _) h) hm fun x_8 v_9 I_10 H_11 e_12 s_13 r_14 hm => ?_
    refine q_asg (E := E) (K := K) (σ := [some v_cell, some v_turn, some v_9, none]) (i := 3) (x_op o_mod (x_cb o_int (a_one (x_op o_add (x_op o_add (x_op o_mul (x_var (i := 2) rfl (Rp.mono _ (Ex.refl _) exz r_14)) (x_int (i := 69069))) (x_var (i := 0) rfl (Rp.mono _ (e_5.trans e_12) exz r_cell))) (x_op o_mul (x_var (i := 1) rfl (Rp.mono _ (e_5.trans e_12) exz r_turn)) (x_int (i := 7)))))) (x_int (i := 2147483587))) s_13 (fun _ _ h => PX.mono (e_5.trans e_12) (Ex.refl _) h) hm fun y_15 v_16 I_17 H_18 e_19 s_20 r_21 hm => ?_
    refine q_asg (E := E) (K := K) (σ := [some v_cell, some v_turn, some v_9, some v_16]) (i := 3) (x_op o_mod (x_cb o_int (a_one (x_op o_add (x_op o_mul (x_var (i := 3) rfl (Rp.mono _ (Ex.refl _) exz r_21)) (x_int (i := 39373))) (x_int (i := 7))))) (x_int (i := 2147483579))) s_20 (fun _ _ h => PX.mono (e_5.trans (e_12.trans e_19)) (Ex.refl _) h) hm fun y_22 v_23 I_24 H_25 e_26 s_27 r_28 hm => ?_
    refine q_ret (tz := tNext) (E := E) (K := K) (σ := [some v_cell, some v_turn, some v_9, some v_23]) (x_op o_add (x_op o_mul (x_var (i := 2) rfl (Rp.mono _ (e_19.trans e_26) exz r_14)) (x_int (i := 2147483647))) (x_var (i := 3) rfl (Rp.mono _ (Ex.refl _) exz r_28))) s_27 (fun _ _ h => PX.mono (e_5.trans (e_12.trans (e_19.trans e_26))) (Ex.refl _) h) hm fun a_29 v_30 I_31 H_32 e_33 s_34 r_35 hm => ?_
    exact hm v_30 I_31 H_32 (e_5.trans (e_12.trans (e_19.trans (e_26.trans e_33)))) (St.less s_34 (Ex.refl _)) (Im.im r_35)
abbrev N__law_pool : List Str := ["script"]
theorem sc__law_pool : FnScope N__law_pool ["script"] (defScope s__law_pool) := ⟨rfl, rfl, rfl, by decide +kernel, rfl, by decide +kernel, by decide +kernel⟩
theorem bind__law_pool {K : PySem.W.Frag} {mg : Str → Option Value} {T : Tx K mg} : Binds K T.d__law_pool ["script"] [] := FunD.bindsN T.F__law_pool fun _ _ _ _ _ _ us hl => match us, hl with | [_], _ => rfl
theorem ok__law_pool (T : Tx K mg) : FnOk P w K mg base (L2.CX P w) 1 T.f__law_pool T.d__law_pool ["script"] (spPool K) := by
  refine T.F__law_pool.ok sc__law_pool (fun vs H Q E h => ?_) (fun cdv A outer s H vs Q E hr h => ?_)
  · obtain ⟨I, C, ns, v, rfl, _⟩ := h
    rfl
  · obtain ⟨I0, C0, ns, v, rfl, hs, r, hm⟩ := h
    refine ⟨_, pss_cons (ps_ret (pe_lst (pa_cons pe_int (pa_cons pe_int (pa_cons pe_int (pa_cons (pe_callTy (r := rList1 K) call_list_of (by rfl) T.gb_list bt_list (pa_cons (pe_slice (r := rSlL K) sl_list (pv 0) po_none (po_some pe_int)) pa_nil)) pa_nil)))))) pss_nil, ?_⟩
    exact n_lstP (E := E) (A := pM) (m := .ok (0, 0, 0, cut ns none (some 63))) (x_is' (a_cons x_int (a_cons x_int (a_cons x_int (a_one (x_cb o_list (a_one (x_v (x_slS (x_var (i := 0) rfl (Im.im r)) p_none (p_some x_int))))))))) rfl) (by decide) hs fun p ws I2 H2 e hp s2 hx => hm p ws I2 H2 e hp s2 hx
def m__law_fill (_ : Unit) (a_pool : Pl) : Res (Unit × Pl) :=
  ((Res.ok a_pool.2.2.2).bind fun (numbers_1 : (List Int)) => ((Res.ok (0 : Int)).bind fun (cell_8 : Int) => ((ifR (bin rLt (Res.ok a_pool.2.1) (un rLen (Res.ok numbers_1))) ((bin ix (Res.ok numbers_1) (Res.ok a_pool.2.1)).bind fun (cell_33 : Int) => (Res.ok (a_pool, cell_33))) (ifR (bin rGt (un rLen (Res.ok numbers_1)) (Res.ok (0 : Int))) ((bin ix (Res.ok numbers_1) (bin rMod (un idR (Res.ok a_pool.2.2.1)) (un rLen (Res.ok numbers_1)))).bind fun (cell_48 : Int) => (Res.ok (a_pool, cell_48))) (Res.ok (a_pool, cell_8)))).bind fun (z_23 : (Pl × Int)) => ((ifR (bin rLt (Res.ok z_23.2) (Res.ok (0 : Int))) ((bin rSub (Res.ok (1 : Int)) (bin rMul (Res.ok (2 : Int)) (Res.ok z_23.2))).bind fun (cell_76 : Int) => (Res.ok cell_76)) (Res.ok z_23.2)).bind fun (z_68 : Int) => (thenR (bin rAdd (Res.ok z_23.1.2.1) (Res.ok (1 : Int))) (fun (a_98 : Int) => (z_23.1.1, (a_98, z_23.1.2.2))) (fun (y_88 : Pl) => (thenR (bin rAdd (Res.ok y_88.2.2.1) (Res.ok (1 : Int))) (fun (a_110 : Int) => (y_88.1, (y_88.2.1, (a_110, y_88.2.2.2)))) (fun (y_100 : Pl) => (ifR (andR (bin rGe (Res.ok z_68) (bin rPow (Res.ok (10 : Int)) (Res.ok (18 : Int)))) (bin rLe (Res.ok y_100.2.1) (un rLen (Res.ok numbers_1)))) (thenR (Res.ok z_68) (fun (a_130 : Int) => (a_130, y_100.2)) (fun (y_120 : Pl) => (Res.ok ((), y_120)))) (thenR (un (fun (p : (Int × Int)) => m__law_mix p.1 p.2) (pair (Res.ok z_68) (Res.ok y_100.2.2.1))) (fun (a_142 : Int) => (a_142, y_100.2)) (fun (y_132 : Pl) => (Res.ok ((), y_132)))))))))))))
abbrev N__law_fill : List Str := ["pool", "numbers", "cell"]
theorem sc__law_fill : FnScope N__law_fill ["pool"] (defScope s__law_fill) := ⟨rfl, rfl, rfl, by decide +kernel, rfl, by decide +kernel, by decide +kernel⟩
theorem bind__law_fill {K : PySem.W.Frag} {mg : Str → Option Value} {T : Tx K mg} : Binds K T.d__law_fill ["pool"] [] := FunD.bindsN T.F__law_fill fun _ _ _ _ _ _ us hl => match us, hl with | [_], _ => rfl
abbrev sp__law_fill (K : PySem.W.Frag) : Sp := spM pM t0 m__law_fill pN
theorem ok__law_fill (T : Tx K mg) : FnOk P w K mg base (L2.CX P w) 2 T.f__law_fill T.d__law_fill ["pool"] (sp__law_fill K) := by
  refine T.F__law_fill.ok sc__law_fill (fun vs H Q E h => ?_) (fun cdv A outer s H vs Q E hr h => ?_)
  · obtain ⟨I, C, p, ws, us, x, a, rfl, _, _, _, hr, _⟩ := h
    exact congrArg (· + 1) (Rt.len _ hr)
  · obtain ⟨I0, C0, p0, ws0, us, a_pool, ⟨⟩, rfl, hs, hc0, hx1, rfl, hm⟩ := h
    have hx0 := It.im (C' := Z) hx1
    have hm : Post (m__law_fill () a_pool) (PM p0 pM pN I0 C0 Q) XF := hm
    unfold m__law_fill at hm
    refine ⟨_, (pss_cons (ps_set (i := 1) sc__law_fill.nd rfl (Or.inl rfl) (pe_ix (r := rIxL K) ix_list (pv 0) pe_int (fun _ _ => rfl))) (pss_cons (ps_set (i := 2) sc__law_fill.nd rfl (Or.inl rfl) pe_int) (Evl.pss_cut (ps_if (pt_cmpR op_lt (pe_ix (r := rIxL K) ix_list (pv 0) pe_int (fun _ _ => rfl)) (pe_callB (r := rLen1 K) call_len_seq (by rfl) T.gb_len bt_len (pa_cons (pv 1) pa_nil)) (nomark _)) (pss_cons (ps_set (i := 2) sc__law_fill.nd rfl (Or.inl rfl) (pe_ix (r := rIxL K) ix_list (pv 1) (pe_ix (r := rIxL K) ix_list (pv 0) pe_int (fun _ _ => rfl)) (fun _ _ => rfl))) pss_nil) (pss_cons (ps_if (pt_cmpR op_gt (pe_callB (r := rLen1 K) call_len_seq (by rfl) T.gb_len bt_len (pa_cons (pv 1) pa_nil)) pe_int (nomark _)) (pss_cons (ps_set (i := 2) sc__law_fill.nd rfl (Or.inl rfl) (pe_ix (r := rIxL K) ix_list (pv 1) (pe_op op_mod (pe_callTy call_int1 (by rfl) T.gb_int bt_int (pa_cons (pe_ix (r := rIxL K) ix_list (pv 0) pe_int (fun _ _ => rfl)) pa_nil)) (pe_callB (r := rLen1 K) call_len_seq (by rfl) T.gb_len bt_len (pa_cons (pv 1) pa_nil))) (fun _ _ => rfl))) pss_nil) pss_nil) pss_nil)) (Evl.pss_cut (ps_if (pt_cmpR op_lt (pv 2) pe_int (nomark _)) (pss_cons (ps_set (i := 2) sc__law_fill.nd rfl (Or.inl rfl) (pe_op op_sub pe_int (pe_op op_mul pe_int (pv 2)))) pss_nil) pss_nil) (pss_cons (ps_asg (pe_op op_add (pe_ix (r := rIxL K) ix_list (pv 0) pe_int (fun _ _ => rfl)) pe_int) (pg_sub (pv 0) pe_int set_list)) (pss_cons (ps_asg (pe_op op_add (pe_ix (r := rIxL K) ix_list (pv 0) pe_int (fun _ _ => rfl)) pe_int) (pg_sub (pv 0) pe_int set_list)) (pss_cons (ps_if (PW.pt (pw_and (pt_cmpR op_ge (pv 2) (pe_op op_pow pe_int pe_int) (nomark _)) (pw_and1 (pt_cmpR op_le (pe_ix (r := rIxL K) ix_list (pv 0) pe_int (fun _ _ => rfl)) (pe_callB (r := rLen1 K) call_len_seq (by rfl) T.gb_len bt_len (pa_cons (pv 1) pa_nil)) (nomark _))))) (pss_cons (ps_asg (pv 2) (pg_sub (pv 0) pe_int set_list)) pss_nil) (pss_cons (ps_asg (pe_call (ok__law_mix T) (hr.mono (by decide)) rfl T.g__law_mix T.F__law_mix.kp bind__law_mix .nil passE (pa_cons (pv 2) (pa_cons (pe_ix (r := rIxL K) ix_list (pv 0) pe_int (fun _ _ => rfl)) pa_nil))) (pg_sub (pv 0) pe_int set_list)) pss_nil)) pss_nil))))))), ?_⟩
    refine q_asg (E := E) (K := K) (σ := [some (.ref p0), none, none]) (i := 1) (q_pool (i := 0) (k := 3) rfl hc0 (Rt.mono _ (Ex.refl _) exz hx0) (pjs (pjs (pjs pj1)))) hs (fun _ _ h => h.elim) hm fun numbers_1 v_2 I_3 H_4 e_5 s_6 r_7 hm => ?_
    refine q_asg (E := E) (K := K) (σ := [some (.ref p0), some v_2, none]) (i := 2) (x_int (i := 0)) s_6 (fun _ _ h => h.elim) hm fun cell_8 v_9 I_10 H_11 e_12 s_13 r_14 hm => ?_
    refine s_ifj (E := E) (K := K) (σ := [some (.ref p0), some v_2, some v_9]) (fun (z_23 : (Pl × Int)) σ2 I_25 C_26 => ∃ v_30 : V, σ2 = [some (.ref p0), some v_2, some v_30] ∧ (∃ ws_27 : List V, C_26 p0 = some (.lst ws_27) ∧ Rt.r pM z_23.1 ws_27 I_25 Z) ∧ Rp.r pI z_23.2 v_30 I_25 Z ∧ Ex (off C0 p0) C_26) (t_test (x_op o_lt (q_pool (i := 0) (k := 1) rfl hc0 (Rt.mono _ (e_5.trans e_12) exz hx0) (pjs pj0)) (x_cb o_len (a_one (x_v (x_var (i := 1) rfl (Rp.mono _ e_12 exz r_7))))))) s_13 (fun _ _ h => h.elim) hm (fun N I_15 H_16 e_17 s_18 hm => ?_) (fun N I_19 H_20 e_21 s_22 hm => ?_) (fun z_23 σ2 I_55 C_56 H_57 e_58 s_59 ⟨v_30, hs_24, ⟨ws_27, hc_28, hx_29⟩, r_31, fr_32⟩ hm => ?_)
    · refine q_asg (E := E) (K := K) (σ := [some (.ref p0), some v_2, some v_9]) (i := 2) (x_op o_ix (x_v (x_var (i := 1) rfl (Rp.mono _ (e_12.trans e_17) exz r_7))) (q_pool (i := 0) (k := 1) rfl hc0 (Rt.mono _ (e_5.trans (e_12.trans e_17)) exz hx0) (pjs pj0))) s_18 (fun _ _ h => h.elim) hm fun cell_33 v_34 I_35 H_36 e_37 s_38 r_39 hm => ?_
      exact hm _ _ _ _ (e_17.trans e_37) s_38 ⟨v_34, rfl, ⟨_, hc0, Rt.mono _ (e_5.trans (e_12.trans (e_17.trans e_37))) exz hx0⟩, Rp.mono _ (Ex.refl _) exz r_39, (off_ex (C := C0) (p := p0))⟩
    · refine s_if (E := E) (K := K) (σ := [some (.ref p0), some v_2, some v_9]) (t_test (x_op o_gt (x_cb o_len (a_one (x_v (x_var (i := 1) rfl (Rp.mono _ (e_12.trans e_21) exz r_7))))) (x_int (i := 0)))) s_22 (fun _ _ h => h.elim) hm (fun I_40 H_41 e_42 s_43 hm => ?_) (fun I_44 H_45 e_46 s_47 hm => ?_)
      · refine q_asg (E := E) (K := K) (σ := [some (.ref p0), some v_2, some v_9]) (i := 2) (x_op o_ix (x_v (x_var (i := 1) rfl (Rp.mono _ (e_12.trans (e_21.trans e_42)) exz r_7))) (x_op o_mod (x_cb o_int (a_one (q_pool (i := 0) (k := 2) rfl hc0 (Rt.mono _ (e_5.trans (e_12.trans (e_21.trans e_42))) exz hx0) (pjs (pjs pj0))))) (x_cb o_len (a_one (x_v (x_var (i := 1) rfl (Rp.mono _ (e_12.trans (e_21.trans e_42)) exz r_7))))))) s_43 (fun _ _ h => h.elim) hm fun cell_48 v_49 I_50 H_51 e_52 s_53 r_54 hm => ?_
        exact hm _ _ _ _ (e_21.trans (e_42.trans e_52)) s_53 ⟨v_49, rfl, ⟨_, hc0, Rt.mono _ (e_5.trans (e_12.trans (e_21.trans (e_42.trans e_52)))) exz hx0⟩, Rp.mono _ (Ex.refl _) exz r_54, (off_ex (C := C0) (p := p0))⟩
      · exact hm _ _ _ _ (e_21.trans e_46) s_47 ⟨v_9, rfl, ⟨_, hc0, Rt.mono _ (e_5.trans (e_12.trans (e_21.trans e_46))) exz hx0⟩, Rp.mono _ (e_21.trans e_46) exz r_14, (off_ex (C := C0) (p := p0))⟩
    subst hs_24
    refine s_ifj (E := E) (K := K) (σ := [some (.ref p0), some v_2, some v_30]) (fun (z_68 : Int) σ2 I_70 C_71 => ∃ v_72 : V, σ2 = [some (.ref p0), some v_2, some v_72] ∧ Rp.r pI z_68 v_72 I_70 Z ∧ C_71 p0 = some (.lst ws_27) ∧ Ex (off C0 p0) C_71) (t_test (x_op o_lt (x_var (i := 2) rfl (Rp.mono _ (Ex.refl _) exz r_31)) (x_int (i := 0)))) s_59 (fun _ _ h => h.elim) hm (fun N I_60 H_61 e_62 s_63 hm => ?_) (fun N I_64 H_65 e_66 s_67 hm => ?_) (fun z_68 σ2 I_83 C_84 H_85 e_86 s_87 ⟨v_72, hs_69, r_73, hc_74, fr_75⟩ hm => ?_)
    · refine q_asg (E := E) (K := K) (σ := [some (.ref p0), some v_2, some v_30]) (i := 2) (x_op o_sub (x_int (i := 1)) (x_op o_mul (x_int (i := 2)) (x_var (i := 2) rfl (Rp.mono _ e_62 exz r_31)))) s_63 (fun _ _ h => h.elim) hm fun cell_76 v_77 I_78 H_79 e_80 s_81 r_82 hm => ?_
      exact hm _ _ _ _ (e_62.trans e_80) s_81 ⟨v_77, rfl, Rp.mono _ (Ex.refl _) exz r_82, hc_28, fr_32⟩
    · exact hm _ _ _ _ e_66 s_67 ⟨v_30, rfl, Rp.mono _ e_66 exz r_31, hc_28, fr_32⟩
    subst hs_69
    refine q_setT (E := E) (K := K) (σ := [some (.ref p0), some v_2, some v_72]) (i := 0) (k := 1) rfl (x_op o_add (q_pool (i := 0) (k := 1) rfl hc_74 (Rt.mono _ e_86 exz hx_29) (pjs pj0)) (x_int (i := 1))) (pks pk0) s_87 hc_74 (Rt.mono _ e_86 exz hx_29) hm fun y_88 ws_89 I_90 C_91 H_92 e_93 s_94 hc_95 k_96 hx_97 hm => ?_
    have fr_99 := fr_pool fr_75 k_96
    refine q_setT (E := E) (K := K) (σ := [some (.ref p0), some v_2, some v_72]) (i := 0) (k := 2) rfl (x_op o_add (q_pool (i := 0) (k := 2) rfl hc_95 (Rt.mono _ (Ex.refl _) exz hx_97) (pjs (pjs pj0))) (x_int (i := 1))) (pks (pks pk0)) s_94 hc_95 (Rt.mono _ (Ex.refl _) exz hx_97) hm fun y_100 ws_101 I_102 C_103 H_104 e_105 s_106 hc_107 k_108 hx_109 hm => ?_
    have fr_111 := fr_pool fr_99 k_108
    refine s_if (E := E) (K := K) (σ := [some (.ref p0), some v_2, some v_72]) (t_and (t_test (x_op o_ge (x_var (i := 2) rfl (Rp.mono _ (e_93.trans e_105) exz r_73)) (x_op o_pow (x_int (i := 10)) (x_int (i := 18))))) (t_test (x_op o_le (q_pool (i := 0) (k := 1) rfl hc_107 (Rt.mono _ (Ex.refl _) exz hx_109) (pjs pj0)) (x_cb o_len (a_one (x_v (x_var (i := 1) rfl (Rp.mono _ (e_12.trans (e_58.trans (e_86.trans (e_93.trans e_105)))) exz r_7)))))))) s_106 (fun _ _ h => h.elim) hm (fun I_112 H_113 e_114 s_115 hm => ?_) (fun I_116 H_117 e_118 s_119 hm => ?_)
    · refine q_setT (E := E) (K := K) (σ := [some (.ref p0), some v_2, some v_72]) (i := 0) (k := 0) rfl (x_var (i := 2) rfl (Rp.mono _ (e_93.trans (e_105.trans e_114)) exz r_73)) pk0 s_115 hc_107 (Rt.mono _ e_114 exz hx_109) hm fun y_120 ws_121 I_122 C_123 H_124 e_125 s_126 hc_127 k_128 hx_129 hm => ?_
      have fr_131 := fr_pool fr_111 k_128
      exact ret_poolN hm (e_5.trans (e_12.trans (e_58.trans (e_86.trans (e_93.trans (e_105.trans (e_114.trans e_125))))))) fr_131 s_126 hc_127 (Rt.mono _ (Ex.refl _) exz hx_129)
    · refine q_setT (E := E) (K := K) (σ := [some (.ref p0), some v_2, some v_72]) (i := 0) (k := 0) rfl (x_call (a_cons (x_var (i := 2) rfl (Rp.mono _ (e_93.trans (e_105.trans e_118)) exz r_73)) (a_one (q_pool (i := 0) (k := 2) rfl hc_107 (Rt.mono _ e_118 exz hx_109) (pjs (pjs pj0)))))) pk0 s_119 hc_107 (Rt.mono _ e_118 exz hx_109) hm fun y_132 ws_133 I_134 C_135 H_136 e_137 s_138 hc_139 k_140 hx_141 hm => ?_
      have fr_143 := fr_pool fr_111 k_140
      exact ret_poolN hm (e_5.trans (e_12.trans (e_58.trans (e_86.trans (e_93.trans (e_105.trans (e_118.trans e_137))))))) fr_143 s_138 hc_139 (Rt.mono _ (Ex.refl _) exz hx_141)
def m__law_take (ar_many : Int) (a_pool : Pl) : Res (Int × Pl) :=
  ((ifR (bin rLt (Res.ok a_pool.1) (Res.ok ar_many)) (((m__law_fill ()) a_pool).bind fun (b_17 : Unit × Pl) => (Res.ok b_17.2)) (Res.ok a_pool)).bind fun (z_9 : Pl) => ((bin rMod (un idR (Res.ok z_9.1)) (Res.ok ar_many)).bind fun (value_33 : Int) => (thenR (bin rDiv (Res.ok z_9.1) (Res.ok ar_many)) (fun (a_50 : Int) => (a_50, z_9.2)) (fun (y_40 : Pl) => ((Res.ok value_33).bind fun a_52 => Res.ok (a_52, y_40))))))
abbrev N__law_take : List Str := ["pool", "many", "value"]
theorem sc__law_take : FnScope N__law_take ["pool", "many"] (defScope s__law_take) := ⟨rfl, rfl, rfl, by decide +kernel, rfl, by decide +kernel, by decide +kernel⟩
theorem bind__law_take {K : PySem.W.Frag} {mg : Str → Option Value} {T : Tx K mg} : Binds K T.d__law_take ["pool", "many"] [] := FunD.bindsN T.F__law_take fun _ _ _ _ _ _ us hl => match us, hl with | [_, _], _ => rfl
abbrev sp__law_take (K : PySem.W.Frag) : Sp := spM pM (t1 pI) m__law_take pI
theorem ok__law_take (T : Tx K mg) : FnOk P w K mg base (L2.CX P w) 3 T.f__law_take T.d__law_take ["pool", "many"] (sp__law_take K) := by
  refine T.F__law_take.ok sc__law_take (fun vs H Q E h => ?_) (fun cdv A outer s H vs Q E hr h => ?_)
  · obtain ⟨I, C, p, ws, us, x, a, rfl, _, _, _, hr, _⟩ := h
    exact congrArg (· + 1) (Rt.len _ hr)
  · obtain ⟨I0, C0, p0, ws0, us, a_pool, ar_many, rfl, hs, hc0, hx1, ⟨v_many, rfl, r_many⟩, hm⟩ := h
    have hx0 := It.im (C' := Z) hx1
    have hm : Post (m__law_take ar_many a_pool) (PM p0 pM pI I0 C0 Q) XF := hm
    replace r_many : Rp.r pI ar_many v_many I0 Z := Im.im r_many
    unfold m__law_take at hm
    refine ⟨_, (Evl.pss_cut (ps_if (pt_cmpR op_lt (pe_ix (r := rIxL K) ix_list (pv 0) pe_int (fun _ _ => rfl)) (pv 1) (nomark _)) (pss_cons (ps_expr (pe_call (ok__law_fill T) (hr.mono (by decide)) rfl T.g__law_fill T.F__law_fill.kp bind__law_fill .nil passE (pa_cons (pv 0) pa_nil))) pss_nil) pss_nil) (pss_cons (ps_set (i := 2) sc__law_take.nd rfl (Or.inl rfl) (pe_op op_mod (pe_callTy call_int1 (by rfl) T.gb_int bt_int (pa_cons (pe_ix (r := rIxL K) ix_list (pv 0) pe_int (fun _ _ => rfl)) pa_nil)) (pv 1))) (pss_cons (ps_asg (pe_op op_fdiv (pe_ix (r := rIxL K) ix_list (pv 0) pe_int (fun _ _ => rfl)) (pv 1)) (pg_sub (pv 0) pe_int set_list)) (pss_cons (ps_ret (pv 2)) pss_nil)))), ?_⟩
    refine s_ifj (E := E) (K := K) (σ := [some (.ref p0), some v_many, none]) (fun (z_9 : Pl) σ2 I_11 C_12 => σ2 = [some (.ref p0), some v_many, none] ∧ (∃ ws_13 : List V, C_12 p0 = some (.lst ws_13) ∧ Rt.r pM z_9 ws_13 I_11 Z) ∧ Ex (off C0 p0) C_12) (t_test (x_op o_lt (q_pool (i := 0) (k := 0) rfl hc0 (Rt.mono _ (Ex.refl _) exz hx0) pj0) (x_var (i := 1) rfl (Rp.mono _ (Ex.refl _) exz r_many)))) hs (fun _ _ h => h.elim) hm (fun N I_1 H_2 e_3 s_4 hm => ?_) (fun N I_5 H_6 e_7 s_8 hm => ?_) (fun z_9 σ2 I_28 C_29 H_30 e_31 s_32 ⟨hs_10, ⟨ws_13, hc_14, hx_15⟩, fr_16⟩ hm => ?_)
    · refine qm_expr (E := E) (K := K) (σ := [some (.ref p0), some v_many, none]) (m_callM0 (i := 0) rfl) s_4 hc0 (Rt.mono _ e_3 exz hx0) hm fun b_17 ws_18 I_19 C_20 H_21 e_22 s_23 hc_24 k_25 hx_26 hm => ?_
      have fr_27 := fr_pool (off_ex (C := C0) (p := p0)) k_25
      exact hm _ _ _ _ (e_3.trans e_22) s_23 ⟨rfl, ⟨_, hc_24, Rt.mono _ (Ex.refl _) exz hx_26⟩, fr_27⟩
    · exact hm _ _ _ _ e_7 s_8 ⟨rfl, ⟨_, hc0, Rt.mono _ e_7 exz hx0⟩, (off_ex (C := C0) (p := p0))⟩
    subst hs_10
    refine q_asg (E := E) (K := K) (σ := [some (.ref p0), some v_many, none]) (i := 2) (x_op o_mod (x_cb o_int (a_one (q_pool (i := 0) (k := 0) rfl hc_14 (Rt.mono _ (Ex.refl _) exz hx_15) pj0))) (x_var (i := 1) rfl (Rp.mono _ e_31 exz r_many))) s_32 (fun _ _ h => h.elim) hm fun value_33 v_34 I_35 H_36 e_37 s_38 r_39 hm => ?_
    refine q_setT (E := E) (K := K) (σ := [some (.ref p0), some v_many, some v_34]) (i := 0) (k := 0) rfl (x_op o_fdiv (q_pool (i := 0) (k := 0) rfl hc_14 (Rt.mono _ e_37 exz hx_15) pj0) (x_var (i := 1) rfl (Rp.mono _ (e_31.trans e_37) exz r_many))) pk0 s_38 hc_14 (Rt.mono _ e_37 exz hx_15) hm fun y_40 ws_41 I_42 C_43 H_44 e_45 s_46 hc_47 k_48 hx_49 hm => ?_
    have fr_51 := fr_pool fr_16 k_48
    refine q_ret (tz := tNext) (E := E) (K := K) (σ := [some (.ref p0), some v_many, some v_34]) (x_var (i := 2) rfl (Rp.mono _ e_45 exz r_39)) s_46 (fun _ _ h => h.elim) hm fun a_52 v_53 I_54 H_55 e_56 s_57 r_58 hm => ?_
    exact ret_pool hm (e_31.trans (e_37.trans (e_45.trans e_56))) fr_51 s_57 hc_47 (Rt.mono _ e_56 exz hx_49) r_58
def m__law_from (ar_low : Int) (ar_high : Int) (a_pool : Pl) : Res (Int × Pl) :=
  (((binM rAdd (liftM (Res.ok ar_low)) (callM m__law_take (liftM (bin rAdd (bin rSub (Res.ok ar_high) (Res.ok ar_low)) (Res.ok (1 : Int)))))) a_pool).bind fun a_1 => Res.ok (a_1.1, a_1.2))
abbrev N__law_from : List Str := ["pool", "low", "high"]
theorem sc__law_from : FnScope N__law_from ["pool", "low", "high"] (defScope s__law_from) := ⟨rfl, rfl, rfl, by decide +kernel, rfl, by decide +kernel, by decide +kernel⟩
theorem bind__law_from {K : PySem.W.Frag} {mg : Str → Option Value} {T : Tx K mg} : Binds K T.d__law_from ["pool", "low", "high"] [] := FunD.bindsN T.F__law_from fun _ _ _ _ _ _ us hl => match us, hl with | [_, _, _], _ => rfl
abbrev sp__law_from (K : PySem.W.Frag) : Sp := spM pM (tc pI (t1 pI)) (fun (p : (Int × Int)) => m__law_from p.1 p.2) pI
theorem ok__law_from (T : Tx K mg) : FnOk P w K mg base (L2.CX P w) 4 T.f__law_from T.d__law_from ["pool", "low", "high"] (sp__law_from K) := by
  refine T.F__law_from.ok sc__law_from (fun vs H Q E h => ?_) (fun cdv A outer s H vs Q E hr h => ?_)
  · obtain ⟨I, C, p, ws, us, x, a, rfl, _, _, _, hr, _⟩ := h
    exact congrArg (· + 1) (Rt.len _ hr)
  · obtain ⟨I0, C0, p0, ws0, us, a_pool, ⟨ar_low, ar_high⟩, rfl, hs, hc0, hx1, ⟨v_low, us0, rfl, r_low, v_high, rfl, r_high⟩, hm⟩ := h
    have hx0 := It.im (C' := Z) hx1
    have hm : Post (m__law_from ar_low ar_high a_pool) (PM p0 pM pI I0 C0 Q) XF := hm
    replace r_low : Rp.r pI ar_low v_low I0 Z := Im.im r_low
    replace r_high : Rp.r pI ar_high v_high I0 Z := Im.im r_high
    unfold m__law_from at hm
    refine ⟨_, (pss_cons (ps_ret (pe_op op_add (pv 1) (pe_call (ok__law_take T) (hr.mono (by decide)) rfl T.g__law_take T.F__law_take.kp bind__law_take .nil passE (pa_cons (pv 0) (pa_cons (pe_op op_add (pe_op op_sub (pv 2) (pv 1)) pe_int) pa_nil))))) pss_nil), ?_⟩
    refine qm_ret (E := E) (K := K) (σ := [some (.ref p0), some v_low, some v_high]) (m_op (fun _ => o_add) off_same (m_pure (x_var (i := 1) rfl (Rp.mono _ (Ex.refl _) exz r_low))) (m_callM (i := 0) rfl (am_pure (a_one (x_op o_add (x_op o_sub (x_var (i := 2) rfl (Rp.mono _ (Ex.refl _) exz r_high)) (x_var (i := 1) rfl (Rp.mono _ (Ex.refl _) exz r_low))) (x_int (i := 1))))))) hs hc0 (Rt.mono _ (Ex.refl _) exz hx0) hm fun a_1 v_2 ws_8 I_3 C_9 H_4 e_5 s_6 hc_10 k_11 hx_12 r_7 hm => ?_
    have fr_13 := fr_pool (off_ex (C := C0) (p := p0)) k_11
    exact ret_pool hm e_5 fr_13 s_6 hc_10 hx_12 r_7
def m__law_is_int (ar_value : Int) : Res Bool :=
  ((andR (un (fun _ => Res.ok true) (pair (Res.ok ar_value) (Res.ok ()))) (un notR (un (fun _ => Res.ok false) (pair (Res.ok ar_value) (Res.ok ()))))).bind fun a_1 => Res.ok a_1)
abbrev N__law_is_int : List Str := ["value"]
theorem sc__law_is_int : FnScope N__law_is_int ["value"] (defScope s__law_is_int) := ⟨rfl, rfl, rfl, by decide +kernel, rfl, by decide +kernel, by decide +kernel⟩
theorem bind__law_is_int {K : PySem.W.Frag} {mg : Str → Option Value} {T : Tx K mg} : Binds K T.d__law_is_int ["value"] [] := FunD.bindsN T.F__law_is_int fun _ _ _ _ _ _ us hl => match us, hl with | [_], _ => rfl
abbrev sp__law_is_int (K : PySem.W.Frag) : Sp := spP K (t1 pI) m__law_is_int pB
theorem ok__law_is_int (T : Tx K mg) : FnOk P w K mg base (L2.CX P w) 1 T.f__law_is_int T.d__law_is_int ["value"] (sp__law_is_int K) := by
  refine T.F__law_is_int.ok sc__law_is_int (fun vs H Q E h => ?_) (fun cdv A outer s H vs Q E hr h => ?_)
  · obtain ⟨I, C, a, _, hr, _⟩ := h
    exact Rt.len _ hr
  · obtain ⟨I0, C0, ar_value, hs, ⟨v_value, rfl, r_value⟩, hm⟩ := h
    have hm : Post (m__law_is_int ar_value) (PQ pB I0 C0 Q) (PX E K I0 C0) := hm
    replace r_value : Rp.r pI ar_value v_value I0 Z := Im.im r_value
    unfold m__law_is_int at hm
    refine ⟨_, (pss_cons (ps_ret (pe_and (pe_callB (r := rIsi K) call_isi (by rfl) T.gb_isinstance bt_isinstance (pa_cons (pv 0) (pa_cons (pe_bltn (v := .ty "int") rfl T.gb_int bt_int rfl) pa_nil))) (pe_one (pe_not (pe_callB (r := rIsi K) call_isi (by rfl) T.gb_isinstance bt_isinstance (pa_cons (pv 0) (pa_cons (pe_bltn (v := .ty "bool") rfl T.gb_bool bt_bool rfl) pa_nil))))))) pss_nil), ?_⟩
    refine q_ret (tz := tNext) (E := E) (K := K) (σ := [some v_value]) (x_andV (x_cb (o_isi (n := "int") (by decide +kernel)) (a_cons (x_var (i := 0) rfl (Rp.mono _ (Ex.refl _) exz r_value)) (a_one (x_c (R := pY "int") (a := ()) fun _ _ => rfl)))) (x_notV (x_cb (o_isi (n := "int") (by decide +kernel)) (a_cons (x_var (i := 0) rfl (Rp.mono _ (Ex.refl _) exz r_value)) (a_one (x_c (R := pY "bool") (a := ()) fun _ _ => rfl)))))) hs (fun _ _ h => PX.mono (Ex.refl _) (Ex.refl _) h) hm fun a_1 v_2 I_3 H_4 e_5 s_6 r_7 hm => ?_
    exact hm v_2 I_3 H_4 e_5 (St.less s_6 (Ex.refl _)) (Im.im r_7)
theorem okJ__law_is_int (T : Tx K mg) : L2H.FnJ P w K mg base (L2.CX P w) 1 T.f__law_is_int T.d__law_is_int ["value"] (sp__law_is_int K) := by
  refine T.F__law_is_int.okJ sc__law_is_int (fun vs H Q E h => ?_) (fun cdv A outer s H vs Q E hp hr h => ?_)
  · obtain ⟨I, C, a, _, hr, _⟩ := h
    exact Rt.len _ hr
  · obtain ⟨I0, C0, ar_value, hs, ⟨v_value, rfl, r_value⟩, hm⟩ := h
    have hm : Post (m__law_is_int ar_value) (PQ pB I0 C0 Q) (PX E K I0 C0) := hm
    replace r_value : Rp.r pI ar_value v_value I0 Z := Im.im r_value
    unfold m__law_is_int at hm
    refine ⟨_, (pss_cons (ps_ret (pe_and (pe_callB (r := rIsi K) call_isi (by rfl) T.gb_isinstance bt_isinstance (pa_cons (pv 0) (pa_cons (pe_bltn (v := .ty "int") rfl T.gb_int bt_int rfl) pa_nil))) (pe_one (pe_not (pe_callB (r := rIsi K) call_isi (by rfl) T.gb_isinstance bt_isinstance (pa_cons (pv 0) (pa_cons (pe_bltn (v := .ty "bool") rfl T.gb_bool bt_bool rfl) pa_nil))))))) pss_nil), ?_⟩
    refine q_ret (tz := tNext) (E := E) (K := K) (σ := [some v_value]) (x_andV (x_cb (o_isi (n := "int") (by decide +kernel)) (a_cons (x_var (i := 0) rfl (Rp.mono _ (Ex.refl _) exz r_value)) (a_one (x_c (R := pY "int") (a := ()) fun _ _ => rfl)))) (x_notV (x_cb (o_isi (n := "int") (by decide +kernel)) (a_cons (x_var (i := 0) rfl (Rp.mono _ (Ex.refl _) exz r_value)) (a_one (x_c (R := pY "bool") (a := ()) fun _ _ => rfl)))))) hs (fun _ _ h => PX.mono (Ex.refl _) (Ex.refl _) h) hm fun a_1 v_2 I_3 H_4 e_5 s_6 r_7 hm => ?_
    exact hm v_2 I_3 H_4 e_5 (St.less s_6 (Ex.refl _)) (Im.im r_7)
def m__law_near (ar_most : Int) (a_pool : Pl) : Res (Int × Pl) :=
  (ifMR (binM eqR (callM m__law_take (liftM (Res.ok (6 : Int)))) (liftM (Res.ok (0 : Int)))) a_pool (fun (y_9 : Pl) => (((callM m__law_take (liftM (bin rAdd (Res.ok ar_most) (Res.ok (1 : Int))))) y_9).bind fun a_22 => Res.ok (a_22.1, a_22.2))) (fun (y_15 : Pl) => (((callM m__law_take (liftM (Res.ok (4 : Int)))) y_15).bind fun a_36 => Res.ok (a_36.1, a_36.2))))
abbrev N__law_near : List Str := ["pool", "most"]
theorem sc__law_near : FnScope N__law_near ["pool", "most"] (defScope s__law_near) := ⟨rfl, rfl, rfl, by decide +kernel, rfl, by decide +kernel, by decide +kernel⟩
theorem bind__law_near {K : PySem.W.Frag} {mg : Str → Option Value} {T : Tx K mg} : Binds K T.d__law_near ["pool", "most"] [] := FunD.bindsN T.F__law_near fun _ _ _ _ _ _ us hl => match us, hl with | [_, _], _ => rfl
abbrev sp__law_near (K : PySem.W.Frag) : Sp := spM pM (t1 pI) m__law_near pI
theorem ok__law_near (T : Tx K mg) : FnOk P w K mg base (L2.CX P w) 4 T.f__law_near T.d__law_near ["pool", "most"] (sp__law_near K) := by
  refine T.F__law_near.ok sc__law_near (fun vs H Q E h => ?_) (fun cdv A outer s H vs Q E hr h => ?_)
  · obtain ⟨I, C, p, ws, us, x, a, rfl, _, _, _, hr, _⟩ := h
    exact congrArg (· + 1) (Rt.len _ hr)
  · obtain ⟨I0, C0, p0, ws0, us, a_pool, ar_most, rfl, hs, hc0, hx1, ⟨v_most, rfl, r_most⟩, hm⟩ := h
    have hx0 := It.im (C' := Z) hx1
    have hm : Post (m__law_near ar_most a_pool) (PM p0 pM pI I0 C0 Q) XF := hm
    replace r_most : Rp.r pI ar_most v_most I0 Z := Im.im r_most
    unfold m__law_near at hm
    refine ⟨_, (pss_cons (ps_if (pt_cmpR op_eq (pe_call (ok__law_take T) (hr.mono (by decide)) rfl T.g__law_take T.F__law_take.kp bind__law_take .nil passE (pa_cons (pv 0) (pa_cons pe_int pa_nil))) pe_int (nomark _)) (pss_cons (ps_ret (pe_call (ok__law_take T) (hr.mono (by decide)) rfl T.g__law_take T.F__law_take.kp bind__law_take .nil passE (pa_cons (pv 0) (pa_cons (pe_op op_add (pv 1) pe_int) pa_nil)))) pss_nil) pss_nil) (pss_cons (ps_ret (pe_call (ok__law_take T) (hr.mono (by decide)) rfl T.g__law_take T.F__law_take.kp bind__law_take .nil passE (pa_cons (pv 0) (pa_cons pe_int pa_nil)))) pss_nil)), ?_⟩
    refine qm_if (E := E) (K := K) (σ := [some (.ref p0), some v_most]) (tm_test (m_op (fun _ => o_eqI) off_same (m_callM (i := 0) rfl (am_pure (a_one (x_int (i := 6))))) (m_pure (x_int (i := 0))))) hs hc0 (Rt.mono _ (Ex.refl _) exz hx0) hm (fun y_9 ws_10 I_1 C_11 H_2 e_3 s_4 hc_12 k_13 hx_14 hm => ?_) (fun y_15 ws_16 I_5 C_17 H_6 e_7 s_8 hc_18 k_19 hx_20 hm => ?_)
    · have fr_21 := fr_pool (off_ex (C := C0) (p := p0)) k_13
      refine qm_ret (E := E) (K := K) (σ := [some (.ref p0), some v_most]) (m_callM (i := 0) rfl (am_pure (a_one (x_op o_add (x_var (i := 1) rfl (Rp.mono _ e_3 exz r_most)) (x_int (i := 1)))))) s_4 hc_12 (Rt.mono _ (Ex.refl _) exz hx_14) hm fun a_22 v_23 ws_29 I_24 C_30 H_25 e_26 s_27 hc_31 k_32 hx_33 r_28 hm => ?_
      have fr_34 := fr_pool fr_21 k_32
      exact ret_pool hm (e_3.trans e_26) fr_34 s_27 hc_31 hx_33 r_28
    · have fr_35 := fr_pool (off_ex (C := C0) (p := p0)) k_19
      refine qm_ret (E := E) (K := K) (σ := [some (.ref p0), some v_most]) (m_callM (i := 0) rfl (am_pure (a_one (x_int (i := 4))))) s_8 hc_18 (Rt.mono _ (Ex.refl _) exz hx_20) hm fun a_36 v_37 ws_43 I_38 C_44 H_39 e_40 s_41 hc_45 k_46 hx_47 r_42 hm => ?_
      have fr_48 := fr_pool fr_35 k_46
      exact ret_pool hm (e_7.trans e_40) fr_48 s_41 hc_45 hx_47 r_42
def m__law_span (ar_far : Int) (a_pool : Pl) : Res ((Int × Int) × Pl) :=
  (((callM m__law_take (liftM (Res.ok ar_far))) a_pool).bind fun (start_1 : Int × Pl) => (ifMR (binM eqR (callM m__law_take (liftM (Res.ok (8 : Int)))) (liftM (Res.ok (0 : Int)))) start_1.2 (fun (y_22 : Pl) => (((pairM (liftM (Res.ok start_1.1)) (callM (fun (p : (Int × Int)) => m__law_from p.1 p.2) (liftM (pair (bin rAdd (Res.ok start_1.1) (Res.ok (1 : Int))) (Res.ok (48 : Int)))))) y_22).bind fun a_35 => Res.ok (a_35.1, a_35.2))) (fun (y_28 : Pl) => (((pairM (liftM (Res.ok start_1.1)) (unM min2 (pairM (liftM (Res.ok (48 : Int))) (binM rAdd (liftM (Res.ok start_1.1)) (callM (fun (p : (Int × Int)) => m__law_from p.1 p.2) (liftM (pair (Res.ok (1 : Int)) (Res.ok (5 : Int))))))))) y_28).bind fun a_49 => Res.ok (a_49.1, a_49.2)))))
abbrev N__law_span : List Str := ["pool", "far", "start"]
theorem sc__law_span : FnScope N__law_span ["pool", "far"] (defScope s__law_span) := ⟨rfl, rfl, rfl, by decide +kernel, rfl, by decide +kernel, by decide +kernel⟩
theorem bind__law_span {K : PySem.W.Frag} {mg : Str → Option Value} {T : Tx K mg} : Binds K T.d__law_span ["pool", "far"] [] := FunD.bindsN T.F__law_span fun _ _ _ _ _ _ us hl => match us, hl with | [_, _], _ => rfl
abbrev sp__law_span (K : PySem.W.Frag) : Sp := spM pM (t1 pI) m__law_span (pT (tc pI (t1 pI)))
theorem ok__law_span (T : Tx K mg) : FnOk P w K mg base (L2.CX P w) 5 T.f__law_span T.d__law_span ["pool", "far"] (sp__law_span K) := by
  refine T.F__law_span.ok sc__law_span (fun vs H Q E h => ?_) (fun cdv A outer s H vs Q E hr h => ?_)
  · obtain ⟨I, C, p, ws, us, x, a, rfl, _, _, _, hr, _⟩ := h
    exact congrArg (· + 1) (Rt.len _ hr)
  · obtain ⟨I0, C0, p0, ws0, us, a_pool, ar_far, rfl, hs, hc0, hx1, ⟨v_far, rfl, r_far⟩, hm⟩ := h
    have hx0 := It.im (C' := Z) hx1
    have hm : Post (m__law_span ar_far a_pool) (PM p0 pM (pT (tc pI (t1 pI))) I0 C0 Q) XF := hm
    replace r_far : Rp.r pI ar_far v_far I0 Z := Im.im r_far
    unfold m__law_span at hm
    refine ⟨_, (pss_cons (ps_set (i := 2) sc__law_span.nd rfl (Or.inl rfl) (pe_call (ok__law_take T) (hr.mono (by decide)) rfl T.g__law_take T.F__law_take.kp bind__law_take .nil passE (pa_cons (pv 0) (pa_cons (pv 1) pa_nil)))) (pss_cons (ps_if (pt_cmpR op_eq (pe_call (ok__law_take T) (hr.mono (by decide)) rfl T.g__law_take T.F__law_take.kp bind__law_take .nil passE (pa_cons (pv 0) (pa_cons pe_int pa_nil))) pe_int (nomark _)) (pss_cons (ps_ret (pe_tup (pa_cons (pv 2) (pa_cons (pe_call (ok__law_from T) (hr.mono (by decide)) rfl T.g__law_from T.F__law_from.kp bind__law_from .nil passE (pa_cons (pv 0) (pa_cons (pe_op op_add (pv 2) pe_int) (pa_cons pe_int pa_nil)))) pa_nil)))) pss_nil) pss_nil) (pss_cons (ps_ret (pe_tup (pa_cons (pv 2) (pa_cons (pe_callB (call_min2 rfl) (by rfl) T.gb_min bt_min (pa_cons pe_int (pa_cons (pe_op op_add (pv 2) (pe_call (ok__law_from T) (hr.mono (by decide)) rfl T.g__law_from T.F__law_from.kp bind__law_from .nil passE (pa_cons (pv 0) (pa_cons pe_int (pa_cons pe_int pa_nil))))) pa_nil))) pa_nil)))) pss_nil))), ?_⟩
    refine qm_asg (E := E) (K := K) (σ := [some (.ref p0), some v_far, none]) (i := 2) (m_callM (i := 0) rfl (am_pure (a_one (x_var (i := 1) rfl (Rp.mono _ (Ex.refl _) exz r_far))))) hs hc0 (Rt.mono _ (Ex.refl _) exz hx0) hm fun start_1 v_2 ws_8 I_3 C_9 H_4 e_5 s_6 hc_10 k_11 hx_12 r_7 hm => ?_
    have fr_13 := fr_pool (off_ex (C := C0) (p := p0)) k_11
    refine qm_if (E := E) (K := K) (σ := [some (.ref p0), some v_far, some v_2]) (tm_test (m_op (fun _ => o_eqI) off_same (m_callM (i := 0) rfl (am_pure (a_one (x_int (i := 8))))) (m_pure (x_int (i := 0))))) s_6 hc_10 (Rt.mono _ (Ex.refl _) exz hx_12) hm (fun y_22 ws_23 I_14 C_24 H_15 e_16 s_17 hc_25 k_26 hx_27 hm => ?_) (fun y_28 ws_29 I_18 C_30 H_19 e_20 s_21 hc_31 k_32 hx_33 hm => ?_)
    · have fr_34 := fr_pool fr_13 k_26
      refine qm_ret (E := E) (K := K) (σ := [some (.ref p0), some v_far, some v_2]) (m_tup (am_cons off_same (m_pure (x_var (i := 2) rfl (Rp.mono _ e_16 exz r_7))) (am_one (m_callM (i := 0) rfl (am_pure (a_cons (x_op o_add (x_var (i := 2) rfl (Rp.mono _ e_16 exz r_7)) (x_int (i := 1))) (a_one (x_int (i := 48)))))))) (Nat.le_of_ble_eq_true rfl)) s_17 hc_25 (Rt.mono _ (Ex.refl _) exz hx_27) hm fun a_35 v_36 ws_42 I_37 C_43 H_38 e_39 s_40 hc_44 k_45 hx_46 r_41 hm => ?_
      have fr_47 := fr_pool fr_34 k_45
      exact ret_pool hm (e_5.trans (e_16.trans e_39)) fr_47 s_40 hc_44 hx_46 r_41
    · have fr_48 := fr_pool fr_13 k_32
      refine qm_ret (E := E) (K := K) (σ := [some (.ref p0), some v_far, some v_2]) (m_tup (am_cons off_same (m_pure (x_var (i := 2) rfl (Rp.mono _ e_20 exz r_7))) (am_one (m_cb (fun _ => o_min2) (am_cons off_same (m_pure (x_int (i := 48))) (am_one (m_op (fun _ => o_add) off_same (m_pure (x_var (i := 2) rfl (Rp.mono _ e_20 exz r_7))) (m_callM (i := 0) rfl (am_pure (a_cons (x_int (i := 1)) (a_one (x_int (i := 5)))))))))))) (Nat.le_of_ble_eq_true rfl)) s_21 hc_31 (Rt.mono _ (Ex.refl _) exz hx_33) hm fun a_49 v_50 ws_56 I_51 C_57 H_52 e_53 s_54 hc_58 k_59 hx_60 r_55 hm => ?_
      have fr_61 := fr_pool fr_48 k_59
      exact ret_pool hm (e_5.trans (e_20.trans e_53)) fr_61 s_54 hc_58 hx_60 r_55
def m__law_warning (ar_far : Int) (a_pool : Pl) : Res ((Int × Int × Int) × Pl) :=
  (((callM m__law_span (liftM (Res.ok ar_far))) a_pool).bind fun (span_1 : (Int × Int) × Pl) => (((unM max2 (pairM (liftM (un rNeg (Res.ok (1 : Int)))) (binM rSub (liftM (un (fun p => Res.ok p.1) (Res.ok span_1.1))) (callM m__law_take (liftM (Res.ok (8 : Int))))))) span_1.2).bind fun (told_14 : Int × Pl) => ((ifMR (binM eqR (callM m__law_take (liftM (Res.ok (6 : Int)))) (liftM (Res.ok (0 : Int)))) told_14.2 (fun (y_35 : Pl) => (((callM (fun (p : (Int × Int)) => m__law_from p.1 p.2) (liftM (pair (un rNeg (Res.ok (1 : Int))) (Res.ok (48 : Int))))) y_35).bind fun (told_58 : Int × Pl) => (Res.ok (told_58.2, told_58.1)))) (fun (y_41 : Pl) => (Res.ok (y_41, told_14.1)))).bind fun (z_47 : (Pl × Int)) => ((pair (Res.ok z_47.2) (pair (un (fun p => Res.ok p.1) (Res.ok span_1.1)) (un (fun p => Res.ok p.2) (Res.ok span_1.1)))).bind fun a_77 => Res.ok (a_77, z_47.1)))))
abbrev N__law_warning : List Str := ["pool", "far", "span", "told"]
theorem sc__law_warning : FnScope N__law_warning ["pool", "far"] (defScope s__law_warning) := ⟨rfl, rfl, rfl, by decide +kernel, rfl, by decide +kernel, by decide +kernel⟩
theorem bind__law_warning {K : PySem.W.Frag} {mg : Str → Option Value} {T : Tx K mg} : Binds K T.d__law_warning ["pool", "far"] [] := FunD.bindsN T.F__law_warning fun _ _ _ _ _ _ us hl => match us, hl with | [_, _], _ => rfl
abbrev sp__law_warning (K : PySem.W.Frag) : Sp := spM pM (t1 pI) m__law_warning (pT (tc pI (tc pI (t1 pI))))
theorem ok__law_warning (T : Tx K mg) : FnOk P w K mg base (L2.CX P w) 6 T.f__law_warning T.d__law_warning ["pool", "far"] (sp__law_warning K) := by
  refine T.F__law_warning.ok sc__law_warning (fun vs H Q E h => ?_) (fun cdv A outer s H vs Q E hr h => ?_)
  · obtain ⟨I, C, p, ws, us, x, a, rfl, _, _, _, hr, _⟩ := h
    exact congrArg (· + 1) (Rt.len _ hr)
  · obtain ⟨I0, C0, p0, ws0, us, a_pool, ar_far, rfl, hs, hc0, hx1, ⟨v_far, rfl, r_far⟩, hm⟩ := h
    have hx0 := It.im (C' := Z) hx1
    have hm : Post (m__law_warning ar_far a_pool) (PM p0 pM (pT (tc pI (tc pI (t1 pI)))) I0 C0 Q) XF := hm
    replace r_far : Rp.r pI ar_far v_far I0 Z := Im.im r_far
    unfold m__law_warning at hm
    refine ⟨_, (pss_cons (ps_set (i := 2) sc__law_warning.nd rfl (Or.inl rfl) (pe_call (ok__law_span T) (hr.mono (by decide)) rfl T.g__law_span T.F__law_span.kp bind__law_span .nil passE (pa_cons (pv 0) (pa_cons (pv 1) pa_nil)))) (pss_cons (ps_set (i := 3) sc__law_warning.nd rfl (Or.inl rfl) (pe_callB (call_max2 rfl) (by rfl) T.gb_max bt_max (pa_cons (pe_un un_neg pe_int) (pa_cons (pe_op op_sub (pe_ix (r := rIxT K) ix_tup (pv 2) pe_int (fun _ _ => rfl)) (pe_call (ok__law_take T) (hr.mono (by decide)) rfl T.g__law_take T.F__law_take.kp bind__law_take .nil passE (pa_cons (pv 0) (pa_cons pe_int pa_nil)))) pa_nil)))) (Evl.pss_cut (ps_if (pt_cmpR op_eq (pe_call (ok__law_take T) (hr.mono (by decide)) rfl T.g__law_take T.F__law_take.kp bind__law_take .nil passE (pa_cons (pv 0) (pa_cons pe_int pa_nil))) pe_int (nomark _)) (pss_cons (ps_set (i := 3) sc__law_warning.nd rfl (Or.inl rfl) (pe_call (ok__law_from T) (hr.mono (by decide)) rfl T.g__law_from T.F__law_from.kp bind__law_from .nil passE (pa_cons (pv 0) (pa_cons (pe_un un_neg pe_int) (pa_cons pe_int pa_nil))))) pss_nil) pss_nil) (pss_cons (ps_ret (pe_tup (pa_cons (pv 3) (pa_cons (pe_ix (r := rIxT K) ix_tup (pv 2) pe_int (fun _ _ => rfl)) (pa_cons (pe_ix (r := rIxT K) ix_tup (pv 2) pe_int (fun _ _ => rfl)) pa_nil))))) pss_nil)))), ?_⟩
    refine qm_asg (E := E) (K := K) (σ := [some (.ref p0), some v_far, none, none]) (i := 2) (m_callM (i := 0) rfl (am_pure (a_one (x_var (i := 1) rfl (Rp.mono _ (Ex.refl _) exz r_far))))) hs hc0 (Rt.mono _ (Ex.refl _) exz hx0) hm fun span_1 v_2 ws_8 I_3 C_9 H_4 e_5 s_6 hc_10 k_11 hx_12 r_7 hm => ?_
    have fr_13 := fr_pool (off_ex (C := C0) (p := p0)) k_11
    refine qm_asg (E := E) (K := K) (σ := [some (.ref p0), some v_far, some v_2, none]) (i := 3) (m_cb (fun _ => o_max2) (am_cons off_same (m_pure (x_un o_neg (x_int (i := 1)))) (am_one (m_op (fun _ => o_sub) off_same (m_pure (x_k (k := ((0 : Nat) : Int)) (o_pj pj0) (x_var (i := 2) rfl (Rp.mono _ (Ex.refl _) exz r_7)))) (m_callM (i := 0) rfl (am_pure (a_one (x_int (i := 8))))))))) s_6 hc_10 (Rt.mono _ (Ex.refl _) exz hx_12) hm fun told_14 v_15 ws_21 I_16 C_22 H_17 e_18 s_19 hc_23 k_24 hx_25 r_20 hm => ?_
    have fr_26 := fr_pool fr_13 k_24
    refine qm_ifj (E := E) (K := K) (σ := [some (.ref p0), some v_far, some v_2, some v_15]) (fun (z_47 : (Pl × Int)) σ2 I_49 C_50 => ∃ v_54 : V, σ2 = [some (.ref p0), some v_far, some v_2, some v_54] ∧ (∃ ws_51 : List V, C_50 p0 = some (.lst ws_51) ∧ Rt.r pM z_47.1 ws_51 I_49 Z) ∧ Rp.r pI z_47.2 v_54 I_49 Z ∧ Ex (off C0 p0) C_50) (tm_test (m_op (fun _ => o_eqI) off_same (m_callM (i := 0) rfl (am_pure (a_one (x_int (i := 6))))) (m_pure (x_int (i := 0))))) s_19 hc_23 (Rt.mono _ (Ex.refl _) exz hx_25) hm (fun N y_35 ws_36 I_27 C_37 H_28 e_29 s_30 hc_38 k_39 hx_40 hm => ?_) (fun N y_41 ws_42 I_31 C_43 H_32 e_33 s_34 hc_44 k_45 hx_46 hm => ?_) (fun z_47 σ2 I_72 C_73 H_74 e_75 s_76 ⟨v_54, hs_48, ⟨ws_51, hc_52, hx_53⟩, r_55, fr_56⟩ hm => ?_)
    · have fr_57 := fr_pool fr_26 k_39
      refine qm_asg (E := E) (K := K) (σ := [some (.ref p0), some v_far, some v_2, some v_15]) (i := 3) (m_callM (i := 0) rfl (am_pure (a_cons (x_un o_neg (x_int (i := 1))) (a_one (x_int (i := 48)))))) s_30 hc_38 (Rt.mono _ (Ex.refl _) exz hx_40) hm fun told_58 v_59 ws_65 I_60 C_66 H_61 e_62 s_63 hc_67 k_68 hx_69 r_64 hm => ?_
      have fr_70 := fr_pool fr_57 k_68
      exact hm _ _ _ _ (e_29.trans e_62) s_63 ⟨v_59, rfl, ⟨_, hc_67, Rt.mono _ (Ex.refl _) exz hx_69⟩, Rp.mono _ (Ex.refl _) exz r_64, fr_70⟩
    · have fr_71 := fr_pool fr_26 k_45
      exact hm _ _ _ _ e_33 s_34 ⟨v_15, rfl, ⟨_, hc_44, Rt.mono _ (Ex.refl _) exz hx_46⟩, Rp.mono _ e_33 exz r_20, fr_71⟩
    subst hs_48
    refine q_ret (tz := tNext) (E := E) (K := K) (σ := [some (.ref p0), some v_far, some v_2, some v_54]) (x_tup (a_cons (x_var (i := 3) rfl (Rp.mono _ (Ex.refl _) exz r_55)) (a_cons (x_k (k := ((0 : Nat) : Int)) (o_pj pj0) (x_var (i := 2) rfl (Rp.mono _ (e_18.trans e_75) exz r_7))) (a_one (x_k (k := ((1 : Nat) : Int)) (o_pj (pjs pj1)) (x_var (i := 2) rfl (Rp.mono _ (e_18.trans e_75) exz r_7)))))) (Nat.le_of_ble_eq_true rfl)) s_76 (fun _ _ h => h.elim) hm fun a_77 v_78 I_79 H_80 e_81 s_82 r_83 hm => ?_
    exact ret_pool hm (e_5.trans (e_18.trans (e_75.trans e_81))) fr_56 s_82 hc_52 (Rt.mono _ e_81 exz hx_53) r_83
def m__law_fits (ar_warning : (Int × Int × Int)) (ar_event : (Int × Int)) (ar_lead : Int) (ar_slack : Int) : Res Bool :=
  (ifR (bin rGt (bin rAdd (un (fun p => Res.ok p.1) (Res.ok ar_warning)) (Res.ok ar_lead)) (un (fun p => Res.ok p.1) (Res.ok ar_event))) ((Res.ok false).bind fun a_9 => Res.ok a_9) ((andR (bin rLt (bin rSub (un (fun p => Res.ok p.2.1) (Res.ok ar_warning)) (Res.ok ar_slack)) (un (fun p => Res.ok p.2) (Res.ok ar_event))) (bin rLt (un (fun p => Res.ok p.1) (Res.ok ar_event)) (bin rAdd (un (fun p => Res.ok p.2.2) (Res.ok ar_warning)) (Res.ok ar_slack)))).bind fun a_16 => Res.ok a_16))
abbrev N__law_fits : List Str := ["warning", "event", "lead", "slack"]
theorem sc__law_fits : FnScope N__law_fits ["warning", "event", "lead", "slack"] (defScope s__law_fits) := ⟨rfl, rfl, rfl, by decide +kernel, rfl, by decide +kernel, by decide +kernel⟩
theorem bind__law_fits {K : PySem.W.Frag} {mg : Str → Option Value} {T : Tx K mg} : Binds K T.d__law_fits ["warning", "event", "lead", "slack"] [] := FunD.bindsN T.F__law_fits fun _ _ _ _ _ _ us hl => match us, hl with | [_, _, _, _], _ => rfl
abbrev sp__law_fits (K : PySem.W.Frag) : Sp := spP K (tc (pT (tc pI (tc pI (t1 pI)))) (tc (pT (tc pI (t1 pI))) (tc pI (t1 pI)))) (fun (p : ((Int × Int × Int) × (Int × Int) × Int × Int)) => m__law_fits p.1 p.2.1 p.2.2.1 p.2.2.2) pB
theorem ok__law_fits (T : Tx K mg) : FnOk P w K mg base (L2.CX P w) 1 T.f__law_fits T.d__law_fits ["warning", "event", "lead", "slack"] (sp__law_fits K) := by
  refine T.F__law_fits.ok sc__law_fits (fun vs H Q E h => ?_) (fun cdv A outer s H vs Q E hr h => ?_)
  · obtain ⟨I, C, a, _, hr, _⟩ := h
    exact Rt.len _ hr
  · obtain ⟨I0, C0, ⟨ar_warning, ar_event, ar_lead, ar_slack⟩, hs, ⟨v_warning, us0, rfl, r_warning, v_event, us1, rfl, r_event, v_lead, us2, rfl, r_lead, v_slack, rfl, r_slack⟩, hm⟩ := h
    have hm : Post (m__law_fits ar_warning ar_event ar_lead ar_slack) (PQ pB I0 C0 Q) (PX E K I0 C0) := hm
    replace r_warning : Rp.r (pT (tc pI (tc pI (t1 pI)))) ar_warning v_warning I0 Z := Im.im r_warning
    replace r_event : Rp.r (pT (tc pI (t1 pI))) ar_event v_event I0 Z := Im.im r_event
    replace r_lead : Rp.r pI ar_lead v_lead I0 Z := Im.im r_lead
    replace r_slack : Rp.r pI ar_slack v_slack I0 Z := Im.im r_slack
    unfold m__law_fits at hm
    refine ⟨_, (pss_cons (ps_if (pt_cmpR op_gt (pe_op op_add (pe_ix (r := rIxT K) ix_tup (pv 0) pe_int (fun _ _ => rfl)) (pv 2)) (pe_ix (r := rIxT K) ix_tup (pv 1) pe_int (fun _ _ => rfl)) (nomark _)) (pss_cons (ps_ret pe_bl) pss_nil) pss_nil) (pss_cons (ps_ret (pe_and (pe_cmpR op_lt (pe_op op_sub (pe_ix (r := rIxT K) ix_tup (pv 0) pe_int (fun _ _ => rfl)) (pv 3)) (pe_ix (r := rIxT K) ix_tup (pv 1) pe_int (fun _ _ => rfl)) (nomark _)) (pe_one (pe_cmpR op_lt (pe_ix (r := rIxT K) ix_tup (pv 1) pe_int (fun _ _ => rfl)) (pe_op op_add (pe_ix (r := rIxT K) ix_tup (pv 0) pe_int (fun _ _ => rfl)) (pv 3)) (nomark _))))) pss_nil)), ?_⟩
    refine s_if (E := E) (K := K) (σ := [some v_warning, some v_event, some v_lead, some v_slack]) (t_test (x_op o_gt (x_op o_add (x_k (k := ((0 : Nat) : Int)) (o_pj pj0) (x_var (i := 0) rfl (Rp.mono _ (Ex.refl _) exz r_warning))) (x_var (i := 2) rfl (Rp.mono _ (Ex.refl _) exz r_lead))) (x_k (k := ((0 : Nat) : Int)) (o_pj pj0) (x_var (i := 1) rfl (Rp.mono _ (Ex.refl _) exz r_event))))) hs (fun _ _ h => PX.mono (Ex.refl _) (Ex.refl _) h) hm (fun I_1 H_2 e_3 s_4 hm => ?_) (fun I_5 H_6 e_7 s_8 hm => ?_)
    · refine q_ret (tz := tNext) (E := E) (K := K) (σ := [some v_warning, some v_event, some v_lead, some v_slack]) x_bl s_4 (fun _ _ h => PX.mono e_3 (Ex.refl _) h) hm fun a_9 v_10 I_11 H_12 e_13 s_14 r_15 hm => ?_
      exact hm v_10 I_11 H_12 (e_3.trans e_13) (St.less s_14 (Ex.refl _)) (Im.im r_15)
    · refine q_ret (tz := tNext) (E := E) (K := K) (σ := [some v_warning, some v_event, some v_lead, some v_slack]) (x_andV (x_op o_lt (x_op o_sub (x_k (k := ((1 : Nat) : Int)) (o_pj (pjs pj0)) (x_var (i := 0) rfl (Rp.mono _ e_7 exz r_warning))) (x_var (i := 3) rfl (Rp.mono _ e_7 exz r_slack))) (x_k (k := ((1 : Nat) : Int)) (o_pj (pjs pj1)) (x_var (i := 1) rfl (Rp.mono _ e_7 exz r_event)))) (x_op o_lt (x_k (k := ((0 : Nat) : Int)) (o_pj pj0) (x_var (i := 1) rfl (Rp.mono _ e_7 exz r_event))) (x_op o_add (x_k (k := ((2 : Nat) : Int)) (o_pj (pjs (pjs pj1))) (x_var (i := 0) rfl (Rp.mono _ e_7 exz r_warning))) (x_var (i := 3) rfl (Rp.mono _ e_7 exz r_slack))))) s_8 (fun _ _ h => PX.mono e_7 (Ex.refl _) h) hm fun a_16 v_17 I_18 H_19 e_20 s_21 r_22 hm => ?_
      exact hm v_17 I_18 H_19 (e_7.trans e_20) (St.less s_21 (Ex.refl _)) (Im.im r_22)
def m__law_is_pairing (ar_warnings : (List (Int × Int × Int))) (ar_events : (List (Int × Int))) (ar_lead : Int) (ar_slack : Int) (ar_pairs : (List (Int × Int))) : Res Bool :=
  ((un rNeg (Res.ok (1 : Int))).bind fun (last_1 : Int) => ((Res.ok ([] : List Int)).bind fun (taken_8 : (List Int)) => (((Res.ok ar_pairs).bind fun xs => loopR (fun (x_35 : (Int × Int)) (z_23 : (Int × (List Int))) => (ifR (orR (bin rLe (un (fun p => Res.ok p.1) (Res.ok x_35)) (Res.ok z_23.1)) (orR (bin rGe (un (fun p => Res.ok p.1) (Res.ok x_35)) (un rLen (Res.ok ar_warnings))) (orR (bin rLt (un (fun p => Res.ok p.2) (Res.ok x_35)) (Res.ok (0 : Int))) (bin rGe (un (fun p => Res.ok p.2) (Res.ok x_35)) (un rLen (Res.ok ar_events)))))) ((Res.ok false).bind fun a_55 => Res.ok (Out.rt a_55)) (ifR (orR (bin inR (un (fun p => Res.ok p.2) (Res.ok x_35)) (Res.ok z_23.2)) (un notR (un (fun (p : ((Int × Int × Int) × (Int × Int) × Int × Int)) => m__law_fits p.1 p.2.1 p.2.2.1 p.2.2.2) (pair (bin ix (Res.ok ar_warnings) (un (fun p => Res.ok p.1) (Res.ok x_35))) (pair (bin ix (Res.ok ar_events) (un (fun p => Res.ok p.2) (Res.ok x_35))) (pair (Res.ok ar_lead) (Res.ok ar_slack))))))) ((Res.ok false).bind fun a_70 => Res.ok (Out.rt a_70)) ((un (fun p => Res.ok p.1) (Res.ok x_35)).bind fun (last_77 : Int) => (((un (fun p => Res.ok p.2) (Res.ok x_35)).bind fun x => push z_23.2 x).bind fun (taken_84 : (List Int)) => (Res.ok (Out.nx (last_77, taken_84)))))))) xs (last_1, taken_8)).bind fun (o : Out (Int × (List Int)) Bool) => match o with | .nx z_101 => ((Res.ok true).bind fun a_113 => Res.ok a_113) | .br _ => Res.bad | .rt r => Res.ok r)))
abbrev N__law_is_pairing : List Str := ["warnings", "events", "lead", "slack", "pairs", "last", "taken", "pair"]
theorem sc__law_is_pairing : FnScope N__law_is_pairing ["warnings", "events", "lead", "slack", "pairs"] (defScope s__law_is_pairing) := ⟨rfl, rfl, rfl, by decide +kernel, rfl, by decide +kernel, by decide +kernel⟩
theorem bind__law_is_pairing {K : PySem.W.Frag} {mg : Str → Option Value} {T : Tx K mg} : Binds K T.d__law_is_pairing ["warnings", "events", "lead", "slack", "pairs"] [] := FunD.bindsN T.F__law_is_pairing fun _ _ _ _ _ _ us hl => match us, hl with | [_, _, _, _, _], _ => rfl
abbrev sp__law_is_pairing (K : PySem.W.Frag) : Sp := spP K (tc (pV (pT (tc pI (tc pI (t1 pI))))) (tc (pV (pT (tc pI (t1 pI)))) (tc pI (tc pI (t1 (pL (pT (tc pI (t1 pI))))))))) (fun (p : ((List (Int × Int × Int)) × (List (Int × Int)) × Int × Int × (List (Int × Int)))) => m__law_is_pairing p.1 p.2.1 p.2.2.1 p.2.2.2.1 p.2.2.2.2) pB
theorem ok__law_is_pairing (T : Tx K mg) : FnOk P w K mg base (L2.CX P w) 2 T.f__law_is_pairing T.d__law_is_pairing ["warnings", "events", "lead", "slack", "pairs"] (sp__law_is_pairing K) := by
  refine T.F__law_is_pairing.ok sc__law_is_pairing (fun vs H Q E h => ?_) (fun cdv A outer s H vs Q E hr h => ?_)
  · obtain ⟨I, C, a, _, hr, _⟩ := h
    exact Rt.len _ hr
  · obtain ⟨I0, C0, ⟨ar_warnings, ar_events, ar_lead, ar_slack, ar_pairs⟩, hs, ⟨v_warnings, us0, rfl, r_warnings, v_events, us1, rfl, r_events, v_lead, us2, rfl, r_lead, v_slack, us3, rfl, r_slack, v_pairs, rfl, r_pairs⟩, hm⟩ := h
    have hm : Post (m__law_is_pairing ar_warnings ar_events ar_lead ar_slack ar_pairs) (PQ pB I0 C0 Q) (PX E K I0 C0) := hm
    replace r_lead : Rp.r pI ar_lead v_lead I0 Z := Im.im r_lead
    replace r_slack : Rp.r pI ar_slack v_slack I0 Z := Im.im r_slack
    replace r_pairs : Rp.r (pL (pT (tc pI (t1 pI)))) ar_pairs v_pairs I0 Z := Im.im r_pairs
    unfold m__law_is_pairing at hm
    refine ⟨_, (pss_cons (ps_set (i := 5) sc__law_is_pairing.nd rfl (Or.inl rfl) (pe_un un_neg pe_int)) (pss_cons (ps_set (i := 6) sc__law_is_pairing.nd rfl (Or.inl rfl) (pe_lst pa_nil)) (pss_cons (ps_for (passes_of rfl) rfl (show PI _ _ _ (iList K _) from pi_list (pv 4)) (pg_name (i := 7) sc__law_is_pairing.nd rfl (Or.inl rfl)) (pss_cons (ps_if (PW.pt (pw_or (pt_cmpR op_le (pe_ix (r := rIxT K) ix_tup (pv 7) pe_int (fun _ _ => rfl)) (pv 5) (nomark _)) (pw_or (pt_cmpR op_ge (pe_ix (r := rIxT K) ix_tup (pv 7) pe_int (fun _ _ => rfl)) (pe_callB (r := rLen1 K) call_len_seq (by rfl) T.gb_len bt_len (pa_cons (pv 0) pa_nil)) (nomark _)) (pw_or (pt_cmpR op_lt (pe_ix (r := rIxT K) ix_tup (pv 7) pe_int (fun _ _ => rfl)) pe_int (nomark _)) (pw_or1 (pt_cmpR op_ge (pe_ix (r := rIxT K) ix_tup (pv 7) pe_int (fun _ _ => rfl)) (pe_callB (r := rLen1 K) call_len_seq (by rfl) T.gb_len bt_len (pa_cons (pv 1) pa_nil)) (nomark _))))))) (pss_cons (ps_ret pe_bl) pss_nil) pss_nil) (pss_cons (ps_if (PW.pt (pw_or (pt_cmpR (r := rIn K false) op_in_seq (pe_ix (r := rIxT K) ix_tup (pv 7) pe_int (fun _ _ => rfl)) (pv 6) rfl) (pw_or1 (pt_not (pt_val (pe_call (ok__law_fits T) (hr.mono (by decide)) rfl T.g__law_fits T.F__law_fits.kp bind__law_fits .nil passE (pa_cons (pe_ix (r := rIxL K) ix_list (pv 0) (pe_ix (r := rIxT K) ix_tup (pv 7) pe_int (fun _ _ => rfl)) (fun _ _ => rfl)) (pa_cons (pe_ix (r := rIxL K) ix_list (pv 1) (pe_ix (r := rIxT K) ix_tup (pv 7) pe_int (fun _ _ => rfl)) (fun _ _ => rfl)) (pa_cons (pv 2) (pa_cons (pv 3) pa_nil)))))))))) (pss_cons (ps_ret pe_bl) pss_nil) pss_nil) (pss_cons (ps_set (i := 5) sc__law_is_pairing.nd rfl (Or.inl rfl) (pe_ix (r := rIxT K) ix_tup (pv 7) pe_int (fun _ _ => rfl))) (pss_cons (ps_expr (show PE _ _ (tBM K "list" rAppend _ _) from pe_bm PySem.F.plainAttrs_list PySem.F.slot_list_append PySem.F.type_list_append mt_append (pv 6) (pa_cons (pe_ix (r := rIxT K) ix_tup (pv 7) pe_int (fun _ _ => rfl)) pa_nil))) pss_nil))))) (pss_cons (ps_ret pe_bl) pss_nil)))), ?_⟩
    refine q_asg (E := E) (K := K) (σ := [some v_warnings, some v_events, some v_lead, some v_slack, some v_pairs, none, none, none]) (i := 5) (x_un o_neg (x_int (i := 1))) hs (fun _ _ h => PX.mono (Ex.refl _) (Ex.refl _) h) hm fun last_1 v_2 I_3 H_4 e_5 s_6 r_7 hm => ?_
    refine q_asgN (E := E) (K := K) (σ := [some v_warnings, some v_events, some v_lead, some v_slack, some v_pairs, some v_2, none, none]) (i := 6) (n_lst (R := pI) al_nil (by decide)) s_6 (fun _ _ h => PX.mono e_5 (Ex.refl _) h) hm fun taken_8 p_9 vs_10 I_11 C_12 H_13 e_14 hp_15 s_16 hc_17 k_18 hl_19 hr_20 hm => ?_
    have hB_21 := Ex.free (Ex.refl _) hp_15
    have fr_22 := fr_keep (Ex.refl _) hB_21 k_18
    refine s_forR (E := E) (K := K) (σ := [some v_warnings, some v_events, some v_lead, some v_slack, some v_pairs, some v_2, some (.ref p_9), none]) (fun (z_23 : (Int × (List Int))) σ2 I_26 C_27 => ∃ w_25 : Option V, ∃ v_28 : V, σ2 = [some v_warnings, some v_events, some v_lead, some v_slack, some v_pairs, some v_28, some (.ref p_9), w_25] ∧ Rp.r pI z_23.1 v_28 I_26 Z ∧ (∃ vs_30 : List V, C_27 p_9 = some (.lst vs_30) ∧ vs_30.length ≤ sizeLine ∧ A2 (fun x u => Rp.r pI x u I_26 Z) z_23.2 vs_30) ∧ Ex C0 C_27) (i_list (x_var (i := 4) rfl (Rp.mono _ (e_5.trans e_14) exz r_pairs))) s_16 (fun _ _ h => PX.mono (e_5.trans e_14) fr_22 h) hm (fun _ e_43 => ⟨none, v_2, rfl, Rp.mono _ (Ex.trans e_14 e_43) exz r_7, ⟨_, hc_17, hl_19, a2up (Ex.trans (Ex.refl _) e_43) hr_20⟩, fr_22⟩) (fun _ _ _ _ _ => trivial) (fun _ _ _ _ _ e ⟨w_25, v_28, hs_24, r_29, ⟨vs_30, hc_31, hl_32, hr_33⟩, fr_34⟩ => ⟨w_25, v_28, hs_24, Rp.mono _ e exz r_29, ⟨vs_30, hc_31, hl_32, a2up e hr_33⟩, fr_34⟩) (fun N x_35 v_36 z_23 σ2 I_37 C_38 H_39 e_40 s_41 ⟨w_25, v_28, hs_24, r_29, ⟨vs_30, hc_31, hl_32, hr_33⟩, fr_34⟩ r_42 hm => ?_) (fun z_101 σ2 I_96 C_97 H_98 e_99 s_100 ⟨w_103, v_106, hs_102, r_107, ⟨vs_108, hc_109, hl_110, hr_111⟩, fr_112⟩ hm => ?_)
    · subst hs_24
      refine g1 (K := K) x_35 v_36 I_37 C_38 H_39 _ s_41 r_42 fun σ2 ⟨v_44, hs_46, r_45⟩ => ?_
      subst hs_46
      refine s_if (E := E) (K := K) (σ := [some v_warnings, some v_events, some v_lead, some v_slack, some v_pairs, some v_28, some (.ref p_9), some v_44]) (t_or (t_test (x_op o_le (x_k (k := ((0 : Nat) : Int)) (o_pj pj0) (x_var (i := 7) rfl (Rp.mono _ (Ex.refl _) exz r_45))) (x_var (i := 5) rfl (Rp.mono _ (Ex.refl _) exz r_29)))) (t_or (t_test (x_op o_ge (x_k (k := ((0 : Nat) : Int)) (o_pj pj0) (x_var (i := 7) rfl (Rp.mono _ (Ex.refl _) exz r_45))) (x_cb o_len (a_one (x_var (i := 0) rfl (Rp.mono _ (e_5.trans (e_14.trans e_40)) fr_34 r_warnings)))))) (t_or (t_test (x_op o_lt (x_k (k := ((1 : Nat) : Int)) (o_pj (pjs pj1)) (x_var (i := 7) rfl (Rp.mono _ (Ex.refl _) exz r_45))) (x_int (i := 0)))) (t_test (x_op o_ge (x_k (k := ((1 : Nat) : Int)) (o_pj (pjs pj1)) (x_var (i := 7) rfl (Rp.mono _ (Ex.refl _) exz r_45))) (x_cb o_len (a_one (x_var (i := 1) rfl (Rp.mono _ (e_5.trans (e_14.trans e_40)) fr_34 r_events))))))))) s_41 (fun _ _ h => PX.mono (e_5.trans (e_14.trans e_40)) fr_34 h) hm (fun I_47 H_48 e_49 s_50 hm => ?_) (fun I_51 H_52 e_53 s_54 hm => ?_)
      · refine q_ret (tz := tNext) (E := E) (K := K) (σ := [some v_warnings, some v_events, some v_lead, some v_slack, some v_pairs, some v_28, some (.ref p_9), some v_44]) x_bl s_50 (fun _ _ h => PX.mono (e_5.trans (e_14.trans (e_40.trans e_49))) fr_34 h) hm fun a_55 v_56 I_57 H_58 e_59 s_60 r_61 hm => ?_
        exact hm v_56 I_57 H_58 (e_5.trans (e_14.trans (e_40.trans (e_49.trans e_59)))) (St.less s_60 fr_34) (Im.im r_61)
      · refine s_if (E := E) (K := K) (σ := [some v_warnings, some v_events, some v_lead, some v_slack, some v_pairs, some v_28, some (.ref p_9), some v_44]) (t_or (t_test (x_op (o_in fl_int) (x_k (k := ((1 : Nat) : Int)) (o_pj (pjs pj1)) (x_var (i := 7) rfl (Rp.mono _ e_53 exz r_45))) (x_cell (i := 6) rfl hc_31 hl_32 (a2up e_53 hr_33)))) (t_not (t_B (x_call (a_cons (x_op o_ix (x_var (i := 0) rfl (Rp.mono _ (e_5.trans (e_14.trans (e_40.trans e_53))) fr_34 r_warnings)) (x_k (k := ((0 : Nat) : Int)) (o_pj pj0) (x_var (i := 7) rfl (Rp.mono _ e_53 exz r_45)))) (a_cons (x_op o_ix (x_var (i := 1) rfl (Rp.mono _ (e_5.trans (e_14.trans (e_40.trans e_53))) fr_34 r_events)) (x_k (k := ((1 : Nat) : Int)) (o_pj (pjs pj1)) (x_var (i := 7) rfl (Rp.mono _ e_53 exz r_45)))) (a_cons (x_var (i := 2) rfl (Rp.mono _ (e_5.trans (e_14.trans (e_40.trans e_53))) exz r_lead)) (a_one (x_var (i := 3) rfl (Rp.mono _ (e_5.trans (e_14.trans (e_40.trans e_53))) exz r_slack)))))))))) s_54 (fun _ _ h => PX.mono (e_5.trans (e_14.trans (e_40.trans e_53))) fr_34 h) hm (fun I_62 H_63 e_64 s_65 hm => ?_) (fun I_66 H_67 e_68 s_69 hm => ?_)
        · refine q_ret (tz := tNext) (E := E) (K := K) (σ := [some v_warnings, some v_events, some v_lead, some v_slack, some v_pairs, some v_28, some (.ref p_9), some v_44]) x_bl s_65 (fun _ _ h => PX.mono (e_5.trans (e_14.trans (e_40.trans (e_53.trans e_64)))) fr_34 h) hm fun a_70 v_71 I_72 H_73 e_74 s_75 r_76 hm => ?_
          exact hm v_71 I_72 H_73 (e_5.trans (e_14.trans (e_40.trans (e_53.trans (e_64.trans e_74))))) (St.less s_75 fr_34) (Im.im r_76)
        · refine q_asg (E := E) (K := K) (σ := [some v_warnings, some v_events, some v_lead, some v_slack, some v_pairs, some v_28, some (.ref p_9), some v_44]) (i := 5) (x_k (k := ((0 : Nat) : Int)) (o_pj pj0) (x_var (i := 7) rfl (Rp.mono _ (e_53.trans e_68) exz r_45))) s_69 (fun _ _ h => PX.mono (e_5.trans (e_14.trans (e_40.trans (e_53.trans e_68)))) fr_34 h) hm fun last_77 v_78 I_79 H_80 e_81 s_82 r_83 hm => ?_
          refine q_app (E := E) (K := K) (σ := [some v_warnings, some v_events, some v_lead, some v_slack, some v_pairs, some v_78, some (.ref p_9), some v_44]) (i := 6) rfl hc_31 (a2up (e_53.trans (e_68.trans e_81)) hr_33) (x_k (k := ((1 : Nat) : Int)) (o_pj (pjs pj1)) (x_var (i := 7) rfl (Rp.mono _ (e_53.trans (e_68.trans e_81)) exz r_45))) s_82 (fun _ _ h => PX.mono (e_5.trans (e_14.trans (e_40.trans (e_53.trans (e_68.trans e_81))))) fr_34 h) hm fun taken_84 vs_85 I_86 C_87 H_88 e_89 s_90 hc_91 k_92 hl_93 hr_94 hm => ?_
          have fr_95 := fr_keep fr_34 hB_21 k_92
          exact hm _ _ _ _ (e_53.trans (e_68.trans (e_81.trans e_89))) s_90 ⟨some v_44, v_78, rfl, Rp.mono _ e_89 exz r_83, ⟨_, hc_91, hl_93, a2up (Ex.refl _) hr_94⟩, fr_95⟩
    subst hs_102
    refine q_ret (tz := tNext) (E := E) (K := K) (σ := [some v_warnings, some v_events, some v_lead, some v_slack, some v_pairs, some v_106, some (.ref p_9), w_103]) x_bl s_100 (fun _ _ h => PX.mono (e_5.trans (e_14.trans e_99)) fr_112 h) hm fun a_113 v_114 I_115 H_116 e_117 s_118 r_119 hm => ?_
    exact hm v_114 I_115 H_116 (e_5.trans (e_14.trans (e_99.trans e_117))) (St.less s_118 fr_112) (Im.im r_119)
def m__law_ascends (ar_indexes : (List Int)) (ar_many : Int) : Res Bool :=
  ((un rNeg (Res.ok (1 : Int))).bind fun (last_1 : Int) => (((Res.ok ar_indexes).bind fun xs => loopR (fun (x_16 : Int) (z_8 : Int) => (ifR (orR (bin rLe (Res.ok x_16) (Res.ok z_8)) (bin rGe (Res.ok x_16) (Res.ok ar_many))) ((Res.ok false).bind fun a_36 => Res.ok (Out.rt a_36)) ((Res.ok x_16).bind fun (last_43 : Int) => (Res.ok (Out.nx last_43))))) xs last_1).bind fun (o : Out Int Bool) => match o with | .nx z_55 => ((Res.ok true).bind fun a_63 => Res.ok a_63) | .br _ => Res.bad | .rt r => Res.ok r))
abbrev N__law_ascends : List Str := ["indexes", "many", "last", "index"]
theorem sc__law_ascends : FnScope N__law_ascends ["indexes", "many"] (defScope s__law_ascends) := ⟨rfl, rfl, rfl, by decide +kernel, rfl, by decide +kernel, by decide +kernel⟩
theorem bind__law_ascends {K : PySem.W.Frag} {mg : Str → Option Value} {T : Tx K mg} : Binds K T.d__law_ascends ["indexes", "many"] [] := FunD.bindsN T.F__law_ascends fun _ _ _ _ _ _ us hl => match us, hl with | [_, _], _ => rfl
abbrev sp__law_ascends (K : PySem.W.Frag) : Sp := spP K (tc (pL pI) (t1 pI)) (fun (p : ((List Int) × Int)) => m__law_ascends p.1 p.2) pB
theorem ok__law_ascends (T : Tx K mg) : FnOk P w K mg base (L2.CX P w) 1 T.f__law_ascends T.d__law_ascends ["indexes", "many"] (sp__law_ascends K) := by
  refine T.F__law_ascends.ok sc__law_ascends (fun vs H Q E h => ?_) (fun cdv A outer s H vs Q E hr h => ?_)
  · obtain ⟨I, C, a, _, hr, _⟩ := h
    exact Rt.len _ hr
  · obtain ⟨I0, C0, ⟨ar_indexes, ar_many⟩, hs, ⟨v_indexes, us0, rfl, r_indexes, v_many, rfl, r_many⟩, hm⟩ := h
    have hm : Post (m__law_ascends ar_indexes ar_many) (PQ pB I0 C0 Q) (PX E K I0 C0) := hm
    replace r_indexes : Rp.r (pL pI) ar_indexes v_indexes I0 Z := Im.im r_indexes
    replace r_many : Rp.r pI ar_many v_many I0 Z := Im.im r_many
    unfold m__law_ascends at hm
    refine ⟨_, (pss_cons (ps_set (i := 2) sc__law_ascends.nd rfl (Or.inl rfl) (pe_un un_neg pe_int)) (pss_cons (ps_for (passes_of rfl) rfl (show PI _ _ _ (iList K _) from pi_list (pv 0)) (pg_name (i := 3) sc__law_ascends.nd rfl (Or.inl rfl)) (pss_cons (ps_if (PW.pt (pw_or (pt_cmpR op_le (pv 3) (pv 2) (nomark _)) (pw_or1 (pt_cmpR op_ge (pv 3) (pv 1) (nomark _))))) (pss_cons (ps_ret pe_bl) pss_nil) pss_nil) (pss_cons (ps_set (i := 2) sc__law_ascends.nd rfl (Or.inl rfl) (pv 3)) pss_nil))) (pss_cons (ps_ret pe_bl) pss_nil))), ?_⟩
    refine q_asg (E := E) (K := K) (σ := [some v_indexes, some v_many, none, none]) (i := 2) (x_un o_neg (x_int (i := 1))) hs (fun _ _ h => PX.mono (Ex.refl _) (Ex.refl _) h) hm fun last_1 v_2 I_3 H_4 e_5 s_6 r_7 hm => ?_
    refine s_forR (E := E) (K := K) (σ := [some v_indexes, some v_many, some v_2, none]) (fun (z_8 : Int) σ2 I_11 C_12 => ∃ w_10 : Option V, ∃ v_13 : V, σ2 = [some v_indexes, some v_many, some v_13, w_10] ∧ Rp.r pI z_8 v_13 I_11 Z ∧ Ex C0 C_12) (i_list (x_var (i := 0) rfl (Rp.mono _ e_5 exz r_indexes))) s_6 (fun _ _ h => PX.mono e_5 (Ex.refl _) h) hm (fun _ e_24 => ⟨none, v_2, rfl, Rp.mono _ (Ex.trans (Ex.refl _) e_24) exz r_7, (Ex.refl _)⟩) (fun _ _ _ _ _ => trivial) (fun _ _ _ _ _ e ⟨w_10, v_13, hs_9, r_14, fr_15⟩ => ⟨w_10, v_13, hs_9, Rp.mono _ e exz r_14, fr_15⟩) (fun N x_16 v_17 z_8 σ2 I_18 C_19 H_20 e_21 s_22 ⟨w_10, v_13, hs_9, r_14, fr_15⟩ r_23 hm => ?_) (fun z_55 σ2 I_50 C_51 H_52 e_53 s_54 ⟨w_57, v_60, hs_56, r_61, fr_62⟩ hm => ?_)
    · subst hs_9
      refine g1 (K := K) x_16 v_17 I_18 C_19 H_20 _ s_22 r_23 fun σ2 ⟨v_25, hs_27, r_26⟩ => ?_
      subst hs_27
      refine s_if (E := E) (K := K) (σ := [some v_indexes, some v_many, some v_13, some v_25]) (t_or (t_test (x_op o_le (x_var (i := 3) rfl (Rp.mono _ (Ex.refl _) exz r_26)) (x_var (i := 2) rfl (Rp.mono _ (Ex.refl _) exz r_14)))) (t_test (x_op o_ge (x_var (i := 3) rfl (Rp.mono _ (Ex.refl _) exz r_26)) (x_var (i := 1) rfl (Rp.mono _ (e_5.trans e_21) exz r_many))))) s_22 (fun _ _ h => PX.mono (e_5.trans e_21) fr_15 h) hm (fun I_28 H_29 e_30 s_31 hm => ?_) (fun I_32 H_33 e_34 s_35 hm => ?_)
      · refine q_ret (tz := tNext) (E := E) (K := K) (σ := [some v_indexes, some v_many, some v_13, some v_25]) x_bl s_31 (fun _ _ h => PX.mono (e_5.trans (e_21.trans e_30)) fr_15 h) hm fun a_36 v_37 I_38 H_39 e_40 s_41 r_42 hm => ?_
        exact hm v_37 I_38 H_39 (e_5.trans (e_21.trans (e_30.trans e_40))) (St.less s_41 fr_15) (Im.im r_42)
      · refine q_asg (E := E) (K := K) (σ := [some v_indexes, some v_many, some v_13, some v_25]) (i := 2) (x_var (i := 3) rfl (Rp.mono _ e_34 exz r_26)) s_35 (fun _ _ h => PX.mono (e_5.trans (e_21.trans e_34)) fr_15 h) hm fun last_43 v_44 I_45 H_46 e_47 s_48 r_49 hm => ?_
        exact hm _ _ _ _ (e_34.trans e_47) s_48 ⟨some v_25, v_44, rfl, Rp.mono _ (Ex.refl _) exz r_49, fr_15⟩
    subst hs_56
    refine q_ret (tz := tNext) (E := E) (K := K) (σ := [some v_indexes, some v_many, some v_60, w_57]) x_bl s_54 (fun _ _ h => PX.mono (e_5.trans e_53) fr_62 h) hm fun a_63 v_64 I_65 H_66 e_67 s_68 r_69 hm => ?_
    exact hm v_64 I_65 H_66 (e_5.trans (e_53.trans e_67)) (St.less s_68 fr_62) (Im.im r_69)
def m__law_is_cover (ar_warnings : (List (Int × Int × Int))) (ar_events : (List (Int × Int))) (ar_lead : Int) (ar_slack : Int) (ar_lists : ((List Int) × (List Int))) : Res Bool :=
  (ifR (orR (un notR (un (fun (p : ((List Int) × Int)) => m__law_ascends p.1 p.2) (pair (un (fun p => Res.ok p.1) (Res.ok ar_lists)) (un rLen (Res.ok ar_warnings))))) (un notR (un (fun (p : ((List Int) × Int)) => m__law_ascends p.1 p.2) (pair (un (fun p => Res.ok p.2) (Res.ok ar_lists)) (un rLen (Res.ok ar_events)))))) ((Res.ok false).bind fun a_9 => Res.ok a_9) (((un rng1 (un rLen (Res.ok ar_warnings))).bind fun xs => loopR (fun (x_23 : Int) (z_16 : Unit) => (((un rng1 (un rLen (Res.ok ar_events))).bind fun xs => loopR (fun (x_41 : Int) (z_35 : Unit) => (ifR (andR (bin ninR (Res.ok x_23) (un (fun p => Res.ok p.1) (Res.ok ar_lists))) (andR (bin ninR (Res.ok x_41) (un (fun p => Res.ok p.2) (Res.ok ar_lists))) (un (fun (p : ((Int × Int × Int) × (Int × Int) × Int × Int)) => m__law_fits p.1 p.2.1 p.2.2.1 p.2.2.2) (pair (bin ix (Res.ok ar_warnings) (Res.ok x_23)) (pair (bin ix (Res.ok ar_events) (Res.ok x_41)) (pair (Res.ok ar_lead) (Res.ok ar_slack))))))) ((Res.ok false).bind fun a_61 => Res.ok (Out.rt a_61)) (Res.ok (Out.nx ())))) xs ()).bind fun (o : Out Unit Bool) => match o with | .nx z_73 => (Res.ok (Out.nx ())) | .br _ => Res.bad | .rt r => Res.ok (Out.rt r))) xs ()).bind fun (o : Out Unit Bool) => match o with | .nx z_84 => ((Res.ok true).bind fun a_91 => Res.ok a_91) | .br _ => Res.bad | .rt r => Res.ok r))
abbrev N__law_is_cover : List Str := ["warnings", "events", "lead", "slack", "lists", "w", "e"]
theorem sc__law_is_cover : FnScope N__law_is_cover ["warnings", "events", "lead", "slack", "lists"] (defScope s__law_is_cover) := ⟨rfl, rfl, rfl, by decide +kernel, rfl, by decide +kernel, by decide +kernel⟩
theorem bind__law_is_cover {K : PySem.W.Frag} {mg : Str → Option Value} {T : Tx K mg} : Binds K T.d__law_is_cover ["warnings", "events", "lead", "slack", "lists"] [] := FunD.bindsN T.F__law_is_cover fun _ _ _ _ _ _ us hl => match us, hl with | [_, _, _, _, _], _ => rfl
abbrev sp__law_is_cover (K : PySem.W.Frag) : Sp := spP K (tc (pV (pT (tc pI (tc pI (t1 pI))))) (tc (pV (pT (tc pI (t1 pI)))) (tc pI (tc pI (t1 (pT (tc (pL pI) (t1 (pL pI))))))))) (fun (p : ((List (Int × Int × Int)) × (List (Int × Int)) × Int × Int × ((List Int) × (List Int)))) => m__law_is_cover p.1 p.2.1 p.2.2.1 p.2.2.2.1 p.2.2.2.2) pB
theorem ok__law_is_cover (T : Tx K mg) : FnOk P w K mg base (L2.CX P w) 2 T.f__law_is_cover T.d__law_is_cover ["warnings", "events", "lead", "slack", "lists"] (sp__law_is_cover K) := by
  refine T.F__law_is_cover.ok sc__law_is_cover (fun vs H Q E h => ?_) (fun cdv A outer s H vs Q E hr h => ?_)
  · obtain ⟨I, C, a, _, hr, _⟩ := h
    exact Rt.len _ hr
  · obtain ⟨I0, C0, ⟨ar_warnings, ar_events, ar_lead, ar_slack, ar_lists⟩, hs, ⟨v_warnings, us0, rfl, r_warnings, v_events, us1, rfl, r_events, v_lead, us2, rfl, r_lead, v_slack, us3, rfl, r_slack, v_lists, rfl, r_lists⟩, hm⟩ := h
    have hm : Post (m__law_is_cover ar_warnings ar_events ar_lead ar_slack ar_lists) (PQ pB I0 C0 Q) (PX E K I0 C0) := hm
    replace r_lead : Rp.r pI ar_lead v_lead I0 Z := Im.im r_lead
    replace r_slack : Rp.r pI ar_slack v_slack I0 Z := Im.im r_slack
    replace r_lists : Rp.r (pT (tc (pL pI) (t1 (pL pI)))) ar_lists v_lists I0 Z := Im.im r_lists
    unfold m__law_is_cover at hm
    refine ⟨_, (pss_cons (ps_if (PW.pt (pw_or (pt_not (pt_val (pe_call (ok__law_ascends T) (hr.mono (by decide)) rfl T.g__law_ascends T.F__law_ascends.kp bind__law_ascends .nil passE (pa_cons (pe_ix (r := rIxT K) ix_tup (pv 4) pe_int (fun _ _ => rfl)) (pa_cons (pe_callB (r := rLen1 K) call_len_seq (by rfl) T.gb_len bt_len (pa_cons (pv 0) pa_nil)) pa_nil))))) (pw_or1 (pt_not (pt_val (pe_call (ok__law_ascends T) (hr.mono (by decide)) rfl T.g__law_ascends T.F__law_ascends.kp bind__law_ascends .nil passE (pa_cons (pe_ix (r := rIxT K) ix_tup (pv 4) pe_int (fun _ _ => rfl)) (pa_cons (pe_callB (r := rLen1 K) call_len_seq (by rfl) T.gb_len bt_len (pa_cons (pv 1) pa_nil)) pa_nil)))))))) (pss_cons (ps_ret pe_bl) pss_nil) pss_nil) (pss_cons (ps_for (passes_of rfl) rfl (pi_range1 (by rfl) T.gb_range (pa_cons (pe_callB (r := rLen1 K) call_len_seq (by rfl) T.gb_len bt_len (pa_cons (pv 0) pa_nil)) pa_nil)) (pg_name (i := 5) sc__law_is_cover.nd rfl (Or.inl rfl)) (pss_cons (ps_for (passes_of rfl) rfl (pi_range1 (by rfl) T.gb_range (pa_cons (pe_callB (r := rLen1 K) call_len_seq (by rfl) T.gb_len bt_len (pa_cons (pv 1) pa_nil)) pa_nil)) (pg_name (i := 6) sc__law_is_cover.nd rfl (Or.inl rfl)) (pss_cons (ps_if (PW.pt (pw_and (pt_cmpR (r := rIn K true) op_notIn_seq (pv 5) (pe_ix (r := rIxT K) ix_tup (pv 4) pe_int (fun _ _ => rfl)) rfl) (pw_and (pt_cmpR (r := rIn K true) op_notIn_seq (pv 6) (pe_ix (r := rIxT K) ix_tup (pv 4) pe_int (fun _ _ => rfl)) rfl) (pw_and1 (pt_val (pe_call (ok__law_fits T) (hr.mono (by decide)) rfl T.g__law_fits T.F__law_fits.kp bind__law_fits .nil passE (pa_cons (pe_ix (r := rIxL K) ix_list (pv 0) (pv 5) (fun _ _ => rfl)) (pa_cons (pe_ix (r := rIxL K) ix_list (pv 1) (pv 6) (fun _ _ => rfl)) (pa_cons (pv 2) (pa_cons (pv 3) pa_nil)))))))))) (pss_cons (ps_ret pe_bl) pss_nil) pss_nil) pss_nil)) pss_nil)) (pss_cons (ps_ret pe_bl) pss_nil))), ?_⟩
    refine s_if (E := E) (K := K) (σ := [some v_warnings, some v_events, some v_lead, some v_slack, some v_lists, none, none]) (t_or (t_not (t_B (x_call (a_cons (x_k (k := ((0 : Nat) : Int)) (o_pj pj0) (x_var (i := 4) rfl (Rp.mono _ (Ex.refl _) exz r_lists))) (a_one (x_cb o_len (a_one (x_var (i := 0) rfl (Rp.mono _ (Ex.refl _) (Ex.refl _) r_warnings))))))))) (t_not (t_B (x_call (a_cons (x_k (k := ((1 : Nat) : Int)) (o_pj (pjs pj1)) (x_var (i := 4) rfl (Rp.mono _ (Ex.refl _) exz r_lists))) (a_one (x_cb o_len (a_one (x_var (i := 1) rfl (Rp.mono _ (Ex.refl _) (Ex.refl _) r_events)))))))))) hs (fun _ _ h => PX.mono (Ex.refl _) (Ex.refl _) h) hm (fun I_1 H_2 e_3 s_4 hm => ?_) (fun I_5 H_6 e_7 s_8 hm => ?_)
    · refine q_ret (tz := tNext) (E := E) (K := K) (σ := [some v_warnings, some v_events, some v_lead, some v_slack, some v_lists, none, none]) x_bl s_4 (fun _ _ h => PX.mono e_3 (Ex.refl _) h) hm fun a_9 v_10 I_11 H_12 e_13 s_14 r_15 hm => ?_
      exact hm v_10 I_11 H_12 (e_3.trans e_13) (St.less s_14 (Ex.refl _)) (Im.im r_15)
    · refine s_forR (E := E) (K := K) (σ := [some v_warnings, some v_events, some v_lead, some v_slack, some v_lists, none, none]) (fun (z_16 : Unit) σ2 I_20 C_21 => ∃ w_18 : Option V, ∃ w_19 : Option V, σ2 = [some v_warnings, some v_events, some v_lead, some v_slack, some v_lists, w_18, w_19] ∧ Ex C0 C_21) (i_rng1 (a_one (x_cb o_len (a_one (x_var (i := 0) rfl (Rp.mono _ e_7 (Ex.refl _) r_warnings)))))) s_8 (fun _ _ h => PX.mono e_7 (Ex.refl _) h) hm (fun _ e_31 => ⟨none, none, rfl, (Ex.refl _)⟩) (fun _ _ _ _ _ => trivial) (fun _ _ _ _ _ e ⟨w_18, w_19, hs_17, fr_22⟩ => ⟨w_18, w_19, hs_17, fr_22⟩) (fun N x_23 v_24 z_16 σ2 I_25 C_26 H_27 e_28 s_29 ⟨w_18, w_19, hs_17, fr_22⟩ r_30 hm => ?_) (fun z_84 σ2 I_79 C_80 H_81 e_82 s_83 ⟨w_86, w_87, hs_85, fr_90⟩ hm => ?_)
      · subst hs_17
        refine g1 (K := K) x_23 v_24 I_25 C_26 H_27 _ s_29 r_30 fun σ2 ⟨v_32, hs_34, r_33⟩ => ?_
        subst hs_34
        refine s_forR (E := E) (K := K) (σ := [some v_warnings, some v_events, some v_lead, some v_slack, some v_lists, some v_32, w_19]) (fun (z_35 : Unit) σ2 I_38 C_39 => ∃ w_37 : Option V, σ2 = [some v_warnings, some v_events, some v_lead, some v_slack, some v_lists, some v_32, w_37] ∧ Ex C0 C_39) (i_rng1 (a_one (x_cb o_len (a_one (x_var (i := 1) rfl (Rp.mono _ (e_7.trans e_28) fr_22 r_events)))))) s_29 (fun _ _ h => PX.mono (e_7.trans e_28) fr_22 h) hm (fun _ e_49 => ⟨w_19, rfl, fr_22⟩) (fun _ _ _ _ _ => trivial) (fun _ _ _ _ _ e ⟨w_37, hs_36, fr_40⟩ => ⟨w_37, hs_36, fr_40⟩) (fun N x_41 v_42 z_35 σ2 I_43 C_44 H_45 e_46 s_47 ⟨w_37, hs_36, fr_40⟩ r_48 hm => ?_) (fun z_73 σ2 I_68 C_69 H_70 e_71 s_72 ⟨w_75, hs_74, fr_78⟩ hm => ?_)
        · subst hs_36
          refine g1 (K := K) x_41 v_42 I_43 C_44 H_45 _ s_47 r_48 fun σ2 ⟨v_50, hs_52, r_51⟩ => ?_
          subst hs_52
          refine s_if (E := E) (K := K) (σ := [some v_warnings, some v_events, some v_lead, some v_slack, some v_lists, some v_32, some v_50]) (t_and (t_test (x_op (o_nin fl_int) (x_var (i := 5) rfl (Rp.mono _ e_46 exz r_33)) (x_v (x_k (k := ((0 : Nat) : Int)) (o_pj pj0) (x_var (i := 4) rfl (Rp.mono _ (e_7.trans (e_28.trans e_46)) exz r_lists)))))) (t_and (t_test (x_op (o_nin fl_int) (x_var (i := 6) rfl (Rp.mono _ (Ex.refl _) exz r_51)) (x_v (x_k (k := ((1 : Nat) : Int)) (o_pj (pjs pj1)) (x_var (i := 4) rfl (Rp.mono _ (e_7.trans (e_28.trans e_46)) exz r_lists)))))) (t_B (x_call (a_cons (x_op o_ix (x_var (i := 0) rfl (Rp.mono _ (e_7.trans (e_28.trans e_46)) fr_40 r_warnings)) (x_var (i := 5) rfl (Rp.mono _ e_46 exz r_33))) (a_cons (x_op o_ix (x_var (i := 1) rfl (Rp.mono _ (e_7.trans (e_28.trans e_46)) fr_40 r_events)) (x_var (i := 6) rfl (Rp.mono _ (Ex.refl _) exz r_51))) (a_cons (x_var (i := 2) rfl (Rp.mono _ (e_7.trans (e_28.trans e_46)) exz r_lead)) (a_one (x_var (i := 3) rfl (Rp.mono _ (e_7.trans (e_28.trans e_46)) exz r_slack)))))))))) s_47 (fun _ _ h => PX.mono (e_7.trans (e_28.trans e_46)) fr_40 h) hm (fun I_53 H_54 e_55 s_56 hm => ?_) (fun I_57 H_58 e_59 s_60 hm => ?_)
          · refine q_ret (tz := tNext) (E := E) (K := K) (σ := [some v_warnings, some v_events, some v_lead, some v_slack, some v_lists, some v_32, some v_50]) x_bl s_56 (fun _ _ h => PX.mono (e_7.trans (e_28.trans (e_46.trans e_55))) fr_40 h) hm fun a_61 v_62 I_63 H_64 e_65 s_66 r_67 hm => ?_
            exact hm v_62 I_63 H_64 (e_7.trans (e_28.trans (e_46.trans (e_55.trans e_65)))) (St.less s_66 fr_40) (Im.im r_67)
          · exact hm _ _ _ _ e_59 s_60 ⟨some v_50, rfl, fr_40⟩
        subst hs_74
        exact hm _ _ _ _ e_71 s_72 ⟨some v_32, w_75, rfl, fr_78⟩
      subst hs_85
      refine q_ret (tz := tNext) (E := E) (K := K) (σ := [some v_warnings, some v_events, some v_lead, some v_slack, some v_lists, w_86, w_87]) x_bl s_83 (fun _ _ h => PX.mono (e_7.trans e_82) fr_90 h) hm fun a_91 v_92 I_93 H_94 e_95 s_96 r_97 hm => ?_
      exact hm v_92 I_93 H_94 (e_7.trans (e_82.trans e_95)) (St.less s_96 fr_90) (Im.im r_97)
def m__law_spoilt_span (ar_span : (Int × Int)) (a_pool : Pl) : Res ((Int × Int) × Pl) :=
  (((callM m__law_take (liftM (Res.ok (4 : Int)))) a_pool).bind fun (kind_1 : Int × Pl) => (ifR (bin eqR (Res.ok kind_1.1) (Res.ok (0 : Int))) (((pairM (binM rSub (liftM (un rNeg (Res.ok (1 : Int)))) (callM m__law_take (liftM (Res.ok (3 : Int))))) (liftM (un (fun p => Res.ok p.2) (Res.ok ar_span)))) kind_1.2).bind fun a_22 => Res.ok (a_22.1, a_22.2)) (ifR (bin eqR (Res.ok kind_1.1) (Res.ok (1 : Int))) (((pairM (liftM (un (fun p => Res.ok p.1) (Res.ok ar_span))) (binM rSub (liftM (un (fun p => Res.ok p.1) (Res.ok ar_span))) (callM m__law_take (liftM (Res.ok (3 : Int)))))) kind_1.2).bind fun a_43 => Res.ok (a_43.1, a_43.2)) (ifR (bin eqR (Res.ok kind_1.1) (Res.ok (2 : Int))) (((pairM (liftM (un (fun p => Res.ok p.1) (Res.ok ar_span))) (binM rAdd (liftM (Res.ok (49 : Int))) (callM m__law_take (liftM (Res.ok (3 : Int)))))) kind_1.2).bind fun a_64 => Res.ok (a_64.1, a_64.2)) ((pair (un (fun p => Res.ok p.2) (Res.ok ar_span)) (un (fun p => Res.ok p.1) (Res.ok ar_span))).bind fun a_77 => Res.ok (a_77, kind_1.2))))))
abbrev N__law_spoilt_span : List Str := ["pool", "span", "kind"]
theorem sc__law_spoilt_span : FnScope N__law_spoilt_span ["pool", "span"] (defScope s__law_spoilt_span) := ⟨rfl, rfl, rfl, by decide +kernel, rfl, by decide +kernel, by decide +kernel⟩
theorem bind__law_spoilt_span {K : PySem.W.Frag} {mg : Str → Option Value} {T : Tx K mg} : Binds K T.d__law_spoilt_span ["pool", "span"] [] := FunD.bindsN T.F__law_spoilt_span fun _ _ _ _ _ _ us hl => match us, hl with | [_, _], _ => rfl
abbrev sp__law_spoilt_span (K : PySem.W.Frag) : Sp := spM pM (t1 (pT (tc pI (t1 pI)))) m__law_spoilt_span (pT (tc pI (t1 pI)))
theorem ok__law_spoilt_span (T : Tx K mg) : FnOk P w K mg base (L2.CX P w) 4 T.f__law_spoilt_span T.d__law_spoilt_span ["pool", "span"] (sp__law_spoilt_span K) := by
  refine T.F__law_spoilt_span.ok sc__law_spoilt_span (fun vs H Q E h => ?_) (fun cdv A outer s H vs Q E hr h => ?_)
  · obtain ⟨I, C, p, ws, us, x, a, rfl, _, _, _, hr, _⟩ := h
    exact congrArg (· + 1) (Rt.len _ hr)
  · obtain ⟨I0, C0, p0, ws0, us, a_pool, ar_span, rfl, hs, hc0, hx1, ⟨v_span, rfl, r_span⟩, hm⟩ := h
    have hx0 := It.im (C' := Z) hx1
    have hm : Post (m__law_spoilt_span ar_span a_pool) (PM p0 pM (pT (tc pI (t1 pI))) I0 C0 Q) XF := hm
    replace r_span : Rp.r (pT (tc pI (t1 pI))) ar_span v_span I0 Z := Im.im r_span
    unfold m__law_spoilt_span at hm
    refine ⟨_, (pss_cons (ps_set (i := 2) sc__law_spoilt_span.nd rfl (Or.inl rfl) (pe_call (ok__law_take T) (hr.mono (by decide)) rfl T.g__law_take T.F__law_take.kp bind__law_take .nil passE (pa_cons (pv 0) (pa_cons pe_int pa_nil)))) (pss_cons (ps_if (pt_cmpR op_eq (pv 2) pe_int (nomark _)) (pss_cons (ps_ret (pe_tup (pa_cons (pe_op op_sub (pe_un un_neg pe_int) (pe_call (ok__law_take T) (hr.mono (by decide)) rfl T.g__law_take T.F__law_take.kp bind__law_take .nil passE (pa_cons (pv 0) (pa_cons pe_int pa_nil)))) (pa_cons (pe_ix (r := rIxT K) ix_tup (pv 1) pe_int (fun _ _ => rfl)) pa_nil)))) pss_nil) pss_nil) (pss_cons (ps_if (pt_cmpR op_eq (pv 2) pe_int (nomark _)) (pss_cons (ps_ret (pe_tup (pa_cons (pe_ix (r := rIxT K) ix_tup (pv 1) pe_int (fun _ _ => rfl)) (pa_cons (pe_op op_sub (pe_ix (r := rIxT K) ix_tup (pv 1) pe_int (fun _ _ => rfl)) (pe_call (ok__law_take T) (hr.mono (by decide)) rfl T.g__law_take T.F__law_take.kp bind__law_take .nil passE (pa_cons (pv 0) (pa_cons pe_int pa_nil)))) pa_nil)))) pss_nil) pss_nil) (pss_cons (ps_if (pt_cmpR op_eq (pv 2) pe_int (nomark _)) (pss_cons (ps_ret (pe_tup (pa_cons (pe_ix (r := rIxT K) ix_tup (pv 1) pe_int (fun _ _ => rfl)) (pa_cons (pe_op op_add pe_int (pe_call (ok__law_take T) (hr.mono (by decide)) rfl T.g__law_take T.F__law_take.kp bind__law_take .nil passE (pa_cons (pv 0) (pa_cons pe_int pa_nil)))) pa_nil)))) pss_nil) pss_nil) (pss_cons (ps_ret (pe_tup (pa_cons (pe_ix (r := rIxT K) ix_tup (pv 1) pe_int (fun _ _ => rfl)) (pa_cons (pe_ix (r := rIxT K) ix_tup (pv 1) pe_int (fun _ _ => rfl)) pa_nil)))) pss_nil))))), ?_⟩
    refine qm_asg (E := E) (K := K) (σ := [some (.ref p0), some v_span, none]) (i := 2) (m_callM (i := 0) rfl (am_pure (a_one (x_int (i := 4))))) hs hc0 (Rt.mono _ (Ex.refl _) exz hx0) hm fun kind_1 v_2 ws_8 I_3 C_9 H_4 e_5 s_6 hc_10 k_11 hx_12 r_7 hm => ?_
    have fr_13 := fr_pool (off_ex (C := C0) (p := p0)) k_11
    refine s_if (E := E) (K := K) (σ := [some (.ref p0), some v_span, some v_2]) (t_test (x_op o_eqI (x_var (i := 2) rfl (Rp.mono _ (Ex.refl _) exz r_7)) (x_int (i := 0)))) s_6 (fun _ _ h => h.elim) hm (fun I_14 H_15 e_16 s_17 hm => ?_) (fun I_18 H_19 e_20 s_21 hm => ?_)
    · refine qm_ret (E := E) (K := K) (σ := [some (.ref p0), some v_span, some v_2]) (m_tup (am_cons off_same (m_op (fun _ => o_sub) off_same (m_pure (x_un o_neg (x_int (i := 1)))) (m_callM (i := 0) rfl (am_pure (a_one (x_int (i := 3)))))) (am_one (m_pure (x_k (k := ((1 : Nat) : Int)) (o_pj (pjs pj1)) (x_var (i := 1) rfl (Rp.mono _ (e_5.trans e_16) exz r_span)))))) (Nat.le_of_ble_eq_true rfl)) s_17 hc_10 (Rt.mono _ e_16 exz hx_12) hm fun a_22 v_23 ws_29 I_24 C_30 H_25 e_26 s_27 hc_31 k_32 hx_33 r_28 hm => ?_
      have fr_34 := fr_pool fr_13 k_32
      exact ret_pool hm (e_5.trans (e_16.trans e_26)) fr_34 s_27 hc_31 hx_33 r_28
    · refine s_if (E := E) (K := K) (σ := [some (.ref p0), some v_span, some v_2]) (t_test (x_op o_eqI (x_var (i := 2) rfl (Rp.mono _ e_20 exz r_7)) (x_int (i := 1)))) s_21 (fun _ _ h => h.elim) hm (fun I_35 H_36 e_37 s_38 hm => ?_) (fun I_39 H_40 e_41 s_42 hm => ?_)
      · refine qm_ret (E := E) (K := K) (σ := [some (.ref p0), some v_span, some v_2]) (m_tup (am_cons off_same (m_pure (x_k (k := ((0 : Nat) : Int)) (o_pj pj0) (x_var (i := 1) rfl (Rp.mono _ (e_5.trans (e_20.trans e_37)) exz r_span)))) (am_one (m_op (fun _ => o_sub) off_same (m_pure (x_k (k := ((0 : Nat) : Int)) (o_pj pj0) (x_var (i := 1) rfl (Rp.mono _ (e_5.trans (e_20.trans e_37)) exz r_span)))) (m_callM (i := 0) rfl (am_pure (a_one (x_int (i := 3)))))))) (Nat.le_of_ble_eq_true rfl)) s_38 hc_10 (Rt.mono _ (e_20.trans e_37) exz hx_12) hm fun a_43 v_44 ws_50 I_45 C_51 H_46 e_47 s_48 hc_52 k_53 hx_54 r_49 hm => ?_
        have fr_55 := fr_pool fr_13 k_53
        exact ret_pool hm (e_5.trans (e_20.trans (e_37.trans e_47))) fr_55 s_48 hc_52 hx_54 r_49
      · refine s_if (E := E) (K := K) (σ := [some (.ref p0), some v_span, some v_2]) (t_test (x_op o_eqI (x_var (i := 2) rfl (Rp.mono _ (e_20.trans e_41) exz r_7)) (x_int (i := 2)))) s_42 (fun _ _ h => h.elim) hm (fun I_56 H_57 e_58 s_59 hm => ?_) (fun I_60 H_61 e_62 s_63 hm => ?_)
        · refine qm_ret (E := E) (K := K) (σ := [some (.ref p0), some v_span, some v_2]) (m_tup (am_cons off_same (m_pure (x_k (k := ((0 : Nat) : Int)) (o_pj pj0) (x_var (i := 1) rfl (Rp.mono _ (e_5.trans (e_20.trans (e_41.trans e_58))) exz r_span)))) (am_one (m_op (fun _ => o_add) off_same (m_pure (x_int (i := 49))) (m_callM (i := 0) rfl (am_pure (a_one (x_int (i := 3)))))))) (Nat.le_of_ble_eq_true rfl)) s_59 hc_10 (Rt.mono _ (e_20.trans (e_41.trans e_58)) exz hx_12) hm fun a_64 v_65 ws_71 I_66 C_72 H_67 e_68 s_69 hc_73 k_74 hx_75 r_70 hm => ?_
          have fr_76 := fr_pool fr_13 k_74
          exact ret_pool hm (e_5.trans (e_20.trans (e_41.trans (e_58.trans e_68)))) fr_76 s_69 hc_73 hx_75 r_70
        · refine q_ret (tz := tNext) (E := E) (K := K) (σ := [some (.ref p0), some v_span, some v_2]) (x_tup (a_cons (x_k (k := ((1 : Nat) : Int)) (o_pj (pjs pj1)) (x_var (i := 1) rfl (Rp.mono _ (e_5.trans (e_20.trans (e_41.trans e_62))) exz r_span))) (a_one (x_k (k := ((0 : Nat) : Int)) (o_pj pj0) (x_var (i := 1) rfl (Rp.mono _ (e_5.trans (e_20.trans (e_41.trans e_62))) exz r_span))))) (Nat.le_of_ble_eq_true rfl)) s_63 (fun _ _ h => h.elim) hm fun a_77 v_78 I_79 H_80 e_81 s_82 r_83 hm => ?_
          exact ret_pool hm (e_5.trans (e_20.trans (e_41.trans (e_62.trans e_81)))) fr_13 s_82 hc_10 (Rt.mono _ (e_20.trans (e_41.trans (e_62.trans e_81))) exz hx_12) r_83
def m__law_spoilt_warning (ar_warning : (Int × Int × Int)) (a_pool : Pl) : Res ((Int × Int × Int) × Pl) :=
  (ifMR (binM eqR (callM m__law_take (liftM (Res.ok (3 : Int)))) (liftM (Res.ok (0 : Int)))) a_pool (fun (y_9 : Pl) => (((binM ix (consM (liftM (un rNeg (Res.ok (2 : Int)))) (consM (liftM (Res.ok (49 : Int))) (consM (binM rSub (liftM (un rNeg (Res.ok (2 : Int)))) (callM m__law_take (liftM (Res.ok (50 : Int))))) (consM (binM rAdd (liftM (Res.ok (49 : Int))) (callM m__law_take (liftM (Res.ok (50 : Int))))) (liftM (Res.ok [])))))) (callM m__law_take (liftM (Res.ok (4 : Int))))) y_9).bind fun (told_22 : Int × Pl) => ((pair (Res.ok told_22.1) (pair (un (fun p => Res.ok p.2.1) (Res.ok ar_warning)) (un (fun p => Res.ok p.2.2) (Res.ok ar_warning)))).bind fun a_35 => Res.ok (a_35, told_22.2)))) (fun (y_15 : Pl) => (((callM m__law_spoilt_span (liftM (pair (un (fun p => Res.ok p.2.1) (Res.ok ar_warning)) (un (fun p => Res.ok p.2.2) (Res.ok ar_warning))))) y_15).bind fun (span_43 : (Int × Int) × Pl) => ((pair (un (fun p => Res.ok p.1) (Res.ok ar_warning)) (pair (un (fun p => Res.ok p.1) (Res.ok span_43.1)) (un (fun p => Res.ok p.2) (Res.ok span_43.1)))).bind fun a_56 => Res.ok (a_56, span_43.2)))))
abbrev N__law_spoilt_warning : List Str := ["pool", "warning", "told", "span"]
theorem sc__law_spoilt_warning : FnScope N__law_spoilt_warning ["pool", "warning"] (defScope s__law_spoilt_warning) := ⟨rfl, rfl, rfl, by decide +kernel, rfl, by decide +kernel, by decide +kernel⟩
theorem bind__law_spoilt_warning {K : PySem.W.Frag} {mg : Str → Option Value} {T : Tx K mg} : Binds K T.d__law_spoilt_warning ["pool", "warning"] [] := FunD.bindsN T.F__law_spoilt_warning fun _ _ _ _ _ _ us hl => match us, hl with | [_, _], _ => rfl
abbrev sp__law_spoilt_warning (K : PySem.W.Frag) : Sp := spM pM (t1 (pT (tc pI (tc pI (t1 pI))))) m__law_spoilt_warning (pT (tc pI (tc pI (t1 pI))))
theorem ok__law_spoilt_warning (T : Tx K mg) : FnOk P w K mg base (L2.CX P w) 5 T.f__law_spoilt_warning T.d__law_spoilt_warning ["pool", "warning"] (sp__law_spoilt_warning K) := by
  refine T.F__law_spoilt_warning.ok sc__law_spoilt_warning (fun vs H Q E h => ?_) (fun cdv A outer s H vs Q E hr h => ?_)
  · obtain ⟨I, C, p, ws, us, x, a, rfl, _, _, _, hr, _⟩ := h
    exact congrArg (· + 1) (Rt.len _ hr)
  · obtain ⟨I0, C0, p0, ws0, us, a_pool, ar_warning, rfl, hs, hc0, hx1, ⟨v_warning, rfl, r_warning⟩, hm⟩ := h
    have hx0 := It.im (C' := Z) hx1
    have hm : Post (m__law_spoilt_warning ar_warning a_pool) (PM p0 pM (pT (tc pI (tc pI (t1 pI)))) I0 C0 Q) XF := hm
    replace r_warning : Rp.r (pT (tc pI (tc pI (t1 pI)))) ar_warning v_warning I0 Z := Im.im r_warning
    unfold m__law_spoilt_warning at hm
    refine ⟨_, (pss_cons (ps_if (pt_cmpR op_eq (pe_call (ok__law_take T) (hr.mono (by decide)) rfl T.g__law_take T.F__law_take.kp bind__law_take .nil passE (pa_cons (pv 0) (pa_cons pe_int pa_nil))) pe_int (nomark _)) (pss_cons (ps_set (i := 2) sc__law_spoilt_warning.nd rfl (Or.inl rfl) (pe_ix (r := rIxL K) ix_list (pe_lst (pa_cons (pe_un un_neg pe_int) (pa_cons pe_int (pa_cons (pe_op op_sub (pe_un un_neg pe_int) (pe_call (ok__law_take T) (hr.mono (by decide)) rfl T.g__law_take T.F__law_take.kp bind__law_take .nil passE (pa_cons (pv 0) (pa_cons pe_int pa_nil)))) (pa_cons (pe_op op_add pe_int (pe_call (ok__law_take T) (hr.mono (by decide)) rfl T.g__law_take T.F__law_take.kp bind__law_take .nil passE (pa_cons (pv 0) (pa_cons pe_int pa_nil)))) pa_nil))))) (pe_call (ok__law_take T) (hr.mono (by decide)) rfl T.g__law_take T.F__law_take.kp bind__law_take .nil passE (pa_cons (pv 0) (pa_cons pe_int pa_nil))) (fun _ _ => rfl))) (pss_cons (ps_ret (pe_tup (pa_cons (pv 2) (pa_cons (pe_ix (r := rIxT K) ix_tup (pv 1) pe_int (fun _ _ => rfl)) (pa_cons (pe_ix (r := rIxT K) ix_tup (pv 1) pe_int (fun _ _ => rfl)) pa_nil))))) pss_nil)) pss_nil) (pss_cons (ps_set (i := 3) sc__law_spoilt_warning.nd rfl (Or.inl rfl) (pe_call (ok__law_spoilt_span T) (hr.mono (by decide)) rfl T.g__law_spoilt_span T.F__law_spoilt_span.kp bind__law_spoilt_span .nil passE (pa_cons (pv 0) (pa_cons (pe_tup (pa_cons (pe_ix (r := rIxT K) ix_tup (pv 1) pe_int (fun _ _ => rfl)) (pa_cons (pe_ix (r := rIxT K) ix_tup (pv 1) pe_int (fun _ _ => rfl)) pa_nil))) pa_nil)))) (pss_cons (ps_ret (pe_tup (pa_cons (pe_ix (r := rIxT K) ix_tup (pv 1) pe_int (fun _ _ => rfl)) (pa_cons (pe_ix (r := rIxT K) ix_tup (pv 3) pe_int (fun _ _ => rfl)) (pa_cons (pe_ix (r := rIxT K) ix_tup (pv 3) pe_int (fun _ _ => rfl)) pa_nil))))) pss_nil))), ?_⟩
    refine qm_if (E := E) (K := K) (σ := [some (.ref p0), some v_warning, none, none]) (tm_test (m_op (fun _ => o_eqI) off_same (m_callM (i := 0) rfl (am_pure (a_one (x_int (i := 3))))) (m_pure (x_int (i := 0))))) hs hc0 (Rt.mono _ (Ex.refl _) exz hx0) hm (fun y_9 ws_10 I_1 C_11 H_2 e_3 s_4 hc_12 k_13 hx_14 hm => ?_) (fun y_15 ws_16 I_5 C_17 H_6 e_7 s_8 hc_18 k_19 hx_20 hm => ?_)
    · have fr_21 := fr_pool (off_ex (C := C0) (p := p0)) k_13
      refine qm_asg (E := E) (K := K) (σ := [some (.ref p0), some v_warning, none, none]) (i := 2) (m_op (fun _ => (Op2.ofL o_ix)) off_same (m_lst (alm_cons off_same (m_pure (x_un o_neg (x_int (i := 2)))) (alm_cons off_same (m_pure (x_int (i := 49))) (alm_cons off_same (m_op (fun _ => o_sub) off_same (m_pure (x_un o_neg (x_int (i := 2)))) (m_callM (i := 0) rfl (am_pure (a_one (x_int (i := 50)))))) (alm_cons off_same (m_op (fun _ => o_add) off_same (m_pure (x_int (i := 49))) (m_callM (i := 0) rfl (am_pure (a_one (x_int (i := 50)))))) alm_nil)))) (Nat.le_of_ble_eq_true rfl)) (m_callM (i := 0) rfl (am_pure (a_one (x_int (i := 4)))))) s_4 hc_12 (Rt.mono _ (Ex.refl _) exz hx_14) hm fun told_22 v_23 ws_29 I_24 C_30 H_25 e_26 s_27 hc_31 k_32 hx_33 r_28 hm => ?_
      have fr_34 := fr_pool fr_21 k_32
      refine q_ret (tz := tNext) (E := E) (K := K) (σ := [some (.ref p0), some v_warning, some v_23, none]) (x_tup (a_cons (x_var (i := 2) rfl (Rp.mono _ (Ex.refl _) exz r_28)) (a_cons (x_k (k := ((1 : Nat) : Int)) (o_pj (pjs pj0)) (x_var (i := 1) rfl (Rp.mono _ (e_3.trans e_26) exz r_warning))) (a_one (x_k (k := ((2 : Nat) : Int)) (o_pj (pjs (pjs pj1))) (x_var (i := 1) rfl (Rp.mono _ (e_3.trans e_26) exz r_warning)))))) (Nat.le_of_ble_eq_true rfl)) s_27 (fun _ _ h => h.elim) hm fun a_35 v_36 I_37 H_38 e_39 s_40 r_41 hm => ?_
      exact ret_pool hm (e_3.trans (e_26.trans e_39)) fr_34 s_40 hc_31 (Rt.mono _ e_39 exz hx_33) r_41
    · have fr_42 := fr_pool (off_ex (C := C0) (p := p0)) k_19
      refine qm_asg (E := E) (K := K) (σ := [some (.ref p0), some v_warning, none, none]) (i := 3) (m_callM (i := 0) rfl (am_pure (a_one (x_tup (a_cons (x_k (k := ((1 : Nat) : Int)) (o_pj (pjs pj0)) (x_var (i := 1) rfl (Rp.mono _ e_7 exz r_warning))) (a_one (x_k (k := ((2 : Nat) : Int)) (o_pj (pjs (pjs pj1))) (x_var (i := 1) rfl (Rp.mono _ e_7 exz r_warning))))) (Nat.le_of_ble_eq_true rfl))))) s_8 hc_18 (Rt.mono _ (Ex.refl _) exz hx_20) hm fun span_43 v_44 ws_50 I_45 C_51 H_46 e_47 s_48 hc_52 k_53 hx_54 r_49 hm => ?_
      have fr_55 := fr_pool fr_42 k_53
      refine q_ret (tz := tNext) (E := E) (K := K) (σ := [some (.ref p0), some v_warning, none, some v_44]) (x_tup (a_cons (x_k (k := ((0 : Nat) : Int)) (o_pj pj0) (x_var (i := 1) rfl (Rp.mono _ (e_7.trans e_47) exz r_warning))) (a_cons (x_k (k := ((0 : Nat) : Int)) (o_pj pj0) (x_var (i := 3) rfl (Rp.mono _ (Ex.refl _) exz r_49))) (a_one (x_k (k := ((1 : Nat) : Int)) (o_pj (pjs pj1)) (x_var (i := 3) rfl (Rp.mono _ (Ex.refl _) exz r_49)))))) (Nat.le_of_ble_eq_true rfl)) s_48 (fun _ _ h => h.elim) hm fun a_56 v_57 I_58 H_59 e_60 s_61 r_62 hm => ?_
      exact ret_pool hm (e_7.trans (e_47.trans e_60)) fr_55 s_61 hc_52 (Rt.mono _ e_60 exz hx_54) r_62
def m__law_is_span (ar_start : Int) (ar_end : Int) : Res Bool :=
  ((andR (bin rLe (Res.ok (0 : Int)) (Res.ok ar_start)) (andR (bin rLt (Res.ok ar_start) (Res.ok ar_end)) (bin rLe (Res.ok ar_end) (Res.ok (48 : Int))))).bind fun a_1 => Res.ok a_1)
abbrev N__law_is_span : List Str := ["start", "end"]
theorem sc__law_is_span : FnScope N__law_is_span ["start", "end"] (defScope s__law_is_span) := ⟨rfl, rfl, rfl, by decide +kernel, rfl, by decide +kernel, by decide +kernel⟩
theorem bind__law_is_span {K : PySem.W.Frag} {mg : Str → Option Value} {T : Tx K mg} : Binds K T.d__law_is_span ["start", "end"] [] := FunD.bindsN T.F__law_is_span fun _ _ _ _ _ _ us hl => match us, hl with | [_, _], _ => rfl
abbrev sp__law_is_span (K : PySem.W.Frag) : Sp := spP K (tc pI (t1 pI)) (fun (p : (Int × Int)) => m__law_is_span p.1 p.2) pB
theorem ok__law_is_span (T : Tx K mg) : FnOk P w K mg base (L2.CX P w) 1 T.f__law_is_span T.d__law_is_span ["start", "end"] (sp__law_is_span K) := by
  refine T.F__law_is_span.ok sc__law_is_span (fun vs H Q E h => ?_) (fun cdv A outer s H vs Q E hr h => ?_)
  · obtain ⟨I, C, a, _, hr, _⟩ := h
    exact Rt.len _ hr
  · obtain ⟨I0, C0, ⟨ar_start, ar_end⟩, hs, ⟨v_start, us0, rfl, r_start, v_end, rfl, r_end⟩, hm⟩ := h
    have hm : Post (m__law_is_span ar_start ar_end) (PQ pB I0 C0 Q) (PX E K I0 C0) := hm
    replace r_start : Rp.r pI ar_start v_start I0 Z := Im.im r_start
    replace r_end : Rp.r pI ar_end v_end I0 Z := Im.im r_end
    unfold m__law_is_span at hm
    refine ⟨_, (pss_cons (ps_ret (pe_and (pe_cmpR op_le pe_int (pv 0) (nomark _)) (pe_and (pe_cmpR op_lt (pv 0) (pv 1) (nomark _)) (pe_one (pe_cmpR op_le (pv 1) pe_int (nomark _)))))) pss_nil), ?_⟩
    refine q_ret (tz := tNext) (E := E) (K := K) (σ := [some v_start, some v_end]) (x_andV (x_op o_le (x_int (i := 0)) (x_var (i := 0) rfl (Rp.mono _ (Ex.refl _) exz r_start))) (x_andV (x_op o_lt (x_var (i := 0) rfl (Rp.mono _ (Ex.refl _) exz r_start)) (x_var (i := 1) rfl (Rp.mono _ (Ex.refl _) exz r_end))) (x_op o_le (x_var (i := 1) rfl (Rp.mono _ (Ex.refl _) exz r_end)) (x_int (i := 48))))) hs (fun _ _ h => PX.mono (Ex.refl _) (Ex.refl _) h) hm fun a_1 v_2 I_3 H_4 e_5 s_6 r_7 hm => ?_
    exact hm v_2 I_3 H_4 e_5 (St.less s_6 (Ex.refl _)) (Im.im r_7)
def m__law_due_refusal (ar_warnings : (List (Int × Int × Int))) (ar_events : (List (Int × Int))) : Res (Option (Str × Int)) :=
  (ifR (bin rGt (un rLen (Res.ok ar_warnings)) (Res.ok (12 : Int))) ((un someR' (pair (Res.ok ("many" : Str)) (Res.ok (12 : Int)))).bind fun a_9 => Res.ok a_9) (((un rng1 (un rLen (Res.ok ar_warnings))).bind fun xs => loopR (fun (x_23 : Int) (z_16 : Unit) => ((un (fun p => Res.ok p.1) (bin ix (Res.ok ar_warnings) (Res.ok x_23))).bind fun (told_35 : Int) => (ifR (orR (bin rLt (Res.ok told_35) (un rNeg (Res.ok (1 : Int)))) (orR (bin rGt (Res.ok told_35) (Res.ok (48 : Int))) (un notR (un (fun (p : (Int × Int)) => m__law_is_span p.1 p.2) (pair (un (fun p => Res.ok p.2.1) (bin ix (Res.ok ar_warnings) (Res.ok x_23))) (un (fun p => Res.ok p.2.2) (bin ix (Res.ok ar_warnings) (Res.ok x_23)))))))) ((un someR' (pair (Res.ok ("pair" : Str)) (Res.ok x_23))).bind fun a_50 => Res.ok (Out.rt a_50)) (Res.ok (Out.nx ()))))) xs ()).bind fun (o : Out Unit (Option (Str × Int))) => match o with | .nx z_62 => (ifR (bin rGt (un rLen (Res.ok ar_events)) (Res.ok (12 : Int))) ((un someR' (pair (Res.ok ("many" : Str)) (Res.ok (12 : Int)))).bind fun a_77 => Res.ok a_77) (((un rng1 (un rLen (Res.ok ar_events))).bind fun xs => loopR (fun (x_90 : Int) (z_84 : Unit) => (ifR (un notR (un (fun (p : (Int × Int)) => m__law_is_span p.1 p.2) (pair (un (fun p => Res.ok p.1) (bin ix (Res.ok ar_events) (Res.ok x_90))) (un (fun p => Res.ok p.2) (bin ix (Res.ok ar_events) (Res.ok x_90)))))) ((un someR' (pair (Res.ok ("pair" : Str)) (Res.ok x_90))).bind fun a_110 => Res.ok (Out.rt a_110)) (Res.ok (Out.nx ())))) xs ()).bind fun (o : Out Unit (Option (Str × Int))) => match o with | .nx z_122 => ((Res.ok none).bind fun a_128 => Res.ok a_128) | .br _ => Res.bad | .rt r => Res.ok r)) | .br _ => Res.bad | .rt r => Res.ok r))
abbrev N__law_due_refusal : List Str := ["warnings", "events", "k", "told"]
theorem sc__law_due_refusal : FnScope N__law_due_refusal ["warnings", "events"] (defScope s__law_due_refusal) := ⟨rfl, rfl, rfl, by decide +kernel, rfl, by decide +kernel, by decide +kernel⟩
theorem bind__law_due_refusal {K : PySem.W.Frag} {mg : Str → Option Value} {T : Tx K mg} : Binds K T.d__law_due_refusal ["warnings", "events"] [] := FunD.bindsN T.F__law_due_refusal fun _ _ _ _ _ _ us hl => match us, hl with | [_, _], _ => rfl
abbrev sp__law_due_refusal (K : PySem.W.Frag) : Sp := spP K (tc (pV (pT (tc pI (tc pI (t1 pI))))) (t1 (pV (pT (tc pI (t1 pI)))))) (fun (p : ((List (Int × Int × Int)) × (List (Int × Int)))) => m__law_due_refusal p.1 p.2) (pO (pT (tc pS (t1 pI))))
theorem ok__law_due_refusal (T : Tx K mg) : FnOk P w K mg base (L2.CX P w) 2 T.f__law_due_refusal T.d__law_due_refusal ["warnings", "events"] (sp__law_due_refusal K) := by
  refine T.F__law_due_refusal.ok sc__law_due_refusal (fun vs H Q E h => ?_) (fun cdv A outer s H vs Q E hr h => ?_)
  · obtain ⟨I, C, a, _, hr, _⟩ := h
    exact Rt.len _ hr
  · obtain ⟨I0, C0, ⟨ar_warnings, ar_events⟩, hs, ⟨v_warnings, us0, rfl, r_warnings, v_events, rfl, r_events⟩, hm⟩ := h
    have hm : Post (m__law_due_refusal ar_warnings ar_events) (PQ (pO (pT (tc pS (t1 pI)))) I0 C0 Q) (PX E K I0 C0) := hm
    unfold m__law_due_refusal at hm
    refine ⟨_, (pss_cons (ps_if (pt_cmpR op_gt (pe_callB (r := rLen1 K) call_len_seq (by rfl) T.gb_len bt_len (pa_cons (pv 0) pa_nil)) pe_int (nomark _)) (pss_cons (ps_ret (pe_tup (pa_cons pe_str (pa_cons pe_int pa_nil)))) pss_nil) pss_nil) (pss_cons (ps_for (passes_of rfl) rfl (pi_range1 (by rfl) T.gb_range (pa_cons (pe_callB (r := rLen1 K) call_len_seq (by rfl) T.gb_len bt_len (pa_cons (pv 0) pa_nil)) pa_nil)) (pg_name (i := 2) sc__law_due_refusal.nd rfl (Or.inl rfl)) (pss_cons (ps_set (i := 3) sc__law_due_refusal.nd rfl (Or.inl rfl) (pe_ix (r := rIxT K) ix_tup (pe_ix (r := rIxL K) ix_list (pv 0) (pv 2) (fun _ _ => rfl)) pe_int (fun _ _ => rfl))) (pss_cons (ps_if (PW.pt (pw_or (pt_cmpR op_lt (pv 3) (pe_un un_neg pe_int) (nomark _)) (pw_or (pt_cmpR op_gt (pv 3) pe_int (nomark _)) (pw_or1 (pt_not (pt_val (pe_call (ok__law_is_span T) (hr.mono (by decide)) rfl T.g__law_is_span T.F__law_is_span.kp bind__law_is_span .nil passE (pa_cons (pe_ix (r := rIxT K) ix_tup (pe_ix (r := rIxL K) ix_list (pv 0) (pv 2) (fun _ _ => rfl)) pe_int (fun _ _ => rfl)) (pa_cons (pe_ix (r := rIxT K) ix_tup (pe_ix (r := rIxL K) ix_list (pv 0) (pv 2) (fun _ _ => rfl)) pe_int (fun _ _ => rfl)) pa_nil))))))))) (pss_cons (ps_ret (pe_tup (pa_cons pe_str (pa_cons (pv 2) pa_nil)))) pss_nil) pss_nil) pss_nil))) (pss_cons (ps_if (pt_cmpR op_gt (pe_callB (r := rLen1 K) call_len_seq (by rfl) T.gb_len bt_len (pa_cons (pv 1) pa_nil)) pe_int (nomark _)) (pss_cons (ps_ret (pe_tup (pa_cons pe_str (pa_cons pe_int pa_nil)))) pss_nil) pss_nil) (pss_cons (ps_for (passes_of rfl) rfl (pi_range1 (by rfl) T.gb_range (pa_cons (pe_callB (r := rLen1 K) call_len_seq (by rfl) T.gb_len bt_len (pa_cons (pv 1) pa_nil)) pa_nil)) (pg_name (i := 2) sc__law_due_refusal.nd rfl (Or.inl rfl)) (pss_cons (ps_if (pt_not (pt_val (pe_call (ok__law_is_span T) (hr.mono (by decide)) rfl T.g__law_is_span T.F__law_is_span.kp bind__law_is_span .nil passE (pa_cons (pe_ix (r := rIxT K) ix_tup (pe_ix (r := rIxL K) ix_list (pv 1) (pv 2) (fun _ _ => rfl)) pe_int (fun _ _ => rfl)) (pa_cons (pe_ix (r := rIxT K) ix_tup (pe_ix (r := rIxL K) ix_list (pv 1) (pv 2) (fun _ _ => rfl)) pe_int (fun _ _ => rfl)) pa_nil))))) (pss_cons (ps_ret (pe_tup (pa_cons pe_str (pa_cons (pv 2) pa_nil)))) pss_nil) pss_nil) pss_nil)) (pss_cons (ps_ret pe_non) pss_nil))))), ?_⟩
    refine s_if (E := E) (K := K) (σ := [some v_warnings, some v_events, none, none]) (t_test (x_op o_gt (x_cb o_len (a_one (x_var (i := 0) rfl (Rp.mono _ (Ex.refl _) (Ex.refl _) r_warnings)))) (x_int (i := 12)))) hs (fun _ _ h => PX.mono (Ex.refl _) (Ex.refl _) h) hm (fun I_1 H_2 e_3 s_4 hm => ?_) (fun I_5 H_6 e_7 s_8 hm => ?_)
    · refine q_ret (tz := tNext) (E := E) (K := K) (σ := [some v_warnings, some v_events, none, none]) (x_some (x_tup (a_cons (x_str (by decide +kernel)) (a_one (x_int (i := 12)))) (Nat.le_of_ble_eq_true rfl))) s_4 (fun _ _ h => PX.mono e_3 (Ex.refl _) h) hm fun a_9 v_10 I_11 H_12 e_13 s_14 r_15 hm => ?_
      exact hm v_10 I_11 H_12 (e_3.trans e_13) (St.less s_14 (Ex.refl _)) (Im.im r_15)
    · refine s_forR (E := E) (K := K) (σ := [some v_warnings, some v_events, none, none]) (fun (z_16 : Unit) σ2 I_20 C_21 => ∃ w_18 : Option V, ∃ w_19 : Option V, σ2 = [some v_warnings, some v_events, w_18, w_19] ∧ Ex C0 C_21) (i_rng1 (a_one (x_cb o_len (a_one (x_var (i := 0) rfl (Rp.mono _ e_7 (Ex.refl _) r_warnings)))))) s_8 (fun _ _ h => PX.mono e_7 (Ex.refl _) h) hm (fun _ e_31 => ⟨none, none, rfl, (Ex.refl _)⟩) (fun _ _ _ _ _ => trivial) (fun _ _ _ _ _ e ⟨w_18, w_19, hs_17, fr_22⟩ => ⟨w_18, w_19, hs_17, fr_22⟩) (fun N x_23 v_24 z_16 σ2 I_25 C_26 H_27 e_28 s_29 ⟨w_18, w_19, hs_17, fr_22⟩ r_30 hm => ?_) (fun z_62 σ2 I_57 C_58 H_59 e_60 s_61 ⟨w_64, w_65, hs_63, fr_68⟩ hm => ?_)
      · subst hs_17
        refine g1 (K := K) x_23 v_24 I_25 C_26 H_27 _ s_29 r_30 fun σ2 ⟨v_32, hs_34, r_33⟩ => ?_
        subst hs_34
        refine q_asg (E := E) (K := K) (σ := [some v_warnings, some v_events, some v_32, w_19]) (i := 3) (x_k (k := ((0 : Nat) : Int)) (o_pj pj0) (x_op o_ix (x_var (i := 0) rfl (Rp.mono _ (e_7.trans e_28) fr_22 r_warnings)) (x_var (i := 2) rfl (Rp.mono _ (Ex.refl _) exz r_33)))) s_29 (fun _ _ h => PX.mono (e_7.trans e_28) fr_22 h) hm fun told_35 v_36 I_37 H_38 e_39 s_40 r_41 hm => ?_
        refine s_if (E := E) (K := K) (σ := [some v_warnings, some v_events, some v_32, some v_36]) (t_or (t_test (x_op o_lt (x_var (i := 3) rfl (Rp.mono _ (Ex.refl _) exz r_41)) (x_un o_neg (x_int (i := 1))))) (t_or (t_test (x_op o_gt (x_var (i := 3) rfl (Rp.mono _ (Ex.refl _) exz r_41)) (x_int (i := 48)))) (t_not (t_B (x_call (a_cons (x_k (k := ((1 : Nat) : Int)) (o_pj (pjs pj0)) (x_op o_ix (x_var (i := 0) rfl (Rp.mono _ (e_7.trans (e_28.trans e_39)) fr_22 r_warnings)) (x_var (i := 2) rfl (Rp.mono _ e_39 exz r_33)))) (a_one (x_k (k := ((2 : Nat) : Int)) (o_pj (pjs (pjs pj1))) (x_op o_ix (x_var (i := 0) rfl (Rp.mono _ (e_7.trans (e_28.trans e_39)) fr_22 r_warnings)) (x_var (i := 2) rfl (Rp.mono _ e_39 exz r_33))))))))))) s_40 (fun _ _ h => PX.mono (e_7.trans (e_28.trans e_39)) fr_22 h) hm (fun I_42 H_43 e_44 s_45 hm => ?_) (fun I_46 H_47 e_48 s_49 hm => ?_)
        · refine q_ret (tz := tNext) (E := E) (K := K) (σ := [some v_warnings, some v_events, some v_32, some v_36]) (x_some (x_tup (a_cons (x_str (by decide +kernel)) (a_one (x_var (i := 2) rfl (Rp.mono _ (e_39.trans e_44) exz r_33)))) (Nat.le_of_ble_eq_true rfl))) s_45 (fun _ _ h => PX.mono (e_7.trans (e_28.trans (e_39.trans e_44))) fr_22 h) hm fun a_50 v_51 I_52 H_53 e_54 s_55 r_56 hm => ?_
          exact hm v_51 I_52 H_53 (e_7.trans (e_28.trans (e_39.trans (e_44.trans e_54)))) (St.less s_55 fr_22) (Im.im r_56)
        · exact hm _ _ _ _ (e_39.trans e_48) s_49 ⟨some v_32, some v_36, rfl, fr_22⟩
      subst hs_63
      refine s_if (E := E) (K := K) (σ := [some v_warnings, some v_events, w_64, w_65]) (t_test (x_op o_gt (x_cb o_len (a_one (x_var (i := 1) rfl (Rp.mono _ (e_7.trans e_60) fr_68 r_events)))) (x_int (i := 12)))) s_61 (fun _ _ h => PX.mono (e_7.trans e_60) fr_68 h) hm (fun I_69 H_70 e_71 s_72 hm => ?_) (fun I_73 H_74 e_75 s_76 hm => ?_)
      · refine q_ret (tz := tNext) (E := E) (K := K) (σ := [some v_warnings, some v_events, w_64, w_65]) (x_some (x_tup (a_cons (x_str (by decide +kernel)) (a_one (x_int (i := 12)))) (Nat.le_of_ble_eq_true rfl))) s_72 (fun _ _ h => PX.mono (e_7.trans (e_60.trans e_71)) fr_68 h) hm fun a_77 v_78 I_79 H_80 e_81 s_82 r_83 hm => ?_
        exact hm v_78 I_79 H_80 (e_7.trans (e_60.trans (e_71.trans e_81))) (St.less s_82 fr_68) (Im.im r_83)
      · refine s_forR (E := E) (K := K) (σ := [some v_warnings, some v_events, w_64, w_65]) (fun (z_84 : Unit) σ2 I_87 C_88 => ∃ w_86 : Option V, σ2 = [some v_warnings, some v_events, w_86, w_65] ∧ Ex C0 C_88) (i_rng1 (a_one (x_cb o_len (a_one (x_var (i := 1) rfl (Rp.mono _ (e_7.trans (e_60.trans e_75)) fr_68 r_events)))))) s_76 (fun _ _ h => PX.mono (e_7.trans (e_60.trans e_75)) fr_68 h) hm (fun _ e_98 => ⟨w_64, rfl, fr_68⟩) (fun _ _ _ _ _ => trivial) (fun _ _ _ _ _ e ⟨w_86, hs_85, fr_89⟩ => ⟨w_86, hs_85, fr_89⟩) (fun N x_90 v_91 z_84 σ2 I_92 C_93 H_94 e_95 s_96 ⟨w_86, hs_85, fr_89⟩ r_97 hm => ?_) (fun z_122 σ2 I_117 C_118 H_119 e_120 s_121 ⟨w_124, hs_123, fr_127⟩ hm => ?_)
        · subst hs_85
          refine g1 (K := K) x_90 v_91 I_92 C_93 H_94 _ s_96 r_97 fun σ2 ⟨v_99, hs_101, r_100⟩ => ?_
          subst hs_101
          refine s_if (E := E) (K := K) (σ := [some v_warnings, some v_events, some v_99, w_65]) (t_not (t_B (x_call (a_cons (x_k (k := ((0 : Nat) : Int)) (o_pj pj0) (x_op o_ix (x_var (i := 1) rfl (Rp.mono _ (e_7.trans (e_60.trans (e_75.trans e_95))) fr_89 r_events)) (x_var (i := 2) rfl (Rp.mono _ (Ex.refl _) exz r_100)))) (a_one (x_k (k := ((1 : Nat) : Int)) (o_pj (pjs pj1)) (x_op o_ix (x_var (i := 1) rfl (Rp.mono _ (e_7.trans (e_60.trans (e_75.trans e_95))) fr_89 r_events)) (x_var (i := 2) rfl (Rp.mono _ (Ex.refl _) exz r_100))))))))) s_96 (fun _ _ h => PX.mono (e_7.trans (e_60.trans (e_75.trans e_95))) fr_89 h) hm (fun I_102 H_103 e_104 s_105 hm => ?_) (fun I_106 H_107 e_108 s_109 hm => ?_)
          · refine q_ret (tz := tNext) (E := E) (K := K) (σ := [some v_warnings, some v_events, some v_99, w_65]) (x_some (x_tup (a_cons (x_str (by decide +kernel)) (a_one (x_var (i := 2) rfl (Rp.mono _ e_104 exz r_100)))) (Nat.le_of_ble_eq_true rfl))) s_105 (fun _ _ h => PX.mono (e_7.trans (e_60.trans (e_75.trans (e_95.trans e_104)))) fr_89 h) hm fun a_110 v_111 I_112 H_113 e_114 s_115 r_116 hm => ?_
            exact hm v_111 I_112 H_113 (e_7.trans (e_60.trans (e_75.trans (e_95.trans (e_104.trans e_114))))) (St.less s_115 fr_89) (Im.im r_116)
          · exact hm _ _ _ _ e_108 s_109 ⟨some v_99, rfl, fr_89⟩
        subst hs_123
        refine q_ret (tz := tNext) (E := E) (K := K) (σ := [some v_warnings, some v_events, w_124, w_65]) (x_none (R := (pT (tc pS (t1 pI))))) s_121 (fun _ _ h => PX.mono (e_7.trans (e_60.trans (e_75.trans e_120))) fr_127 h) hm fun a_128 v_129 I_130 H_131 e_132 s_133 r_134 hm => ?_
        exact hm v_129 I_130 H_131 (e_7.trans (e_60.trans (e_75.trans (e_120.trans e_132)))) (St.less s_133 fr_127) (Im.im r_134)
def m__law_call (ar_door : Int) (ar_warnings : (List (Int × Int × Int))) (ar_events : (List (Int × Int))) (ar_lead : Int) (ar_slack : Int) : Res ((List (Int × Int)) ⊕ (((List Int) × (List Int)) ⊕ (Bool ⊕ ((List Int) ⊕ (Int × Int × Int))))) :=
  (ifR (bin eqR (Res.ok ar_door) (Res.ok (0 : Int))) ((un inlR (un (fun (p : ((List (Int × Int × Int)) × (List (Int × Int)) × Int × Int)) => m_pairing p.1 p.2.1 p.2.2.1 p.2.2.2) (pair (Res.ok ar_warnings) (pair (Res.ok ar_events) (pair (Res.ok ar_lead) (Res.ok ar_slack)))))).bind fun a_9 => Res.ok a_9) (ifR (bin eqR (Res.ok ar_door) (Res.ok (1 : Int))) ((un inrR (un inlR (un (fun (p : ((List (Int × Int × Int)) × (List (Int × Int)) × Int × Int)) => m_cover p.1 p.2.1 p.2.2.1 p.2.2.2) (pair (Res.ok ar_warnings) (pair (Res.ok ar_events) (pair (Res.ok ar_lead) (Res.ok ar_slack))))))).bind fun a_24 => Res.ok a_24) (ifR (bin eqR (Res.ok ar_door) (Res.ok (2 : Int))) ((un inrR (un inrR (un inlR (un (fun (p : ((List (Int × Int × Int)) × (List (Int × Int)) × Int × Int × (List (Int × Int)))) => m_is_pairing p.1 p.2.1 p.2.2.1 p.2.2.2.1 p.2.2.2.2) (pair (Res.ok ar_warnings) (pair (Res.ok ar_events) (pair (Res.ok ar_lead) (pair (Res.ok ar_slack) (Res.ok ([] : List (Int × Int))))))))))).bind fun a_39 => Res.ok a_39) (ifR (bin eqR (Res.ok ar_door) (Res.ok (3 : Int))) ((un inrR (un inrR (un inlR (un (fun (p : ((List (Int × Int × Int)) × (List (Int × Int)) × Int × Int × ((List Int) × (List Int)))) => m_is_cover p.1 p.2.1 p.2.2.1 p.2.2.2.1 p.2.2.2.2) (pair (Res.ok ar_warnings) (pair (Res.ok ar_events) (pair (Res.ok ar_lead) (pair (Res.ok ar_slack) (pair (Res.ok ([] : List Int)) (Res.ok ([] : List Int))))))))))).bind fun a_54 => Res.ok a_54) (ifR (bin eqR (Res.ok ar_door) (Res.ok (4 : Int))) ((un inrR (un inrR (un inrR (un inlR (un (fun (p : ((List (Int × Int × Int)) × (List (Int × Int)) × Int × Int)) => m_certain p.1 p.2.1 p.2.2.1 p.2.2.2) (pair (Res.ok ar_warnings) (pair (Res.ok ar_events) (pair (Res.ok ar_lead) (Res.ok ar_slack))))))))).bind fun a_69 => Res.ok a_69) (ifR (bin eqR (Res.ok ar_door) (Res.ok (5 : Int))) ((un inrR (un inrR (un inrR (un inlR (un (fun (p : ((List (Int × Int × Int)) × (List (Int × Int)) × Int × Int)) => m_idle p.1 p.2.1 p.2.2.1 p.2.2.2) (pair (Res.ok ar_warnings) (pair (Res.ok ar_events) (pair (Res.ok ar_lead) (Res.ok ar_slack))))))))).bind fun a_84 => Res.ok a_84) ((un inrR (un inrR (un inrR (un inrR (un (fun (p : ((List (Int × Int × Int)) × (List (Int × Int)) × Int × Int)) => m_tally p.1 p.2.1 p.2.2.1 p.2.2.2) (pair (Res.ok ar_warnings) (pair (Res.ok ar_events) (pair (Res.ok ar_lead) (Res.ok ar_slack))))))))).bind fun a_91 => Res.ok a_91)))))))
abbrev N__law_call : List Str := ["door", "warnings", "events", "lead", "slack"]
theorem sc__law_call : FnScope N__law_call ["door", "warnings", "events", "lead", "slack"] (defScope s__law_call) := ⟨rfl, rfl, rfl, by decide +kernel, rfl, by decide +kernel, by decide +kernel⟩
theorem bind__law_call {K : PySem.W.Frag} {mg : Str → Option Value} {T : Tx K mg} : Binds K T.d__law_call ["door", "warnings", "events", "lead", "slack"] [] := FunD.bindsN T.F__law_call fun _ _ _ _ _ _ us hl => match us, hl with | [_, _, _, _, _], _ => rfl
abbrev sp__law_call (K : PySem.W.Frag) : Sp := spP K (tc pI (tc (pV (pT (tc pI (tc pI (t1 pI))))) (tc (pV (pT (tc pI (t1 pI)))) (tc pI (t1 pI))))) (fun (p : (Int × (List (Int × Int × Int)) × (List (Int × Int)) × Int × Int)) => m__law_call p.1 p.2.1 p.2.2.1 p.2.2.2.1 p.2.2.2.2) (pX (pL (pT (tc pI (t1 pI)))) (pX (pT (tc (pL pI) (t1 (pL pI)))) (pX pB (pX (pL pI) (pT (tc pI (tc pI (t1 pI))))))))
theorem ok__law_call (T : Tx K mg) : FnOk P w K mg base (L2.CX P w) 25 T.f__law_call T.d__law_call ["door", "warnings", "events", "lead", "slack"] (sp__law_call K) := by
  refine T.F__law_call.ok sc__law_call (fun vs H Q E h => ?_) (fun cdv A outer s H vs Q E hr h => ?_)
  · obtain ⟨I, C, a, _, hr, _⟩ := h
    exact Rt.len _ hr
  · obtain ⟨I0, C0, ⟨ar_door, ar_warnings, ar_events, ar_lead, ar_slack⟩, hs, ⟨v_door, us0, rfl, r_door, v_warnings, us1, rfl, r_warnings, v_events, us2, rfl, r_events, v_lead, us3, rfl, r_lead, v_slack, rfl, r_slack⟩, hm⟩ := h
    have hm : Post (m__law_call ar_door ar_warnings ar_events ar_lead ar_slack) (PQ (pX (pL (pT (tc pI (t1 pI)))) (pX (pT (tc (pL pI) (t1 (pL pI)))) (pX pB (pX (pL pI) (pT (tc pI (tc pI (t1 pI)))))))) I0 C0 Q) (PX E K I0 C0) := hm
    replace r_door : Rp.r pI ar_door v_door I0 Z := Im.im r_door
    replace r_lead : Rp.r pI ar_lead v_lead I0 Z := Im.im r_lead
    replace r_slack : Rp.r pI ar_slack v_slack I0 Z := Im.im r_slack
    unfold m__law_call at hm
    refine ⟨_, (pss_cons (ps_if (pt_cmpR op_eq (pv 0) pe_int (nomark _)) (pss_cons (ps_ret (pe_call (ok_pairing T) (hr.mono (by decide)) rfl T.g_pairing T.F_pairing.kp bind_pairing .nil passE (pa_cons (pv 1) (pa_cons (pv 2) (pa_cons (pv 3) (pa_cons (pv 4) pa_nil)))))) pss_nil) pss_nil) (pss_cons (ps_if (pt_cmpR op_eq (pv 0) pe_int (nomark _)) (pss_cons (ps_ret (pe_call (ok_cover T) (hr.mono (by decide)) rfl T.g_cover T.F_cover.kp bind_cover .nil passE (pa_cons (pv 1) (pa_cons (pv 2) (pa_cons (pv 3) (pa_cons (pv 4) pa_nil)))))) pss_nil) pss_nil) (pss_cons (ps_if (pt_cmpR op_eq (pv 0) pe_int (nomark _)) (pss_cons (ps_ret (pe_call (ok_is_pairing T) (hr.mono (by decide)) rfl T.g_is_pairing T.F_is_pairing.kp bind_is_pairing .nil passE (pa_cons (pv 1) (pa_cons (pv 2) (pa_cons (pv 3) (pa_cons (pv 4) (pa_cons (pe_lst pa_nil) pa_nil))))))) pss_nil) pss_nil) (pss_cons (ps_if (pt_cmpR op_eq (pv 0) pe_int (nomark _)) (pss_cons (ps_ret (pe_call (ok_is_cover T) (hr.mono (by decide)) rfl T.g_is_cover T.F_is_cover.kp bind_is_cover .nil passE (pa_cons (pv 1) (pa_cons (pv 2) (pa_cons (pv 3) (pa_cons (pv 4) (pa_cons (pe_tup (pa_cons (pe_lst pa_nil) (pa_cons (pe_lst pa_nil) pa_nil))) pa_nil))))))) pss_nil) pss_nil) (pss_cons (ps_if (pt_cmpR op_eq (pv 0) pe_int (nomark _)) (pss_cons (ps_ret (pe_call (ok_certain T) (hr.mono (by decide)) rfl T.g_certain T.F_certain.kp bind_certain .nil passE (pa_cons (pv 1) (pa_cons (pv 2) (pa_cons (pv 3) (pa_cons (pv 4) pa_nil)))))) pss_nil) pss_nil) (pss_cons (ps_if (pt_cmpR op_eq (pv 0) pe_int (nomark _)) (pss_cons (ps_ret (pe_call (ok_idle T) (hr.mono (by decide)) rfl T.g_idle T.F_idle.kp bind_idle .nil passE (pa_cons (pv 1) (pa_cons (pv 2) (pa_cons (pv 3) (pa_cons (pv 4) pa_nil)))))) pss_nil) pss_nil) (pss_cons (ps_ret (pe_call (ok_tally T) (hr.mono (by decide)) rfl T.g_tally T.F_tally.kp bind_tally .nil passE (pa_cons (pv 1) (pa_cons (pv 2) (pa_cons (pv 3) (pa_cons (pv 4) pa_nil)))))) pss_nil))))))), ?_⟩
    refine s_if (E := E) (K := K) (σ := [some v_door, some v_warnings, some v_events, some v_lead, some v_slack]) (t_test (x_op o_eqI (x_var (i := 0) rfl (Rp.mono _ (Ex.refl _) exz r_door)) (x_int (i := 0)))) hs (fun _ _ h => PX.mono (Ex.refl _) (Ex.refl _) h) hm (fun I_1 H_2 e_3 s_4 hm => ?_) (fun I_5 H_6 e_7 s_8 hm => ?_)
    · refine q_ret (tz := tNext) (E := E) (K := K) (σ := [some v_door, some v_warnings, some v_events, some v_lead, some v_slack]) (x_inl (S1 := (pX (pT (tc (pL pI) (t1 (pL pI)))) (pX pB (pX (pL pI) (pT (tc pI (tc pI (t1 pI)))))))) (x_own (n_call (a_cons (x_var (i := 1) rfl (Rp.mono _ e_3 (Ex.refl _) r_warnings)) (a_cons (x_var (i := 2) rfl (Rp.mono _ e_3 (Ex.refl _) r_events)) (a_cons (x_var (i := 3) rfl (Rp.mono _ e_3 exz r_lead)) (a_one (x_var (i := 4) rfl (Rp.mono _ e_3 exz r_slack))))))))) s_4 (fun _ _ h => PX.mono e_3 (Ex.refl _) h) hm fun a_9 v_10 I_11 H_12 e_13 s_14 r_15 hm => ?_
      exact hm v_10 I_11 H_12 (e_3.trans e_13) (St.less s_14 (Ex.refl _)) (Im.im r_15)
    · refine s_if (E := E) (K := K) (σ := [some v_door, some v_warnings, some v_events, some v_lead, some v_slack]) (t_test (x_op o_eqI (x_var (i := 0) rfl (Rp.mono _ e_7 exz r_door)) (x_int (i := 1)))) s_8 (fun _ _ h => PX.mono e_7 (Ex.refl _) h) hm (fun I_16 H_17 e_18 s_19 hm => ?_) (fun I_20 H_21 e_22 s_23 hm => ?_)
      · refine q_ret (tz := tNext) (E := E) (K := K) (σ := [some v_door, some v_warnings, some v_events, some v_lead, some v_slack]) (x_inr (R := (pL (pT (tc pI (t1 pI))))) (x_inl (S1 := (pX pB (pX (pL pI) (pT (tc pI (tc pI (t1 pI))))))) (x_call (a_cons (x_var (i := 1) rfl (Rp.mono _ (e_7.trans e_18) (Ex.refl _) r_warnings)) (a_cons (x_var (i := 2) rfl (Rp.mono _ (e_7.trans e_18) (Ex.refl _) r_events)) (a_cons (x_var (i := 3) rfl (Rp.mono _ (e_7.trans e_18) exz r_lead)) (a_one (x_var (i := 4) rfl (Rp.mono _ (e_7.trans e_18) exz r_slack))))))))) s_19 (fun _ _ h => PX.mono (e_7.trans e_18) (Ex.refl _) h) hm fun a_24 v_25 I_26 H_27 e_28 s_29 r_30 hm => ?_
        exact hm v_25 I_26 H_27 (e_7.trans (e_18.trans e_28)) (St.less s_29 (Ex.refl _)) (Im.im r_30)
      · refine s_if (E := E) (K := K) (σ := [some v_door, some v_warnings, some v_events, some v_lead, some v_slack]) (t_test (x_op o_eqI (x_var (i := 0) rfl (Rp.mono _ (e_7.trans e_22) exz r_door)) (x_int (i := 2)))) s_23 (fun _ _ h => PX.mono (e_7.trans e_22) (Ex.refl _) h) hm (fun I_31 H_32 e_33 s_34 hm => ?_) (fun I_35 H_36 e_37 s_38 hm => ?_)
        · refine q_ret (tz := tNext) (E := E) (K := K) (σ := [some v_door, some v_warnings, some v_events, some v_lead, some v_slack]) (x_inr (R := (pL (pT (tc pI (t1 pI))))) (x_inr (R := (pT (tc (pL pI) (t1 (pL pI))))) (x_inl (S1 := (pX (pL pI) (pT (tc pI (tc pI (t1 pI)))))) (x_call (a_cons (x_var (i := 1) rfl (Rp.mono _ (e_7.trans (e_22.trans e_33)) (Ex.refl _) r_warnings)) (a_cons (x_var (i := 2) rfl (Rp.mono _ (e_7.trans (e_22.trans e_33)) (Ex.refl _) r_events)) (a_cons (x_var (i := 3) rfl (Rp.mono _ (e_7.trans (e_22.trans e_33)) exz r_lead)) (a_cons (x_var (i := 4) rfl (Rp.mono _ (e_7.trans (e_22.trans e_33)) exz r_slack)) (a_one (x_lst (R := (pT (tc pI (t1 pI)))) al_nil (by decide))))))))))) s_34 (fun _ _ h => PX.mono (e_7.trans (e_22.trans e_33)) (Ex.refl _) h) hm fun a_39 v_40 I_41 H_42 e_43 s_44 r_45 hm => ?_
          exact hm v_40 I_41 H_42 (e_7.trans (e_22.trans (e_33.trans e_43))) (St.less s_44 (Ex.refl _)) (Im.im r_45)
        · refine s_if (E := E) (K := K) (σ := [some v_door, some v_warnings, some v_events, some v_lead, some v_slack]) (t_test (x_op o_eqI (x_var (i := 0) rfl (Rp.mono _ (e_7.trans (e_22.trans e_37)) exz r_door)) (x_int (i := 3)))) s_38 (fun _ _ h => PX.mono (e_7.trans (e_22.trans e_37)) (Ex.refl _) h) hm (fun I_46 H_47 e_48 s_49 hm => ?_) (fun I_50 H_51 e_52 s_53 hm => ?_)
          · refine q_ret (tz := tNext) (E := E) (K := K) (σ := [some v_door, some v_warnings, some v_events, some v_lead, some v_slack]) (x_inr (R := (pL (pT (tc pI (t1 pI))))) (x_inr (R := (pT (tc (pL pI) (t1 (pL pI))))) (x_inl (S1 := (pX (pL pI) (pT (tc pI (tc pI (t1 pI)))))) (x_call (a_cons (x_var (i := 1) rfl (Rp.mono _ (e_7.trans (e_22.trans (e_37.trans e_48))) (Ex.refl _) r_warnings)) (a_cons (x_var (i := 2) rfl (Rp.mono _ (e_7.trans (e_22.trans (e_37.trans e_48))) (Ex.refl _) r_events)) (a_cons (x_var (i := 3) rfl (Rp.mono _ (e_7.trans (e_22.trans (e_37.trans e_48))) exz r_lead)) (a_cons (x_var (i := 4) rfl (Rp.mono _ (e_7.trans (e_22.trans (e_37.trans e_48))) exz r_slack)) (a_one (x_tup (a_cons (x_lst (R := pI) al_nil (by decide)) (a_one (x_lst (R := pI) al_nil (by decide)))) (Nat.le_of_ble_eq_true rfl))))))))))) s_49 (fun _ _ h => PX.mono (e_7.trans (e_22.trans (e_37.trans e_48))) (Ex.refl _) h) hm fun a_54 v_55 I_56 H_57 e_58 s_59 r_60 hm => ?_
            exact hm v_55 I_56 H_57 (e_7.trans (e_22.trans (e_37.trans (e_48.trans e_58)))) (St.less s_59 (Ex.refl _)) (Im.im r_60)
          · refine s_if (E := E) (K := K) (σ := [some v_door, some v_warnings, some v_events, some v_lead, some v_slack]) (t_test (x_op o_eqI (x_var (i := 0) rfl (Rp.mono _ (e_7.trans (e_22.trans (e_37.trans e_52))) exz r_door)) (x_int (i := 4)))) s_53 (fun _ _ h => PX.mono (e_7.trans (e_22.trans (e_37.trans e_52))) (Ex.refl _) h) hm (fun I_61 H_62 e_63 s_64 hm => ?_) (fun I_65 H_66 e_67 s_68 hm => ?_)
            · refine q_ret (tz := tNext) (E := E) (K := K) (σ := [some v_door, some v_warnings, some v_events, some v_lead, some v_slack]) (x_inr (R := (pL (pT (tc pI (t1 pI))))) (x_inr (R := (pT (tc (pL pI) (t1 (pL pI))))) (x_inr (R := pB) (x_inl (S1 := (pT (tc pI (tc pI (t1 pI))))) (x_own (n_call (a_cons (x_var (i := 1) rfl (Rp.mono _ (e_7.trans (e_22.trans (e_37.trans (e_52.trans e_63)))) (Ex.refl _) r_warnings)) (a_cons (x_var (i := 2) rfl (Rp.mono _ (e_7.trans (e_22.trans (e_37.trans (e_52.trans e_63)))) (Ex.refl _) r_events)) (a_cons (x_var (i := 3) rfl (Rp.mono _ (e_7.trans (e_22.trans (e_37.trans (e_52.trans e_63)))) exz r_lead)) (a_one (x_var (i := 4) rfl (Rp.mono _ (e_7.trans (e_22.trans (e_37.trans (e_52.trans e_63)))) exz r_slack)))))))))))) s_64 (fun _ _ h => PX.mono (e_7.trans (e_22.trans (e_37.trans (e_52.trans e_63)))) (Ex.refl _) h) hm fun a_69 v_70 I_71 H_72 e_73 s_74 r_75 hm => ?_
              exact hm v_70 I_71 H_72 (e_7.trans (e_22.trans (e_37.trans (e_52.trans (e_63.trans e_73))))) (St.less s_74 (Ex.refl _)) (Im.im r_75)
            · refine s_if (E := E) (K := K) (σ := [some v_door, some v_warnings, some v_events, some v_lead, some v_slack]) (t_test (x_op o_eqI (x_var (i := 0) rfl (Rp.mono _ (e_7.trans (e_22.trans (e_37.trans (e_52.trans e_67)))) exz r_door)) (x_int (i := 5)))) s_68 (fun _ _ h => PX.mono (e_7.trans (e_22.trans (e_37.trans (e_52.trans e_67)))) (Ex.refl _) h) hm (fun I_76 H_77 e_78 s_79 hm => ?_) (fun I_80 H_81 e_82 s_83 hm => ?_)
              · refine q_ret (tz := tNext) (E := E) (K := K) (σ := [some v_door, some v_warnings, some v_events, some v_lead, some v_slack]) (x_inr (R := (pL (pT (tc pI (t1 pI))))) (x_inr (R := (pT (tc (pL pI) (t1 (pL pI))))) (x_inr (R := pB) (x_inl (S1 := (pT (tc pI (tc pI (t1 pI))))) (x_own (n_call (a_cons (x_var (i := 1) rfl (Rp.mono _ (e_7.trans (e_22.trans (e_37.trans (e_52.trans (e_67.trans e_78))))) (Ex.refl _) r_warnings)) (a_cons (x_var (i := 2) rfl (Rp.mono _ (e_7.trans (e_22.trans (e_37.trans (e_52.trans (e_67.trans e_78))))) (Ex.refl _) r_events)) (a_cons (x_var (i := 3) rfl (Rp.mono _ (e_7.trans (e_22.trans (e_37.trans (e_52.trans (e_67.trans e_78))))) exz r_lead)) (a_one (x_var (i := 4) rfl (Rp.mono _ (e_7.trans (e_22.trans (e_37.trans (e_52.trans (e_67.trans e_78))))) exz r_slack)))))))))))) s_79 (fun _ _ h => PX.mono (e_7.trans (e_22.trans (e_37.trans (e_52.trans (e_67.trans e_78))))) (Ex.refl _) h) hm fun a_84 v_85 I_86 H_87 e_88 s_89 r_90 hm => ?_
                exact hm v_85 I_86 H_87 (e_7.trans (e_22.trans (e_37.trans (e_52.trans (e_67.trans (e_78.trans e_88)))))) (St.less s_89 (Ex.refl _)) (Im.im r_90)
              · refine q_ret (tz := tNext) (E := E) (K := K) (σ := [some v_door, some v_warnings, some v_events, some v_lead, some v_slack]) (x_inr (R := (pL (pT (tc pI (t1 pI))))) (x_inr (R := (pT (tc (pL pI) (t1 (pL pI))))) (x_inr (R := pB) (x_inr (R := (pL pI)) (x_call (a_cons (x_var (i := 1) rfl (Rp.mono _ (e_7.trans (e_22.trans (e_37.trans (e_52.trans (e_67.trans e_82))))) (Ex.refl _) r_warnings)) (a_cons (x_var (i := 2) rfl (Rp.mono _ (e_7.trans (e_22.trans (e_37.trans (e_52.trans (e_67.trans e_82))))) (Ex.refl _) r_events)) (a_cons (x_var (i := 3) rfl (Rp.mono _ (e_7.trans (e_22.trans (e_37.trans (e_52.trans (e_67.trans e_82))))) exz r_lead)) (a_one (x_var (i := 4) rfl (Rp.mono _ (e_7.trans (e_22.trans (e_37.trans (e_52.trans (e_67.trans e_82))))) exz r_slack))))))))))) s_83 (fun _ _ h => PX.mono (e_7.trans (e_22.trans (e_37.trans (e_52.trans (e_67.trans e_82))))) (Ex.refl _) h) hm fun a_91 v_92 I_93 H_94 e_95 s_96 r_97 hm => ?_
                exact hm v_92 I_93 H_94 (e_7.trans (e_22.trans (e_37.trans (e_52.trans (e_67.trans (e_82.trans e_95)))))) (St.less s_96 (Ex.refl _)) (Im.im r_97)
def m__law_refused (ar_door : Int) (ar_warnings : (List (Int × Int × Int))) (ar_events : (List (Int × Int))) (ar_lead : Int) (ar_slack : Int) : Res (Option (Str × Int)) :=
  ((tryR knE (fun c => isaE c .DeskError) ((un (fun (p : (Int × (List (Int × Int × Int)) × (List (Int × Int)) × Int × Int)) => m__law_call p.1 p.2.1 p.2.2.1 p.2.2.2.1 p.2.2.2.2) (pair (Res.ok ar_door) (pair (Res.ok ar_warnings) (pair (Res.ok ar_events) (pair (Res.ok ar_lead) (Res.ok ar_slack)))))).bind fun (b_13 : ((List (Int × Int)) ⊕ (((List Int) × (List Int)) ⊕ (Bool ⊕ ((List Int) ⊕ (Int × Int × Int)))))) => (Res.ok (Out.nx ()))) (fun c_25 j_26 => (ifR (orR (un notR (Res.ok true)) (un notR (un m__law_is_int (Res.ok j_26)))) ((un someR' (pair (Res.ok ("other" : Str)) (Res.ok (0 : Int)))).bind fun a_38 => Res.ok (Out.rt a_38)) (ifR (andR (Res.ok (isaE c_25 .TooMany)) (un notR (Res.ok (isaE c_25 .BadPair)))) ((un someR' (pair (Res.ok ("many" : Str)) (Res.ok j_26))).bind fun a_53 => Res.ok (Out.rt a_53)) (ifR (andR (Res.ok (isaE c_25 .BadPair)) (un notR (Res.ok (isaE c_25 .TooMany)))) ((un someR' (pair (Res.ok ("pair" : Str)) (Res.ok j_26))).bind fun a_68 => Res.ok (Out.rt a_68)) ((un someR' (pair (Res.ok ("other" : Str)) (Res.ok (0 : Int)))).bind fun a_75 => Res.ok (Out.rt a_75))))))).bind fun (o : Out Unit (Option (Str × Int))) => match o with | .nx z_2 => ((Res.ok none).bind fun a_87 => Res.ok a_87) | .br _ => Res.bad | .rt r => Res.ok r)
abbrev N__law_refused : List Str := ["door", "warnings", "events", "lead", "slack", "e"]
theorem sc__law_refused : FnScope N__law_refused ["door", "warnings", "events", "lead", "slack"] (defScope s__law_refused) := ⟨rfl, rfl, rfl, by decide +kernel, rfl, by decide +kernel, by decide +kernel⟩
theorem bind__law_refused {K : PySem.W.Frag} {mg : Str → Option Value} {T : Tx K mg} : Binds K T.d__law_refused ["door", "warnings", "events", "lead", "slack"] [] := FunD.bindsN T.F__law_refused fun _ _ _ _ _ _ us hl => match us, hl with | [_, _, _, _, _], _ => rfl
abbrev sp__law_refused (K : PySem.W.Frag) : Sp := spP K (tc pI (tc (pV (pT (tc pI (tc pI (t1 pI))))) (tc (pV (pT (tc pI (t1 pI)))) (tc pI (t1 pI))))) (fun (p : (Int × (List (Int × Int × Int)) × (List (Int × Int)) × Int × Int)) => m__law_refused p.1 p.2.1 p.2.2.1 p.2.2.2.1 p.2.2.2.2) (pO (pT (tc pS (t1 pI))))
theorem ok__law_refused (T : Tx K mg) : FnOk P w K mg base (L2.CX P w) 26 T.f__law_refused T.d__law_refused ["door", "warnings", "events", "lead", "slack"] (sp__law_refused K) := by
  refine T.F__law_refused.ok sc__law_refused (fun vs H Q E h => ?_) (fun cdv A outer s H vs Q E hr h => ?_)
  · obtain ⟨I, C, a, _, hr, _⟩ := h
    exact Rt.len _ hr
  · obtain ⟨I0, C0, ⟨ar_door, ar_warnings, ar_events, ar_lead, ar_slack⟩, hs, ⟨v_door, us0, rfl, r_door, v_warnings, us1, rfl, r_warnings, v_events, us2, rfl, r_events, v_lead, us3, rfl, r_lead, v_slack, rfl, r_slack⟩, hm⟩ := h
    have hm : Post (m__law_refused ar_door ar_warnings ar_events ar_lead ar_slack) (PQ (pO (pT (tc pS (t1 pI)))) I0 C0 Q) (PX E K I0 C0) := hm
    replace r_door : Rp.r pI ar_door v_door I0 Z := Im.im r_door
    replace r_lead : Rp.r pI ar_lead v_lead I0 Z := Im.im r_lead
    replace r_slack : Rp.r pI ar_slack v_slack I0 Z := Im.im r_slack
    unfold m__law_refused at hm
    refine ⟨_, (Evl.pss_cut (ps_tryS (c := .ref (He.ga K "DeskError")) (i := 5) rfl rfl sc__law_refused.nd rfl rfl ⟨rfl, by decide, Or.inl (T.xs .DeskError (by decide)).g⟩ (takes_of rfl rfl rfl rfl) (fun W pn xe tk hp => (pss_cons (ps_expr (by exact (pe_callS (ok__law_call T) (hr.mono (by decide)) rfl T.g__law_call T.F__law_call.kp bind__law_call (fun σ => passAt tk σ) (by exact (pa_cons (pv 0) (pa_cons (pv 1) (pa_cons (pv 2) (pa_cons (pv 3) (pa_cons (pv 4) pa_nil))))))))) pss_nil)) (fun a oe cls d pn hz hf => (pss_cons (ps_if (PW.pt (pw_or (pt_not (pt_val (pe_callB (r := rIsX K a cls d) (call_isX hz hf) (by rfl) T.gb_isinstance bt_isinstance (pa_cons (pv 5) (pa_cons (pe_bltn (v := .ty "ValueError") rfl T.gb_ValueError bt_ValueError rfl) pa_nil))))) (pw_or1 (pt_not (pt_val (L2H.pe_callJ (p := (a, oe)) (okJ__law_is_int T) (roomJ hr (by decide)) List.mem_cons_self rfl T.g__law_is_int T.F__law_is_int.kp bind__law_is_int (fun σ => passZ σ) (pa_cons (pe_xfX hz hf (pv 5)) pa_nil))))))) (pss_cons (ps_ret (pe_tup (pa_cons pe_str (pa_cons pe_int pa_nil)))) pss_nil) pss_nil) (pss_cons (ps_if (PW.pt (pw_and (pt_val (pe_callB (r := rIsX K a cls d) (call_isX hz hf) (by rfl) T.gb_isinstance bt_isinstance (pa_cons (pv 5) (pa_cons (pe_glob (v := .ref (He.ga K "TooMany")) rfl (T.xs .TooMany (by decide)).g rfl) pa_nil)))) (pw_and1 (pt_not (pt_val (pe_callB (r := rIsX K a cls d) (call_isX hz hf) (by rfl) T.gb_isinstance bt_isinstance (pa_cons (pv 5) (pa_cons (pe_glob (v := .ref (He.ga K "BadPair")) rfl (T.xs .BadPair (by decide)).g rfl) pa_nil)))))))) (pss_cons (ps_ret (pe_tup (pa_cons pe_str (pa_cons (pe_xfX hz hf (pv 5)) pa_nil)))) pss_nil) pss_nil) (pss_cons (ps_if (PW.pt (pw_and (pt_val (pe_callB (r := rIsX K a cls d) (call_isX hz hf) (by rfl) T.gb_isinstance bt_isinstance (pa_cons (pv 5) (pa_cons (pe_glob (v := .ref (He.ga K "BadPair")) rfl (T.xs .BadPair (by decide)).g rfl) pa_nil)))) (pw_and1 (pt_not (pt_val (pe_callB (r := rIsX K a cls d) (call_isX hz hf) (by rfl) T.gb_isinstance bt_isinstance (pa_cons (pv 5) (pa_cons (pe_glob (v := .ref (He.ga K "TooMany")) rfl (T.xs .TooMany (by decide)).g rfl) pa_nil)))))))) (pss_cons (ps_ret (pe_tup (pa_cons pe_str (pa_cons (pe_xfX hz hf (pv 5)) pa_nil)))) pss_nil) pss_nil) (pss_cons (ps_ret (pe_tup (pa_cons pe_str (pa_cons pe_int pa_nil)))) pss_nil)))))) (pss_cons (ps_ret pe_non) pss_nil)), ?_⟩
    refine s_try (E := E) (K := K) (σ := [some v_door, some v_warnings, some v_events, some v_lead, some v_slack, none]) (mg := mg) (fun (z_2 : Unit) σ2 I_9 C_10 => ∃ w_8 : Option V, σ2 = [some v_door, some v_warnings, some v_events, some v_lead, some v_slack, w_8] ∧ Ex C0 C_10) ((fun (z_1 : Unit) σ2 I_4 C_5 => σ2 = [some v_door, some v_warnings, some v_events, some v_lead, some v_slack, none] ∧ Ex C0 C_5) ()) (fun c h => ⟨T.ex c .DeskError h (by decide), T.xs c h⟩) (fun _ _ _ e ⟨hs_3, fr_6⟩ => fun _ _ h => PX.mono (Ex.trans (Ex.refl _) e) fr_6 h) (fun _ _ _ _ e ⟨hs_3, fr_6⟩ => ⟨hs_3, fr_6⟩) hm (fun N W hW_12 hm => ?_) (fun N c_25 j_26 a_27 cls_29 d_28 σ2 I_18 C_19 H_20 kn_24 cg_23 e_21 s_22 ⟨hs_3, fr_6⟩ hm => ?_) (fun z_2 σ2 I_82 C_83 H_84 e_85 s_86 ⟨w_8, hs_7, fr_11⟩ hm => ?_)
    · refine s_expr (E := WE W _) (K := K) (σ := [some v_door, some v_warnings, some v_events, some v_lead, some v_slack, none]) (x_callS (a_cons (x_var (i := 0) rfl (Rp.mono _ (Ex.refl _) exz r_door)) (a_cons (x_var (i := 1) rfl (Rp.mono _ (Ex.refl _) (Ex.refl _) r_warnings)) (a_cons (x_var (i := 2) rfl (Rp.mono _ (Ex.refl _) (Ex.refl _) r_events)) (a_cons (x_var (i := 3) rfl (Rp.mono _ (Ex.refl _) exz r_lead)) (a_one (x_var (i := 4) rfl (Rp.mono _ (Ex.refl _) exz r_slack)))))))) hs (hW_12 _ _ _ (Ex.refl _) ⟨rfl, (Ex.refl _)⟩) hm fun b_13 I_14 H_15 e_16 s_17 hm => ?_
      exact hm _ _ _ _ e_16 s_17 ⟨none, rfl, (Ex.refl _)⟩
    · subst hs_3
      refine s_if (E := E) (K := K) (σ := [some v_door, some v_warnings, some v_events, some v_lead, some v_slack, some (.ref a_27)]) (t_or (t_not (t_B (x_isVE (Cg.up (Ex.refl _) cg_23) (by rfl)))) (t_not (t_B (x_callZ (fun _ _ _ h => by cases h) (a_one (x_at (Cg.up (Ex.refl _) cg_23) (by rfl))))))) s_22 (fun _ _ h => PX.mono e_21 fr_6 h) hm (fun I_30 H_31 e_32 s_33 hm => ?_) (fun I_34 H_35 e_36 s_37 hm => ?_)
      · refine q_ret (tz := tNext) (E := E) (K := K) (σ := [some v_door, some v_warnings, some v_events, some v_lead, some v_slack, some (.ref a_27)]) (x_some (x_tup (a_cons (x_str (by decide +kernel)) (a_one (x_int (i := 0)))) (Nat.le_of_ble_eq_true rfl))) s_33 (fun _ _ h => PX.mono (e_21.trans e_32) fr_6 h) hm fun a_38 v_39 I_40 H_41 e_42 s_43 r_44 hm => ?_
        exact hm v_39 I_40 H_41 (e_21.trans (e_32.trans e_42)) (St.less s_43 fr_6) (Im.im r_44)
      · refine s_if (E := E) (K := K) (σ := [some v_door, some v_warnings, some v_events, some v_lead, some v_slack, some (.ref a_27)]) (t_and (t_B (x_isE (Cg.up e_36 cg_23) (T.ki _ .TooMany kn_24 (by decide)) (by rfl))) (t_not (t_B (x_isE (Cg.up e_36 cg_23) (T.ki _ .BadPair kn_24 (by decide)) (by rfl))))) s_37 (fun _ _ h => PX.mono (e_21.trans e_36) fr_6 h) hm (fun I_45 H_46 e_47 s_48 hm => ?_) (fun I_49 H_50 e_51 s_52 hm => ?_)
        · refine q_ret (tz := tNext) (E := E) (K := K) (σ := [some v_door, some v_warnings, some v_events, some v_lead, some v_slack, some (.ref a_27)]) (x_some (x_tup (a_cons (x_str (by decide +kernel)) (a_one (x_at (Cg.up (e_36.trans e_47) cg_23) (by rfl)))) (Nat.le_of_ble_eq_true rfl))) s_48 (fun _ _ h => PX.mono (e_21.trans (e_36.trans e_47)) fr_6 h) hm fun a_53 v_54 I_55 H_56 e_57 s_58 r_59 hm => ?_
          exact hm v_54 I_55 H_56 (e_21.trans (e_36.trans (e_47.trans e_57))) (St.less s_58 fr_6) (Im.im r_59)
        · refine s_if (E := E) (K := K) (σ := [some v_door, some v_warnings, some v_events, some v_lead, some v_slack, some (.ref a_27)]) (t_and (t_B (x_isE (Cg.up (e_36.trans e_51) cg_23) (T.ki _ .BadPair kn_24 (by decide)) (by rfl))) (t_not (t_B (x_isE (Cg.up (e_36.trans e_51) cg_23) (T.ki _ .TooMany kn_24 (by decide)) (by rfl))))) s_52 (fun _ _ h => PX.mono (e_21.trans (e_36.trans e_51)) fr_6 h) hm (fun I_60 H_61 e_62 s_63 hm => ?_) (fun I_64 H_65 e_66 s_67 hm => ?_)
          · refine q_ret (tz := tNext) (E := E) (K := K) (σ := [some v_door, some v_warnings, some v_events, some v_lead, some v_slack, some (.ref a_27)]) (x_some (x_tup (a_cons (x_str (by decide +kernel)) (a_one (x_at (Cg.up (e_36.trans (e_51.trans e_62)) cg_23) (by rfl)))) (Nat.le_of_ble_eq_true rfl))) s_63 (fun _ _ h => PX.mono (e_21.trans (e_36.trans (e_51.trans e_62))) fr_6 h) hm fun a_68 v_69 I_70 H_71 e_72 s_73 r_74 hm => ?_
            exact hm v_69 I_70 H_71 (e_21.trans (e_36.trans (e_51.trans (e_62.trans e_72)))) (St.less s_73 fr_6) (Im.im r_74)
          · refine q_ret (tz := tNext) (E := E) (K := K) (σ := [some v_door, some v_warnings, some v_events, some v_lead, some v_slack, some (.ref a_27)]) (x_some (x_tup (a_cons (x_str (by decide +kernel)) (a_one (x_int (i := 0)))) (Nat.le_of_ble_eq_true rfl))) s_67 (fun _ _ h => PX.mono (e_21.trans (e_36.trans (e_51.trans e_66))) fr_6 h) hm fun a_75 v_76 I_77 H_78 e_79 s_80 r_81 hm => ?_
            exact hm v_76 I_77 H_78 (e_21.trans (e_36.trans (e_51.trans (e_66.trans e_79)))) (St.less s_80 fr_6) (Im.im r_81)
    subst hs_7
    refine q_ret (tz := tNext) (E := E) (K := K) (σ := [some v_door, some v_warnings, some v_events, some v_lead, some v_slack, w_8]) (x_none (R := (pT (tc pS (t1 pI))))) s_86 (fun _ _ h => PX.mono e_85 fr_11 h) hm fun a_87 v_88 I_89 H_90 e_91 s_92 r_93 hm => ?_
    exact hm v_88 I_89 H_90 (e_85.trans e_91) (St.less s_92 fr_11) (Im.im r_93)
def m__law_some_pairs (ar_warnings : (List (Int × Int × Int))) (ar_events : (List (Int × Int))) (ar_lead : Int) (ar_slack : Int) (a_pool : Pl) : Res ((List (Int × Int)) × Pl) :=
  ((Res.ok ([] : List (Int × Int))).bind fun (pairs_1 : (List (Int × Int))) => ((Res.ok ([] : List Int)).bind fun (taken_18 : (List Int)) => (((un rng1 (un rLen (Res.ok ar_warnings))).bind fun xs => loopN (fun (x_56 : Int) (z_37 : ((List (Int × Int)) × (List Int) × Pl)) => (((un rng1 (un rLen (Res.ok ar_events))).bind (filR (fun (x_68 : Int) => (un (fun (p : ((Int × Int × Int) × (Int × Int) × Int × Int)) => m__law_fits p.1 p.2.1 p.2.2.1 p.2.2.2) (pair (bin ix (Res.ok ar_warnings) (Res.ok x_56)) (pair (bin ix (Res.ok ar_events) (Res.ok x_68)) (pair (Res.ok ar_lead) (Res.ok ar_slack)))))) (fun (x_68 : Int) => (Res.ok x_68)))).bind fun (free_75 : (List Int)) => (((Res.ok free_75).bind (filR (fun (x_82 : Int) => (bin ninR (Res.ok x_82) (Res.ok z_37.2.1))) (fun (x_82 : Int) => (Res.ok x_82)))).bind fun (free_89 : (List Int)) => (ifMR (andM (liftM (bin rGt (un rLen (Res.ok free_89)) (Res.ok (0 : Int)))) (binM rGt (callM m__law_take (liftM (Res.ok (4 : Int)))) (liftM (Res.ok (0 : Int))))) z_37.2.2 (fun (y_104 : Pl) => (((binM ix (liftM (Res.ok free_89)) (callM m__law_take (liftM (un rLen (Res.ok free_89))))) y_104).bind fun (got_119 : Int × Pl) => (((pair (Res.ok x_56) (Res.ok got_119.1)).bind fun x => push z_37.1 x).bind fun (pairs_134 : (List (Int × Int))) => (((Res.ok got_119.1).bind fun x => push z_37.2.1 x).bind fun (taken_148 : (List Int)) => (Res.ok (pairs_134, taken_148, got_119.2)))))) (fun (y_110 : Pl) => (Res.ok (z_37.1, z_37.2.1, y_110))))))) xs (pairs_1, taken_18, a_pool)).bind fun (z_170 : ((List (Int × Int)) × (List Int) × Pl)) => ((Res.ok z_170.1).bind fun a_200 => Res.ok (a_200, z_170.2.2)))))
abbrev N__law_some_pairs : List Str := ["pool", "warnings", "events", "lead", "slack", "pairs", "taken", "w", "free", "got", "e"]
theorem sc__law_some_pairs : FnScope N__law_some_pairs ["pool", "warnings", "events", "lead", "slack"] (defScope s__law_some_pairs) := ⟨rfl, rfl, rfl, by decide +kernel, rfl, by decide +kernel, by decide +kernel⟩
theorem bind__law_some_pairs {K : PySem.W.Frag} {mg : Str → Option Value} {T : Tx K mg} : Binds K T.d__law_some_pairs ["pool", "warnings", "events", "lead", "slack"] [] := FunD.bindsN T.F__law_some_pairs fun _ _ _ _ _ _ us hl => match us, hl with | [_, _, _, _, _], _ => rfl
abbrev sp__law_some_pairs (K : PySem.W.Frag) : Sp := spMo pM (tc (pV (pT (tc pI (tc pI (t1 pI))))) (tc (pV (pT (tc pI (t1 pI)))) (tc pI (t1 pI)))) (fun (p : ((List (Int × Int × Int)) × (List (Int × Int)) × Int × Int)) => m__law_some_pairs p.1 p.2.1 p.2.2.1 p.2.2.2) (pL (pT (tc pI (t1 pI))))
theorem ok__law_some_pairs (T : Tx K mg) : FnOk P w K mg base (L2.CX P w) 4 T.f__law_some_pairs T.d__law_some_pairs ["pool", "warnings", "events", "lead", "slack"] (sp__law_some_pairs K) := by
  refine T.F__law_some_pairs.ok sc__law_some_pairs (fun vs H Q E h => ?_) (fun cdv A outer s H vs Q E hr h => ?_)
  · obtain ⟨I, C, p, ws, us, x, a, rfl, _, _, _, hr, _⟩ := h
    exact congrArg (· + 1) (Rt.len _ hr)
  · obtain ⟨I0, C0, p0, ws0, us, a_pool, ⟨ar_warnings, ar_events, ar_lead, ar_slack⟩, rfl, hs, hc0, hx1, ⟨v_warnings, us0, rfl, r_warnings, v_events, us1, rfl, r_events, v_lead, us2, rfl, r_lead, v_slack, rfl, r_slack⟩, hm⟩ := h
    have hx0 := It.im (C' := Z) hx1
    have hm : Post (m__law_some_pairs ar_warnings ar_events ar_lead ar_slack a_pool) (PM p0 pM (pL (pT (tc pI (t1 pI)))) I0 C0 Q) XF := hm
    replace r_lead : Rp.r pI ar_lead v_lead I0 Z := Im.im r_lead
    replace r_slack : Rp.r pI ar_slack v_slack I0 Z := Im.im r_slack
    unfold m__law_some_pairs at hm
    refine ⟨_, (pss_cons (ps_set (i := 5) sc__law_some_pairs.nd rfl (Or.inl rfl) (pe_lst pa_nil)) (pss_cons (ps_set (i := 6) sc__law_some_pairs.nd rfl (Or.inr rfl) (pe_lst pa_nil)) (pss_cons (ps_for (passes_of rfl) rfl (pi_range1 (by rfl) T.gb_range (pa_cons (pe_callB (r := rLen1 K) call_len_seq (by rfl) T.gb_len bt_len (pa_cons (pv 1) pa_nil)) pa_nil)) (pg_name (i := 7) sc__law_some_pairs.nd rfl (Or.inr rfl)) (pss_cons (ps_setLc (i := 8) (own := [("e", 10)]) rfl sc__law_some_pairs.nd rfl rfl (sw_true rfl rfl rfl (by decide +kernel)) (pi_range1 (by rfl) T.gb_range (pa_cons (pe_callB (r := rLen1 K) call_len_seq (by rfl) T.gb_len bt_len (pa_cons (pv 2) pa_nil)) pa_nil)) (blkOk_by (own := [("e", 10)]) (N := N__law_some_pairs) (sc := defScope s__law_some_pairs) (by decide +kernel)) (fun _ _ _ _ _ => (pg_name (i := 10) sc__law_some_pairs.nd rfl (Or.inl rfl))) (fun _ _ _ _ _ => (pts_one (pt_val (pe_call (ok__law_fits T) (hr.mono (by decide)) rfl T.g__law_fits T.F__law_fits.kp bind__law_fits .nil passL (pa_cons (pe_ix (r := rIxL K) ix_list (pv 1) (pv 7) (fun _ _ => rfl)) (pa_cons (pe_ix (r := rIxL K) ix_list (pv 2) (pv 10) (fun _ _ => rfl)) (pa_cons (pv 3) (pa_cons (pv 4) pa_nil)))))))) (fun _ _ _ _ _ => (pv 10))) (pss_cons (ps_setLc (i := 8) (own := [("e", 10)]) rfl sc__law_some_pairs.nd rfl rfl (sw_true rfl rfl rfl (by decide +kernel)) (show PI _ _ _ (iList K _) from pi_list (pv 8)) (blkOk_by (own := [("e", 10)]) (N := N__law_some_pairs) (sc := defScope s__law_some_pairs) (by decide +kernel)) (fun _ _ _ _ _ => (pg_name (i := 10) sc__law_some_pairs.nd rfl (Or.inl rfl))) (fun _ _ _ _ _ => (pts_one (pt_cmpR (r := rIn K true) op_notIn_seq (pv 10) (pv 6) rfl))) (fun _ _ _ _ _ => (pv 10))) (pss_cons (ps_if (PW.pt (pw_and (pt_cmpR op_gt (pe_callB (r := rLen1 K) call_len_seq (by rfl) T.gb_len bt_len (pa_cons (pv 8) pa_nil)) pe_int (nomark _)) (pw_and1 (pt_cmpR op_gt (pe_call (ok__law_take T) (hr.mono (by decide)) rfl T.g__law_take T.F__law_take.kp bind__law_take .nil passE (pa_cons (pv 0) (pa_cons pe_int pa_nil))) pe_int (nomark _))))) (pss_cons (ps_set (i := 9) sc__law_some_pairs.nd rfl (Or.inl rfl) (pe_ix (r := rIxL K) ix_list (pv 8) (pe_call (ok__law_take T) (hr.mono (by decide)) rfl T.g__law_take T.F__law_take.kp bind__law_take .nil passE (pa_cons (pv 0) (pa_cons (pe_callB (r := rLen1 K) call_len_seq (by rfl) T.gb_len bt_len (pa_cons (pv 8) pa_nil)) pa_nil))) (fun _ _ => rfl))) (pss_cons (ps_expr (show PE _ _ (tBM K "list" rAppend _ _) from pe_bm PySem.F.plainAttrs_list PySem.F.slot_list_append PySem.F.type_list_append mt_append (pv 5) (pa_cons (pe_tup (pa_cons (pv 7) (pa_cons (pv 9) pa_nil))) pa_nil))) (pss_cons (ps_expr (show PE _ _ (tBM K "list" rAppend _ _) from pe_bm PySem.F.plainAttrs_list PySem.F.slot_list_append PySem.F.type_list_append mt_append (pv 6) (pa_cons (pv 9) pa_nil))) pss_nil))) pss_nil) pss_nil)))) (pss_cons (ps_ret (pv 5)) pss_nil)))), ?_⟩
    refine q_asgN (E := E) (K := K) (σ := [some (.ref p0), some v_warnings, some v_events, some v_lead, some v_slack, none, none, none, none, none, none]) (i := 5) (n_lst (R := (pT (tc pI (t1 pI)))) al_nil (by decide)) hs (fun _ _ h => h.elim) hm fun pairs_1 p_2 vs_3 I_4 C_5 H_6 e_7 hp_8 s_9 hc_10 k_11 hl_12 hr_13 hm => ?_
    have ne_14 := ne_new hc0 hp_8
    have hB_15 := Ex.free (off_ex (C := C0) (p := p0)) hp_8
    have hc_16 := (k_11 _ ne_14).trans hc0
    have fr_17 := fr_keep (off_ex (C := C0) (p := p0)) hB_15 k_11
    refine q_asgN (E := E) (K := K) (σ := [some (.ref p0), some v_warnings, some v_events, some v_lead, some v_slack, some (.ref p_2), none, none, none, none, none]) (i := 6) (n_lst (R := pI) al_nil (by decide)) s_9 (fun _ _ h => h.elim) hm fun taken_18 p_19 vs_20 I_21 C_22 H_23 e_24 hp_25 s_26 hc_27 k_28 hl_29 hr_30 hm => ?_
    have ne_31 := ne_new hc_16 hp_25
    have ne_32 := ne_new hc_10 hp_25
    have hB_33 := Ex.free fr_17 hp_25
    have hc_34 := (k_28 _ ne_31).trans hc_16
    have hc_35 := (k_28 _ ne_32).trans hc_10
    have fr_36 := fr_keep fr_17 hB_33 k_28
    refine s_forN (E := E) (K := K) (σ := [some (.ref p0), some v_warnings, some v_events, some v_lead, some v_slack, some (.ref p_2), some (.ref p_19), none, none, none, none]) (fun (z_37 : ((List (Int × Int)) × (List Int) × Pl)) σ2 I_42 C_43 => ∃ w_39 : Option V, ∃ w_40 : Option V, ∃ w_41 : Option V, σ2 = [some (.ref p0), some v_warnings, some v_events, some v_lead, some v_slack, some (.ref p_2), some (.ref p_19), w_39, w_40, w_41, none] ∧ (∃ vs_44 : List V, C_43 p_2 = some (.lst vs_44) ∧ vs_44.length ≤ sizeLine ∧ A2 (fun x u => Rp.r (pT (tc pI (t1 pI))) x u I_42 Z) z_37.1 vs_44) ∧ (∃ vs_48 : List V, C_43 p_19 = some (.lst vs_48) ∧ vs_48.length ≤ sizeLine ∧ A2 (fun x u => Rp.r pI x u I_42 Z) z_37.2.1 vs_48) ∧ (∃ ws_52 : List V, C_43 p0 = some (.lst ws_52) ∧ Rt.r pM z_37.2.2 ws_52 I_42 Z) ∧ Ex (off C0 p0) C_43) (i_rng1 (a_one (x_cb o_len (a_one (x_var (i := 1) rfl (Rp.mono _ (e_7.trans e_24) fr_36 r_warnings)))))) s_26 (fun _ _ h => h.elim) hm (fun _ e_64 => ⟨none, none, none, rfl, ⟨_, hc_35, hl_12, a2up (Ex.trans e_24 e_64) hr_13⟩, ⟨_, hc_27, hl_29, a2up (Ex.trans (Ex.refl _) e_64) hr_30⟩, ⟨_, hc_34, Rt.mono _ (Ex.trans (e_7.trans e_24) e_64) exz hx0⟩, fr_36⟩) (fun _ _ _ _ _ => trivial) (fun _ _ _ _ _ e ⟨w_39, w_40, w_41, hs_38, ⟨vs_44, hc_45, hl_46, hr_47⟩, ⟨vs_48, hc_49, hl_50, hr_51⟩, ⟨ws_52, hc_53, hx_54⟩, fr_55⟩ => ⟨w_39, w_40, w_41, hs_38, ⟨vs_44, hc_45, hl_46, a2up e hr_47⟩, ⟨vs_48, hc_49, hl_50, a2up e hr_51⟩, ⟨ws_52, hc_53, Rt.mono _ e exz hx_54⟩, fr_55⟩) (fun N x_56 v_57 z_37 σ2 I_58 C_59 H_60 e_61 s_62 ⟨w_39, w_40, w_41, hs_38, ⟨vs_44, hc_45, hl_46, hr_47⟩, ⟨vs_48, hc_49, hl_50, hr_51⟩, ⟨ws_52, hc_53, hx_54⟩, fr_55⟩ r_63 hm => ?_) (fun z_170 σ2 I_165 C_166 H_167 e_168 s_169 ⟨w_172, w_173, w_174, hs_171, ⟨vs_177, hc_178, hl_179, hr_180⟩, ⟨vs_181, hc_182, hl_183, hr_184⟩, ⟨ws_185, hc_186, hx_187⟩, fr_188⟩ hm => ?_)
    · subst hs_38
      refine g1 (K := K) x_56 v_57 I_58 C_59 H_60 _ s_62 r_63 fun σ2 ⟨v_65, hs_67, r_66⟩ => ?_
      subst hs_67
      refine q_asg (E := E) (K := K) (σ := [some (.ref p0), some v_warnings, some v_events, some v_lead, some v_slack, some (.ref p_2), some (.ref p_19), some v_65, w_40, w_41, none]) (i := 8) (x_lcg (i_rng1 (a_one (x_cb o_len (a_one (x_var (i := 2) rfl (Rp.mono _ (e_7.trans (e_24.trans e_61)) fr_55 r_events)))))) g1 (fun _ _ _ _ ⟨_, h, _⟩ => by rw [h]; rfl) (fun x_68 σ2 I_69 C_70 e_71 c_72 ⟨v_73, h, r_74⟩ => by subst h; exact (t_B (x_call (a_cons (x_op o_ix (x_var (i := 1) rfl (Rp.mono _ (e_7.trans (e_24.trans (e_61.trans e_71))) (Ex.trans fr_55 c_72) r_warnings)) (x_var (i := 7) rfl (Rp.mono _ e_71 exz r_66))) (a_cons (x_op o_ix (x_var (i := 2) rfl (Rp.mono _ (e_7.trans (e_24.trans (e_61.trans e_71))) (Ex.trans fr_55 c_72) r_events)) (x_var (i := 10) rfl (Rp.mono _ (Ex.refl _) exz r_74))) (a_cons (x_var (i := 3) rfl (Rp.mono _ (e_7.trans (e_24.trans (e_61.trans e_71))) exz r_lead)) (a_one (x_var (i := 4) rfl (Rp.mono _ (e_7.trans (e_24.trans (e_61.trans e_71))) exz r_slack))))))))) (fun x_68 σ2 I_69 C_70 e_71 c_72 ⟨v_73, h, r_74⟩ => by subst h; exact (x_var (i := 10) rfl (Rp.mono _ (Ex.refl _) exz r_74))) (fun _ _ _ _ _ e ⟨v_73, h, r_74⟩ => ⟨v_73, h, Rp.mono _ e exz r_74⟩)) s_62 (fun _ _ h => h.elim) hm fun free_75 v_76 I_77 H_78 e_79 s_80 r_81 hm => ?_
      refine q_asg (E := E) (K := K) (σ := [some (.ref p0), some v_warnings, some v_events, some v_lead, some v_slack, some (.ref p_2), some (.ref p_19), some v_65, some v_76, w_41, none]) (i := 8) (x_lcg (i_list (x_var (i := 8) rfl (Rp.mono _ (Ex.refl _) exz r_81))) g1 (fun _ _ _ _ ⟨_, h, _⟩ => by rw [h]; rfl) (fun x_82 σ2 I_83 C_84 e_85 c_86 ⟨v_87, h, r_88⟩ => by subst h; exact (t_test (x_op (o_nin fl_int) (x_var (i := 10) rfl (Rp.mono _ (Ex.refl _) exz r_88)) (x_cell (i := 6) rfl (c_86 _ _ hc_49) hl_50 (a2up (e_79.trans e_85) hr_51))))) (fun x_82 σ2 I_83 C_84 e_85 c_86 ⟨v_87, h, r_88⟩ => by subst h; exact (x_var (i := 10) rfl (Rp.mono _ (Ex.refl _) exz r_88))) (fun _ _ _ _ _ e ⟨v_87, h, r_88⟩ => ⟨v_87, h, Rp.mono _ e exz r_88⟩)) s_80 (fun _ _ h => h.elim) hm fun free_89 v_90 I_91 H_92 e_93 s_94 r_95 hm => ?_
      refine qm_if (E := E) (K := K) (σ := [some (.ref p0), some v_warnings, some v_events, some v_lead, some v_slack, some (.ref p_2), some (.ref p_19), some v_65, some v_90, w_41, none]) (tm_and off_same (tm_pure (t_test (x_op o_gt (x_cb o_len (a_one (x_v (x_var (i := 8) rfl (Rp.mono _ (Ex.refl _) exz r_95))))) (x_int (i := 0))))) (tm_test (m_op (fun _ => o_gt) off_same (m_callM (i := 0) rfl (am_pure (a_one (x_int (i := 4))))) (m_pure (x_int (i := 0)))))) s_94 hc_53 (Rt.mono _ (e_79.trans e_93) exz hx_54) hm (fun y_104 ws_105 I_96 C_106 H_97 e_98 s_99 hc_107 k_108 hx_109 hm => ?_) (fun y_110 ws_111 I_100 C_112 H_101 e_102 s_103 hc_113 k_114 hx_115 hm => ?_)
      · have hc_116 := (k_108 _ (Ne.symm ne_14)).trans hc_45
        have hc_117 := (k_108 _ (Ne.symm ne_31)).trans hc_49
        have fr_118 := fr_pool fr_55 k_108
        refine qm_asg (E := E) (K := K) (σ := [some (.ref p0), some v_warnings, some v_events, some v_lead, some v_slack, some (.ref p_2), some (.ref p_19), some v_65, some v_90, w_41, none]) (i := 9) (m_op (fun _ => (Op2.ofL o_ix)) off_same (m_pure (x_var (i := 8) rfl (Rp.mono _ e_98 exz r_95))) (m_callM (i := 0) rfl (am_pure (a_one (x_cb o_len (a_one (x_v (x_var (i := 8) rfl (Rp.mono _ e_98 exz r_95))))))))) s_99 hc_107 (Rt.mono _ (Ex.refl _) exz hx_109) hm fun got_119 v_120 ws_126 I_121 C_127 H_122 e_123 s_124 hc_128 k_129 hx_130 r_125 hm => ?_
        have hc_131 := (k_129 _ (Ne.symm ne_14)).trans hc_116
        have hc_132 := (k_129 _ (Ne.symm ne_31)).trans hc_117
        have fr_133 := fr_pool fr_118 k_129
        refine q_app (E := E) (K := K) (σ := [some (.ref p0), some v_warnings, some v_events, some v_lead, some v_slack, some (.ref p_2), some (.ref p_19), some v_65, some v_90, some v_120, none]) (i := 5) rfl hc_131 (a2up (e_79.trans (e_93.trans (e_98.trans e_123))) hr_47) (x_tup (a_cons (x_var (i := 7) rfl (Rp.mono _ (e_79.trans (e_93.trans (e_98.trans e_123))) exz r_66)) (a_one (x_var (i := 9) rfl (Rp.mono _ (Ex.refl _) exz r_125)))) (Nat.le_of_ble_eq_true rfl)) s_124 (fun _ _ h => h.elim) hm fun pairs_134 vs_135 I_136 C_137 H_138 e_139 s_140 hc_141 k_142 hl_143 hr_144 hm => ?_
        have hc_145 := (k_142 _ ne_14).trans hc_128
        have hc_146 := (k_142 _ (Ne.symm ne_32)).trans hc_132
        have fr_147 := fr_keep fr_133 hB_15 k_142
        refine q_app (E := E) (K := K) (σ := [some (.ref p0), some v_warnings, some v_events, some v_lead, some v_slack, some (.ref p_2), some (.ref p_19), some v_65, some v_90, some v_120, none]) (i := 6) rfl hc_146 (a2up (e_79.trans (e_93.trans (e_98.trans (e_123.trans e_139)))) hr_51) (x_var (i := 9) rfl (Rp.mono _ e_139 exz r_125)) s_140 (fun _ _ h => h.elim) hm fun taken_148 vs_149 I_150 C_151 H_152 e_153 s_154 hc_155 k_156 hl_157 hr_158 hm => ?_
        have hc_159 := (k_156 _ ne_31).trans hc_145
        have hc_160 := (k_156 _ ne_32).trans hc_141
        have fr_161 := fr_keep fr_147 hB_33 k_156
        exact hm _ _ _ _ (e_79.trans (e_93.trans (e_98.trans (e_123.trans (e_139.trans e_153))))) s_154 ⟨some v_65, some v_90, some v_120, rfl, ⟨_, hc_160, hl_143, a2up e_153 hr_144⟩, ⟨_, hc_155, hl_157, a2up (Ex.refl _) hr_158⟩, ⟨_, hc_159, Rt.mono _ (e_139.trans e_153) exz hx_130⟩, fr_161⟩
      · have hc_162 := (k_114 _ (Ne.symm ne_14)).trans hc_45
        have hc_163 := (k_114 _ (Ne.symm ne_31)).trans hc_49
        have fr_164 := fr_pool fr_55 k_114
        exact hm _ _ _ _ (e_79.trans (e_93.trans e_102)) s_103 ⟨some v_65, some v_90, w_41, rfl, ⟨_, hc_162, hl_46, a2up (e_79.trans (e_93.trans e_102)) hr_47⟩, ⟨_, hc_163, hl_50, a2up (e_79.trans (e_93.trans e_102)) hr_51⟩, ⟨_, hc_113, Rt.mono _ (Ex.refl _) exz hx_115⟩, fr_164⟩
    subst hs_171
    obtain ⟨I_189, C_190, e_191, s_192, h_193, k_194⟩ := freeze s_169 hc_178
    have r_196 := frz_list e_191 h_193 hl_179 hr_180
    have hc_197 := (k_194 _ ne_14).trans hc_186
    have hc_198 := (k_194 _ (Ne.symm ne_32)).trans hc_182
    have fr_199 := fr_keep fr_188 hB_15 k_194
    refine q_ret (tz := tNext) (E := E) (K := K) (σ := [some (.ref p0), some v_warnings, some v_events, some v_lead, some v_slack, some (.ref p_2), some (.ref p_19), w_172, w_173, w_174, none]) (x_var (i := 5) rfl (Rp.mono _ (Ex.refl _) exz r_196)) s_192 (fun _ _ h => h.elim) hm fun a_200 v_201 I_202 H_203 e_204 s_205 r_206 hm => ?_
    exact ret_pool hm (e_7.trans (e_24.trans (e_168.trans (e_191.trans e_204)))) fr_199 s_205 hc_197 (Rt.mono _ (e_191.trans e_204) exz hx_187) r_206
def m__law_spoilt_pairs (ar_pairs : (List (Int × Int))) (ar_many : Int) (ar_count : Int) (a_pool : Pl) : Res ((List (Int × Int)) × Pl) :=
  (((callM m__law_take (liftM (Res.ok (7 : Int)))) a_pool).bind fun (kind_1 : Int × Pl) => ((un idR (Res.ok ar_pairs)).bind fun (row_14 : (List (Int × Int))) => (ifR (bin eqR (Res.ok kind_1.1) (Res.ok (0 : Int))) ((un revR (Res.ok row_14)).bind fun a_49 => Res.ok (a_49, kind_1.2)) (ifR (bin eqR (Res.ok kind_1.1) (Res.ok (1 : Int))) ((bin rCatR (Res.ok row_14) (slR (Res.ok row_14) (someR (un rNeg (Res.ok (1 : Int)))) (Res.ok none))).bind fun a_74 => Res.ok (a_74, kind_1.2)) (ifR (bin eqR (Res.ok kind_1.1) (Res.ok (2 : Int))) (((binM rCatR (liftM (Res.ok row_14)) (consM (pairM (liftM (Res.ok ar_many)) (callM m__law_take (liftM (bin rAdd (Res.ok ar_count) (Res.ok (1 : Int)))))) (liftM (Res.ok [])))) kind_1.2).bind fun a_99 => Res.ok (a_99.1, a_99.2)) (ifR (bin eqR (Res.ok kind_1.1) (Res.ok (3 : Int))) (((binM rCatR (consM (pairM (liftM (un rNeg (Res.ok (1 : Int)))) (callM m__law_take (liftM (bin rAdd (Res.ok ar_count) (Res.ok (1 : Int)))))) (liftM (Res.ok []))) (liftM (Res.ok row_14))) kind_1.2).bind fun a_130 => Res.ok (a_130.1, a_130.2)) (ifR (bin eqR (Res.ok kind_1.1) (Res.ok (4 : Int))) (((unM sortP (binM rCatR (liftM (Res.ok row_14)) (consM (pairM (callM m__law_take (liftM (bin rAdd (Res.ok ar_many) (Res.ok (1 : Int))))) (binM rSub (callM m__law_take (liftM (bin rAdd (Res.ok ar_count) (Res.ok (2 : Int))))) (liftM (Res.ok (1 : Int))))) (liftM (Res.ok []))))) kind_1.2).bind fun a_161 => Res.ok (a_161.1, a_161.2)) ((ifR (bin rGt (un rLen (Res.ok row_14)) (Res.ok (0 : Int))) (((callM m__law_take (liftM (un rLen (Res.ok row_14)))) kind_1.2).bind fun (k_195 : Int × Pl) => ((ifR (bin eqR (Res.ok kind_1.1) (Res.ok (5 : Int))) ((((pairM (liftM (un (fun p => Res.ok p.1) (bin ix (Res.ok row_14) (Res.ok k_195.1)))) (binM rSub (callM m__law_take (liftM (bin rAdd (Res.ok ar_count) (Res.ok (2 : Int))))) (liftM (Res.ok (1 : Int))))) k_195.2).bind fun b => (Res.ok k_195.1).bind fun j => (setR row_14 j b.1).bind fun ys => Res.ok (ys, b.2)).bind fun (row_229 : (List (Int × Int)) × Pl) => (Res.ok (row_229.2, row_229.1))) (Res.ok (k_195.2, row_14))).bind fun (z_217 : (Pl × (List (Int × Int)))) => (ifR (bin eqR (Res.ok kind_1.1) (Res.ok (6 : Int))) ((((pairM (binM rSub (callM m__law_take (liftM (bin rAdd (Res.ok ar_many) (Res.ok (2 : Int))))) (liftM (Res.ok (1 : Int)))) (liftM (un (fun p => Res.ok p.2) (bin ix (Res.ok z_217.2) (Res.ok k_195.1))))) z_217.1).bind fun b => (Res.ok k_195.1).bind fun j => (setR z_217.2 j b.1).bind fun ys => Res.ok (ys, b.2)).bind fun (row_257 : (List (Int × Int)) × Pl) => (Res.ok (row_257.2, row_257.1))) (Res.ok (z_217.1, z_217.2))))) (Res.ok (kind_1.2, row_14))).bind fun (z_182 : (Pl × (List (Int × Int)))) => ((Res.ok z_182.2).bind fun a_287 => Res.ok (a_287, z_182.1))))))))))
abbrev N__law_spoilt_pairs : List Str := ["pool", "pairs", "many", "count", "kind", "row", "k"]
theorem sc__law_spoilt_pairs : FnScope N__law_spoilt_pairs ["pool", "pairs", "many", "count"] (defScope s__law_spoilt_pairs) := ⟨rfl, rfl, rfl, by decide +kernel, rfl, by decide +kernel, by decide +kernel⟩
theorem bind__law_spoilt_pairs {K : PySem.W.Frag} {mg : Str → Option Value} {T : Tx K mg} : Binds K T.d__law_spoilt_pairs ["pool", "pairs", "many", "count"] [] := FunD.bindsN T.F__law_spoilt_pairs fun _ _ _ _ _ _ us hl => match us, hl with | [_, _, _, _], _ => rfl
abbrev sp__law_spoilt_pairs (K : PySem.W.Frag) : Sp := spM pM (tc (pL (pT (tc pI (t1 pI)))) (tc pI (t1 pI))) (fun (p : ((List (Int × Int)) × Int × Int)) => m__law_spoilt_pairs p.1 p.2.1 p.2.2) (pL (pT (tc pI (t1 pI))))
theorem ok__law_spoilt_pairs (T : Tx K mg) : FnOk P w K mg base (L2.CX P w) 4 T.f__law_spoilt_pairs T.d__law_spoilt_pairs ["pool", "pairs", "many", "count"] (sp__law_spoilt_pairs K) := by
  refine T.F__law_spoilt_pairs.ok sc__law_spoilt_pairs (fun vs H Q E h => ?_) (fun cdv A outer s H vs Q E hr h => ?_)
  · obtain ⟨I, C, p, ws, us, x, a, rfl, _, _, _, hr, _⟩ := h
    exact congrArg (· + 1) (Rt.len _ hr)
  · obtain ⟨I0, C0, p0, ws0, us, a_pool, ⟨ar_pairs, ar_many, ar_count⟩, rfl, hs, hc0, hx1, ⟨v_pairs, us0, rfl, r_pairs, v_many, us1, rfl, r_many, v_count, rfl, r_count⟩, hm⟩ := h
    have hx0 := It.im (C' := Z) hx1
    have hm : Post (m__law_spoilt_pairs ar_pairs ar_many ar_count a_pool) (PM p0 pM (pL (pT (tc pI (t1 pI)))) I0 C0 Q) XF := hm
    replace r_pairs : Rp.r (pL (pT (tc pI (t1 pI)))) ar_pairs v_pairs I0 Z := Im.im r_pairs
    replace r_many : Rp.r pI ar_many v_many I0 Z := Im.im r_many
    replace r_count : Rp.r pI ar_count v_count I0 Z := Im.im r_count
    unfold m__law_spoilt_pairs at hm
    refine ⟨_, (pss_cons (ps_set (i := 4) sc__law_spoilt_pairs.nd rfl (Or.inl rfl) (pe_call (ok__law_take T) (hr.mono (by decide)) rfl T.g__law_take T.F__law_take.kp bind__law_take .nil passE (pa_cons (pv 0) (pa_cons pe_int pa_nil)))) (pss_cons (ps_set (i := 5) sc__law_spoilt_pairs.nd rfl (Or.inl rfl) (pe_callTy (r := rList1 K) call_list_of (by rfl) T.gb_list bt_list (pa_cons (pv 1) pa_nil))) (pss_cons (ps_if (pt_cmpR op_eq (pv 4) pe_int (nomark _)) (pss_cons (ps_ret (show PE _ _ (tRevL K _) from pe_revL (pv 5))) pss_nil) pss_nil) (pss_cons (ps_if (pt_cmpR op_eq (pv 4) pe_int (nomark _)) (pss_cons (ps_ret (pe_op op_cat (pv 5) (pe_slice (r := rSlL K) sl_list (pv 5) (po_some (pe_un un_neg pe_int)) po_none))) pss_nil) pss_nil) (pss_cons (ps_if (pt_cmpR op_eq (pv 4) pe_int (nomark _)) (pss_cons (ps_ret (pe_op op_cat (pv 5) (pe_lst (pa_cons (pe_tup (pa_cons (pv 2) (pa_cons (pe_call (ok__law_take T) (hr.mono (by decide)) rfl T.g__law_take T.F__law_take.kp bind__law_take .nil passE (pa_cons (pv 0) (pa_cons (pe_op op_add (pv 3) pe_int) pa_nil))) pa_nil))) pa_nil)))) pss_nil) pss_nil) (pss_cons (ps_if (pt_cmpR op_eq (pv 4) pe_int (nomark _)) (pss_cons (ps_ret (pe_op op_cat (pe_lst (pa_cons (pe_tup (pa_cons (pe_un un_neg pe_int) (pa_cons (pe_call (ok__law_take T) (hr.mono (by decide)) rfl T.g__law_take T.F__law_take.kp bind__law_take .nil passE (pa_cons (pv 0) (pa_cons (pe_op op_add (pv 3) pe_int) pa_nil))) pa_nil))) pa_nil)) (pv 5))) pss_nil) pss_nil) (pss_cons (ps_if (pt_cmpR op_eq (pv 4) pe_int (nomark _)) (pss_cons (ps_ret (pe_callB (r := rSortedPO K) cr_sortedPO (by rfl) T.gb_sorted bt_sorted (pa_cons (pe_op op_cat (pv 5) (pe_lst (pa_cons (pe_tup (pa_cons (pe_call (ok__law_take T) (hr.mono (by decide)) rfl T.g__law_take T.F__law_take.kp bind__law_take .nil passE (pa_cons (pv 0) (pa_cons (pe_op op_add (pv 2) pe_int) pa_nil))) (pa_cons (pe_op op_sub (pe_call (ok__law_take T) (hr.mono (by decide)) rfl T.g__law_take T.F__law_take.kp bind__law_take .nil passE (pa_cons (pv 0) (pa_cons (pe_op op_add (pv 3) pe_int) pa_nil))) pe_int) pa_nil))) pa_nil))) pa_nil))) pss_nil) pss_nil) (Evl.pss_cut (ps_if (pt_cmpR op_gt (pe_callB (r := rLen1 K) call_len_seq (by rfl) T.gb_len bt_len (pa_cons (pv 5) pa_nil)) pe_int (nomark _)) (pss_cons (ps_set (i := 6) sc__law_spoilt_pairs.nd rfl (Or.inl rfl) (pe_call (ok__law_take T) (hr.mono (by decide)) rfl T.g__law_take T.F__law_take.kp bind__law_take .nil passE (pa_cons (pv 0) (pa_cons (pe_callB (r := rLen1 K) call_len_seq (by rfl) T.gb_len bt_len (pa_cons (pv 5) pa_nil)) pa_nil)))) (Evl.pss_cut (ps_if (pt_cmpR op_eq (pv 4) pe_int (nomark _)) (pss_cons (ps_asg (pe_tup (pa_cons (pe_ix (r := rIxT K) ix_tup (pe_ix (r := rIxL K) ix_list (pv 5) (pv 6) (fun _ _ => rfl)) pe_int (fun _ _ => rfl)) (pa_cons (pe_op op_sub (pe_call (ok__law_take T) (hr.mono (by decide)) rfl T.g__law_take T.F__law_take.kp bind__law_take .nil passE (pa_cons (pv 0) (pa_cons (pe_op op_add (pv 3) pe_int) pa_nil))) pe_int) pa_nil))) (pg_sub (pv 5) (pv 6) set_list)) pss_nil) pss_nil) (pss_cons (ps_if (pt_cmpR op_eq (pv 4) pe_int (nomark _)) (pss_cons (ps_asg (pe_tup (pa_cons (pe_op op_sub (pe_call (ok__law_take T) (hr.mono (by decide)) rfl T.g__law_take T.F__law_take.kp bind__law_take .nil passE (pa_cons (pv 0) (pa_cons (pe_op op_add (pv 2) pe_int) pa_nil))) pe_int) (pa_cons (pe_ix (r := rIxT K) ix_tup (pe_ix (r := rIxL K) ix_list (pv 5) (pv 6) (fun _ _ => rfl)) pe_int (fun _ _ => rfl)) pa_nil))) (pg_sub (pv 5) (pv 6) set_list)) pss_nil) pss_nil) pss_nil))) pss_nil) (pss_cons (ps_ret (pv 5)) pss_nil))))))))), ?_⟩
    refine qm_asg (E := E) (K := K) (σ := [some (.ref p0), some v_pairs, some v_many, some v_count, none, none, none]) (i := 4) (m_callM (i := 0) rfl (am_pure (a_one (x_int (i := 7))))) hs hc0 (Rt.mono _ (Ex.refl _) exz hx0) hm fun kind_1 v_2 ws_8 I_3 C_9 H_4 e_5 s_6 hc_10 k_11 hx_12 r_7 hm => ?_
    have fr_13 := fr_pool (off_ex (C := C0) (p := p0)) k_11
    refine q_asgN (E := E) (K := K) (σ := [some (.ref p0), some v_pairs, some v_many, some v_count, some v_2, none, none]) (i := 5) (n_cb n_list (a_one (x_v (x_var (i := 1) rfl (Rp.mono _ e_5 exz r_pairs))))) s_6 (fun _ _ h => h.elim) hm fun row_14 p_15 vs_16 I_17 C_18 H_19 e_20 hp_21 s_22 hc_23 k_24 hl_25 hr_26 hm => ?_
    have ne_27 := ne_new hc_10 hp_21
    have hB_28 := Ex.free fr_13 hp_21
    have hc_29 := (k_24 _ ne_27).trans hc_10
    have fr_30 := fr_keep fr_13 hB_28 k_24
    refine s_if (E := E) (K := K) (σ := [some (.ref p0), some v_pairs, some v_many, some v_count, some v_2, some (.ref p_15), none]) (t_test (x_op o_eqI (x_var (i := 4) rfl (Rp.mono _ e_20 exz r_7)) (x_int (i := 0)))) s_22 (fun _ _ h => h.elim) hm (fun I_31 H_32 e_33 s_34 hm => ?_) (fun I_35 H_36 e_37 s_38 hm => ?_)
    · obtain ⟨I_39, C_40, e_41, s_42, h_43, k_44⟩ := freeze s_34 hc_23
      have r_46 := frz_list (e_33.trans e_41) h_43 hl_25 hr_26
      have hc_47 := (k_44 _ ne_27).trans hc_29
      have fr_48 := fr_keep fr_30 hB_28 k_44
      refine q_ret (tz := tNext) (E := E) (K := K) (σ := [some (.ref p0), some v_pairs, some v_many, some v_count, some v_2, some (.ref p_15), none]) (x_rev (x_v (x_var (i := 5) rfl (Rp.mono _ (Ex.refl _) exz r_46)))) s_42 (fun _ _ h => h.elim) hm fun a_49 v_50 I_51 H_52 e_53 s_54 r_55 hm => ?_
      exact ret_pool hm (e_5.trans (e_20.trans (e_33.trans (e_41.trans e_53)))) fr_48 s_54 hc_47 (Rt.mono _ (e_20.trans (e_33.trans (e_41.trans e_53))) exz hx_12) r_55
    · refine s_if (E := E) (K := K) (σ := [some (.ref p0), some v_pairs, some v_many, some v_count, some v_2, some (.ref p_15), none]) (t_test (x_op o_eqI (x_var (i := 4) rfl (Rp.mono _ (e_20.trans e_37) exz r_7)) (x_int (i := 1)))) s_38 (fun _ _ h => h.elim) hm (fun I_56 H_57 e_58 s_59 hm => ?_) (fun I_60 H_61 e_62 s_63 hm => ?_)
      · obtain ⟨I_64, C_65, e_66, s_67, h_68, k_69⟩ := freeze s_59 hc_23
        have r_71 := frz_list (e_37.trans (e_58.trans e_66)) h_68 hl_25 hr_26
        have hc_72 := (k_69 _ ne_27).trans hc_29
        have fr_73 := fr_keep fr_30 hB_28 k_69
        refine q_ret (tz := tNext) (E := E) (K := K) (σ := [some (.ref p0), some v_pairs, some v_many, some v_count, some v_2, some (.ref p_15), none]) (x_op o_cat (x_v (x_var (i := 5) rfl (Rp.mono _ (Ex.refl _) exz r_71))) (x_v (x_sl (x_v (x_var (i := 5) rfl (Rp.mono _ (Ex.refl _) exz r_71))) (p_some (x_un o_neg (x_int (i := 1)))) p_none))) s_67 (fun _ _ h => h.elim) hm fun a_74 v_75 I_76 H_77 e_78 s_79 r_80 hm => ?_
        exact ret_pool hm (e_5.trans (e_20.trans (e_37.trans (e_58.trans (e_66.trans e_78))))) fr_73 s_79 hc_72 (Rt.mono _ (e_20.trans (e_37.trans (e_58.trans (e_66.trans e_78)))) exz hx_12) r_80
      · refine s_if (E := E) (K := K) (σ := [some (.ref p0), some v_pairs, some v_many, some v_count, some v_2, some (.ref p_15), none]) (t_test (x_op o_eqI (x_var (i := 4) rfl (Rp.mono _ (e_20.trans (e_37.trans e_62)) exz r_7)) (x_int (i := 2)))) s_63 (fun _ _ h => h.elim) hm (fun I_81 H_82 e_83 s_84 hm => ?_) (fun I_85 H_86 e_87 s_88 hm => ?_)
        · obtain ⟨I_89, C_90, e_91, s_92, h_93, k_94⟩ := freeze s_84 hc_23
          have r_96 := frz_list (e_37.trans (e_62.trans (e_83.trans e_91))) h_93 hl_25 hr_26
          have hc_97 := (k_94 _ ne_27).trans hc_29
          have fr_98 := fr_keep fr_30 hB_28 k_94
          refine qm_ret (E := E) (K := K) (σ := [some (.ref p0), some v_pairs, some v_many, some v_count, some v_2, some (.ref p_15), none]) (m_op (fun _ => (Op2.ofL o_cat)) off_same (m_pure (x_var (i := 5) rfl (Rp.mono _ (Ex.refl _) exz r_96))) (m_v (m_lst (alm_cons off_same (m_tup (am_cons off_same (m_pure (x_var (i := 2) rfl (Rp.mono _ (e_5.trans (e_20.trans (e_37.trans (e_62.trans (e_83.trans e_91))))) exz r_many))) (am_one (m_callM (i := 0) rfl (am_pure (a_one (x_op o_add (x_var (i := 3) rfl (Rp.mono _ (e_5.trans (e_20.trans (e_37.trans (e_62.trans (e_83.trans e_91))))) exz r_count)) (x_int (i := 1)))))))) (Nat.le_of_ble_eq_true rfl)) alm_nil) (Nat.le_of_ble_eq_true rfl)))) s_92 hc_97 (Rt.mono _ (e_20.trans (e_37.trans (e_62.trans (e_83.trans e_91)))) exz hx_12) hm fun a_99 v_100 ws_106 I_101 C_107 H_102 e_103 s_104 hc_108 k_109 hx_110 r_105 hm => ?_
          have fr_111 := fr_pool fr_98 k_109
          exact ret_pool hm (e_5.trans (e_20.trans (e_37.trans (e_62.trans (e_83.trans (e_91.trans e_103)))))) fr_111 s_104 hc_108 hx_110 r_105
        · refine s_if (E := E) (K := K) (σ := [some (.ref p0), some v_pairs, some v_many, some v_count, some v_2, some (.ref p_15), none]) (t_test (x_op o_eqI (x_var (i := 4) rfl (Rp.mono _ (e_20.trans (e_37.trans (e_62.trans e_87))) exz r_7)) (x_int (i := 3)))) s_88 (fun _ _ h => h.elim) hm (fun I_112 H_113 e_114 s_115 hm => ?_) (fun I_116 H_117 e_118 s_119 hm => ?_)
          · obtain ⟨I_120, C_121, e_122, s_123, h_124, k_125⟩ := freeze s_115 hc_23
            have r_127 := frz_list (e_37.trans (e_62.trans (e_87.trans (e_114.trans e_122)))) h_124 hl_25 hr_26
            have hc_128 := (k_125 _ ne_27).trans hc_29
            have fr_129 := fr_keep fr_30 hB_28 k_125
            refine qm_ret (E := E) (K := K) (σ := [some (.ref p0), some v_pairs, some v_many, some v_count, some v_2, some (.ref p_15), none]) (m_op (fun _ => (Op2.ofL o_cat)) off_same (m_lst (alm_cons off_same (m_tup (am_cons off_same (m_pure (x_un o_neg (x_int (i := 1)))) (am_one (m_callM (i := 0) rfl (am_pure (a_one (x_op o_add (x_var (i := 3) rfl (Rp.mono _ (e_5.trans (e_20.trans (e_37.trans (e_62.trans (e_87.trans (e_114.trans e_122)))))) exz r_count)) (x_int (i := 1)))))))) (Nat.le_of_ble_eq_true rfl)) alm_nil) (Nat.le_of_ble_eq_true rfl)) (m_pure (x_v (x_var (i := 5) rfl (Rp.mono _ (Ex.refl _) exz r_127))))) s_123 hc_128 (Rt.mono _ (e_20.trans (e_37.trans (e_62.trans (e_87.trans (e_114.trans e_122))))) exz hx_12) hm fun a_130 v_131 ws_137 I_132 C_138 H_133 e_134 s_135 hc_139 k_140 hx_141 r_136 hm => ?_
            have fr_142 := fr_pool fr_129 k_140
            exact ret_pool hm (e_5.trans (e_20.trans (e_37.trans (e_62.trans (e_87.trans (e_114.trans (e_122.trans e_134))))))) fr_142 s_135 hc_139 hx_141 r_136
          · refine s_if (E := E) (K := K) (σ := [some (.ref p0), some v_pairs, some v_many, some v_count, some v_2, some (.ref p_15), none]) (t_test (x_op o_eqI (x_var (i := 4) rfl (Rp.mono _ (e_20.trans (e_37.trans (e_62.trans (e_87.trans e_118)))) exz r_7)) (x_int (i := 4)))) s_119 (fun _ _ h => h.elim) hm (fun I_143 H_144 e_145 s_146 hm => ?_) (fun I_147 H_148 e_149 s_150 hm => ?_)
            · obtain ⟨I_151, C_152, e_153, s_154, h_155, k_156⟩ := freeze s_146 hc_23
              have r_158 := frz_list (e_37.trans (e_62.trans (e_87.trans (e_118.trans (e_145.trans e_153))))) h_155 hl_25 hr_26
              have hc_159 := (k_156 _ ne_27).trans hc_29
              have fr_160 := fr_keep fr_30 hB_28 k_156
              refine qm_ret (E := E) (K := K) (σ := [some (.ref p0), some v_pairs, some v_many, some v_count, some v_2, some (.ref p_15), none]) (m_cbN (fun _ => n_sortP) (am_one (m_v (m_op (fun _ => (Op2.ofL o_cat)) off_same (m_pure (x_var (i := 5) rfl (Rp.mono _ (Ex.refl _) exz r_158))) (m_v (m_lst (alm_cons off_same (m_tup (am_cons off_same (m_callM (i := 0) rfl (am_pure (a_one (x_op o_add (x_var (i := 2) rfl (Rp.mono _ (e_5.trans (e_20.trans (e_37.trans (e_62.trans (e_87.trans (e_118.trans (e_145.trans e_153))))))) exz r_many)) (x_int (i := 1)))))) (am_one (m_op (fun _ => o_sub) off_same (m_callM (i := 0) rfl (am_pure (a_one (x_op o_add (x_var (i := 3) rfl (Rp.mono _ (e_5.trans (e_20.trans (e_37.trans (e_62.trans (e_87.trans (e_118.trans (e_145.trans e_153))))))) exz r_count)) (x_int (i := 2)))))) (m_pure (x_int (i := 1)))))) (Nat.le_of_ble_eq_true rfl)) alm_nil) (Nat.le_of_ble_eq_true rfl))))))) s_154 hc_159 (Rt.mono _ (e_20.trans (e_37.trans (e_62.trans (e_87.trans (e_118.trans (e_145.trans e_153)))))) exz hx_12) hm fun a_161 v_162 ws_168 I_163 C_169 H_164 e_165 s_166 hc_170 k_171 hx_172 r_167 hm => ?_
              have fr_173 := fr_pool fr_160 k_171
              exact ret_pool hm (e_5.trans (e_20.trans (e_37.trans (e_62.trans (e_87.trans (e_118.trans (e_145.trans (e_153.trans e_165)))))))) fr_173 s_166 hc_170 hx_172 r_167
            · refine s_ifj (E := E) (K := K) (σ := [some (.ref p0), some v_pairs, some v_many, some v_count, some v_2, some (.ref p_15), none]) (fun (z_182 : (Pl × (List (Int × Int)))) σ2 I_185 C_186 => ∃ w_184 : Option V, σ2 = [some (.ref p0), some v_pairs, some v_many, some v_count, some v_2, some (.ref p_15), w_184] ∧ (∃ ws_187 : List V, C_186 p0 = some (.lst ws_187) ∧ Rt.r pM z_182.1 ws_187 I_185 Z) ∧ (∃ vs_190 : List V, C_186 p_15 = some (.lst vs_190) ∧ vs_190.length ≤ sizeLine ∧ A2 (fun x u => Rp.r (pT (tc pI (t1 pI))) x u I_185 Z) z_182.2 vs_190) ∧ Ex (off C0 p0) C_186) (t_test (x_op o_gt (x_cb o_len (a_one (x_cell (i := 5) rfl hc_23 hl_25 (a2up (e_37.trans (e_62.trans (e_87.trans (e_118.trans e_149)))) hr_26)))) (x_int (i := 0)))) s_150 (fun _ _ h => h.elim) hm (fun N I_174 H_175 e_176 s_177 hm => ?_) (fun N I_178 H_179 e_180 s_181 hm => ?_) (fun z_182 σ2 I_272 C_273 H_274 e_275 s_276 ⟨w_184, hs_183, ⟨ws_187, hc_188, hx_189⟩, ⟨vs_190, hc_191, hl_192, hr_193⟩, fr_194⟩ hm => ?_)
              · refine qm_asg (E := E) (K := K) (σ := [some (.ref p0), some v_pairs, some v_many, some v_count, some v_2, some (.ref p_15), none]) (i := 6) (m_callM (i := 0) rfl (am_pure (a_one (x_cb o_len (a_one (x_cell (i := 5) rfl ((off_ne (Ne.symm ne_27)).trans hc_23) hl_25 (a2up (e_37.trans (e_62.trans (e_87.trans (e_118.trans (e_149.trans e_176))))) hr_26))))))) s_177 hc_29 (Rt.mono _ (e_20.trans (e_37.trans (e_62.trans (e_87.trans (e_118.trans (e_149.trans e_176)))))) exz hx_12) hm fun k_195 v_196 ws_202 I_197 C_203 H_198 e_199 s_200 hc_204 k_205 hx_206 r_201 hm => ?_
                have hc_207 := (k_205 _ (Ne.symm ne_27)).trans hc_23
                have fr_208 := fr_pool fr_30 k_205
                refine s_ifj (E := E) (K := K) (σ := [some (.ref p0), some v_pairs, some v_many, some v_count, some v_2, some (.ref p_15), some v_196]) (fun (z_217 : (Pl × (List (Int × Int)))) σ2 I_219 C_220 => σ2 = [some (.ref p0), some v_pairs, some v_many, some v_count, some v_2, some (.ref p_15), some v_196] ∧ (∃ ws_221 : List V, C_220 p0 = some (.lst ws_221) ∧ Rt.r pM z_217.1 ws_221 I_219 Z) ∧ (∃ vs_224 : List V, C_220 p_15 = some (.lst vs_224) ∧ vs_224.length ≤ sizeLine ∧ A2 (fun x u => Rp.r (pT (tc pI (t1 pI))) x u I_219 Z) z_217.2 vs_224) ∧ Ex (off C0 p0) C_220) (t_test (x_op o_eqI (x_var (i := 4) rfl (Rp.mono _ (e_20.trans (e_37.trans (e_62.trans (e_87.trans (e_118.trans (e_149.trans (e_176.trans e_199))))))) exz r_7)) (x_int (i := 5)))) s_200 (fun _ _ h => h.elim) hm (fun N I_209 H_210 e_211 s_212 hm => ?_) (fun N I_213 H_214 e_215 s_216 hm => ?_) (fun z_217 σ2 I_244 C_245 H_246 e_247 s_248 ⟨hs_218, ⟨ws_221, hc_222, hx_223⟩, ⟨vs_224, hc_225, hl_226, hr_227⟩, fr_228⟩ hm => ?_)
                · refine qm_setL (E := E) (K := K) (σ := [some (.ref p0), some v_pairs, some v_many, some v_count, some v_2, some (.ref p_15), some v_196]) (i := 5) rfl hc_207 (Ne.symm ne_27) hl_25 (a2up (e_37.trans (e_62.trans (e_87.trans (e_118.trans (e_149.trans (e_176.trans (e_199.trans e_211))))))) hr_26) (m_tup (am_cons off_same (m_pure (x_k (k := ((0 : Nat) : Int)) (o_pj pj0) (x_op o_ix (x_cell (i := 5) rfl ((off_ne (Ne.symm ne_27)).trans hc_207) hl_25 (a2up (e_37.trans (e_62.trans (e_87.trans (e_118.trans (e_149.trans (e_176.trans (e_199.trans e_211))))))) hr_26)) (x_var (i := 6) rfl (Rp.mono _ e_211 exz r_201))))) (am_one (m_op (fun _ => o_sub) off_same (m_callM (i := 0) rfl (am_pure (a_one (x_op o_add (x_var (i := 3) rfl (Rp.mono _ (e_5.trans (e_20.trans (e_37.trans (e_62.trans (e_87.trans (e_118.trans (e_149.trans (e_176.trans (e_199.trans e_211))))))))) exz r_count)) (x_int (i := 2)))))) (m_pure (x_int (i := 1)))))) (Nat.le_of_ble_eq_true rfl)) (x_var (i := 6) rfl (Rp.mono _ e_211 exz r_201)) s_212 hc_204 (Rt.mono _ e_211 exz hx_206) hm fun row_229 vs_230 ws_231 I_232 C_233 H_234 e_235 s_236 hc_237 hc_238 k_239 hl_240 hr_241 hx_242 hm => ?_
                  have fr_243 := fr_pool2 fr_208 hB_28 k_239
                  exact hm _ _ _ _ (e_211.trans e_235) s_236 ⟨rfl, ⟨_, hc_238, Rt.mono _ (Ex.refl _) exz hx_242⟩, ⟨_, hc_237, hl_240, a2up (Ex.refl _) hr_241⟩, fr_243⟩
                · exact hm _ _ _ _ e_215 s_216 ⟨rfl, ⟨_, hc_204, Rt.mono _ e_215 exz hx_206⟩, ⟨_, hc_207, hl_25, a2up (e_37.trans (e_62.trans (e_87.trans (e_118.trans (e_149.trans (e_176.trans (e_199.trans e_215))))))) hr_26⟩, fr_208⟩
                subst hs_218
                refine s_if (E := E) (K := K) (σ := [some (.ref p0), some v_pairs, some v_many, some v_count, some v_2, some (.ref p_15), some v_196]) (t_test (x_op o_eqI (x_var (i := 4) rfl (Rp.mono _ (e_20.trans (e_37.trans (e_62.trans (e_87.trans (e_118.trans (e_149.trans (e_176.trans (e_199.trans e_247)))))))) exz r_7)) (x_int (i := 6)))) s_248 (fun _ _ h => h.elim) hm (fun I_249 H_250 e_251 s_252 hm => ?_) (fun I_253 H_254 e_255 s_256 hm => ?_)
                · refine qm_setL (E := E) (K := K) (σ := [some (.ref p0), some v_pairs, some v_many, some v_count, some v_2, some (.ref p_15), some v_196]) (i := 5) rfl hc_225 (Ne.symm ne_27) hl_226 (a2up e_251 hr_227) (m_tup (am_cons off_same (m_op (fun _ => o_sub) off_same (m_callM (i := 0) rfl (am_pure (a_one (x_op o_add (x_var (i := 2) rfl (Rp.mono _ (e_5.trans (e_20.trans (e_37.trans (e_62.trans (e_87.trans (e_118.trans (e_149.trans (e_176.trans (e_199.trans (e_247.trans e_251)))))))))) exz r_many)) (x_int (i := 2)))))) (m_pure (x_int (i := 1)))) (am_one (m_pure (x_k (k := ((1 : Nat) : Int)) (o_pj (pjs pj1)) (x_op o_ix (x_cell (i := 5) rfl ((off_ne (Ne.symm ne_27)).trans hc_225) hl_226 (a2up e_251 hr_227)) (x_var (i := 6) rfl (Rp.mono _ (e_247.trans e_251) exz r_201))))))) (Nat.le_of_ble_eq_true rfl)) (x_var (i := 6) rfl (Rp.mono _ (e_247.trans e_251) exz r_201)) s_252 hc_222 (Rt.mono _ e_251 exz hx_223) hm fun row_257 vs_258 ws_259 I_260 C_261 H_262 e_263 s_264 hc_265 hc_266 k_267 hl_268 hr_269 hx_270 hm => ?_
                  have fr_271 := fr_pool2 fr_228 hB_28 k_267
                  exact hm _ _ _ _ (e_176.trans (e_199.trans (e_247.trans (e_251.trans e_263)))) s_264 ⟨some v_196, rfl, ⟨_, hc_266, Rt.mono _ (Ex.refl _) exz hx_270⟩, ⟨_, hc_265, hl_268, a2up (Ex.refl _) hr_269⟩, fr_271⟩
                · exact hm _ _ _ _ (e_176.trans (e_199.trans (e_247.trans e_255))) s_256 ⟨some v_196, rfl, ⟨_, hc_222, Rt.mono _ e_255 exz hx_223⟩, ⟨_, hc_225, hl_226, a2up e_255 hr_227⟩, fr_228⟩
              · exact hm _ _ _ _ e_180 s_181 ⟨none, rfl, ⟨_, hc_29, Rt.mono _ (e_20.trans (e_37.trans (e_62.trans (e_87.trans (e_118.trans (e_149.trans e_180)))))) exz hx_12⟩, ⟨_, hc_23, hl_25, a2up (e_37.trans (e_62.trans (e_87.trans (e_118.trans (e_149.trans e_180))))) hr_26⟩, fr_30⟩
              subst hs_183
              obtain ⟨I_277, C_278, e_279, s_280, h_281, k_282⟩ := freeze s_276 hc_191
              have r_284 := frz_list e_279 h_281 hl_192 hr_193
              have hc_285 := (k_282 _ ne_27).trans hc_188
              have fr_286 := fr_keep fr_194 hB_28 k_282
              refine q_ret (tz := tNext) (E := E) (K := K) (σ := [some (.ref p0), some v_pairs, some v_many, some v_count, some v_2, some (.ref p_15), w_184]) (x_var (i := 5) rfl (Rp.mono _ (Ex.refl _) exz r_284)) s_280 (fun _ _ h => h.elim) hm fun a_287 v_288 I_289 H_290 e_291 s_292 r_293 hm => ?_
              exact ret_pool hm (e_5.trans (e_20.trans (e_37.trans (e_62.trans (e_87.trans (e_118.trans (e_149.trans (e_275.trans (e_279.trans e_291))))))))) fr_286 s_292 hc_285 (Rt.mono _ (e_279.trans e_291) exz hx_189) r_293
def m__law_some_lists (ar_warnings : (List (Int × Int × Int))) (ar_events : (List (Int × Int))) (ar_lead : Int) (ar_slack : Int) (a_pool : Pl) : Res (((List Int) × (List Int)) × Pl) :=
  ((Res.ok ([] : List Int)).bind fun (firsts_1 : (List Int)) => ((Res.ok ([] : List Int)).bind fun (seconds_18 : (List Int)) => (((un rng1 (un rLen (Res.ok ar_warnings))).bind fun xs => loopN (fun (x_55 : Int) (z_37 : ((List Int) × (List Int) × Pl)) => (((un rng1 (un rLen (Res.ok ar_events))).bind fun xs => loopN (fun (x_84 : Int) (z_67 : ((List Int) × (List Int) × Pl)) => (ifR (andR (bin ninR (Res.ok x_55) (Res.ok z_67.1)) (andR (bin ninR (Res.ok x_84) (Res.ok z_67.2.1)) (un (fun (p : ((Int × Int × Int) × (Int × Int) × Int × Int)) => m__law_fits p.1 p.2.1 p.2.2.1 p.2.2.2) (pair (bin ix (Res.ok ar_warnings) (Res.ok x_55)) (pair (bin ix (Res.ok ar_events) (Res.ok x_84)) (pair (Res.ok ar_lead) (Res.ok ar_slack))))))) (ifMR (binM eqR (callM m__law_take (liftM (Res.ok (2 : Int)))) (liftM (Res.ok (0 : Int)))) z_67.2.2 (fun (y_112 : Pl) => (((Res.ok x_55).bind fun x => push z_67.1 x).bind fun (firsts_127 : (List Int)) => (Res.ok (firsts_127, z_67.2.1, y_112)))) (fun (y_118 : Pl) => (((Res.ok x_84).bind fun x => push z_67.2.1 x).bind fun (seconds_144 : (List Int)) => (Res.ok (z_67.1, seconds_144, y_118))))) (Res.ok (z_67.1, z_67.2.1, z_67.2.2)))) xs (z_37.1, z_37.2.1, z_37.2.2)).bind fun (z_163 : ((List Int) × (List Int) × Pl)) => (Res.ok (z_163.1, z_163.2.1, z_163.2.2)))) xs (firsts_1, seconds_18, a_pool)).bind fun (z_185 : ((List Int) × (List Int) × Pl)) => ((pair (un sortI (Res.ok z_185.1)) (un sortI (Res.ok z_185.2.1))).bind fun a_224 => Res.ok (a_224, z_185.2.2)))))
abbrev N__law_some_lists : List Str := ["pool", "warnings", "events", "lead", "slack", "firsts", "seconds", "w", "e"]
theorem sc__law_some_lists : FnScope N__law_some_lists ["pool", "warnings", "events", "lead", "slack"] (defScope s__law_some_lists) := ⟨rfl, rfl, rfl, by decide +kernel, rfl, by decide +kernel, by decide +kernel⟩
theorem bind__law_some_lists {K : PySem.W.Frag} {mg : Str → Option Value} {T : Tx K mg} : Binds K T.d__law_some_lists ["pool", "warnings", "events", "lead", "slack"] [] := FunD.bindsN T.F__law_some_lists fun _ _ _ _ _ _ us hl => match us, hl with | [_, _, _, _, _], _ => rfl
abbrev sp__law_some_lists (K : PySem.W.Frag) : Sp := spMo pM (tc (pV (pT (tc pI (tc pI (t1 pI))))) (tc (pV (pT (tc pI (t1 pI)))) (tc pI (t1 pI)))) (fun (p : ((List (Int × Int × Int)) × (List (Int × Int)) × Int × Int)) => m__law_some_lists p.1 p.2.1 p.2.2.1 p.2.2.2) (pT (tc (pL pI) (t1 (pL pI))))
theorem ok__law_some_lists (T : Tx K mg) : FnOk P w K mg base (L2.CX P w) 4 T.f__law_some_lists T.d__law_some_lists ["pool", "warnings", "events", "lead", "slack"] (sp__law_some_lists K) := by
  refine T.F__law_some_lists.ok sc__law_some_lists (fun vs H Q E h => ?_) (fun cdv A outer s H vs Q E hr h => ?_)
  · obtain ⟨I, C, p, ws, us, x, a, rfl, _, _, _, hr, _⟩ := h
    exact congrArg (· + 1) (Rt.len _ hr)
  · obtain ⟨I0, C0, p0, ws0, us, a_pool, ⟨ar_warnings, ar_events, ar_lead, ar_slack⟩, rfl, hs, hc0, hx1, ⟨v_warnings, us0, rfl, r_warnings, v_events, us1, rfl, r_events, v_lead, us2, rfl, r_lead, v_slack, rfl, r_slack⟩, hm⟩ := h
    have hx0 := It.im (C' := Z) hx1
    have hm : Post (m__law_some_lists ar_warnings ar_events ar_lead ar_slack a_pool) (PM p0 pM (pT (tc (pL pI) (t1 (pL pI)))) I0 C0 Q) XF := hm
    replace r_lead : Rp.r pI ar_lead v_lead I0 Z := Im.im r_lead
    replace r_slack : Rp.r pI ar_slack v_slack I0 Z := Im.im r_slack
    unfold m__law_some_lists at hm
    refine ⟨_, (pss_cons (ps_set (i := 5) sc__law_some_lists.nd rfl (Or.inl rfl) (pe_lst pa_nil)) (pss_cons (ps_set (i := 6) sc__law_some_lists.nd rfl (Or.inl rfl) (pe_lst pa_nil)) (pss_cons (ps_for (passes_of rfl) rfl (pi_range1 (by rfl) T.gb_range (pa_cons (pe_callB (r := rLen1 K) call_len_seq (by rfl) T.gb_len bt_len (pa_cons (pv 1) pa_nil)) pa_nil)) (pg_name (i := 7) sc__law_some_lists.nd rfl (Or.inl rfl)) (pss_cons (ps_for (passes_of rfl) rfl (pi_range1 (by rfl) T.gb_range (pa_cons (pe_callB (r := rLen1 K) call_len_seq (by rfl) T.gb_len bt_len (pa_cons (pv 2) pa_nil)) pa_nil)) (pg_name (i := 8) sc__law_some_lists.nd rfl (Or.inl rfl)) (pss_cons (ps_if (PW.pt (pw_and (pt_cmpR (r := rIn K true) op_notIn_seq (pv 7) (pv 5) rfl) (pw_and (pt_cmpR (r := rIn K true) op_notIn_seq (pv 8) (pv 6) rfl) (pw_and1 (pt_val (pe_call (ok__law_fits T) (hr.mono (by decide)) rfl T.g__law_fits T.F__law_fits.kp bind__law_fits .nil passE (pa_cons (pe_ix (r := rIxL K) ix_list (pv 1) (pv 7) (fun _ _ => rfl)) (pa_cons (pe_ix (r := rIxL K) ix_list (pv 2) (pv 8) (fun _ _ => rfl)) (pa_cons (pv 3) (pa_cons (pv 4) pa_nil)))))))))) (pss_cons (ps_if (pt_cmpR op_eq (pe_call (ok__law_take T) (hr.mono (by decide)) rfl T.g__law_take T.F__law_take.kp bind__law_take .nil passE (pa_cons (pv 0) (pa_cons pe_int pa_nil))) pe_int (nomark _)) (pss_cons (ps_expr (show PE _ _ (tBM K "list" rAppend _ _) from pe_bm PySem.F.plainAttrs_list PySem.F.slot_list_append PySem.F.type_list_append mt_append (pv 5) (pa_cons (pv 7) pa_nil))) pss_nil) (pss_cons (ps_expr (show PE _ _ (tBM K "list" rAppend _ _) from pe_bm PySem.F.plainAttrs_list PySem.F.slot_list_append PySem.F.type_list_append mt_append (pv 6) (pa_cons (pv 8) pa_nil))) pss_nil)) pss_nil) pss_nil) pss_nil)) pss_nil)) (pss_cons (ps_ret (pe_tup (pa_cons (pe_callB (r := rSortedI K) cr_sortedI (by rfl) T.gb_sorted bt_sorted (pa_cons (pv 5) pa_nil)) (pa_cons (pe_callB (r := rSortedI K) cr_sortedI (by rfl) T.gb_sorted bt_sorted (pa_cons (pv 6) pa_nil)) pa_nil)))) pss_nil)))), ?_⟩
    refine q_asgN (E := E) (K := K) (σ := [some (.ref p0), some v_warnings, some v_events, some v_lead, some v_slack, none, none, none, none]) (i := 5) (n_lst (R := pI) al_nil (by decide)) hs (fun _ _ h => h.elim) hm fun firsts_1 p_2 vs_3 I_4 C_5 H_6 e_7 hp_8 s_9 hc_10 k_11 hl_12 hr_13 hm => ?_
    have ne_14 := ne_new hc0 hp_8
    have hB_15 := Ex.free (off_ex (C := C0) (p := p0)) hp_8
    have hc_16 := (k_11 _ ne_14).trans hc0
    have fr_17 := fr_keep (off_ex (C := C0) (p := p0)) hB_15 k_11
    refine q_asgN (E := E) (K := K) (σ := [some (.ref p0), some v_warnings, some v_events, some v_lead, some v_slack, some (.ref p_2), none, none, none]) (i := 6) (n_lst (R := pI) al_nil (by decide)) s_9 (fun _ _ h => h.elim) hm fun seconds_18 p_19 vs_20 I_21 C_22 H_23 e_24 hp_25 s_26 hc_27 k_28 hl_29 hr_30 hm => ?_
    have ne_31 := ne_new hc_16 hp_25
    have ne_32 := ne_new hc_10 hp_25
    have hB_33 := Ex.free fr_17 hp_25
    have hc_34 := (k_28 _ ne_31).trans hc_16
    have hc_35 := (k_28 _ ne_32).trans hc_10
    have fr_36 := fr_keep fr_17 hB_33 k_28
    refine s_forN (E := E) (K := K) (σ := [some (.ref p0), some v_warnings, some v_events, some v_lead, some v_slack, some (.ref p_2), some (.ref p_19), none, none]) (fun (z_37 : ((List Int) × (List Int) × Pl)) σ2 I_41 C_42 => ∃ w_39 : Option V, ∃ w_40 : Option V, σ2 = [some (.ref p0), some v_warnings, some v_events, some v_lead, some v_slack, some (.ref p_2), some (.ref p_19), w_39, w_40] ∧ (∃ vs_43 : List V, C_42 p_2 = some (.lst vs_43) ∧ vs_43.length ≤ sizeLine ∧ A2 (fun x u => Rp.r pI x u I_41 Z) z_37.1 vs_43) ∧ (∃ vs_47 : List V, C_42 p_19 = some (.lst vs_47) ∧ vs_47.length ≤ sizeLine ∧ A2 (fun x u => Rp.r pI x u I_41 Z) z_37.2.1 vs_47) ∧ (∃ ws_51 : List V, C_42 p0 = some (.lst ws_51) ∧ Rt.r pM z_37.2.2 ws_51 I_41 Z) ∧ Ex (off C0 p0) C_42) (i_rng1 (a_one (x_cb o_len (a_one (x_var (i := 1) rfl (Rp.mono _ (e_7.trans e_24) fr_36 r_warnings)))))) s_26 (fun _ _ h => h.elim) hm (fun _ e_63 => ⟨none, none, rfl, ⟨_, hc_35, hl_12, a2up (Ex.trans e_24 e_63) hr_13⟩, ⟨_, hc_27, hl_29, a2up (Ex.trans (Ex.refl _) e_63) hr_30⟩, ⟨_, hc_34, Rt.mono _ (Ex.trans (e_7.trans e_24) e_63) exz hx0⟩, fr_36⟩) (fun _ _ _ _ _ => trivial) (fun _ _ _ _ _ e ⟨w_39, w_40, hs_38, ⟨vs_43, hc_44, hl_45, hr_46⟩, ⟨vs_47, hc_48, hl_49, hr_50⟩, ⟨ws_51, hc_52, hx_53⟩, fr_54⟩ => ⟨w_39, w_40, hs_38, ⟨vs_43, hc_44, hl_45, a2up e hr_46⟩, ⟨vs_47, hc_48, hl_49, a2up e hr_50⟩, ⟨ws_51, hc_52, Rt.mono _ e exz hx_53⟩, fr_54⟩) (fun N x_55 v_56 z_37 σ2 I_57 C_58 H_59 e_60 s_61 ⟨w_39, w_40, hs_38, ⟨vs_43, hc_44, hl_45, hr_46⟩, ⟨vs_47, hc_48, hl_49, hr_50⟩, ⟨ws_51, hc_52, hx_53⟩, fr_54⟩ r_62 hm => ?_) (fun z_185 σ2 I_180 C_181 H_182 e_183 s_184 ⟨w_187, w_188, hs_186, ⟨vs_191, hc_192, hl_193, hr_194⟩, ⟨vs_195, hc_196, hl_197, hr_198⟩, ⟨ws_199, hc_200, hx_201⟩, fr_202⟩ hm => ?_)
    · subst hs_38
      refine g1 (K := K) x_55 v_56 I_57 C_58 H_59 _ s_61 r_62 fun σ2 ⟨v_64, hs_66, r_65⟩ => ?_
      subst hs_66
      refine s_forN (E := E) (K := K) (σ := [some (.ref p0), some v_warnings, some v_events, some v_lead, some v_slack, some (.ref p_2), some (.ref p_19), some v_64, w_40]) (fun (z_67 : ((List Int) × (List Int) × Pl)) σ2 I_70 C_71 => ∃ w_69 : Option V, σ2 = [some (.ref p0), some v_warnings, some v_events, some v_lead, some v_slack, some (.ref p_2), some (.ref p_19), some v_64, w_69] ∧ (∃ vs_72 : List V, C_71 p_2 = some (.lst vs_72) ∧ vs_72.length ≤ sizeLine ∧ A2 (fun x u => Rp.r pI x u I_70 Z) z_67.1 vs_72) ∧ (∃ vs_76 : List V, C_71 p_19 = some (.lst vs_76) ∧ vs_76.length ≤ sizeLine ∧ A2 (fun x u => Rp.r pI x u I_70 Z) z_67.2.1 vs_76) ∧ (∃ ws_80 : List V, C_71 p0 = some (.lst ws_80) ∧ Rt.r pM z_67.2.2 ws_80 I_70 Z) ∧ Ex (off C0 p0) C_71) (i_rng1 (a_one (x_cb o_len (a_one (x_var (i := 2) rfl (Rp.mono _ (e_7.trans (e_24.trans e_60)) fr_54 r_events)))))) s_61 (fun _ _ h => h.elim) hm (fun _ e_92 => ⟨w_40, rfl, ⟨_, hc_44, hl_45, a2up (Ex.trans (Ex.refl _) e_92) hr_46⟩, ⟨_, hc_48, hl_49, a2up (Ex.trans (Ex.refl _) e_92) hr_50⟩, ⟨_, hc_52, Rt.mono _ (Ex.trans (Ex.refl _) e_92) exz hx_53⟩, fr_54⟩) (fun _ _ _ _ _ => trivial) (fun _ _ _ _ _ e ⟨w_69, hs_68, ⟨vs_72, hc_73, hl_74, hr_75⟩, ⟨vs_76, hc_77, hl_78, hr_79⟩, ⟨ws_80, hc_81, hx_82⟩, fr_83⟩ => ⟨w_69, hs_68, ⟨vs_72, hc_73, hl_74, a2up e hr_75⟩, ⟨vs_76, hc_77, hl_78, a2up e hr_79⟩, ⟨ws_80, hc_81, Rt.mono _ e exz hx_82⟩, fr_83⟩) (fun N x_84 v_85 z_67 σ2 I_86 C_87 H_88 e_89 s_90 ⟨w_69, hs_68, ⟨vs_72, hc_73, hl_74, hr_75⟩, ⟨vs_76, hc_77, hl_78, hr_79⟩, ⟨ws_80, hc_81, hx_82⟩, fr_83⟩ r_91 hm => ?_) (fun z_163 σ2 I_158 C_159 H_160 e_161 s_162 ⟨w_165, hs_164, ⟨vs_168, hc_169, hl_170, hr_171⟩, ⟨vs_172, hc_173, hl_174, hr_175⟩, ⟨ws_176, hc_177, hx_178⟩, fr_179⟩ hm => ?_)
      · subst hs_68
        refine g1 (K := K) x_84 v_85 I_86 C_87 H_88 _ s_90 r_91 fun σ2 ⟨v_93, hs_95, r_94⟩ => ?_
        subst hs_95
        refine s_if (E := E) (K := K) (σ := [some (.ref p0), some v_warnings, some v_events, some v_lead, some v_slack, some (.ref p_2), some (.ref p_19), some v_64, some v_93]) (t_and (t_test (x_op (o_nin fl_int) (x_var (i := 7) rfl (Rp.mono _ e_89 exz r_65)) (x_cell (i := 5) rfl hc_73 hl_74 (a2up (Ex.refl _) hr_75)))) (t_and (t_test (x_op (o_nin fl_int) (x_var (i := 8) rfl (Rp.mono _ (Ex.refl _) exz r_94)) (x_cell (i := 6) rfl hc_77 hl_78 (a2up (Ex.refl _) hr_79)))) (t_B (x_call (a_cons (x_op o_ix (x_var (i := 1) rfl (Rp.mono _ (e_7.trans (e_24.trans (e_60.trans e_89))) fr_83 r_warnings)) (x_var (i := 7) rfl (Rp.mono _ e_89 exz r_65))) (a_cons (x_op o_ix (x_var (i := 2) rfl (Rp.mono _ (e_7.trans (e_24.trans (e_60.trans e_89))) fr_83 r_events)) (x_var (i := 8) rfl (Rp.mono _ (Ex.refl _) exz r_94))) (a_cons (x_var (i := 3) rfl (Rp.mono _ (e_7.trans (e_24.trans (e_60.trans e_89))) exz r_lead)) (a_one (x_var (i := 4) rfl (Rp.mono _ (e_7.trans (e_24.trans (e_60.trans e_89))) exz r_slack)))))))))) s_90 (fun _ _ h => h.elim) hm (fun I_96 H_97 e_98 s_99 hm => ?_) (fun I_100 H_101 e_102 s_103 hm => ?_)
        · refine qm_if (E := E) (K := K) (σ := [some (.ref p0), some v_warnings, some v_events, some v_lead, some v_slack, some (.ref p_2), some (.ref p_19), some v_64, some v_93]) (tm_test (m_op (fun _ => o_eqI) off_same (m_callM (i := 0) rfl (am_pure (a_one (x_int (i := 2))))) (m_pure (x_int (i := 0))))) s_99 hc_81 (Rt.mono _ e_98 exz hx_82) hm (fun y_112 ws_113 I_104 C_114 H_105 e_106 s_107 hc_115 k_116 hx_117 hm => ?_) (fun y_118 ws_119 I_108 C_120 H_109 e_110 s_111 hc_121 k_122 hx_123 hm => ?_)
          · have hc_124 := (k_116 _ (Ne.symm ne_14)).trans hc_73
            have hc_125 := (k_116 _ (Ne.symm ne_31)).trans hc_77
            have fr_126 := fr_pool fr_83 k_116
            refine q_app (E := E) (K := K) (σ := [some (.ref p0), some v_warnings, some v_events, some v_lead, some v_slack, some (.ref p_2), some (.ref p_19), some v_64, some v_93]) (i := 5) rfl hc_124 (a2up (e_98.trans e_106) hr_75) (x_var (i := 7) rfl (Rp.mono _ (e_89.trans (e_98.trans e_106)) exz r_65)) s_107 (fun _ _ h => h.elim) hm fun firsts_127 vs_128 I_129 C_130 H_131 e_132 s_133 hc_134 k_135 hl_136 hr_137 hm => ?_
            have hc_138 := (k_135 _ ne_14).trans hc_115
            have hc_139 := (k_135 _ (Ne.symm ne_32)).trans hc_125
            have fr_140 := fr_keep fr_126 hB_15 k_135
            exact hm _ _ _ _ (e_98.trans (e_106.trans e_132)) s_133 ⟨some v_93, rfl, ⟨_, hc_134, hl_136, a2up (Ex.refl _) hr_137⟩, ⟨_, hc_139, hl_78, a2up (e_98.trans (e_106.trans e_132)) hr_79⟩, ⟨_, hc_138, Rt.mono _ e_132 exz hx_117⟩, fr_140⟩
          · have hc_141 := (k_122 _ (Ne.symm ne_14)).trans hc_73
            have hc_142 := (k_122 _ (Ne.symm ne_31)).trans hc_77
            have fr_143 := fr_pool fr_83 k_122
            refine q_app (E := E) (K := K) (σ := [some (.ref p0), some v_warnings, some v_events, some v_lead, some v_slack, some (.ref p_2), some (.ref p_19), some v_64, some v_93]) (i := 6) rfl hc_142 (a2up (e_98.trans e_110) hr_79) (x_var (i := 8) rfl (Rp.mono _ (e_98.trans e_110) exz r_94)) s_111 (fun _ _ h => h.elim) hm fun seconds_144 vs_145 I_146 C_147 H_148 e_149 s_150 hc_151 k_152 hl_153 hr_154 hm => ?_
            have hc_155 := (k_152 _ ne_31).trans hc_121
            have hc_156 := (k_152 _ ne_32).trans hc_141
            have fr_157 := fr_keep fr_143 hB_33 k_152
            exact hm _ _ _ _ (e_98.trans (e_110.trans e_149)) s_150 ⟨some v_93, rfl, ⟨_, hc_156, hl_74, a2up (e_98.trans (e_110.trans e_149)) hr_75⟩, ⟨_, hc_151, hl_153, a2up (Ex.refl _) hr_154⟩, ⟨_, hc_155, Rt.mono _ e_149 exz hx_123⟩, fr_157⟩
        · exact hm _ _ _ _ e_102 s_103 ⟨some v_93, rfl, ⟨_, hc_73, hl_74, a2up e_102 hr_75⟩, ⟨_, hc_77, hl_78, a2up e_102 hr_79⟩, ⟨_, hc_81, Rt.mono _ e_102 exz hx_82⟩, fr_83⟩
      subst hs_164
      exact hm _ _ _ _ e_161 s_162 ⟨some v_64, w_165, rfl, ⟨_, hc_169, hl_170, a2up (Ex.refl _) hr_171⟩, ⟨_, hc_173, hl_174, a2up (Ex.refl _) hr_175⟩, ⟨_, hc_177, Rt.mono _ (Ex.refl _) exz hx_178⟩, fr_179⟩
    subst hs_186
    obtain ⟨I_203, C_204, e_205, s_206, h_207, k_208⟩ := freeze s_184 hc_192
    have r_210 := frz_list e_205 h_207 hl_193 hr_194
    have hc_211 := (k_208 _ ne_14).trans hc_200
    have hc_212 := (k_208 _ (Ne.symm ne_32)).trans hc_196
    have fr_213 := fr_keep fr_202 hB_15 k_208
    obtain ⟨I_214, C_215, e_216, s_217, h_218, k_219⟩ := freeze s_206 hc_212
    have r_221 := frz_list (e_205.trans e_216) h_218 hl_197 hr_198
    have hc_222 := (k_219 _ ne_31).trans hc_211
    have fr_223 := fr_keep fr_213 hB_33 k_219
    refine q_ret (tz := tNext) (E := E) (K := K) (σ := [some (.ref p0), some v_warnings, some v_events, some v_lead, some v_slack, some (.ref p_2), some (.ref p_19), w_187, w_188]) (x_tup (a_cons (x_own (n_cb n_sortI (a_one (x_v (x_var (i := 5) rfl (Rp.mono _ e_216 exz r_210)))))) (a_one (x_own (n_cb n_sortI (a_one (x_v (x_var (i := 6) rfl (Rp.mono _ (Ex.refl _) exz r_221)))))))) (Nat.le_of_ble_eq_true rfl)) s_217 (fun _ _ h => h.elim) hm fun a_224 v_225 I_226 H_227 e_228 s_229 r_230 hm => ?_
    exact ret_pool hm (e_7.trans (e_24.trans (e_183.trans (e_205.trans (e_216.trans e_228))))) fr_223 s_229 hc_222 (Rt.mono _ (e_205.trans (e_216.trans e_228)) exz hx_201) r_230
def m__law_spoilt_lists (ar_lists : ((List Int) × (List Int))) (ar_sizes : (Int × Int)) (a_pool : Pl) : Res (((List Int) × (List Int)) × Pl) :=
  (((callM m__law_take (liftM (Res.ok (2 : Int)))) a_pool).bind fun (side_1 : Int × Pl) => ((un idR (bin ix (un (fun x => Res.ok ((fun p : ((List Int) × (List Int)) => [p.1, p.2]) x)) (Res.ok ar_lists)) (Res.ok side_1.1))).bind fun (row_14 : (List Int)) => (((callM m__law_take (liftM (Res.ok (6 : Int)))) side_1.2).bind fun (kind_21 : Int × Pl) => ((ifR (andR (bin eqR (Res.ok kind_21.1) (Res.ok (0 : Int))) (bin rGt (un rLen (Res.ok row_14)) (Res.ok (0 : Int)))) (((callM m__law_take (liftM (un rLen (Res.ok row_14)))) kind_21.2).bind fun (k_53 : Int × Pl) => ((bin rCatR (slR (Res.ok row_14) (Res.ok none) (someR (Res.ok k_53.1))) (slR (Res.ok row_14) (someR (bin rAdd (Res.ok k_53.1) (Res.ok (1 : Int)))) (Res.ok none))).bind fun (row_66 : (List Int)) => (Res.ok (k_53.2, row_66)))) (Res.ok (kind_21.2, row_14))).bind fun (z_42 : (Pl × (List Int))) => ((ifR (bin eqR (Res.ok kind_21.1) (Res.ok (1 : Int))) ((un revR (Res.ok z_42.2)).bind fun (row_94 : (List Int)) => (Res.ok row_94)) (Res.ok z_42.2)).bind fun (z_86 : (List Int)) => ((ifR (bin eqR (Res.ok kind_21.1) (Res.ok (2 : Int))) ((bin rCatR (Res.ok z_86) (slR (Res.ok z_86) (someR (un rNeg (Res.ok (1 : Int)))) (Res.ok none))).bind fun (row_122 : (List Int)) => (Res.ok row_122)) (Res.ok z_86)).bind fun (z_114 : (List Int)) => ((ifR (bin eqR (Res.ok kind_21.1) (Res.ok (3 : Int))) ((bin rCatR (Res.ok z_114) (consR (bin ix (un (fun x => Res.ok ((fun p : (Int × Int) => [p.1, p.2]) x)) (Res.ok ar_sizes)) (Res.ok side_1.1)) (Res.ok []))).bind fun (row_150 : (List Int)) => (Res.ok row_150)) (Res.ok z_114)).bind fun (z_142 : (List Int)) => ((ifR (bin eqR (Res.ok kind_21.1) (Res.ok (4 : Int))) ((bin rCatR (consR (un rNeg (Res.ok (1 : Int))) (Res.ok [])) (Res.ok z_142)).bind fun (row_178 : (List Int)) => (Res.ok row_178)) (Res.ok z_142)).bind fun (z_170 : (List Int)) => ((ifR (bin eqR (Res.ok kind_21.1) (Res.ok (5 : Int))) (((unM sortI (binM rCatR (liftM (Res.ok z_170)) (consM (callM m__law_take (liftM (bin rAdd (bin ix (un (fun x => Res.ok ((fun p : (Int × Int) => [p.1, p.2]) x)) (Res.ok ar_sizes)) (Res.ok side_1.1)) (Res.ok (1 : Int))))) (liftM (Res.ok []))))) z_42.1).bind fun (row_208 : (List Int) × Pl) => (Res.ok (row_208.2, row_208.1))) (Res.ok (z_42.1, z_170))).bind fun (z_198 : (Pl × (List Int))) => (ifR (bin eqR (Res.ok side_1.1) (Res.ok (0 : Int))) ((pair (Res.ok z_198.2) (un (fun p => Res.ok p.2) (Res.ok ar_lists))).bind fun a_234 => Res.ok (a_234, z_198.1)) ((pair (un (fun p => Res.ok p.1) (Res.ok ar_lists)) (Res.ok z_198.2)).bind fun a_241 => Res.ok (a_241, z_198.1))))))))))))
abbrev N__law_spoilt_lists : List Str := ["pool", "lists", "sizes", "side", "row", "kind", "k"]
theorem sc__law_spoilt_lists : FnScope N__law_spoilt_lists ["pool", "lists", "sizes"] (defScope s__law_spoilt_lists) := ⟨rfl, rfl, rfl, by decide +kernel, rfl, by decide +kernel, by decide +kernel⟩
theorem bind__law_spoilt_lists {K : PySem.W.Frag} {mg : Str → Option Value} {T : Tx K mg} : Binds K T.d__law_spoilt_lists ["pool", "lists", "sizes"] [] := FunD.bindsN T.F__law_spoilt_lists fun _ _ _ _ _ _ us hl => match us, hl with | [_, _, _], _ => rfl
abbrev sp__law_spoilt_lists (K : PySem.W.Frag) : Sp := spM pM (tc (pT (tc (pL pI) (t1 (pL pI)))) (t1 (pT (tc pI (t1 pI))))) (fun (p : (((List Int) × (List Int)) × (Int × Int))) => m__law_spoilt_lists p.1 p.2) (pT (tc (pL pI) (t1 (pL pI))))
theorem ok__law_spoilt_lists (T : Tx K mg) : FnOk P w K mg base (L2.CX P w) 4 T.f__law_spoilt_lists T.d__law_spoilt_lists ["pool", "lists", "sizes"] (sp__law_spoilt_lists K) := by
  refine T.F__law_spoilt_lists.ok sc__law_spoilt_lists (fun vs H Q E h => ?_) (fun cdv A outer s H vs Q E hr h => ?_)
  · obtain ⟨I, C, p, ws, us, x, a, rfl, _, _, _, hr, _⟩ := h
    exact congrArg (· + 1) (Rt.len _ hr)
  · obtain ⟨I0, C0, p0, ws0, us, a_pool, ⟨ar_lists, ar_sizes⟩, rfl, hs, hc0, hx1, ⟨v_lists, us0, rfl, r_lists, v_sizes, rfl, r_sizes⟩, hm⟩ := h
    have hx0 := It.im (C' := Z) hx1
    have hm : Post (m__law_spoilt_lists ar_lists ar_sizes a_pool) (PM p0 pM (pT (tc (pL pI) (t1 (pL pI)))) I0 C0 Q) XF := hm
    replace r_lists : Rp.r (pT (tc (pL pI) (t1 (pL pI)))) ar_lists v_lists I0 Z := Im.im r_lists
    replace r_sizes : Rp.r (pT (tc pI (t1 pI))) ar_sizes v_sizes I0 Z := Im.im r_sizes
    unfold m__law_spoilt_lists at hm
    refine ⟨_, (pss_cons (ps_set (i := 3) sc__law_spoilt_lists.nd rfl (Or.inl rfl) (pe_call (ok__law_take T) (hr.mono (by decide)) rfl T.g__law_take T.F__law_take.kp bind__law_take .nil passE (pa_cons (pv 0) (pa_cons pe_int pa_nil)))) (pss_cons (ps_set (i := 4) sc__law_spoilt_lists.nd rfl (Or.inl rfl) (pe_callTy (r := rList1 K) call_list_of (by rfl) T.gb_list bt_list (pa_cons (pe_ix (r := rIxT K) ix_tup (pv 1) (pv 3) (fun _ _ => rfl)) pa_nil))) (pss_cons (ps_set (i := 5) sc__law_spoilt_lists.nd rfl (Or.inl rfl) (pe_call (ok__law_take T) (hr.mono (by decide)) rfl T.g__law_take T.F__law_take.kp bind__law_take .nil passE (pa_cons (pv 0) (pa_cons pe_int pa_nil)))) (Evl.pss_cut (ps_if (PW.pt (pw_and (pt_cmpR op_eq (pv 5) pe_int (nomark _)) (pw_and1 (pt_cmpR op_gt (pe_callB (r := rLen1 K) call_len_seq (by rfl) T.gb_len bt_len (pa_cons (pv 4) pa_nil)) pe_int (nomark _))))) (pss_cons (ps_set (i := 6) sc__law_spoilt_lists.nd rfl (Or.inl rfl) (pe_call (ok__law_take T) (hr.mono (by decide)) rfl T.g__law_take T.F__law_take.kp bind__law_take .nil passE (pa_cons (pv 0) (pa_cons (pe_callB (r := rLen1 K) call_len_seq (by rfl) T.gb_len bt_len (pa_cons (pv 4) pa_nil)) pa_nil)))) (pss_cons (ps_set (i := 4) sc__law_spoilt_lists.nd rfl (Or.inl rfl) (pe_op op_cat (pe_slice (r := rSlL K) sl_list (pv 4) po_none (po_some (pv 6))) (pe_slice (r := rSlL K) sl_list (pv 4) (po_some (pe_op op_add (pv 6) pe_int)) po_none))) pss_nil)) pss_nil) (Evl.pss_cut (ps_if (pt_cmpR op_eq (pv 5) pe_int (nomark _)) (pss_cons (ps_set (i := 4) sc__law_spoilt_lists.nd rfl (Or.inl rfl) (show PE _ _ (tRevL K _) from pe_revL (pv 4))) pss_nil) pss_nil) (Evl.pss_cut (ps_if (pt_cmpR op_eq (pv 5) pe_int (nomark _)) (pss_cons (ps_set (i := 4) sc__law_spoilt_lists.nd rfl (Or.inl rfl) (pe_op op_cat (pv 4) (pe_slice (r := rSlL K) sl_list (pv 4) (po_some (pe_un un_neg pe_int)) po_none))) pss_nil) pss_nil) (Evl.pss_cut (ps_if (pt_cmpR op_eq (pv 5) pe_int (nomark _)) (pss_cons (ps_set (i := 4) sc__law_spoilt_lists.nd rfl (Or.inl rfl) (pe_op op_cat (pv 4) (pe_lst (pa_cons (pe_ix (r := rIxT K) ix_tup (pv 2) (pv 3) (fun _ _ => rfl)) pa_nil)))) pss_nil) pss_nil) (Evl.pss_cut (ps_if (pt_cmpR op_eq (pv 5) pe_int (nomark _)) (pss_cons (ps_set (i := 4) sc__law_spoilt_lists.nd rfl (Or.inl rfl) (pe_op op_cat (pe_lst (pa_cons (pe_un un_neg pe_int) pa_nil)) (pv 4))) pss_nil) pss_nil) (Evl.pss_cut (ps_if (pt_cmpR op_eq (pv 5) pe_int (nomark _)) (pss_cons (ps_set (i := 4) sc__law_spoilt_lists.nd rfl (Or.inl rfl) (pe_callB (r := rSortedI K) cr_sortedI (by rfl) T.gb_sorted bt_sorted (pa_cons (pe_op op_cat (pv 4) (pe_lst (pa_cons (pe_call (ok__law_take T) (hr.mono (by decide)) rfl T.g__law_take T.F__law_take.kp bind__law_take .nil passE (pa_cons (pv 0) (pa_cons (pe_op op_add (pe_ix (r := rIxT K) ix_tup (pv 2) (pv 3) (fun _ _ => rfl)) pe_int) pa_nil))) pa_nil))) pa_nil))) pss_nil) pss_nil) (pss_cons (ps_if (pt_cmpR op_eq (pv 3) pe_int (nomark _)) (pss_cons (ps_ret (pe_tup (pa_cons (pv 4) (pa_cons (pe_ix (r := rIxT K) ix_tup (pv 1) pe_int (fun _ _ => rfl)) pa_nil)))) pss_nil) pss_nil) (pss_cons (ps_ret (pe_tup (pa_cons (pe_ix (r := rIxT K) ix_tup (pv 1) pe_int (fun _ _ => rfl)) (pa_cons (pv 4) pa_nil)))) pss_nil))))))))))), ?_⟩
    refine qm_asg (E := E) (K := K) (σ := [some (.ref p0), some v_lists, some v_sizes, none, none, none, none]) (i := 3) (m_callM (i := 0) rfl (am_pure (a_one (x_int (i := 2))))) hs hc0 (Rt.mono _ (Ex.refl _) exz hx0) hm fun side_1 v_2 ws_8 I_3 C_9 H_4 e_5 s_6 hc_10 k_11 hx_12 r_7 hm => ?_
    have fr_13 := fr_pool (off_ex (C := C0) (p := p0)) k_11
    refine q_asg (E := E) (K := K) (σ := [some (.ref p0), some v_lists, some v_sizes, some v_2, none, none, none]) (i := 4) (x_cb o_list (a_one (x_v (x_op o_ixQ (x_see see_t2 (x_var (i := 1) rfl (Rp.mono _ e_5 exz r_lists))) (x_var (i := 3) rfl (Rp.mono _ (Ex.refl _) exz r_7)))))) s_6 (fun _ _ h => h.elim) hm fun row_14 v_15 I_16 H_17 e_18 s_19 r_20 hm => ?_
    refine qm_asg (E := E) (K := K) (σ := [some (.ref p0), some v_lists, some v_sizes, some v_2, some v_15, none, none]) (i := 5) (m_callM (i := 0) rfl (am_pure (a_one (x_int (i := 6))))) s_19 hc_10 (Rt.mono _ e_18 exz hx_12) hm fun kind_21 v_22 ws_28 I_23 C_29 H_24 e_25 s_26 hc_30 k_31 hx_32 r_27 hm => ?_
    have fr_33 := fr_pool fr_13 k_31
    refine s_ifj (E := E) (K := K) (σ := [some (.ref p0), some v_lists, some v_sizes, some v_2, some v_15, some v_22, none]) (fun (z_42 : (Pl × (List Int))) σ2 I_45 C_46 => ∃ w_44 : Option V, ∃ v_50 : V, σ2 = [some (.ref p0), some v_lists, some v_sizes, some v_2, some v_50, some v_22, w_44] ∧ (∃ ws_47 : List V, C_46 p0 = some (.lst ws_47) ∧ Rt.r pM z_42.1 ws_47 I_45 Z) ∧ Rp.r (pL pI) z_42.2 v_50 I_45 Z ∧ Ex (off C0 p0) C_46) (t_and (t_test (x_op o_eqI (x_var (i := 5) rfl (Rp.mono _ (Ex.refl _) exz r_27)) (x_int (i := 0)))) (t_test (x_op o_gt (x_cb o_len (a_one (x_v (x_var (i := 4) rfl (Rp.mono _ e_25 exz r_20))))) (x_int (i := 0))))) s_26 (fun _ _ h => h.elim) hm (fun N I_34 H_35 e_36 s_37 hm => ?_) (fun N I_38 H_39 e_40 s_41 hm => ?_) (fun z_42 σ2 I_73 C_74 H_75 e_76 s_77 ⟨w_44, v_50, hs_43, ⟨ws_47, hc_48, hx_49⟩, r_51, fr_52⟩ hm => ?_)
    · refine qm_asg (E := E) (K := K) (σ := [some (.ref p0), some v_lists, some v_sizes, some v_2, some v_15, some v_22, none]) (i := 6) (m_callM (i := 0) rfl (am_pure (a_one (x_cb o_len (a_one (x_v (x_var (i := 4) rfl (Rp.mono _ (e_25.trans e_36) exz r_20)))))))) s_37 hc_30 (Rt.mono _ e_36 exz hx_32) hm fun k_53 v_54 ws_60 I_55 C_61 H_56 e_57 s_58 hc_62 k_63 hx_64 r_59 hm => ?_
      have fr_65 := fr_pool fr_33 k_63
      refine q_asg (E := E) (K := K) (σ := [some (.ref p0), some v_lists, some v_sizes, some v_2, some v_15, some v_22, some v_54]) (i := 4) (x_op o_cat (x_v (x_sl (x_v (x_var (i := 4) rfl (Rp.mono _ (e_25.trans (e_36.trans e_57)) exz r_20))) p_none (p_some (x_var (i := 6) rfl (Rp.mono _ (Ex.refl _) exz r_59))))) (x_v (x_sl (x_v (x_var (i := 4) rfl (Rp.mono _ (e_25.trans (e_36.trans e_57)) exz r_20))) (p_some (x_op o_add (x_var (i := 6) rfl (Rp.mono _ (Ex.refl _) exz r_59)) (x_int (i := 1)))) p_none))) s_58 (fun _ _ h => h.elim) hm fun row_66 v_67 I_68 H_69 e_70 s_71 r_72 hm => ?_
      exact hm _ _ _ _ (e_36.trans (e_57.trans e_70)) s_71 ⟨some v_54, v_67, rfl, ⟨_, hc_62, Rt.mono _ e_70 exz hx_64⟩, Rp.mono _ (Ex.refl _) exz r_72, fr_65⟩
    · exact hm _ _ _ _ e_40 s_41 ⟨none, v_15, rfl, ⟨_, hc_30, Rt.mono _ e_40 exz hx_32⟩, Rp.mono _ (e_25.trans e_40) exz r_20, fr_33⟩
    subst hs_43
    refine s_ifj (E := E) (K := K) (σ := [some (.ref p0), some v_lists, some v_sizes, some v_2, some v_50, some v_22, w_44]) (fun (z_86 : (List Int)) σ2 I_88 C_89 => ∃ v_90 : V, σ2 = [some (.ref p0), some v_lists, some v_sizes, some v_2, some v_90, some v_22, w_44] ∧ Rp.r (pL pI) z_86 v_90 I_88 Z ∧ C_89 p0 = some (.lst ws_47) ∧ Ex (off C0 p0) C_89) (t_test (x_op o_eqI (x_var (i := 5) rfl (Rp.mono _ e_76 exz r_27)) (x_int (i := 1)))) s_77 (fun _ _ h => h.elim) hm (fun N I_78 H_79 e_80 s_81 hm => ?_) (fun N I_82 H_83 e_84 s_85 hm => ?_) (fun z_86 σ2 I_101 C_102 H_103 e_104 s_105 ⟨v_90, hs_87, r_91, hc_92, fr_93⟩ hm => ?_)
    · refine q_asg (E := E) (K := K) (σ := [some (.ref p0), some v_lists, some v_sizes, some v_2, some v_50, some v_22, w_44]) (i := 4) (x_rev (x_v (x_var (i := 4) rfl (Rp.mono _ e_80 exz r_51)))) s_81 (fun _ _ h => h.elim) hm fun row_94 v_95 I_96 H_97 e_98 s_99 r_100 hm => ?_
      exact hm _ _ _ _ (e_80.trans e_98) s_99 ⟨v_95, rfl, Rp.mono _ (Ex.refl _) exz r_100, hc_48, fr_52⟩
    · exact hm _ _ _ _ e_84 s_85 ⟨v_50, rfl, Rp.mono _ e_84 exz r_51, hc_48, fr_52⟩
    subst hs_87
    refine s_ifj (E := E) (K := K) (σ := [some (.ref p0), some v_lists, some v_sizes, some v_2, some v_90, some v_22, w_44]) (fun (z_114 : (List Int)) σ2 I_116 C_117 => ∃ v_118 : V, σ2 = [some (.ref p0), some v_lists, some v_sizes, some v_2, some v_118, some v_22, w_44] ∧ Rp.r (pL pI) z_114 v_118 I_116 Z ∧ C_117 p0 = some (.lst ws_47) ∧ Ex (off C0 p0) C_117) (t_test (x_op o_eqI (x_var (i := 5) rfl (Rp.mono _ (e_76.trans e_104) exz r_27)) (x_int (i := 2)))) s_105 (fun _ _ h => h.elim) hm (fun N I_106 H_107 e_108 s_109 hm => ?_) (fun N I_110 H_111 e_112 s_113 hm => ?_) (fun z_114 σ2 I_129 C_130 H_131 e_132 s_133 ⟨v_118, hs_115, r_119, hc_120, fr_121⟩ hm => ?_)
    · refine q_asg (E := E) (K := K) (σ := [some (.ref p0), some v_lists, some v_sizes, some v_2, some v_90, some v_22, w_44]) (i := 4) (x_op o_cat (x_v (x_var (i := 4) rfl (Rp.mono _ e_108 exz r_91))) (x_v (x_sl (x_v (x_var (i := 4) rfl (Rp.mono _ e_108 exz r_91))) (p_some (x_un o_neg (x_int (i := 1)))) p_none))) s_109 (fun _ _ h => h.elim) hm fun row_122 v_123 I_124 H_125 e_126 s_127 r_128 hm => ?_
      exact hm _ _ _ _ (e_108.trans e_126) s_127 ⟨v_123, rfl, Rp.mono _ (Ex.refl _) exz r_128, hc_92, fr_93⟩
    · exact hm _ _ _ _ e_112 s_113 ⟨v_90, rfl, Rp.mono _ e_112 exz r_91, hc_92, fr_93⟩
    subst hs_115
    refine s_ifj (E := E) (K := K) (σ := [some (.ref p0), some v_lists, some v_sizes, some v_2, some v_118, some v_22, w_44]) (fun (z_142 : (List Int)) σ2 I_144 C_145 => ∃ v_146 : V, σ2 = [some (.ref p0), some v_lists, some v_sizes, some v_2, some v_146, some v_22, w_44] ∧ Rp.r (pL pI) z_142 v_146 I_144 Z ∧ C_145 p0 = some (.lst ws_47) ∧ Ex (off C0 p0) C_145) (t_test (x_op o_eqI (x_var (i := 5) rfl (Rp.mono _ (e_76.trans (e_104.trans e_132)) exz r_27)) (x_int (i := 3)))) s_133 (fun _ _ h => h.elim) hm (fun N I_134 H_135 e_136 s_137 hm => ?_) (fun N I_138 H_139 e_140 s_141 hm => ?_) (fun z_142 σ2 I_157 C_158 H_159 e_160 s_161 ⟨v_146, hs_143, r_147, hc_148, fr_149⟩ hm => ?_)
    · refine q_asg (E := E) (K := K) (σ := [some (.ref p0), some v_lists, some v_sizes, some v_2, some v_118, some v_22, w_44]) (i := 4) (x_op o_cat (x_v (x_var (i := 4) rfl (Rp.mono _ e_136 exz r_119))) (x_v (x_lst (al_cons (x_op o_ixQ (x_see see_t2 (x_var (i := 2) rfl (Rp.mono _ (e_5.trans (e_18.trans (e_25.trans (e_76.trans (e_104.trans (e_132.trans e_136)))))) exz r_sizes))) (x_var (i := 3) rfl (Rp.mono _ (e_18.trans (e_25.trans (e_76.trans (e_104.trans (e_132.trans e_136))))) exz r_7))) al_nil) (Nat.le_of_ble_eq_true rfl)))) s_137 (fun _ _ h => h.elim) hm fun row_150 v_151 I_152 H_153 e_154 s_155 r_156 hm => ?_
      exact hm _ _ _ _ (e_136.trans e_154) s_155 ⟨v_151, rfl, Rp.mono _ (Ex.refl _) exz r_156, hc_120, fr_121⟩
    · exact hm _ _ _ _ e_140 s_141 ⟨v_118, rfl, Rp.mono _ e_140 exz r_119, hc_120, fr_121⟩
    subst hs_143
    refine s_ifj (E := E) (K := K) (σ := [some (.ref p0), some v_lists, some v_sizes, some v_2, some v_146, some v_22, w_44]) (fun (z_170 : (List Int)) σ2 I_172 C_173 => ∃ v_174 : V, σ2 = [some (.ref p0), some v_lists, some v_sizes, some v_2, some v_174, some v_22, w_44] ∧ Rp.r (pL pI) z_170 v_174 I_172 Z ∧ C_173 p0 = some (.lst ws_47) ∧ Ex (off C0 p0) C_173) (t_test (x_op o_eqI (x_var (i := 5) rfl (Rp.mono _ (e_76.trans (e_104.trans (e_132.trans e_160))) exz r_27)) (x_int (i := 4)))) s_161 (fun _ _ h => h.elim) hm (fun N I_162 H_163 e_164 s_165 hm => ?_) (fun N I_166 H_167 e_168 s_169 hm => ?_) (fun z_170 σ2 I_185 C_186 H_187 e_188 s_189 ⟨v_174, hs_171, r_175, hc_176, fr_177⟩ hm => ?_)
    · refine q_asg (E := E) (K := K) (σ := [some (.ref p0), some v_lists, some v_sizes, some v_2, some v_146, some v_22, w_44]) (i := 4) (x_op o_cat (x_v (x_lst (al_cons (x_un o_neg (x_int (i := 1))) al_nil) (Nat.le_of_ble_eq_true rfl))) (x_v (x_var (i := 4) rfl (Rp.mono _ e_164 exz r_147)))) s_165 (fun _ _ h => h.elim) hm fun row_178 v_179 I_180 H_181 e_182 s_183 r_184 hm => ?_
      exact hm _ _ _ _ (e_164.trans e_182) s_183 ⟨v_179, rfl, Rp.mono _ (Ex.refl _) exz r_184, hc_148, fr_149⟩
    · exact hm _ _ _ _ e_168 s_169 ⟨v_146, rfl, Rp.mono _ e_168 exz r_147, hc_148, fr_149⟩
    subst hs_171
    refine s_ifj (E := E) (K := K) (σ := [some (.ref p0), some v_lists, some v_sizes, some v_2, some v_174, some v_22, w_44]) (fun (z_198 : (Pl × (List Int))) σ2 I_200 C_201 => ∃ v_205 : V, σ2 = [some (.ref p0), some v_lists, some v_sizes, some v_2, some v_205, some v_22, w_44] ∧ (∃ ws_202 : List V, C_201 p0 = some (.lst ws_202) ∧ Rt.r pM z_198.1 ws_202 I_200 Z) ∧ Rp.r (pL pI) z_198.2 v_205 I_200 Z ∧ Ex (off C0 p0) C_201) (t_test (x_op o_eqI (x_var (i := 5) rfl (Rp.mono _ (e_76.trans (e_104.trans (e_132.trans (e_160.trans e_188)))) exz r_27)) (x_int (i := 5)))) s_189 (fun _ _ h => h.elim) hm (fun N I_190 H_191 e_192 s_193 hm => ?_) (fun N I_194 H_195 e_196 s_197 hm => ?_) (fun z_198 σ2 I_221 C_222 H_223 e_224 s_225 ⟨v_205, hs_199, ⟨ws_202, hc_203, hx_204⟩, r_206, fr_207⟩ hm => ?_)
    · refine qm_asg (E := E) (K := K) (σ := [some (.ref p0), some v_lists, some v_sizes, some v_2, some v_174, some v_22, w_44]) (i := 4) (m_cbN (fun _ => n_sortI) (am_one (m_v (m_op (fun _ => (Op2.ofL o_cat)) off_same (m_pure (x_var (i := 4) rfl (Rp.mono _ e_192 exz r_175))) (m_v (m_lst (alm_cons off_same (m_callM (i := 0) rfl (am_pure (a_one (x_op o_add (x_op o_ixQ (x_see see_t2 (x_var (i := 2) rfl (Rp.mono _ (e_5.trans (e_18.trans (e_25.trans (e_76.trans (e_104.trans (e_132.trans (e_160.trans (e_188.trans e_192)))))))) exz r_sizes))) (x_var (i := 3) rfl (Rp.mono _ (e_18.trans (e_25.trans (e_76.trans (e_104.trans (e_132.trans (e_160.trans (e_188.trans e_192))))))) exz r_7))) (x_int (i := 1)))))) alm_nil) (Nat.le_of_ble_eq_true rfl))))))) s_193 hc_176 (Rt.mono _ (e_104.trans (e_132.trans (e_160.trans (e_188.trans e_192)))) exz hx_49) hm fun row_208 v_209 ws_215 I_210 C_216 H_211 e_212 s_213 hc_217 k_218 hx_219 r_214 hm => ?_
      have fr_220 := fr_pool fr_177 k_218
      exact hm _ _ _ _ (e_192.trans e_212) s_213 ⟨v_209, rfl, ⟨_, hc_217, Rt.mono _ (Ex.refl _) exz hx_219⟩, Rp.mono _ (Ex.refl _) exz r_214, fr_220⟩
    · exact hm _ _ _ _ e_196 s_197 ⟨v_174, rfl, ⟨_, hc_176, Rt.mono _ (e_104.trans (e_132.trans (e_160.trans (e_188.trans e_196)))) exz hx_49⟩, Rp.mono _ e_196 exz r_175, fr_177⟩
    subst hs_199
    refine s_if (E := E) (K := K) (σ := [some (.ref p0), some v_lists, some v_sizes, some v_2, some v_205, some v_22, w_44]) (t_test (x_op o_eqI (x_var (i := 3) rfl (Rp.mono _ (e_18.trans (e_25.trans (e_76.trans (e_104.trans (e_132.trans (e_160.trans (e_188.trans e_224))))))) exz r_7)) (x_int (i := 0)))) s_225 (fun _ _ h => h.elim) hm (fun I_226 H_227 e_228 s_229 hm => ?_) (fun I_230 H_231 e_232 s_233 hm => ?_)
    · refine q_ret (tz := tNext) (E := E) (K := K) (σ := [some (.ref p0), some v_lists, some v_sizes, some v_2, some v_205, some v_22, w_44]) (x_tup (a_cons (x_var (i := 4) rfl (Rp.mono _ e_228 exz r_206)) (a_one (x_k (k := ((1 : Nat) : Int)) (o_pj (pjs pj1)) (x_var (i := 1) rfl (Rp.mono _ (e_5.trans (e_18.trans (e_25.trans (e_76.trans (e_104.trans (e_132.trans (e_160.trans (e_188.trans (e_224.trans e_228))))))))) exz r_lists))))) (Nat.le_of_ble_eq_true rfl)) s_229 (fun _ _ h => h.elim) hm fun a_234 v_235 I_236 H_237 e_238 s_239 r_240 hm => ?_
      exact ret_pool hm (e_5.trans (e_18.trans (e_25.trans (e_76.trans (e_104.trans (e_132.trans (e_160.trans (e_188.trans (e_224.trans (e_228.trans e_238)))))))))) fr_207 s_239 hc_203 (Rt.mono _ (e_228.trans e_238) exz hx_204) r_240
    · refine q_ret (tz := tNext) (E := E) (K := K) (σ := [some (.ref p0), some v_lists, some v_sizes, some v_2, some v_205, some v_22, w_44]) (x_tup (a_cons (x_k (k := ((0 : Nat) : Int)) (o_pj pj0) (x_var (i := 1) rfl (Rp.mono _ (e_5.trans (e_18.trans (e_25.trans (e_76.trans (e_104.trans (e_132.trans (e_160.trans (e_188.trans (e_224.trans e_232))))))))) exz r_lists))) (a_one (x_var (i := 4) rfl (Rp.mono _ e_232 exz r_206)))) (Nat.le_of_ble_eq_true rfl)) s_233 (fun _ _ h => h.elim) hm fun a_241 v_242 I_243 H_244 e_245 s_246 r_247 hm => ?_
      exact ret_pool hm (e_5.trans (e_18.trans (e_25.trans (e_76.trans (e_104.trans (e_132.trans (e_160.trans (e_188.trans (e_224.trans (e_232.trans e_245)))))))))) fr_207 s_246 hc_203 (Rt.mono _ (e_232.trans e_245) exz hx_204) r_247
def m__law_pairs_judged (ar_warnings : (List (Int × Int × Int))) (ar_events : (List (Int × Int))) (ar_lead : Int) (ar_slack : Int) (ar_pairs : (List (Int × Int))) : Res Bool :=
  ((un (fun (p : ((List (Int × Int × Int)) × (List (Int × Int)) × Int × Int × (List (Int × Int)))) => m__law_is_pairing p.1 p.2.1 p.2.2.1 p.2.2.2.1 p.2.2.2.2) (pair (Res.ok ar_warnings) (pair (Res.ok ar_events) (pair (Res.ok ar_lead) (pair (Res.ok ar_slack) (Res.ok ar_pairs)))))).bind fun (due_1 : Bool) => ((un idR (Res.ok ar_pairs)).bind fun (kept_8 : (List (Int × Int))) => ((un (fun (p : ((List (Int × Int × Int)) × (List (Int × Int)) × Int × Int × (List (Int × Int)))) => m_is_pairing p.1 p.2.1 p.2.2.1 p.2.2.2.1 p.2.2.2.2) (pair (Res.ok ar_warnings) (pair (Res.ok ar_events) (pair (Res.ok ar_lead) (pair (Res.ok ar_slack) (Res.ok ar_pairs)))))).bind fun (told_15 : Bool) => ((andR (un (fun _ => Res.ok true) (pair (Res.ok told_15) (Res.ok ()))) (andR (bin eqR (Res.ok told_15) (Res.ok due_1)) (bin eqR (Res.ok ar_pairs) (Res.ok kept_8)))).bind fun a_22 => Res.ok a_22))))
abbrev N__law_pairs_judged : List Str := ["warnings", "events", "lead", "slack", "pairs", "due", "kept", "told"]
theorem sc__law_pairs_judged : FnScope N__law_pairs_judged ["warnings", "events", "lead", "slack", "pairs"] (defScope s__law_pairs_judged) := ⟨rfl, rfl, rfl, by decide +kernel, rfl, by decide +kernel, by decide +kernel⟩
theorem bind__law_pairs_judged {K : PySem.W.Frag} {mg : Str → Option Value} {T : Tx K mg} : Binds K T.d__law_pairs_judged ["warnings", "events", "lead", "slack", "pairs"] [] := FunD.bindsN T.F__law_pairs_judged fun _ _ _ _ _ _ us hl => match us, hl with | [_, _, _, _, _], _ => rfl
abbrev sp__law_pairs_judged (K : PySem.W.Frag) : Sp := spP K (tc (pV (pT (tc pI (tc pI (t1 pI))))) (tc (pV (pT (tc pI (t1 pI)))) (tc pI (tc pI (t1 (pL (pT (tc pI (t1 pI))))))))) (fun (p : ((List (Int × Int × Int)) × (List (Int × Int)) × Int × Int × (List (Int × Int)))) => m__law_pairs_judged p.1 p.2.1 p.2.2.1 p.2.2.2.1 p.2.2.2.2) pB
theorem ok__law_pairs_judged (T : Tx K mg) : FnOk P w K mg base (L2.CX P w) 6 T.f__law_pairs_judged T.d__law_pairs_judged ["warnings", "events", "lead", "slack", "pairs"] (sp__law_pairs_judged K) := by
  refine T.F__law_pairs_judged.ok sc__law_pairs_judged (fun vs H Q E h => ?_) (fun cdv A outer s H vs Q E hr h => ?_)
  · obtain ⟨I, C, a, _, hr, _⟩ := h
    exact Rt.len _ hr
  · obtain ⟨I0, C0, ⟨ar_warnings, ar_events, ar_lead, ar_slack, ar_pairs⟩, hs, ⟨v_warnings, us0, rfl, r_warnings, v_events, us1, rfl, r_events, v_lead, us2, rfl, r_lead, v_slack, us3, rfl, r_slack, v_pairs, rfl, r_pairs⟩, hm⟩ := h
    have hm : Post (m__law_pairs_judged ar_warnings ar_events ar_lead ar_slack ar_pairs) (PQ pB I0 C0 Q) (PX E K I0 C0) := hm
    replace r_lead : Rp.r pI ar_lead v_lead I0 Z := Im.im r_lead
    replace r_slack : Rp.r pI ar_slack v_slack I0 Z := Im.im r_slack
    replace r_pairs : Rp.r (pL (pT (tc pI (t1 pI)))) ar_pairs v_pairs I0 Z := Im.im r_pairs
    unfold m__law_pairs_judged at hm
    refine ⟨_, (pss_cons (ps_set (i := 5) sc__law_pairs_judged.nd rfl (Or.inl rfl) (pe_call (ok__law_is_pairing T) (hr.mono (by decide)) rfl T.g__law_is_pairing T.F__law_is_pairing.kp bind__law_is_pairing .nil passE (pa_cons (pv 0) (pa_cons (pv 1) (pa_cons (pv 2) (pa_cons (pv 3) (pa_cons (pv 4) pa_nil))))))) (pss_cons (ps_set (i := 6) sc__law_pairs_judged.nd rfl (Or.inl rfl) (pe_callTy (r := rList1 K) call_list_of (by rfl) T.gb_list bt_list (pa_cons (pv 4) pa_nil))) (pss_cons (ps_set (i := 7) sc__law_pairs_judged.nd rfl (Or.inl rfl) (pe_call (ok_is_pairing T) (hr.mono (by decide)) rfl T.g_is_pairing T.F_is_pairing.kp bind_is_pairing .nil passE (pa_cons (pv 0) (pa_cons (pv 1) (pa_cons (pv 2) (pa_cons (pv 3) (pa_cons (pv 4) pa_nil))))))) (pss_cons (ps_ret (pe_and (pe_callB (r := rIsi K) call_isi (by rfl) T.gb_isinstance bt_isinstance (pa_cons (pv 7) (pa_cons (pe_bltn (v := .ty "bool") rfl T.gb_bool bt_bool rfl) pa_nil))) (pe_and (pe_cmpR op_eq (pv 7) (pv 5) (nomark _)) (pe_one (pe_cmpR (r := rEqD K) (op_eqD hr.units) (pv 4) (pv 6) (nomark _)))))) pss_nil)))), ?_⟩
    refine q_asg (E := E) (K := K) (σ := [some v_warnings, some v_events, some v_lead, some v_slack, some v_pairs, none, none, none]) (i := 5) (x_call (a_cons (x_var (i := 0) rfl (Rp.mono _ (Ex.refl _) (Ex.refl _) r_warnings)) (a_cons (x_var (i := 1) rfl (Rp.mono _ (Ex.refl _) (Ex.refl _) r_events)) (a_cons (x_var (i := 2) rfl (Rp.mono _ (Ex.refl _) exz r_lead)) (a_cons (x_var (i := 3) rfl (Rp.mono _ (Ex.refl _) exz r_slack)) (a_one (x_var (i := 4) rfl (Rp.mono _ (Ex.refl _) exz r_pairs)))))))) hs (fun _ _ h => PX.mono (Ex.refl _) (Ex.refl _) h) hm fun due_1 v_2 I_3 H_4 e_5 s_6 r_7 hm => ?_
    refine q_asg (E := E) (K := K) (σ := [some v_warnings, some v_events, some v_lead, some v_slack, some v_pairs, some v_2, none, none]) (i := 6) (x_cb o_list (a_one (x_v (x_var (i := 4) rfl (Rp.mono _ e_5 exz r_pairs))))) s_6 (fun _ _ h => PX.mono e_5 (Ex.refl _) h) hm fun kept_8 v_9 I_10 H_11 e_12 s_13 r_14 hm => ?_
    refine q_asg (E := E) (K := K) (σ := [some v_warnings, some v_events, some v_lead, some v_slack, some v_pairs, some v_2, some v_9, none]) (i := 7) (x_call (a_cons (x_var (i := 0) rfl (Rp.mono _ (e_5.trans e_12) (Ex.refl _) r_warnings)) (a_cons (x_var (i := 1) rfl (Rp.mono _ (e_5.trans e_12) (Ex.refl _) r_events)) (a_cons (x_var (i := 2) rfl (Rp.mono _ (e_5.trans e_12) exz r_lead)) (a_cons (x_var (i := 3) rfl (Rp.mono _ (e_5.trans e_12) exz r_slack)) (a_one (x_var (i := 4) rfl (Rp.mono _ (e_5.trans e_12) exz r_pairs)))))))) s_13 (fun _ _ h => PX.mono (e_5.trans e_12) (Ex.refl _) h) hm fun told_15 v_16 I_17 H_18 e_19 s_20 r_21 hm => ?_
    refine q_ret (tz := tNext) (E := E) (K := K) (σ := [some v_warnings, some v_events, some v_lead, some v_slack, some v_pairs, some v_2, some v_9, some v_16]) (x_andV (x_cb (o_isi (n := "bool") (by decide +kernel)) (a_cons (x_var (i := 7) rfl (Rp.mono _ (Ex.refl _) exz r_21)) (a_one (x_c (R := pY "bool") (a := ()) fun _ _ => rfl)))) (x_andV (x_op o_eqB (x_var (i := 7) rfl (Rp.mono _ (Ex.refl _) exz r_21)) (x_var (i := 5) rfl (Rp.mono _ (e_12.trans e_19) exz r_7))) (x_op (o_eqD (de_lst (de_tup (dt_cons de_int (dt_one de_int)))) (de_lst (de_tup (dt_cons de_int (dt_one de_int)))) (by decide)) (x_var (i := 4) rfl (Rp.mono _ (e_5.trans (e_12.trans e_19)) exz r_pairs)) (x_var (i := 6) rfl (Rp.mono _ e_19 exz r_14))))) s_20 (fun _ _ h => PX.mono (e_5.trans (e_12.trans e_19)) (Ex.refl _) h) hm fun a_22 v_23 I_24 H_25 e_26 s_27 r_28 hm => ?_
    exact hm v_23 I_24 H_25 (e_5.trans (e_12.trans (e_19.trans e_26))) (St.less s_27 (Ex.refl _)) (Im.im r_28)
def m__law_lists_judged (ar_warnings : (List (Int × Int × Int))) (ar_events : (List (Int × Int))) (ar_lead : Int) (ar_slack : Int) (ar_lists : ((List Int) × (List Int))) : Res Bool :=
  ((un (fun (p : ((List (Int × Int × Int)) × (List (Int × Int)) × Int × Int × ((List Int) × (List Int)))) => m__law_is_cover p.1 p.2.1 p.2.2.1 p.2.2.2.1 p.2.2.2.2) (pair (Res.ok ar_warnings) (pair (Res.ok ar_events) (pair (Res.ok ar_lead) (pair (Res.ok ar_slack) (Res.ok ar_lists)))))).bind fun (due_1 : Bool) => ((pair (un idR (un (fun p => Res.ok p.1) (Res.ok ar_lists))) (un idR (un (fun p => Res.ok p.2) (Res.ok ar_lists)))).bind fun (kept_8 : ((List Int) × (List Int))) => ((un (fun (p : ((List (Int × Int × Int)) × (List (Int × Int)) × Int × Int × ((List Int) × (List Int)))) => m_is_cover p.1 p.2.1 p.2.2.1 p.2.2.2.1 p.2.2.2.2) (pair (Res.ok ar_warnings) (pair (Res.ok ar_events) (pair (Res.ok ar_lead) (pair (Res.ok ar_slack) (Res.ok ar_lists)))))).bind fun (told_15 : Bool) => ((andR (un (fun _ => Res.ok true) (pair (Res.ok told_15) (Res.ok ()))) (andR (bin eqR (Res.ok told_15) (Res.ok due_1)) (bin eqR (Res.ok ar_lists) (Res.ok kept_8)))).bind fun a_22 => Res.ok a_22))))
abbrev N__law_lists_judged : List Str := ["warnings", "events", "lead", "slack", "lists", "due", "kept", "told"]
theorem sc__law_lists_judged : FnScope N__law_lists_judged ["warnings", "events", "lead", "slack", "lists"] (defScope s__law_lists_judged) := ⟨rfl, rfl, rfl, by decide +kernel, rfl, by decide +kernel, by decide +kernel⟩
theorem bind__law_lists_judged {K : PySem.W.Frag} {mg : Str → Option Value} {T : Tx K mg} : Binds K T.d__law_lists_judged ["warnings", "events", "lead", "slack", "lists"] [] := FunD.bindsN T.F__law_lists_judged fun _ _ _ _ _ _ us hl => match us, hl with | [_, _, _, _, _], _ => rfl
abbrev sp__law_lists_judged (K : PySem.W.Frag) : Sp := spP K (tc (pV (pT (tc pI (tc pI (t1 pI))))) (tc (pV (pT (tc pI (t1 pI)))) (tc pI (tc pI (t1 (pT (tc (pL pI) (t1 (pL pI))))))))) (fun (p : ((List (Int × Int × Int)) × (List (Int × Int)) × Int × Int × ((List Int) × (List Int)))) => m__law_lists_judged p.1 p.2.1 p.2.2.1 p.2.2.2.1 p.2.2.2.2) pB
theorem ok__law_lists_judged (T : Tx K mg) : FnOk P w K mg base (L2.CX P w) 6 T.f__law_lists_judged T.d__law_lists_judged ["warnings", "events", "lead", "slack", "lists"] (sp__law_lists_judged K) := by
  refine T.F__law_lists_judged.ok sc__law_lists_judged (fun vs H Q E h => ?_) (fun cdv A outer s H vs Q E hr h => ?_)
  · obtain ⟨I, C, a, _, hr, _⟩ := h
    exact Rt.len _ hr
  · obtain ⟨I0, C0, ⟨ar_warnings, ar_events, ar_lead, ar_slack, ar_lists⟩, hs, ⟨v_warnings, us0, rfl, r_warnings, v_events, us1, rfl, r_events, v_lead, us2, rfl, r_lead, v_slack, us3, rfl, r_slack, v_lists, rfl, r_lists⟩, hm⟩ := h
    have hm : Post (m__law_lists_judged ar_warnings ar_events ar_lead ar_slack ar_lists) (PQ pB I0 C0 Q) (PX E K I0 C0) := hm
    replace r_lead : Rp.r pI ar_lead v_lead I0 Z := Im.im r_lead
    replace r_slack : Rp.r pI ar_slack v_slack I0 Z := Im.im r_slack
    replace r_lists : Rp.r (pT (tc (pL pI) (t1 (pL pI)))) ar_lists v_lists I0 Z := Im.im r_lists
    unfold m__law_lists_judged at hm
    refine ⟨_, (pss_cons (ps_set (i := 5) sc__law_lists_judged.nd rfl (Or.inl rfl) (pe_call (ok__law_is_cover T) (hr.mono (by decide)) rfl T.g__law_is_cover T.F__law_is_cover.kp bind__law_is_cover .nil passE (pa_cons (pv 0) (pa_cons (pv 1) (pa_cons (pv 2) (pa_cons (pv 3) (pa_cons (pv 4) pa_nil))))))) (pss_cons (ps_set (i := 6) sc__law_lists_judged.nd rfl (Or.inl rfl) (pe_tup (pa_cons (pe_callTy (r := rList1 K) call_list_of (by rfl) T.gb_list bt_list (pa_cons (pe_ix (r := rIxT K) ix_tup (pv 4) pe_int (fun _ _ => rfl)) pa_nil)) (pa_cons (pe_callTy (r := rList1 K) call_list_of (by rfl) T.gb_list bt_list (pa_cons (pe_ix (r := rIxT K) ix_tup (pv 4) pe_int (fun _ _ => rfl)) pa_nil)) pa_nil)))) (pss_cons (ps_set (i := 7) sc__law_lists_judged.nd rfl (Or.inl rfl) (pe_call (ok_is_cover T) (hr.mono (by decide)) rfl T.g_is_cover T.F_is_cover.kp bind_is_cover .nil passE (pa_cons (pv 0) (pa_cons (pv 1) (pa_cons (pv 2) (pa_cons (pv 3) (pa_cons (pv 4) pa_nil))))))) (pss_cons (ps_ret (pe_and (pe_callB (r := rIsi K) call_isi (by rfl) T.gb_isinstance bt_isinstance (pa_cons (pv 7) (pa_cons (pe_bltn (v := .ty "bool") rfl T.gb_bool bt_bool rfl) pa_nil))) (pe_and (pe_cmpR op_eq (pv 7) (pv 5) (nomark _)) (pe_one (pe_cmpR (r := rEqD K) (op_eqD hr.units) (pv 4) (pv 6) (nomark _)))))) pss_nil)))), ?_⟩
    refine q_asg (E := E) (K := K) (σ := [some v_warnings, some v_events, some v_lead, some v_slack, some v_lists, none, none, none]) (i := 5) (x_call (a_cons (x_var (i := 0) rfl (Rp.mono _ (Ex.refl _) (Ex.refl _) r_warnings)) (a_cons (x_var (i := 1) rfl (Rp.mono _ (Ex.refl _) (Ex.refl _) r_events)) (a_cons (x_var (i := 2) rfl (Rp.mono _ (Ex.refl _) exz r_lead)) (a_cons (x_var (i := 3) rfl (Rp.mono _ (Ex.refl _) exz r_slack)) (a_one (x_var (i := 4) rfl (Rp.mono _ (Ex.refl _) exz r_lists)))))))) hs (fun _ _ h => PX.mono (Ex.refl _) (Ex.refl _) h) hm fun due_1 v_2 I_3 H_4 e_5 s_6 r_7 hm => ?_
    refine q_asg (E := E) (K := K) (σ := [some v_warnings, some v_events, some v_lead, some v_slack, some v_lists, some v_2, none, none]) (i := 6) (x_tup (a_cons (x_cb o_list (a_one (x_v (x_k (k := ((0 : Nat) : Int)) (o_pj pj0) (x_var (i := 4) rfl (Rp.mono _ e_5 exz r_lists)))))) (a_one (x_cb o_list (a_one (x_v (x_k (k := ((1 : Nat) : Int)) (o_pj (pjs pj1)) (x_var (i := 4) rfl (Rp.mono _ e_5 exz r_lists)))))))) (Nat.le_of_ble_eq_true rfl)) s_6 (fun _ _ h => PX.mono e_5 (Ex.refl _) h) hm fun kept_8 v_9 I_10 H_11 e_12 s_13 r_14 hm => ?_
    refine q_asg (E := E) (K := K) (σ := [some v_warnings, some v_events, some v_lead, some v_slack, some v_lists, some v_2, some v_9, none]) (i := 7) (x_call (a_cons (x_var (i := 0) rfl (Rp.mono _ (e_5.trans e_12) (Ex.refl _) r_warnings)) (a_cons (x_var (i := 1) rfl (Rp.mono _ (e_5.trans e_12) (Ex.refl _) r_events)) (a_cons (x_var (i := 2) rfl (Rp.mono _ (e_5.trans e_12) exz r_lead)) (a_cons (x_var (i := 3) rfl (Rp.mono _ (e_5.trans e_12) exz r_slack)) (a_one (x_var (i := 4) rfl (Rp.mono _ (e_5.trans e_12) exz r_lists)))))))) s_13 (fun _ _ h => PX.mono (e_5.trans e_12) (Ex.refl _) h) hm fun told_15 v_16 I_17 H_18 e_19 s_20 r_21 hm => ?_
    refine q_ret (tz := tNext) (E := E) (K := K) (σ := [some v_warnings, some v_events, some v_lead, some v_slack, some v_lists, some v_2, some v_9, some v_16]) (x_andV (x_cb (o_isi (n := "bool") (by decide +kernel)) (a_cons (x_var (i := 7) rfl (Rp.mono _ (Ex.refl _) exz r_21)) (a_one (x_c (R := pY "bool") (a := ()) fun _ _ => rfl)))) (x_andV (x_op o_eqB (x_var (i := 7) rfl (Rp.mono _ (Ex.refl _) exz r_21)) (x_var (i := 5) rfl (Rp.mono _ (e_12.trans e_19) exz r_7))) (x_op (o_eqD (de_tup (dt_cons (de_lst de_int) (dt_one (de_lst de_int)))) (de_tup (dt_cons (de_lst de_int) (dt_one (de_lst de_int)))) (by decide)) (x_var (i := 4) rfl (Rp.mono _ (e_5.trans (e_12.trans e_19)) exz r_lists)) (x_var (i := 6) rfl (Rp.mono _ e_19 exz r_14))))) s_20 (fun _ _ h => PX.mono (e_5.trans (e_12.trans e_19)) (Ex.refl _) h) hm fun a_22 v_23 I_24 H_25 e_26 s_27 r_28 hm => ?_
    exact hm v_23 I_24 H_25 (e_5.trans (e_12.trans (e_19.trans e_26))) (St.less s_27 (Ex.refl _)) (Im.im r_28)
def m__law_count (_ : Unit) (a_pool : Pl) : Res (Int × Pl) :=
  (ifMR (binM eqR (callM m__law_take (liftM (Res.ok (4 : Int)))) (liftM (Res.ok (0 : Int)))) a_pool (fun (y_9 : Pl) => (((callM (fun (p : (Int × Int)) => m__law_from p.1 p.2) (liftM (pair (Res.ok (10 : Int)) (Res.ok (14 : Int))))) y_9).bind fun a_22 => Res.ok (a_22.1, a_22.2))) (fun (y_15 : Pl) => (((callM m__law_take (liftM (Res.ok (7 : Int)))) y_15).bind fun a_36 => Res.ok (a_36.1, a_36.2))))
abbrev N__law_count : List Str := ["pool"]
theorem sc__law_count : FnScope N__law_count ["pool"] (defScope s__law_count) := ⟨rfl, rfl, rfl, by decide +kernel, rfl, by decide +kernel, by decide +kernel⟩
theorem bind__law_count {K : PySem.W.Frag} {mg : Str → Option Value} {T : Tx K mg} : Binds K T.d__law_count ["pool"] [] := FunD.bindsN T.F__law_count fun _ _ _ _ _ _ us hl => match us, hl with | [_], _ => rfl
abbrev sp__law_count (K : PySem.W.Frag) : Sp := spM pM t0 m__law_count pI
theorem ok__law_count (T : Tx K mg) : FnOk P w K mg base (L2.CX P w) 5 T.f__law_count T.d__law_count ["pool"] (sp__law_count K) := by
  refine T.F__law_count.ok sc__law_count (fun vs H Q E h => ?_) (fun cdv A outer s H vs Q E hr h => ?_)
  · obtain ⟨I, C, p, ws, us, x, a, rfl, _, _, _, hr, _⟩ := h
    exact congrArg (· + 1) (Rt.len _ hr)
  · obtain ⟨I0, C0, p0, ws0, us, a_pool, ⟨⟩, rfl, hs, hc0, hx1, rfl, hm⟩ := h
    have hx0 := It.im (C' := Z) hx1
    have hm : Post (m__law_count () a_pool) (PM p0 pM pI I0 C0 Q) XF := hm
    unfold m__law_count at hm
    refine ⟨_, (pss_cons (ps_if (pt_cmpR op_eq (pe_call (ok__law_take T) (hr.mono (by decide)) rfl T.g__law_take T.F__law_take.kp bind__law_take .nil passE (pa_cons (pv 0) (pa_cons pe_int pa_nil))) pe_int (nomark _)) (pss_cons (ps_ret (pe_call (ok__law_from T) (hr.mono (by decide)) rfl T.g__law_from T.F__law_from.kp bind__law_from .nil passE (pa_cons (pv 0) (pa_cons pe_int (pa_cons pe_int pa_nil))))) pss_nil) pss_nil) (pss_cons (ps_ret (pe_call (ok__law_take T) (hr.mono (by decide)) rfl T.g__law_take T.F__law_take.kp bind__law_take .nil passE (pa_cons (pv 0) (pa_cons pe_int pa_nil)))) pss_nil)), ?_⟩
    refine qm_if (E := E) (K := K) (σ := [some (.ref p0)]) (tm_test (m_op (fun _ => o_eqI) off_same (m_callM (i := 0) rfl (am_pure (a_one (x_int (i := 4))))) (m_pure (x_int (i := 0))))) hs hc0 (Rt.mono _ (Ex.refl _) exz hx0) hm (fun y_9 ws_10 I_1 C_11 H_2 e_3 s_4 hc_12 k_13 hx_14 hm => ?_) (fun y_15 ws_16 I_5 C_17 H_6 e_7 s_8 hc_18 k_19 hx_20 hm => ?_)
    · have fr_21 := fr_pool (off_ex (C := C0) (p := p0)) k_13
      refine qm_ret (E := E) (K := K) (σ := [some (.ref p0)]) (m_callM (i := 0) rfl (am_pure (a_cons (x_int (i := 10)) (a_one (x_int (i := 14)))))) s_4 hc_12 (Rt.mono _ (Ex.refl _) exz hx_14) hm fun a_22 v_23 ws_29 I_24 C_30 H_25 e_26 s_27 hc_31 k_32 hx_33 r_28 hm => ?_
      have fr_34 := fr_pool fr_21 k_32
      exact ret_pool hm (e_3.trans e_26) fr_34 s_27 hc_31 hx_33 r_28
    · have fr_35 := fr_pool (off_ex (C := C0) (p := p0)) k_19
      refine qm_ret (E := E) (K := K) (σ := [some (.ref p0)]) (m_callM (i := 0) rfl (am_pure (a_one (x_int (i := 7))))) s_8 hc_18 (Rt.mono _ (Ex.refl _) exz hx_20) hm fun a_36 v_37 ws_43 I_38 C_44 H_39 e_40 s_41 hc_45 k_46 hx_47 r_42 hm => ?_
      have fr_48 := fr_pool fr_35 k_46
      exact ret_pool hm (e_7.trans e_40) fr_48 s_41 hc_45 hx_47 r_42
def m_law (a_script : List Int) : Res Bool :=
  ((poolR a_script).bind fun (pool_10 : Pl) => (((binM ix (liftM (consR (Res.ok (5 : Int)) (consR (Res.ok (10 : Int)) (consR (Res.ok (20 : Int)) (consR (Res.ok (47 : Int)) (Res.ok [])))))) (callM m__law_take (liftM (Res.ok (4 : Int))))) pool_10).bind fun (far_12 : Int × Pl) => (((fun y_40 => ((unM rng1 (m__law_count ())) y_40).bind fun b => mapM (fun (x_33 : Int) => (callM m__law_warning (liftM (Res.ok far_12.1)))) b.1 b.2) far_12.2).bind fun (warnings_41 : (List (Int × Int × Int)) × Pl) => (((fun y_69 => ((unM rng1 (m__law_count ())) y_69).bind fun b => mapM (fun (x_62 : Int) => (callM m__law_span (liftM (Res.ok far_12.1)))) b.1 b.2) warnings_41.2).bind fun (events_70 : (List (Int × Int)) × Pl) => (((callM m__law_near (liftM (Res.ok (24 : Int)))) events_70.2).bind fun (lead_83 : Int × Pl) => (((callM m__law_near (liftM (Res.ok (24 : Int)))) lead_83.2).bind fun (slack_96 : Int × Pl) => ((consR (un (fun x => Res.ok (List.map (Sum.inl (β := (Int × Int))) x)) (un idR (Res.ok warnings_41.1))) (consR (un (fun x => Res.ok (List.map (Sum.inr (α := (Int × Int × Int))) x)) (un idR (Res.ok events_70.1))) (Res.ok ([] : (List (List ((Int × Int × Int) ⊕ (Int × Int)))))))).bind fun (spoilt_109 : (List (List ((Int × Int × Int) ⊕ (Int × Int))))) => ((((unM rng1 (callM m__law_take (liftM (Res.ok (3 : Int))))) slack_96.2).bind fun b => loopN (fun (x_133 : Int) (z_119 : ((List (List ((Int × Int × Int) ⊕ (Int × Int)))) × Pl)) => (((callM m__law_take (liftM (Res.ok (2 : Int)))) z_119.2).bind fun (side_153 : Int × Pl) => (ifR (bin rGt (un rLen (bin ix (Res.ok z_119.1) (Res.ok side_153.1))) (Res.ok (0 : Int))) (((callM m__law_take (liftM (un rLen (bin ix (Res.ok z_119.1) (Res.ok side_153.1))))) side_153.2).bind fun (k_174 : Int × Pl) => (((Res.ok (z_119.1, fun y => y)).bind fun p => (Res.ok side_153.1).bind fun i => (plR p.1 i).bind fun q => Res.ok (q.1, fun y => p.2 (q.2 y))).bind fun (row_187 : (List ((Int × Int × Int) ⊕ (Int × Int))) × ((List ((Int × Int × Int) ⊕ (Int × Int))) → (List (List ((Int × Int × Int) ⊕ (Int × Int)))))) => (ifR (bin eqR (Res.ok side_153.1) (Res.ok (0 : Int))) ((((unM inlR (callM m__law_spoilt_warning (liftM (un getL (bin ix (Res.ok row_187.1) (Res.ok k_174.1)))))) k_174.2).bind fun b => (Res.ok (row_187.1, row_187.2)).bind fun q => (Res.ok k_174.1).bind fun j => (setR q.1 j b.1).bind fun c => Res.ok (q.2 c, b.2)).bind fun (spoilt_203 : (List (List ((Int × Int × Int) ⊕ (Int × Int)))) × Pl) => (Res.ok (spoilt_203.1, spoilt_203.2))) ((((unM inrR (callM m__law_spoilt_span (liftM (un getR (bin ix (Res.ok row_187.1) (Res.ok k_174.1)))))) k_174.2).bind fun b => (Res.ok (row_187.1, row_187.2)).bind fun q => (Res.ok k_174.1).bind fun j => (setR q.1 j b.1).bind fun c => Res.ok (q.2 c, b.2)).bind fun (spoilt_220 : (List (List ((Int × Int × Int) ⊕ (Int × Int)))) × Pl) => (Res.ok (spoilt_220.1, spoilt_220.2)))))) (Res.ok (z_119.1, side_153.2))))) b.1 ((fun (y_142 : Pl) => (spoilt_109, y_142)) b.2)).bind fun (z_242 : ((List (List ((Int × Int × Int) ⊕ (Int × Int)))) × Pl)) => ((un (fun (p : ((List (Int × Int × Int)) × (List (Int × Int)))) => m__law_due_refusal p.1 p.2) (pair (un lefts (bin ix (Res.ok z_242.1) (Res.ok (0 : Int)))) (un rights (bin ix (Res.ok z_242.1) (Res.ok (1 : Int)))))).bind fun (due_256 : (Option (Str × Int))) => ((consR (un idR (bin ix (Res.ok z_242.1) (Res.ok (0 : Int)))) (consR (un idR (bin ix (Res.ok z_242.1) (Res.ok (1 : Int)))) (Res.ok []))).bind fun (kept_263 : (List (List ((Int × Int × Int) ⊕ (Int × Int))))) => (((un rng1 (Res.ok (7 : Int))).bind fun xs => loopR (fun (x_277 : Int) (z_270 : Unit) => (ifR (orR (bin neR (un (fun (p : (Int × (List (Int × Int × Int)) × (List (Int × Int)) × Int × Int)) => m__law_refused p.1 p.2.1 p.2.2.1 p.2.2.2.1 p.2.2.2.2) (pair (Res.ok x_277) (pair (un lefts (bin ix (Res.ok z_242.1) (Res.ok (0 : Int)))) (pair (un rights (bin ix (Res.ok z_242.1) (Res.ok (1 : Int)))) (pair (Res.ok lead_83.1) (Res.ok slack_96.1)))))) (Res.ok due_256)) (bin neR (Res.ok z_242.1) (Res.ok kept_263))) ((Res.ok false).bind fun a_297 => Res.ok (Out.rt a_297)) (Res.ok (Out.nx ())))) xs ()).bind fun (o : Out Unit Bool) => match o with | .nx z_309 => (((un (fun p => Res.ok p.1) ((Res.ok (z_242.1, fun y => y)).bind fun p => (Res.ok (0 : Int)).bind fun i => (plR p.1 i).bind fun q => Res.ok (q.1, fun y => p.2 (q.2 y)))).bind fun xs => loopR (fun (x_325 : ((Int × Int × Int) ⊕ (Int × Int))) (z_316 : Unit) => (((un (fun p => Res.ok p.1) ((Res.ok (z_242.1, fun y => y)).bind fun p => (Res.ok (1 : Int)).bind fun i => (plR p.1 i).bind fun q => Res.ok (q.1, fun y => p.2 (q.2 y)))).bind fun xs => loopR (fun (x_345 : ((Int × Int × Int) ⊕ (Int × Int))) (z_337 : Unit) => ((un (fun (p : ((Int × Int × Int) × (Int × Int) × Int × Int)) => m_counts_for p.1 p.2.1 p.2.2.1 p.2.2.2) (pair (un getL (Res.ok x_325)) (pair (un getR (Res.ok x_345)) (pair (Res.ok lead_83.1) (Res.ok slack_96.1))))).bind fun (told_357 : Bool) => (ifR (orR (un notR (un (fun _ => Res.ok true) (pair (Res.ok told_357) (Res.ok ())))) (bin neR (Res.ok told_357) (un (fun (p : ((Int × Int × Int) × (Int × Int) × Int × Int)) => m__law_fits p.1 p.2.1 p.2.2.1 p.2.2.2) (pair (un getL (Res.ok x_325)) (pair (un getR (Res.ok x_345)) (pair (Res.ok lead_83.1) (Res.ok slack_96.1))))))) ((Res.ok false).bind fun a_372 => Res.ok (Out.rt a_372)) (Res.ok (Out.nx ()))))) xs ()).bind fun (o : Out Unit Bool) => match o with | .nx z_384 => (Res.ok (Out.nx ())) | .br _ => Res.bad | .rt r => Res.ok (Out.rt r))) xs ()).bind fun (o : Out Unit Bool) => match o with | .nx z_397 => ((slR (Res.ok warnings_41.1) (Res.ok none) (someR (Res.ok (12 : Int)))).bind fun (warnings_406 : (List (Int × Int × Int))) => ((slR (Res.ok events_70.1) (Res.ok none) (someR (Res.ok (12 : Int)))).bind fun (events_413 : (List (Int × Int))) => ((pair (un rLen (Res.ok warnings_406)) (un rLen (Res.ok events_413))).bind fun (sizes_420 : (Int × Int)) => (((un rng1 (Res.ok (7 : Int))).bind fun xs => loopR (fun (x_438 : Int) (z_427 : Pl) => (((callM (fun (p : ((List (Int × Int × Int)) × (List (Int × Int)) × Int × Int)) => m__law_some_pairs p.1 p.2.1 p.2.2.1 p.2.2.2) (pairM (liftM (Res.ok warnings_406)) (pairM (liftM (Res.ok events_413)) (pairM (liftM (Res.ok lead_83.1)) (liftM (Res.ok slack_96.1)))))) z_427).bind fun (pairs_450 : (List (Int × Int)) × Pl) => (((callM (fun (p : ((List (Int × Int × Int)) × (List (Int × Int)) × Int × Int)) => m__law_some_lists p.1 p.2.1 p.2.2.1 p.2.2.2) (pairM (liftM (Res.ok warnings_406)) (pairM (liftM (Res.ok events_413)) (pairM (liftM (Res.ok lead_83.1)) (liftM (Res.ok slack_96.1)))))) pairs_450.2).bind fun (lists_463 : ((List Int) × (List Int)) × Pl) => ((ifR (bin rGt (Res.ok x_438) (Res.ok (0 : Int))) (((callM (fun (p : ((List (Int × Int)) × Int × Int)) => m__law_spoilt_pairs p.1 p.2.1 p.2.2) (liftM (pair (Res.ok pairs_450.1) (pair (un (fun p => Res.ok p.1) (Res.ok sizes_420)) (un (fun p => Res.ok p.2) (Res.ok sizes_420)))))) lists_463.2).bind fun (pairs_496 : (List (Int × Int)) × Pl) => (((callM (fun (p : (((List Int) × (List Int)) × (Int × Int))) => m__law_spoilt_lists p.1 p.2) (liftM (pair (Res.ok lists_463.1) (Res.ok sizes_420)))) pairs_496.2).bind fun (lists_509 : ((List Int) × (List Int)) × Pl) => (Res.ok (lists_509.2, pairs_496.1, lists_509.1)))) (Res.ok (lists_463.2, pairs_450.1, lists_463.1))).bind fun (z_484 : (Pl × (List (Int × Int)) × ((List Int) × (List Int)))) => (ifR (un notR (un (fun (p : ((List (Int × Int × Int)) × (List (Int × Int)) × Int × Int × (List (Int × Int)))) => m__law_pairs_judged p.1 p.2.1 p.2.2.1 p.2.2.2.1 p.2.2.2.2) (pair (Res.ok warnings_406) (pair (Res.ok events_413) (pair (Res.ok lead_83.1) (pair (Res.ok slack_96.1) (Res.ok z_484.2.1))))))) ((Res.ok false).bind fun a_535 => Res.ok (Out.rt a_535)) (ifR (un notR (un (fun (p : ((List (Int × Int × Int)) × (List (Int × Int)) × Int × Int × ((List Int) × (List Int)))) => m__law_lists_judged p.1 p.2.1 p.2.2.1 p.2.2.2.1 p.2.2.2.2) (pair (Res.ok warnings_406) (pair (Res.ok events_413) (pair (Res.ok lead_83.1) (pair (Res.ok slack_96.1) (Res.ok z_484.2.2))))))) ((Res.ok false).bind fun a_550 => Res.ok (Out.rt a_550)) (Res.ok (Out.nx z_484.1)))))))) xs z_242.2).bind fun (o : Out Pl Bool) => match o with | .nx z_562 => (((consR (pair (Res.ok ([] : List Int)) (Res.ok ([] : List Int))) (consR (pair (un rng1 (un (fun p => Res.ok p.1) (Res.ok sizes_420))) (Res.ok ([] : List Int))) (consR (pair (Res.ok ([] : List Int)) (un rng1 (un (fun p => Res.ok p.2) (Res.ok sizes_420)))) (Res.ok [])))).bind fun xs => loopR (fun (x_580 : ((List Int) × (List Int))) (z_573 : Unit) => (ifR (un notR (un (fun (p : ((List (Int × Int × Int)) × (List (Int × Int)) × Int × Int × ((List Int) × (List Int)))) => m__law_lists_judged p.1 p.2.1 p.2.2.1 p.2.2.2.1 p.2.2.2.2) (pair (Res.ok warnings_406) (pair (Res.ok events_413) (pair (Res.ok lead_83.1) (pair (Res.ok slack_96.1) (Res.ok x_580))))))) ((Res.ok false).bind fun a_600 => Res.ok (Out.rt a_600)) (Res.ok (Out.nx ())))) xs ()).bind fun (o : Out Unit Bool) => match o with | .nx z_612 => ((un (fun (p : ((List (Int × Int × Int)) × (List (Int × Int)) × Int × Int × (List (Int × Int)))) => m__law_pairs_judged p.1 p.2.1 p.2.2.1 p.2.2.2.1 p.2.2.2.2) (pair (Res.ok warnings_406) (pair (Res.ok events_413) (pair (Res.ok lead_83.1) (pair (Res.ok slack_96.1) (Res.ok ([] : List (Int × Int)))))))).bind fun a_619 => Res.ok a_619) | .br _ => Res.bad | .rt r => Res.ok r) | .br _ => Res.bad | .rt r => Res.ok r)))) | .br _ => Res.bad | .rt r => Res.ok r) | .br _ => Res.bad | .rt r => Res.ok r)))))))))))
abbrev N_law : List Str := ["script", "pool", "far", "warnings", "events", "lead", "slack", "spoilt", "turn", "side", "k", "row", "due", "kept", "door", "warning", "event", "told", "sizes", "pairs", "lists"]
theorem sc_law : FnScope N_law ["script"] (defScope s_law) := ⟨rfl, rfl, rfl, by decide +kernel, rfl, by decide +kernel, by decide +kernel⟩
theorem ok_law (T : Tx K mg) : FnOk P w K mg base CX0 27 T.f_law T.d_law ["script"] (spLaw K m_law) := by
  refine T.F_law.ok sc_law (fun vs H Q E h => ?_) (fun cdv A outer s H vs Q E hr h => ?_)
  · obtain ⟨a, ns, rfl, _⟩ := h
    rfl
  · obtain ⟨a0, a_script, rfl, hS, hz, hm⟩ := h
    obtain ⟨I0, hs, r_script⟩ := law_start hS hz
    unfold m_law at hm
    refine ⟨_, (pss_cons (ps_set (i := 1) sc_law.nd rfl (Or.inr rfl) (pe_call (ok__law_pool T) (hr.mono (by decide)) rfl T.g__law_pool T.F__law_pool.kp bind__law_pool .nil passL (pa_cons (pv 0) pa_nil))) (pss_cons (ps_set (i := 2) sc_law.nd rfl (Or.inr rfl) (pe_ix (r := rIxL K) ix_list (pe_lst (pa_cons pe_int (pa_cons pe_int (pa_cons pe_int (pa_cons pe_int pa_nil))))) (pe_call (ok__law_take T) (hr.mono (by decide)) rfl T.g__law_take T.F__law_take.kp bind__law_take .nil passL (pa_cons (pv 1) (pa_cons pe_int pa_nil))) (fun _ _ => rfl))) (pss_cons (ps_setLc (i := 3) (own := [("k", 10)]) rfl sc_law.nd rfl rfl (sw_true rfl rfl rfl (by decide +kernel)) (pi_range1 (by rfl) T.gb_range (pa_cons (pe_call (ok__law_count T) (hr.mono (by decide)) rfl T.g__law_count T.F__law_count.kp bind__law_count .nil passL (pa_cons (pv 1) pa_nil)) pa_nil)) (blkOk_by (own := [("k", 10)]) (N := N_law) (sc := defScope s_law) (by decide +kernel)) (fun _ _ _ _ _ => (pg_name (i := 10) sc_law.nd rfl (Or.inl rfl))) (fun _ _ _ _ _ => pts_nil) (fun _ _ _ _ _ => (pe_call (ok__law_warning T) (hr.mono (by decide)) rfl T.g__law_warning T.F__law_warning.kp bind__law_warning .nil passL (pa_cons (pv 1) (pa_cons (pv 2) pa_nil))))) (pss_cons (ps_setLc (i := 4) (own := [("k", 10)]) rfl sc_law.nd rfl rfl (sw_true rfl rfl rfl (by decide +kernel)) (pi_range1 (by rfl) T.gb_range (pa_cons (pe_call (ok__law_count T) (hr.mono (by decide)) rfl T.g__law_count T.F__law_count.kp bind__law_count .nil passL (pa_cons (pv 1) pa_nil)) pa_nil)) (blkOk_by (own := [("k", 10)]) (N := N_law) (sc := defScope s_law) (by decide +kernel)) (fun _ _ _ _ _ => (pg_name (i := 10) sc_law.nd rfl (Or.inl rfl))) (fun _ _ _ _ _ => pts_nil) (fun _ _ _ _ _ => (pe_call (ok__law_span T) (hr.mono (by decide)) rfl T.g__law_span T.F__law_span.kp bind__law_span .nil passL (pa_cons (pv 1) (pa_cons (pv 2) pa_nil))))) (pss_cons (ps_set (i := 5) sc_law.nd rfl (Or.inl rfl) (pe_call (ok__law_near T) (hr.mono (by decide)) rfl T.g__law_near T.F__law_near.kp bind__law_near .nil passL (pa_cons (pv 1) (pa_cons pe_int pa_nil)))) (pss_cons (ps_set (i := 6) sc_law.nd rfl (Or.inl rfl) (pe_call (ok__law_near T) (hr.mono (by decide)) rfl T.g__law_near T.F__law_near.kp bind__law_near .nil passL (pa_cons (pv 1) (pa_cons pe_int pa_nil)))) (pss_cons (ps_set (i := 7) sc_law.nd rfl (Or.inl rfl) (pe_lst (pa_cons (pe_callTy (r := rList1 K) call_list_of (by rfl) T.gb_list bt_list (pa_cons (pv 3) pa_nil)) (pa_cons (pe_callTy (r := rList1 K) call_list_of (by rfl) T.gb_list bt_list (pa_cons (pv 4) pa_nil)) pa_nil)))) (pss_cons (ps_for (passes_of rfl) rfl (pi_range1 (by rfl) T.gb_range (pa_cons (pe_call (ok__law_take T) (hr.mono (by decide)) rfl T.g__law_take T.F__law_take.kp bind__law_take .nil passL (pa_cons (pv 1) (pa_cons pe_int pa_nil))) pa_nil)) (pg_name (i := 8) sc_law.nd rfl (Or.inl rfl)) (pss_cons (ps_set (i := 9) sc_law.nd rfl (Or.inl rfl) (pe_call (ok__law_take T) (hr.mono (by decide)) rfl T.g__law_take T.F__law_take.kp bind__law_take .nil passL (pa_cons (pv 1) (pa_cons pe_int pa_nil)))) (pss_cons (ps_if (pt_cmpR op_gt (pe_callB (r := rLen1 K) call_len_seq (by rfl) T.gb_len bt_len (pa_cons (pe_ix (r := rIxL K) ix_list (pv 7) (pv 9) (fun _ _ => rfl)) pa_nil)) pe_int (nomark _)) (pss_cons (ps_set (i := 10) sc_law.nd rfl (Or.inl rfl) (pe_call (ok__law_take T) (hr.mono (by decide)) rfl T.g__law_take T.F__law_take.kp bind__law_take .nil passL (pa_cons (pv 1) (pa_cons (pe_callB (r := rLen1 K) call_len_seq (by rfl) T.gb_len bt_len (pa_cons (pe_ix (r := rIxL K) ix_list (pv 7) (pv 9) (fun _ _ => rfl)) pa_nil)) pa_nil)))) (pss_cons (ps_set (i := 11) sc_law.nd rfl (Or.inl rfl) (pe_ix (r := rIxL K) ix_list (pv 7) (pv 9) (fun _ _ => rfl))) (pss_cons (ps_if (pt_cmpR op_eq (pv 9) pe_int (nomark _)) (pss_cons (ps_asg (pe_call (ok__law_spoilt_warning T) (hr.mono (by decide)) rfl T.g__law_spoilt_warning T.F__law_spoilt_warning.kp bind__law_spoilt_warning .nil passL (pa_cons (pv 1) (pa_cons (pe_ix (r := rIxL K) ix_list (pv 11) (pv 10) (fun _ _ => rfl)) pa_nil))) (pg_sub (pv 11) (pv 10) set_list)) pss_nil) (pss_cons (ps_asg (pe_call (ok__law_spoilt_span T) (hr.mono (by decide)) rfl T.g__law_spoilt_span T.F__law_spoilt_span.kp bind__law_spoilt_span .nil passL (pa_cons (pv 1) (pa_cons (pe_ix (r := rIxL K) ix_list (pv 11) (pv 10) (fun _ _ => rfl)) pa_nil))) (pg_sub (pv 11) (pv 10) set_list)) pss_nil)) pss_nil))) pss_nil) pss_nil))) (pss_cons (ps_set (i := 12) sc_law.nd rfl (Or.inl rfl) (pe_call (ok__law_due_refusal T) (hr.mono (by decide)) rfl T.g__law_due_refusal T.F__law_due_refusal.kp bind__law_due_refusal .nil passL (pa_cons (pe_ix (r := rIxL K) ix_list (pv 7) pe_int (fun _ _ => rfl)) (pa_cons (pe_ix (r := rIxL K) ix_list (pv 7) pe_int (fun _ _ => rfl)) pa_nil)))) (pss_cons (ps_set (i := 13) sc_law.nd rfl (Or.inl rfl) (pe_lst (pa_cons (pe_callTy (r := rList1 K) call_list_of (by rfl) T.gb_list bt_list (pa_cons (pe_ix (r := rIxL K) ix_list (pv 7) pe_int (fun _ _ => rfl)) pa_nil)) (pa_cons (pe_callTy (r := rList1 K) call_list_of (by rfl) T.gb_list bt_list (pa_cons (pe_ix (r := rIxL K) ix_list (pv 7) pe_int (fun _ _ => rfl)) pa_nil)) pa_nil)))) (pss_cons (ps_for (passes_of rfl) rfl (pi_range1 (by rfl) T.gb_range (pa_cons pe_int pa_nil)) (pg_name (i := 14) sc_law.nd rfl (Or.inl rfl)) (pss_cons (ps_if (PW.pt (pw_or (pt_cmpR (r := rNeD K) (op_neD hr.units) (pe_call (ok__law_refused T) (hr.mono (by decide)) rfl T.g__law_refused T.F__law_refused.kp bind__law_refused .nil passL (pa_cons (pv 14) (pa_cons (pe_ix (r := rIxL K) ix_list (pv 7) pe_int (fun _ _ => rfl)) (pa_cons (pe_ix (r := rIxL K) ix_list (pv 7) pe_int (fun _ _ => rfl)) (pa_cons (pv 5) (pa_cons (pv 6) pa_nil)))))) (pv 12) (nomark _)) (pw_or1 (pt_cmpR (r := rNeD K) (op_neD hr.units) (pv 7) (pv 13) (nomark _))))) (pss_cons (ps_ret pe_bl) pss_nil) pss_nil) pss_nil)) (pss_cons (ps_for (passes_of rfl) rfl (show PI _ _ _ (iList K _) from pi_list (pe_ix (r := rIxL K) ix_list (pv 7) pe_int (fun _ _ => rfl))) (pg_name (i := 15) sc_law.nd rfl (Or.inl rfl)) (pss_cons (ps_for (passes_of rfl) rfl (show PI _ _ _ (iList K _) from pi_list (pe_ix (r := rIxL K) ix_list (pv 7) pe_int (fun _ _ => rfl))) (pg_name (i := 16) sc_law.nd rfl (Or.inl rfl)) (pss_cons (ps_set (i := 17) sc_law.nd rfl (Or.inl rfl) (pe_call (ok_counts_for T) (hr.mono (by decide)) rfl T.g_counts_for T.F_counts_for.kp bind_counts_for .nil passL (pa_cons (pv 15) (pa_cons (pv 16) (pa_cons (pv 5) (pa_cons (pv 6) pa_nil)))))) (pss_cons (ps_if (PW.pt (pw_or (pt_not (pt_val (pe_callB (r := rIsi K) call_isi (by rfl) T.gb_isinstance bt_isinstance (pa_cons (pv 17) (pa_cons (pe_bltn (v := .ty "bool") rfl T.gb_bool bt_bool rfl) pa_nil))))) (pw_or1 (pt_cmpR op_ne (pv 17) (pe_call (ok__law_fits T) (hr.mono (by decide)) rfl T.g__law_fits T.F__law_fits.kp bind__law_fits .nil passL (pa_cons (pv 15) (pa_cons (pv 16) (pa_cons (pv 5) (pa_cons (pv 6) pa_nil))))) (nomark _))))) (pss_cons (ps_ret pe_bl) pss_nil) pss_nil) pss_nil))) pss_nil)) (pss_cons (ps_set (i := 3) sc_law.nd rfl (Or.inl rfl) (pe_slice (r := rSlL K) sl_list (pv 3) po_none (po_some pe_int))) (pss_cons (ps_set (i := 4) sc_law.nd rfl (Or.inl rfl) (pe_slice (r := rSlL K) sl_list (pv 4) po_none (po_some pe_int))) (pss_cons (ps_set (i := 18) sc_law.nd rfl (Or.inl rfl) (pe_tup (pa_cons (pe_callB (r := rLen1 K) call_len_seq (by rfl) T.gb_len bt_len (pa_cons (pv 3) pa_nil)) (pa_cons (pe_callB (r := rLen1 K) call_len_seq (by rfl) T.gb_len bt_len (pa_cons (pv 4) pa_nil)) pa_nil)))) (pss_cons (ps_for (passes_of rfl) rfl (pi_range1 (by rfl) T.gb_range (pa_cons pe_int pa_nil)) (pg_name (i := 8) sc_law.nd rfl (Or.inl rfl)) (pss_cons (ps_set (i := 19) sc_law.nd rfl (Or.inl rfl) (pe_call (ok__law_some_pairs T) (hr.mono (by decide)) rfl T.g__law_some_pairs T.F__law_some_pairs.kp bind__law_some_pairs .nil passL (pa_cons (pv 1) (pa_cons (pv 3) (pa_cons (pv 4) (pa_cons (pv 5) (pa_cons (pv 6) pa_nil))))))) (pss_cons (ps_set (i := 20) sc_law.nd rfl (Or.inl rfl) (pe_call (ok__law_some_lists T) (hr.mono (by decide)) rfl T.g__law_some_lists T.F__law_some_lists.kp bind__law_some_lists .nil passL (pa_cons (pv 1) (pa_cons (pv 3) (pa_cons (pv 4) (pa_cons (pv 5) (pa_cons (pv 6) pa_nil))))))) (Evl.pss_cut (ps_if (pt_cmpR op_gt (pv 8) pe_int (nomark _)) (pss_cons (ps_set (i := 19) sc_law.nd rfl (Or.inl rfl) (pe_call (ok__law_spoilt_pairs T) (hr.mono (by decide)) rfl T.g__law_spoilt_pairs T.F__law_spoilt_pairs.kp bind__law_spoilt_pairs .nil passL (pa_cons (pv 1) (pa_cons (pv 19) (pa_cons (pe_ix (r := rIxT K) ix_tup (pv 18) pe_int (fun _ _ => rfl)) (pa_cons (pe_ix (r := rIxT K) ix_tup (pv 18) pe_int (fun _ _ => rfl)) pa_nil)))))) (pss_cons (ps_set (i := 20) sc_law.nd rfl (Or.inl rfl) (pe_call (ok__law_spoilt_lists T) (hr.mono (by decide)) rfl T.g__law_spoilt_lists T.F__law_spoilt_lists.kp bind__law_spoilt_lists .nil passL (pa_cons (pv 1) (pa_cons (pv 20) (pa_cons (pv 18) pa_nil))))) pss_nil)) pss_nil) (pss_cons (ps_if (pt_not (pt_val (pe_call (ok__law_pairs_judged T) (hr.mono (by decide)) rfl T.g__law_pairs_judged T.F__law_pairs_judged.kp bind__law_pairs_judged .nil passL (pa_cons (pv 3) (pa_cons (pv 4) (pa_cons (pv 5) (pa_cons (pv 6) (pa_cons (pv 19) pa_nil)))))))) (pss_cons (ps_ret pe_bl) pss_nil) pss_nil) (pss_cons (ps_if (pt_not (pt_val (pe_call (ok__law_lists_judged T) (hr.mono (by decide)) rfl T.g__law_lists_judged T.F__law_lists_judged.kp bind__law_lists_judged .nil passL (pa_cons (pv 3) (pa_cons (pv 4) (pa_cons (pv 5) (pa_cons (pv 6) (pa_cons (pv 20) pa_nil)))))))) (pss_cons (ps_ret pe_bl) pss_nil) pss_nil) pss_nil)))))) (pss_cons (ps_for (passes_of rfl) rfl (show PI _ _ _ (iList K _) from pi_list (pe_lst (pa_cons (pe_tup (pa_cons (pe_lst pa_nil) (pa_cons (pe_lst pa_nil) pa_nil))) (pa_cons (pe_tup (pa_cons (pe_listRg (by rfl) (by rfl) T.gb_list (prg_1 (by rfl) T.gb_range (pe_ix (r := rIxT K) ix_tup (pv 18) pe_int (fun _ _ => rfl)))) (pa_cons (pe_lst pa_nil) pa_nil))) (pa_cons (pe_tup (pa_cons (pe_lst pa_nil) (pa_cons (pe_listRg (by rfl) (by rfl) T.gb_list (prg_1 (by rfl) T.gb_range (pe_ix (r := rIxT K) ix_tup (pv 18) pe_int (fun _ _ => rfl)))) pa_nil))) pa_nil))))) (pg_name (i := 20) sc_law.nd rfl (Or.inl rfl)) (pss_cons (ps_if (pt_not (pt_val (pe_call (ok__law_lists_judged T) (hr.mono (by decide)) rfl T.g__law_lists_judged T.F__law_lists_judged.kp bind__law_lists_judged .nil passL (pa_cons (pv 3) (pa_cons (pv 4) (pa_cons (pv 5) (pa_cons (pv 6) (pa_cons (pv 20) pa_nil)))))))) (pss_cons (ps_ret pe_bl) pss_nil) pss_nil) pss_nil)) (pss_cons (ps_ret (pe_call (ok__law_pairs_judged T) (hr.mono (by decide)) rfl T.g__law_pairs_judged T.F__law_pairs_judged.kp bind__law_pairs_judged .nil passL (pa_cons (pv 3) (pa_cons (pv 4) (pa_cons (pv 5) (pa_cons (pv 6) (pa_cons (pe_lst pa_nil) pa_nil))))))) pss_nil)))))))))))))))))), ?_⟩
    refine q_mkpool (E := EZ) (K := K) (σ := [some (.ref a0), none, none, none, none, none, none, none, none, none, none, none, none, none, none, none, none, none, none, none, none]) (i := 1) (j := 0) rfl (Rp.mono _ (Ex.refl _) exz r_script) hs hm fun pool_10 p_1 ws_2 I_3 C_4 H_5 e_6 s_7 hc_8 hx_9 hm => ?_
    have hp_11 : Sep C_4 [Z, (upd Z p_1 (.lst ws_2))] := sep_law hc_8
    refine qm_asg (E := EZ) (K := K) (σ := [some (.ref a0), some (.ref p_1), none, none, none, none, none, none, none, none, none, none, none, none, none, none, none, none, none, none, none]) (i := 2) (m_op (fun _ => (Op2.ofL o_ix)) off_same (m_pure (x_lst (al_cons (x_int (i := 5)) (al_cons (x_int (i := 10)) (al_cons (x_int (i := 20)) (al_cons (x_int (i := 47)) al_nil)))) (Nat.le_of_ble_eq_true rfl))) (m_callM (i := 1) rfl (am_pure (a_one (x_int (i := 4)))))) s_7 hc_8 (Rt.mono _ (Ex.refl _) exz hx_9) hm fun far_12 v_13 ws_19 I_14 C_20 H_15 e_16 s_17 hc_21 k_22 hx_23 r_18 hm => ?_
    have hp_24 : Sep C_20 [Z, (upd Z p_1 (.lst ws_19))] := sep_pool (L1 := [Z]) (L2 := []) hp_11 hc_21 k_22
    refine qm_asg (E := EZ) (K := K) (σ := [some (.ref a0), some (.ref p_1), some v_13, none, none, none, none, none, none, none, none, none, none, none, none, none, none, none, none, none, none]) (i := 3) (m_lc off_same (im_rng1 (am_one (m_callM0 (i := 1) rfl))) g1 (fun _ _ _ _ ⟨_, h, _⟩ => by rw [h]; rfl) (fun x_33 σ2 I_34 C_35 e_36 c_37 ⟨v_38, h, r_39⟩ => by subst h; exact (m_callM (i := 1) rfl (am_pure (a_one (x_var (i := 2) rfl (Rp.mono _ e_36 exz r_18))))))) s_17 hc_21 (Rt.mono _ (Ex.refl _) exz hx_23) hm fun warnings_41 v_42 ws_48 I_43 C_49 H_44 e_45 s_46 hc_50 k_51 hx_52 r_47 hm => ?_
    have hp_53 : Sep C_49 [Z, (upd Z p_1 (.lst ws_48))] := sep_pool (L1 := [Z]) (L2 := []) hp_24 hc_50 k_51
    refine qm_asg (E := EZ) (K := K) (σ := [some (.ref a0), some (.ref p_1), some v_13, some v_42, none, none, none, none, none, none, none, none, none, none, none, none, none, none, none, none, none]) (i := 4) (m_lc off_same (im_rng1 (am_one (m_callM0 (i := 1) rfl))) g1 (fun _ _ _ _ ⟨_, h, _⟩ => by rw [h]; rfl) (fun x_62 σ2 I_63 C_64 e_65 c_66 ⟨v_67, h, r_68⟩ => by subst h; exact (m_callM (i := 1) rfl (am_pure (a_one (x_var (i := 2) rfl (Rp.mono _ (e_45.trans e_65) exz r_18))))))) s_46 hc_50 (Rt.mono _ (Ex.refl _) exz hx_52) hm fun events_70 v_71 ws_77 I_72 C_78 H_73 e_74 s_75 hc_79 k_80 hx_81 r_76 hm => ?_
    have hp_82 : Sep C_78 [Z, (upd Z p_1 (.lst ws_77))] := sep_pool (L1 := [Z]) (L2 := []) hp_53 hc_79 k_80
    refine qm_asg (E := EZ) (K := K) (σ := [some (.ref a0), some (.ref p_1), some v_13, some v_42, some v_71, none, none, none, none, none, none, none, none, none, none, none, none, none, none, none, none]) (i := 5) (m_callM (i := 1) rfl (am_pure (a_one (x_int (i := 24))))) s_75 hc_79 (Rt.mono _ (Ex.refl _) exz hx_81) hm fun lead_83 v_84 ws_90 I_85 C_91 H_86 e_87 s_88 hc_92 k_93 hx_94 r_89 hm => ?_
    have hp_95 : Sep C_91 [Z, (upd Z p_1 (.lst ws_90))] := sep_pool (L1 := [Z]) (L2 := []) hp_82 hc_92 k_93
    refine qm_asg (E := EZ) (K := K) (σ := [some (.ref a0), some (.ref p_1), some v_13, some v_42, some v_71, some v_84, none, none, none, none, none, none, none, none, none, none, none, none, none, none, none]) (i := 6) (m_callM (i := 1) rfl (am_pure (a_one (x_int (i := 24))))) s_88 hc_92 (Rt.mono _ (Ex.refl _) exz hx_94) hm fun slack_96 v_97 ws_103 I_98 C_104 H_99 e_100 s_101 hc_105 k_106 hx_107 r_102 hm => ?_
    have hp_108 : Sep C_104 [Z, (upd Z p_1 (.lst ws_103))] := sep_pool (L1 := [Z]) (L2 := []) hp_95 hc_105 k_106
    refine q_asgW (E := EZ) (K := K) (σ := [some (.ref a0), some (.ref p_1), some v_13, some v_42, some v_71, some v_84, some v_97, none, none, none, none, none, none, none, none, none, none, none, none, none, none]) (i := 7) (w_lst (aw_cons (w_see (seeW_L (seeW_inl (S := (pT (tc pI (t1 pI)))))) (w_N (n_cb n_list (a_one (x_v (x_var (i := 3) rfl (Rp.mono _ (e_74.trans (e_87.trans e_100)) exz r_47))))))) (aw_cons (w_see (seeW_L (seeW_inr (R := (pT (tc pI (tc pI (t1 pI))))))) (w_N (n_cb n_list (a_one (x_v (x_var (i := 4) rfl (Rp.mono _ (e_87.trans e_100) exz r_76))))))) aw_nil)) (Nat.le_of_ble_eq_true rfl)) s_101 hp_108 (fun _ _ h => h.elim) hm fun spoilt_109 v_110 T_111 I_112 C_113 H_114 e_115 s_116 r_117 hp_118 hm => ?_
    replace hp_118 : Sep C_113 [Z, (upd Z p_1 (.lst ws_103)), T_111] := hp_118
    refine qm_forN (E := EZ) (K := K) (σ := [some (.ref a0), some (.ref p_1), some v_13, some v_42, some v_71, some v_84, some v_97, some v_110, none, none, none, none, none, none, none, none, none, none, none, none, none]) (s0 := fun (y_142 : Pl) => (spoilt_109, y_142)) (fun (z_119 : ((List (List ((Int × Int × Int) ⊕ (Int × Int)))) × Pl)) σ2 I_125 C_126 => ∃ w_121 : Option V, ∃ w_122 : Option V, ∃ w_123 : Option V, ∃ w_124 : Option V, ∃ T_127 : Hp, ∃ ws_129 : List V, σ2 = [some (.ref a0), some (.ref p_1), some v_13, some v_42, some v_71, some v_84, some v_97, some v_110, w_121, w_122, w_123, w_124, none, none, none, none, none, none, none, none, none] ∧ Rp.r (oL (oL (pX (pT (tc pI (tc pI (t1 pI)))) (pT (tc pI (t1 pI)))))) z_119.1 v_110 I_125 T_127 ∧ C_126 p_1 = some (.lst ws_129) ∧ Rt.r pM z_119.2 ws_129 I_125 Z ∧ Sep C_126 [Z, (upd Z p_1 (.lst ws_129)), T_127]) (im_rng1 (am_one (m_callM (i := 1) rfl (am_pure (a_one (x_int (i := 3))))))) s_116 (Sep.get (L1 := [Z]) (L2 := [T_111]) hp_118 _ _ upd_same) (Rt.mono _ e_115 exz hx_107) hm (fun y_142 ws_143 I_144 C_145 e_141 hc_146 k_147 hx_148 => by
      have hp_149 : Sep C_145 [Z, (upd Z p_1 (.lst ws_143)), T_111] := sep_pool (L1 := [Z]) (L2 := [T_111]) hp_118 hc_146 k_147
      exact ⟨none, none, none, none, T_111, ws_143, rfl, Rp.mono _ e_141 (Ex.refl _) r_117, hc_146, Rt.mono _ (Ex.refl _) exz hx_148, hp_149⟩) (fun _ _ _ _ _ e ⟨w_121, w_122, w_123, w_124, T_127, ws_129, hs_120, r_128, hc_130, hx_131, fr_132⟩ => ⟨w_121, w_122, w_123, w_124, T_127, ws_129, hs_120, Rp.mono _ e (Ex.refl _) r_128, hc_130, Rt.mono _ e exz hx_131, fr_132⟩) (fun N x_133 v_134 z_119 σ2 I_135 C_136 H_137 e_138 s_139 ⟨w_121, w_122, w_123, w_124, T_127, ws_129, hs_120, r_128, hc_130, hx_131, fr_132⟩ r_140 hm => ?_) (fun z_242 σ2 I_237 C_238 H_239 e_240 s_241 ⟨w_244, w_245, w_246, w_247, T_250, ws_252, hs_243, r_251, hc_253, hx_254, fr_255⟩ hm => ?_)
    · subst hs_120
      refine g1 (K := K) x_133 v_134 I_135 C_136 H_137 _ s_139 r_140 fun σ2 ⟨v_150, hs_152, r_151⟩ => ?_
      subst hs_152
      refine qm_asg (E := EZ) (K := K) (σ := [some (.ref a0), some (.ref p_1), some v_13, some v_42, some v_71, some v_84, some v_97, some v_110, some v_150, w_122, w_123, w_124, none, none, none, none, none, none, none, none, none]) (i := 9) (m_callM (i := 1) rfl (am_pure (a_one (x_int (i := 2))))) s_139 hc_130 (Rt.mono _ (Ex.refl _) exz hx_131) hm fun side_153 v_154 ws_160 I_155 C_161 H_156 e_157 s_158 hc_162 k_163 hx_164 r_159 hm => ?_
      have hp_165 : Sep C_161 [Z, (upd Z p_1 (.lst ws_160)), T_127] := sep_pool (L1 := [Z]) (L2 := [T_127]) fr_132 hc_162 k_163
      refine s_if (E := EZ) (K := K) (σ := [some (.ref a0), some (.ref p_1), some v_13, some v_42, some v_71, some v_84, some v_97, some v_110, some v_150, some v_154, w_123, w_124, none, none, none, none, none, none, none, none, none]) (t_test (x_op o_gt (x_cb o_len (a_one (x_op o_ix (x_var (i := 7) rfl (Vw.vw (Rp.mono _ e_157 (Ex.refl _) r_128) (Sep.get (L1 := [Z, (upd Z p_1 (.lst ws_160))]) (L2 := []) hp_165))) (x_var (i := 9) rfl (Rp.mono _ (Ex.refl _) exz r_159))))) (x_int (i := 0)))) s_158 (fun _ _ h => h.elim) hm (fun I_166 H_167 e_168 s_169 hm => ?_) (fun I_170 H_171 e_172 s_173 hm => ?_)
      · refine qm_asg (E := EZ) (K := K) (σ := [some (.ref a0), some (.ref p_1), some v_13, some v_42, some v_71, some v_84, some v_97, some v_110, some v_150, some v_154, w_123, w_124, none, none, none, none, none, none, none, none, none]) (i := 10) (m_callM (i := 1) rfl (am_pure (a_one (x_cb o_len (a_one (x_op o_ix (x_var (i := 7) rfl (Vw.vw (Rp.mono _ (e_157.trans e_168) (Ex.refl _) r_128) (sep_off (p := p_1) (o := .lst ws_160) (L1 := [Z, (upd Z p_1 (.lst ws_160))]) (L2 := []) hp_165 (by simp)))) (x_var (i := 9) rfl (Rp.mono _ e_168 exz r_159)))))))) s_169 hc_162 (Rt.mono _ e_168 exz hx_164) hm fun k_174 v_175 ws_181 I_176 C_182 H_177 e_178 s_179 hc_183 k_184 hx_185 r_180 hm => ?_
        have hp_186 : Sep C_182 [Z, (upd Z p_1 (.lst ws_181)), T_127] := sep_pool (L1 := [Z]) (L2 := [T_127]) hp_165 hc_183 k_184
        refine q_alias (E := EZ) (K := K) (σ := [some (.ref a0), some (.ref p_1), some v_13, some v_42, some v_71, some v_84, some v_97, some v_110, some v_150, some v_154, some v_175, w_124, none, none, none, none, none, none, none, none, none]) (i := 11) (pl_ix (Sep.get (L1 := [Z, (upd Z p_1 (.lst ws_181))]) (L2 := []) hp_186) (pl_var (i := 7) rfl (Rp.mono _ (e_157.trans (e_168.trans e_178)) (Ex.refl _) r_128)) (x_var (i := 9) rfl (Rp.mono _ (e_168.trans e_178) exz r_159))) s_179 (fun _ _ h => h.elim) hm fun row_187 v_188 t_189 I_190 H_191 e_192 s_193 f_194 hm => ?_
        refine s_if (E := EZ) (K := K) (σ := [some (.ref a0), some (.ref p_1), some v_13, some v_42, some v_71, some v_84, some v_97, some v_110, some v_150, some v_154, some v_175, some v_188, none, none, none, none, none, none, none, none, none]) (t_test (x_op o_eqI (x_var (i := 9) rfl (Rp.mono _ (e_168.trans (e_178.trans e_192)) exz r_159)) (x_int (i := 0)))) s_193 (fun _ _ h => h.elim) hm (fun I_195 H_196 e_197 s_198 hm => ?_) (fun I_199 H_200 e_201 s_202 hm => ?_)
        · refine qm_setP (E := EZ) (K := K) (σ := [some (.ref a0), some (.ref p_1), some v_13, some v_42, some v_71, some v_84, some v_97, some v_110, some v_150, some v_154, some v_175, some v_188, none, none, none, none, none, none, none, none, none]) (R := (oL (oL (pX (pT (tc pI (tc pI (t1 pI)))) (pT (tc pI (t1 pI))))))) (L1 := [Z, (upd Z p_1 (.lst ws_181))]) (L2 := []) (m_inl (S := (pT (tc pI (t1 pI)))) (m_callM (i := 1) rfl (am_pure (a_one (x_getL (x_op o_ix (x_var (i := 11) rfl (Vw.vw (Rp.mono _ e_197 (Ex.refl _) (Foc.r f_194)) (Ex.trans (Foc.ex f_194) (sep_off (p := p_1) (o := .lst ws_181) (L1 := [Z, (upd Z p_1 (.lst ws_181))]) (L2 := []) hp_186 (by simp))))) (x_var (i := 10) rfl (Rp.mono _ (e_192.trans e_197) exz r_180)))))))) (pl_foc (i := 11) rfl (Foc.mono e_197 f_194)) (x_var (i := 10) rfl (Rp.mono _ (e_192.trans e_197) exz r_180)) s_198 hp_186 hc_183 (sep_no (p := p_1) (o := .lst ws_181) (L1 := [Z, (upd Z p_1 (.lst ws_181))]) (L2 := []) hp_186 (by simp)) (Rt.mono _ (e_192.trans e_197) exz hx_185) hm fun spoilt_203 T_204 ws_205 I_206 C_207 H_208 e_209 s_210 hc_211 hx_212 r_213 ⟨C_214, hc_215, k_216, h_217⟩ hm => ?_
          have hp_218 : Sep C_214 [Z, (upd Z p_1 (.lst ws_205)), T_127] := sep_pool (L1 := [Z]) (L2 := [T_127]) hp_186 hc_215 k_216
          have hp_219 : Sep C_207 [Z, (upd Z p_1 (.lst ws_205)), T_204] := h_217 [Z, (upd Z p_1 (.lst ws_205))] [] hp_218
          exact hm _ _ _ _ (e_157.trans (e_168.trans (e_178.trans (e_192.trans (e_197.trans e_209))))) s_210 ⟨some v_150, some v_154, some v_175, some v_188, T_204, ws_205, rfl, Rp.mono _ (Ex.refl _) (Ex.refl _) r_213, (Sep.get (L1 := [Z]) (L2 := [T_204]) hp_219 _ _ upd_same), Rt.mono _ (Ex.refl _) exz hx_212, hp_219⟩
        · refine qm_setP (E := EZ) (K := K) (σ := [some (.ref a0), some (.ref p_1), some v_13, some v_42, some v_71, some v_84, some v_97, some v_110, some v_150, some v_154, some v_175, some v_188, none, none, none, none, none, none, none, none, none]) (R := (oL (oL (pX (pT (tc pI (tc pI (t1 pI)))) (pT (tc pI (t1 pI))))))) (L1 := [Z, (upd Z p_1 (.lst ws_181))]) (L2 := []) (m_inr (R := (pT (tc pI (tc pI (t1 pI))))) (m_callM (i := 1) rfl (am_pure (a_one (x_getR (x_op o_ix (x_var (i := 11) rfl (Vw.vw (Rp.mono _ e_201 (Ex.refl _) (Foc.r f_194)) (Ex.trans (Foc.ex f_194) (sep_off (p := p_1) (o := .lst ws_181) (L1 := [Z, (upd Z p_1 (.lst ws_181))]) (L2 := []) hp_186 (by simp))))) (x_var (i := 10) rfl (Rp.mono _ (e_192.trans e_201) exz r_180)))))))) (pl_foc (i := 11) rfl (Foc.mono e_201 f_194)) (x_var (i := 10) rfl (Rp.mono _ (e_192.trans e_201) exz r_180)) s_202 hp_186 hc_183 (sep_no (p := p_1) (o := .lst ws_181) (L1 := [Z, (upd Z p_1 (.lst ws_181))]) (L2 := []) hp_186 (by simp)) (Rt.mono _ (e_192.trans e_201) exz hx_185) hm fun spoilt_220 T_221 ws_222 I_223 C_224 H_225 e_226 s_227 hc_228 hx_229 r_230 ⟨C_231, hc_232, k_233, h_234⟩ hm => ?_
          have hp_235 : Sep C_231 [Z, (upd Z p_1 (.lst ws_222)), T_127] := sep_pool (L1 := [Z]) (L2 := [T_127]) hp_186 hc_232 k_233
          have hp_236 : Sep C_224 [Z, (upd Z p_1 (.lst ws_222)), T_221] := h_234 [Z, (upd Z p_1 (.lst ws_222))] [] hp_235
          exact hm _ _ _ _ (e_157.trans (e_168.trans (e_178.trans (e_192.trans (e_201.trans e_226))))) s_227 ⟨some v_150, some v_154, some v_175, some v_188, T_221, ws_222, rfl, Rp.mono _ (Ex.refl _) (Ex.refl _) r_230, (Sep.get (L1 := [Z]) (L2 := [T_221]) hp_236 _ _ upd_same), Rt.mono _ (Ex.refl _) exz hx_229, hp_236⟩
      · exact hm _ _ _ _ (e_157.trans e_172) s_173 ⟨some v_150, some v_154, w_123, w_124, T_127, ws_160, rfl, Rp.mono _ (e_157.trans e_172) (Ex.refl _) r_128, hc_162, Rt.mono _ e_172 exz hx_164, hp_165⟩
    subst hs_243
    refine q_asg (E := EZ) (K := K) (σ := [some (.ref a0), some (.ref p_1), some v_13, some v_42, some v_71, some v_84, some v_97, some v_110, w_244, w_245, w_246, w_247, none, none, none, none, none, none, none, none, none]) (i := 12) (x_call (a_cons (x_lefts (x_op o_ix (x_var (i := 7) rfl (Vw.vw (Rp.mono _ (Ex.refl _) (Ex.refl _) r_251) (Sep.get (L1 := [Z, (upd Z p_1 (.lst ws_252))]) (L2 := []) fr_255))) (x_int (i := 0)))) (a_one (x_rights (x_op o_ix (x_var (i := 7) rfl (Vw.vw (Rp.mono _ (Ex.refl _) (Ex.refl _) r_251) (Sep.get (L1 := [Z, (upd Z p_1 (.lst ws_252))]) (L2 := []) fr_255))) (x_int (i := 1))))))) s_241 (fun _ _ h => h.elim) hm fun due_256 v_257 I_258 H_259 e_260 s_261 r_262 hm => ?_
    refine q_asg (E := EZ) (K := K) (σ := [some (.ref a0), some (.ref p_1), some v_13, some v_42, some v_71, some v_84, some v_97, some v_110, w_244, w_245, w_246, w_247, some v_257, none, none, none, none, none, none, none, none]) (i := 13) (x_lst (al_cons (x_cb o_list (a_one (x_op o_ix (x_var (i := 7) rfl (Vw.vw (Rp.mono _ e_260 (Ex.refl _) r_251) (Sep.get (L1 := [Z, (upd Z p_1 (.lst ws_252))]) (L2 := []) fr_255))) (x_int (i := 0))))) (al_cons (x_cb o_list (a_one (x_op o_ix (x_var (i := 7) rfl (Vw.vw (Rp.mono _ e_260 (Ex.refl _) r_251) (Sep.get (L1 := [Z, (upd Z p_1 (.lst ws_252))]) (L2 := []) fr_255))) (x_int (i := 1))))) al_nil)) (Nat.le_of_ble_eq_true rfl)) s_261 (fun _ _ h => h.elim) hm fun kept_263 v_264 I_265 H_266 e_267 s_268 r_269 hm => ?_
    refine s_forR (E := EZ) (K := K) (σ := [some (.ref a0), some (.ref p_1), some v_13, some v_42, some v_71, some v_84, some v_97, some v_110, w_244, w_245, w_246, w_247, some v_257, some v_264, none, none, none, none, none, none, none]) (fun (z_270 : Unit) σ2 I_273 C_274 => ∃ w_272 : Option V, σ2 = [some (.ref a0), some (.ref p_1), some v_13, some v_42, some v_71, some v_84, some v_97, some v_110, w_244, w_245, w_246, w_247, some v_257, some v_264, w_272, none, none, none, none, none, none] ∧ C_274 p_1 = some (.lst ws_252) ∧ Sep C_274 [Z, (upd Z p_1 (.lst ws_252)), T_250]) (i_rng1 (a_one (x_int (i := 7)))) s_268 (fun _ _ h => h.elim) hm (fun _ e_285 => ⟨none, rfl, hc_253, fr_255⟩) (fun _ _ _ _ _ => trivial) (fun _ _ _ _ _ e ⟨w_272, hs_271, hc_275, fr_276⟩ => ⟨w_272, hs_271, hc_275, fr_276⟩) (fun N x_277 v_278 z_270 σ2 I_279 C_280 H_281 e_282 s_283 ⟨w_272, hs_271, hc_275, fr_276⟩ r_284 hm => ?_) (fun z_309 σ2 I_304 C_305 H_306 e_307 s_308 ⟨w_311, hs_310, hc_314, fr_315⟩ hm => ?_)
    · subst hs_271
      refine g1 (K := K) x_277 v_278 I_279 C_280 H_281 _ s_283 r_284 fun σ2 ⟨v_286, hs_288, r_287⟩ => ?_
      subst hs_288
      refine s_if (E := EZ) (K := K) (σ := [some (.ref a0), some (.ref p_1), some v_13, some v_42, some v_71, some v_84, some v_97, some v_110, w_244, w_245, w_246, w_247, some v_257, some v_264, some v_286, none, none, none, none, none, none]) (t_or (t_test (x_op (o_neD (de_opt (de_tup (dt_cons de_str (dt_one de_int))) (fun _ => ⟨by simp [PyData.eqv], by simp [PyData.eqv]⟩)) (de_opt (de_tup (dt_cons de_str (dt_one de_int))) (fun _ => ⟨by simp [PyData.eqv], by simp [PyData.eqv]⟩)) (by decide)) (x_call (a_cons (x_var (i := 14) rfl (Rp.mono _ (Ex.refl _) exz r_287)) (a_cons (x_lefts (x_op o_ix (x_var (i := 7) rfl (Vw.vw (Rp.mono _ (e_260.trans (e_267.trans e_282)) (Ex.refl _) r_251) (Sep.get (L1 := [Z, (upd Z p_1 (.lst ws_252))]) (L2 := []) fr_276))) (x_int (i := 0)))) (a_cons (x_rights (x_op o_ix (x_var (i := 7) rfl (Vw.vw (Rp.mono _ (e_260.trans (e_267.trans e_282)) (Ex.refl _) r_251) (Sep.get (L1 := [Z, (upd Z p_1 (.lst ws_252))]) (L2 := []) fr_276))) (x_int (i := 1)))) (a_cons (x_var (i := 5) rfl (Rp.mono _ (e_100.trans (e_115.trans (e_240.trans (e_260.trans (e_267.trans e_282))))) exz r_89)) (a_one (x_var (i := 6) rfl (Rp.mono _ (e_115.trans (e_240.trans (e_260.trans (e_267.trans e_282)))) exz r_102)))))))) (x_var (i := 12) rfl (Rp.mono _ (e_267.trans e_282) exz r_262)))) (t_test (x_op (o_neD (de_vw (de_vw (de_sum (de_tup (dt_cons de_int (dt_cons de_int (dt_one de_int)))) (de_tup (dt_cons de_int (dt_one de_int))) (fun a b => ⟨by simp [PyData.eqv, PyData.eqvAll], by simp [PyData.eqv, PyData.eqvAll]⟩)))) (de_lst (de_lst (de_sum (de_tup (dt_cons de_int (dt_cons de_int (dt_one de_int)))) (de_tup (dt_cons de_int (dt_one de_int))) (fun a b => ⟨by simp [PyData.eqv, PyData.eqvAll], by simp [PyData.eqv, PyData.eqvAll]⟩)))) (by decide)) (x_var (i := 7) rfl (Vw.vw (Rp.mono _ (e_260.trans (e_267.trans e_282)) (Ex.refl _) r_251) (Sep.get (L1 := [Z, (upd Z p_1 (.lst ws_252))]) (L2 := []) fr_276))) (x_var (i := 13) rfl (Rp.mono _ e_282 exz r_269))))) s_283 (fun _ _ h => h.elim) hm (fun I_289 H_290 e_291 s_292 hm => ?_) (fun I_293 H_294 e_295 s_296 hm => ?_)
      · refine q_ret (tz := tNext) (E := EZ) (K := K) (σ := [some (.ref a0), some (.ref p_1), some v_13, some v_42, some v_71, some v_84, some v_97, some v_110, w_244, w_245, w_246, w_247, some v_257, some v_264, some v_286, none, none, none, none, none, none]) x_bl s_292 (fun _ _ h => h.elim) hm fun a_297 v_298 I_299 H_300 e_301 s_302 r_303 hm => ?_
        exact hm v_298 H_300 r_303
      · exact hm _ _ _ _ e_295 s_296 ⟨some v_286, rfl, hc_275, fr_276⟩
    subst hs_310
    refine s_forR (E := EZ) (K := K) (σ := [some (.ref a0), some (.ref p_1), some v_13, some v_42, some v_71, some v_84, some v_97, some v_110, w_244, w_245, w_246, w_247, some v_257, some v_264, w_311, none, none, none, none, none, none]) (fun (z_316 : Unit) σ2 I_321 C_322 => ∃ w_318 : Option V, ∃ w_319 : Option V, ∃ w_320 : Option V, σ2 = [some (.ref a0), some (.ref p_1), some v_13, some v_42, some v_71, some v_84, some v_97, some v_110, w_244, w_245, w_246, w_247, some v_257, some v_264, w_311, w_318, w_319, w_320, none, none, none] ∧ C_322 p_1 = some (.lst ws_252) ∧ Sep C_322 [Z, (upd Z p_1 (.lst ws_252)), T_250]) (i_place (pl_ix (Sep.get (L1 := [Z, (upd Z p_1 (.lst ws_252))]) (L2 := []) fr_315) (pl_var (i := 7) rfl (Rp.mono _ (e_260.trans (e_267.trans e_307)) (Ex.refl _) r_251)) (x_int (i := 0))) (Sep.get (L1 := [Z, (upd Z p_1 (.lst ws_252))]) (L2 := []) fr_315)) s_308 (fun _ _ h => h.elim) hm (fun _ e_333 => ⟨none, none, none, rfl, hc_314, fr_315⟩) (fun _ _ _ _ ⟨w_318, w_319, w_320, hs_317, hc_323, fr_324⟩ => (Sep.get (L1 := [Z, (upd Z p_1 (.lst ws_252))]) (L2 := []) fr_324)) (fun _ _ _ _ _ e ⟨w_318, w_319, w_320, hs_317, hc_323, fr_324⟩ => ⟨w_318, w_319, w_320, hs_317, hc_323, fr_324⟩) (fun N x_325 v_326 z_316 σ2 I_327 C_328 H_329 e_330 s_331 ⟨w_318, w_319, w_320, hs_317, hc_323, fr_324⟩ r_332 hm => ?_) (fun z_397 σ2 I_392 C_393 H_394 e_395 s_396 ⟨w_399, w_400, w_401, hs_398, hc_404, fr_405⟩ hm => ?_)
    · subst hs_317
      refine g1 (K := K) x_325 v_326 I_327 C_328 H_329 _ s_331 r_332 fun σ2 ⟨v_334, hs_336, r_335⟩ => ?_
      subst hs_336
      refine s_forR (E := EZ) (K := K) (σ := [some (.ref a0), some (.ref p_1), some v_13, some v_42, some v_71, some v_84, some v_97, some v_110, w_244, w_245, w_246, w_247, some v_257, some v_264, w_311, some v_334, w_319, w_320, none, none, none]) (fun (z_337 : Unit) σ2 I_341 C_342 => ∃ w_339 : Option V, ∃ w_340 : Option V, σ2 = [some (.ref a0), some (.ref p_1), some v_13, some v_42, some v_71, some v_84, some v_97, some v_110, w_244, w_245, w_246, w_247, some v_257, some v_264, w_311, some v_334, w_339, w_340, none, none, none] ∧ C_342 p_1 = some (.lst ws_252) ∧ Sep C_342 [Z, (upd Z p_1 (.lst ws_252)), T_250]) (i_place (pl_ix (Sep.get (L1 := [Z, (upd Z p_1 (.lst ws_252))]) (L2 := []) fr_324) (pl_var (i := 7) rfl (Rp.mono _ (e_260.trans (e_267.trans (e_307.trans e_330))) (Ex.refl _) r_251)) (x_int (i := 1))) (Sep.get (L1 := [Z, (upd Z p_1 (.lst ws_252))]) (L2 := []) fr_324)) s_331 (fun _ _ h => h.elim) hm (fun _ e_353 => ⟨w_319, w_320, rfl, hc_323, fr_324⟩) (fun _ _ _ _ ⟨w_339, w_340, hs_338, hc_343, fr_344⟩ => (Sep.get (L1 := [Z, (upd Z p_1 (.lst ws_252))]) (L2 := []) fr_344)) (fun _ _ _ _ _ e ⟨w_339, w_340, hs_338, hc_343, fr_344⟩ => ⟨w_339, w_340, hs_338, hc_343, fr_344⟩) (fun N x_345 v_346 z_337 σ2 I_347 C_348 H_349 e_350 s_351 ⟨w_339, w_340, hs_338, hc_343, fr_344⟩ r_352 hm => ?_) (fun z_384 σ2 I_379 C_380 H_381 e_382 s_383 ⟨w_386, w_387, hs_385, hc_390, fr_391⟩ hm => ?_)
      · subst hs_338
        refine g1 (K := K) x_345 v_346 I_347 C_348 H_349 _ s_351 r_352 fun σ2 ⟨v_354, hs_356, r_355⟩ => ?_
        subst hs_356
        refine q_asg (E := EZ) (K := K) (σ := [some (.ref a0), some (.ref p_1), some v_13, some v_42, some v_71, some v_84, some v_97, some v_110, w_244, w_245, w_246, w_247, some v_257, some v_264, w_311, some v_334, some v_354, w_340, none, none, none]) (i := 17) (x_call (a_cons (x_getL (x_var (i := 15) rfl (Rp.mono _ e_350 exz r_335))) (a_cons (x_getR (x_var (i := 16) rfl (Rp.mono _ (Ex.refl _) exz r_355))) (a_cons (x_var (i := 5) rfl (Rp.mono _ (e_100.trans (e_115.trans (e_240.trans (e_260.trans (e_267.trans (e_307.trans (e_330.trans e_350))))))) exz r_89)) (a_one (x_var (i := 6) rfl (Rp.mono _ (e_115.trans (e_240.trans (e_260.trans (e_267.trans (e_307.trans (e_330.trans e_350)))))) exz r_102))))))) s_351 (fun _ _ h => h.elim) hm fun told_357 v_358 I_359 H_360 e_361 s_362 r_363 hm => ?_
        refine s_if (E := EZ) (K := K) (σ := [some (.ref a0), some (.ref p_1), some v_13, some v_42, some v_71, some v_84, some v_97, some v_110, w_244, w_245, w_246, w_247, some v_257, some v_264, w_311, some v_334, some v_354, some v_358, none, none, none]) (t_or (t_not (t_B (x_cb (o_isi (n := "bool") (by decide +kernel)) (a_cons (x_var (i := 17) rfl (Rp.mono _ (Ex.refl _) exz r_363)) (a_one (x_c (R := pY "bool") (a := ()) fun _ _ => rfl)))))) (t_test (x_op o_neB (x_var (i := 17) rfl (Rp.mono _ (Ex.refl _) exz r_363)) (x_call (a_cons (x_getL (x_var (i := 15) rfl (Rp.mono _ (e_350.trans e_361) exz r_335))) (a_cons (x_getR (x_var (i := 16) rfl (Rp.mono _ e_361 exz r_355))) (a_cons (x_var (i := 5) rfl (Rp.mono _ (e_100.trans (e_115.trans (e_240.trans (e_260.trans (e_267.trans (e_307.trans (e_330.trans (e_350.trans e_361)))))))) exz r_89)) (a_one (x_var (i := 6) rfl (Rp.mono _ (e_115.trans (e_240.trans (e_260.trans (e_267.trans (e_307.trans (e_330.trans (e_350.trans e_361))))))) exz r_102)))))))))) s_362 (fun _ _ h => h.elim) hm (fun I_364 H_365 e_366 s_367 hm => ?_) (fun I_368 H_369 e_370 s_371 hm => ?_)
        · refine q_ret (tz := tNext) (E := EZ) (K := K) (σ := [some (.ref a0), some (.ref p_1), some v_13, some v_42, some v_71, some v_84, some v_97, some v_110, w_244, w_245, w_246, w_247, some v_257, some v_264, w_311, some v_334, some v_354, some v_358, none, none, none]) x_bl s_367 (fun _ _ h => h.elim) hm fun a_372 v_373 I_374 H_375 e_376 s_377 r_378 hm => ?_
          exact hm v_373 H_375 r_378
        · exact hm _ _ _ _ (e_361.trans e_370) s_371 ⟨some v_354, some v_358, rfl, hc_343, fr_344⟩
      subst hs_385
      exact hm _ _ _ _ e_382 s_383 ⟨some v_334, w_386, w_387, rfl, hc_390, fr_391⟩
    subst hs_398
    refine q_asg (E := EZ) (K := K) (σ := [some (.ref a0), some (.ref p_1), some v_13, some v_42, some v_71, some v_84, some v_97, some v_110, w_244, w_245, w_246, w_247, some v_257, some v_264, w_311, w_399, w_400, w_401, none, none, none]) (i := 3) (x_sl (x_v (x_var (i := 3) rfl (Rp.mono _ (e_74.trans (e_87.trans (e_100.trans (e_115.trans (e_240.trans (e_260.trans (e_267.trans (e_307.trans e_395)))))))) exz r_47))) p_none (p_some (x_int (i := 12)))) s_396 (fun _ _ h => h.elim) hm fun warnings_406 v_407 I_408 H_409 e_410 s_411 r_412 hm => ?_
    refine q_asg (E := EZ) (K := K) (σ := [some (.ref a0), some (.ref p_1), some v_13, some v_407, some v_71, some v_84, some v_97, some v_110, w_244, w_245, w_246, w_247, some v_257, some v_264, w_311, w_399, w_400, w_401, none, none, none]) (i := 4) (x_sl (x_v (x_var (i := 4) rfl (Rp.mono _ (e_87.trans (e_100.trans (e_115.trans (e_240.trans (e_260.trans (e_267.trans (e_307.trans (e_395.trans e_410)))))))) exz r_76))) p_none (p_some (x_int (i := 12)))) s_411 (fun _ _ h => h.elim) hm fun events_413 v_414 I_415 H_416 e_417 s_418 r_419 hm => ?_
    refine q_asg (E := EZ) (K := K) (σ := [some (.ref a0), some (.ref p_1), some v_13, some v_407, some v_414, some v_84, some v_97, some v_110, w_244, w_245, w_246, w_247, some v_257, some v_264, w_311, w_399, w_400, w_401, none, none, none]) (i := 18) (x_tup (a_cons (x_cb o_len (a_one (x_v (x_var (i := 3) rfl (Rp.mono _ e_417 exz r_412))))) (a_one (x_cb o_len (a_one (x_v (x_var (i := 4) rfl (Rp.mono _ (Ex.refl _) exz r_419))))))) (Nat.le_of_ble_eq_true rfl)) s_418 (fun _ _ h => h.elim) hm fun sizes_420 v_421 I_422 H_423 e_424 s_425 r_426 hm => ?_
    refine s_forR (E := EZ) (K := K) (σ := [some (.ref a0), some (.ref p_1), some v_13, some v_407, some v_414, some v_84, some v_97, some v_110, w_244, w_245, w_246, w_247, some v_257, some v_264, w_311, w_399, w_400, w_401, some v_421, none, none]) (fun (z_427 : Pl) σ2 I_432 C_433 => ∃ w_429 : Option V, ∃ w_430 : Option V, ∃ w_431 : Option V, ∃ ws_434 : List V, σ2 = [some (.ref a0), some (.ref p_1), some v_13, some v_407, some v_414, some v_84, some v_97, some v_110, w_429, w_245, w_246, w_247, some v_257, some v_264, w_311, w_399, w_400, w_401, some v_421, w_430, w_431] ∧ C_433 p_1 = some (.lst ws_434) ∧ Rt.r pM z_427 ws_434 I_432 Z ∧ Sep C_433 [Z, (upd Z p_1 (.lst ws_434)), T_250]) (i_rng1 (a_one (x_int (i := 7)))) s_425 (fun _ _ h => h.elim) hm (fun _ e_446 => ⟨w_244, none, none, ws_252, rfl, hc_404, Rt.mono _ (Ex.trans (e_260.trans (e_267.trans (e_307.trans (e_395.trans (e_410.trans (e_417.trans e_424)))))) e_446) exz hx_254, fr_405⟩) (fun _ _ _ _ _ => trivial) (fun _ _ _ _ _ e ⟨w_429, w_430, w_431, ws_434, hs_428, hc_435, hx_436, fr_437⟩ => ⟨w_429, w_430, w_431, ws_434, hs_428, hc_435, Rt.mono _ e exz hx_436, fr_437⟩) (fun N x_438 v_439 z_427 σ2 I_440 C_441 H_442 e_443 s_444 ⟨w_429, w_430, w_431, ws_434, hs_428, hc_435, hx_436, fr_437⟩ r_445 hm => ?_) (fun z_562 σ2 I_557 C_558 H_559 e_560 s_561 ⟨w_564, w_565, w_566, ws_569, hs_563, hc_570, hx_571, fr_572⟩ hm => ?_)
    · subst hs_428
      refine g1 (K := K) x_438 v_439 I_440 C_441 H_442 _ s_444 r_445 fun σ2 ⟨v_447, hs_449, r_448⟩ => ?_
      subst hs_449
      refine qm_asg (E := EZ) (K := K) (σ := [some (.ref a0), some (.ref p_1), some v_13, some v_407, some v_414, some v_84, some v_97, some v_110, some v_447, w_245, w_246, w_247, some v_257, some v_264, w_311, w_399, w_400, w_401, some v_421, w_430, w_431]) (i := 19) (m_callMo (i := 1) off_same rfl (amo_var (R := (pV (pT (tc pI (tc pI (t1 pI)))))) (i := 3) rfl (pLV (Rp.mono _ (e_417.trans (e_424.trans e_443)) exz r_412)) (amo_var (R := (pV (pT (tc pI (t1 pI))))) (i := 4) rfl (pLV (Rp.mono _ (e_424.trans e_443) exz r_419)) (amo_cons off_same (m_pure (x_var (i := 5) rfl (Rp.mono _ (e_100.trans (e_115.trans (e_240.trans (e_260.trans (e_267.trans (e_307.trans (e_395.trans (e_410.trans (e_417.trans (e_424.trans e_443)))))))))) exz r_89))) (amo (am_one (m_pure (x_var (i := 6) rfl (Rp.mono _ (e_115.trans (e_240.trans (e_260.trans (e_267.trans (e_307.trans (e_395.trans (e_410.trans (e_417.trans (e_424.trans e_443))))))))) exz r_102))))))))) s_444 hc_435 (Rt.mono _ (Ex.refl _) exz hx_436) hm fun pairs_450 v_451 ws_457 I_452 C_458 H_453 e_454 s_455 hc_459 k_460 hx_461 r_456 hm => ?_
      have hp_462 : Sep C_458 [Z, (upd Z p_1 (.lst ws_457)), T_250] := sep_pool (L1 := [Z]) (L2 := [T_250]) fr_437 hc_459 k_460
      refine qm_asg (E := EZ) (K := K) (σ := [some (.ref a0), some (.ref p_1), some v_13, some v_407, some v_414, some v_84, some v_97, some v_110, some v_447, w_245, w_246, w_247, some v_257, some v_264, w_311, w_399, w_400, w_401, some v_421, some v_451, w_431]) (i := 20) (m_callMo (i := 1) off_same rfl (amo_var (R := (pV (pT (tc pI (tc pI (t1 pI)))))) (i := 3) rfl (pLV (Rp.mono _ (e_417.trans (e_424.trans (e_443.trans e_454))) exz r_412)) (amo_var (R := (pV (pT (tc pI (t1 pI))))) (i := 4) rfl (pLV (Rp.mono _ (e_424.trans (e_443.trans e_454)) exz r_419)) (amo_cons off_same (m_pure (x_var (i := 5) rfl (Rp.mono _ (e_100.trans (e_115.trans (e_240.trans (e_260.trans (e_267.trans (e_307.trans (e_395.trans (e_410.trans (e_417.trans (e_424.trans (e_443.trans e_454))))))))))) exz r_89))) (amo (am_one (m_pure (x_var (i := 6) rfl (Rp.mono _ (e_115.trans (e_240.trans (e_260.trans (e_267.trans (e_307.trans (e_395.trans (e_410.trans (e_417.trans (e_424.trans (e_443.trans e_454)))))))))) exz r_102))))))))) s_455 hc_459 (Rt.mono _ (Ex.refl _) exz hx_461) hm fun lists_463 v_464 ws_470 I_465 C_471 H_466 e_467 s_468 hc_472 k_473 hx_474 r_469 hm => ?_
      have hp_475 : Sep C_471 [Z, (upd Z p_1 (.lst ws_470)), T_250] := sep_pool (L1 := [Z]) (L2 := [T_250]) hp_462 hc_472 k_473
      refine s_ifj (E := EZ) (K := K) (σ := [some (.ref a0), some (.ref p_1), some v_13, some v_407, some v_414, some v_84, some v_97, some v_110, some v_447, w_245, w_246, w_247, some v_257, some v_264, w_311, w_399, w_400, w_401, some v_421, some v_451, some v_464]) (fun (z_484 : (Pl × (List (Int × Int)) × ((List Int) × (List Int)))) σ2 I_486 C_487 => ∃ ws_488 : List V, ∃ v_491 : V, ∃ v_493 : V, σ2 = [some (.ref a0), some (.ref p_1), some v_13, some v_407, some v_414, some v_84, some v_97, some v_110, some v_447, w_245, w_246, w_247, some v_257, some v_264, w_311, w_399, w_400, w_401, some v_421, some v_491, some v_493] ∧ C_487 p_1 = some (.lst ws_488) ∧ Rt.r pM z_484.1 ws_488 I_486 Z ∧ Rp.r (pL (pT (tc pI (t1 pI)))) z_484.2.1 v_491 I_486 Z ∧ Rp.r (pT (tc (pL pI) (t1 (pL pI)))) z_484.2.2 v_493 I_486 Z ∧ Sep C_487 [Z, (upd Z p_1 (.lst ws_488)), T_250]) (t_test (x_op o_gt (x_var (i := 8) rfl (Rp.mono _ (e_454.trans e_467) exz r_448)) (x_int (i := 0)))) s_468 (fun _ _ h => h.elim) hm (fun N I_476 H_477 e_478 s_479 hm => ?_) (fun N I_480 H_481 e_482 s_483 hm => ?_) (fun z_484 σ2 I_522 C_523 H_524 e_525 s_526 ⟨ws_488, v_491, v_493, hs_485, hc_489, hx_490, r_492, r_494, fr_495⟩ hm => ?_)
      · refine qm_asg (E := EZ) (K := K) (σ := [some (.ref a0), some (.ref p_1), some v_13, some v_407, some v_414, some v_84, some v_97, some v_110, some v_447, w_245, w_246, w_247, some v_257, some v_264, w_311, w_399, w_400, w_401, some v_421, some v_451, some v_464]) (i := 19) (m_callM (i := 1) rfl (am_pure (a_cons (x_var (i := 19) rfl (Rp.mono _ (e_467.trans e_478) exz r_456)) (a_cons (x_k (k := ((0 : Nat) : Int)) (o_pj pj0) (x_var (i := 18) rfl (Rp.mono _ (e_443.trans (e_454.trans (e_467.trans e_478))) exz r_426))) (a_one (x_k (k := ((1 : Nat) : Int)) (o_pj (pjs pj1)) (x_var (i := 18) rfl (Rp.mono _ (e_443.trans (e_454.trans (e_467.trans e_478))) exz r_426)))))))) s_479 hc_472 (Rt.mono _ e_478 exz hx_474) hm fun pairs_496 v_497 ws_503 I_498 C_504 H_499 e_500 s_501 hc_505 k_506 hx_507 r_502 hm => ?_
        have hp_508 : Sep C_504 [Z, (upd Z p_1 (.lst ws_503)), T_250] := sep_pool (L1 := [Z]) (L2 := [T_250]) hp_475 hc_505 k_506
        refine qm_asg (E := EZ) (K := K) (σ := [some (.ref a0), some (.ref p_1), some v_13, some v_407, some v_414, some v_84, some v_97, some v_110, some v_447, w_245, w_246, w_247, some v_257, some v_264, w_311, w_399, w_400, w_401, some v_421, some v_497, some v_464]) (i := 20) (m_callM (i := 1) rfl (am_pure (a_cons (x_var (i := 20) rfl (Rp.mono _ (e_478.trans e_500) exz r_469)) (a_one (x_var (i := 18) rfl (Rp.mono _ (e_443.trans (e_454.trans (e_467.trans (e_478.trans e_500)))) exz r_426)))))) s_501 hc_505 (Rt.mono _ (Ex.refl _) exz hx_507) hm fun lists_509 v_510 ws_516 I_511 C_517 H_512 e_513 s_514 hc_518 k_519 hx_520 r_515 hm => ?_
        have hp_521 : Sep C_517 [Z, (upd Z p_1 (.lst ws_516)), T_250] := sep_pool (L1 := [Z]) (L2 := [T_250]) hp_508 hc_518 k_519
        exact hm _ _ _ _ (e_478.trans (e_500.trans e_513)) s_514 ⟨ws_516, v_497, v_510, rfl, hc_518, Rt.mono _ (Ex.refl _) exz hx_520, Rp.mono _ e_513 exz r_502, Rp.mono _ (Ex.refl _) exz r_515, hp_521⟩
      · exact hm _ _ _ _ e_482 s_483 ⟨ws_470, v_451, v_464, rfl, hc_472, Rt.mono _ e_482 exz hx_474, Rp.mono _ (e_467.trans e_482) exz r_456, Rp.mono _ e_482 exz r_469, hp_475⟩
      subst hs_485
      refine s_if (E := EZ) (K := K) (σ := [some (.ref a0), some (.ref p_1), some v_13, some v_407, some v_414, some v_84, some v_97, some v_110, some v_447, w_245, w_246, w_247, some v_257, some v_264, w_311, w_399, w_400, w_401, some v_421, some v_491, some v_493]) (t_not (t_B (x_call (a_cons (x_v (x_var (i := 3) rfl (Rp.mono _ (e_417.trans (e_424.trans (e_443.trans (e_454.trans (e_467.trans e_525))))) exz r_412))) (a_cons (x_v (x_var (i := 4) rfl (Rp.mono _ (e_424.trans (e_443.trans (e_454.trans (e_467.trans e_525)))) exz r_419))) (a_cons (x_var (i := 5) rfl (Rp.mono _ (e_100.trans (e_115.trans (e_240.trans (e_260.trans (e_267.trans (e_307.trans (e_395.trans (e_410.trans (e_417.trans (e_424.trans (e_443.trans (e_454.trans (e_467.trans e_525))))))))))))) exz r_89)) (a_cons (x_var (i := 6) rfl (Rp.mono _ (e_115.trans (e_240.trans (e_260.trans (e_267.trans (e_307.trans (e_395.trans (e_410.trans (e_417.trans (e_424.trans (e_443.trans (e_454.trans (e_467.trans e_525)))))))))))) exz r_102)) (a_one (x_var (i := 19) rfl (Rp.mono _ (Ex.refl _) exz r_492)))))))))) s_526 (fun _ _ h => h.elim) hm (fun I_527 H_528 e_529 s_530 hm => ?_) (fun I_531 H_532 e_533 s_534 hm => ?_)
      · refine q_ret (tz := tNext) (E := EZ) (K := K) (σ := [some (.ref a0), some (.ref p_1), some v_13, some v_407, some v_414, some v_84, some v_97, some v_110, some v_447, w_245, w_246, w_247, some v_257, some v_264, w_311, w_399, w_400, w_401, some v_421, some v_491, some v_493]) x_bl s_530 (fun _ _ h => h.elim) hm fun a_535 v_536 I_537 H_538 e_539 s_540 r_541 hm => ?_
        exact hm v_536 H_538 r_541
      · refine s_if (E := EZ) (K := K) (σ := [some (.ref a0), some (.ref p_1), some v_13, some v_407, some v_414, some v_84, some v_97, some v_110, some v_447, w_245, w_246, w_247, some v_257, some v_264, w_311, w_399, w_400, w_401, some v_421, some v_491, some v_493]) (t_not (t_B (x_call (a_cons (x_v (x_var (i := 3) rfl (Rp.mono _ (e_417.trans (e_424.trans (e_443.trans (e_454.trans (e_467.trans (e_525.trans e_533)))))) exz r_412))) (a_cons (x_v (x_var (i := 4) rfl (Rp.mono _ (e_424.trans (e_443.trans (e_454.trans (e_467.trans (e_525.trans e_533))))) exz r_419))) (a_cons (x_var (i := 5) rfl (Rp.mono _ (e_100.trans (e_115.trans (e_240.trans (e_260.trans (e_267.trans (e_307.trans (e_395.trans (e_410.trans (e_417.trans (e_424.trans (e_443.trans (e_454.trans (e_467.trans (e_525.trans e_533)))))))))))))) exz r_89)) (a_cons (x_var (i := 6) rfl (Rp.mono _ (e_115.trans (e_240.trans (e_260.trans (e_267.trans (e_307.trans (e_395.trans (e_410.trans (e_417.trans (e_424.trans (e_443.trans (e_454.trans (e_467.trans (e_525.trans e_533))))))))))))) exz r_102)) (a_one (x_var (i := 20) rfl (Rp.mono _ e_533 exz r_494)))))))))) s_534 (fun _ _ h => h.elim) hm (fun I_542 H_543 e_544 s_545 hm => ?_) (fun I_546 H_547 e_548 s_549 hm => ?_)
        · refine q_ret (tz := tNext) (E := EZ) (K := K) (σ := [some (.ref a0), some (.ref p_1), some v_13, some v_407, some v_414, some v_84, some v_97, some v_110, some v_447, w_245, w_246, w_247, some v_257, some v_264, w_311, w_399, w_400, w_401, some v_421, some v_491, some v_493]) x_bl s_545 (fun _ _ h => h.elim) hm fun a_550 v_551 I_552 H_553 e_554 s_555 r_556 hm => ?_
          exact hm v_551 H_553 r_556
        · exact hm _ _ _ _ (e_454.trans (e_467.trans (e_525.trans (e_533.trans e_548)))) s_549 ⟨some v_447, some v_491, some v_493, ws_488, rfl, hc_489, Rt.mono _ (e_533.trans e_548) exz hx_490, fr_495⟩
    subst hs_563
    refine s_forR (E := EZ) (K := K) (σ := [some (.ref a0), some (.ref p_1), some v_13, some v_407, some v_414, some v_84, some v_97, some v_110, w_564, w_245, w_246, w_247, some v_257, some v_264, w_311, w_399, w_400, w_401, some v_421, w_565, w_566]) (fun (z_573 : Unit) σ2 I_576 C_577 => ∃ w_575 : Option V, σ2 = [some (.ref a0), some (.ref p_1), some v_13, some v_407, some v_414, some v_84, some v_97, some v_110, w_564, w_245, w_246, w_247, some v_257, some v_264, w_311, w_399, w_400, w_401, some v_421, w_565, w_575] ∧ C_577 p_1 = some (.lst ws_569) ∧ Sep C_577 [Z, (upd Z p_1 (.lst ws_569)), T_250]) (i_list (x_lst (al_cons (x_tup (a_cons (x_lst (R := pI) al_nil (by decide)) (a_one (x_lst (R := pI) al_nil (by decide)))) (Nat.le_of_ble_eq_true rfl)) (al_cons (x_tup (a_cons (x_own (n_listRg (x_k (k := ((0 : Nat) : Int)) (o_pj pj0) (x_var (i := 18) rfl (Rp.mono _ e_560 exz r_426))))) (a_one (x_lst (R := pI) al_nil (by decide)))) (Nat.le_of_ble_eq_true rfl)) (al_cons (x_tup (a_cons (x_lst (R := pI) al_nil (by decide)) (a_one (x_own (n_listRg (x_k (k := ((1 : Nat) : Int)) (o_pj (pjs pj1)) (x_var (i := 18) rfl (Rp.mono _ e_560 exz r_426))))))) (Nat.le_of_ble_eq_true rfl)) al_nil))) (Nat.le_of_ble_eq_true rfl))) s_561 (fun _ _ h => h.elim) hm (fun _ e_588 => ⟨w_566, rfl, hc_570, fr_572⟩) (fun _ _ _ _ _ => trivial) (fun _ _ _ _ _ e ⟨w_575, hs_574, hc_578, fr_579⟩ => ⟨w_575, hs_574, hc_578, fr_579⟩) (fun N x_580 v_581 z_573 σ2 I_582 C_583 H_584 e_585 s_586 ⟨w_575, hs_574, hc_578, fr_579⟩ r_587 hm => ?_) (fun z_612 σ2 I_607 C_608 H_609 e_610 s_611 ⟨w_614, hs_613, hc_617, fr_618⟩ hm => ?_)
    · subst hs_574
      refine g1 (K := K) x_580 v_581 I_582 C_583 H_584 _ s_586 r_587 fun σ2 ⟨v_589, hs_591, r_590⟩ => ?_
      subst hs_591
      refine s_if (E := EZ) (K := K) (σ := [some (.ref a0), some (.ref p_1), some v_13, some v_407, some v_414, some v_84, some v_97, some v_110, w_564, w_245, w_246, w_247, some v_257, some v_264, w_311, w_399, w_400, w_401, some v_421, w_565, some v_589]) (t_not (t_B (x_call (a_cons (x_v (x_var (i := 3) rfl (Rp.mono _ (e_417.trans (e_424.trans (e_560.trans e_585))) exz r_412))) (a_cons (x_v (x_var (i := 4) rfl (Rp.mono _ (e_424.trans (e_560.trans e_585)) exz r_419))) (a_cons (x_var (i := 5) rfl (Rp.mono _ (e_100.trans (e_115.trans (e_240.trans (e_260.trans (e_267.trans (e_307.trans (e_395.trans (e_410.trans (e_417.trans (e_424.trans (e_560.trans e_585))))))))))) exz r_89)) (a_cons (x_var (i := 6) rfl (Rp.mono _ (e_115.trans (e_240.trans (e_260.trans (e_267.trans (e_307.trans (e_395.trans (e_410.trans (e_417.trans (e_424.trans (e_560.trans e_585)))))))))) exz r_102)) (a_one (x_var (i := 20) rfl (Rp.mono _ (Ex.refl _) exz r_590)))))))))) s_586 (fun _ _ h => h.elim) hm (fun I_592 H_593 e_594 s_595 hm => ?_) (fun I_596 H_597 e_598 s_599 hm => ?_)
      · refine q_ret (tz := tNext) (E := EZ) (K := K) (σ := [some (.ref a0), some (.ref p_1), some v_13, some v_407, some v_414, some v_84, some v_97, some v_110, w_564, w_245, w_246, w_247, some v_257, some v_264, w_311, w_399, w_400, w_401, some v_421, w_565, some v_589]) x_bl s_595 (fun _ _ h => h.elim) hm fun a_600 v_601 I_602 H_603 e_604 s_605 r_606 hm => ?_
        exact hm v_601 H_603 r_606
      · exact hm _ _ _ _ e_598 s_599 ⟨some v_589, rfl, hc_578, fr_579⟩
    subst hs_613
    refine q_ret (tz := tNext) (E := EZ) (K := K) (σ := [some (.ref a0), some (.ref p_1), some v_13, some v_407, some v_414, some v_84, some v_97, some v_110, w_564, w_245, w_246, w_247, some v_257, some v_264, w_311, w_399, w_400, w_401, some v_421, w_565, w_614]) (x_call (a_cons (x_v (x_var (i := 3) rfl (Rp.mono _ (e_417.trans (e_424.trans (e_560.trans e_610))) exz r_412))) (a_cons (x_v (x_var (i := 4) rfl (Rp.mono _ (e_424.trans (e_560.trans e_610)) exz r_419))) (a_cons (x_var (i := 5) rfl (Rp.mono _ (e_100.trans (e_115.trans (e_240.trans (e_260.trans (e_267.trans (e_307.trans (e_395.trans (e_410.trans (e_417.trans (e_424.trans (e_560.trans e_610))))))))))) exz r_89)) (a_cons (x_var (i := 6) rfl (Rp.mono _ (e_115.trans (e_240.trans (e_260.trans (e_267.trans (e_307.trans (e_395.trans (e_410.trans (e_417.trans (e_424.trans (e_560.trans e_610)))))))))) exz r_102)) (a_one (x_lst (R := (pT (tc pI (t1 pI)))) al_nil (by decide)))))))) s_611 (fun _ _ h => h.elim) hm fun a_619 v_620 I_621 H_622 e_623 s_624 r_625 hm => ?_
    exact hm v_620 H_622 r_625
end
end K62

namespace K62
open PySem Sd
/-! the pool -/
theorem mix_ok (c t : Int) : ∃ v, m__law_mix c t = .ok v := by
  unfold m__law_mix
  simp [rMul, rMod]
/-- the pool's counter does not run below 0 -/
abbrev PI_ (p : Pl) : Prop := 0 ≤ p.2.1 ∧ 0 ≤ p.2.2.1
theorem fill_is (p : Pl) (h : PI_ p) : Is (m__law_fill () p) fun b => PI_ b.2 := by
  unfold m__law_fill
  simp only [Res.bind_ok, rLen_eq, bin_ok, un_ok, rLt_eq, rGt_eq, ifR_ok, idR_eq]
  refine Is.bind (Q := fun z => z.1 = p) ?_ fun z hz => ?_
  · by_cases h1 : p.2.1 < (p.2.2.2.length : Int)
    · obtain ⟨x, e, _⟩ := ix_get h.1 h1
      simp only [decide_eq_true_eq, if_pos h1, e, Res.bind_ok]
      exact rfl
    · simp only [decide_eq_true_eq, if_neg h1]
      by_cases h2 : 0 < (p.2.2.2.length : Int)
      · obtain ⟨x, e, _⟩ := ix_get (xs := p.2.2.2) (Int.emod_nonneg p.2.2.1 (by omega)) (Int.emod_lt_of_pos p.2.2.1 h2)
        simp only [if_pos h2, rMod_ok h2, bin, Res.bind_ok, e]
        exact rfl
      · simp only [if_neg h2]
        exact rfl
  · obtain ⟨q, c⟩ := z
    have hz : q = p := hz
    subst hz
    refine Is.bind (Q := fun _ => True) ?_ fun c2 _ => ?_
    · dsimp only
      by_cases h3 : c < 0
      · simp only [decide_eq_true_eq, if_pos h3, bin, Res.bind_ok]
        rw [rMul_ok (.inl (by decide))]
        trivial
      · simp only [decide_eq_true_eq, if_neg h3]
        trivial
    · have hp : rPow 10 18 = .ok (10 ^ 18) := rPow_ok (by decide)
      simp only [thenR_eq, bin_ok, rAdd_eq, Res.bind_ok, hp, rGe_eq, rLe_eq, andR_ok, ifR_ok]
      split
      · exact ⟨by dsimp only; omega, by dsimp only; omega⟩
      · obtain ⟨v, hv⟩ := mix_ok c2 (q.2.2.1 + 1)
        simp only [pair_ok, un_ok, hv, Res.bind_ok]
        exact ⟨by dsimp only; omega, by dsimp only; omega⟩
theorem take_is {n : Int} {p : Pl} (h : PI_ p) (h0 : 0 < n) (h1 : n < 1073741824) : Is (m__law_take n p) fun b => (0 ≤ b.1 ∧ b.1 < n) ∧ PI_ b.2 := by
  unfold m__law_take
  simp only [bin_ok, rLt_eq, ifR_ok]
  refine Is.bind (Q := PI_) ?_ fun z hz => ?_
  · split
    · exact Is.bind (fill_is p h) fun b hb => hb
    · exact h
  · simp only [un_ok, idR_eq, bin_ok, rMod_ok h0, rDiv_ok ⟨h0, h1⟩, Res.bind_ok, thenR_eq]
    exact ⟨⟨Int.emod_nonneg _ (by omega), Int.emod_lt_of_pos _ h0⟩, hz⟩
theorem take_ok {n : Int} {p : Pl} (h : PI_ p) (h0 : 0 < n) (h1 : n < 1073741824) : ∃ b, m__law_take n p = .ok b ∧ (0 ≤ b.1 ∧ b.1 < n) ∧ PI_ b.2 := (take_is h h0 h1).get
theorem from_is {lo hi : Int} {p : Pl} (h : PI_ p) (h0 : lo ≤ hi) (h1 : hi - lo < 1073741823) : Is (m__law_from lo hi p) fun b => (lo ≤ b.1 ∧ b.1 ≤ hi) ∧ PI_ b.2 := by
  unfold m__law_from
  obtain ⟨b, e, hb, hp⟩ := take_ok (n := hi - lo + 1) h (by omega) (by omega)
  simp only [binM, callM, liftM_eq, bin_ok, rSub_eq, rAdd_eq, Res.bind_ok, e]
  exact ⟨⟨by dsimp only; omega, by dsimp only; omega⟩, hp⟩
theorem from_ok {lo hi : Int} {p : Pl} (h : PI_ p) (h0 : lo ≤ hi) (h1 : hi - lo < 1073741823) : ∃ b, m__law_from lo hi p = .ok b ∧ (lo ≤ b.1 ∧ b.1 ≤ hi) ∧ PI_ b.2 := (from_is h h0 h1).get

/-! warnings and events -/
abbrev Wn := Int × Int × Int
abbrev Eu := Int × Int
def okS (p : Eu) : Bool := decide (0 ≤ p.1) && (decide (p.1 < p.2) && decide (p.2 ≤ 48))
def okW (w : Wn) : Bool := decide (-1 ≤ w.1) && (decide (w.1 ≤ 48) && okS w.2)
theorem span_eq (p : Eu) : m_is_span p = .ok (okS p) := by
  unfold m_is_span okS
  simp only [un_ok, bin_ok, rLe_eq, rLt_eq, andR_ok, Res.bind_ok]
def fits (l k : Int) (w : Wn) (e : Eu) : Bool := !decide (e.1 < w.1 + l) && (decide (w.2.1 - k < e.2) && decide (e.1 < w.2.2 + k))
theorem counts_eq (w : Wn) (e : Eu) (l k : Int) : m_counts_for w e l k = .ok (fits l k w e) := by
  unfold m_counts_for fits
  simp only [Res.bind_ok, un_ok, bin_ok, rGt_eq, rAdd_eq, rSub_eq, rLt_eq, andR_ok, ifR_ok]
  by_cases h : e.1 < w.1 + l
  · rw [if_pos (decide_eq_true h), decide_eq_true h]
    rfl
  · rw [if_neg (by rw [decide_eq_false h]; decide), decide_eq_false h]
    rfl
theorem fits_eq (w : Wn) (e : Eu) (l k : Int) : m__law_fits w e l k = .ok (fits l k w e) := by
  unfold m__law_fits fits
  simp only [Res.bind_ok, un_ok, bin_ok, rGt_eq, rAdd_eq, rSub_eq, rLt_eq, andR_ok, ifR_ok]
  by_cases h : e.1 < w.1 + l
  · rw [if_pos (decide_eq_true h), decide_eq_true h]
    rfl
  · rw [if_neg (by rw [decide_eq_false h]; decide), decide_eq_false h]
    rfl
/-- the first place where p does not hold -/
def wrongAt {α : Type} (p : α → Bool) : Int → List α → Option Int
  | _, [] => none
  | i, x :: xs => if p x = true then wrongAt p (i + 1) xs else some i
def chk1 {α : Type} (p : α → Bool) (xs : List α) : Res Unit := if 12 < xs.length then .exc .TooMany 12 else match wrongAt p 0 xs with
  | some k => .exc .BadPair k
  | none => .ok ()
theorem wrong_loop {α : Type} {p : α → Bool} {f : Int × α → Unit → Res Unit} (hf : ∀ i x, f (i, x) () = if p x = true then .ok () else .exc .BadPair i) : ∀ (xs : List α) (i : Int), loopN f (enumF i xs) () = match wrongAt p i xs with
    | some k => .exc .BadPair k
    | none => .ok ()
  | [], i => rfl
  | x :: xs, i => by
    unfold enumF wrongAt
    rw [loopN_cons, hf]
    by_cases h : p x = true
    · rw [if_pos h, if_pos h, Res.bind_ok]
      exact wrong_loop hf xs (i + 1)
    · rw [if_neg h, if_neg h]
      rfl
theorem chkW_eq (W : List Wn) : m_check_warnings W = chk1 okW W := by
  unfold m_check_warnings chk1
  rw [un_ok, rLen_eq, bin_ok, rGt_eq, ifR_ok]
  by_cases h : 12 < W.length
  · rw [if_pos (decide_eq_true (by omega)), if_pos h]
    rfl
  · rw [if_neg (by rw [decide_eq_false (by omega)]; decide), if_neg h, un_ok, enumR_eq, Res.bind_ok]
    rw [wrong_loop (p := okW) fun i x => ?_]
    · cases wrongAt okW 0 W <;> rfl
    · simp only [un_ok, bin_ok, rNeg_eq, rLt_eq, rGt_eq, span_eq, notR_eq, orR_ok, ifR_ok, Res.bind_ok]
      unfold okW
      by_cases h1 : x.1 < -1
      · rw [if_pos (by rw [decide_eq_true h1]; rfl), if_neg (by rw [decide_eq_false (by omega)]; simp)]
      · by_cases h2 : 48 < x.1
        · rw [if_pos (by rw [decide_eq_true h2]; simp), if_neg (by rw [decide_eq_false (show ¬ x.1 ≤ 48 by omega)]; simp)]
        · rw [decide_eq_false h1, decide_eq_false h2, decide_eq_true (show -1 ≤ x.1 by omega), decide_eq_true (show x.1 ≤ 48 by omega)]
          cases okS x.2 <;> rfl
theorem chkE_eq (E : List Eu) : m_check_events E = chk1 okS E := by
  unfold m_check_events chk1
  rw [un_ok, rLen_eq, bin_ok, rGt_eq, ifR_ok]
  by_cases h : 12 < E.length
  · rw [if_pos (decide_eq_true (by omega)), if_pos h]
    rfl
  · rw [if_neg (by rw [decide_eq_false (by omega)]; decide), if_neg h, un_ok, enumR_eq, Res.bind_ok]
    rw [wrong_loop (p := okS) fun i x => ?_]
    · cases wrongAt okS 0 E <;> rfl
    · simp only [un_ok, span_eq, notR_eq, ifR_ok, Res.bind_ok]
      cases okS x <;> rfl
theorem wrong_none {α : Type} {p : α → Bool} : ∀ (xs : List α) (i : Int), (∀ x ∈ xs, p x = true) → wrongAt p i xs = none
  | [], _, _ => rfl
  | x :: xs, i, h => by
    unfold wrongAt
    rw [if_pos (h x List.mem_cons_self)]
    exact wrong_none xs (i + 1) fun y hy => h y (List.mem_cons_of_mem _ hy)
theorem chk1_ok {α : Type} {p : α → Bool} {xs : List α} (hl : xs.length ≤ 12) (h : ∀ x ∈ xs, p x = true) : chk1 p xs = .ok () := by
  unfold chk1
  rw [if_neg (by omega), wrong_none xs 0 h]
theorem chk1_len {α : Type} {p : α → Bool} {xs : List α} (h : chk1 p xs = .ok ()) : xs.length ≤ 12 := by
  unfold chk1 at h
  split at h
  · cases h
  · omega
/-! links -/
def lk1 (l k : Int) (E : List Eu) (w : Wn) : List Int := ((enumF 0 E).filter fun x => fits l k w x.2).map (·.1)
def lks (l k : Int) (W : List Wn) (E : List Eu) : List (List Int) := W.map (lk1 l k E)
theorem loopN_push {α β : Type} {f : α → List β → Res (List β)} {g : α → β} : ∀ {xs : List α} {acc : List β}, (∀ x a, x ∈ xs → a.length < 1000000 → f x a = .ok (a ++ [g x])) → acc.length + xs.length < 1000000 → loopN f xs acc = .ok (acc ++ xs.map g)
  | [], acc, _, _ => by rw [List.map_nil, List.append_nil]; rfl
  | x :: xs, acc, h, hl => by
    rw [List.length_cons] at hl
    rw [loopN_cons, h x acc List.mem_cons_self (by omega), Res.bind_ok, loopN_push (fun y a hy => h y a (List.mem_cons_of_mem _ hy)) (by rw [List.length_append, List.length_singleton]; omega), List.append_assoc]
    rfl
theorem links_eq {W : List Wn} {E : List Eu} (l k : Int) : m_checked_links W E l k = (chk1 okW W).bind fun _ => (chk1 okS E).bind fun _ => .ok (lks l k W E) := by
  unfold m_checked_links
  rw [un_ok, un_ok, chkW_eq, chkE_eq]
  cases hw : chk1 okW W with
  | exc c i => rfl
  | bad => rfl
  | ok u =>
    have hl := chk1_len hw
    rw [Res.bind_ok, Res.bind_ok]
    cases he : chk1 okS E with
    | exc c i => rfl
    | bad => rfl
    | ok u =>
      rw [Res.bind_ok, Res.bind_ok, Res.bind_ok, Res.bind_ok]
      rw [loopN_push (g := lk1 l k E) fun w a _ ha => ?_]
      · rfl
      · simp
        omega
      · simp only [un_ok, enumR_eq, Res.bind_ok, pair_ok, counts_eq, filR_okf, push_ok ha]
        rfl
theorem mem_lk1 {l k : Int} {E : List Eu} {w : Wn} {e : Int} : e ∈ lk1 l k E w ↔ ∃ i : Nat, ∃ x, E[i]? = some x ∧ e = (i : Int) ∧ fits l k w x = true := by
  unfold lk1
  rw [List.mem_map]
  constructor
  · rintro ⟨y, hy, rfl⟩
    obtain ⟨h1, h2⟩ := List.mem_filter.mp hy
    obtain ⟨i, h3, h4⟩ := mem_enumF.mp h1
    exact ⟨i, y.2, h3, h4, h2⟩
  · rintro ⟨i, x, h1, rfl, h2⟩
    exact ⟨((i : Int), x), List.mem_filter.mpr ⟨mem_enumF.mpr ⟨i, h1, rfl⟩, h2⟩, rfl⟩
theorem lk1_in {l k : Int} {E : List Eu} {w : Wn} {e : Int} (h : e ∈ lk1 l k E w) : 0 ≤ e ∧ e < E.length := by
  obtain ⟨i, x, h1, rfl, _⟩ := mem_lk1.mp h
  have := (List.getElem?_eq_some_iff.mp h1).1
  omega
/-- links of n warnings to many events -/
structure LK (L : List (List Int)) (many : Int) : Prop where
  n : L.length ≤ 1000
  m : 0 ≤ many ∧ many ≤ 1000
  r : ∀ xs ∈ L, ∀ e ∈ xs, 0 ≤ e ∧ e < many
theorem lks_LK {W : List Wn} {E : List Eu} (l k : Int) (hW : W.length ≤ 12) (hE : E.length ≤ 12) : LK (lks l k W E) E.length := by
  refine ⟨by unfold lks; rw [List.length_map]; omega, by omega, fun xs hx e he => ?_⟩
  obtain ⟨w, _, rfl⟩ := List.mem_map.mp hx
  exact lk1_in he

/-! finding an event for a warning -/
abbrev tk (t : List Int) (e : Int) : Int := t.getD e.toNat (-1)
abbrev lkw (L : List (List Int)) (w : Int) : List Int := L.getD w.toNat []
theorem orM_eq {μ : Type} (m n : μ → Res (Bool × μ)) (x : μ) : orM m n x = (m x).bind fun b => if b.1 = true then .ok (true, b.2) else n b.2 := rfl
theorem seeM_eq {α μ : Type} (m : μ → Res α) (x : μ) : seeM m x = (m x).bind fun a => .ok (a, x) := rfl
def Un (m : Int) (s : List Int) : Nat := ((rangeL 0 m).filter fun e => !decide (e ∈ s)).length
theorem filter_le {α : Type} {p q : α → Bool} : ∀ {xs : List α}, (∀ x ∈ xs, p x = true → q x = true) → (xs.filter p).length ≤ (xs.filter q).length
  | [], _ => Nat.le_refl _
  | x :: xs, h => by
    have ih := filter_le (xs := xs) fun y hy => h y (List.mem_cons_of_mem _ hy)
    have h0 := h x List.mem_cons_self
    rw [List.filter_cons, List.filter_cons]
    by_cases hp : p x = true
    · rw [if_pos hp, if_pos (h0 hp), List.length_cons, List.length_cons]
      omega
    · rw [if_neg hp]
      split
      · rw [List.length_cons]
        omega
      · exact ih
theorem filter_lt {α : Type} {p q : α → Bool} : ∀ {xs : List α} {x : α}, (∀ x ∈ xs, p x = true → q x = true) → x ∈ xs → q x = true → p x = false → (xs.filter p).length < (xs.filter q).length
  | y :: xs, x, h, hx, hq, hp => by
    have h0 := h y List.mem_cons_self
    have h1 : ∀ x ∈ xs, p x = true → q x = true := fun z hz => h z (List.mem_cons_of_mem _ hz)
    rw [List.filter_cons, List.filter_cons]
    rcases List.mem_cons.mp hx with rfl | hx
    · rw [if_neg (by rw [hp]; decide), if_pos hq, List.length_cons]
      have := filter_le h1
      omega
    · have ih := filter_lt h1 hx hq hp
      by_cases hy : p y = true
      · rw [if_pos hy, if_pos (h0 hy), List.length_cons, List.length_cons]
        omega
      · rw [if_neg hy]
        split
        · rw [List.length_cons]
          omega
        · exact ih
theorem Un_le {m : Int} {s s' : List Int} (h : ∀ x ∈ s, x ∈ s') : Un m s' ≤ Un m s := filter_le fun x _ hx => by
  rw [Bool.not_eq_true', decide_eq_false_iff_not] at hx ⊢
  exact fun z => hx (h x z)
theorem Un_lt {m : Int} {s : List Int} {e : Int} (h0 : 0 ≤ e) (h1 : e < m) (h : e ∉ s) : Un m (s ++ [e]) < Un m s := by
  refine filter_lt (x := e) (fun x _ hx => ?_) (mem_rangeL.mpr ⟨h0, h1⟩) (by rw [decide_eq_false h]; rfl) (by rw [decide_eq_true (by simp)]; rfl)
  rw [Bool.not_eq_true', decide_eq_false_iff_not] at hx ⊢
  exact fun z => hx (List.mem_append_left _ z)
theorem Un_nil {m : Int} (h : 0 ≤ m) : (Un m [] : Int) ≤ m := by
  unfold Un
  have := List.length_filter_le (fun e : Int => !decide (e ∈ ([] : List Int))) (rangeL 0 m)
  rw [rangeL_length] at this
  omega
structure SOk (m : Int) (s : List Int) : Prop where
  rg : ∀ x ∈ s, 0 ≤ x ∧ x < m
  len : (s.length : Int) + Un m s ≤ m
theorem SOk.nil {m : Int} (h : 0 ≤ m) : SOk m [] := ⟨fun _ h => (nomatch h), by have := Un_nil h; rw [List.length_nil]; omega⟩
theorem SOk.push {m : Int} {s : List Int} {e : Int} (h : SOk m s) (h0 : 0 ≤ e) (h1 : e < m) (hn : e ∉ s) : SOk m (s ++ [e]) := ⟨fun x hx => by
  rcases List.mem_append.mp hx with z | z
  · exact h.rg x z
  · rw [List.mem_singleton.mp z]
    exact ⟨h0, h1⟩, by
  have := Un_lt h0 h1 hn
  have := h.len
  rw [List.length_append, List.length_singleton]
  omega⟩
structure TOk (n m : Int) (t : List Int) : Prop where
  len : (t.length : Int) = m
  rg : ∀ e, 0 ≤ e → e < m → -1 ≤ tk t e ∧ tk t e < n
theorem tk_set {t : List Int} {e f v : Int} (h0 : 0 ≤ e) (h1 : e < t.length) (f0 : 0 ≤ f) : tk (t.set e.toNat v) f = if f = e then v else tk t f := by
  show (t.set e.toNat v).getD f.toNat (-1) = _
  rw [List.getD_eq_getElem?_getD, List.getElem?_set]
  by_cases h : f = e
  · rw [if_pos h, if_pos (by rw [h]), if_pos (by omega)]
    rfl
  · rw [if_neg h, if_neg (by omega)]
    rfl
theorem TOk.set {n m : Int} {t : List Int} {e v : Int} (h : TOk n m t) (h0 : 0 ≤ e) (h1 : e < m) (v0 : -1 ≤ v) (v1 : v < n) : TOk n m (t.set e.toNat v) := ⟨by rw [List.length_set]; exact h.len, fun f f0 f1 => by
  rw [tk_set h0 (by rw [h.len]; exact h1) f0]
  split
  · exact ⟨v0, v1⟩
  · exact h.rg f f0 f1⟩
theorem count_set {t : List Int} {e v y : Int} (h0 : 0 ≤ e) (h1 : e < t.length) : (t.set e.toNat v).count y = t.count y - (if tk t e = y then 1 else 0) + (if v = y then 1 else 0) := by
  have hl : e.toNat < t.length := by omega
  rw [List.count_set hl]
  have : tk t e = t[e.toNat] := by
    show t.getD e.toNat (-1) = _
    rw [List.getD_eq_getElem?_getD, List.getElem?_eq_getElem hl]
    rfl
  rw [this]
  congr 1
  · congr 1
    by_cases h : t[e.toNat] = y
    · rw [if_pos h, if_pos (by rw [h]; exact beq_self_eq_true y)]
    · rw [if_neg h, if_neg (by rw [beq_eq_false_iff_ne.mpr h]; decide)]
  · by_cases h : v = y
    · rw [if_pos h, if_pos (by rw [h]; exact beq_self_eq_true y)]
    · rw [if_neg h, if_neg (by rw [beq_eq_false_iff_ne.mpr h]; decide)]
theorem count_pos_tk {t : List Int} {e : Int} (h0 : 0 ≤ e) (h1 : e < t.length) : 0 < t.count (tk t e) := by
  refine List.count_pos_iff.mpr ?_
  obtain ⟨x, _, h⟩ := ix_get h0 h1
  have : tk t e = x := by
    show t.getD e.toNat (-1) = _
    rw [List.getD_eq_getElem?_getD, h]
    rfl
  rw [this]
  exact List.mem_of_getElem? h
/-- closed: all in it are taken, and lead nowhere else -/
def Cl (L : List (List Int)) (t : List Int) (G : Int → Prop) : Prop := ∀ e, G e → 0 ≤ e ∧ 0 ≤ tk t e ∧ ∀ f ∈ lkw L (tk t e), G f
structure FE (L : List (List Int)) (m w : Int) (t s : List Int) (b : Bool) (t' s' : List Int) : Prop where
  so : SOk m s'
  sub : ∀ x ∈ s, x ∈ s'
  to : TOk L.length m t'
  no : b = false → t' = t ∧ (∀ e ∈ lkw L w, e ∈ s') ∧ ∀ e ∈ s', e ∉ s → 0 ≤ tk t e ∧ ∀ f ∈ lkw L (tk t e), f ∈ s'
  ys : b = true → (∀ e ∈ s, tk t' e = tk t e) ∧ (∀ e, 0 ≤ e → e < m → tk t' e = tk t e ∨ (0 ≤ tk t' e ∧ e ∈ lkw L (tk t' e))) ∧ (∀ x, 0 ≤ x → t'.count x = t.count x + if x = w then 1 else 0) ∧ ∀ G, Cl L t G → (∃ e ∈ lkw L w, ¬ G e) ∧ ∀ e, G e → tk t' e = tk t e
theorem loopR_ret {α S ρ : Type} {f : α → S → Res (Out S ρ)} {J : Nat → S → Prop} {P : ρ → Prop} : ∀ {xs : List α} {s : S}, J 0 s → (∀ i x s, xs[i]? = some x → J i s → Is (f x s) fun o => (∃ s', o = .nx s' ∧ J (i + 1) s') ∨ ∃ r, o = .rt r ∧ P r) →
    Is (loopR f xs s) fun o => (∃ s', o = .nx s' ∧ J xs.length s') ∨ ∃ r, o = .rt r ∧ P r := by
  intro xs
  induction xs generalizing J with
  | nil => exact fun h0 _ => .inl ⟨_, rfl, h0⟩
  | cons x xs ih =>
    intro s h0 h
    rw [loopR_cons]
    refine Is.bind (h 0 x s rfl h0) fun o ho => ?_
    rcases ho with ⟨s', rfl, h1⟩ | ⟨r, rfl, h1⟩
    · exact ih (J := fun i => J (i + 1)) h1 fun i y s hy hj => h (i + 1) y s hy hj
    · exact .inr ⟨r, rfl, h1⟩
theorem lkw_get {L : List (List Int)} {m w : Int} (K : LK L m) (h0 : 0 ≤ w) (h1 : w < L.length) : ix L w = .ok (lkw L w) ∧ ∀ e ∈ lkw L w, 0 ≤ e ∧ e < m := by
  refine ⟨ix_getD h0 h1, ?_⟩
  obtain ⟨x, ex, hx⟩ := ix_get (xs := L) h0 h1
  rw [ix_getD (d := []) h0 h1] at ex
  cases ex
  exact K.r _ (List.mem_of_getElem? hx)
/-- the round: what is so ahead of each event -/
structure FJ (L : List (List Int)) (m w : Int) (t s : List Int) (i : Nat) (z : List Int × List Int) : Prop where
  te : z.1 = t
  so : SOk m z.2
  sub : ∀ x ∈ s, x ∈ z.2
  al : ∀ (j : Nat) e, j < i → (lkw L w)[j]? = some e → e ∈ z.2
  cl : ∀ e ∈ z.2, e ∉ s → 0 ≤ tk t e ∧ ∀ f ∈ lkw L (tk t e), f ∈ z.2
theorem fe_is {L : List (List Int)} {m : Int} (K : LK L m) : ∀ (k : Nat) (w : Int) (t s : List Int), 0 ≤ w → w < L.length → TOk L.length m t → SOk m s → Un m s < k → Is (m_finds_event k L w (t, s)) fun r => FE L m w t s r.1 r.2.1 r.2.2
  | 0, w, t, s, _, _, _, _, h => absurd h (Nat.not_lt_zero _)
  | k + 1, w, t, s, w0, w1, ht, hs, hk => by
    unfold m_finds_event
    obtain ⟨eL, inL⟩ := lkw_get K w0 w1
    have hm := K.m
    rw [bin_ok, eL, Res.bind_ok]
    refine Is.bind (loopR_ret (J := FJ L m w t s) (P := fun r => r.1 = true ∧ FE L m w t s r.1 r.2.1 r.2.2) ⟨rfl, hs, fun x h => h, fun j e h => absurd h (Nat.not_lt_zero _), fun e h h' => absurd h h'⟩ fun i x z hx J => ?_) fun o ho => ?_
    · obtain ⟨t1, s1⟩ := z
      obtain ⟨rfl, so, sub, al, cl⟩ := J
      dsimp only at so sub al cl ⊢
      have hxm : x ∈ lkw L w := List.mem_of_getElem? hx
      obtain ⟨x0, x1⟩ := inL x hxm
      have hxt : x < (t1.length : Int) := by rw [ht.len]; exact x1
      rw [bin_ok, inR_eq, ifR_ok]
      by_cases hin : x ∈ s1
      · rw [if_pos (decide_eq_true hin)]
        refine .inl ⟨_, rfl, rfl, so, sub, fun j e hj he => ?_, cl⟩
        by_cases q : j < i
        · exact al j e q he
        · have : j = i := by omega
          subst this
          rw [hx] at he
          cases he
          exact hin
      · rw [if_neg (by rw [decide_eq_false hin]; decide)]
        have so2 := so.push x0 x1 hin
        have hl1 : s1.length < 1000000 := by have := so.len; omega
        have hns : x ∉ s := fun z => hin (sub x z)
        simp only [Res.bind_ok, push_ok hl1, ifMR_eq, orM_eq, seeM_eq, bin_ok, ix_getD (d := (-1 : Int)) x0 hxt, rLt_eq, pair_ok, List.getD_eq_getElem?_getD]
        have hset : ∀ t2 : List Int, (t2.length : Int) = m → setR t2 x w = .ok (t2.set x.toNat w) := fun t2 h2 => setR_nat x0 (by rw [h2]; exact x1)
        show Is (Res.bind (if decide (tk t1 x < 0) = true then _ else _) _) _
        by_cases hfree : tk t1 x < 0
        · rw [if_pos (decide_eq_true hfree), Res.bind_ok, if_pos rfl]
          simp only [Res.bind_ok, hset t1 ht.len]
          refine .inr ⟨_, rfl, rfl, so2, fun y hy => List.mem_append_left _ (sub y hy), ht.set x0 x1 (by omega) w1, fun z => (nomatch z), fun _ => ⟨fun e he => ?_, fun e e0 e1 => ?_, fun y y0 => ?_, fun G hG => ⟨⟨x, hxm, fun z => ?_⟩, fun e he => ?_⟩⟩⟩
          · rw [tk_set x0 hxt (hs.rg e he).1, if_neg (show ¬ e = x from fun z => hns (by rw [← z]; exact he))]
          · rw [tk_set x0 hxt e0]
            by_cases q : e = x
            · rw [if_pos q, q]
              exact .inr ⟨w0, hxm⟩
            · rw [if_neg q]
              exact .inl rfl
          · rw [count_set x0 hxt, if_neg (show ¬ tk t1 x = y by omega)]
            by_cases q : y = w
            · rw [if_pos q, if_pos q.symm]
              omega
            · rw [if_neg q, if_neg (Ne.symm q)]
              omega
          · have := (hG x z).2.1
            omega
          · rw [tk_set x0 hxt (hG e he).1, if_neg]
            rintro rfl
            have := (hG _ he).2.1
            omega
        · rw [if_neg (by rw [decide_eq_false hfree]; decide)]
          have hk2 : Un m (s1 ++ [x]) < k := by
            have := Un_lt x0 x1 hin
            have := Un_le (m := m) sub
            omega
          have hw1 := ht.rg x x0 x1
          obtain ⟨r, er, hr⟩ := (fe_is K k (tk t1 x) t1 (s1 ++ [x]) (by omega) hw1.2 ht so2 hk2).get
          obtain ⟨b, t2, s2⟩ := r
          have er2 : m_finds_event k L ((t1[x.toNat]?).getD (-1)) (t1, s1 ++ [x]) = .ok (b, t2, s2) := by
            rw [← List.getD_eq_getElem?_getD]
            exact er
          obtain ⟨q1, q2, q3, q4, q5⟩ := hr
          dsimp only at q1 q2 q3 q4 q5 ⊢
          simp only [er2, Res.bind_ok]
          have hx2 : x ∈ s1 ++ [x] := by simp
          cases b with
          | true =>
            obtain ⟨y1, y2, y3, y4⟩ := q5 rfl
            rw [if_pos rfl]
            simp only [Res.bind_ok, hset t2 q3.len]
            have hxt2 : x < (t2.length : Int) := by rw [q3.len]; exact x1
            have e1 := y1 x hx2
            refine .inr ⟨_, rfl, rfl, q1, fun y hy => q2 y (List.mem_append_left _ (sub y hy)), q3.set x0 x1 (by omega) w1, fun z => (nomatch z), fun _ => ⟨fun e he => ?_, fun e e0 e1 => ?_, fun y y0 => ?_, fun G hG => ⟨⟨x, hxm, fun z => ?_⟩, fun e he => ?_⟩⟩⟩
            · rw [tk_set x0 hxt2 (hs.rg e he).1, if_neg (show ¬ e = x from fun z => hns (by rw [← z]; exact he))]
              exact y1 e (List.mem_append_left _ (sub e he))
            · rw [tk_set x0 hxt2 e0]
              by_cases q : e = x
              · rw [if_pos q, q]
                exact .inr ⟨w0, hxm⟩
              · rw [if_neg q]
                exact y2 e e0 e1
            · have hp := count_pos_tk (t := t2) x0 hxt2
              rw [e1] at hp
              rw [count_set x0 hxt2, e1, y3 y y0]
              by_cases q : y = w
              · rw [if_pos q, if_pos q.symm]
                by_cases q2 : tk t1 x = y
                · rw [if_pos q2, if_pos q2.symm]
                  omega
                · rw [if_neg q2, if_neg (Ne.symm q2)]
                  omega
              · rw [if_neg q, if_neg (Ne.symm q)]
                by_cases q2 : tk t1 x = y
                · rw [if_pos q2, if_pos q2.symm]
                  omega
                · rw [if_neg q2, if_neg (Ne.symm q2)]
                  omega
            · obtain ⟨⟨f, hf, nf⟩, _⟩ := y4 G hG
              exact nf ((hG x z).2.2 f hf)
            · obtain ⟨⟨f, hf, nf⟩, ag⟩ := y4 G hG
              rw [tk_set x0 hxt2 (hG e he).1, if_neg]
              · exact ag e he
              · rintro rfl
                exact nf ((hG _ he).2.2 f hf)
          | false =>
            obtain ⟨rfl, n1, n2⟩ := q4 rfl
            rw [if_neg Bool.false_ne_true]
            refine .inl ⟨_, rfl, rfl, q1, fun y hy => q2 y (List.mem_append_left _ (sub y hy)), fun j e hj he => ?_, fun e he hne => ?_⟩
            · by_cases q : j < i
              · exact q2 e (List.mem_append_left _ (al j e q he))
              · have : j = i := by omega
                subst this
                rw [hx] at he
                cases he
                exact q2 x hx2
            · by_cases q : e ∈ s1 ++ [x]
              · rcases List.mem_append.mp q with z | z
                · obtain ⟨a1, a2⟩ := cl e z hne
                  exact ⟨a1, fun f hf => q2 f (List.mem_append_left _ (a2 f hf))⟩
                · rw [List.mem_singleton.mp z]
                  exact ⟨by omega, n1⟩
              · exact n2 e he q
    · rcases ho with ⟨z, rfl, J⟩ | ⟨r, rfl, h1, h2⟩
      · obtain ⟨t1, s1⟩ := z
        obtain ⟨rfl, so, sub, al, cl⟩ := J
        refine ⟨so, sub, ht, fun _ => ⟨rfl, fun e he => ?_, cl⟩, fun z => (nomatch z)⟩
        obtain ⟨j, hj⟩ := List.mem_iff_getElem?.mp he
        exact al j e (List.getElem?_eq_some_iff.mp hj).1 hj
      · exact h2

/-! all takers -/
theorem nodup_len {α : Type} [DecidableEq α] : ∀ {xs ys : List α}, xs.Nodup → (∀ x ∈ xs, x ∈ ys) → xs.length ≤ ys.length
  | [], _, _, _ => Nat.zero_le _
  | x :: xs, ys, h, hs => by
    rw [List.nodup_cons] at h
    have hx := hs x List.mem_cons_self
    have ih := nodup_len (xs := xs) (ys := ys.erase x) h.2 fun y hy => (List.mem_erase_of_ne (fun (z : y = x) => h.1 (by rw [← z]; exact hy))).mpr (hs y (List.mem_cons_of_mem _ hy))
    rw [List.length_erase_of_mem hx] at ih
    have := List.length_pos_of_mem hx
    rw [List.length_cons]
    omega
theorem nodup_len_eq {α : Type} [DecidableEq α] {xs ys : List α} (h : xs.Nodup) (h' : ys.Nodup) (hm : ∀ x, x ∈ xs ↔ x ∈ ys) : xs.length = ys.length :=
  Nat.le_antisymm (nodup_len h fun x hx => (hm x).mp hx) (nodup_len h' fun x hx => (hm x).mpr hx)
/-- the takers when the warnings below w were asked -/
structure TK (L : List (List Int)) (m w : Int) (t : List Int) : Prop where
  ok : TOk L.length m t
  lk : ∀ e, 0 ≤ e → e < m → 0 ≤ tk t e → tk t e < w ∧ e ∈ lkw L (tk t e)
  one : ∀ x, 0 ≤ x → t.count x ≤ 1
  fut : ∀ x, w ≤ x → t.count x = 0
  cl : ∃ G : Int → Prop, Cl L t G ∧ ∀ x, 0 ≤ x → x < w → t.count x = 0 → ∀ e ∈ lkw L x, G e
theorem TK.zero {L : List (List Int)} {m : Int} (K : LK L m) : TK L m 0 (List.replicate m.toNat (-1)) := by
  have hm := K.m
  have z : ∀ e, tk (List.replicate m.toNat (-1)) e = -1 := fun e => by
    show (List.replicate m.toNat (-1 : Int)).getD e.toNat (-1) = -1
    rw [List.getD_eq_getElem?_getD, List.getElem?_replicate]
    split <;> rfl
  have c : ∀ x, 0 ≤ x → (List.replicate m.toNat (-1 : Int)).count x = 0 := fun x hx => List.count_eq_zero.mpr fun h => by
    have := List.eq_of_mem_replicate h
    omega
  refine ⟨⟨by rw [List.length_replicate]; omega, fun e _ _ => by rw [z]; omega⟩, fun e _ _ h => ?_, fun x hx => by rw [c x hx]; omega, fun x hx => c x hx, fun _ => False, fun _ h => h.elim, fun x a b => by omega⟩
  rw [z] at h
  omega
theorem takers_is {L : List (List Int)} {m : Int} (K : LK L m) (h20 : m < 20) : Is (m_takers_of L m) (TK L m L.length) := by
  unfold m_takers_of
  have hm := K.m
  have hn := K.n
  have e0 : bin rRepR (consR (un rNeg (Res.ok (1 : Int))) (Res.ok [])) (Res.ok m) = .ok (List.replicate m.toNat (-1)) := by
    rw [un_ok, rNeg_eq, consR_ok, bin_ok, rRepR_ok (by simp; omega)]
    congr 1
    generalize m.toNat = k
    induction k with
    | zero => rfl
    | succ k ih => rw [List.replicate_succ, List.replicate_succ, List.flatten_cons, ih]; rfl
  rw [e0, Res.bind_ok, un_ok, rLen_eq, un_ok, rng1_ok (by omega), Res.bind_ok]
  refine Is.bind (loopN_inv (fun i t => TK L m i t) (TK.zero K) fun i x t hx J => ?_) fun t J => ?_
  · have hx1 := rangeL_get hx
    have hi := (List.getElem?_eq_some_iff.mp hx).1
    rw [rangeL_length] at hi
    have hxi : x = (i : Int) := by omega
    subst hxi
    have hmn := Un_nil hm.1
    obtain ⟨r, er, hr⟩ := (fe_is K 20 (i : Int) t [] (by omega) (by omega) J.ok (SOk.nil hm.1) (by omega)).get
    obtain ⟨b, t2, s2⟩ := r
    obtain ⟨q1, _, q3, q4, q5⟩ := hr
    dsimp only at q1 q3 q4 q5 er
    simp only [pair_ok, Res.bind_ok, er]
    show TK L m ((i + 1 : Nat) : Int) t2
    have ec : ((i + 1 : Nat) : Int) = (i : Int) + 1 := by omega
    rw [ec]
    obtain ⟨G, hG, hG2⟩ := J.cl
    cases b with
    | true =>
      obtain ⟨_, y2, y3, y4⟩ := q5 rfl
      obtain ⟨_, ag⟩ := y4 G hG
      refine ⟨q3, fun e e0 e1 he => ?_, fun x hx => ?_, fun x hx => ?_, G, fun e he => ?_, fun x x0 x1 hc => ?_⟩
      · have hp := count_pos_tk (t := t2) e0 (by rw [q3.len]; exact e1)
        rw [y3 _ he] at hp
        refine ⟨?_, ?_⟩
        · by_cases q : tk t2 e < (i : Int) + 1
          · exact q
          · rw [J.fut _ (by omega), if_neg (by omega)] at hp
            omega
        · rcases y2 e e0 e1 with z | z
          · rw [z] at he ⊢
            exact (J.lk e e0 e1 he).2
          · exact z.2
      · rw [y3 x hx]
        have := J.one x hx
        by_cases q : x = (i : Int)
        · rw [if_pos q, J.fut x (by omega)]
          omega
        · rw [if_neg q]
          omega
      · rw [y3 x (by omega), if_neg (by omega), J.fut x (by omega)]
      · obtain ⟨a, b, c⟩ := hG e he
        rw [ag e he]
        exact ⟨a, b, c⟩
      · rw [y3 x x0] at hc
        by_cases q : x = (i : Int)
        · rw [if_pos q] at hc
          omega
        · exact hG2 x x0 (by omega) (by omega)
    | false =>
      obtain ⟨rfl, n1, n2⟩ := q4 rfl
      refine ⟨q3, fun e e0 e1 he => ?_, J.one, fun x hx => J.fut x (by omega), fun e => G e ∨ e ∈ s2, fun e he => ?_, fun x x0 x1 hc => ?_⟩
      · obtain ⟨a, b⟩ := J.lk e e0 e1 he
        exact ⟨by omega, b⟩
      · rcases he with he | he
        · obtain ⟨a, b, c⟩ := hG e he
          exact ⟨a, b, fun f hf => .inl (c f hf)⟩
        · obtain ⟨a, b⟩ := n2 e he (fun h => nomatch h)
          exact ⟨(q1.rg e he).1, a, fun f hf => .inr (b f hf)⟩
      · by_cases q : x = (i : Int)
        · rw [q]
          exact fun e he => .inr (n1 e he)
        · exact fun e he => .inl (hG2 x x0 (by omega) hc e he)
  · rw [rangeL_length] at J
    have : (((L.length : Int) - 0).toNat : Int) = (L.length : Int) := by omega
    rw [this] at J
    exact J
theorem TK.inj {L : List (List Int)} {m w : Int} {t : List Int} (J : TK L m w t) {e f : Int} (e0 : 0 ≤ e) (e1 : e < m) (f0 : 0 ≤ f) (f1 : f < m) (h : tk t e = tk t f) (h0 : 0 ≤ tk t e) : e = f := by
  by_cases q : e = f
  · exact q
  · exfalso
    have hl := J.ok.len
    -- with one of the two places changed the number falls, but is not 0
    have c := count_set (t := t) (v := -1) (y := tk t e) e0 (by omega)
    rw [if_pos rfl, if_neg (by omega)] at c
    have p := count_pos_tk (t := t.set e.toNat (-1)) (e := f) f0 (by rw [List.length_set]; omega)
    rw [tk_set e0 (by omega) f0, if_neg (Ne.symm q), ← h, c] at p
    have := J.one _ h0
    omega

/-! pairs and covers -/
theorem whileF_inv {S ρ : Type} {c : S → Res Bool} {f : S → Res (Out S ρ)} {J : S → Prop} {μ : S → Nat} (h : ∀ s, J s → ∃ b, c s = .ok b ∧ (b = true → Is (f s) fun o => ∃ s', o = .nx s' ∧ J s' ∧ μ s' < μ s)) : ∀ (N : Nat) (s : S), J s → μ s < N → Is (whileF c f N s) fun o => ∃ s', o = .nx s' ∧ J s' ∧ c s' = .ok false
  | 0, s, _, h2 => absurd h2 (Nat.not_lt_zero _)
  | N + 1, s, hj, h2 => by
    obtain ⟨b, e, hb⟩ := h s hj
    unfold whileF
    rw [e, Res.bind_ok]
    cases b with
    | false => exact ⟨s, rfl, hj, e⟩
    | true =>
      rw [if_pos rfl]
      refine Is.bind (hb rfl) fun o ⟨s', e2, h3, h4⟩ => ?_
      subst e2
      exact whileF_inv h N s' h3 (by omega)
theorem filter_split {α : Type} (p : α → Bool) : ∀ xs : List α, (xs.filter p).length + (xs.filter fun x => !p x).length = xs.length
  | [] => rfl
  | x :: xs => by
    have ih := filter_split p xs
    rw [List.filter_cons, List.filter_cons, List.length_cons]
    cases h : p x with
    | true => simp only [if_true, Bool.not_true, Bool.false_eq_true, if_false, List.length_cons]; omega
    | false => simp only [Bool.false_eq_true, if_false, Bool.not_false, if_true, List.length_cons]; omega
/-- the events that are taken -/
def tkn (t : List Int) : List Int := ((enumF 0 t).filter fun x => decide (0 ≤ x.2)).map (·.1)
def prs (t : List Int) : List (Int × Int) := ((enumF 0 t).filter fun x => decide (0 ≤ x.2)).map fun x => (x.2, x.1)
theorem enum_tk {t : List Int} {x : Int × Int} : x ∈ enumF 0 t ↔ (0 ≤ x.1 ∧ x.1 < t.length) ∧ x.2 = tk t x.1 := by
  rw [mem_enumF]
  constructor
  · rintro ⟨i, h1, h2⟩
    have hi := (List.getElem?_eq_some_iff.mp h1).1
    refine ⟨by omega, ?_⟩
    show _ = t.getD x.1.toNat (-1)
    rw [h2, Int.toNat_natCast, List.getD_eq_getElem?_getD, h1]
    rfl
  · rintro ⟨⟨h1, h2⟩, h3⟩
    obtain ⟨y, _, hy⟩ := ix_get h1 h2
    refine ⟨x.1.toNat, ?_, by omega⟩
    rw [h3]
    show _ = some (t.getD x.1.toNat (-1))
    rw [List.getD_eq_getElem?_getD, hy]
    rfl
theorem mem_tkn {t : List Int} {e : Int} : e ∈ tkn t ↔ (0 ≤ e ∧ e < t.length) ∧ 0 ≤ tk t e := by
  unfold tkn
  rw [List.mem_map]
  constructor
  · rintro ⟨x, hx, rfl⟩
    obtain ⟨h1, h2⟩ := List.mem_filter.mp hx
    obtain ⟨h3, h4⟩ := enum_tk.mp h1
    exact ⟨h3, by rw [← h4]; exact of_decide_eq_true h2⟩
  · rintro ⟨h1, h2⟩
    exact ⟨(e, tk t e), List.mem_filter.mpr ⟨enum_tk.mpr ⟨h1, rfl⟩, decide_eq_true h2⟩, rfl⟩
theorem tkn_nodup (t : List Int) : (tkn t).Nodup := by
  unfold tkn
  refine List.pairwise_map.mpr (((enumF_lt t 0).filter _).imp fun {a b} h => ?_)
  omega
theorem prs_len (t : List Int) : (prs t).length = (tkn t).length := by
  unfold prs tkn
  rw [List.length_map, List.length_map]
theorem mem_t {t : List Int} {w : Int} (h : w ∈ t) : ∃ e, (0 ≤ e ∧ e < (t.length : Int)) ∧ tk t e = w := by
  obtain ⟨i, hi⟩ := List.mem_iff_getElem?.mp h
  have hl := (List.getElem?_eq_some_iff.mp hi).1
  refine ⟨(i : Int), by omega, ?_⟩
  show t.getD (i : Int).toNat (-1) = w
  rw [Int.toNat_natCast, List.getD_eq_getElem?_getD, hi]
  rfl
theorem tk_mem {t : List Int} {e : Int} (h0 : 0 ≤ e) (h1 : e < t.length) : tk t e ∈ t := List.count_pos_iff.mp (count_pos_tk h0 h1)
/-- the loose warnings and the events that they lead to -/
structure CJ_ (L : List (List Int)) (m : Int) (t L0 : List Int) (G : Int → Prop) (z : List Int × List Int) : Prop where
  lo : z.1 = L0 ++ z.2.map (tk t)
  nd : z.2.Nodup
  rg : ∀ e ∈ z.2, (0 ≤ e ∧ e < m) ∧ G e
structure CVr (n m : Int) (L : List (List Int)) (t : List Int) (c : List Int × List Int) : Prop where
  a1 : c.1.Pairwise (· < ·)
  a2 : c.2.Pairwise (· < ·)
  r1 : ∀ w ∈ c.1, 0 ≤ w ∧ w < n
  r2 : ∀ e ∈ c.2, 0 ≤ e ∧ e < m
  cv : ∀ w, 0 ≤ w → w < n → w ∉ c.1 → ∀ e ∈ lkw L w, e ∈ c.2
  nm : c.1.length + c.2.length = (prs t).length
theorem range_up (n : Int) (p : Int → Bool) : ((rangeL 0 n).filter p).Pairwise (· < ·) := by
  refine List.Pairwise.filter _ ?_
  unfold rangeL
  rw [List.pairwise_map]
  exact List.pairwise_lt_range.imp fun h => by omega
theorem sortI_up {xs : List Int} (h : xs.Nodup) : (isortI xs).Pairwise (· < ·) := by
  have h1 := isortI_sorted xs
  have h2 : (isortI xs).Nodup := (isortI_perm xs).nodup_iff.mpr h
  exact h1.imp₂ (fun a b h3 h4 => by omega) h2
theorem cover_end {L : List (List Int)} {m : Int} {t : List Int} (K : LK L m) (J : TK L m L.length t) {L0 : List Int} (h0 : L0 = (rangeL 0 L.length).filter fun w => !decide (w ∈ t)) {G : Int → Prop} {z : List Int × List Int} (c : CJ_ L m t L0 G z) (hall : ∀ w ∈ z.1, ∀ e ∈ lkw L w, e ∈ z.2) (hG : Cl L t G) :
    CVr L.length m L t ((rangeL 0 L.length).filter fun w => !decide (w ∈ z.1), isortI z.2) := by
  have hl := J.ok.len
  refine ⟨range_up _ _, sortI_up c.nd, fun w hw => mem_rangeL.mp (List.mem_filter.mp hw).1, fun e he => (c.rg e ((isortI_perm _).mem_iff.mp he)).1, fun w a b hw e he => ?_, ?_⟩
  · refine (isortI_perm _).mem_iff.mpr (hall w ?_ e he)
    by_cases q : w ∈ z.1
    · exact q
    · exact absurd (List.mem_filter.mpr ⟨mem_rangeL.mpr ⟨a, b⟩, by rw [decide_eq_false q]; rfl⟩) hw
  · dsimp only
    rw [(isortI_perm _).length_eq, prs_len, ← filter_split (fun e => decide (e ∈ z.2)) (tkn t)]
    have e1 : ((tkn t).filter fun e => decide (e ∈ z.2)).length = z.2.length := by
      refine nodup_len_eq ((tkn_nodup t).filter _) c.nd fun e => ?_
      rw [List.mem_filter, mem_tkn, decide_eq_true_eq]
      constructor
      · exact fun h => h.2
      · intro h
        obtain ⟨h1, h2⟩ := c.rg e h
        exact ⟨⟨by omega, (hG e h2).2.1⟩, h⟩
    have e2 : (((tkn t).filter fun e => !decide (e ∈ z.2)).map (tk t)).length = ((rangeL 0 L.length).filter fun w => !decide (w ∈ z.1)).length := by
      refine nodup_len_eq ?_ ((range_up _ _).imp fun h => by omega) fun w => ?_
      · refine List.pairwise_map.mpr (List.Pairwise.imp_of_mem (fun {a b} ha hb h => ?_) ((tkn_nodup t).filter _))
        intro q
        obtain ⟨a1, a2⟩ := mem_tkn.mp (List.mem_filter.mp ha).1
        obtain ⟨b1, b2⟩ := mem_tkn.mp (List.mem_filter.mp hb).1
        exact h (J.inj a1.1 (by omega) b1.1 (by omega) q a2)
      · rw [List.mem_map, List.mem_filter, mem_rangeL]
        constructor
        · rintro ⟨e, he, rfl⟩
          obtain ⟨h1, h2⟩ := List.mem_filter.mp he
          obtain ⟨h3, h4⟩ := mem_tkn.mp h1
          refine ⟨⟨h4, (J.lk e h3.1 (by omega) h4).1⟩, ?_⟩
          rw [Bool.not_eq_true', decide_eq_false_iff_not] at h2 ⊢
          rw [c.lo]
          intro h5
          rcases List.mem_append.mp h5 with h5 | h5
          · rw [h0] at h5
            have h6 := (List.mem_filter.mp h5).2
            rw [decide_eq_true (tk_mem h3.1 h3.2)] at h6
            cases h6
          · obtain ⟨f, hf, q⟩ := List.mem_map.mp h5
            have hr := (c.rg f hf).1
            have := J.inj hr.1 hr.2 h3.1 (by omega) q (by rw [q]; exact h4)
            exact h2 (this ▸ hf)
        · rintro ⟨⟨h1, h2⟩, h3⟩
          rw [Bool.not_eq_true', decide_eq_false_iff_not, c.lo] at h3
          have ht : w ∈ t := by
            by_cases q : w ∈ t
            · exact q
            · exfalso
              refine h3 (List.mem_append_left _ ?_)
              rw [h0]
              exact List.mem_filter.mpr ⟨mem_rangeL.mpr ⟨h1, h2⟩, by rw [decide_eq_false q]; rfl⟩
          obtain ⟨e, he, rfl⟩ := mem_t ht
          refine ⟨e, List.mem_filter.mpr ⟨mem_tkn.mpr ⟨he, h1⟩, ?_⟩, rfl⟩
          rw [Bool.not_eq_true', decide_eq_false_iff_not]
          exact fun q => h3 (List.mem_append_right _ (List.mem_map_of_mem q))
    rw [List.length_map] at e2
    rw [e1, e2]
    omega
theorem cover_is {W : List Wn} {E : List Eu} {l k : Int} (hW : chk1 okW W = .ok ()) (hE : chk1 okS E = .ok ()) {t : List Int} (et : m_takers_of (lks l k W E) E.length = .ok t) (J : TK (lks l k W E) E.length (lks l k W E).length t) :
    Is (m_cover W E l k) (CVr W.length E.length (lks l k W E) t) := by
  have lW := chk1_len hW
  have lE := chk1_len hE
  have K := lks_LK (W := W) (E := E) l k lW lE
  have en : (lks l k W E).length = W.length := by unfold lks; rw [List.length_map]
  unfold m_cover
  rw [pair_ok, pair_ok, pair_ok, un_ok, links_eq, hW, hE, Res.bind_ok, Res.bind_ok, Res.bind_ok, un_ok, rLen_eq, pair_ok, un_ok]
  dsimp only
  rw [et, Res.bind_ok, un_ok, rLen_eq, un_ok, rng1_ok (by omega), Res.bind_ok]
  rw [← en]
  generalize lks l k W E = L at *
  have hn := K.n
  have hm := K.m
  generalize hmm : (E.length : Int) = m at *
  have hl := J.ok.len
  obtain ⟨G, hG, hG2⟩ := J.cl
  have ef : filR (fun (x_15 : Int) => (bin ninR (Res.ok x_15) (Res.ok t))) (fun (x_15 : Int) => (Res.ok x_15)) (rangeL 0 L.length) = .ok ((rangeL 0 L.length).filter fun w => !decide (w ∈ t)) := by
    exact filR_id fun x _ => by rw [bin_ok, ninR_eq]
  rw [ef, Res.bind_ok, Res.bind_ok, Res.bind_ok]
  generalize h0 : ((rangeL 0 (L.length : Int)).filter fun w => !decide (w ∈ t)) = L0
  have l0 : ∀ w ∈ L0, (0 ≤ w ∧ w < (L.length : Int)) ∧ ∀ e ∈ lkw L w, G e := fun w hw => by
    rw [← h0] at hw
    obtain ⟨a, b⟩ := List.mem_filter.mp hw
    obtain ⟨c, d⟩ := mem_rangeL.mp a
    rw [Bool.not_eq_true', decide_eq_false_iff_not] at b
    exact ⟨⟨c, d⟩, hG2 w c d (List.count_eq_zero.mpr b)⟩
  have lL0 : L0.length ≤ 1000 := by
    rw [← h0]
    refine Nat.le_trans (List.length_filter_le ..) ?_
    rw [rangeL_length]
    omega
  -- all the loose ones
  have lall : ∀ z, CJ_ L m t L0 G z → ∀ w ∈ z.1, (0 ≤ w ∧ w < (L.length : Int)) ∧ ∀ e ∈ lkw L w, G e := fun z c w hw => by
    rw [c.lo] at hw
    rcases List.mem_append.mp hw with h | h
    · exact l0 w h
    · obtain ⟨e, he, rfl⟩ := List.mem_map.mp h
      obtain ⟨h1, h2⟩ := c.rg e he
      obtain ⟨_, h3, h4⟩ := hG e h2
      exact ⟨⟨h3, (J.lk e h1.1 h1.2 h3).1⟩, h4⟩
  have rl : ∀ z, CJ_ L m t L0 G z → (z.2.length : Int) ≤ m ∧ z.1.length = L0.length + z.2.length := fun z c => by
    have := nodup_len c.nd (ys := rangeL 0 m) fun e he => mem_rangeL.mpr (c.rg e he).1
    rw [rangeL_length] at this
    refine ⟨by omega, ?_⟩
    rw [c.lo, List.length_append, List.length_map]
  refine Is.bind (whileF_inv (J := fun z : List Int × List Int × Int => CJ_ L m t L0 G (z.1, z.2.1) ∧ 0 ≤ z.2.2 ∧ z.2.2 ≤ z.1.length ∧ ∀ (i : Nat) w, (i : Int) < z.2.2 → z.1[i]? = some w → ∀ e ∈ lkw L w, e ∈ z.2.1)
    (μ := fun z => ((L0.length : Int) + m + 1 - z.2.2).toNat) (fun z hz => ?_) fuel (L0, [], 0) ⟨⟨by simp, .nil, fun e h => (nomatch h)⟩, Int.le_refl _, by show (0 : Int) ≤ _; omega, fun i w h => by dsimp only at h; omega⟩ (by rw [fuel_eq]; dsimp only; omega)) fun o ⟨z, ho, hz, hc⟩ => ?_
  · obtain ⟨lo, re, pl⟩ := z
    obtain ⟨c, p0, p1, hp⟩ := hz
    dsimp only at c p0 p1 hp ⊢
    refine ⟨decide (pl < lo.length), by rw [un_ok, rLen_eq, bin_ok, rLt_eq], fun hlt => ?_⟩
    have hlt := of_decide_eq_true hlt
    obtain ⟨w, ew, hw⟩ := ix_get p0 hlt
    have hwm : w ∈ lo := List.mem_of_getElem? hw
    obtain ⟨⟨w0, w1⟩, wG⟩ := lall _ c w hwm
    obtain ⟨eL, inL⟩ := lkw_get K w0 w1
    rw [bin_ok, ew, Res.bind_ok, bin_ok, eL, Res.bind_ok]
    refine Is.bind (loopN_inv (fun i (y : List Int × List Int) => CJ_ L m t L0 G y ∧ (∃ us, y.1 = lo ++ us) ∧ (∀ e ∈ re, e ∈ y.2) ∧ ∀ (j : Nat) e, j < i → (lkw L w)[j]? = some e → e ∈ y.2) ⟨c, ⟨[], by simp⟩, fun e h => h, fun j e h => absurd h (Nat.not_lt_zero _)⟩ fun i e y hx ⟨cy, ⟨us, hu⟩, sy, ay⟩ => ?_) fun y ⟨cy, ⟨us, hu⟩, sy, ay⟩ => ?_
    · have hem : e ∈ lkw L w := List.mem_of_getElem? hx
      obtain ⟨e0, e1⟩ := inL e hem
      rw [bin_ok, ninR_eq, ifR_ok]
      have step : e ∈ y.2 → ∀ (j : Nat) f, j < i + 1 → (lkw L w)[j]? = some f → f ∈ y.2 := fun he j f hj hf => by
        by_cases q : j < i
        · exact ay j f q hf
        · have : j = i := by omega
          subst this
          rw [hx] at hf
          cases hf
          exact he
      by_cases q : e ∈ y.2
      · rw [if_neg (by rw [decide_eq_true q]; decide)]
        exact ⟨cy, ⟨us, hu⟩, sy, step q⟩
      · rw [if_pos (by rw [decide_eq_false q]; rfl), Res.bind_ok]
        obtain ⟨r1, r2⟩ := rl y cy
        rw [push_ok (by omega), Res.bind_ok, bin_ok, ix_getD (d := (-1 : Int)) e0 (by omega), Res.bind_ok, push_ok (by omega), Res.bind_ok]
        refine ⟨⟨?_, ?_, fun f hf => ?_⟩, ⟨us ++ [tk t e], ?_⟩, fun f hf => List.mem_append_left _ (sy f hf), fun j f hj hf => ?_⟩
        · show y.1 ++ [tk t e] = L0 ++ (y.2 ++ [e]).map (tk t)
          rw [List.map_append, ← List.append_assoc, ← cy.lo]
          rfl
        · refine List.pairwise_append.mpr ⟨cy.nd, List.pairwise_singleton .., fun a ha b hb => ?_⟩
          rw [List.mem_singleton.mp hb]
          exact fun z => q (z ▸ ha)
        · rcases List.mem_append.mp hf with h | h
          · exact cy.rg f h
          · rw [List.mem_singleton.mp h]
            exact ⟨⟨e0, e1⟩, wG e hem⟩
        · show y.1 ++ [tk t e] = lo ++ (us ++ [tk t e])
          rw [hu, List.append_assoc]
        · by_cases q2 : j < i
          · exact List.mem_append_left _ (ay j f q2 hf)
          · have : j = i := by omega
            subst this
            rw [hx] at hf
            cases hf
            exact List.mem_append_right _ List.mem_cons_self
    · have hall : ∀ e ∈ lkw L w, e ∈ y.2 := fun e he => by
        obtain ⟨j, hj⟩ := List.mem_iff_getElem?.mp he
        exact ay j e (List.getElem?_eq_some_iff.mp hj).1 hj
      have hlen : lo.length ≤ y.1.length := by rw [hu, List.length_append]; omega
      refine ⟨_, rfl, ⟨cy, by dsimp only; omega, by dsimp only; omega, fun i v hi hv => ?_⟩, ?_⟩
      · dsimp only at hi hv ⊢
        have hil : i < lo.length := by omega
        rw [hu, List.getElem?_append_left hil] at hv
        by_cases q : (i : Int) < pl
        · exact fun e he => sy e (hp i v q hv e he)
        · have : i = pl.toNat := by omega
          rw [this, hw] at hv
          cases hv
          exact hall
      · obtain ⟨r1, r2⟩ := rl _ c
        dsimp only at r1 r2 ⊢
        omega
  · subst ho
    obtain ⟨lo, re, pl⟩ := z
    obtain ⟨c, p0, p1, hp⟩ := hz
    dsimp only at c p0 p1 hp hc ⊢
    rw [un_ok, rLen_eq, bin_ok, rLt_eq] at hc
    have hge : ¬ pl < lo.length := of_decide_eq_false (Res.ok.inj hc)
    have ef2 : filR (fun (x_217 : Int) => (bin ninR (Res.ok x_217) (Res.ok lo))) (fun (x_217 : Int) => (Res.ok x_217)) (rangeL 0 L.length) = .ok ((rangeL 0 L.length).filter fun w => !decide (w ∈ lo)) := by
      exact filR_id fun x _ => by rw [bin_ok, ninR_eq]
    rw [Res.bind_ok, ef2]
    exact cover_end K J h0.symm c (fun w hw e he => by
      obtain ⟨i, hi⟩ := List.mem_iff_getElem?.mp hw
      have hil : i < lo.length := (List.getElem?_eq_some_iff.mp hi).1
      exact hp i w (by omega) hi e he) hG

/-! the judgements -/
def asc (n : Int) : Int → List Int → Bool
  | _, [] => true
  | a, x :: xs => decide (a < x ∧ x < n) && asc n x xs
theorem asc_loop {n : Int} {f : Int → Int → Res (Out Int Bool)} (hf : ∀ x a, f x a = .ok (if a < x ∧ x < n then .nx x else .rt false)) : ∀ (xs : List Int) (a : Int), ∃ b, loopR f xs a = .ok (if asc n a xs = true then .nx b else .rt false)
  | [], a => ⟨a, rfl⟩
  | x :: xs, a => by
    obtain ⟨b, e⟩ := asc_loop hf xs x
    refine ⟨b, ?_⟩
    rw [loopR_cons, hf, asc]
    by_cases h : a < x ∧ x < n
    · rw [if_pos h, Res.bind_ok, decide_eq_true h, Bool.true_and]
      exact e
    · rw [if_neg h, Res.bind_ok, decide_eq_false h, Bool.false_and]
      rfl
theorem asc_f (n x a : Int) {γ : Type} (s1 s2 : γ) : (if (decide (x ≤ a) || decide (n ≤ x)) = true then s1 else s2) = if a < x ∧ x < n then s2 else s1 := by
  by_cases h : a < x ∧ x < n
  · rw [if_pos h, if_neg]
    simp only [Bool.or_eq_true, decide_eq_true_eq]
    omega
  · rw [if_neg h, if_pos]
    simp only [Bool.or_eq_true, decide_eq_true_eq]
    omega
theorem are_eq (xs : List Int) (n : Int) : m_are_indexes xs n = .ok (asc n (-1) xs) := by
  unfold m_are_indexes
  rw [un_ok, rNeg_eq, Res.bind_ok, Res.bind_ok]
  obtain ⟨b, e⟩ := asc_loop (n := n) (f := (fun (x_16 : Int) (z_8 : Int) => (ifR (orR (bin rLe (Res.ok x_16) (Res.ok z_8)) (bin rGe (Res.ok x_16) (Res.ok n))) ((Res.ok false).bind fun a_36 => Res.ok (Out.rt a_36)) ((Res.ok x_16).bind fun (ahead_43 : Int) => (Res.ok (Out.nx ahead_43)))))) (fun x a => by
    simp only [bin_ok, rLe_eq, rGe_eq, orR_ok, ifR_ok, Res.bind_ok, asc_f]
    split <;> rfl) xs (-1)
  rw [e]
  split <;> simp_all
theorem lasc_eq (xs : List Int) (n : Int) : m__law_ascends xs n = .ok (asc n (-1) xs) := are_eq xs n
theorem asc_iff {n : Int} : ∀ {xs : List Int} {a : Int}, asc n a xs = true ↔ (∀ x ∈ xs, a < x ∧ x < n) ∧ xs.Pairwise (· < ·)
  | [], a => ⟨fun _ => ⟨fun _ h => (nomatch h), .nil⟩, fun _ => rfl⟩
  | x :: xs, a => by
    rw [asc, Bool.and_eq_true, decide_eq_true_eq, asc_iff, List.pairwise_cons]
    constructor
    · rintro ⟨⟨h1, h2⟩, h3, h4⟩
      refine ⟨fun y hy => ?_, fun y hy => (h3 y hy).1, h4⟩
      rcases List.mem_cons.mp hy with rfl | hy
      · exact ⟨h1, h2⟩
      · have := h3 y hy
        omega
    · rintro ⟨h1, h2, h3⟩
      exact ⟨h1 x List.mem_cons_self, fun y hy => ⟨h2 y hy, (h1 y (List.mem_cons_of_mem _ hy)).2⟩, h3⟩
theorem out_end (b : Bool) : ((Res.ok (if b = true then (.nx () : Out Unit Bool) else .rt false)).bind fun o => match o with | .nx _ => ((Res.ok true).bind fun a => Res.ok a) | .br _ => Res.bad | .rt r => Res.ok r) = (.ok b : Res Bool) := by cases b <;> rfl
theorem out_in (b : Bool) : ((Res.ok (if b = true then (.rt false : Out Unit Bool) else .nx ())).bind fun o => match o with | .nx _ => (Res.ok (Out.nx ())) | .br _ => Res.bad | .rt r => Res.ok (Out.rt r)) = (.ok (if b = true then .rt false else .nx ()) : Res (Out Unit Bool)) := by cases b <;> rfl
/-- pairs that are right -/
def pOk (n m : Int) (ft : Int → Int → Bool) : Int → List Int → List (Int × Int) → Bool
  | _, _, [] => true
  | a, s, p :: ps => decide (a < p.1 ∧ p.1 < n) && (decide (0 ≤ p.2 ∧ p.2 < m ∧ p.2 ∉ s) && (ft p.1 p.2 && pOk n m ft p.1 (s ++ [p.2]) ps))
def fitI (l k : Int) (W : List Wn) (E : List Eu) (w e : Int) : Bool := fits l k (W.getD w.toNat (0, 0, 0)) (E.getD e.toNat (0, 0))
theorem lpair_loop {n m : Int} {ft : Int → Int → Bool} {f : Int × Int → Int × List Int → Res (Out (Int × List Int) Bool)} (hf : ∀ p a s, s.length < 1000000 → -1 ≤ a → f p (a, s) = .ok (if a < p.1 ∧ p.1 < n then (if 0 ≤ p.2 ∧ p.2 < m ∧ p.2 ∉ s then (if ft p.1 p.2 = true then .nx (p.1, s ++ [p.2]) else .rt false) else .rt false) else .rt false)) :
    ∀ (P : List (Int × Int)) (a : Int) (s : List Int), -1 ≤ a → s.length + P.length < 1000000 → ∃ b, loopR f P (a, s) = .ok (if pOk n m ft a s P = true then .nx b else .rt false)
  | [], a, s, _, _ => ⟨(a, s), rfl⟩
  | p :: P, a, s, ha, hl => by
    rw [List.length_cons] at hl
    rw [loopR_cons, hf p a s (by omega) ha, pOk]
    by_cases h1 : a < p.1 ∧ p.1 < n
    · by_cases h2 : 0 ≤ p.2 ∧ p.2 < m ∧ p.2 ∉ s
      · by_cases h3 : ft p.1 p.2 = true
        · obtain ⟨b, e⟩ := lpair_loop hf P p.1 (s ++ [p.2]) (by omega) (by rw [List.length_append, List.length_singleton]; omega)
          refine ⟨b, ?_⟩
          rw [if_pos h1, if_pos h2, if_pos h3, Res.bind_ok, decide_eq_true h1, decide_eq_true h2, h3]
          exact e
        · refine ⟨(a, s), ?_⟩
          rw [if_pos h1, if_pos h2, if_neg h3, Res.bind_ok, decide_eq_true h1, decide_eq_true h2, Bool.eq_false_iff.mpr h3]
          rfl
      · refine ⟨(a, s), ?_⟩
        rw [if_pos h1, if_neg h2, Res.bind_ok, decide_eq_true h1, decide_eq_false h2]
        rfl
    · refine ⟨(a, s), ?_⟩
      rw [if_neg h1, Res.bind_ok, decide_eq_false h1]
      rfl
theorem lpair_loop2 {n m : Int} {ft : Int → Int → Bool} {f : Int × Int → Int × List Int → Res (Out (Int × List Int) Bool)} {Kt : Out (Int × List Int) Bool → Res Bool} (hf : ∀ p a s, s.length < 1000000 → -1 ≤ a → f p (a, s) = .ok (if a < p.1 ∧ p.1 < n then (if 0 ≤ p.2 ∧ p.2 < m ∧ p.2 ∉ s then (if ft p.1 p.2 = true then .nx (p.1, s ++ [p.2]) else .rt false) else .rt false) else .rt false))
    (k1 : ∀ b, Kt (.nx b) = .ok true) (k2 : Kt (.rt false) = .ok false) {P : List (Int × Int)} (hl : P.length ≤ 1000) : (loopR f P (-1, [])).bind Kt = .ok (pOk n m ft (-1) [] P) := by
  obtain ⟨b, e⟩ := lpair_loop hf P (-1) [] (Int.le_refl _) (by simp; omega)
  rw [e, Res.bind_ok]
  cases pOk n m ft (-1) [] P with
  | true => exact k1 b
  | false => exact k2
theorem lpairing_eq {W : List Wn} {E : List Eu} (l k : Int) {P : List (Int × Int)} (hl : P.length ≤ 1000) : m__law_is_pairing W E l k P = .ok (pOk W.length E.length (fitI l k W E) (-1) [] P) := by
  unfold m__law_is_pairing
  rw [un_ok, rNeg_eq, Res.bind_ok, Res.bind_ok, Res.bind_ok]
  refine lpair_loop2 (n := W.length) (m := E.length) (ft := fitI l k W E) (fun p a s hs ha => ?_) (fun _ => rfl) rfl hl
  · simp only [un_ok, bin_ok, rLe_eq, rGe_eq, rLt_eq, rLen_eq, orR_ok, ifR_ok, inR_eq, Res.bind_ok]
    by_cases h1 : a < p.1 ∧ p.1 < W.length
    · rw [if_pos h1]
      by_cases h2 : 0 ≤ p.2 ∧ p.2 < E.length
      · rw [if_neg (by simp only [Bool.or_eq_true, decide_eq_true_eq]; omega), ix_getD (d := (0, 0, 0)) (show 0 ≤ p.1 by omega) h1.2, ix_getD (d := (0, 0)) h2.1 h2.2]
        simp only [pair_ok, un_ok, fits_eq, notR_eq, orR_ok, ifR_ok]
        by_cases h3 : p.2 ∈ s
        · rw [if_pos (by rw [decide_eq_true h3]; rfl), if_neg (fun z => z.2.2 h3)]
        · rw [decide_eq_false h3, Bool.false_or, if_pos (show 0 ≤ p.2 ∧ p.2 < (E.length : Int) ∧ p.2 ∉ s from ⟨h2.1, h2.2, h3⟩)]
          unfold fitI
          cases hq : fits l k (W.getD p.1.toNat (0, 0, 0)) (E.getD p.2.toNat (0, 0)) with
          | true => rw [if_neg (by decide), if_pos rfl, push_ok hs]; rfl
          | false => rfl
      · rw [if_pos (by simp only [Bool.or_eq_true, decide_eq_true_eq]; omega), if_neg (fun z => h2 ⟨z.1, z.2.1⟩)]
    · rw [if_neg h1, if_pos (by simp only [Bool.or_eq_true, decide_eq_true_eq]; omega)]
def qOk (L : List (List Int)) : List Int → List (Int × Int) → Bool
  | _, [] => true
  | s, p :: ps => decide (p.2 ∈ lkw L p.1 ∧ p.2 ∉ s) && qOk L (s ++ [p.2]) ps
theorem ppair_loop {L : List (List Int)} {f : Int × Int → List Int → Res (Out (List Int) Bool)} (hf : ∀ p s, s.length < 1000000 → 0 ≤ p.1 → p.1 < (L.length : Int) → f p s = .ok (if p.2 ∈ lkw L p.1 ∧ p.2 ∉ s then .nx (s ++ [p.2]) else .rt false)) :
    ∀ (P : List (Int × Int)) (s : List Int), (∀ p ∈ P, 0 ≤ p.1 ∧ p.1 < (L.length : Int)) → s.length + P.length < 1000000 → ∃ b, loopR f P s = .ok (if qOk L s P = true then .nx b else .rt false)
  | [], s, _, _ => ⟨s, rfl⟩
  | p :: P, s, hp, hl => by
    rw [List.length_cons] at hl
    obtain ⟨p0, p1⟩ := hp p List.mem_cons_self
    rw [loopR_cons, hf p s (by omega) p0 p1, qOk]
    by_cases h1 : p.2 ∈ lkw L p.1 ∧ p.2 ∉ s
    · obtain ⟨b, e⟩ := ppair_loop hf P (s ++ [p.2]) (fun q hq => hp q (List.mem_cons_of_mem _ hq)) (by rw [List.length_append, List.length_singleton]; omega)
      refine ⟨b, ?_⟩
      rw [if_pos h1, Res.bind_ok, decide_eq_true h1, Bool.true_and]
      exact e
    · refine ⟨s, ?_⟩
      rw [if_neg h1, Res.bind_ok, decide_eq_false h1, Bool.false_and]
      rfl
theorem ppair_loop2 {L : List (List Int)} {f : Int × Int → List Int → Res (Out (List Int) Bool)} {Kt : Out (List Int) Bool → Res Bool} (hf : ∀ p s, s.length < 1000000 → 0 ≤ p.1 → p.1 < (L.length : Int) → f p s = .ok (if p.2 ∈ lkw L p.1 ∧ p.2 ∉ s then .nx (s ++ [p.2]) else .rt false))
    (k1 : ∀ b, Kt (.nx b) = .ok true) (k2 : Kt (.rt false) = .ok false) {P : List (Int × Int)} (hp : ∀ p ∈ P, 0 ≤ p.1 ∧ p.1 < (L.length : Int)) (hl : P.length ≤ 1000) : (loopR f P []).bind Kt = .ok (qOk L [] P) := by
  obtain ⟨b, e⟩ := ppair_loop hf P [] hp (by simp; omega)
  rw [e, Res.bind_ok]
  cases qOk L [] P with
  | true => exact k1 b
  | false => exact k2
theorem lkw_lks {l k : Int} {W : List Wn} {E : List Eu} {w : Int} (h0 : 0 ≤ w) (h1 : w < W.length) : lkw (lks l k W E) w = lk1 l k E (W.getD w.toNat (0, 0, 0)) := by
  obtain ⟨x, _, hx⟩ := ix_get h0 h1
  show (lks l k W E).getD w.toNat [] = _
  unfold lks
  rw [List.getD_eq_getElem?_getD, List.getElem?_map, List.getD_eq_getElem?_getD, hx]
  rfl
theorem lkw_mem {l k : Int} {W : List Wn} {E : List Eu} {w e : Int} (h0 : 0 ≤ w) (h1 : w < W.length) : e ∈ lkw (lks l k W E) w ↔ (0 ≤ e ∧ e < E.length) ∧ fitI l k W E w e = true := by
  rw [lkw_lks h0 h1]
  unfold fitI
  constructor
  · intro h
    refine ⟨lk1_in h, ?_⟩
    obtain ⟨i, x, h1, rfl, h2⟩ := mem_lk1.mp h
    rw [Int.toNat_natCast, List.getD_eq_getElem?_getD (l := E), h1]
    exact h2
  · rintro ⟨⟨a, b⟩, h⟩
    obtain ⟨x, _, hx⟩ := ix_get a b
    refine mem_lk1.mpr ⟨e.toNat, x, hx, by omega, ?_⟩
    rw [List.getD_eq_getElem?_getD (l := E), hx] at h
    exact h
theorem pq_eq {l k : Int} {W : List Wn} {E : List Eu} : ∀ (P : List (Int × Int)) (a : Int) (s : List Int), -1 ≤ a → pOk W.length E.length (fitI l k W E) a s P = (asc W.length a (P.map (·.1)) && (if asc W.length a (P.map (·.1)) = true then qOk (lks l k W E) s P else true))
  | [], a, s, _ => rfl
  | p :: P, a, s, ha => by
    rw [pOk, List.map_cons, asc, qOk]
    by_cases h1 : a < p.1 ∧ p.1 < W.length
    · rw [decide_eq_true h1, Bool.true_and, Bool.true_and, pq_eq P p.1 (s ++ [p.2]) (by omega)]
      have hm : p.2 ∈ lkw (lks l k W E) p.1 ↔ _ := lkw_mem (l := l) (k := k) (W := W) (E := E) (e := p.2) (show 0 ≤ p.1 by omega) h1.2
      cases ha2 : asc W.length p.1 (P.map (·.1)) with
      | false => simp
      | true =>
        rw [if_pos rfl, if_pos rfl, Bool.true_and, Bool.true_and]
        by_cases h2 : 0 ≤ p.2 ∧ p.2 < E.length
        · by_cases h3 : p.2 ∈ s
          · rw [decide_eq_false (fun z => z.2.2 h3), decide_eq_false (fun z => z.2 h3)]
            rfl
          · rw [decide_eq_true ⟨h2.1, h2.2, h3⟩, Bool.true_and]
            cases h4 : fitI l k W E p.1 p.2 with
            | true => rw [decide_eq_true ⟨hm.mpr ⟨h2, h4⟩, h3⟩]
            | false =>
              have hno : ¬ (p.2 ∈ lkw (lks l k W E) p.1 ∧ p.2 ∉ s) := by
                rintro ⟨z, _⟩
                have := (hm.mp z).2
                rw [h4] at this
                cases this
              rw [decide_eq_false hno]
        · rw [decide_eq_false (fun z => h2 ⟨z.1, z.2.1⟩), decide_eq_false (fun z => h2 (hm.mp z.1).1)]
          rfl
    · rw [decide_eq_false h1]
      rfl
theorem pairing_judged {W : List Wn} {E : List Eu} {l k : Int} (hW : chk1 okW W = .ok ()) (hE : chk1 okS E = .ok ()) {P : List (Int × Int)} (hl : P.length ≤ 1000) : m_is_pairing W E l k P = .ok (pOk W.length E.length (fitI l k W E) (-1) [] P) := by
  have lW := chk1_len hW
  have en : (lks l k W E).length = W.length := by unfold lks; rw [List.length_map]
  unfold m_is_pairing
  rw [pair_ok, pair_ok, pair_ok, un_ok, links_eq, hW, hE, Res.bind_ok, Res.bind_ok, Res.bind_ok]
  have em : ((Res.ok P).bind (mapR (fun (x_8 : (Int × Int)) => (un (fun p => Res.ok p.1) (Res.ok x_8))))) = .ok (P.map (·.1)) := mapR_okf _ _
  rw [em, un_ok, rLen_eq, pair_ok, un_ok, are_eq, un_ok, notR_eq, ifR_ok, pq_eq P (-1) [] (Int.le_refl _)]
  cases ha : asc W.length (-1) (P.map (·.1)) with
  | false => rfl
  | true =>
    rw [if_neg (by decide), if_pos rfl, Bool.true_and, Res.bind_ok, Res.bind_ok]
    have hr := (asc_iff.mp ha).1
    refine ppair_loop2 (L := lks l k W E) (fun p s hs p0 p1 => ?_) (fun _ => rfl) rfl (fun p hp => by
      have := hr p.1 (List.mem_map_of_mem hp)
      rw [en]
      omega) hl
    · rw [bin_ok (f := ix), ix_getD (d := []) p0 p1]
      simp only [bin_ok, ninR_eq, inR_eq, orR_ok, ifR_ok, Res.bind_ok]
      by_cases h1 : p.2 ∈ lkw (lks l k W E) p.1
      · by_cases h2 : p.2 ∈ s
        · rw [if_pos (by rw [decide_eq_true h2]; simp), if_neg (fun z => z.2 h2)]
        · rw [if_neg (by rw [decide_eq_true h1, decide_eq_false h2]; decide), if_pos ⟨h1, h2⟩, push_ok hs]
          rfl
      · rw [if_pos (by rw [decide_eq_false h1]; rfl), if_neg (fun z => h1 z.1)]
/-- lists that cover -/
def cvOk (l k : Int) (W : List Wn) (E : List Eu) (c : List Int × List Int) : Bool := asc W.length (-1) c.1 && (asc E.length (-1) c.2 && decide (∀ w ∈ rangeL 0 W.length, ∀ e ∈ rangeL 0 E.length, fitI l k W E w e = true → w ∈ c.1 ∨ e ∈ c.2))
theorem any_dec {α : Type} {p : α → Bool} {xs : List α} {Q : Prop} [Decidable Q] (h : Q ↔ ∀ x ∈ xs, p x = false) : (if xs.any p = true then (.rt false : Out Unit Bool) else .nx ()) = if decide Q = true then .nx () else .rt false := by
  by_cases q : Q
  · rw [decide_eq_true q, if_pos rfl, if_neg]
    intro z
    obtain ⟨x, hx, hp⟩ := List.any_eq_true.mp z
    rw [h.mp q x hx] at hp
    cases hp
  · rw [decide_eq_false q, if_neg Bool.false_ne_true, if_pos]
    refine List.any_eq_true.mpr ?_
    have : ¬ ∀ x ∈ xs, p x = false := fun z => q (h.mpr z)
    obtain ⟨x, hx⟩ := Classical.not_forall.mp this
    obtain ⟨hx, hp⟩ := Classical.not_imp.mp hx
    exact ⟨x, hx, by cases hq : p x with
      | true => rfl
      | false => exact absurd hq hp⟩
theorem lcover_eq {W : List Wn} {E : List Eu} (l k : Int) (c : List Int × List Int) (hW : W.length ≤ 1000) (hE : E.length ≤ 1000) : m__law_is_cover W E l k c = .ok (cvOk l k W E c) := by
  unfold m__law_is_cover cvOk
  simp only [un_ok, rLen_eq, pair_ok, lasc_eq, notR_eq, orR_ok, ifR_ok, Res.bind_ok]
  cases h1 : asc W.length (-1) c.1 with
  | false => rfl
  | true =>
    cases h2 : asc E.length (-1) c.2 with
    | false => rfl
    | true =>
      rw [if_neg (by decide), rng1_ok (by omega), Res.bind_ok, Bool.true_and, Bool.true_and]
      rw [loopR_any (p := fun w => (rangeL 0 E.length).any fun e => (!decide (w ∈ c.1)) && ((!decide (e ∈ c.2)) && fitI l k W E w e)) (r := false) fun w hw => ?_]
      · rw [any_dec (Q := ∀ w ∈ rangeL 0 W.length, ∀ e ∈ rangeL 0 E.length, fitI l k W E w e = true → w ∈ c.1 ∨ e ∈ c.2) ?_]
        · exact out_end _
        · refine forall_congr' fun w => forall_congr' fun hw => ?_
          rw [← Bool.not_eq_true, List.any_eq_true]
          constructor
          · rintro h ⟨e, he, q⟩
            simp only [Bool.and_eq_true, Bool.not_eq_true', decide_eq_false_iff_not] at q
            exact (h e he q.2.2).elim q.1 q.2.1
          · intro h e he hf
            by_cases q1 : w ∈ c.1
            · exact .inl q1
            · by_cases q2 : e ∈ c.2
              · exact .inr q2
              · exact absurd ⟨e, he, by rw [decide_eq_false q1, decide_eq_false q2, hf]; rfl⟩ h
      · have hw := mem_rangeL.mp hw
        rw [rng1_ok (by omega), Res.bind_ok]
        rw [loopR_any (p := fun e => (!decide (w ∈ c.1)) && ((!decide (e ∈ c.2)) && fitI l k W E w e)) (r := false) fun e he => ?_]
        · exact out_in _
        · have he := mem_rangeL.mp he
          simp only [bin_ok, ninR_eq, ix_getD (d := ((0 : Int), (0 : Int), (0 : Int))) hw.1 hw.2, ix_getD (d := ((0 : Int), (0 : Int))) he.1 he.2, pair_ok, un_ok, fits_eq, andR_ok, ifR_ok]
          unfold fitI
          split <;> rfl
theorem cover_judged {W : List Wn} {E : List Eu} {l k : Int} (hW : chk1 okW W = .ok ()) (hE : chk1 okS E = .ok ()) (c : List Int × List Int) : m_is_cover W E l k c = .ok (cvOk l k W E c) := by
  have lW := chk1_len hW
  have lE := chk1_len hE
  unfold m_is_cover cvOk
  rw [pair_ok, pair_ok, pair_ok, un_ok, links_eq, hW, hE, Res.bind_ok, Res.bind_ok, Res.bind_ok]
  simp only [un_ok, rLen_eq, pair_ok, are_eq, notR_eq, orR_ok, ifR_ok, Res.bind_ok, enumR_eq]
  cases h1 : asc W.length (-1) c.1 with
  | false => rfl
  | true =>
    cases h2 : asc E.length (-1) c.2 with
    | false => rfl
    | true =>
      rw [if_neg (by decide), Bool.true_and, Bool.true_and]
      rw [loopR_any (p := fun x => x.2.any fun e => (!decide (x.1 ∈ c.1)) && (!decide (e ∈ c.2))) (r := false) fun x hx => ?_]
      · rw [any_dec (Q := ∀ w ∈ rangeL 0 W.length, ∀ e ∈ rangeL 0 E.length, fitI l k W E w e = true → w ∈ c.1 ∨ e ∈ c.2) ?_]
        · exact out_end _
        · constructor
          · intro h x hx
            obtain ⟨i, hi, ei⟩ := mem_enumF.mp hx
            have hil := (List.getElem?_eq_some_iff.mp hi).1
            have en : (lks l k W E).length = W.length := by unfold lks; rw [List.length_map]
            have ex : x.2 = lkw (lks l k W E) (i : Int) := by
              show _ = (lks l k W E).getD (i : Int).toNat []
              rw [Int.toNat_natCast, List.getD_eq_getElem?_getD, hi]
              rfl
            rw [← Bool.not_eq_true, List.any_eq_true]
            rintro ⟨e, he, q⟩
            rw [ex] at he
            obtain ⟨he1, he2⟩ := (lkw_mem (by omega) (by omega)).mp he
            simp only [Bool.and_eq_true, Bool.not_eq_true', decide_eq_false_iff_not] at q
            rw [ei] at q
            exact (h (i : Int) (mem_rangeL.mpr ⟨by omega, by omega⟩) e (mem_rangeL.mpr he1) he2).elim q.1 q.2
          · intro h w hw e he hf
            have hw := mem_rangeL.mp hw
            have he := mem_rangeL.mp he
            have hm : e ∈ lkw (lks l k W E) w := (lkw_mem hw.1 hw.2).mpr ⟨he, hf⟩
            have hx : ((w, lkw (lks l k W E) w) : Int × List Int) ∈ enumF 0 (lks l k W E) := by
              refine mem_enumF.mpr ⟨w.toNat, ?_, by dsimp only; omega⟩
              obtain ⟨y, _, hy⟩ := ix_get (xs := lks l k W E) hw.1 (by unfold lks; rw [List.length_map]; exact hw.2)
              show _ = some ((lks l k W E).getD w.toNat [])
              rw [List.getD_eq_getElem?_getD, hy]
              rfl
            have q := h _ hx
            by_cases q1 : w ∈ c.1
            · exact .inl q1
            · by_cases q2 : e ∈ c.2
              · exact .inr q2
              · exfalso
                rw [← Bool.not_eq_true, List.any_eq_true] at q
                exact q ⟨e, hm, by rw [decide_eq_false q1, decide_eq_false q2]; rfl⟩
      · rw [loopR_any (p := fun e => (!decide (x.1 ∈ c.1)) && (!decide (e ∈ c.2))) (r := false) fun e he => ?_]
        · exact out_in _
        · simp only [bin_ok, ninR_eq, andR_ok, ifR_ok]
          split <;> rfl

/-! greatest pairings -/
theorem pOk_of {n m : Int} {ft : Int → Int → Bool} : ∀ {P : List (Int × Int)} {a : Int} {s : List Int}, (∀ p ∈ P, (a < p.1 ∧ p.1 < n) ∧ (0 ≤ p.2 ∧ p.2 < m ∧ p.2 ∉ s) ∧ ft p.1 p.2 = true) → P.Pairwise (fun p q => p.1 < q.1 ∧ p.2 ≠ q.2) → pOk n m ft a s P = true
  | [], _, _, _, _ => rfl
  | p :: P, a, s, h, hp => by
    rw [List.pairwise_cons] at hp
    obtain ⟨h1, h2, h3⟩ := h p List.mem_cons_self
    rw [pOk, decide_eq_true h1, decide_eq_true h2, h3, Bool.true_and, Bool.true_and, Bool.true_and]
    refine pOk_of (fun q hq => ?_) hp.2
    obtain ⟨g1, g2, g3⟩ := h q (List.mem_cons_of_mem _ hq)
    obtain ⟨k1, k2⟩ := hp.1 q hq
    refine ⟨⟨k1, g1.2⟩, ⟨g2.1, g2.2.1, fun z => ?_⟩, g3⟩
    rcases List.mem_append.mp z with z | z
    · exact g2.2.2 z
    · exact k2 (List.mem_singleton.mp z).symm
theorem mem_prs {t : List Int} {p : Int × Int} : p ∈ prs t ↔ ((0 ≤ p.2 ∧ p.2 < t.length) ∧ 0 ≤ p.1) ∧ p.1 = tk t p.2 := by
  unfold prs
  rw [List.mem_map]
  constructor
  · rintro ⟨x, hx, rfl⟩
    obtain ⟨h1, h2⟩ := List.mem_filter.mp hx
    obtain ⟨h3, h4⟩ := enum_tk.mp h1
    exact ⟨⟨h3, of_decide_eq_true h2⟩, h4⟩
  · rintro ⟨⟨h1, h2⟩, h3⟩
    exact ⟨(p.2, p.1), List.mem_filter.mpr ⟨enum_tk.mpr ⟨h1, h3⟩, decide_eq_true h2⟩, rfl⟩
theorem prs_nodup (t : List Int) : (prs t).Nodup := by
  unfold prs
  refine List.pairwise_map.mpr (((enumF_lt t 0).filter _).imp fun {a b} h z => ?_)
  have := congrArg Prod.snd z
  dsimp only at this
  omega
/-- the size of the greatest pairing, as the program finds it -/
def size_ (l k : Int) (W : List Wn) (E : List Eu) : Nat := match m_takers_of (lks l k W E) E.length with
  | .ok t => (prs t).length
  | _ => 0
structure Sz (l k : Int) (W : List Wn) (E : List Eu) (t : List Int) (c : List Int × List Int) : Prop where
  et : m_takers_of (lks l k W E) E.length = .ok t
  tt : TK (lks l k W E) E.length (lks l k W E).length t
  sz : size_ l k W E = (prs t).length
  ep : m_pairing W E l k = .ok (isortP (prs t))
  pk : pOk W.length E.length (fitI l k W E) (-1) [] (isortP (prs t)) = true
  pl : (isortP (prs t)).length ≤ 12
  ec : m_cover W E l k = .ok c
  cv : CVr W.length E.length (lks l k W E) t c
  ck : cvOk l k W E c = true
theorem sz_is {W : List Wn} {E : List Eu} (l k : Int) (hW : chk1 okW W = .ok ()) (hE : chk1 okS E = .ok ()) : ∃ t c, Sz l k W E t c := by
  have lW := chk1_len hW
  have lE := chk1_len hE
  have K := lks_LK (W := W) (E := E) l k lW lE
  have en : (lks l k W E).length = W.length := by unfold lks; rw [List.length_map]
  obtain ⟨t, et, J⟩ := (takers_is K (by omega)).get
  obtain ⟨c, ec, C⟩ := (cover_is hW hE et J).get
  have hl := J.ok.len
  have perm := isortP_perm (prs t)
  have nd : (isortP (prs t)).Nodup := perm.nodup_iff.mpr (prs_nodup t)
  have lp : (prs t).length ≤ 12 := by
    rw [prs_len]
    have := nodup_len (tkn_nodup t) (ys := rangeL 0 t.length) fun e he => mem_rangeL.mpr (mem_tkn.mp he).1
    rw [rangeL_length] at this
    omega
  refine ⟨t, c, et, J, by unfold size_; rw [et], ?_, pOk_of (fun p hp => ?_) ?_, by rw [perm.length_eq]; exact lp, ec, C, ?_⟩
  · unfold m_pairing
    rw [pair_ok, pair_ok, pair_ok, un_ok, links_eq, hW, hE, Res.bind_ok, Res.bind_ok, Res.bind_ok, un_ok, rLen_eq, pair_ok, un_ok]
    dsimp only
    rw [et, Res.bind_ok, un_ok, enumR_eq, Res.bind_ok]
    simp only [bin_ok, rGe_eq, pair_ok, filR_okf, un_ok]
    rfl
  · obtain ⟨⟨h1, h2⟩, h3⟩ := mem_prs.mp (perm.mem_iff.mp hp)
    obtain ⟨h4, h5⟩ := J.lk p.2 h1.1 (by omega) (by omega)
    rw [← h3] at h4 h5
    rw [en] at h4
    exact ⟨⟨by omega, h4⟩, ⟨h1.1, by omega, fun z => nomatch z⟩, ((lkw_mem h2 h4).mp h5).2⟩
  · have srt := isortP_sorted (prs t)
    have both : (isortP (prs t)).Pairwise fun a b => leP a b = true ∧ a ≠ b := srt.imp₂ (fun a b h1 h2 => ⟨h1, h2⟩) nd
    refine List.Pairwise.imp_of_mem (fun {a b} ha hb h => ?_) both
    obtain ⟨⟨a1, a2⟩, a3⟩ := mem_prs.mp (perm.mem_iff.mp ha)
    obtain ⟨⟨b1, b2⟩, b3⟩ := mem_prs.mp (perm.mem_iff.mp hb)
    have hne : a.2 ≠ b.2 := fun z => h.2 (by
      have : a.1 = b.1 := by rw [a3, b3, z]
      exact Prod.ext this z)
    refine ⟨?_, hne⟩
    rcases leP_iff.mp h.1 with z | ⟨z, _⟩
    · exact z
    · exfalso
      refine hne (J.inj a1.1 (by omega) b1.1 (by omega) ?_ (by omega))
      rw [← a3, ← b3, z]
  · unfold cvOk
    rw [asc_iff.mpr ⟨fun w hw => ⟨by have := C.r1 w hw; omega, (C.r1 w hw).2⟩, C.a1⟩, asc_iff.mpr ⟨fun e he => ⟨by have := C.r2 e he; omega, (C.r2 e he).2⟩, C.a2⟩, Bool.true_and, Bool.true_and]
    refine decide_eq_true fun w hw e he hf => ?_
    have hw := mem_rangeL.mp hw
    by_cases q : w ∈ c.1
    · exact .inl q
    · exact .inr (C.cv w hw.1 hw.2 q e ((lkw_mem hw.1 hw.2).mpr ⟨mem_rangeL.mp he, hf⟩))
theorem enum_filter {α : Type} (p : α → Bool) : ∀ (xs : List α) (i : Int), ((enumF i xs).filter fun x => p x.2).length = (xs.filter p).length
  | [], i => rfl
  | x :: xs, i => by
    unfold enumF
    rw [List.filter_cons, List.filter_cons]
    dsimp only
    split
    · rw [List.length_cons, List.length_cons, enum_filter p xs]
    · exact enum_filter p xs _
theorem pcount_eq {W : List Wn} {E : List Eu} (l k : Int) (hW : chk1 okW W = .ok ()) (hE : chk1 okS E = .ok ()) : m_pairs_count (lks l k W E) E.length = .ok (size_ l k W E : Int) := by
  obtain ⟨t, c, S⟩ := sz_is l k hW hE
  unfold m_pairs_count
  simp only [pair_ok, un_ok, S.et, Res.bind_ok, bin_ok, rGe_eq]
  rw [filR_id (q := fun v => decide (0 ≤ v)) fun _ _ => rfl, un_ok, rLen_eq, Res.bind_ok, S.sz]
  unfold prs
  rw [List.length_map, enum_filter fun v => decide (0 ≤ v)]
/-- without one of them -/
def less (W : List Wn) (w : Int) : List Wn := W.take w.toNat ++ W.drop (w.toNat + 1)
theorem less_ok {W : List Wn} (hW : chk1 okW W = .ok ()) (h : ∀ x ∈ W, okW x = true) (w : Int) : chk1 okW (less W w) = .ok () := by
  have := chk1_len hW
  refine chk1_ok ?_ fun x hx => ?_
  · unfold less
    rw [List.length_append, List.length_take, List.length_drop]
    omega
  · rcases List.mem_append.mp hx with z | z
    · exact h x (List.mem_of_mem_take z)
    · exact h x (List.mem_of_mem_drop z)
theorem wrong_all {α : Type} {p : α → Bool} : ∀ {xs : List α} {i : Int}, wrongAt p i xs = none → ∀ x ∈ xs, p x = true
  | x :: xs, i, h, y, hy => by
    unfold wrongAt at h
    split at h
    · rename_i hp
      rcases List.mem_cons.mp hy with rfl | hy
      · exact hp
      · exact wrong_all h y hy
    · cases h
theorem chk1_all {α : Type} {p : α → Bool} {xs : List α} (h : chk1 p xs = .ok ()) : ∀ x ∈ xs, p x = true := by
  unfold chk1 at h
  split at h
  · cases h
  · cases q : wrongAt p 0 xs with
    | some k =>
      rw [q] at h
      cases h
    | none => exact wrong_all q
theorem certain_eq {W : List Wn} {E : List Eu} (l k : Int) (hW : chk1 okW W = .ok ()) (hE : chk1 okS E = .ok ()) : m_certain W E l k = .ok ((rangeL 0 W.length).filter fun w => decide ((size_ l k (less W w) E : Int) < size_ l k W E)) := by
  have lW := chk1_len hW
  have en : (lks l k W E).length = W.length := by unfold lks; rw [List.length_map]
  unfold m_certain
  rw [pair_ok, pair_ok, pair_ok, un_ok, links_eq, hW, hE, Res.bind_ok, Res.bind_ok, Res.bind_ok, un_ok, rLen_eq, pair_ok, un_ok]
  dsimp only
  rw [pcount_eq l k hW hE, Res.bind_ok, Res.bind_ok, un_ok, rLen_eq, en, un_ok, rng1_ok (by omega), Res.bind_ok]
  rw [loopN_app (q := fun w => decide ((size_ l k (less W w) E : Int) < size_ l k W E)) (g := fun w => w) fun w a hw ha => ?_]
  · rw [List.nil_append, List.map_id']
    rfl
  · rw [rangeL_length, List.length_nil]
    omega
  · have hw := mem_rangeL.mp hw
    have ht : ((lks l k W E).take w.toNat).length ≤ 1000 := by rw [List.length_take]; omega
    have hd : ((lks l k W E).drop (w.toNat + 1)).length ≤ 1000 := by rw [List.length_drop]; omega
    have el : (lks l k W E).take w.toNat ++ (lks l k W E).drop (w.toNat + 1) = lks l k (less W w) E := by
      unfold lks less
      rw [List.map_append, List.map_take, List.map_drop]
    simp only [someR_ok, slR_ok, bin_ok, rAdd_eq, cut_lo hw.1, cut_hi (show (0 : Int) ≤ w + 1 by omega)]
    rw [show (w + 1).toNat = w.toNat + 1 by omega, rCatR_ok (by omega), el, Res.bind_ok, pair_ok, un_ok]
    dsimp only
    rw [pcount_eq l k (less_ok hW (chk1_all hW) w) hE, bin_ok, rLt_eq, ifR_ok]
    split
    · rw [Res.bind_ok, push_ok ha]
      rfl
    · rfl
theorem enumF_fst {α : Type} (xs : List α) : (enumF 0 xs).map Prod.fst = rangeL 0 xs.length := by
  refine List.ext_getElem? fun i => ?_
  rw [List.getElem?_map, enumF_get, rangeL_nat, List.getElem?_map, Int.toNat_natCast]
  by_cases h : i < xs.length
  · rw [List.getElem?_eq_getElem h, List.getElem?_range h]
    simp
  · rw [List.getElem?_eq_none (by omega), List.getElem?_eq_none (by simp; omega)]
    rfl
theorem idle_eq {W : List Wn} {E : List Eu} (l k : Int) (hW : chk1 okW W = .ok ()) (hE : chk1 okS E = .ok ()) : m_idle W E l k = .ok ((rangeL 0 W.length).filter fun w => decide (((E.filter fun e => fits l k (W.getD w.toNat (0, 0, 0)) e).length : Int) = 0)) := by
  have en : (lks l k W E).length = W.length := by unfold lks; rw [List.length_map]
  unfold m_idle
  rw [pair_ok, pair_ok, pair_ok, un_ok, links_eq, hW, hE, Res.bind_ok, Res.bind_ok, Res.bind_ok, un_ok, enumR_eq, Res.bind_ok]
  simp only [un_ok, neR'_eq, notR_eq, filR_okf, Bool.not_not]
  rw [Res.bind_ok]
  have e1 : rangeL 0 W.length = (enumF 0 (lks l k W E)).map Prod.fst := by
    rw [← en]
    exact (enumF_fst _).symm
  rw [e1, List.filter_map]
  congr 2
  refine List.filter_congr fun x hx => ?_
  obtain ⟨i, hi, ei⟩ := mem_enumF.mp hx
  have hil := (List.getElem?_eq_some_iff.mp hi).1
  have ex : x.2 = lk1 l k E (W.getD (i : Int).toNat (0, 0, 0)) := by
    rw [← lkw_lks (by omega) (by omega)]
    show _ = (lks l k W E).getD (i : Int).toNat []
    rw [Int.toNat_natCast, List.getD_eq_getElem?_getD, hi]
    rfl
  show x.2.isEmpty = decide (((E.filter fun e => fits l k (W.getD x.1.toNat (0, 0, 0)) e).length : Int) = 0)
  rw [ex, ei, ← enum_filter (fun e => fits l k (W.getD (i : Int).toNat (0, 0, 0)) e) E 0]
  unfold lk1
  cases (enumF 0 E).filter fun x => fits l k (W.getD (i : Int).toNat (0, 0, 0)) x.2 with
  | nil => rfl
  | cons y ys =>
    rw [List.map_cons, List.length_cons]
    exact (decide_eq_false (by omega)).symm
theorem tally_eq {W : List Wn} {E : List Eu} (l k : Int) (hW : chk1 okW W = .ok ()) (hE : chk1 okS E = .ok ()) : m_tally W E l k = .ok ((size_ l k W E : Int), (E.length : Int) - size_ l k W E, (W.length : Int) - size_ l k W E) := by
  obtain ⟨t, c, S⟩ := sz_is l k hW hE
  unfold m_tally
  simp only [pair_ok, un_ok, S.ep, rLen_eq, Res.bind_ok, bin_ok, rSub_eq]
  rw [(isortP_perm _).length_eq, S.sz]
/-! the draws -/
theorem near_is {n : Int} {p : Pl} (h : PI_ p) (n0 : 0 ≤ n) (n1 : n ≤ 1000) : Is (m__law_near n p) fun b => PI_ b.2 := by
  unfold m__law_near
  obtain ⟨a, ea, ha, pa⟩ := take_ok (n := 6) h (by decide) (by decide)
  obtain ⟨b, eb, hb, pb⟩ := take_ok (n := n + 1) pa (by omega) (by omega)
  obtain ⟨c, ec, hc, pc⟩ := take_ok (n := 4) pa (by decide) (by decide)
  simp only [ifMR_eq, binM_eq, callM_ok, ea, Res.bind_ok, liftM_eq, eqR_eq, bin_ok, rAdd_eq, eb, ec]
  exact Is.if_ (fun _ => pb) fun _ => pc
theorem span_is {far : Int} {p : Pl} (h : PI_ p) (f0 : 0 < far) (f1 : far ≤ 47) : Is (m__law_span far p) fun b => (okS b.1 = true ∧ b.1.1 ≤ 46) ∧ PI_ b.2 := by
  unfold m__law_span
  obtain ⟨a, ea, ha, pa⟩ := take_ok (n := far) h f0 (by omega)
  obtain ⟨b, eb, hb, pb⟩ := take_ok (n := 8) pa (by decide) (by decide)
  obtain ⟨c, ec, hc, pc⟩ := from_ok (lo := a.1 + 1) (hi := 48) pb (by omega) (by omega)
  obtain ⟨d, ed, hd, pd⟩ := from_ok (lo := 1) (hi := 5) pb (by decide) (by decide)
  simp only [callM_ok, ea, Res.bind_ok, ifMR_eq, binM_eq, eb, liftM_eq, eqR_eq, pairM_eq, bin_ok, rAdd_eq, pair_ok, ec, unM_eq, ed, min2_eq]
  refine Is.if_ (fun _ => ⟨⟨?_, ?_⟩, pc⟩) fun _ => ⟨⟨?_, ?_⟩, pd⟩
  · unfold okS
    rw [decide_eq_true (by dsimp only; omega), decide_eq_true (by dsimp only; omega), decide_eq_true (by dsimp only; omega)]
    rfl
  · dsimp only
    omega
  · unfold okS
    rw [decide_eq_true (by dsimp only; omega), decide_eq_true (by dsimp only; omega), decide_eq_true (by dsimp only; omega)]
    rfl
  · dsimp only
    omega
theorem warning_is {far : Int} {p : Pl} (h : PI_ p) (f0 : 0 < far) (f1 : far ≤ 47) : Is (m__law_warning far p) fun b => okW b.1 = true ∧ PI_ b.2 := by
  unfold m__law_warning
  obtain ⟨a, ea, ⟨ha, ha2⟩, pa⟩ := (span_is h f0 f1).get
  have hs := ha
  unfold okS at hs
  simp only [Bool.and_eq_true, decide_eq_true_eq] at hs
  obtain ⟨b, eb, hb, pb⟩ := take_ok (n := 8) pa (by decide) (by decide)
  obtain ⟨c, ec, hc, pc⟩ := take_ok (n := 6) pb (by decide) (by decide)
  obtain ⟨d, ed, hd, pd⟩ := from_ok (lo := -1) (hi := 48) pc (by decide) (by decide)
  simp only [callM_ok, ea, Res.bind_ok, unM_eq, pairM_eq, binM_eq, un_ok, rNeg_eq, liftM_eq, rSub_eq, eb, max2_eq, ifMR_eq, ec, eqR_eq, pair_ok, ed]
  refine Is.bind (Q := fun z : Pl × Int => (-1 ≤ z.2 ∧ z.2 ≤ 48) ∧ PI_ z.1) (Is.if_ (fun _ => ⟨hd, pd⟩) fun _ => ⟨⟨by dsimp only; omega, by dsimp only; omega⟩, pc⟩) fun z ⟨hz, pz⟩ => ⟨?_, pz⟩
  unfold okW
  dsimp only
  rw [decide_eq_true hz.1, decide_eq_true hz.2]
  exact ha

/-! what is refused -/
def chkA (W : List Wn) (E : List Eu) : Res Unit := (chk1 okW W).bind fun _ => chk1 okS E
def due_ : Res Unit → Option (Str × Int)
  | .exc .TooMany i => some ("many", i)
  | .exc .BadPair i => some ("pair", i)
  | _ => none
theorem chk1_cases {α : Type} (p : α → Bool) (xs : List α) : chk1 p xs = .ok () ∨ chk1 p xs = .exc .TooMany 12 ∨ ∃ k, chk1 p xs = .exc .BadPair k := by
  unfold chk1
  split
  · exact .inr (.inl rfl)
  · cases wrongAt p 0 xs with
    | some k => exact .inr (.inr ⟨k, rfl⟩)
    | none => exact .inl rfl
theorem chkA_cases (W : List Wn) (E : List Eu) : (chk1 okW W = .ok () ∧ chk1 okS E = .ok () ∧ chkA W E = .ok ()) ∨ chkA W E = .exc .TooMany 12 ∨ ∃ k, chkA W E = .exc .BadPair k := by
  unfold chkA
  rcases chk1_cases okW W with h | h | ⟨k, h⟩
  · rw [h, Res.bind_ok]
    rcases chk1_cases okS E with g | g | ⟨j, g⟩
    · exact .inl ⟨rfl, g, g⟩
    · exact .inr (.inl g)
    · exact .inr (.inr ⟨j, g⟩)
  · rw [h]
    exact .inr (.inl rfl)
  · rw [h]
    exact .inr (.inr ⟨k, rfl⟩)
theorem links_A (W : List Wn) (E : List Eu) (l k : Int) : m_checked_links W E l k = (chkA W E).bind fun _ => .ok (lks l k W E) := by
  rw [links_eq]
  unfold chkA
  rw [Res.bind_assoc]
theorem wrong_loopR {α : Type} {p : α → Bool} {f : Int → Unit → Res (Out Unit (Option (Str × Int)))} {d : α} : ∀ (n : Nat) (xs ys : List α) (i : Int), xs.length = n → i = (ys.length : Int) → (∀ j : Int, 0 ≤ j → j < ((ys ++ xs).length : Int) → f j () = .ok (if p ((ys ++ xs).getD j.toNat d) = true then .nx () else .rt (some ("pair", j)))) →
    loopR f (rangeL i ((ys ++ xs).length : Int)) () = .ok (match wrongAt p i xs with | some k => .rt (some ("pair", k)) | none => .nx ())
  | 0, xs, ys, i, hn, hi, h => by
    have : xs = [] := List.length_eq_zero_iff.mp hn
    subst this
    have e : rangeL i (((ys ++ []) : List α).length : Int) = [] := by
      unfold rangeL
      rw [List.append_nil, hi, show ((ys.length : Int) - ys.length).toNat = 0 by omega]
      rfl
    rw [e]
    rfl
  | n + 1, x :: xs, ys, i, hn, hi, h => by
    rw [List.length_cons] at hn
    have e : rangeL i (((ys ++ x :: xs) : List α).length : Int) = i :: rangeL (i + 1) (((ys ++ [x]) ++ xs).length : Int) := by
      unfold rangeL
      rw [List.append_assoc, show ([x] ++ xs : List α) = x :: xs from rfl, List.length_append, List.length_cons, show (((ys.length + (xs.length + 1) : Nat) : Int) - i).toNat = (((ys.length + (xs.length + 1) : Nat) : Int) - (i + 1)).toNat + 1 by omega, List.range_succ_eq_map, List.map_cons, List.map_map]
      refine congr (congrArg _ (by simp)) (List.map_congr_left fun j _ => ?_)
      simp
      omega
    rw [e, loopR_cons, h i (by omega) (by rw [List.length_append, List.length_cons]; omega)]
    have hx : ((ys ++ x :: xs : List α).getD i.toNat d) = x := by
      rw [List.getD_eq_getElem?_getD, hi, Int.toNat_natCast, List.getElem?_append_right (Nat.le_refl _), Nat.sub_self]
      rfl
    rw [hx, wrongAt]
    by_cases q : p x = true
    · rw [if_pos q, if_pos q, Res.bind_ok]
      have := wrong_loopR (p := p) (f := f) (d := d) n xs (ys ++ [x]) (i + 1) (by omega) (by rw [List.length_append, List.length_singleton]; omega) (by rw [List.append_assoc]; exact h)
      exact this
    · rw [if_neg q, if_neg q]
      rfl
theorem lspan_eq (p : Eu) : m__law_is_span p.1 p.2 = .ok (okS p) := by
  unfold m__law_is_span okS
  simp only [bin_ok, rLe_eq, rLt_eq, andR_ok, Res.bind_ok]
theorem due_eq {W : List Wn} {E : List Eu} (hW : W.length ≤ 1000) (hE : E.length ≤ 1000) : m__law_due_refusal W E = .ok (due_ (chkA W E)) := by
  unfold m__law_due_refusal chkA chk1
  rw [un_ok, rLen_eq, bin_ok, rGt_eq, ifR_ok]
  by_cases h : 12 < W.length
  · rw [if_pos (decide_eq_true (by omega)), if_pos h]
    rfl
  · rw [if_neg (by rw [decide_eq_false (by omega)]; decide), if_neg h, un_ok, rng1_ok (by omega), Res.bind_ok]
    have e1 := wrong_loopR (p := okW) (d := (0, 0, 0)) (f := fun (x_23 : Int) (z_16 : Unit) => ((un (fun p => Res.ok p.1) (bin ix (Res.ok W) (Res.ok x_23))).bind fun (told_35 : Int) => (ifR (orR (bin rLt (Res.ok told_35) (un rNeg (Res.ok (1 : Int)))) (orR (bin rGt (Res.ok told_35) (Res.ok (48 : Int))) (un notR (un (fun (p : (Int × Int)) => m__law_is_span p.1 p.2) (pair (un (fun p => Res.ok p.2.1) (bin ix (Res.ok W) (Res.ok x_23))) (un (fun p => Res.ok p.2.2) (bin ix (Res.ok W) (Res.ok x_23)))))))) ((un someR' (pair (Res.ok ("pair" : Str)) (Res.ok x_23))).bind fun a_50 => Res.ok (Out.rt a_50)) (Res.ok (Out.nx ()))))) W.length W [] 0 rfl rfl (fun j j0 j1 => by
        rw [List.nil_append] at j1 ⊢
        simp only [bin_ok, ix_getD (d := ((0 : Int), (0 : Int), (0 : Int))) j0 j1, un_ok, Res.bind_ok, rNeg_eq, rLt_eq, rGt_eq, pair_ok, notR_eq, ifR_ok]
        generalize W.getD j.toNat (0, 0, 0) = w
        have := lspan_eq w.2
        rw [this, un_ok, notR_eq, orR_ok, orR_ok, ifR_ok]
        unfold okW
        by_cases h1 : w.1 < -1
        · rw [if_pos (by rw [decide_eq_true h1]; rfl), if_neg (by rw [decide_eq_false (show ¬ -1 ≤ w.1 by omega)]; simp)]
          rfl
        · by_cases h2 : 48 < w.1
          · rw [if_pos (by rw [decide_eq_true h2]; simp), if_neg (by rw [decide_eq_false (show ¬ w.1 ≤ 48 by omega)]; simp)]
            rfl
          · rw [decide_eq_false h1, decide_eq_false h2, decide_eq_true (show -1 ≤ w.1 by omega), decide_eq_true (show w.1 ≤ 48 by omega)]
            cases okS w.2 <;> rfl)
    rw [List.nil_append] at e1
    rw [e1, Res.bind_ok]
    cases hw : wrongAt okW 0 W with
    | some k => rfl
    | none =>
      dsimp only
      rw [Res.bind_ok, un_ok, rLen_eq, bin_ok, rGt_eq, ifR_ok]
      by_cases h : 12 < E.length
      · rw [if_pos (decide_eq_true (by omega)), if_pos h]
        rfl
      · rw [if_neg (by rw [decide_eq_false (by omega)]; decide), if_neg h, un_ok, rng1_ok (by omega), Res.bind_ok]
        have e2 := wrong_loopR (p := okS) (d := (0, 0)) (f := fun (x_90 : Int) (z_84 : Unit) => (ifR (un notR (un (fun (p : (Int × Int)) => m__law_is_span p.1 p.2) (pair (un (fun p => Res.ok p.1) (bin ix (Res.ok E) (Res.ok x_90))) (un (fun p => Res.ok p.2) (bin ix (Res.ok E) (Res.ok x_90)))))) ((un someR' (pair (Res.ok ("pair" : Str)) (Res.ok x_90))).bind fun a_110 => Res.ok (Out.rt a_110)) (Res.ok (Out.nx ())))) E.length E [] 0 rfl rfl (fun j j0 j1 => by
            rw [List.nil_append] at j1 ⊢
            simp only [bin_ok, ix_getD (d := ((0 : Int), (0 : Int))) j0 j1, un_ok, pair_ok]
            generalize E.getD j.toNat (0, 0) = e
            have := lspan_eq e
            rw [this, un_ok, notR_eq, ifR_ok]
            cases okS e <;> rfl)
        rw [List.nil_append] at e2
        rw [e2, Res.bind_ok]
        cases he : wrongAt okS 0 E with
        | some k => rfl
        | none => rfl
theorem call_ok {W : List Wn} {E : List Eu} {l k d : Int} (hW : chk1 okW W = .ok ()) (hE : chk1 okS E = .ok ()) (d0 : 0 ≤ d) (d1 : d < 7) : ∃ r, m__law_call d W E l k = .ok r := by
  obtain ⟨t, c, S⟩ := sz_is l k hW hE
  unfold m__law_call
  simp only [bin_ok, eqR_eq, ifR_ok, pair_ok, un_ok, S.ep, S.ec, pairing_judged hW hE (show ([] : List (Int × Int)).length ≤ 1000 by decide), cover_judged hW hE, certain_eq l k hW hE, idle_eq l k hW hE, tally_eq l k hW hE, inlR_eq, inrR_eq, Res.bind_ok]
  have c : d = 0 ∨ d = 1 ∨ d = 2 ∨ d = 3 ∨ d = 4 ∨ d = 5 ∨ d = 6 := by omega
  rcases c with rfl | rfl | rfl | rfl | rfl | rfl | rfl <;> exact ⟨_, rfl⟩
theorem call_exc {W : List Wn} {E : List Eu} {l k d : Int} {c : Ec} {i : Int} (h : chkA W E = .exc c i) (d0 : 0 ≤ d) (d1 : d < 7) : m__law_call d W E l k = .exc c i := by
  have e0 : m_checked_links W E l k = .exc c i := by rw [links_A, h]; rfl
  have e1 : m_pairing W E l k = .exc c i := by
    unfold m_pairing
    rw [pair_ok, pair_ok, pair_ok, un_ok, e0]
    rfl
  have e2 : m_cover W E l k = .exc c i := by
    unfold m_cover
    rw [pair_ok, pair_ok, pair_ok, un_ok, e0]
    rfl
  have e3 : m_is_pairing W E l k [] = .exc c i := by
    unfold m_is_pairing
    rw [pair_ok, pair_ok, pair_ok, un_ok, e0]
    rfl
  have e4 : m_is_cover W E l k ([], []) = .exc c i := by
    unfold m_is_cover
    rw [pair_ok, pair_ok, pair_ok, un_ok, e0]
    rfl
  have e5 : m_certain W E l k = .exc c i := by
    unfold m_certain
    rw [pair_ok, pair_ok, pair_ok, un_ok, e0]
    rfl
  have e6 : m_idle W E l k = .exc c i := by
    unfold m_idle
    rw [pair_ok, pair_ok, pair_ok, un_ok, e0]
    rfl
  have e7 : m_tally W E l k = .exc c i := by
    unfold m_tally
    rw [pair_ok, pair_ok, pair_ok, un_ok, e1]
    rfl
  unfold m__law_call
  simp only [bin_ok, eqR_eq, ifR_ok, pair_ok, un_ok, e1, e2, e3, e4, e5, e6, e7]
  have c : d = 0 ∨ d = 1 ∨ d = 2 ∨ d = 3 ∨ d = 4 ∨ d = 5 ∨ d = 6 := by omega
  rcases c with rfl | rfl | rfl | rfl | rfl | rfl | rfl <;> rfl
theorem refused_eq {W : List Wn} {E : List Eu} {l k d : Int} (d0 : 0 ≤ d) (d1 : d < 7) : m__law_refused d W E l k = .ok (due_ (chkA W E)) := by
  unfold m__law_refused
  rw [pair_ok, pair_ok, pair_ok, pair_ok, un_ok]
  rcases chkA_cases W E with ⟨hW, hE, h⟩ | h | ⟨j, h⟩
  · obtain ⟨r, er⟩ := call_ok (l := l) (k := k) hW hE d0 d1
    dsimp only
    rw [er, Res.bind_ok, tryR_ok, h]
    rfl
  · dsimp only
    rw [call_exc h d0 d1, h]
    rw [show ((Res.exc Ec.TooMany 12 : Res ((List (Int × Int)) ⊕ (((List Int) × (List Int)) ⊕ (Bool ⊕ ((List Int) ⊕ (Int × Int × Int)))))).bind fun t => (Res.ok (Out.nx ()) : Res (Out Unit (Option (Str × Int))))) = .exc .TooMany 12 from rfl, tryR_exc (by decide) (by decide)]
    rfl
  · dsimp only
    rw [call_exc h d0 d1, h]
    rw [show ((Res.exc Ec.BadPair j : Res ((List (Int × Int)) ⊕ (((List Int) × (List Int)) ⊕ (Bool ⊕ ((List Int) ⊕ (Int × Int × Int)))))).bind fun t => (Res.ok (Out.nx ()) : Res (Out Unit (Option (Str × Int))))) = .exc .BadPair j from rfl, tryR_exc (by decide) (by decide)]
    rfl

/-! the draws -/
theorem count_is {p : Pl} (h : PI_ p) : Is (m__law_count () p) fun b => (0 ≤ b.1 ∧ b.1 ≤ 14) ∧ PI_ b.2 := by
  unfold m__law_count
  obtain ⟨a, ea, ha, pa⟩ := take_ok (n := 4) h (by decide) (by decide)
  obtain ⟨b, eb, hb, pb⟩ := from_ok (lo := 10) (hi := 14) pa (by decide) (by decide)
  obtain ⟨c, ec, hc, pc⟩ := take_ok (n := 7) pa (by decide) (by decide)
  simp only [ifMR_eq, binM_eq, callM_ok, ea, Res.bind_ok, liftM_eq, eqR_eq, pair_ok, eb, ec]
  exact Is.if_ (fun _ => ⟨⟨by dsimp only; omega, hb.2⟩, pb⟩) fun _ => ⟨⟨hc.1, by dsimp only; omega⟩, pc⟩
theorem spspan_is {s : Eu} {p : Pl} (h : PI_ p) : Is (m__law_spoilt_span s p) fun b => PI_ b.2 := by
  unfold m__law_spoilt_span
  obtain ⟨a, ea, ha, pa⟩ := take_ok (n := 4) h (by decide) (by decide)
  obtain ⟨b, eb, hb, pb⟩ := take_ok (n := 3) pa (by decide) (by decide)
  simp only [callM_ok, ea, Res.bind_ok, bin_ok, eqR_eq, ifR_ok, pairM_eq, binM_eq, un_ok, rNeg_eq, liftM_eq, rSub_eq, rAdd_eq, eb, pair_ok]
  exact Is.if_ (fun _ => pb) fun _ => Is.if_ (fun _ => pb) fun _ => Is.if_ (fun _ => pb) fun _ => pa
theorem spwarn_is {w : Wn} {p : Pl} (h : PI_ p) : Is (m__law_spoilt_warning w p) fun b => PI_ b.2 := by
  unfold m__law_spoilt_warning
  obtain ⟨a, ea, ha, pa⟩ := take_ok (n := 3) h (by decide) (by decide)
  obtain ⟨b, eb, hb, pb⟩ := take_ok (n := 50) pa (by decide) (by decide)
  obtain ⟨c, ec, hc, pc⟩ := take_ok (n := 50) pb (by decide) (by decide)
  obtain ⟨d, ed, hd, pd⟩ := take_ok (n := 4) pc (by decide) (by decide)
  obtain ⟨e, ee, pe⟩ := (spspan_is (s := (w.2.1, w.2.2)) pa).get
  simp only [ifMR_eq, binM_eq, callM_ok, ea, Res.bind_ok, liftM_eq, eqR_eq, consM_eq, un_ok, rNeg_eq, rSub_eq, rAdd_eq, eb, ec, ed, pair_ok, ee]
  refine Is.if_ (fun _ => ?_) fun _ => pe
  obtain ⟨x, ex, _⟩ := ix_get (xs := [-2, 49, -2 - b.1, 49 + c.1]) hd.1 (by simp; omega)
  rw [ex]
  exact pd
theorem some_pairs_is {W : List Wn} {E : List Eu} {l k : Int} {p : Pl} (h : PI_ p) (hW : W.length ≤ 12) (hE : E.length ≤ 12) : Is (m__law_some_pairs W E l k p) fun b => b.1.length ≤ 12 ∧ PI_ b.2 := by
  unfold m__law_some_pairs
  simp only [Res.bind_ok, un_ok, rLen_eq, rng1_ok (n := (W.length : Int)) (by omega)]
  refine Is.bind (loopN_inv (fun i (z : List (Int × Int) × List Int × Pl) => (z.1.length ≤ i ∧ z.2.1.length ≤ i) ∧ PI_ z.2.2) ⟨⟨Nat.le_refl _, Nat.le_refl _⟩, h⟩ fun i x z hx ⟨⟨j1, j2⟩, pz⟩ => ?_) fun z ⟨⟨j1, j2⟩, pz⟩ => ?_
  · have hi := (List.getElem?_eq_some_iff.mp hx).1
    rw [rangeL_length] at hi
    have hx1 := mem_rangeL.mp (List.mem_of_getElem? hx)
    rw [rng1_ok (by omega), Res.bind_ok, filR_id (q := fun e => fitI l k W E x e) fun e he => ?_, Res.bind_ok, filR_id (q := fun e => !decide (e ∈ z.2.1)) fun e _ => by rw [bin_ok, ninR_eq]]
    · rw [Res.bind_ok]
      have hfl : (((rangeL 0 (E.length : Int)).filter fun e => fitI l k W E x e).filter (fun e => !decide (e ∈ z.2.1))).length ≤ 12 := by
        refine Nat.le_trans (List.length_filter_le ..) (Nat.le_trans (List.length_filter_le ..) ?_)
        rw [rangeL_length]
        omega
      generalize ((rangeL 0 (E.length : Int)).filter fun e => fitI l k W E x e).filter (fun e => !decide (e ∈ z.2.1)) = free at hfl ⊢
      obtain ⟨a, ea, ha, pa⟩ := take_ok (n := 4) pz (by decide) (by decide)
      simp only [ifMR_eq, andM_eq, un_ok, rLen_eq, bin_ok, rGt_eq, liftM_ok, binM_eq, callM_ok, ea, Res.bind_ok, liftM_eq]
      by_cases hf : 0 < (free.length : Int)
      · rw [if_pos (decide_eq_true hf), Res.bind_ok]
        refine Is.if_ (fun _ => ?_) fun _ => ⟨⟨by dsimp only; omega, by dsimp only; omega⟩, pa⟩
        · obtain ⟨b, eb, hb, pb⟩ := take_ok (n := (free.length : Int)) pa hf (by omega)
          obtain ⟨y, ey, _⟩ := ix_get hb.1 hb.2
          simp only [eb, Res.bind_ok, ey, pair_ok]
          rw [push_ok (by omega), Res.bind_ok, push_ok (by omega), Res.bind_ok]
          exact ⟨⟨by show (z.1 ++ [_]).length ≤ i + 1; rw [List.length_append, List.length_singleton]; omega, by show (z.2.1 ++ [_]).length ≤ i + 1; rw [List.length_append, List.length_singleton]; omega⟩, pb⟩
      · rw [if_neg (by rw [decide_eq_false hf]; decide), Res.bind_ok, if_neg (by simp)]
        exact ⟨⟨by dsimp only; omega, by dsimp only; omega⟩, pz⟩
    · have he := mem_rangeL.mp he
      rw [bin_ok, ix_getD (d := ((0 : Int), (0 : Int), (0 : Int))) hx1.1 hx1.2, bin_ok, ix_getD (d := ((0 : Int), (0 : Int))) he.1 he.2, pair_ok, pair_ok, pair_ok, un_ok, fits_eq]
      rfl
  · rw [rangeL_length] at j1
    exact ⟨by dsimp only; omega, pz⟩

theorem sp_pairs_is {P : List (Int × Int)} {m n : Int} {p : Pl} (h : PI_ p) (hP : P.length ≤ 12) (m0 : 0 ≤ m) (m1 : m ≤ 12) (n0 : 0 ≤ n) (n1 : n ≤ 12) : Is (m__law_spoilt_pairs P m n p) fun b => b.1.length ≤ 100 ∧ PI_ b.2 := by
  unfold m__law_spoilt_pairs
  obtain ⟨a, ea, ha, pa⟩ := take_ok (n := 7) h (by decide) (by decide)
  obtain ⟨b, eb, hb, pb⟩ := take_ok (n := n + 1) pa (by omega) (by omega)
  obtain ⟨c, ec, hc, pc⟩ := take_ok (n := m + 1) pa (by omega) (by omega)
  obtain ⟨d, ed, hd, pd⟩ := take_ok (n := n + 2) pc (by omega) (by omega)
  simp only [callM_ok, ea, Res.bind_ok, un_ok, idR_eq, bin_ok, eqR_eq, ifR_ok, revR_eq, rNeg_eq, someR_ok, slR_ok, binM_eq, liftM_ok, consM_eq, pairM_eq, rAdd_eq, eb, unM_eq, ec, liftM_eq, ed, rSub_eq]
  have cl : (cut P (some (-1)) none).length ≤ 12 := by
    have : (cut P (some (-1)) none).length ≤ P.length := by
      unfold cut
      rw [List.length_take, List.length_drop]
      omega
    omega
  refine Is.if_ (fun _ => ⟨by rw [List.length_reverse]; omega, pa⟩) fun _ => Is.if_ (fun _ => ?_) fun _ => Is.if_ (fun _ => ?_) fun _ => Is.if_ (fun _ => ?_) fun _ => Is.if_ (fun _ => ?_) fun _ => ?_
  · rw [rCatR_ok (by omega), Res.bind_ok]
    exact ⟨by dsimp only; rw [List.length_append]; omega, pa⟩
  · rw [rCatR_ok (by simp; omega), Res.bind_ok]
    exact ⟨by show (P ++ [_]).length ≤ 100; rw [List.length_append, List.length_singleton]; omega, pb⟩
  · rw [rCatR_ok (by simp; omega), Res.bind_ok]
    exact ⟨by show ([_] ++ P).length ≤ 100; rw [List.length_append, List.length_singleton]; omega, pb⟩
  · rw [rCatR_ok (by simp; omega), Res.bind_ok]
    exact ⟨by show (isortP (P ++ [_])).length ≤ 100; rw [(isortP_perm _).length_eq, List.length_append, List.length_singleton]; omega, pd⟩
  · refine Is.bind (Q := fun z : Pl × List (Int × Int) => z.2.length ≤ 12 ∧ PI_ z.1) ?_ fun z ⟨hz, pz⟩ => ⟨by dsimp only; omega, pz⟩
    rw [rLen_eq, bin_ok, rGt_eq, ifR_ok]
    refine Is.if_ (fun hc => ?_) fun _ => ⟨hP, pa⟩
    have hc := of_decide_eq_true hc
    obtain ⟨k, ek, hk, pk⟩ := take_ok (n := (P.length : Int)) pa hc (by omega)
    rw [callM_ok, ek, Res.bind_ok]
    obtain ⟨x, ex, _⟩ := ix_get (xs := P) hk.1 hk.2
    obtain ⟨q, eq, hq, pq⟩ := take_ok (n := n + 2) pk (by omega) (by omega)
    refine Is.bind (Q := fun z : Pl × List (Int × Int) => z.2.length = P.length ∧ PI_ z.1) (Is.if_ (fun _ => ?_) fun _ => ⟨rfl, pk⟩) fun z ⟨hz, pz⟩ => ?_
    · simp only [ex, un_ok, Res.bind_ok, eq]
      rw [setR_nat hk.1 hk.2]
      exact ⟨List.length_set .., pq⟩
    · obtain ⟨y, ey, _⟩ := ix_get (xs := z.2) (i := k.1) hk.1 (by omega)
      obtain ⟨r, er, hr, pr⟩ := take_ok (n := m + 2) pz (by omega) (by omega)
      refine Is.if_ (fun _ => ?_) fun _ => ⟨by dsimp only; omega, pz⟩
      simp only [er, Res.bind_ok, ey, un_ok]
      rw [setR_nat hk.1 (by omega)]
      exact ⟨by show (z.2.set _ _).length ≤ 12; rw [List.length_set]; omega, pr⟩
theorem some_lists_is {W : List Wn} {E : List Eu} {l k : Int} {p : Pl} (h : PI_ p) (hW : W.length ≤ 12) (hE : E.length ≤ 12) : Is (m__law_some_lists W E l k p) fun b => (b.1.1.length ≤ 200 ∧ b.1.2.length ≤ 200) ∧ PI_ b.2 := by
  unfold m__law_some_lists
  simp only [Res.bind_ok, un_ok, rLen_eq, rng1_ok (n := (W.length : Int)) (by omega)]
  refine Is.bind (loopN_inv (fun i (z : List Int × List Int × Pl) => z.1.length + z.2.1.length ≤ i * 12 ∧ PI_ z.2.2) ⟨Nat.le_refl _, h⟩ fun i x z hx ⟨j1, pz⟩ => ?_) fun z ⟨j1, pz⟩ => ?_
  · have hi := (List.getElem?_eq_some_iff.mp hx).1
    rw [rangeL_length] at hi
    have hx1 := mem_rangeL.mp (List.mem_of_getElem? hx)
    rw [rng1_ok (by omega), Res.bind_ok]
    refine Is.bind (loopN_inv (fun j (y : List Int × List Int × Pl) => y.1.length + y.2.1.length ≤ i * 12 + j ∧ PI_ y.2.2) ⟨j1, pz⟩ fun j e y he ⟨k1, py⟩ => ?_) fun y ⟨k1, py⟩ => ?_
    · have hj := (List.getElem?_eq_some_iff.mp he).1
      rw [rangeL_length] at hj
      have he := mem_rangeL.mp (List.mem_of_getElem? he)
      obtain ⟨a, ea, ha, pa⟩ := take_ok (n := 2) py (by decide) (by decide)
      simp only [bin_ok, ninR_eq, ix_getD (d := ((0 : Int), (0 : Int), (0 : Int))) hx1.1 hx1.2, ix_getD (d := ((0 : Int), (0 : Int))) he.1 he.2, pair_ok, un_ok, fits_eq, andR_ok, ifR_ok, ifMR_eq, binM_eq, callM_ok, ea, Res.bind_ok, liftM_eq, eqR_eq]
      refine Is.if_ (fun _ => Is.if_ (fun _ => ?_) fun _ => ?_) fun _ => ⟨by dsimp only; omega, py⟩
      · rw [push_ok (by omega), Res.bind_ok]
        exact ⟨by show (y.1 ++ [_]).length + y.2.1.length ≤ _; rw [List.length_append, List.length_singleton]; omega, pa⟩
      · rw [push_ok (by omega), Res.bind_ok]
        exact ⟨by show y.1.length + (y.2.1 ++ [_]).length ≤ _; rw [List.length_append, List.length_singleton]; omega, pa⟩
    · rw [rangeL_length] at k1
      exact ⟨by dsimp only; omega, py⟩
  · rw [rangeL_length] at j1
    refine ⟨⟨?_, ?_⟩, pz⟩
    · show (isortI z.1).length ≤ 200
      rw [(isortI_perm _).length_eq]
      omega
    · show (isortI z.2.1).length ≤ 200
      rw [(isortI_perm _).length_eq]
      omega
theorem cut_len {α : Type} (xs : List α) (a b : Option Int) : (cut xs a b).length ≤ xs.length := by
  unfold cut
  rw [List.length_take, List.length_drop]
  omega
theorem sp_lists_is {c : List Int × List Int} {s : Int × Int} {p : Pl} (h : PI_ p) (h1 : c.1.length ≤ 200) (h2 : c.2.length ≤ 200) (s1 : 0 ≤ s.1 ∧ s.1 ≤ 12) (s2 : 0 ≤ s.2 ∧ s.2 ≤ 12) : Is (m__law_spoilt_lists c s p) fun b => PI_ b.2 := by
  unfold m__law_spoilt_lists
  obtain ⟨a, ea, ha, pa⟩ := take_ok (n := 2) h (by decide) (by decide)
  obtain ⟨b, eb, hb, pb⟩ := take_ok (n := 6) pa (by decide) (by decide)
  simp only [callM_ok, ea, Res.bind_ok, un_ok, bin_ok]
  obtain ⟨row, er, hr⟩ : ∃ row, ix [c.1, c.2] a.1 = .ok row ∧ row.length ≤ 200 := by
    have q : a.1 = 0 ∨ a.1 = 1 := by omega
    rcases q with q | q <;> rw [q]
    · exact ⟨c.1, rfl, h1⟩
    · exact ⟨c.2, rfl, h2⟩
  obtain ⟨sz, es, hs⟩ : ∃ z, ix [s.1, s.2] a.1 = .ok z ∧ 0 ≤ z ∧ z ≤ 12 := by
    have q : a.1 = 0 ∨ a.1 = 1 := by omega
    rcases q with q | q <;> rw [q]
    · exact ⟨s.1, rfl, s1⟩
    · exact ⟨s.2, rfl, s2⟩
  rw [er, un_ok, idR_eq, Res.bind_ok, eb, Res.bind_ok]
  simp only [rLen_eq, bin_ok, eqR_eq, rGt_eq, andR_ok, ifR_ok]
  refine Is.bind (Q := fun z : Pl × List Int => z.2.length ≤ 500 ∧ PI_ z.1) ?_ fun z ⟨hz, pz⟩ => ?_
  · refine Is.if_ (fun hc => ?_) fun _ => ⟨by dsimp only; omega, pb⟩
    have hc := (Bool.and_eq_true_iff.mp hc).2
    have hc := of_decide_eq_true hc
    obtain ⟨k, ek, hk, pk⟩ := take_ok (n := (row.length : Int)) pb hc (by omega)
    simp only [callM_ok, ek, Res.bind_ok, bin_ok, someR_ok, slR_ok, rAdd_eq]
    have t1 := cut_len row none (some k.1)
    have t2 := cut_len row (some (k.1 + 1)) none
    rw [rCatR_ok (by omega), Res.bind_ok]
    exact ⟨by show ((_ ++ _ : List Int)).length ≤ 500; rw [List.length_append]; omega, pk⟩
  refine Is.bind (Q := fun r : List Int => r.length ≤ 500) (Is.if_ (fun _ => ?_) fun _ => hz) fun r1 hr1 => ?_
  · rw [revR_eq, Res.bind_ok]
    show (z.2.reverse).length ≤ 500
    rw [List.length_reverse]
    exact hz
  refine Is.bind (Q := fun r : List Int => r.length ≤ 1000) (Is.if_ (fun _ => ?_) fun _ => by show r1.length ≤ 1000; omega) fun r2 hr2 => ?_
  · have := cut_len r1 (some (-1)) none
    rw [rNeg_eq, someR_ok, slR_ok, bin_ok, rCatR_ok (by omega), Res.bind_ok]
    show ((_ ++ _ : List Int)).length ≤ 1000
    rw [List.length_append]
    omega
  refine Is.bind (Q := fun r : List Int => r.length ≤ 1001) (Is.if_ (fun _ => ?_) fun _ => by show r2.length ≤ 1001; omega) fun r3 hr3 => ?_
  · rw [es, consR_ok, bin_ok, rCatR_ok (by simp; omega), Res.bind_ok]
    show ((_ ++ _ : List Int)).length ≤ 1001
    rw [List.length_append, List.length_singleton]
    omega
  refine Is.bind (Q := fun r : List Int => r.length ≤ 1002) (Is.if_ (fun _ => ?_) fun _ => by show r3.length ≤ 1002; omega) fun r4 hr4 => ?_
  · rw [rNeg_eq, consR_ok, bin_ok, rCatR_ok (by simp; omega), Res.bind_ok]
    show ((_ ++ _ : List Int)).length ≤ 1002
    rw [List.length_append, List.length_singleton]
    omega
  refine Is.bind (Q := fun r : Pl × List Int => PI_ r.1) (Is.if_ (fun _ => ?_) fun _ => pz) fun r5 hr5 => Is.if_ (fun _ => hr5) fun _ => hr5
  obtain ⟨q, eq, hq, pq⟩ := take_ok (n := sz + 1) pz (by omega) (by omega)
  simp only [unM_eq, binM_eq, liftM_ok, Res.bind_ok, consM_eq, es, bin_ok, rAdd_eq, callM_ok, eq]
  rw [rCatR_ok (by simp; omega), Res.bind_ok]
  exact pq

theorem pairs_ok {W : List Wn} {E : List Eu} {l k : Int} (hW : chk1 okW W = .ok ()) (hE : chk1 okS E = .ok ()) {P : List (Int × Int)} (hl : P.length ≤ 1000) : m__law_pairs_judged W E l k P = .ok true := by
  unfold m__law_pairs_judged
  simp only [pair_ok, un_ok, lpairing_eq l k hl, pairing_judged hW hE hl, Res.bind_ok, idR_eq, bin_ok, eqR_eq, andR_ok, decide_true, Bool.and_self, Bool.and_true]
theorem lists_ok {W : List Wn} {E : List Eu} {l k : Int} (hW : chk1 okW W = .ok ()) (hE : chk1 okS E = .ok ()) (c : List Int × List Int) : m__law_lists_judged W E l k c = .ok true := by
  have lW := chk1_len hW
  have lE := chk1_len hE
  unfold m__law_lists_judged
  simp only [pair_ok, un_ok, lcover_eq (W := W) (E := E) l k c (by omega) (by omega), cover_judged hW hE c, Res.bind_ok, idR_eq, bin_ok, eqR_eq, andR_ok, decide_true, Bool.and_self, Bool.and_true]
theorem lefts_map {α β : Type} : ∀ xs : List α, lefts (xs.map (Sum.inl (β := β))) = .ok xs
  | [] => rfl
  | x :: xs => by
    rw [List.map_cons, lefts, getL_eq, Res.bind_ok, lefts_map xs]
    rfl
theorem rights_map {α β : Type} : ∀ xs : List β, rights (xs.map (Sum.inr (α := α))) = .ok xs
  | [] => rfl
  | x :: xs => by
    rw [List.map_cons, rights, getR_eq, Res.bind_ok, rights_map xs]
    rfl
theorem plR_at {α : Type} {xs : List α} {i : Nat} {x : α} (h : xs[i]? = some x) : plR xs (i : Int) = .ok (x, fun z => xs.set i z) := by
  have hl := (List.getElem?_eq_some_iff.mp h).1
  unfold plR L2.ixN
  rw [if_pos (by omega), if_pos (by omega), Int.toNat_natCast]
  dsimp only
  rw [h]
abbrev Su := Wn ⊕ Eu
abbrev two_ (W : List Wn) (E : List Eu) : List (List Su) := [W.map Sum.inl, E.map Sum.inr]
theorem law_true (ns : List Int) (hns : ns.length ≤ 63) : m_law ns = .ok true := by
  refine Is.eq ?_
  unfold m_law
  have p0 : PI_ (0, 0, 0, cut ns none (some 63)) := ⟨Int.le_refl _, Int.le_refl _⟩
  obtain ⟨f4, ef4, hf4, pf4⟩ := take_ok (n := 4) p0 (by decide) (by decide)
  rw [poolR_eq, Res.bind_ok]
  refine Is.bind (Q := fun b => (0 < b.1 ∧ b.1 ≤ 47) ∧ PI_ b.2) ?_ fun far ⟨⟨far0, far1⟩, pfar⟩ => ?_
  · simp only [binM_eq, liftM_eq, consR_ok, Res.bind_ok, callM_ok, ef4]
    have c : f4.1 = 0 ∨ f4.1 = 1 ∨ f4.1 = 2 ∨ f4.1 = 3 := by omega
    rcases c with c | c | c | c <;> rw [c]
    · exact ⟨⟨by dsimp only; omega, by dsimp only; omega⟩, pf4⟩
    · exact ⟨⟨by dsimp only; omega, by dsimp only; omega⟩, pf4⟩
    · exact ⟨⟨by dsimp only; omega, by dsimp only; omega⟩, pf4⟩
    · exact ⟨⟨by dsimp only; omega, by dsimp only; omega⟩, pf4⟩
  obtain ⟨mn, emn, hmn, pmn⟩ := (count_is pfar).get
  dsimp only
  rw [unM_eq, emn, Res.bind_ok, rng1_ok (by omega), Res.bind_ok, Res.bind_ok]
  dsimp only
  refine Is.bind (mapM_is (J := PI_) (B := fun w => okW w = true) pmn fun x y hx hy => ?_) fun W ⟨lW, hW, pW⟩ => ?_
  · rw [callM_ok]
    exact warning_is hy far0 far1
  obtain ⟨me, eme, hme, pme⟩ := (count_is pW).get
  rw [unM_eq, eme, Res.bind_ok, rng1_ok (by omega), Res.bind_ok, Res.bind_ok]
  dsimp only
  refine Is.bind (mapM_is (J := PI_) (B := fun w => okS w = true) pme fun x y hx hy => ?_) fun E ⟨lE, hE, pE⟩ => ?_
  · rw [callM_ok]
    exact (span_is hy far0 far1).imp fun b hb => ⟨hb.1.1, hb.2⟩
  rw [rangeL_length] at lW lE
  obtain ⟨ld, eld, pld⟩ := (near_is (n := 24) pE (by decide) (by decide)).get
  obtain ⟨sk, esk, psk⟩ := (near_is (n := 24) pld (by decide) (by decide)).get
  obtain ⟨tr, etr, htr, ptr⟩ := take_ok (n := 3) psk (by decide) (by decide)
  rw [callM_ok, eld, Res.bind_ok, callM_ok, esk, Res.bind_ok, un_ok, idR_eq, un_ok, un_ok, idR_eq, un_ok, consR_ok, consR_ok, Res.bind_ok, unM_eq, callM_ok, etr, Res.bind_ok, rng1_ok (by omega), Res.bind_ok, Res.bind_ok]
  dsimp only
  refine Is.bind (loopN_inv' (fun z : List (List Su) × Pl => (∃ W' E', z.1 = two_ W' E' ∧ W'.length ≤ 14 ∧ E'.length ≤ 14) ∧ PI_ z.2) ⟨⟨W.1, E.1, rfl, by omega, by omega⟩, ptr⟩ fun x z hx ⟨⟨W', E', ez, hw, he⟩, pz⟩ => ?_) fun z ⟨⟨W', E', ez, hw, he⟩, pz⟩ => ?_
  · obtain ⟨z1, z2⟩ := z
    dsimp only at ez pz ⊢
    subst ez
    obtain ⟨sd, esd, hsd, psd⟩ := take_ok (n := 2) pz (by decide) (by decide)
    rw [callM_ok, esd, Res.bind_ok]
    have c : sd.1 = 0 ∨ sd.1 = 1 := by omega
    rcases c with c | c
    · have e1 : ix (two_ W' E') sd.1 = .ok (W'.map Sum.inl) := by rw [c]; rfl
      have e2 : plR (two_ W' E') sd.1 = .ok (W'.map Sum.inl, fun z => (two_ W' E').set 0 z) := by rw [c]; exact plR_at (i := 0) rfl
      rw [bin_ok, e1, un_ok, rLen_eq, bin_ok, rGt_eq, ifR_ok, List.length_map]
      refine Is.if_ (fun hc => ?_) fun _ => ⟨⟨W', E', rfl, hw, he⟩, psd⟩
      have hc := of_decide_eq_true hc
      obtain ⟨k, ek, hk, pk⟩ := take_ok (n := (W'.length : Int)) psd hc (by omega)
      obtain ⟨w, _, ewg⟩ := ix_get (xs := W') hk.1 hk.2
      have ew : ix (W'.map (Sum.inl (β := Eu))) k.1 = .ok (.inl w) := by
        obtain ⟨y, ey, hy⟩ := ix_get (xs := W'.map (Sum.inl (β := Eu))) hk.1 (by rw [List.length_map]; exact hk.2)
        rw [List.getElem?_map, ewg] at hy
        rw [ey]
        cases hy
        rfl
      obtain ⟨nw, enw, pnw⟩ := (spwarn_is (w := w) pk).get
      rw [callM_ok, ek, Res.bind_ok]
      simp only [Res.bind_ok, e2, eqR_eq, bin_ok, ifR_ok]
      rw [if_pos (decide_eq_true c)]
      simp only [unM_eq, ew, un_ok, getL_eq, callM_ok, enw, Res.bind_ok, inlR_eq]
      rw [setR_nat hk.1 (by rw [List.length_map]; exact hk.2)]
      refine ⟨⟨W'.set k.1.toNat nw.1, E', ?_, by rw [List.length_set]; exact hw, he⟩, pnw⟩
      show [_, _] = [List.map Sum.inl _, List.map Sum.inr _]
      rw [List.map_set]
    · have e1 : ix (two_ W' E') sd.1 = .ok (E'.map Sum.inr) := by rw [c]; rfl
      have e2 : plR (two_ W' E') sd.1 = .ok (E'.map Sum.inr, fun z => (two_ W' E').set 1 z) := by rw [c]; exact plR_at (i := 1) rfl
      rw [bin_ok, e1, un_ok, rLen_eq, bin_ok, rGt_eq, ifR_ok, List.length_map]
      refine Is.if_ (fun hc => ?_) fun _ => ⟨⟨W', E', rfl, hw, he⟩, psd⟩
      have hc := of_decide_eq_true hc
      obtain ⟨k, ek, hk, pk⟩ := take_ok (n := (E'.length : Int)) psd hc (by omega)
      obtain ⟨w, _, ewg⟩ := ix_get (xs := E') hk.1 hk.2
      have ew : ix (E'.map (Sum.inr (α := Wn))) k.1 = .ok (.inr w) := by
        obtain ⟨y, ey, hy⟩ := ix_get (xs := E'.map (Sum.inr (α := Wn))) hk.1 (by rw [List.length_map]; exact hk.2)
        rw [List.getElem?_map, ewg] at hy
        rw [ey]
        cases hy
        rfl
      obtain ⟨nw, enw, pnw⟩ := (spspan_is (s := w) pk).get
      rw [callM_ok, ek, Res.bind_ok]
      simp only [Res.bind_ok, e2, eqR_eq, bin_ok, ifR_ok]
      rw [if_neg (by rw [decide_eq_true_eq]; omega)]
      simp only [unM_eq, ew, un_ok, getR_eq, callM_ok, enw, Res.bind_ok, inrR_eq]
      rw [setR_nat hk.1 (by rw [List.length_map]; exact hk.2)]
      refine ⟨⟨W', E'.set k.1.toNat nw.1, ?_, hw, by rw [List.length_set]; exact he⟩, pnw⟩
      show [_, _] = [List.map Sum.inl _, List.map Sum.inr _]
      rw [List.map_set]
  obtain ⟨z1, z2⟩ := z
  dsimp only at ez pz ⊢
  subst ez
  have i0 : bin ix (Res.ok (two_ W' E')) (Res.ok (0 : Int)) = .ok (W'.map Sum.inl) := rfl
  have i1 : bin ix (Res.ok (two_ W' E')) (Res.ok (1 : Int)) = .ok (E'.map Sum.inr) := rfl
  rw [i0, i1, un_ok, un_ok, lefts_map, rights_map, pair_ok, un_ok, due_eq (W := W') (E := E') (by omega) (by omega), Res.bind_ok, un_ok, un_ok, idR_eq, idR_eq, consR_ok, consR_ok, Res.bind_ok, un_ok, rng1_ok (by decide), Res.bind_ok]
  rw [loopR_any (p := fun _ => false) (r := false) fun x hx => ?_]
  rotate_left
  · have hx := mem_rangeL.mp hx
    simp only [pair_ok, un_ok, refused_eq hx.1 hx.2, bin_ok, neR_eq, orR_ok, ifR_ok]
    rw [if_neg (by simp)]
    rfl
  rw [Res.bind_ok, if_neg (by simp)]
  dsimp only
  have p0 : (Res.ok (two_ W' E', fun y => y) : Res (List (List Su) × (List (List Su) → List (List Su)))).bind (fun p => (Res.ok (0 : Int)).bind fun i => (plR p.1 i).bind fun q => Res.ok (q.1, fun y => p.2 (q.2 y))) = .ok (W'.map Sum.inl, fun y => (two_ W' E').set 0 y) := by
    rw [Res.bind_ok, Res.bind_ok]
    dsimp only
    rw [show plR (two_ W' E') 0 = .ok (W'.map Sum.inl, fun z => (two_ W' E').set 0 z) from plR_at (i := 0) rfl]
    rfl
  have p1 : (Res.ok (two_ W' E', fun y => y) : Res (List (List Su) × (List (List Su) → List (List Su)))).bind (fun p => (Res.ok (1 : Int)).bind fun i => (plR p.1 i).bind fun q => Res.ok (q.1, fun y => p.2 (q.2 y))) = .ok (E'.map Sum.inr, fun y => (two_ W' E').set 1 y) := by
    rw [Res.bind_ok, Res.bind_ok]
    dsimp only
    rw [show plR (two_ W' E') 1 = .ok (E'.map Sum.inr, fun z => (two_ W' E').set 1 z) from plR_at (i := 1) rfl]
    rfl
  rw [p0, p1, un_ok, un_ok, Res.bind_ok]
  rw [loopR_any (p := fun _ => false) (r := false) fun x hx => ?_]
  rotate_left
  · obtain ⟨w, _, rfl⟩ := List.mem_map.mp hx
    rw [Res.bind_ok, loopR_any (p := fun _ => false) (r := false) fun y hy => ?_]
    · simp
    · obtain ⟨e, _, rfl⟩ := List.mem_map.mp hy
      simp only [un_ok, getL_eq, getR_eq, pair_ok, counts_eq, fits_eq, Res.bind_ok, notR_eq, bin_ok, neR_eq, orR_ok, ifR_ok]
      rw [if_neg (by simp)]
      rfl
  rw [Res.bind_ok, if_neg (by simp)]
  dsimp only
  have tW : (W.1.take 12).length ≤ 12 := by rw [List.length_take]; omega
  have tE : (E.1.take 12).length ≤ 12 := by rw [List.length_take]; omega
  have cW : chk1 okW (W.1.take 12) = .ok () := chk1_ok tW fun x hx => hW x (List.mem_of_mem_take hx)
  have cE : chk1 okS (E.1.take 12) = .ok () := chk1_ok tE fun x hx => hE x (List.mem_of_mem_take hx)
  rw [someR_ok, slR_ok, slR_ok, cut_lo (by decide), cut_lo (by decide), show (12 : Int).toNat = 12 from rfl, Res.bind_ok, Res.bind_ok, un_ok, rLen_eq, un_ok, rLen_eq, pair_ok, Res.bind_ok, Res.bind_ok]
  refine Is.bind (loopR_inv (J := PI_) pz fun x q hx hq => ?_) fun o ⟨q, eo, pq⟩ => ?_
  · obtain ⟨pr, epr, lpr, ppr⟩ := (some_pairs_is (W := W.1.take 12) (E := E.1.take 12) (l := ld.1) (k := sk.1) hq tW tE).get
    obtain ⟨ls, els, lls, pls⟩ := (some_lists_is (W := W.1.take 12) (E := E.1.take 12) (l := ld.1) (k := sk.1) ppr tW tE).get
    simp only [pairM_eq, liftM_ok, Res.bind_ok, callM_eq, epr, els, pair_ok, un_ok]
    refine Is.bind (Q := fun z : Pl × List (Int × Int) × (List Int × List Int) => z.2.1.length ≤ 1000 ∧ PI_ z.1) ?_ fun z ⟨lz, pz2⟩ => ?_
    · rw [bin_ok, rGt_eq, ifR_ok]
      refine Is.if_ (fun _ => ?_) fun _ => ⟨by dsimp only; omega, pls⟩
      obtain ⟨sp, esp, lsp, psp⟩ := (sp_pairs_is (P := pr.1) (m := ((W.1.take 12).length : Int)) (n := ((E.1.take 12).length : Int)) pls lpr (by omega) (by omega) (by omega) (by omega)).get
      obtain ⟨sl, esl, psl⟩ := (sp_lists_is (c := ls.1) (s := (((W.1.take 12).length : Int), ((E.1.take 12).length : Int))) psp lls.1 lls.2 ⟨by dsimp only; omega, by dsimp only; omega⟩ ⟨by dsimp only; omega, by dsimp only; omega⟩).get
      simp only [esp, Res.bind_ok, esl]
      exact ⟨by dsimp only; omega, psl⟩
    · rw [pairs_ok cW cE lz, un_ok, notR_eq, ifR_ok, if_neg (by decide), lists_ok cW cE, un_ok, notR_eq, ifR_ok, if_neg (by decide)]
      exact ⟨_, rfl, pz2⟩
  · subst eo
    dsimp only
    simp only [pair_ok, un_ok, rng1_ok (n := ((W.1.take 12).length : Int)) (by omega), rng1_ok (n := ((E.1.take 12).length : Int)) (by omega), consR_ok, Res.bind_ok]
    rw [loopR_any (p := fun _ => false) (r := false) fun x hx => by rw [lists_ok cW cE, un_ok, notR_eq, ifR_ok]; rfl]
    rw [Res.bind_ok, if_neg (by simp)]
    dsimp only
    rw [pairs_ok cW cE (by decide)]
    exact rfl

end K62
set_option maxHeartbeats 0
namespace K62
open PySem PySem.Spec PyProof.Rows L2 Sd
def dd0 : He.DefD := ⟨("is_span", none), "is_span", "is_span", defArgs s_is_span, defBody s_is_span, defScope s_is_span, [], []⟩
def dd1 : He.DefD := ⟨("check_warnings", none), "check_warnings", "check_warnings", defArgs s_check_warnings, defBody s_check_warnings, defScope s_check_warnings, [], []⟩
def dd2 : He.DefD := ⟨("check_events", none), "check_events", "check_events", defArgs s_check_events, defBody s_check_events, defScope s_check_events, [], []⟩
def dd3 : He.DefD := ⟨("counts_for", none), "counts_for", "counts_for", defArgs s_counts_for, defBody s_counts_for, defScope s_counts_for, [], []⟩
def dd4 : He.DefD := ⟨("checked_links", none), "checked_links", "checked_links", defArgs s_checked_links, defBody s_checked_links, defScope s_checked_links, [], []⟩
def dd5 : He.DefD := ⟨("finds_event", none), "finds_event", "finds_event", defArgs s_finds_event, defBody s_finds_event, defScope s_finds_event, [], []⟩
def dd6 : He.DefD := ⟨("takers_of", none), "takers_of", "takers_of", defArgs s_takers_of, defBody s_takers_of, defScope s_takers_of, [], []⟩
def dd7 : He.DefD := ⟨("pairs_count", none), "pairs_count", "pairs_count", defArgs s_pairs_count, defBody s_pairs_count, defScope s_pairs_count, [], []⟩
def dd8 : He.DefD := ⟨("pairing", none), "pairing", "pairing", defArgs s_pairing, defBody s_pairing, defScope s_pairing, [], []⟩
def dd9 : He.DefD := ⟨("cover", none), "cover", "cover", defArgs s_cover, defBody s_cover, defScope s_cover, [], []⟩
def dd10 : He.DefD := ⟨("are_indexes", none), "are_indexes", "are_indexes", defArgs s_are_indexes, defBody s_are_indexes, defScope s_are_indexes, [], []⟩
def dd11 : He.DefD := ⟨("is_pairing", none), "is_pairing", "is_pairing", defArgs s_is_pairing, defBody s_is_pairing, defScope s_is_pairing, [], []⟩
def dd12 : He.DefD := ⟨("is_cover", none), "is_cover", "is_cover", defArgs s_is_cover, defBody s_is_cover, defScope s_is_cover, [], []⟩
def dd13 : He.DefD := ⟨("certain", none), "certain", "certain", defArgs s_certain, defBody s_certain, defScope s_certain, [], []⟩
def dd14 : He.DefD := ⟨("idle", none), "idle", "idle", defArgs s_idle, defBody s_idle, defScope s_idle, [], []⟩
def dd15 : He.DefD := ⟨("tally", none), "tally", "tally", defArgs s_tally, defBody s_tally, defScope s_tally, [], []⟩
def dd16 : He.DefD := ⟨("_law_mix", none), "_law_mix", "_law_mix", defArgs s__law_mix, defBody s__law_mix, defScope s__law_mix, [], []⟩
def dd17 : He.DefD := ⟨("_law_pool", none), "_law_pool", "_law_pool", defArgs s__law_pool, defBody s__law_pool, defScope s__law_pool, [], []⟩
def dd18 : He.DefD := ⟨("_law_fill", none), "_law_fill", "_law_fill", defArgs s__law_fill, defBody s__law_fill, defScope s__law_fill, [], []⟩
def dd19 : He.DefD := ⟨("_law_take", none), "_law_take", "_law_take", defArgs s__law_take, defBody s__law_take, defScope s__law_take, [], []⟩
def dd20 : He.DefD := ⟨("_law_from", none), "_law_from", "_law_from", defArgs s__law_from, defBody s__law_from, defScope s__law_from, [], []⟩
def dd21 : He.DefD := ⟨("_law_is_int", none), "_law_is_int", "_law_is_int", defArgs s__law_is_int, defBody s__law_is_int, defScope s__law_is_int, [], []⟩
def dd22 : He.DefD := ⟨("_law_near", none), "_law_near", "_law_near", defArgs s__law_near, defBody s__law_near, defScope s__law_near, [], []⟩
def dd23 : He.DefD := ⟨("_law_span", none), "_law_span", "_law_span", defArgs s__law_span, defBody s__law_span, defScope s__law_span, [], []⟩
def dd24 : He.DefD := ⟨("_law_warning", none), "_law_warning", "_law_warning", defArgs s__law_warning, defBody s__law_warning, defScope s__law_warning, [], []⟩
def dd25 : He.DefD := ⟨("_law_fits", none), "_law_fits", "_law_fits", defArgs s__law_fits, defBody s__law_fits, defScope s__law_fits, [], []⟩
def dd26 : He.DefD := ⟨("_law_is_pairing", none), "_law_is_pairing", "_law_is_pairing", defArgs s__law_is_pairing, defBody s__law_is_pairing, defScope s__law_is_pairing, [], []⟩
def dd27 : He.DefD := ⟨("_law_ascends", none), "_law_ascends", "_law_ascends", defArgs s__law_ascends, defBody s__law_ascends, defScope s__law_ascends, [], []⟩
def dd28 : He.DefD := ⟨("_law_is_cover", none), "_law_is_cover", "_law_is_cover", defArgs s__law_is_cover, defBody s__law_is_cover, defScope s__law_is_cover, [], []⟩
def dd29 : He.DefD := ⟨("_law_spoilt_span", none), "_law_spoilt_span", "_law_spoilt_span", defArgs s__law_spoilt_span, defBody s__law_spoilt_span, defScope s__law_spoilt_span, [], []⟩
def dd30 : He.DefD := ⟨("_law_spoilt_warning", none), "_law_spoilt_warning", "_law_spoilt_warning", defArgs s__law_spoilt_warning, defBody s__law_spoilt_warning, defScope s__law_spoilt_warning, [], []⟩
def dd31 : He.DefD := ⟨("_law_is_span", none), "_law_is_span", "_law_is_span", defArgs s__law_is_span, defBody s__law_is_span, defScope s__law_is_span, [], []⟩
def dd32 : He.DefD := ⟨("_law_due_refusal", none), "_law_due_refusal", "_law_due_refusal", defArgs s__law_due_refusal, defBody s__law_due_refusal, defScope s__law_due_refusal, [], []⟩
def dd33 : He.DefD := ⟨("_law_call", none), "_law_call", "_law_call", defArgs s__law_call, defBody s__law_call, defScope s__law_call, [], []⟩
def dd34 : He.DefD := ⟨("_law_refused", none), "_law_refused", "_law_refused", defArgs s__law_refused, defBody s__law_refused, defScope s__law_refused, [], []⟩
def dd35 : He.DefD := ⟨("_law_some_pairs", none), "_law_some_pairs", "_law_some_pairs", defArgs s__law_some_pairs, defBody s__law_some_pairs, defScope s__law_some_pairs, [], []⟩
def dd36 : He.DefD := ⟨("_law_spoilt_pairs", none), "_law_spoilt_pairs", "_law_spoilt_pairs", defArgs s__law_spoilt_pairs, defBody s__law_spoilt_pairs, defScope s__law_spoilt_pairs, [], []⟩
def dd37 : He.DefD := ⟨("_law_some_lists", none), "_law_some_lists", "_law_some_lists", defArgs s__law_some_lists, defBody s__law_some_lists, defScope s__law_some_lists, [], []⟩
def dd38 : He.DefD := ⟨("_law_spoilt_lists", none), "_law_spoilt_lists", "_law_spoilt_lists", defArgs s__law_spoilt_lists, defBody s__law_spoilt_lists, defScope s__law_spoilt_lists, [], []⟩
def dd39 : He.DefD := ⟨("_law_pairs_judged", none), "_law_pairs_judged", "_law_pairs_judged", defArgs s__law_pairs_judged, defBody s__law_pairs_judged, defScope s__law_pairs_judged, [], []⟩
def dd40 : He.DefD := ⟨("_law_lists_judged", none), "_law_lists_judged", "_law_lists_judged", defArgs s__law_lists_judged, defBody s__law_lists_judged, defScope s__law_lists_judged, [], []⟩
def dd41 : He.DefD := ⟨("_law_count", none), "_law_count", "_law_count", defArgs s__law_count, defBody s__law_count, defScope s__law_count, [], []⟩
def dd42 : He.DefD := ⟨("law", none), "law", "law", defArgs s_law, defBody s_law, defScope s_law, [], []⟩
def dd43 : He.DefD := ⟨("DeskError", some "__init__"), "__init__", "DeskError.__init__", defArgs s_err, defBody s_err, defScope s_err, [.int 0], []⟩
def dfs : List He.DefD := [dd0, dd1, dd2, dd3, dd4, dd5, dd6, dd7, dd8, dd9, dd10, dd11, dd12, dd13, dd14, dd15, dd16, dd17, dd18, dd19, dd20, dd21, dd22, dd23, dd24, dd25, dd26, dd27, dd28, dd29, dd30, dd31, dd32, dd33, dd34, dd35, dd36, dd37, dd38, dd39, dd40, dd41, dd42, dd43]
def fas : List He.Fa := [.glo "is_span", .glo "check_warnings", .glo "check_events", .glo "counts_for", .glo "checked_links", .glo "finds_event", .glo "takers_of", .glo "pairs_count", .glo "pairing", .glo "cover", .glo "are_indexes", .glo "is_pairing", .glo "is_cover", .glo "certain", .glo "idle", .glo "tally", .glo "_law_mix", .glo "_law_pool", .glo "_law_fill", .glo "_law_take", .glo "_law_from", .glo "_law_is_int", .glo "_law_near", .glo "_law_span", .glo "_law_warning", .glo "_law_fits", .glo "_law_is_pairing", .glo "_law_ascends", .glo "_law_is_cover", .glo "_law_spoilt_span", .glo "_law_spoilt_warning", .glo "_law_is_span", .glo "_law_due_refusal", .glo "_law_call", .glo "_law_refused", .glo "_law_some_pairs", .glo "_law_spoilt_pairs", .glo "_law_some_lists", .glo "_law_spoilt_lists", .glo "_law_pairs_judged", .glo "_law_lists_judged", .glo "_law_count", .glo "law", .free "ValueError", .free "bool", .free "enumerate", .free "int", .free "isinstance", .free "len", .free "list", .free "max", .free "min", .free "range", .free "sorted", .int "LAST_END" (48), .int "LAST_TOLD" (48), .int "MOST" (12)]
def exB (K : PySem.W.Frag) : Bool := errsB [.DeskError, .TooMany, .BadPair] K
abbrev R : PySem.W.OpenRow := PySem.W.OpenLaw.row PySem.Challenge.rw_stormdesk_k62_judging_pairs_and_covers
abbrev hk : PySem.W.Hook := He.hookX 6 fas dfs [] [] exB
def ob (s : PySem.W.SharedT) : He.AlX := He.obsX 6 fas dfs [] [] exB (HandSHeadRun.getT s)
theorem ob_eq (s : PySem.W.SharedT) : ob s = hk.obs s.abs := He.obsX_eq (HandSHeadRun.getT_eq s)
def lo0 : List PySem.Str := ["DeskError", "TooMany", "BadPair", "LAST_END", "is_span", "MOST", "LAST_TOLD", "check_warnings", "check_events", "counts_for", "checked_links", "finds_event", "takers_of", "pairs_count", "pairing", "cover", "are_indexes", "is_pairing", "is_cover", "certain", "idle", "tally", "_law_mix", "_law_pool", "_law_fill", "_law_take", "_law_from", "_law_is_int", "_law_near", "_law_span"]
def lo1 : List PySem.Str := ["_law_warning", "_law_fits", "_law_is_pairing", "_law_ascends", "_law_is_cover", "_law_spoilt_span", "_law_spoilt_warning", "_law_is_span", "_law_due_refusal", "_law_call", "_law_refused", "_law_some_pairs", "_law_spoilt_pairs", "_law_some_lists", "_law_spoilt_lists", "_law_pairs_judged", "_law_lists_judged", "_law_count"]
abbrev lo : List PySem.Str := lo0 ++ lo1
theorem hd_run (w : World) : HandSHeadRun.RunEq R (PySem.W.view R.prog [53]) hk ob 6000 lo w := by
  intro os
  kernel_rfl
theorem mk {K : PySem.W.Frag} {w : World} {h : Heap} {mg : Str → Option Value} (X : K.In h) (G : h.Ns mainGlobals mg) (c : He.SaysX fas dfs [] [] exB w h K) : ∃ T : Tx K mg, T.f_law = He.ga K "law" := by
  obtain ⟨d0, F0⟩ := c.t.d.def_ 0 (d := dd0) rfl
  obtain ⟨d1, F1⟩ := c.t.d.def_ 1 (d := dd1) rfl
  obtain ⟨d2, F2⟩ := c.t.d.def_ 2 (d := dd2) rfl
  obtain ⟨d3, F3⟩ := c.t.d.def_ 3 (d := dd3) rfl
  obtain ⟨d4, F4⟩ := c.t.d.def_ 4 (d := dd4) rfl
  obtain ⟨d5, F5⟩ := c.t.d.def_ 5 (d := dd5) rfl
  obtain ⟨d6, F6⟩ := c.t.d.def_ 6 (d := dd6) rfl
  obtain ⟨d7, F7⟩ := c.t.d.def_ 7 (d := dd7) rfl
  obtain ⟨d8, F8⟩ := c.t.d.def_ 8 (d := dd8) rfl
  obtain ⟨d9, F9⟩ := c.t.d.def_ 9 (d := dd9) rfl
  obtain ⟨d10, F10⟩ := c.t.d.def_ 10 (d := dd10) rfl
  obtain ⟨d11, F11⟩ := c.t.d.def_ 11 (d := dd11) rfl
  obtain ⟨d12, F12⟩ := c.t.d.def_ 12 (d := dd12) rfl
  obtain ⟨d13, F13⟩ := c.t.d.def_ 13 (d := dd13) rfl
  obtain ⟨d14, F14⟩ := c.t.d.def_ 14 (d := dd14) rfl
  obtain ⟨d15, F15⟩ := c.t.d.def_ 15 (d := dd15) rfl
  obtain ⟨d16, F16⟩ := c.t.d.def_ 16 (d := dd16) rfl
  obtain ⟨d17, F17⟩ := c.t.d.def_ 17 (d := dd17) rfl
  obtain ⟨d18, F18⟩ := c.t.d.def_ 18 (d := dd18) rfl
  obtain ⟨d19, F19⟩ := c.t.d.def_ 19 (d := dd19) rfl
  obtain ⟨d20, F20⟩ := c.t.d.def_ 20 (d := dd20) rfl
  obtain ⟨d21, F21⟩ := c.t.d.def_ 21 (d := dd21) rfl
  obtain ⟨d22, F22⟩ := c.t.d.def_ 22 (d := dd22) rfl
  obtain ⟨d23, F23⟩ := c.t.d.def_ 23 (d := dd23) rfl
  obtain ⟨d24, F24⟩ := c.t.d.def_ 24 (d := dd24) rfl
  obtain ⟨d25, F25⟩ := c.t.d.def_ 25 (d := dd25) rfl
  obtain ⟨d26, F26⟩ := c.t.d.def_ 26 (d := dd26) rfl
  obtain ⟨d27, F27⟩ := c.t.d.def_ 27 (d := dd27) rfl
  obtain ⟨d28, F28⟩ := c.t.d.def_ 28 (d := dd28) rfl
  obtain ⟨d29, F29⟩ := c.t.d.def_ 29 (d := dd29) rfl
  obtain ⟨d30, F30⟩ := c.t.d.def_ 30 (d := dd30) rfl
  obtain ⟨d31, F31⟩ := c.t.d.def_ 31 (d := dd31) rfl
  obtain ⟨d32, F32⟩ := c.t.d.def_ 32 (d := dd32) rfl
  obtain ⟨d33, F33⟩ := c.t.d.def_ 33 (d := dd33) rfl
  obtain ⟨d34, F34⟩ := c.t.d.def_ 34 (d := dd34) rfl
  obtain ⟨d35, F35⟩ := c.t.d.def_ 35 (d := dd35) rfl
  obtain ⟨d36, F36⟩ := c.t.d.def_ 36 (d := dd36) rfl
  obtain ⟨d37, F37⟩ := c.t.d.def_ 37 (d := dd37) rfl
  obtain ⟨d38, F38⟩ := c.t.d.def_ 38 (d := dd38) rfl
  obtain ⟨d39, F39⟩ := c.t.d.def_ 39 (d := dd39) rfl
  obtain ⟨d40, F40⟩ := c.t.d.def_ 40 (d := dd40) rfl
  obtain ⟨d41, F41⟩ := c.t.d.def_ 41 (d := dd41) rfl
  obtain ⟨d42, F42⟩ := c.t.d.def_ 42 (d := dd42) rfl
  have x0 : (errsB [.DeskError, .TooMany, .BadPair] K) = true := c.more
  obtain ⟨d43, F43⟩ := c.t.d.def_ 43 (d := dd43) rfl
  obtain ⟨e1, e2, e3⟩ := errsB_ok X G (show errsB [.DeskError, .TooMany, .BadPair] K = true from x0)
  exact ⟨{ f_is_span := He.ga K "is_span", d_is_span := d0, F_is_span := F0, g_is_span := He.glo_ok X G (c.t.d.fact 0 (f := .glo "is_span") rfl), f_check_warnings := He.ga K "check_warnings", d_check_warnings := d1, F_check_warnings := F1, g_check_warnings := He.glo_ok X G (c.t.d.fact 1 (f := .glo "check_warnings") rfl), f_check_events := He.ga K "check_events", d_check_events := d2, F_check_events := F2, g_check_events := He.glo_ok X G (c.t.d.fact 2 (f := .glo "check_events") rfl), f_counts_for := He.ga K "counts_for", d_counts_for := d3, F_counts_for := F3, g_counts_for := He.glo_ok X G (c.t.d.fact 3 (f := .glo "counts_for") rfl), f_checked_links := He.ga K "checked_links", d_checked_links := d4, F_checked_links := F4, g_checked_links := He.glo_ok X G (c.t.d.fact 4 (f := .glo "checked_links") rfl), f_finds_event := He.ga K "finds_event", d_finds_event := d5, F_finds_event := F5, g_finds_event := He.glo_ok X G (c.t.d.fact 5 (f := .glo "finds_event") rfl), f_takers_of := He.ga K "takers_of", d_takers_of := d6, F_takers_of := F6, g_takers_of := He.glo_ok X G (c.t.d.fact 6 (f := .glo "takers_of") rfl), f_pairs_count := He.ga K "pairs_count", d_pairs_count := d7, F_pairs_count := F7, g_pairs_count := He.glo_ok X G (c.t.d.fact 7 (f := .glo "pairs_count") rfl), f_pairing := He.ga K "pairing", d_pairing := d8, F_pairing := F8, g_pairing := He.glo_ok X G (c.t.d.fact 8 (f := .glo "pairing") rfl), f_cover := He.ga K "cover", d_cover := d9, F_cover := F9, g_cover := He.glo_ok X G (c.t.d.fact 9 (f := .glo "cover") rfl), f_are_indexes := He.ga K "are_indexes", d_are_indexes := d10, F_are_indexes := F10, g_are_indexes := He.glo_ok X G (c.t.d.fact 10 (f := .glo "are_indexes") rfl), f_is_pairing := He.ga K "is_pairing", d_is_pairing := d11, F_is_pairing := F11, g_is_pairing := He.glo_ok X G (c.t.d.fact 11 (f := .glo "is_pairing") rfl), f_is_cover := He.ga K "is_cover", d_is_cover := d12, F_is_cover := F12, g_is_cover := He.glo_ok X G (c.t.d.fact 12 (f := .glo "is_cover") rfl), f_certain := He.ga K "certain", d_certain := d13, F_certain := F13, g_certain := He.glo_ok X G (c.t.d.fact 13 (f := .glo "certain") rfl), f_idle := He.ga K "idle", d_idle := d14, F_idle := F14, g_idle := He.glo_ok X G (c.t.d.fact 14 (f := .glo "idle") rfl), f_tally := He.ga K "tally", d_tally := d15, F_tally := F15, g_tally := He.glo_ok X G (c.t.d.fact 15 (f := .glo "tally") rfl), f__law_mix := He.ga K "_law_mix", d__law_mix := d16, F__law_mix := F16, g__law_mix := He.glo_ok X G (c.t.d.fact 16 (f := .glo "_law_mix") rfl), f__law_pool := He.ga K "_law_pool", d__law_pool := d17, F__law_pool := F17, g__law_pool := He.glo_ok X G (c.t.d.fact 17 (f := .glo "_law_pool") rfl), f__law_fill := He.ga K "_law_fill", d__law_fill := d18, F__law_fill := F18, g__law_fill := He.glo_ok X G (c.t.d.fact 18 (f := .glo "_law_fill") rfl), f__law_take := He.ga K "_law_take", d__law_take := d19, F__law_take := F19, g__law_take := He.glo_ok X G (c.t.d.fact 19 (f := .glo "_law_take") rfl), f__law_from := He.ga K "_law_from", d__law_from := d20, F__law_from := F20, g__law_from := He.glo_ok X G (c.t.d.fact 20 (f := .glo "_law_from") rfl), f__law_is_int := He.ga K "_law_is_int", d__law_is_int := d21, F__law_is_int := F21, g__law_is_int := He.glo_ok X G (c.t.d.fact 21 (f := .glo "_law_is_int") rfl), f__law_near := He.ga K "_law_near", d__law_near := d22, F__law_near := F22, g__law_near := He.glo_ok X G (c.t.d.fact 22 (f := .glo "_law_near") rfl), f__law_span := He.ga K "_law_span", d__law_span := d23, F__law_span := F23, g__law_span := He.glo_ok X G (c.t.d.fact 23 (f := .glo "_law_span") rfl), f__law_warning := He.ga K "_law_warning", d__law_warning := d24, F__law_warning := F24, g__law_warning := He.glo_ok X G (c.t.d.fact 24 (f := .glo "_law_warning") rfl), f__law_fits := He.ga K "_law_fits", d__law_fits := d25, F__law_fits := F25, g__law_fits := He.glo_ok X G (c.t.d.fact 25 (f := .glo "_law_fits") rfl), f__law_is_pairing := He.ga K "_law_is_pairing", d__law_is_pairing := d26, F__law_is_pairing := F26, g__law_is_pairing := He.glo_ok X G (c.t.d.fact 26 (f := .glo "_law_is_pairing") rfl), f__law_ascends := He.ga K "_law_ascends", d__law_ascends := d27, F__law_ascends := F27, g__law_ascends := He.glo_ok X G (c.t.d.fact 27 (f := .glo "_law_ascends") rfl), f__law_is_cover := He.ga K "_law_is_cover", d__law_is_cover := d28, F__law_is_cover := F28, g__law_is_cover := He.glo_ok X G (c.t.d.fact 28 (f := .glo "_law_is_cover") rfl), f__law_spoilt_span := He.ga K "_law_spoilt_span", d__law_spoilt_span := d29, F__law_spoilt_span := F29, g__law_spoilt_span := He.glo_ok X G (c.t.d.fact 29 (f := .glo "_law_spoilt_span") rfl), f__law_spoilt_warning := He.ga K "_law_spoilt_warning", d__law_spoilt_warning := d30, F__law_spoilt_warning := F30, g__law_spoilt_warning := He.glo_ok X G (c.t.d.fact 30 (f := .glo "_law_spoilt_warning") rfl), f__law_is_span := He.ga K "_law_is_span", d__law_is_span := d31, F__law_is_span := F31, g__law_is_span := He.glo_ok X G (c.t.d.fact 31 (f := .glo "_law_is_span") rfl), f__law_due_refusal := He.ga K "_law_due_refusal", d__law_due_refusal := d32, F__law_due_refusal := F32, g__law_due_refusal := He.glo_ok X G (c.t.d.fact 32 (f := .glo "_law_due_refusal") rfl), f__law_call := He.ga K "_law_call", d__law_call := d33, F__law_call := F33, g__law_call := He.glo_ok X G (c.t.d.fact 33 (f := .glo "_law_call") rfl), f__law_refused := He.ga K "_law_refused", d__law_refused := d34, F__law_refused := F34, g__law_refused := He.glo_ok X G (c.t.d.fact 34 (f := .glo "_law_refused") rfl), f__law_some_pairs := He.ga K "_law_some_pairs", d__law_some_pairs := d35, F__law_some_pairs := F35, g__law_some_pairs := He.glo_ok X G (c.t.d.fact 35 (f := .glo "_law_some_pairs") rfl), f__law_spoilt_pairs := He.ga K "_law_spoilt_pairs", d__law_spoilt_pairs := d36, F__law_spoilt_pairs := F36, g__law_spoilt_pairs := He.glo_ok X G (c.t.d.fact 36 (f := .glo "_law_spoilt_pairs") rfl), f__law_some_lists := He.ga K "_law_some_lists", d__law_some_lists := d37, F__law_some_lists := F37, g__law_some_lists := He.glo_ok X G (c.t.d.fact 37 (f := .glo "_law_some_lists") rfl), f__law_spoilt_lists := He.ga K "_law_spoilt_lists", d__law_spoilt_lists := d38, F__law_spoilt_lists := F38, g__law_spoilt_lists := He.glo_ok X G (c.t.d.fact 38 (f := .glo "_law_spoilt_lists") rfl), f__law_pairs_judged := He.ga K "_law_pairs_judged", d__law_pairs_judged := d39, F__law_pairs_judged := F39, g__law_pairs_judged := He.glo_ok X G (c.t.d.fact 39 (f := .glo "_law_pairs_judged") rfl), f__law_lists_judged := He.ga K "_law_lists_judged", d__law_lists_judged := d40, F__law_lists_judged := F40, g__law_lists_judged := He.glo_ok X G (c.t.d.fact 40 (f := .glo "_law_lists_judged") rfl), f__law_count := He.ga K "_law_count", d__law_count := d41, F__law_count := F41, g__law_count := He.glo_ok X G (c.t.d.fact 41 (f := .glo "_law_count") rfl), f_law := He.ga K "law", d_law := d42, F_law := F42, g_law := He.glo_ok X G (c.t.d.fact 42 (f := .glo "law") rfl), gb_ValueError := He.free_ok X G (c.t.d.fact 43 (f := .free "ValueError") rfl), gb_bool := He.free_ok X G (c.t.d.fact 44 (f := .free "bool") rfl), gb_enumerate := He.free_ok X G (c.t.d.fact 45 (f := .free "enumerate") rfl), gb_int := He.free_ok X G (c.t.d.fact 46 (f := .free "int") rfl), gb_isinstance := He.free_ok X G (c.t.d.fact 47 (f := .free "isinstance") rfl), gb_len := He.free_ok X G (c.t.d.fact 48 (f := .free "len") rfl), gb_list := He.free_ok X G (c.t.d.fact 49 (f := .free "list") rfl), gb_max := He.free_ok X G (c.t.d.fact 50 (f := .free "max") rfl), gb_min := He.free_ok X G (c.t.d.fact 51 (f := .free "min") rfl), gb_range := He.free_ok X G (c.t.d.fact 52 (f := .free "range") rfl), gb_sorted := He.free_ok X G (c.t.d.fact 53 (f := .free "sorted") rfl), gi_LAST_END := He.int_ok X G (c.t.d.fact 54 (f := .int "LAST_END" (48)) rfl), gi_LAST_TOLD := He.int_ok X G (c.t.d.fact 55 (f := .int "LAST_TOLD" (48)) rfl), gi_MOST := He.int_ok X G (c.t.d.fact 56 (f := .int "MOST" (12)) rfl), f_err := He.fAd K ("DeskError", some "__init__"), d_err := d43, F_err := F43, xs := fun c h => e1 c (of_decide_eq_true h), ki := fun c b h h2 => e2 c b (of_decide_eq_true h) (of_decide_eq_true h2), ex := fun c b h h2 => e3 c b (of_decide_eq_true h) (of_decide_eq_true h2) }, rfl⟩
end K62
open PySem PySem.W PySem.Calls PyProof.Rows
theorem PySem.Challenge.cw_stormdesk_k62_judging_pairs_and_covers_holds : PySem.Challenge.rw_stormdesk_k62_judging_pairs_and_covers.Holds := by
  w_on; o_law
  refine HandSHeadRun.head_any (r := OpenLaw.row PySem.Challenge.rw_stormdesk_k62_judging_pairs_and_covers) (q := view (OpenLaw.row PySem.Challenge.rw_stormdesk_k62_judging_pairs_and_covers).prog [53]) (H := K62.hk) (ob := K62.ob) (M := 6000) (loose := K62.lo) (d := HandSHeadRun.topDef (OpenLaw.row PySem.Challenge.rw_stormdesk_k62_judging_pairs_and_covers).prog 53) (kwd := []) K62.ob_eq
    (by kernel_rfl) (fun s => by kernel_rfl) K62.hd_run (by kernel_rfl) (by kernel_rfl) (by kernel_rfl) (by rfl) (by first | assumption | decide +kernel) (by decide +kernel) ⟨rfl, rfl, rfl, rfl, rfl, by decide +kernel⟩ ?hw ?hc
  case hw => w_witness2
  case hc =>
    refine L2.walk_ofE (l := PySem.Challenge.rw_stormdesk_k62_judging_pairs_and_covers) (n := 63) (k := 27) (x := "script") (CX := L2.CX0) rfl (by decide) (by kernel_rfl) ⟨rfl, by decide, by decide⟩ ?F (fun _ _ _ _ z => z)
    intro w mg fa h Y G hmg0
    obtain ⟨K, KX, c⟩ := Y
    have hmg : mg ("law" : PySem.Str) = some (.ref fa) := by
      have e : (HandSHeadRun.topDef (OpenLaw.row PySem.Challenge.rw_stormdesk_k62_judging_pairs_and_covers).prog 53).name = ("law" : PySem.Str) := by kernel_rfl
      rw [← e]
      exact hmg0
    obtain ⟨T, hT⟩ := K62.mk KX G c
    have e := hmg.symm.trans T.g_law
    have e2 : fa = T.f_law := by
      have e3 := Option.some.inj e
      injection e3
    subst e2
    have b := L2.FunD.bindsA (ps := ["script"]) T.F_law fun _ _ _ _ _ _ us hl => match us, hl with | [_], _ => rfl
    exact ⟨K, T.d_law, Sd.spLaw K K62.m_law, KX, fun s v => b s [v] rfl, fun H a ns hl _ hS => ⟨a, ns, rfl, hS, Nat.le_trans hl (by decide), by rw [K62.law_true ns hl]; exact fun v H' hv => hv⟩, fun base _ _ => K62.ok_law T⟩

